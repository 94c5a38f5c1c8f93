import PyProof.Rows.All
import Wide.All
import OpenK.AllK
import Wide.FinOn
import HandS.ForMost
import HandS.Nested
import HandS.Defaults
import HandS.ClsMeth
import KE.KSuper
import HandS.Property
import HandS.IsInst
import HandS.MakeKwOnly
import HandS.OwnEq
import HandS.More
import HandS.Star
import KE.GoesMore
import KE.KDictZip
import HandS.Walk
import PyProof.RulesMatch
import PyProof.StrOps2
import PyProof.ReprRoads
import HandS.Words
import HandS.Slots
import HandS.HeadHook1
import HandS.HeadHook2
import HandS.StrMore
import HandS.TupAny
import HandS.Strs
import HandS.WideBits
import HandS.NoneIn
import HandS.Head0
import HandS.Head1
import HandS.Head2
import HandS.HeadEnd
import Lean
import KE.KStateDown
import PySem.Challenge.RW_labelframes_k70_whole_no_write_is_seen_e
set_option Elab.async false
set_option linter.all false
set_option maxRecDepth 100000
set_option maxHeartbeats 4000000
/-! Rules of our own: methods that close over __class__, super().m(..). -/
namespace LF
open PySem PySem.Spec PyProof.Rows L2

/-! ### a method that closes over __class__ -/
/-- the function object's words: NF's environment, with defaults -/
abbrev fdS (F : NdefX.NF) (kV doc pm ctv : Value) (an : Option Addr) : FuncData := PySem.W.fnX F.name F.qual F.params F.body F.scope F.cl .none kV doc pm an (.ref F.c) ctv
/-- the method F of the text, as it stands behind the top: its one cell is that of __class__, and holds the class at D -/
structure FunS (P : Program) (K : PySem.W.Frag) (F : NdefX.NF) (kws : List (Str × V)) (D f : Addr) (fd : FuncData) : Prop where
  ex : ∃ (oc : Value) (od : Option Addr) (kV doc pm ctv : Value) (an : Option Addr) (osl : Array (Option Value)),
    fd = fdS F kV doc pm ctv an ∧ K.lookup f = some ⟨oc, od, .func fd, osl⟩ ∧ PySem.W.codeIn K (.ref F.c) F.qual = true ∧ KwdV K kV kws
  cell : ∃ (cc : Addr) (cl : Value) (cld : Option Addr) (csl : Array (Option Value)), F.cl = [(("__class__" : Str), cc)] ∧ K.lookup cc = some ⟨cl, cld, .cell (some (.ref D)), csl⟩
  code : ∃ (ccl : Value) (cdd : Option Addr) (vs : Array Value) (ccs : Array (Option Value)) (file : Str) (tf : Tok), K.lookup F.c = some ⟨ccl, cdd, .fields vs, ccs⟩ ∧ vs[2]? = some (.str file tf) ∧ ((P.main.file : Str) == file) = true
  kp : PySem.W.keepIn K (.ref f) = true

/-- a statement, a block that may hold super(): the running code is known -/
structure PSa (X : Cx) (body : List Stmt) (st : Stmt) (t : TS) : Prop where
  run : ∀ (pins : List (Addr × Obj)) (s : Shared) (σ : L2.St) (H : Hp) (D : Ends), Inv X pins σ H s → t D σ H → _root_.PySem.wpAt (model X.prog X.w) X.A (.func body X.env) (exec st X.env) (SP X pins D) X.xe s
structure PSsa (X : Cx) (body : List Stmt) (st : List Stmt) (t : TS) : Prop where
  run : ∀ (pins : List (Addr × Obj)) (s : Shared) (σ : L2.St) (H : Hp) (D : Ends), Inv X pins σ H s → t D σ H → _root_.PySem.wpAt (model X.prog X.w) X.A (.func body X.env) (execs st X.env) (SP X pins D) X.xe s
structure PEa (X : Cx) (body : List Stmt) (e : Expr) (t : TE) : Prop where
  run : ∀ (pins : List (Addr × Obj)) (s : Shared) (σ : L2.St) (H : Hp) (Q : VK), Inv X pins σ H s → t σ H Q → _root_.PySem.wpAt (model X.prog X.w) X.A (.func body X.env) (eval e X.env) (EP X pins σ Q) X.xe s
section
variable {X : Cx} {body : List Stmt}
theorem psa_of {st : Stmt} {t : TS} (h : PS X st t) : PSa X body st t := ⟨fun pins s σ H D I hw => wpAt_of_wpAny (h.run pins s σ H D I hw)⟩
theorem pssa_of {st : List Stmt} {t : TS} (h : PSs X st t) : PSsa X body st t := ⟨fun pins s σ H D I hw => wpAt_of_wpAny (h.run pins s σ H D I hw)⟩
theorem pssa_cons {st : Stmt} {rest : List Stmt} {t u : TS} (h : PSa X body st t) (hr : PSsa X body rest u) : PSsa X body (st :: rest) (tSeq t u) := by
  refine ⟨fun pins s σ H D I hw => ?_⟩
  refine PySem.ks_wpAt_execs_cons (PySem.ks_wpAt_mono (h.run pins s σ H _ I hw) (fun f s1 q => ?_) fun _ _ z => z)
  cases f with
  | next =>
    obtain ⟨σ1, H1, I1, q1⟩ := q
    exact hr.run pins s1 σ1 H1 D I1 q1
  | brk => exact q
  | cont => exact q
  | ret v => exact q
end

/-! ### the body of such a method -/
theorem PSsa.nox {X : Cx} {body st : List Stmt} {t : TS} (h : PSsa X.nox body st t) : PSsa X body st t := ⟨fun pins s σ H D I hw =>
  PySem.ks_wpAt_mono (h.run pins s σ H D (I.wish _) hw) (fun _ _ q => q.unwish) fun _ _ z => False.elim z⟩
section
open NdefX
variable {P : Program} {w : World} {K : PySem.W.Frag} {mg : Str → Option Value} {base : Heap} {N ps : List Str} {F : NF} {kws : List (Str × V)} {D f : Addr} {fd : FuncData} {k : Nat} {sp : Sp}
/-- the names: the parameters, then __class__, then the locals -/
theorem FunS.ok (S0 : FunS P K F kws D f fd) (S : NScope N ps ["__class__"] F.scope) (len : ∀ vs H Q E, sp vs H Q E → vs.length = ps.length)
    (hbody : ∀ (A : Around) (outer : List Env) (s : Shared) (H : Hp) (vs : List V) (Q : VK) (E : XK), Room k (A.deeper (envF F f s.heap.objs.size)) → sp vs H Q E →
      ∃ t, PSsa (ncx CX0 P w K mg base N F f A outer s H E).nox F.body F.body t ∧ t { nx := fun _ H' => Q .non H', rt := Q } (startF N vs [some (.ref D)]) H) : FnOk P w K mg base CX0 (k + 1) f fd ps sp := by
  obtain ⟨oc, od, kV, doc, pm, ctv, an, osl, rfl, lk, hcd, _⟩ := S0.ex
  obtain ⟨cc, cl, cld, csl, hcl, hcc⟩ := S0.cell
  refine ⟨len, fun A outer s H args us vs Q E hr e0 hb r hsp => ?_⟩
  have hl := len _ _ _ _ hsp
  have KX : K.In s.heap := e0.mod.kin.keeps fun b o e => (e0.bs b o e).1
  have lim : s.heap.NoLimit := e0.mod.nolimit.keeps fun b o e => (e0.bs b o e).1
  have ccell : s.heap.IsCell cc (some (.ref D)) := ⟨_, KX _ _ hcc, rfl⟩
  have cnone : H cc = none := (e0.bs cc _ (e0.mod.kin _ _ hcc)).2
  have lk1 : ∀ y c, F.cl.lookup y = some c → y = "__class__" ∧ c = cc := fun y c e => by
    rw [hcl] at e
    have e2 : (match y == ("__class__" : Str) with | true => some cc | false => none) = some c := e
    cases q : (y == ("__class__" : Str)) with
    | true =>
      rw [q] at e2
      exact ⟨beq_iff_eq.mp q, (Option.some.inj e2).symm⟩
    | false =>
      rw [q] at e2
      cases e2
  have lk2 : F.cl.lookup ("__class__" : Str) = some cc := by rw [hcl]; rfl
  have C : CellsAt F.cl ["__class__"] [some (.ref D)] s.heap H := by
    refine ⟨rfl, fun y c e => ?_, fun x y c e1 e2 => (lk1 x c e1).1.trans (lk1 y c e2).1.symm, fun i y hi => ?_⟩
    · obtain ⟨_, rfl⟩ := lk1 y c e
      exact ⟨cnone, _, ccell⟩
    · cases i with
      | zero =>
        have e : ("__class__" : Str) = y := Option.some.inj hi
        subst e
        refine ⟨cc, lk2, fun v hv => ?_⟩
        have e : V.ref D = v := Option.some.inj (Option.some.inj hv)
        subst e
        exact ⟨.ref D, rfl, ccell⟩
      | succ i => cases hi
  refine PySem.ks_codeAny_call_defAt hr.depth (KX _ _ lk) rfl lim (PySem.W.codeRec_of KX hcd) rfl hb S.nocell (fun y hy => S.par y.1 (List.of_mem_zip hy).1) (fun h₁ hns kp => ?_) S.co S.gen S.kind
  obtain ⟨t, ht, hq⟩ := hbody A outer s H vs Q E (hr.deeper _) hsp
  have I : Inv (ncx CX0 P w K mg base N F f A outer s H E) [] (startF N vs [some (.ref D)]) H { s with heap := h₁, toks := s.toks + (ps.zip us).length } := inv_startN S hr.hd e0 hl r C hns kp
  refine PySem.ks_wpAt_mono (ht.nox.run [] _ (startF N vs [some (.ref D)]) H _ I hq) (fun fl s' hs => ?_) fun e s' hs => hs
  have fin : ∀ {σ' : L2.St} {H' : Hp} {v : V} {u : Value}, Inv (ncx CX0 P w K mg base N F f A outer s H E) [] σ' H' s' → L2.RelV v u → Q v H' → CE outer P w H s Q u s' :=
    fun {σ' H' v u} J rv q => ⟨v, H', J.os, J.bare, J.base, J.hok, rv, q⟩
  cases fl with
  | ret u =>
    obtain ⟨v, σ', H', J, rv, q⟩ := hs
    exact fin J rv q
  | next =>
    obtain ⟨σ', H', J, q⟩ := hs
    exact fin (v := V.non) (u := Value.none) J rfl q
  | brk =>
    obtain ⟨_, _, _, q⟩ := hs
    exact False.elim q
  | cont =>
    obtain ⟨_, _, _, q⟩ := hs
    exact False.elim q
end
end LF
set_option Elab.async false
set_option linter.all false
set_option maxRecDepth 100000
set_option maxHeartbeats 4000000
/-! super().m(..) as a rule. -/
namespace LF
open PySem PySem.Spec PyProof.Rows L2 NdefX

/-- what stands behind C's class D in its order has m at g -/
structure SupF (K : PySem.W.Frag) (C D : Addr) (m : Str) (g : Addr) : Prop where
  along : PySem.W.ks_superIn K C D m = some (some (.ref g))
  fn : PySem.W.typeIn K (.ref g) = some (.type "function")
  fi : PySem.W.fnIn K g = true
  sub : PySem.W.mroIn K C (.ref D) = some true
  cls : (PySem.W.clsIn K D).isSome = true

/-- what the text gives for every super() -/
structure SupX (X : Cx) (F : NF) (L : Addr) (f : Addr) (x0 : Str) : Prop where
  env : X.env = envF F f L
  kind : F.scope.kind = .function
  first : ∃ ar : Arg, (F.params.posonlyargs ++ F.params.args).head? = some ar ∧ ar.arg = x0
  k0 : F.scope.names.lookup x0 = some .local
  ks : F.scope.names.lookup ("super" : Str) = some .globalImplicit
  kc : F.scope.names.lookup ("__class__" : Str) = some .free
  mg : X.mg "super" = none
  st : PySem.W.nsIn X.K PySem.cStatics "thirdparty.any" = some none
  top : (X.prog.main.scope.names.lookup ("super" : Str)).isSome = false

/-- super().m(e, ..) -/
def tSuper (C : Addr) (sp : Sp) (dvs : List V) (E : XK) (t : TA) : TE := fun σ H Q => ∃ a dx fs, σ[0]? = some (some (.ref a)) ∧ H a = some (.ins C dx fs) ∧ t σ H fun vs H2 => sp (.ref a :: (vs ++ dvs)) H2 Q E
/-- super().m(e, .., k = v, ..) -/
def tSuperK (C : Addr) (n m : Nat) (sp : Sp) (gV : List V → List V → List V) (E : XK) (t tk : TA) : TE := fun σ H Q => ∃ a dx fs, σ[0]? = some (some (.ref a)) ∧ H a = some (.ins C dx fs) ∧
  t σ H fun vs H2 => tk σ H2 fun zs H3 => vs.length = n ∧ zs.length = m ∧ sp (gV (.ref a :: vs) zs) H3 Q E

section
variable {X : Cx} {F : NF} {L f : Addr} {x0 : Str} {body : List Stmt} {kws0 : List (Str × V)} {C D g : Addr} {m : Str} {fd : FuncData} {p0 p1 apos pos : Pos}

/-- up to the bound method: it is pinned -/
theorem super_to {pins : List (Addr × Obj)} {σ : L2.St} {H : Hp} {s : Shared} {a dx : Addr} {fs : List (Str × V)} {pl : Sem Bool} {Q : Value × List Value → Shared → Prop} {whole : Sem Value} (SX : SupX X F L f x0) (S0 : FunS X.prog X.K F kws0 D f fd) (G : SupF X.K C D m g) (hN : X.N[0]? = some x0)
    (hm : (m == ("__class__" : Str)) = false) (I : Inv X pins σ H s) (e0 : σ[0]? = some (some (.ref a))) (ea : H a = some (.ins C dx fs))
    (h : ∀ q s', Inv X ((q, PySem.W.methodObj (.ref g) (.ref a)) :: pins) σ H s' → Q (.ref q, []) s') :
    _root_.PySem.wpAt (model X.prog X.w) X.A (.func body X.env) (attributeBase (.Call (.Name "super" p0) [] [] p1) m X.env whole) (fun ov s₁ => wpAny (model X.prog X.w) X.A (getMethod ov m pl) Q X.xe s₁) X.xe s := by
  obtain ⟨oc, od, kV, doc, pm, ctv, an, osl, hfd, lk, hcd, _⟩ := S0.ex
  obtain ⟨cc, cl, cld, csl, hcl, hcc⟩ := S0.cell
  obtain ⟨ccl, cdd, vs, ccs, file, tf, hcode, hvs, hfile⟩ := S0.code
  obtain ⟨ar, har, hx0⟩ := SX.first
  subst hfd
  have KX := I.kIn
  obtain ⟨cdD, hD⟩ := Option.isSome_iff_exists.mp G.cls
  obtain ⟨oD, hD1, hD2⟩ : ∃ oD, s.heap.get? D = some oD ∧ oD.data = .cls cdD := by
    unfold PySem.W.clsIn at hD
    split at hD
    · rename_i c d cd' sl ho
      cases hD
      exact ⟨_, KX _ _ ho, rfl⟩
    · cases hD
  have envk : X.env.scope.kind = .function := I.ok.kind
  have kindE : ∀ y, X.env.kindOf y = F.scope.names.lookup y := fun y => by rw [SX.env]; rfl
  obtain ⟨mA, O, _, _, _, _⟩ := ins_get I.hok ea
  obtain ⟨odx, J, _⟩ := O.look
  refine PySem.ks_wpAt_super_base (env := X.env) (f := f) (cc := F.c) (ar := ar) (fd := fdS F kV doc pm ctv an) (vs := vs) (file := file) (tf := tf) ((kindE _).trans SX.ks) ((kindE _).trans SX.kc) hm (by rw [SX.env]) (KX _ _ lk) rfl har (by rw [SX.env]) (KX _ _ hcode) rfl hvs hfile SX.top ?_
  obtain ⟨mb, hb1, hb2⟩ := I.mod.blt
  refine PySem.W.ks_loadName_global envk ((kindE _).trans SX.ks) (Calls.loadGlobal_builtin (by rw [I.ok.glob]; exact I.mod.glob.keeps I.bk) SX.mg (by rw [I.ok.blt]; exact hb1.keeps I.bk) ((hb2 "super" (by decide +kernel)).trans (by decide +kernel)) ⟨rfl, ?_⟩)
  refine wpAny_loadName_free (c := cc) (v := .ref D) envk ((kindE _).trans SX.kc) (by rw [SX.env]; show F.cl.lookup ("__class__" : Str) = some cc; rw [hcl]; rfl) ⟨_, KX _ _ hcc, rfl⟩ ?_
  obtain ⟨mL, hn, hl⟩ := I.loc
  obtain ⟨u, ru, look⟩ := hl 0 x0 (.ref a) hN e0 (.inl (by rw [SX.env]; exact SX.k0))
  obtain rfl : u = Value.ref a := ru
  have hma : mL ar.arg = some (.ref a) := by
    rw [hx0]
    rcases look with ⟨_, e⟩ | ⟨q, _⟩
    · exact e
    · rw [kindE, SX.k0] at q
      rcases q with q | q <;> cases q
  refine wpAny_loadName_local envk ((kindE _).trans (by rw [hx0]; exact SX.k0)) hn hma ?_
  refine PySem.ks_wpAny_isType_cls hD1 hD2 ⟨rfl, ?_⟩
  refine PySem.ks_wpAny_call_super (C := C) hD1 hD2 J.at_ J.cls (fun c e => ?_) (PySem.W.looks_mroIn KX G.sub) (fun h' eo k => ?_)
  · have := J.no
    unfold PySem.W.notCls at this
    rw [e] at this
    exact Bool.noConfusion this
  have I1 := ClX.pin_new (t' := s.toks) I k (Nat.le_refl _) eo (fun v z => nomatch z)
  have KX1 : X.K.In h' := I1.kIn
  obtain ⟨cd, hc⟩ : ∃ cd, PySem.W.clsIn X.K C = some cd := by
    cases hc : PySem.W.clsIn X.K C with
    | none =>
      have z := G.along
      unfold PySem.W.ks_superIn at z
      rw [hc] at z
      cases z
    | some cd => exact ⟨cd, rfl⟩
  have hal := G.along
  unfold PySem.W.ks_superIn at hal
  rw [hc] at hal
  obtain ⟨of, hof, hofc⟩ : ∃ of, h'.get? g = some of ∧ of.cls = .type "function" := by
    have ht' : (X.K.lookup g).map (·.cls) = some (.type "function") := G.fn
    cases z : X.K.lookup g with
    | none => rw [z] at ht'; cases ht'
    | some of => rw [z] at ht'; exact ⟨of, KX1 _ _ z, Option.some.inj ht'⟩
  refine PySem.ks_wpAny_getMethod_super eo (PySem.W.looks_opaque KX1 SX.st) (l₀ := cd.mro) ?_ rfl KX1 hal hof hofc (PySem.W.ks_ne KX J hc) hm ?_
  · exact fun A Q E s k q => wpAny_bind ((PySem.W.looks_clsIn KX1 hc) A _ E s k (wpAny_pure q))
  · have I2 := ClX.pin_new (o := PySem.W.methodObj (.ref g) (.ref a)) (h' := h'.push (PySem.W.methodObj (.ref g) (.ref a))) (t' := s.toks + 1) (ClX.unpin I1) (fun b o e => Heap.get?_push_of_some _ e) (Nat.le_refl _) (Heap.get?_push_size _ rfl) (fun v z => nomatch z)
    exact h _ _ I2

variable {CX : CXT} {k n : Nat} {fdg : FuncData} {ps ks : List Str} {sp : Sp} {dvs : List V} {ds : List Value} {E : XK} {e : Expr} {es : List Expr} {kws : List Keyword} {t tk : TA} {gf : List Value → List Value → List Value} {gV : List V → List V → List V}
theorem pea_super {pl : Sem Bool} (SX : SupX X F L f x0) (S0 : FunS X.prog X.K F kws0 D f fd) (G : SupF X.K C D m g) (hN : X.N[0]? = some x0) (FG : FnOk X.prog X.w X.K X.mg X.base CX k g fdg ps sp) (hr : Room k X.A) (hb : Binds X.K fdg ps ds) (hd : Vals dvs ds) (hx : Passes CX X E) (ha : PA X (e :: es) t)
    (hm : (m == ("__class__" : Str)) = false := by decide) (hst : starEach (e :: es) X.env = (false, eval e X.env) :: starEach es X.env := by rfl) (hpl : (backTo pos (starEach es X.env)).any (·.1) = false := by rfl)
    (ht : eval (.Call (.Attribute (.Call (.Name "super" p0) [] [] p1) m apos) (e :: es) [] pos) X.env = (do
      let ov ← attributeBase (.Call (.Name "super" p0) [] [] p1) m X.env (eval (.Call (.Name "super" p0) [] [] p1) X.env)
      standAt apos.atName
      let (f, first) ← holding [ov] (getMethod ov m pl)
      callWith pos f first (backTo pos (starEach (e :: es) X.env)) []) := by rfl) :
    PEa X body (.Call (.Attribute (.Call (.Name "super" p0) [] [] p1) m apos) (e :: es) [] pos) (tSuper C sp dvs E t) := by
  refine ⟨fun pins s σ H Q I h => ?_⟩
  obtain ⟨a, dx, fs, e0, ea, q⟩ := h
  refine PySem.ks_wpAt_MethodCall (pl := pl) (super_to SX S0 G hN hm I e0 ea fun qa s1 I1 => ?_) ht
  have hmeth : ∀ {s' : Shared} {σ' : L2.St} {H' : Hp}, Inv X ((qa, PySem.W.methodObj (.ref g) (.ref a)) :: pins) σ' H' s' → PySem.W.MethP X.K qa g (.ref a) s'.heap := fun J => ⟨ClX.pin_at J, J.kIn⟩
  show wpAny _ _ (callWith pos (.ref qa) [] (backTo pos (starEach (e :: es) X.env)) []) _ _ _
  rw [hst]
  have hpl2 : (((backTo pos ((false, eval e X.env) :: starEach es X.env)).any (·.1)) || (([] : List (Option Str × Sem Value)).any (·.1.isNone))) = false := by
    show ((false || (backTo pos (starEach es X.env)).any (·.1)) || false) = false
    rw [hpl]
    rfl
  refine PySem.W.callWith_of hpl2 (PySem.W.keeps_M (q := qa) (self := .ref a) G.fi) (PySem.Calls.evalArgs_plain ?_)
  have hrun := ha.run pos ((qa, PySem.W.methodObj (.ref g) (.ref a)) :: pins) s1 σ H _ I1 q
  rw [hst] at hrun
  refine thn hrun fun us s2 ⟨vs, H2, I2, r, q2⟩ => ⟨hmeth I2, ?_⟩
  have z : wpAny (model X.prog X.w) X.A (call (.ref qa) us) (EP X ((qa, PySem.W.methodObj (.ref g) (.ref a)) :: pins) σ Q) X.xe s2 := by
    have r2 : Vals ((V.ref a :: vs) ++ dvs) ((Value.ref a :: us) ++ ds) := (Vals.append (.cons rfl r) hd)
    have hl : ((Value.ref a :: us) ++ ds).length = ps.length := by rw [← r2.length]; exact FG.len _ _ _ _ q2
    refine wpAny_call (PySem.W.method_call (ClX.pin_at I2) (codeAny_mono (FG.run X.A X.stack s2 H2 ⟨Value.ref a :: us, []⟩ ((Value.ref a :: us) ++ ds) ((V.ref a :: vs) ++ dvs) Q E hr I2.env0 (hb s2 (.ref a :: us) I2.kIn hl) r2 q2) fun r s' hq => ?_))
    cases r with
    | error er => exact hx _ σ H2 s2 er s' I2 hq
    | ok fl =>
      cases fl with
      | ret u => exact I2.after hq
      | next => exact False.elim hq
      | brk => exact False.elim hq
      | cont => exact False.elim hq
  exact thn z fun _ _ y => ClX.unpinE y

theorem pea_superK {pl : Sem Bool} (SX : SupX X F L f x0) (S0 : FunS X.prog X.K F kws0 D f fd) (G : SupF X.K C D m g) (hN : X.N[0]? = some x0) (FG : FnOk X.prog X.w X.K X.mg X.base CX k g fdg ps sp) (hr : Room k X.A) (hb : KBn X.K fdg ps (n + 1) ks gf gV) (hx : Passes CX X E) (ha : PA X (e :: es) t) (hkw : PK X kws tk)
    (hm : (m == ("__class__" : Str)) = false := by decide) (hall : (backToKw pos (keywordEach kws X.env)).all (·.1.isSome) = true := by rfl) (hks : (backToKw pos (keywordEach kws X.env)).filterMap (·.1) = ks := by rfl)
    (hst : starEach (e :: es) X.env = (false, eval e X.env) :: starEach es X.env := by rfl) (hpl : ((backTo pos (starEach (e :: es) X.env)).any (·.1) || (backToKw pos (keywordEach kws X.env)).any (·.1.isNone)) = false := by rfl)
    (ht : eval (.Call (.Attribute (.Call (.Name "super" p0) [] [] p1) m apos) (e :: es) kws pos) X.env = (do
      let ov ← attributeBase (.Call (.Name "super" p0) [] [] p1) m X.env (eval (.Call (.Name "super" p0) [] [] p1) X.env)
      standAt apos.atName
      let (f, first) ← holding [ov] (getMethod ov m pl)
      callWith pos f first (backTo pos (starEach (e :: es) X.env)) (backToKw pos (keywordEach kws X.env))) := by rfl) :
    PEa X body (.Call (.Attribute (.Call (.Name "super" p0) [] [] p1) m apos) (e :: es) kws pos) (tSuperK C n ks.length sp gV E t tk) := by
  refine ⟨fun pins s σ H Q I h => ?_⟩
  obtain ⟨a, dx, fs, e0, ea, q⟩ := h
  rw [ht]
  refine PySem.wpAt_bind (PySem.ks_wpAt_mono (super_to (pl := pl) (Q := fun fx s₂ => wpAny (model X.prog X.w) X.A (callWith pos fx.1 fx.2 (backTo pos (starEach (e :: es) X.env)) (backToKw pos (keywordEach kws X.env))) (EP X pins σ Q) X.xe s₂) SX S0 G hN hm I e0 ea fun qa s1 I1 => ?_)
    (fun ov s₁ h₁ => wpAt_of_wpAny (wpAny_bind (wpAny_standAt (wpAny_bind (wpAny_holding (wpAny_mono h₁ (fun fx s₂ h₂ => h₂) fun _ _ x => x)))))) fun _ _ x => x)
  have hmeth : ∀ {s' : Shared} {σ' : L2.St} {H' : Hp}, Inv X ((qa, PySem.W.methodObj (.ref g) (.ref a)) :: pins) σ' H' s' → PySem.W.MethP X.K qa g (.ref a) s'.heap := fun J => ⟨ClX.pin_at J, J.kIn⟩
  show wpAny _ _ (callWith pos (.ref qa) [] (backTo pos (starEach (e :: es) X.env)) (backToKw pos (keywordEach kws X.env))) _ _ _
  refine PySem.W.callWith_of hpl (PySem.W.keeps_M (q := qa) (self := .ref a) G.fi) (PyProof.Rows.evalArgs_kw2 hall ?_ hst)
  refine thn (ha.run pos ((qa, PySem.W.methodObj (.ref g) (.ref a)) :: pins) s1 σ H _ I1 q) fun us s2 ⟨vs, H2, I2, r, q2⟩ => ?_
  refine thn (hkw.run pos _ s2 σ H2 _ I2 q2) fun ws s3 ⟨zs, H3, I3, rz, l1, l2, q3⟩ => ⟨hmeth I3, ?_⟩
  rw [hks]
  have z : wpAny (model X.prog X.w) X.A (call (.ref qa) us (ks.zip ws)) (EP X ((qa, PySem.W.methodObj (.ref g) (.ref a)) :: pins) σ Q) X.xe s3 := by
    have r1 : Vals (V.ref a :: vs) (Value.ref a :: us) := .cons rfl r
    have r2 := hb.rel r1 rz
    have n1 : (Value.ref a :: us).length = n + 1 := by rw [List.length_cons, ← r.length, l1]
    refine wpAny_call (PySem.W.method_call (ClX.pin_at I3) (codeAny_mono (FG.run X.A X.stack s3 H3 ⟨Value.ref a :: us, ks.zip ws⟩ (gf (Value.ref a :: us) ws) (gV (V.ref a :: vs) zs) Q E hr I3.env0 (hb.to s3 (Value.ref a :: us) ws I3.kIn n1 (rz.length.symm.trans l2)) r2 q3) fun r s' hq => ?_))
    cases r with
    | error er => exact hx _ σ H3 s3 er s' I3 hq
    | ok fl =>
      cases fl with
      | ret u => exact I3.after hq
      | next => exact False.elim hq
      | brk => exact False.elim hq
      | cont => exact False.elim hq
  exact thn z fun _ _ y => ClX.unpinE y

/-! ### statements -/
theorem psa_expr {te : TE} {e : Expr} (he : PEa X body e te) (hk : X.env.scope.kind = .function := by rfl) (hs : swapsWith e none pos.line X.env = pure false := by rfl) : PSa X body (.Expr e pos) (tDrop te) := by
  refine ⟨fun pins s σ H D I h => ?_⟩
  exact PySem.ks_wpAt_Expr_any (PySem.ks_wpAt_mono (he.run pins s σ H _ I h) (fun v s1 ⟨x, H1, I1, r1, q1⟩ => ⟨σ, H1, I1, q1⟩) fun _ _ z => z) I.quiet hs
theorem psa_ret {te : TE} {e : Expr} (he : PEa X body e te) : PSa X body (.Return (some e) pos) (tRet te) := by
  refine ⟨fun pins s σ H D I h => ?_⟩
  exact PySem.ks_wpAt_Return_some (PySem.ks_wpAt_mono (he.run pins s σ H _ I h) (fun v s1 ⟨x, H1, I1, r1, q1⟩ => ⟨x, σ, H1, I1, r1, q1⟩) fun _ _ z => z)
theorem psa_set {te : TE} {e : Expr} {i : Nat} {x : Str} {pos' : Pos} (hN : X.N.Nodup) (hi : X.N[i]? = some x) (hx : Loc X.env.scope x) (he : PEa X body e te) (hs : swapsWith e (some (.Name x pos')) pos.line X.env = pure false := by rfl) (hf : X.fn x = true ∨ X.env.scope.names.lookup x = some .local := by first | exact .inl rfl | exact .inr rfl | assumption) :
    PSa X body (.Assign [.Name x pos'] e pos) (tAsg te (gName i)) := by
  refine ⟨fun pins s σ H D I h => ?_⟩
  exact PySem.ks_wpAt_Assign_Name (PySem.ks_wpAt_mono (he.run pins s σ H _ I h) (fun v s1 ⟨y, H1, I1, r1, q1⟩ => store_ok I1 hN hi hx r1 (fun s2 I2 => ⟨_, H1, I2, q1⟩) hf) fun _ _ z => z) hs
end
end LF
set_option Elab.async false
set_option linter.all false
set_option maxRecDepth 100000
set_option maxHeartbeats 4000000
/-! Calls of methods whose class is one of several; len by an own __len__; == of instances by identity; in, remove. -/
namespace LF
open PySem PySem.Spec PyProof.Rows L2

section
variable {ι : Type} {X : Cx} {CX : CXT} {k : Nat} {C gf : ι → Addr} {fd : ι → FuncData} {ps : List Str} {sp : ι → Sp} {E : XK} {x m : Str} {p pos apos : Pos} {e o : Expr} {es : List Expr} {ta : TE} {t : TA}
/-- o.m(..), o an instance of one of the classes C i -/
def tMethP (C : ι → Addr) (m : Str) (sp : ι → Sp) (E : XK) (ta : TE) (t : TA) : TE := fun σ H Q => ta σ H fun x H1 => ∃ i a dx fs, x = .ref a ∧ H1 a = some (.ins (C i) dx fs) ∧ fs.lookup m = none ∧
  t σ H1 fun vs H2 => sp i (x :: vs) H2 Q E
theorem pe_methP {pl : Sem Bool} (he : PE X o ta) (c : ∀ i, Cls X.K (C i)) (hm : ∀ i, Meth X.K (C i) m (gf i)) (F : ∀ i, FnOk X.prog X.w X.K X.mg X.base CX k (gf i) (fd i) ps (sp i)) (hr : Room k X.A) (hb : ∀ i, Binds X.K (fd i) ps []) (hx : Passes CX X E) (ha : PA X (e :: es) t)
    (hst : starEach (e :: es) X.env = (false, eval e X.env) :: starEach es X.env := by rfl) (hpl : (backTo pos (starEach es X.env)).any (·.1) = false := by rfl)
    (ht : eval (.Call (.Attribute o m apos) (e :: es) [] pos) X.env = (do
      let ov ← eval o X.env
      standAt apos.atName
      let (f, first) ← holding [ov] (getMethod ov m pl)
      callWith pos f first (backTo pos (starEach (e :: es) X.env)) (backToKw pos (keywordEach [] X.env))) := by rfl) :
    PE X (.Call (.Attribute o m apos) (e :: es) [] pos) (tMethP C m sp E ta t) := by
  refine ⟨fun pins s σ H Q I h => ?_⟩
  refine PySem.W.methodCall_KW (pl := pl) (thn (he.run pins s σ H _ I h) fun u s1 ⟨x, H1, I1, rx, i, a, dx, fs, ex, ea, l, q⟩ => ?_) ht
  subst ex
  obtain rfl : u = Value.ref a := rx
  refine getmeth_ok I1 ea (c i) (hm i) l ?_
  refine PySem.W.callWith_K (first := [.ref a]) (h₀ := X.base) I.ok.mod.kin (hm i).kp (thn (ha.run pos pins s1 σ H1 _ I1 q) fun us s2 ⟨vs, H2, I2, r, q2⟩ => ⟨I2.kIn, ?_⟩) hst hpl
  exact run_fn (us := .ref a :: us) (vs := .ref a :: vs) (dvs := []) (F i) hr (hb i) .nil hx I2 (.cons rfl r) (by rw [List.append_nil]; exact q2)
theorem pe_methP0 {pl : Sem Bool} (he : PE X o ta) (c : ∀ i, Cls X.K (C i)) (hm : ∀ i, Meth X.K (C i) m (gf i)) (F : ∀ i, FnOk X.prog X.w X.K X.mg X.base CX k (gf i) (fd i) ps (sp i)) (hr : Room k X.A) (hb : ∀ i, Binds X.K (fd i) ps []) (hx : Passes CX X E)
    (ht : eval (.Call (.Attribute o m apos) [] [] pos) X.env = (do
      let ov ← eval o X.env
      standAt apos.atName
      let (f, first) ← holding [ov] (getMethod ov m pl)
      callWith pos f first (backTo pos (starEach [] X.env)) (backToKw pos (keywordEach [] X.env))) := by rfl) :
    PE X (.Call (.Attribute o m apos) [] [] pos) (tMethP C m sp E ta tNil) := by
  refine ⟨fun pins s σ H Q I h => ?_⟩
  refine PySem.W.methodCall_KW (pl := pl) (thn (he.run pins s σ H _ I h) fun u s1 ⟨x, H1, I1, rx, i, a, dx, fs, ex, ea, l, q⟩ => ?_) ht
  subst ex
  obtain rfl : u = Value.ref a := rx
  refine getmeth_ok I1 ea (c i) (hm i) l ?_
  exact PySem.W.callWith_K0 (first := [.ref a]) I1.kIn (hm i).kp (run_fn (us := [.ref a]) (vs := [.ref a]) (dvs := []) (F i) hr (hb i) .nil hx I1 (.cons rfl .nil) (by rw [List.append_nil]; exact q))
/-- e.f, a property of each of the classes -/
def tPropP (C : ι → Addr) (sp : ι → Sp) (E : XK) (ta : TE) : TE := fun σ H Q => ta σ H fun x H1 => ∃ i a dx fs, x = .ref a ∧ H1 a = some (.ins (C i) dx fs) ∧ sp i [.ref a] H1 Q E
theorem pe_propP {f : Str} {pp : ι → Addr} (he : PE X e ta) (c : ∀ i, Cls X.K (C i)) (hp : ∀ i, PropOf X.K (C i) f (pp i) (gf i)) (F : ∀ i, FnOk X.prog X.w X.K X.mg X.base CX k (gf i) (fd i) ps (sp i)) (hr : Room (k + 1) X.A) (hb : ∀ i, Binds X.K (fd i) ps []) (hx : Passes CX X.nox E)
    (hab : attributeBase e f X.env (eval e X.env) = eval e X.env := by rfl) : PE X (.Attribute e f pos) (tPropP C sp E ta) := by
  refine ⟨fun pins s σ H Q I h => ?_⟩
  refine attr_of hab (thn (he.run pins s σ H _ I h) fun u s1 ⟨x, H1, I1, rx, i, a, dx, fs, ex, ea, q⟩ => ?_)
  subst ex
  obtain rfl : u = Value.ref a := rx
  exact getprop_ok (dvs := []) I1 ea (c i) (hp i) (F i) hr (hb i) .nil hx q
/-- len(x), x an instance of one of the classes, by its own __len__ -/
def rLenP (C : ι → Addr) (sp : ι → Sp) (E : XK) : List V → Hp → VK → Prop := fun xs H Q => ∃ i a dx fs, xs = [.ref a] ∧ H a = some (.ins (C i) dx fs) ∧ sp i [.ref a] H (fun v H' => ∃ n : Nat, v = .int n ∧ n ≤ sizeLine ∧ Q (.int n) H') E
theorem call_lenP (hm : ∀ i, Meth X.K (C i) "__len__" (gf i)) (F : ∀ i, FnOk X.prog X.w X.K X.mg X.base CX k (gf i) (fd i) ps (sp i)) (hr : Room (k + 1) X.A) (hb : ∀ i, Binds X.K (fd i) ps []) (hx : Passes CX X E) :
    CallR X (.builtin "len") (rLenP C sp E) := by
  intro pins s σ H xs us Q I r h
  obtain ⟨i, a, dx, fs, rfl, ea, q⟩ := h
  obtain ⟨u, rfl, ru⟩ := vals1 r
  obtain rfl : u = Value.ref a := ru
  obtain ⟨mA, O, _, _, _, _⟩ := ins_get I.hok ea
  obtain ⟨od, J, _⟩ := O.look
  obtain ⟨mL, F0⟩ := I.fr
  have hs : sizeLine = 16777216 := sizeLine_eq
  refine PySem.W.len_K F0 I.mod.kin J (hm i).at_ (hm i).fn ?_
  have hl : ([Value.ref a] : List Value).length = ps.length := by rw [← (F i).len _ _ _ _ q]; rfl
  refine wpAny_call (codeAny_mono ((F i).run X.A.in1 X.stack s H ⟨[.ref a], []⟩ [.ref a] [.ref a] _ E hr.in1 I.env0.in1 (hb i s [.ref a] I.kIn hl) (.cons rfl .nil) q) fun r s' hq => ?_)
  cases r with
  | error er => exact hx pins σ H s er s' I hq
  | ok fl =>
    cases fl with
    | ret u =>
      obtain ⟨v, H', I3, rv, n, ev, hn, q3⟩ := I.after hq
      subst ev
      obtain ⟨t, rfl⟩ := rv
      show PySem.W.LenBack _ _ _
      exact ⟨⟨by omega, by omega⟩, .int n, H', I3.tok _, ⟨_, rfl⟩, q3⟩
    | next => exact False.elim hq
    | brk => exact False.elim hq
    | cont => exact False.elim hq
end

/-! ### == of two instances, neither of whose classes has an __eq__ -/
/-- a class without an __eq__ of its own -/
structure EqO (K : PySem.W.Frag) (C : Addr) : Prop where
  obj : PySem.W.mroIn K C (.type "object") = some true
  eq : PySem.W.findIn K (.ref C) "__eq__" = some (some (.builtin "object.__eq__"))
section
variable {prog : Program} {w : World} {A : Around} {E : Value → Shared → Prop} {s : Shared} {K : PySem.W.Frag} {x y C D : Addr} {ox oy : Obj} {od od' : Option Obj}
theorem tryEq_other (X : K.In s.heap) (I : PySem.W.InstAt s.heap x ox C od) (G : EqO K C) (hy : s.heap.get? y = some oy) (hxy : x ≠ y) {Q : Option Value → Shared → Prop} (hq : Q none s) :
    wpAny (model prog w) A (tryCompare (.ref x) "__eq__" (.ref y)) Q E s := by
  unfold tryCompare
  refine wpAny_bind (HN.ifBound_objEq X I G.eq ?_)
  have hnt : ox.cls ≠ .type "tuple" := by rw [I.cls]; intro e; cases e
  exact wpAny_call (codeAny_call_builtin F.cmp_object.eq.plain F.cmpEntry_eq (PySem.W.check_slot F.cmpKind_eq F.cmpSplit_eq (I.type.andThen (PySem.W.looks_mroIn X G.obj)) (F.cmpArgs_eq _ _) (objEq_entry_other hxy I.at_ hy hnt (wpAny_pure hq))))
theorem rc_other (hu : A.units < cLine) (X : K.In s.heap) (I : PySem.W.InstAt s.heap x ox C od) (J : PySem.W.InstAt s.heap y oy D od') (G : EqO K C) (G' : EqO K D) (hxy : x ≠ y) {b : Bool} (hs : PySem.W.mroIn K D (.ref C) = some b) :
    SeqAt.RcAt A s (.ref x) (.ref y) false := fun prog w E Q h => by
  have hnt : ox.cls ≠ .type "tuple" := by rw [I.cls]; intro e; cases e
  have fin : wpAny (model prog w) A (rule "compare.eq-identity" >>= fun _ => isSame (.ref x) (.ref y) >>= fun b => pure (Value.bool b)) Q E s := wpAny_bind (wpAny_rule (wpAny_bind (wpAny_isSame_ref_other hxy I.at_ J.at_ hnt (wpAny_pure h))))
  simp only [richCompare, cmpInfo_Eq, oneThing_ref]
  refine wpAny_holding (wpAny_bind (wpAny_cRoomFor hu ?_))
  refine wpAny_bind (I.type.here ?_)
  refine wpAny_bind (J.type.here ?_)
  split
  · refine wpAny_bind ((PySem.W.looks_mroIn X hs).here ?_)
    cases b with
    | true =>
      simp only [if_true, Bool.not_true, Bool.false_eq_true, if_false]
      refine wpAny_bind (tryEq_other X J G' I.at_ hxy.symm ?_)
      refine wpAny_bind (tryEq_other X I G J.at_ hxy ?_)
      exact fin
    | false =>
      simp only [Bool.false_eq_true, if_false, Bool.not_false, if_true]
      refine wpAny_bind (tryEq_other X I G J.at_ hxy ?_)
      refine wpAny_bind (tryEq_other X J G' I.at_ hxy.symm ?_)
      exact fin
  · refine wpAny_bind (wpAny_pure ?_)
    simp only [Bool.false_eq_true, if_false, Bool.not_false, if_true]
    refine wpAny_bind (tryEq_other X I G J.at_ hxy ?_)
    refine wpAny_bind (tryEq_other X J G' I.at_ hxy.symm ?_)
    exact fin
end
/-! ### in, remove -/
/-- an instance of one of these classes -/
def InsP {ι : Type} (C : ι → Addr) (H : Hp) (a : Addr) : Prop := ∃ i dx fs, H a = some (.ins (C i) dx fs)
def refIs (a : Addr) : Value → Bool
  | .ref b => b == a
  | _ => false
section
variable {ι : Type} {C : ι → Addr} {X : Cx}
theorem eqAt_ins {pins : List (Addr × Obj)} {σ : L2.St} {H : Hp} {s : Shared} {A : Around} (G : ∀ i, EqO X.K (C i)) (hs : ∀ i j, ∃ b, PySem.W.mroIn X.K (C i) (.ref (C j)) = some b) (hu : A.units < cLine) (I : Inv X pins σ H s) {a b : Addr} (ha : InsP C H a) (hb : InsP C H b) :
    SeqAt.EqAt A s (.ref a) (.ref b) (refIs b (.ref a)) := by
  by_cases e : a = b
  · subst e
    have : refIs a (.ref a) = true := by simp [refIs]
    rw [this]
    exact SeqAt.EqAt.same _
  · have : refIs b (.ref a) = false := by simp [refIs, e]
    rw [this]
    obtain ⟨i, dx, fs, ha⟩ := ha
    obtain ⟨j, dy, gs, hb⟩ := hb
    obtain ⟨_, O, _⟩ := ins_get I.hok ha
    obtain ⟨_, O', _⟩ := ins_get I.hok hb
    obtain ⟨_, J, _⟩ := O.look
    obtain ⟨_, J', _⟩ := O'.look
    obtain ⟨r, hr⟩ := hs j i
    exact SeqAt.EqAt.of_refs e (rc_other hu I.kIn J J' (G i) (G j) e hr)
theorem refs_any (b : Addr) : ∀ {as : List Addr} {us : List Value}, Vals (as.map V.ref) us → us.any (refIs b) = decide (b ∈ as)
  | [], _, .nil => by simp
  | a :: as, _, .cons r t => by
    obtain rfl := (show _ = Value.ref a from r)
    rw [List.any_cons, refs_any b t]
    simp only [refIs, List.mem_cons]
    by_cases e : a = b
    · subst e; simp
    · have e1 : (a == b) = false := beq_eq_false_iff_ne.mpr e
      have e2 : ¬ b = a := fun q => e q.symm
      rw [e1]
      simp [e2]
theorem refs_mem : ∀ {as : List Addr} {us : List Value}, Vals (as.map V.ref) us → ∀ u ∈ us, ∃ a ∈ as, u = .ref a
  | [], _, .nil, u, hu => by cases hu
  | a :: as, _, .cons r t, u, hu => by
    obtain rfl := (show _ = Value.ref a from r)
    rcases List.mem_cons.mp hu with e | hu
    · exact ⟨a, List.mem_cons_self, e⟩
    · obtain ⟨b, h1, h2⟩ := refs_mem t u hu
      exact ⟨b, List.mem_cons_of_mem _ h1, h2⟩
/-- x in xs, a list of instances -/
def rInO (K : PySem.W.Frag) (C : ι → Addr) : R2 := fun x y H Q => ∃ (a l : Addr) (as : List Addr), x = .ref a ∧ y = .ref l ∧ SqL K H l (as.map V.ref) ∧ InsP C H a ∧ (∀ b ∈ as, InsP C H b) ∧ Q (.bl (decide (a ∈ as))) H
theorem op_inO (G : ∀ i, EqO X.K (C i)) (hs : ∀ i j, ∃ b, PySem.W.mroIn X.K (C i) (.ref (C j)) = some b) (hu : X.A.units + 1 < cLine) : OpR X (compareOp .In) (rInO X.K C) := by
  intro pins s σ H x y v u Q I rx ry h
  obtain ⟨a, l, as, rfl, rfl, hq, ha, hb, q⟩ := h
  cases rx
  cases ry
  obtain ⟨its, rv, hl, _⟩ := I.list hq
  refine SeqAt.in_listAt (refIs a) hl.isList (fun z hz => ?_) ⟨.bl _, H, I, rfl, ?_⟩
  · obtain ⟨b, h1, rfl⟩ := refs_mem rv z (by simpa using hz)
    exact eqAt_ins G hs hu I (hb b h1) ha
  · rw [show its.toArray.any (refIs a) = its.any (refIs a) by simp, refs_any a rv]
    exact q

open PySem.AutoSeq1 (wpAny_loadPart') in
open PySem.MeetsSeq in
theorem remove_loopAt {A : Around} {prog : Program} {w : World} {R : Result → Shared → Prop} (l : Addr) (items : Array Value) (n : Nat) (x : Value) (e : Value → Bool) (s : Shared) (he : ∀ y, y ∈ items → SeqAt.EqAt A.in1 s y x (e y)) (j : Nat) (hj : j < items.size) (hit : e items[j] = true) (hs1 : items.size ≤ sizeLine)
    (hl : s.heap.get? l = some { cls := .type "list", dict := none, data := .seq items n, slots := #[] }) (h : R (.ok (.ret .none)) { s with heap := s.heap.update l (Obj.mapSeq fun xs => xs.eraseIdxIfInBounds j) }) (k : Nat) :
    ∀ i : Nat, j - i = k → i ≤ j → (∀ m (hm : m < items.size), i ≤ m → m < j → e items[m] = false) →
      wpAny (model prog w) A.in1 (Builtin.«list.remove.loop» ⟨[.ref l, x, rawInt i], []⟩) (GQ.FinOf prog w A R) (fun e s' => R (.error e) s') s := by
  obtain ⟨hp, g, d, tk, os⟩ := s
  induction k with
  | zero =>
    intro i hk hij hno
    have hij' : i = j := by omega
    subst hij'
    wp_walk using wpAny_loadPart' hl
    have hi : items[((i : Nat) : Int).toNat]? = some items[i] := by simp [hj]
    rw [hi]
    refine wpAny_bind (he _ (Array.getElem_mem hj) prog w _ _ ?_)
    rw [hit]
    have hz' : (items.eraseIdxIfInBounds i).size ≤ sizeLine + 1 := Nat.le_trans (size_erased items _) (Nat.le_succ_of_le hs1)
    wp_walk using (wpAny_updateSeq hl rfl (hz := hs1) (_hz' := hz')), wpAny_loadPart' hl
    simpa using h
  | succ k ih =>
    intro i hk hij hno
    have hlt : i < items.size := by omega
    wp_walk using wpAny_loadPart' hl
    have hi : items[((i : Nat) : Int).toNat]? = some items[i] := by simp [hlt]
    have hc : ((i : Int) + 1) = ((i + 1 : Nat) : Int) := by omega
    rw [hi]
    refine wpAny_bind (he _ (Array.getElem_mem hlt) prog w _ _ ?_)
    rw [hno i hlt (Nat.le_refl _) (by omega)]
    wp_walk
    rw [hc]
    exact ⟨plainId_quiet plain_remove_loop _, codeAny_builtin entry_remove_loop (by
      rw [Around.under_plainId plain_remove_loop _]
      exact ih (i + 1) (by omega) (by omega) (fun m hm h1 h2 => hno m hm (by omega) h2))⟩
/-- l.remove(x), x one of the instances in l -/
def rRemO (C : ι → Addr) : V → List V → Hp → VK → Prop := fun x xs H Q => ∃ (l : Addr) (as : List Addr) (a : Addr), x = .ref l ∧ xs = [.ref a] ∧ H l = some (.lst (as.map V.ref)) ∧ a ∈ as ∧ InsP C H a ∧ (∀ b ∈ as, InsP C H b) ∧ Q .non (upd H l (.lst ((as.erase a).map V.ref)))
theorem mt_removeO (G : ∀ i, EqO X.K (C i)) (hs : ∀ i j, ∃ b, PySem.W.mroIn X.K (C i) (.ref (C j)) = some b) (hu : X.A.units + 1 < cLine) : MtM X "list.remove" (rRemO C) := by
  intro pins s σ H x xs v us Q I rx rxs h
  obtain ⟨l, as, a, rfl, rfl, hH, hm, ha, hb, q⟩ := h
  cases rx
  obtain ⟨u, rfl, ru⟩ := rxs.one
  cases ru
  obtain ⟨z, its, n, r, hl, e⟩ := I.lstM hH
  rw [List.length_map] at hl z
  have hjn : as.idxOf a < as.length := List.idxOf_lt_length_iff.mpr hm
  have hjl : as.idxOf a < its.toArray.size := by rw [List.size_toArray]; omega
  have hat : ∀ (i : Nat) (h1 : i < as.length) (h2 : i < its.toArray.size), its.toArray[i] = Value.ref as[i] := fun i h1 h2 => by
    obtain ⟨u, hu1, hu2⟩ := r.get (i := i) (x := V.ref as[i]) (by rw [List.getElem?_map, List.getElem?_eq_getElem h1]; rfl)
    obtain rfl : u = Value.ref as[i] := hu2
    have h3 : i < its.length := by simpa using h2
    rw [List.getElem?_eq_getElem h3] at hu1
    simpa using Option.some.inj hu1
  have he : ∀ y, y ∈ its.toArray → SeqAt.EqAt X.A.in1 s y (.ref a) (refIs a y) := fun y hy => by
    obtain ⟨b, h1, rfl⟩ := refs_mem r y (by simpa using hy)
    exact eqAt_ins G hs hu I (hb b h1) ha
  have hit : refIs a its.toArray[as.idxOf a] = true := by
    rw [hat _ hjn hjl]
    simp [refIs]
  have hno : ∀ m (hm : m < its.toArray.size), m < as.idxOf a → refIs a its.toArray[m] = false := fun m hm' hlt => by
    rw [hat m (by omega) hm']
    have h1 := List.not_of_lt_findIdx (p := (· == a)) (xs := as) (i := m) hlt
    simpa [refIs] using h1
  have hfin : EP X pins σ Q .none { s with heap := s.heap.update l (Obj.mapSeq fun xs => xs.eraseIdxIfInBounds (as.idxOf a)) } := by
    have rr := r.eraseIdx (as.idxOf a)
    have e2 : (as.map V.ref).eraseIdx (as.idxOf a) = (as.erase a).map V.ref := by
      rw [List.erase_eq_eraseIdx_of_idxOf (i := as.idxOf a) rfl]
      have gen : ∀ (l : List Addr) (j : Nat), (l.map V.ref).eraseIdx j = (l.eraseIdx j).map V.ref := fun l => by
        induction l with
        | nil => intro j; simp
        | cons b l ih => intro j; cases j with
          | zero => simp
          | succ j => simp [ih j]
      exact gen as _
    rw [e2] at rr
    refine ⟨.non, _, I.lset (its' := its.eraseIdx (as.idxOf a)) (t' := s.toks) hH e ?_ rr ?_, rfl, q⟩
    · show its.toArray.eraseIdxIfInBounds (as.idxOf a) = (its.eraseIdx (as.idxOf a)).toArray
      rw [List.eraseIdxIfInBounds_toArray]
    · have h1 : (as.erase a).length ≤ as.length := List.length_erase_le
      rw [List.length_map]
      omega
  refine wpAny_call (codeAny_call_builtin PySem.F.slot_list_remove.plain PySem.F.entry_list_remove (PySem.F.slot_list_remove.check _ _ _ _ _ _ _ _ ⟨_, e, rfl⟩ (PySem.F.args_list_remove_2 _ _) ?_))
  have hgo := remove_loopAt (A := X.A) (prog := X.prog) (w := X.w) (R := wants (EP X pins σ Q) X.xe) l its.toArray n (.ref a) (refIs a) s he (as.idxOf a) hjl hit (by rw [List.size_toArray]; omega) e hfin _ 0 rfl (Nat.zero_le _) (fun m hm' _ h2 => hno m hm' h2)
  clear hfin hno hit he hat r hH hb ha q I
  obtain ⟨hp, g, d, tk, os⟩ := s
  wp_walk using PySem.AutoSeq1.wpAny_loadPart' e
  exact ⟨plainId_quiet PySem.MeetsSeq.plain_remove_loop _, codeAny_builtin PySem.MeetsSeq.entry_remove_loop (by
    rw [Around.under_plainId PySem.MeetsSeq.plain_remove_loop _]
    exact hgo)⟩
end
end LF
set_option Elab.async false
set_option linter.all false
set_option maxRecDepth 100000
set_option maxHeartbeats 4000000
/-! zip over any number of lists, to a target of one name. -/
namespace LF
open PySem PySem.Spec PyProof.Rows
open Sem (wp)

abbrev zipO (f0 : Value) (f1 : Bool) (TI TO : Addr) : Obj := { cls := .type "zip", dict := none, data := .fields #[f0, .bool f1, .bool false, .ref TI, .ref TO], slots := #[] }
abbrev tupO (vs : List Value) : Obj := { cls := .type "tuple", data := .seq vs.toArray }

/-- the cells lie apart -/
structure ZipN (z TI TO : Addr) (its ls : List Addr) : Prop where
  TIz : TI ≠ z
  TOz : TO ≠ z
  TITO : TI ≠ TO
  iz : ∀ a ∈ its, a ≠ z
  iTI : ∀ a ∈ its, a ≠ TI
  iTO : ∀ a ∈ its, a ≠ TO
  nd : its.Nodup
  len : ls.length = its.length
  lz : ∀ l ∈ ls, l ≠ z
  lTO : ∀ l ∈ ls, l ≠ TO
  li : ∀ l ∈ ls, ∀ a ∈ its, l ≠ a

structure ZipS (h : Heap) (z TI TO : Addr) (its ls : List Addr) (i : Nat) : Prop where
  zp : ∃ f0 f1, h.get? z = some (zipO f0 f1 TI TO) ∧ (f0 = .none ∨ ∃ T : Addr, f0 = rawInt T)
  ti : h.get? TI = some (tupO (its.map Value.ref))
  to : ∃ vs : List Value, vs.length = its.length ∧ h.get? TO = some (tupO vs)
  it : ∀ (j : Nat) (a l : Addr), its[j]? = some a → ls[j]? = some l → h.IsListIter a l i

/-- the i-th items of the lists -/
def Items (h : Heap) (ls : List Addr) (i : Nat) (xs : List Value) : Prop := xs.length = ls.length ∧ ∀ (j : Nat) (l : Addr) (x : Value), ls[j]? = some l → xs[j]? = some x → ∃ its, h.IsList l its ∧ its[i]? = some x

theorem zi_lt {its : List Addr} {k : Nat} {p : Value × Nat} {rest : List (Value × Nat)} (h : p :: rest = ((its.map Value.ref).toArray.toList.zipIdx).drop k) : k < its.length := by
  rcases Nat.lt_or_ge k its.length with q | q
  · exact q
  · rw [List.drop_of_length_le (by simpa using q)] at h; cases h
theorem zi_cons {its : List Addr} {k k0 : Nat} {y : Value} {rest : List (Value × Nat)} (h : (y, k0) :: rest = ((its.map Value.ref).toArray.toList.zipIdx).drop k) (hlt : k < its.length) :
    y = .ref its[k] ∧ k = k0 ∧ rest = ((its.map Value.ref).toArray.toList.zipIdx).drop (k + 1) := by
  rw [List.drop_eq_getElem_cons (by simpa using hlt)] at h
  injection h with h1 h2
  have h3 : y = .ref its[k] ∧ k0 = k := by simpa using h1
  exact ⟨h3.1, h3.2.symm, h2⟩
theorem zi_end {its : List Addr} {k : Nat} (h : [] = ((its.map Value.ref).toArray.toList.zipIdx).drop k) (hk : k ≤ its.length) : k = its.length := by
  rcases Nat.lt_or_ge k its.length with q | q
  · rw [List.drop_eq_getElem_cons (by simpa using q)] at h; cases h
  · omega
theorem take_set_succ {α : Type} {vs xs : List α} {k : Nat} (h : vs.take k = xs.take k) (hk : k < vs.length) (hx : k < xs.length) : (vs.set k xs[k]).take (k + 1) = xs.take (k + 1) := by
  rw [List.take_succ_eq_append_getElem (by simpa using hk), List.take_succ_eq_append_getElem hx]
  rw [List.take_set_of_le (Nat.le_refl _), h]
  simp
theorem nd_ix {α : Type} {l : List α} (hN : l.Nodup) {i j : Nat} {x : α} (a : l[i]? = some x) (b : l[j]? = some x) : i = j := by
  obtain ⟨h1, e1⟩ := List.getElem?_eq_some_iff.mp a
  obtain ⟨h2, e2⟩ := List.getElem?_eq_some_iff.mp b
  exact (List.getElem_inj hN).mp (e1.trans e2.symm)

section
variable {prog : Program} {w : World} {A : Around} {E : Value → Shared → Prop} {s : Shared}

theorem alive_none {a : Addr} {Q : Option Obj → Shared → Prop} (ho : s.heap.get? a = none) (h : Q none s) : wpAny (model prog w) A (loadIfAlive a) Q E s := by
  have h' : Q (s.heap.get? a) s := by rw [ho]; exact h
  exact fun _ _ _ => h'

theorem updateSeq_tup {T : Addr} {vs : List Value} {x : Value} {k : Nat} {Q : Unit → Shared → Prop} (hT : s.heap.get? T = some (tupO vs)) (hz : vs.length ≤ 1000)
    (h : ∀ h', h'.get? T = some (tupO (vs.set k x)) → Heap.SameBut T s.heap h' → Q () { s with heap := h' }) :
    wpAny (model prog w) A (updateSeq T (·.setIfInBounds k x)) Q E s := by
  have hs : sizeLine = 16777216 := sizeLine_eq
  refine wpAny_updateSeq hT rfl (h _ ?_ (Heap.SameBut.update ..)) (hz := by rw [List.size_toArray]; omega) (_hz' := by simp; omega)
  rw [Heap.get?_update_self _ hT rfl]
  simp [Obj.mapSeq]

/-- what one turn of the free way keeps -/
structure ZLoop (h h' : Heap) (z TI TO : Addr) (its ls : List Addr) (i k : Nat) (f1 : Bool) (xs : List Value) : Prop where
  zp : h'.get? z = some (zipO .ellipsis f1 TI TO)
  to : ∃ vs : List Value, vs.length = its.length ∧ vs.take k = xs.take k ∧ h'.get? TO = some (tupO vs)
  it1 : ∀ (j : Nat) (a l : Addr), j < k → its[j]? = some a → ls[j]? = some l → h'.IsListIter a l (i + 1)
  it2 : ∀ (j : Nat) (a l : Addr), k ≤ j → its[j]? = some a → ls[j]? = some l → h'.IsListIter a l i
  keep : ∀ c o, c ≠ z → c ≠ TO → c ∉ its → h.get? c = some o → h'.get? c = some o
  size : h'.objs.size = h.objs.size

theorem zip_free_item {z TI TO : Addr} {its ls : List Addr} {i : Nat} {xs : List Value} {f0 : Value} {f1 : Bool} {vs0 : List Value} {Q : Value → Shared → Prop} (D : ZipN z TI TO its ls) (hne : its ≠ []) (hle : its.length ≤ 1000)
    (hz : s.heap.get? z = some (zipO f0 f1 TI TO)) (hfree : ∀ {A' : Around} {E' : Value → Shared → Prop} {Q' : Bool → Shared → Prop}, Q' true s → wpAny (model prog w) A' (Builtin.SmallTypes.ownedTupleIsFree (.ref z)) Q' E' s)
    (hTI : s.heap.get? TI = some (tupO (its.map Value.ref))) (hvs : vs0.length = its.length) (hTO : s.heap.get? TO = some (tupO vs0)) (hit : ∀ (j : Nat) (a l : Addr), its[j]? = some a → ls[j]? = some l → s.heap.IsListIter a l i) (hx : Items s.heap ls i xs)
    (hQ : ∀ h', ZipS h' z TI TO its ls (i + 1) → h'.get? s.heap.objs.size = some (tupO xs) → h'.objs.size = s.heap.objs.size + 1 →
      (∀ c o, c ≠ z → c ≠ TO → c ∉ its → s.heap.get? c = some o → h'.get? c = some o) → Q (.ref s.heap.objs.size) { s with heap := h' }) :
    wpAny (model prog w) A (Builtin.«zip.__next__» ⟨[.ref z], []⟩) (fun fin s' => ∃ v, fin = .done (.ret v) ∧ Q v s') E s := by
  obtain ⟨hp, g, d, tk0, os⟩ := s
  show wpAny _ _ (field (.ref z) 2 >>= _) _ _ _
  refine wpAny_bind (wpAny_field hz rfl (x := .bool false) rfl ?_)
  show wpAny _ _ (field (.ref z) 3 >>= _) _ _ _
  refine wpAny_bind (wpAny_field hz rfl (x := .ref TI) rfl ?_)
  refine wpAny_bind (wpAny_seqItems hTI rfl ?_)
  have hemp : (its.map Value.ref).toArray.isEmpty = false := by
    cases its with
    | nil => exact absurd rfl hne
    | cons a r => simp
  simp only [hemp, Bool.false_eq_true, if_false]
  refine wpAny_bind (hfree ?_)
  simp only [if_true]
  refine wpAny_bind (wpAny_rule ?_)
  refine wpAny_bind (wpAny_field hz rfl (x := .ref TO) rfl ?_)
  refine wpAny_bind (wpAny_setField_rec hz (by simp) fun g0 hz0 hs0 => ?_)
  replace hz0 : g0.get? z = some (zipO .ellipsis f1 TI TO) := hz0
  replace hs0 : Heap.SameBut z hp g0 := hs0
  refine wpAny_bind ?_
  refine wpAny_forIn_list _ (fun rest b s' => b.1 = none ∧ ∃ k h', rest = ((its.map Value.ref).toArray.toList.zipIdx).drop k ∧ k ≤ its.length ∧ s' = ⟨h', g, d, tk0, os⟩ ∧ ZLoop hp h' z TI TO its ls i k f1 xs) _ ?turn ?fin _ _ ⟨rfl, 0, g0, rfl, Nat.zero_le _, rfl, ?_⟩
  case turn =>
    rintro ⟨y, k0⟩ rest b s' ⟨hb, k, h', hrest, hk, rfl, Z⟩
    have hlt : k < its.length := zi_lt hrest
    obtain ⟨hy, hk0, hrest'⟩ := zi_cons hrest hlt
    subst hy hk0
    have hll : k < ls.length := by rw [D.len]; exact hlt
    have hxl : k < xs.length := by rw [hx.1]; exact hll
    have e1 : its[k]? = some its[k] := List.getElem?_eq_getElem hlt
    have e2 : ls[k]? = some ls[k] := List.getElem?_eq_getElem hll
    have e3 : xs[k]? = some xs[k] := List.getElem?_eq_getElem hxl
    obtain ⟨li, hli, hxi⟩ := hx.2 k _ _ e2 e3
    have ma : its[k] ∈ its := List.getElem_mem hlt
    have ml : ls[k] ∈ ls := List.getElem_mem hll
    have hli' : h'.IsList ls[k] li := hli.at fun o e => Z.keep _ o (D.lz _ ml) (D.lTO _ ml) (fun m => D.li _ ml _ m rfl) e
    refine wpAny_bind (wpAny_onRaise ?_)
    show wpAny _ _ (Builtin.SmallTypes.nextOf (.ref its[k]) >>= fun r => pure (some r)) _ _ _
    refine wpAny_bind (wpAny_nextOf_list_item (s := ⟨h', g, d, tk0, os⟩) (Z.it2 k _ _ (Nat.le_refl _) e1 e2) hli' hxi fun h2 hit2 hs2 => wpAny_pure ?_)
    replace hs2 : Heap.SameBut its[k] h' h2 := hs2
    obtain ⟨vs, hv1, hv2, hv3⟩ := Z.to
    have hT2 : h2.get? TO = some (tupO vs) := hs2.extBut _ _ (D.iTO _ ma).symm hv3
    refine wpAny_bind (wpAny_seqItems (s := ⟨h2, g, d, tk0, os⟩) hT2 rfl ?_)
    refine wpAny_bind (updateSeq_tup (s := ⟨h2, g, d, tk0, os⟩) hT2 (by omega) fun h3 hT3 hs3 => ?_)
    replace hs3 : Heap.SameBut TO h2 h3 := hs3
    refine wpAny_bind (wpAny_letGo (wpAny_pure ?_))
    have up : ∀ c o, c ≠ TO → c ≠ its[k] → h'.get? c = some o → h3.get? c = some o := fun c o c1 c2 e => hs3.extBut _ _ c1 (hs2.extBut _ _ c2 e)
    refine ⟨rfl, k + 1, h3, hrest', hlt, rfl, up _ _ D.TOz.symm (D.iz _ ma).symm Z.zp, ⟨vs.set k xs[k], by simp [hv1], ?_, hT3⟩, fun j a l hj ej el => ?_, fun j a l hj ej el => ?_, fun c o c1 c2 c3 e => up c o c2 (fun q => c3 (q ▸ ma)) (Z.keep c o c1 c2 c3 e), ?_⟩
    · exact take_set_succ hv2 (by omega) hxl
    · by_cases q : j = k
      · subst q
        rw [e1] at ej
        rw [e2] at el
        cases ej
        cases el
        exact hit2.extBut hs3.extBut (D.iTO _ ma)
      · have ma' : a ∈ its := List.mem_of_getElem? ej
        have na : a ≠ its[k] := fun q2 => q (nd_ix D.nd ej (q2 ▸ e1))
        exact (Z.it1 j a l (by omega) ej el).at fun o e => up a o (D.iTO _ ma') na e
    · have ma' : a ∈ its := List.mem_of_getElem? ej
      have na : a ≠ its[k] := fun q2 => absurd (nd_ix D.nd ej (q2 ▸ e1)) (by omega)
      exact (Z.it2 j a l (by omega) ej el).at fun o e => up a o (D.iTO _ ma') na e
    · rw [hs3.1, hs2.1, Z.size]
  case fin =>
    rintro ⟨b1, b2⟩ s' ⟨hb, k, h', hrest, hk, rfl, Z⟩
    have hk' : k = its.length := zi_end hrest hk
    subst hk'
    have hb : b1 = none := hb
    subst hb
    obtain ⟨vs, hv1, hv2, hv3⟩ := Z.to
    have hvx : vs = xs := by
      have h1 : xs.length = its.length := hx.1.trans D.len
      rw [List.take_of_length_le (by omega), List.take_of_length_le (by omega)] at hv2
      exact hv2
    subst hvx
    refine wpAny_bind (wpAny_seqItems (s := ⟨h', g, d, tk0, os⟩) hv3 rfl ?_)
    refine wpAny_bind (wpAny_newTuple ?_)
    have hzlt : z < h'.objs.size := Heap.lt_size Z.zp
    have hsz := Z.size
    show wpAny _ _ (Builtin.SmallTypes.ownedTupleHandOut (.ref z) (.ref h'.objs.size) >>= _) _ _ ⟨h'.push (tupO vs), g, d, tk0, os⟩
    refine wpAny_bind ?_
    unfold Builtin.SmallTypes.ownedTupleHandOut
    have hz6 : (h'.push (tupO vs)).get? z = some (zipO .ellipsis f1 TI TO) := Heap.get?_push_of_some _ Z.zp
    refine wpAny_bind (wpAny_setField_rec hz6 (by simp) fun h7 hz7 hs7 => ?_)
    replace hz7 : h7.get? z = some (zipO (rawInt h'.objs.size) f1 TI TO) := hz7
    refine wpAny_setField_rec hz7 (by simp) fun h8 hz8 hs8 => ?_
    replace hz8 : h8.get? z = some (zipO (rawInt h'.objs.size) false TI TO) := hz8
    replace hs7 : Heap.SameBut z (h'.push (tupO vs)) h7 := hs7
    replace hs8 : Heap.SameBut z h7 h8 := hs8
    have up : ∀ c o, c ≠ z → h'.get? c = some o → h8.get? c = some o := fun c o c1 e => hs8.extBut _ _ c1 (hs7.extBut _ _ c1 (Heap.get?_push_of_some _ e))
    have hT8 : h8.get? h'.objs.size = some (tupO vs) := hs8.extBut _ _ (Nat.ne_of_gt hzlt) (hs7.extBut _ _ (Nat.ne_of_gt hzlt) (Heap.get?_push_size _ rfl))
    have hz8' : h8.objs.size = h'.objs.size + 1 := by rw [hs8.1, hs7.1, Heap.size_push]
    refine wpAny_pure ⟨_, rfl, ?_⟩
    show Q (.ref h'.objs.size) ⟨h8, g, d, tk0, os⟩
    rw [hsz] at hT8 hz8' ⊢
    refine hQ h8 ⟨⟨_, _, hz8, .inr ⟨_, rfl⟩⟩, up _ _ D.TIz (Z.keep _ _ D.TIz D.TITO (fun m => D.iTI _ m rfl) hTI), ⟨vs, hv1, up _ _ D.TOz hv3⟩, fun j a l ej el => ?_⟩ hT8 hz8' fun c o c1 c2 c3 e => up c o c1 (Z.keep c o c1 c2 c3 e)
    have ma : a ∈ its := List.mem_of_getElem? ej
    exact (Z.it1 j a l (List.getElem?_eq_some_iff.mp ej).1 ej el).at fun o e => up a o (D.iz _ ma) e
  refine ⟨hz0, ⟨vs0, hvs, rfl, hs0.extBut _ _ D.TOz hTO⟩, fun j a l hj => absurd hj (Nat.not_lt_zero _), fun j a l _ ej el => (hit j a l ej el).extBut hs0.extBut (D.iz _ (List.mem_of_getElem? ej)), fun c o c1 _ _ e => hs0.extBut _ _ c1 e, hs0.1⟩

/-- what one turn of the other way keeps -/
structure ZHeld (h h' : Heap) (z TI TO : Addr) (its ls : List Addr) (i k : Nat) : Prop where
  it1 : ∀ (j : Nat) (a l : Addr), j < k → its[j]? = some a → ls[j]? = some l → h'.IsListIter a l (i + 1)
  it2 : ∀ (j : Nat) (a l : Addr), k ≤ j → its[j]? = some a → ls[j]? = some l → h'.IsListIter a l i
  keep : ∀ c o, c ≠ z → c ∉ its → h.get? c = some o → h'.get? c = some o
  zk : ∀ f, h.get? z = some f → ∃ f, h'.get? z = some f
  size : h'.objs.size = h.objs.size

theorem zip_held_item {z TI TO : Addr} {its ls : List Addr} {i : Nat} {xs : List Value} {f0 : Value} {f1 : Bool} {vs0 : List Value} {Q : Value → Shared → Prop} (D : ZipN z TI TO its ls) (hne : its ≠ []) (hle : its.length ≤ 1000)
    (hz : s.heap.get? z = some (zipO f0 f1 TI TO)) (hf0 : f0 = .none ∨ ∃ T : Addr, f0 = rawInt T) (hheld : ∀ {A' : Around} {E' : Value → Shared → Prop} {Q' : Bool → Shared → Prop}, (∀ h' f1', h'.get? z = some (zipO f0 f1' TI TO) → Heap.SameBut z s.heap h' → Q' false { s with heap := h' }) → wpAny (model prog w) A' (Builtin.SmallTypes.ownedTupleIsFree (.ref z)) Q' E' s)
    (hTI : s.heap.get? TI = some (tupO (its.map Value.ref))) (hvs : vs0.length = its.length) (hTO : s.heap.get? TO = some (tupO vs0)) (hit : ∀ (j : Nat) (a l : Addr), its[j]? = some a → ls[j]? = some l → s.heap.IsListIter a l i) (hx : Items s.heap ls i xs)
    (hQ : ∀ h', ZipS h' z TI TO its ls (i + 1) → h'.get? s.heap.objs.size = some (tupO xs) → h'.objs.size = s.heap.objs.size + 1 →
      (∀ c o, c ≠ z → c ≠ TO → c ∉ its → s.heap.get? c = some o → h'.get? c = some o) → Q (.ref s.heap.objs.size) { s with heap := h' }) :
    wpAny (model prog w) A (Builtin.«zip.__next__» ⟨[.ref z], []⟩) (fun fin s' => ∃ v, fin = .done (.ret v) ∧ Q v s') E s := by
  obtain ⟨hp, g, d, tk0, os⟩ := s
  show wpAny _ _ (field (.ref z) 2 >>= _) _ _ _
  refine wpAny_bind (wpAny_field hz rfl (x := .bool false) rfl ?_)
  show wpAny _ _ (field (.ref z) 3 >>= _) _ _ _
  refine wpAny_bind (wpAny_field hz rfl (x := .ref TI) rfl ?_)
  refine wpAny_bind (wpAny_seqItems hTI rfl ?_)
  have hemp : (its.map Value.ref).toArray.isEmpty = false := by
    cases its with
    | nil => exact absurd rfl hne
    | cons a r => simp
  simp only [hemp, Bool.false_eq_true, if_false]
  refine wpAny_bind (hheld fun g0 f1' hz0 hs0 => ?_)
  replace hs0 : Heap.SameBut z hp g0 := hs0
  simp only [Bool.false_eq_true, if_false]
  refine wpAny_bind ?_
  rw [← Array.forIn_toList]
  refine wpAny_forIn_list _ (fun rest b s' => b.1 = none ∧ ∃ k h', rest = (its.map Value.ref).drop k ∧ k ≤ its.length ∧ s' = ⟨h', g, d, tk0, os⟩ ∧ b.2 = (xs.take k).toArray ∧ h'.get? z = some (zipO f0 f1' TI TO) ∧ ZHeld hp h' z TI TO its ls i k) _ ?turn ?fin _ _ ⟨rfl, 0, g0, by simp, Nat.zero_le _, rfl, rfl, hz0, ?_⟩
  case turn =>
    rintro y rest ⟨b1, b2⟩ s' ⟨hb, k, h', hrest, hk, rfl, hb2, hzk, Z⟩
    have hb2 : b2 = (xs.take k).toArray := hb2
    subst hb2
    have hlt : k < its.length := by
      rcases Nat.lt_or_ge k its.length with q | q
      · exact q
      · rw [List.drop_of_length_le (by simpa using q)] at hrest; cases hrest
    have hd : (its.map Value.ref).drop k = Value.ref its[k] :: (its.map Value.ref).drop (k + 1) := by
      rw [List.drop_eq_getElem_cons (by simpa using hlt)]
      simp
    rw [hd] at hrest
    injection hrest with hy hrest'
    subst hy
    have hll : k < ls.length := by rw [D.len]; exact hlt
    have hxl : k < xs.length := by rw [hx.1]; exact hll
    have e1 : its[k]? = some its[k] := List.getElem?_eq_getElem hlt
    have e2 : ls[k]? = some ls[k] := List.getElem?_eq_getElem hll
    have e3 : xs[k]? = some xs[k] := List.getElem?_eq_getElem hxl
    obtain ⟨li, hli, hxi⟩ := hx.2 k _ _ e2 e3
    have ma : its[k] ∈ its := List.getElem_mem hlt
    have ml : ls[k] ∈ ls := List.getElem_mem hll
    have hli' : h'.IsList ls[k] li := hli.at fun o e => Z.keep _ o (D.lz _ ml) (fun m => D.li _ ml _ m rfl) e
    refine wpAny_bind (wpAny_holding ?_)
    show wpAny _ _ (Builtin.SmallTypes.nextOf (.ref its[k]) >>= fun r => pure (some r)) _ _ _
    refine wpAny_bind (wpAny_nextOf_list_item (s := ⟨h', g, d, tk0, os⟩) (Z.it2 k _ _ (Nat.le_refl _) e1 e2) hli' hxi fun h2 hit2 hs2 => wpAny_pure ?_)
    replace hs2 : Heap.SameBut its[k] h' h2 := hs2
    refine wpAny_pure ?_
    have up : ∀ c o, c ≠ its[k] → h'.get? c = some o → h2.get? c = some o := fun c o c2 e => hs2.extBut _ _ c2 e
    refine ⟨rfl, k + 1, h2, hrest', hlt, rfl, ?_, up _ _ (D.iz _ ma).symm hzk, fun j a l hj ej el => ?_, fun j a l hj ej el => ?_, fun c o c1 c3 e => up c o (fun q => c3 (q ▸ ma)) (Z.keep c o c1 c3 e), fun f e => ⟨_, up _ _ (D.iz _ ma).symm hzk⟩, ?_⟩
    · show (xs.take k).toArray.push xs[k] = (xs.take (k + 1)).toArray
      rw [List.take_succ_eq_append_getElem hxl]
      simp
    · by_cases q : j = k
      · subst q
        rw [e1] at ej
        rw [e2] at el
        cases ej
        cases el
        exact hit2
      · have na : a ≠ its[k] := fun q2 => q (nd_ix D.nd ej (q2 ▸ e1))
        exact (Z.it1 j a l (by omega) ej el).at fun o e => up a o na e
    · have na : a ≠ its[k] := fun q2 => absurd (nd_ix D.nd ej (q2 ▸ e1)) (by omega)
      exact (Z.it2 j a l (by omega) ej el).at fun o e => up a o na e
    · rw [hs2.1, Z.size]
  case fin =>
    rintro ⟨b1, b2⟩ s' ⟨hb, k, h', hrest, hk, rfl, hb2, hzk, Z⟩
    have hb2 : b2 = (xs.take k).toArray := hb2
    subst hb2
    have hk' : k = its.length := by
      rcases Nat.lt_or_ge k its.length with q | q
      · rw [List.drop_eq_getElem_cons (by simpa using q)] at hrest; cases hrest
      · omega
    subst hk'
    have hb : b1 = none := hb
    subst hb
    have h1 : xs.length = its.length := hx.1.trans D.len
    rw [List.take_of_length_le (by omega)]
    refine wpAny_bind (wpAny_newTuple ?_)
    have hsz := Z.size
    have up : ∀ c o, h'.get? c = some o → (h'.push (tupO xs)).get? c = some o := fun c o e => Heap.get?_push_of_some _ e
    have hT : (h'.push (tupO xs)).get? h'.objs.size = some (tupO xs) := Heap.get?_push_size _ rfl
    refine wpAny_pure ⟨_, rfl, ?_⟩
    show Q (.ref h'.objs.size) ⟨h'.push (tupO xs), g, d, tk0, os⟩
    have hz8' : (h'.push (tupO xs)).objs.size = h'.objs.size + 1 := by rw [Heap.size_push]
    rw [hsz] at hT hz8' ⊢
    refine hQ _ ⟨⟨_, _, up _ _ hzk, hf0⟩, up _ _ (Z.keep _ _ D.TIz (fun m => D.iTI _ m rfl) hTI), ⟨vs0, hvs, up _ _ (Z.keep _ _ D.TOz (fun m => D.iTO _ m rfl) hTO)⟩, fun j a l ej el => ?_⟩ hT hz8' fun c o c1 c2 c3 e => up c o (Z.keep c o c1 c3 e)
    exact (Z.it1 j a l (List.getElem?_eq_some_iff.mp ej).1 ej el).at fun o e => up a o e
  exact ⟨fun j a l hj => absurd hj (Nat.not_lt_zero _), fun j a l _ ej el => (hit j a l ej el).extBut hs0.extBut (D.iz _ (List.mem_of_getElem? ej)), fun c o c1 _ e => hs0.extBut _ _ c1 e, fun _ _ => ⟨_, hz0⟩, hs0.1⟩
end
end LF
set_option Elab.async false
set_option linter.all false
set_option maxRecDepth 100000
set_option maxHeartbeats 4000000
/-! zip: its end, its making, its walk. -/
namespace LF
open PySem PySem.Spec PyProof.Rows
open Sem (wp)

section
variable {prog : Program} {w : World} {A : Around} {E : Value → Shared → Prop} {s : Shared}

theorem free_none {z TI TO : Addr} {f1 : Bool} {A' : Around} {E' : Value → Shared → Prop} {Q' : Bool → Shared → Prop} (hz : s.heap.get? z = some (zipO .none f1 TI TO)) (h : Q' true s) : wpAny (model prog w) A' (Builtin.SmallTypes.ownedTupleIsFree (.ref z)) Q' E' s := by
  unfold Builtin.SmallTypes.ownedTupleIsFree
  exact wpAny_bind (wpAny_field hz rfl (x := .none) rfl (wpAny_pure h))
theorem free_dead {z TI TO T : Addr} {f1 : Bool} {A' : Around} {E' : Value → Shared → Prop} {Q' : Bool → Shared → Prop} (hz : s.heap.get? z = some (zipO (rawInt T) f1 TI TO)) (hT : s.heap.get? T = none) (h : Q' true s) : wpAny (model prog w) A' (Builtin.SmallTypes.ownedTupleIsFree (.ref z)) Q' E' s := by
  unfold Builtin.SmallTypes.ownedTupleIsFree
  refine wpAny_bind (wpAny_field hz rfl (x := rawInt T) rfl ?_)
  show wpAny _ _ (loadIfAlive ((T : Int).toNat) >>= _) _ _ _
  rw [Int.toNat_natCast]
  refine wpAny_bind (alive_none hT ?_)
  simp only [Option.isNone_none, if_true]
  exact wpAny_pure h

theorem zip_item {z TI TO : Addr} {its ls : List Addr} {i : Nat} {xs : List Value} {Q : Value → Shared → Prop} (D : ZipN z TI TO its ls) (hne : its ≠ []) (hle : its.length ≤ 1000) (Z : ZipS s.heap z TI TO its ls i) (hx : Items s.heap ls i xs)
    (hQ : ∀ h', ZipS h' z TI TO its ls (i + 1) → h'.get? s.heap.objs.size = some (tupO xs) → h'.objs.size = s.heap.objs.size + 1 →
      (∀ c o, c ≠ z → c ≠ TO → c ∉ its → s.heap.get? c = some o → h'.get? c = some o) → Q (.ref s.heap.objs.size) { s with heap := h' }) :
    wpAny (model prog w) A (Builtin.«zip.__next__» ⟨[.ref z], []⟩) (fun fin s' => ∃ v, fin = .done (.ret v) ∧ Q v s') E s := by
  obtain ⟨f0, f1, hz, hf⟩ := Z.zp
  obtain ⟨vs0, hv, hTO⟩ := Z.to
  rcases hf with rfl | ⟨T, rfl⟩
  · exact zip_free_item D hne hle hz (fun q => free_none hz q) Z.ti hv hTO Z.it hx hQ
  · cases hT : s.heap.get? T with
    | none => exact zip_free_item D hne hle hz (fun q => free_dead hz hT q) Z.ti hv hTO Z.it hx hQ
    | some oT => exact zip_held_item D hne hle hz (.inr ⟨T, rfl⟩) (fun q => wpAny_tupleHeld_zip hz hT fun h' e sb => q h' _ e sb) Z.ti hv hTO Z.it hx hQ

theorem zip_end {z TI TO : Addr} {its ls : List Addr} {i : Nat} {Q : Fin → Shared → Prop} (hh : A.handled = none) (D : ZipN z TI TO its ls) (hne : its ≠ []) (Z : ZipS s.heap z TI TO its ls i)
    (hend : ∀ l, ls[0]? = some l → ∃ xs, s.heap.IsList l xs ∧ xs[i]? = none)
    (hE : ∀ h' e, (∀ c o, c ≠ z → c ≠ TO → c ∉ its → s.heap.get? c = some o → h'.get? c = some o) → (∃ o, h'.get? e = some o ∧ o.cls = .type "StopIteration") → E (.ref e) { s with heap := h' }) :
    wpAny (model prog w) A (Builtin.«zip.__next__» ⟨[.ref z], []⟩) Q E s := by
  obtain ⟨f0, f1, hz, hf⟩ := Z.zp
  obtain ⟨vs0, hv, hTO⟩ := Z.to
  obtain ⟨a, its', rfl⟩ : ∃ a r, its = a :: r := by cases its with
    | nil => exact absurd rfl hne
    | cons a r => exact ⟨a, r, rfl⟩
  obtain ⟨l, ls', rfl⟩ : ∃ a r, ls = a :: r := by
    have := D.len
    cases ls with
    | nil => simp at this
    | cons a r => exact ⟨a, r, rfl⟩
  obtain ⟨xs, hl, hx⟩ := hend l rfl
  have hit := Z.it 0 a l rfl rfl
  have az : a ≠ z := D.iz a (by simp)
  have lz : l ≠ z := D.lz l (by simp)
  have core : ∀ (free : Bool) (g0 : Heap), Heap.SameBut z s.heap g0 → (∃ f0 f1, g0.get? z = some (zipO f0 f1 TI TO)) → ∀ {A' : Around}, A'.handled = none → ∀ {α : Type} {Q' : α → Shared → Prop} {R : Value → Shared → Prop} (fn : Value → Sem α),
      (∀ h' e, (∀ c o, c ≠ z → c ≠ a → g0.get? c = some o → h'.get? c = some o) → (∃ f0 f1, h'.get? z = some (zipO f0 f1 TI TO)) → (∃ o, h'.get? e = some o ∧ o.cls = .type "StopIteration") → R (.ref e) { s with heap := h' }) →
      wpAny (model prog w) A' (Builtin.SmallTypes.nextOf (.ref a) >>= fn) Q' R { s with heap := g0 } := by
    intro free g0 sb hz0 A' hA α Q' R fn hR
    refine wpAny_bind (wpAny_nextOf_list_end (s := { s with heap := g0 }) hA (hit.extBut sb.extBut az) (hl.extBut sb.extBut lz) hx fun h2 e hs2 he => ?_)
    obtain ⟨f0, f1, hz0⟩ := hz0
    exact hR h2 e (fun c o _ c2 q => hs2 c o c2 q) ⟨_, _, hs2 _ _ az.symm hz0⟩ he
  obtain ⟨hp, g, d, tk0, os⟩ := s
  show wpAny _ _ (field (.ref z) 2 >>= _) _ _ _
  refine wpAny_bind (wpAny_field hz rfl (x := .bool false) rfl ?_)
  show wpAny _ _ (field (.ref z) 3 >>= _) _ _ _
  refine wpAny_bind (wpAny_field hz rfl (x := .ref TI) rfl ?_)
  refine wpAny_bind (wpAny_seqItems Z.ti rfl ?_)
  have hemp : ((a :: its').map Value.ref).toArray.isEmpty = false := by simp
  simp only [hemp, Bool.false_eq_true, if_false]
  have asFree : ∀ {A' : Around}, A'.handled = none → (∀ {A'' : Around} {E' : Value → Shared → Prop} {Q' : Bool → Shared → Prop}, Q' true ⟨hp, g, d, tk0, os⟩ → wpAny (model prog w) A'' (Builtin.SmallTypes.ownedTupleIsFree (.ref z)) Q' E' ⟨hp, g, d, tk0, os⟩) → True := fun _ _ => trivial
  rcases hf with rfl | ⟨T, rfl⟩
  · refine wpAny_bind (free_none hz ?_)
    simp only [if_true]
    refine wpAny_bind (wpAny_rule ?_)
    refine wpAny_bind (wpAny_field hz rfl (x := .ref TO) rfl ?_)
    refine wpAny_bind (wpAny_setField_rec hz (by simp) fun g0 hz0 hs0 => ?_)
    refine wpAny_bind ?_
    simp only [List.map_cons, List.zipIdx_cons, List.forIn_cons]
    refine wpAny_bind (wpAny_bind (wpAny_onRaise ?_))
    show wpAny _ _ (Builtin.SmallTypes.nextOf (.ref a) >>= _) _ _ _
    refine core true g0 hs0 ⟨_, _, hz0⟩ hh _ fun h2 e hk hz2 he => ?_
    obtain ⟨_, _, hz2⟩ := hz2
    obtain ⟨oe, hoe, hce⟩ := he
    have hez : e ≠ z := fun x => by subst x; rw [hz2] at hoe; cases hoe; simp at hce
    exact wpAny_setField_rec hz2 (by simp) fun h3 _ hs3 => hE h3 e (fun c o c1 c2 c3 q => hs3.extBut _ _ c1 (hk c o c1 (fun x => c3 (x ▸ List.mem_cons_self)) (hs0.extBut _ _ c1 q))) ⟨oe, hs3.extBut _ _ hez hoe, hce⟩
  · cases hT : hp.get? T with
    | none =>
      refine wpAny_bind (free_dead hz hT ?_)
      simp only [if_true]
      refine wpAny_bind (wpAny_rule ?_)
      refine wpAny_bind (wpAny_field hz rfl (x := .ref TO) rfl ?_)
      refine wpAny_bind (wpAny_setField_rec hz (by simp) fun g0 hz0 hs0 => ?_)
      refine wpAny_bind ?_
      simp only [List.map_cons, List.zipIdx_cons, List.forIn_cons]
      refine wpAny_bind (wpAny_bind (wpAny_onRaise ?_))
      show wpAny _ _ (Builtin.SmallTypes.nextOf (.ref a) >>= _) _ _ _
      refine core true g0 hs0 ⟨_, _, hz0⟩ hh _ fun h2 e hk hz2 he => ?_
      obtain ⟨_, _, hz2⟩ := hz2
      obtain ⟨oe, hoe, hce⟩ := he
      have hez : e ≠ z := fun x => by subst x; rw [hz2] at hoe; cases hoe; simp at hce
      exact wpAny_setField_rec hz2 (by simp) fun h3 _ hs3 => hE h3 e (fun c o c1 c2 c3 q => hs3.extBut _ _ c1 (hk c o c1 (fun x => c3 (x ▸ List.mem_cons_self)) (hs0.extBut _ _ c1 q))) ⟨oe, hs3.extBut _ _ hez hoe, hce⟩
    | some oT =>
      refine wpAny_bind (wpAny_tupleHeld_zip hz hT fun g0 hz0 hs0 => ?_)
      simp only [Bool.false_eq_true, if_false]
      refine wpAny_bind ?_
      rw [← Array.forIn_toList]
      simp only [List.map_cons, List.forIn_cons]
      refine wpAny_bind (wpAny_bind (wpAny_holding ?_))
      show wpAny _ _ (Builtin.SmallTypes.nextOf (.ref a) >>= _) _ _ _
      refine core true g0 hs0 ⟨_, _, hz0⟩ hh _ fun h2 e hk hz2 he => ?_
      exact hE h2 e (fun c o c1 c2 c3 q => hk c o c1 (fun x => c3 (x ▸ List.mem_cons_self)) (hs0.extBut _ _ c1 q)) he

theorem pyNext_zip_item {z TI TO : Addr} {its ls : List Addr} {i : Nat} {xs : List Value} {Q : Option Value → Shared → Prop} (D : ZipN z TI TO its ls) (hne : its ≠ []) (hle : its.length ≤ 1000) (Z : ZipS s.heap z TI TO its ls i) (hx : Items s.heap ls i xs)
    (hQ : ∀ h', ZipS h' z TI TO its ls (i + 1) → h'.get? s.heap.objs.size = some (tupO xs) → h'.objs.size = s.heap.objs.size + 1 →
      (∀ c o, c ≠ z → c ≠ TO → c ∉ its → s.heap.get? c = some o → h'.get? c = some o) → Q (some (.ref s.heap.objs.size)) { s with heap := h' }) :
    wpAny (model prog w) A (pyNext (.ref z)) Q E s := by
  obtain ⟨f0, f1, hz, _⟩ := Z.zp
  have hT : s.TypeIs (.ref z) "zip" := ⟨_, hz, rfl⟩
  unfold pyNext
  exact wpAny_bind (wpAny_attempt (wpAny_callSpecial?_slot (name := Str.ofString "__next__") hT F.slot_zip_next
    (wpAny_call_entry F.slot_zip_next hT F.entry_zip_next
      (zip_item D hne hle Z hx fun h' a1 a2 a3 a4 => wpAny_pure (hQ h' a1 a2 a3 a4)) (F.args_zip_next_1 _))))
theorem pyNext_zip_end {z TI TO : Addr} {its ls : List Addr} {i : Nat} {Q : Option Value → Shared → Prop} (hh : A.handled = none) (D : ZipN z TI TO its ls) (hne : its ≠ []) (Z : ZipS s.heap z TI TO its ls i)
    (hend : ∀ l, ls[0]? = some l → ∃ xs, s.heap.IsList l xs ∧ xs[i]? = none)
    (hQ : ∀ h', (∀ c o, c ≠ z → c ≠ TO → c ∉ its → s.heap.get? c = some o → h'.get? c = some o) → Q none { s with heap := h' }) : wpAny (model prog w) A (pyNext (.ref z)) Q E s := by
  obtain ⟨f0, f1, hz, _⟩ := Z.zp
  have hT : s.TypeIs (.ref z) "zip" := ⟨_, hz, rfl⟩
  unfold pyNext
  refine wpAny_bind (wpAny_attempt (wpAny_callSpecial?_slot (name := Str.ofString "__next__") hT F.slot_zip_next
    (wpAny_call_entry F.slot_zip_next hT F.entry_zip_next (zip_end hh D hne Z hend fun h' e hk he => ?_) (F.args_zip_next_1 _))))
  obtain ⟨o, ho, hc⟩ := he
  refine wpAny_bind (wpAny_isInstance (T := "StopIteration") (b := true) ⟨o, ho, hc⟩ isSubtype_stop ?_)
  exact wpAny_pure (hQ _ hk)
theorem pyIter_zipN {z TI TO : Addr} {its ls : List Addr} {i : Nat} {Q : Value → Shared → Prop} (Z : ZipS s.heap z TI TO its ls i) (h : Q (.ref z) s) : wpAny (model prog w) A (pyIter (.ref z)) Q E s := by
  obtain ⟨f0, f1, hz, _⟩ := Z.zp
  have hT : s.TypeIs (.ref z) "zip" := ⟨_, hz, rfl⟩
  refine wpAny_pyIter_slot hT F.slot_zip_iter (wpAny_call_entry F.slot_zip_iter hT F.entry_zip_iter ?_ (F.args_zip_iter_1 _))
  show wpAny _ _ (ret (.ref z)) _ _ s
  exact wpAny_pure ⟨_, rfl, "zip", _, hT, F.slot_zip_next.lookup, h⟩

/-! ### its making -/
structure ZMade (h h' : Heap) (ls : List Addr) : Prop where
  z : ZipS h' (h.objs.size + ls.length + 2) (h.objs.size + ls.length) (h.objs.size + ls.length + 1) ((List.range ls.length).map (h.objs.size + ·)) ls 0
  keep : ∀ c o, h.get? c = some o → h'.get? c = some o
  size : h'.objs.size = h.objs.size + ls.length + 3

theorem zip_new {ls : List Addr} (hle : ls.length ≤ 1000) :
    Meets (Builtin.«zip.__new__» ⟨.type "zip" :: ls.map Value.ref, []⟩) (fun _ R s => (∀ l ∈ ls, ∃ xs, s.heap.IsList l xs) ∧
      ∀ h', ZMade s.heap h' ls → R (.ok (.ret (.ref (s.heap.objs.size + ls.length + 2)))) { s with heap := h' }) :=
  .of_wp fun prog w A R s h => by
    obtain ⟨hp, g, d, tk, os⟩ := s
    obtain ⟨hl, h⟩ := h
    have hsub := sub_zip
    wp_walk
    have hget : ∀ {h' : Heap} {k j l : Nat}, ls.length = ls.length → True := fun _ => trivial
    show wpAny (model prog w) A.in1 (forIn (List.map Value.ref ls) (#[] : Array Value) fun x its => do
      let r ← holding its.toList (pyIter x)
      pure (ForInStep.yield (its.push r))) _ _ _
    refine wpAny_forIn_list _ (fun rest b s' => ∃ k h', rest = (ls.map Value.ref).drop k ∧ k ≤ ls.length ∧ s' = ⟨h', g, d, tk, os⟩ ∧ b = ((List.range k).map fun j => Value.ref (hp.objs.size + j)).toArray ∧ h'.objs.size = hp.objs.size + k ∧
      (∀ c o, hp.get? c = some o → h'.get? c = some o) ∧ ∀ (j : Nat) (l : Addr), j < k → ls[j]? = some l → h'.IsListIter (hp.objs.size + j) l 0) _ ?turn ?fin _ _ ⟨0, hp, rfl, Nat.zero_le _, rfl, rfl, rfl, fun _ _ e => e, fun j l hj => absurd hj (Nat.not_lt_zero _)⟩
    case turn =>
      rintro x rest b s' ⟨k, h', hrest, hk, rfl, rfl, hsz, kp, hit⟩
      have hlt : k < ls.length := by
        rcases Nat.lt_or_ge k ls.length with q | q
        · exact q
        · rw [List.drop_of_length_le (by simpa using q)] at hrest; cases hrest
      have hd : (ls.map Value.ref).drop k = Value.ref ls[k] :: (ls.map Value.ref).drop (k + 1) := by
        rw [List.drop_eq_getElem_cons (by simpa using hlt)]
        simp
      rw [hd] at hrest
      injection hrest with hy hrest'
      subst hy
      obtain ⟨xs, hxs⟩ := hl ls[k] (List.getElem_mem hlt)
      refine wpAny_bind (wpAny_holding (wpAny_pyIter_list (s := ⟨h', g, d, tk, os⟩) (hxs.at fun o e => kp _ o e) (wpAny_pure ?_)))
      refine ⟨k + 1, _, hrest', hlt, rfl, ?_, by rw [Heap.size_push]; show h'.objs.size + 1 = _; rw [hsz]; omega, fun c o e => Heap.get?_push_of_some _ (kp c o e), fun j l hj el => ?_⟩
      · show (((List.range k).map fun j => Value.ref (hp.objs.size + j)).toArray).push (Value.ref h'.objs.size) = _
        rw [hsz, List.range_succ]
        simp
      · by_cases q : j = k
        · subst q
          rw [List.getElem?_eq_getElem hlt] at el
          cases el
          rw [← hsz]
          exact ⟨_, Heap.get?_push_size _ rfl, rfl, rfl⟩
        · exact (hit j l (by omega) el).at fun o e => Heap.get?_push_of_some _ e
    case fin =>
      rintro b s' ⟨k, h', hrest, hk, rfl, rfl, hsz, kp, hit⟩
      have hk' : k = ls.length := by
        rcases Nat.lt_or_ge k ls.length with q | q
        · rw [List.drop_eq_getElem_cons (by simpa using q)] at hrest; cases hrest
        · omega
      subst hk'
      refine wpAny_pure ?_
      have hs0 : sizeLine = 16777216 := sizeLine_eq
      have e0 : ((List.range ls.length).map fun j => Value.ref (hp.objs.size + j)).toArray.toList = ((List.range ls.length).map (hp.objs.size + ·)).map Value.ref := by simp
      rw [e0]
      refine wpAny_bind (wpAny_newTuple ?_ (by simp; omega))
      refine wpAny_bind (wpAny_newTuple ?_ (by simp; omega))
      have z1 : (h'.push (tupO (((List.range ls.length).map (hp.objs.size + ·)).map Value.ref))).objs.size = hp.objs.size + ls.length + 1 := by rw [Heap.size_push, hsz]
      have z2 : ((h'.push (tupO (((List.range ls.length).map (hp.objs.size + ·)).map Value.ref))).push (tupO ((((List.range ls.length).map (hp.objs.size + ·)).map Value.ref).map fun _ => Value.none))).objs.size = hp.objs.size + ls.length + 2 := by rw [Heap.size_push, z1]
      show wpAny _ _ (Builtin.SmallTypes.newRecord (.type "zip") ([Value.none, Value.bool false] ++ [Value.bool false, .ref h'.objs.size, .ref (h'.push (tupO (((List.range ls.length).map (hp.objs.size + ·)).map Value.ref))).objs.size]) >>= _) _ _
        ⟨(h'.push (tupO (((List.range ls.length).map (hp.objs.size + ·)).map Value.ref))).push (tupO ((((List.range ls.length).map (hp.objs.size + ·)).map Value.ref).map fun _ => Value.none)), g, d, tk, os⟩
      rw [hsz, z1]
      have k1 : ∀ c o, h'.get? c = some o → ((h'.push (tupO (((List.range ls.length).map (hp.objs.size + ·)).map Value.ref))).push (tupO ((((List.range ls.length).map (hp.objs.size + ·)).map Value.ref).map fun _ => Value.none))).get? c = some o := fun c o e => Heap.get?_push_of_some _ (Heap.get?_push_of_some _ e)
      have gT : ((h'.push (tupO (((List.range ls.length).map (hp.objs.size + ·)).map Value.ref))).push (tupO ((((List.range ls.length).map (hp.objs.size + ·)).map Value.ref).map fun _ => Value.none))).get? (hp.objs.size + ls.length) = some (tupO (((List.range ls.length).map (hp.objs.size + ·)).map Value.ref)) := by
        have := Heap.get?_push_size h' (o := tupO (((List.range ls.length).map (hp.objs.size + ·)).map Value.ref)) rfl
        rw [hsz] at this
        exact Heap.get?_push_of_some _ this
      have gO : ((h'.push (tupO (((List.range ls.length).map (hp.objs.size + ·)).map Value.ref))).push (tupO ((((List.range ls.length).map (hp.objs.size + ·)).map Value.ref).map fun _ => Value.none))).get? (hp.objs.size + ls.length + 1) = some (tupO ((((List.range ls.length).map (hp.objs.size + ·)).map Value.ref).map fun _ => Value.none)) := by
        have := Heap.get?_push_size (h'.push (tupO (((List.range ls.length).map (hp.objs.size + ·)).map Value.ref))) (o := tupO ((((List.range ls.length).map (hp.objs.size + ·)).map Value.ref).map fun _ => Value.none)) rfl
        rw [z1] at this
        exact this
      generalize ((h'.push (tupO (((List.range ls.length).map (hp.objs.size + ·)).map Value.ref))).push (tupO ((((List.range ls.length).map (hp.objs.size + ·)).map Value.ref).map fun _ => Value.none))) = h2 at *
      refine wpAny_bind ?_
      unfold Builtin.SmallTypes.newRecord
      refine wpAny_newObj_type ?_ (by size_fits)
      refine wpAny_pure ⟨_, rfl, ?_⟩
      have kz : ∀ c o, h2.get? c = some o → (h2.push (zipO .none false (hp.objs.size + ls.length) (hp.objs.size + ls.length + 1))).get? c = some o := fun c o e => Heap.get?_push_of_some _ e
      have gz := Heap.get?_push_size h2 (o := zipO .none false (hp.objs.size + ls.length) (hp.objs.size + ls.length + 1)) rfl
      show R (.ok (.ret (.ref h2.objs.size))) ⟨h2.push (zipO .none false (hp.objs.size + ls.length) (hp.objs.size + ls.length + 1)), g, d, tk, os⟩
      rw [z2] at gz ⊢
      refine h _ ⟨⟨⟨_, _, gz, .inl rfl⟩, kz _ _ gT, ⟨_, by simp, kz _ _ gO⟩, fun j a l ea el => ?_⟩, fun c o e => kz _ _ (k1 _ _ (kp _ _ e)), by rw [Heap.size_push, z2]⟩
      obtain ⟨hj, ej⟩ := List.getElem?_eq_some_iff.mp ea
      have hj' : j < ls.length := by simpa using hj
      have : a = hp.objs.size + j := by simpa using ej.symm
      subst this
      exact (hit j l hj' el).at fun o e => kz _ _ (k1 _ _ e)

theorem args_init_z (obj : Value) {ls : List Addr} (h : ls.length = 1 ∨ ls.length = 2 ∨ ls.length = 3 ∨ ls.length = 4) : argsOk "object.__init__" ⟨obj :: ls.map Value.ref, []⟩ := by
  unfold argsOk
  match ls, h with
  | [a], _ => kernel_rfl
  | [a, b], _ => kernel_rfl
  | [a, b, c], _ => kernel_rfl
  | [a, b, c, d], _ => kernel_rfl
theorem typeCall_z {ls : List Addr} (h : ls.length = 1 ∨ ls.length = 2 ∨ ls.length = 3 ∨ ls.length = 4) : checkTypeCall "zip" ⟨ls.map Value.ref, []⟩ = pure () := by
  match ls, h with
  | [a], _ => kernel_rfl
  | [a, b], _ => kernel_rfl
  | [a, b, c], _ => kernel_rfl
  | [a, b, c, d], _ => kernel_rfl
theorem newCall_z {ls : List Addr} (h : ls.length = 1 ∨ ls.length = 2 ∨ ls.length = 3 ∨ ls.length = 4) : checkBuiltinCall "zip.__new__" ⟨.type "zip" :: ls.map Value.ref, []⟩ = pure () := by
  match ls, h with
  | [a], _ => kernel_rfl
  | [a, b], _ => kernel_rfl
  | [a, b, c], _ => kernel_rfl
  | [a, b, c, d], _ => kernel_rfl
theorem call_zipN {ls : List Addr} {Q : Value → Shared → Prop} (h4 : ls.length = 1 ∨ ls.length = 2 ∨ ls.length = 3 ∨ ls.length = 4) (hl : ∀ l ∈ ls, ∃ xs, s.heap.IsList l xs)
    (h : ∀ h', ZMade s.heap h' ls → Q (.ref (s.heap.objs.size + ls.length + 2)) { s with heap := h' }) :
    wpAny (model prog w) A (call (.type "zip") (ls.map Value.ref)) Q E s := by
  refine callType_new F.called_zip (by decide) (typeCall_z h4) (newCall_z h4) (fun obj => args_init_z obj h4) F.entry_zip_new (zip_new (by omega)) ⟨hl, fun h' Z => ?_⟩
  obtain ⟨f0, f1, hz, _⟩ := Z.z.zp
  exact ⟨⟨_, hz, rfl⟩, h h' Z⟩
end
end LF
set_option Elab.async false
set_option linter.all false
set_option maxRecDepth 100000
set_option maxHeartbeats 4000000
/-! zip( *xs ) to a target of one name: the walk. -/
namespace LF
open PySem PySem.Spec PyProof.Rows L2

theorem addr_ne {a b : Addr} (h : @LT.lt Nat _ a b ∨ @LT.lt Nat _ b a) : a ≠ b := h.elim Nat.ne_of_lt Nat.ne_of_gt
theorem pick_list {α : Type} (P : Nat → α → Prop) : ∀ n : Nat, (∀ j, j < n → ∃ u, P j u) → ∃ us : List α, us.length = n ∧ ∀ (j : Nat) (u : α), us[j]? = some u → P j u
  | 0, _ => ⟨[], rfl, fun j u h => by simp at h⟩
  | n + 1, h => by
    obtain ⟨us, hl, hp⟩ := pick_list P n fun j hj => h j (by omega)
    obtain ⟨u, hu⟩ := h n (by omega)
    refine ⟨us ++ [u], by simp [hl], fun j v e => ?_⟩
    by_cases hj : j < us.length
    · rw [List.getElem?_append_left hj] at e
      exact hp j v e
    · rw [List.getElem?_append_right (by omega)] at e
      have hj2 : j - us.length = 0 := by
        rcases Nat.eq_zero_or_pos (j - us.length) with q | q
        · exact q
        · rw [List.getElem?_eq_none (by show 1 ≤ _; omega)] at e; cases e
      rw [hj2] at e
      have : j = n := by omega
      subst this
      cases e
      exact hu
theorem vals_of_get : ∀ {xs : List V} {us : List Value}, xs.length = us.length → (∀ (j : Nat) (x : V) (u : Value), xs[j]? = some x → us[j]? = some u → RelV x u) → Vals xs us
  | [], [], _, _ => .nil
  | [], _ :: _, h, _ => by simp at h
  | _ :: _, [], h, _ => by simp at h
  | x :: xs, u :: us, h, f => .cons (f 0 x u rfl rfl) (vals_of_get (by simpa using h) fun j y v a b => f (j + 1) y v a b)

/-- the lists ls as they stand at each turn, the items in new tuples -/
def ItzN (K : PySem.W.Frag) (ls : List Addr) : It :=
  ⟨fun i H => ∃ ys : List V, ys.length = ls.length ∧ ∀ (j : Nat) (l : Addr) (y : V), ls[j]? = some l → ys[j]? = some y → ∃ xs, SqL K H l xs ∧ xs[i]? = some y,
    fun i H v H' => ∃ (T : Addr) (ys : List V), v = .ref T ∧ H T = none ∧ H' = upd H T (.tup ys) ∧ ys.length = ls.length ∧ ∀ (j : Nat) (l : Addr) (y : V), ls[j]? = some l → ys[j]? = some y → ∀ xs, SqL K H l xs → xs[i]? = some y,
    fun i H => ∀ l, ls[0]? = some l → ∃ xs, SqL K H l xs ∧ xs.length ≤ i⟩

theorem turn_zipN {P : Program} {w : World} {K : PySem.W.Frag} {y : Str} {py : Pos} {z TI TO : Addr} {its ls : List Addr} (D : ZipN z TI TO its ls) (hne : its ≠ []) (hle : its.length ≤ 1000) :
    Turn P w K (.Name y py) (ItzN K ls) (z :: TI :: TO :: its) z (fun i h => ZipS h z TI TO its ls i) where
  mem := by simp
  obj := fun i h st c hc => by
    rcases List.mem_cons.mp hc with q | hc
    · obtain ⟨f0, f1, hz, _⟩ := st.zp
      rw [q]; exact ⟨_, hz, fun v q => nomatch q⟩
    · rcases List.mem_cons.mp hc with q | hc
      · rw [q]; exact ⟨_, st.ti, fun v q => nomatch q⟩
      · rcases List.mem_cons.mp hc with q | hc
        · obtain ⟨vs, _, hTO⟩ := st.to
          rw [q]; exact ⟨_, hTO, fun v q => nomatch q⟩
        · obtain ⟨j, hj⟩ := List.mem_iff_getElem?.mp hc
          have hjl : j < ls.length := by rw [D.len]; exact (List.getElem?_eq_some_iff.mp hj).1
          obtain ⟨o, e, _, d⟩ := st.it j c _ hj (List.getElem?_eq_getElem hjl)
          exact ⟨o, e, fun v q => by rw [d] at q; cases q⟩
  keep := fun i h h' st k => by
    obtain ⟨f0, f1, hz, hf⟩ := st.zp
    obtain ⟨vs, hv, hTO⟩ := st.to
    refine ⟨⟨f0, f1, k z (by simp) _ hz, hf⟩, k TI (by simp) _ st.ti, ⟨vs, hv, k TO (by simp) _ hTO⟩, fun j a l ea el => ?_⟩
    exact (st.it j a l ea el).at fun o q => k a (by simp [List.mem_of_getElem? ea]) o q
  item := by
    intro X hP hw hK hc i pins s σ H E I hf st hg
    subst hP hw hK
    obtain ⟨ys, hyl, hys⟩ := hg
    obtain ⟨us, hul, hus⟩ := pick_list (fun j u => ∃ (y : V) (l : Addr) (its : List Value), ys[j]? = some y ∧ ls[j]? = some l ∧ RelV y u ∧ s.heap.IsList l its.toArray ∧ its[i]? = some u) ls.length fun j hj => by
      have hj2 : j < ys.length := by omega
      obtain ⟨xs, hq, hx⟩ := hys j _ _ (List.getElem?_eq_getElem hj) (List.getElem?_eq_getElem hj2)
      obtain ⟨its, rv, p, _⟩ := I.list hq
      obtain ⟨u, hu, ru⟩ := rv.get hx
      exact ⟨u, _, _, its, List.getElem?_eq_getElem hj2, List.getElem?_eq_getElem hj, ru, p.isList, hu⟩
    have hI : Items s.heap ls i us := ⟨hul, fun j l u el eu => by
      obtain ⟨y, l', its, _, el', _, hl, hx⟩ := hus j u eu
      rw [el] at el'
      cases el'
      exact ⟨its.toArray, hl, by simpa using hx⟩⟩
    have hV : Vals ys us := vals_of_get (by omega) fun j y u ey eu => by
      obtain ⟨y', l', its, ey', _, r, _⟩ := hus j u eu
      rw [ey] at ey'
      cases ey'
      exact r
    obtain ⟨f0, f1, hz, _⟩ := st.zp
    have hzl : z < s.heap.objs.size := Heap.lt_size hz
    refine pyNext_zip_item D hne hle st hI fun h' st' hT hsz hk => ?_
    refine ⟨_, rfl, wpAny_pure ?_⟩
    have hy1000 : us.length ≤ 1000 := by rw [hul, D.len]; exact hle
    have hs0 : sizeLine = 16777216 := sizeLine_eq
    have new : ObjOk X.prog X.w (upd H s.heap.objs.size (.tup ys)) h' s.heap.objs.size (.tup ys) :=
      ⟨by show ys.length ≤ sizeLine; omega, us, hV, ⟨_, hT, rfl, _, rfl⟩⟩
    have I1 : Inv X pins σ (upd H s.heap.objs.size (.tup ys)) { s with heap := h' } :=
      I.turnedNew (t' := s.toks) (ch := z :: TI :: TO :: its) (fun c o hb q => hk c o (fun q' => hb (by simp [q'])) (fun q' => hb (by simp [q'])) (fun q' => hb (by simp [q'])) q) hf (Nat.le_refl _) new
    refine ⟨.ref s.heap.objs.size, _, I1, rfl, ⟨_, ys, rfl, I.hok.fresh (Nat.le_refl _), rfl, hyl, fun j l y el ey xs hq => ?_⟩, st', fun c hcm => ?_⟩
    · obtain ⟨xs', hq', hx⟩ := hys j l y el ey
      rw [I.list_inj hq hq']
      exact hx
    · have hlt : c < s.heap.objs.size := by
        rcases List.mem_cons.mp hcm with q | hc
        · rw [q]; exact hzl
        · rcases List.mem_cons.mp hc with q | hc
          · rw [q]; exact Heap.lt_size st.ti
          · rcases List.mem_cons.mp hc with q | hc
            · obtain ⟨vs, _, hTO⟩ := st.to
              rw [q]; exact Heap.lt_size hTO
            · obtain ⟨j, hj⟩ := List.mem_iff_getElem?.mp hc
              have hjl : j < ls.length := by rw [D.len]; exact (List.getElem?_eq_some_iff.mp hj).1
              obtain ⟨o, e, _, d⟩ := st.it j c _ hj (List.getElem?_eq_getElem hjl)
              exact Heap.lt_size e
      rw [upd_ne (Nat.ne_of_lt hlt)]
      exact (hf c hcm).1
  done := by
    intro X hP hw hK hc i pins s σ H E I hf st hg
    subst hP hw hK
    refine pyNext_zip_end (I.ok.hd hc) D hne st (fun l el => ?_) fun h' hk => ⟨rfl, I.turnedL (t' := s.toks) (ch := z :: TI :: TO :: its) (fun c o hb q =>
      hk c o (fun q' => hb (by simp [q'])) (fun q' => hb (by simp [q'])) (fun q' => hb (by simp [q'])) q) hf⟩
    obtain ⟨xs, hq, hx⟩ := hg l el
    obtain ⟨its, rv, p, _⟩ := I.list hq
    have l1 := rv.length
    exact ⟨its.toArray, p.isList, by simp; omega⟩
  self := fun A i s Q E st h => pyIter_zipN st h

def iZipN (K : PySem.W.Frag) (te : TE) : TI := fun σ H R => te σ H fun x H1 => ∃ (a : Addr) (ls : List Addr), x = .ref a ∧ SqL K H1 a (ls.map V.ref) ∧ (ls.length = 1 ∨ ls.length = 2 ∨ ls.length = 3 ∨ ls.length = 4) ∧ (∀ l ∈ ls, ∃ xs, SqL K H1 l xs) ∧ R (ItzN K ls) H1
theorem pi_zipN {X : Cx} {e : Expr} {te : TE} {p q pos tpos : Pos} {y : Str} (hg : Gl X "zip") (hm : X.mg "zip" = none) (he : PE X e te)
    (hst : starEach [.Starred e q] X.env = [(true, eval e X.env)] := by rfl) :
    PI X (.Name y tpos) (.Call (.Name "zip" p) [.Starred e q] [] pos) (iZipN X.K te) := by
  refine ⟨fun pins s σ H R I h => ?_⟩
  refine Call_ (ld_blt I hg hm PyProof.Rows.boot_zip ?_)
  show wpAny _ _ (callWith pos (.type "zip") [] (backTo pos (starEach [.Starred e q] X.env)) []) _ _ _
  rw [hst]
  refine PySem.W.ks_call (P := fun _ => True) rfl (fun h _ => ⟨.machine, .inr (.inl rfl), PySem.W.Looks.of_pure rfl⟩) (PySem.W.ks_lone (thn (he.run pins s σ H _ I h) fun v s1 ⟨x, H1, I1, rx, q1⟩ => ?_))
  obtain ⟨a, ls, rfl, hq, h4, hls, q1⟩ := q1
  obtain rfl : v = Value.ref a := rx
  refine StX.star_any I1 (.inr hq) fun us s2 I2 rv => ⟨trivial, ?_⟩
  have eus : us = ls.map Value.ref := by
    clear hq h4 hls q1
    induction ls generalizing us with
    | nil => cases rv; rfl
    | cons b ls ih =>
      cases rv with
      | cons r t =>
        have r' : _ = Value.ref b := r
        rw [List.map_cons, ← ih _ t, r']
  subst eus
  show wpAny _ _ (call (.type "zip") (ls.map Value.ref) []) _ _ _
  have hlt : ∀ l ∈ ls, @LT.lt Nat _ l s2.heap.objs.size := fun l hl => by
    obtain ⟨xs, hx⟩ := hls l hl
    obtain ⟨its, r, pl, _⟩ := I2.list hx
    exact pl.lt
  refine call_zipN h4 (fun l hl => ?_) fun h' Z => ?_
  · obtain ⟨xs, hx⟩ := hls l hl
    obtain ⟨its, r, pl, _⟩ := I2.list hx
    exact ⟨_, pl.isList⟩
  refine pyIter_zipN Z.z ?_
  have I3 : Inv X pins σ H1 { s2 with heap := h' } := I2.kept (t' := s2.toks) Z.keep
  have D : ZipN (s2.heap.objs.size + ls.length + 2) (s2.heap.objs.size + ls.length) (s2.heap.objs.size + ls.length + 1) ((List.range ls.length).map (s2.heap.objs.size + ·)) ls := by
    have mr : ∀ a ∈ (List.range ls.length).map (s2.heap.objs.size + ·), s2.heap.objs.size ≤ a ∧ a < s2.heap.objs.size + ls.length := fun a ha => by
      obtain ⟨j, hj, rfl⟩ := List.mem_map.mp ha
      have := List.mem_range.mp hj
      show s2.heap.objs.size ≤ s2.heap.objs.size + j ∧ _
      omega
    have nn : ∀ {a b : Nat}, a < b → a ≠ b := fun h => Nat.ne_of_lt h
    refine ⟨addr_ne (.inl (by omega)), addr_ne (.inl (by omega)), addr_ne (.inl (by omega)), fun a ha => ?_, fun a ha => ?_, fun a ha => ?_, ?_, by simp, fun l hl => ?_, fun l hl => ?_, fun l hl a ha => ?_⟩
    · have := mr a ha; exact addr_ne (.inl (by omega))
    · have := mr a ha; exact addr_ne (.inl (by omega))
    · have := mr a ha; exact addr_ne (.inl (by omega))
    · refine List.pairwise_map.mpr (List.Pairwise.imp (fun {a b} h z => h (Nat.add_left_cancel z)) List.nodup_range)
    · have := hlt l hl; exact addr_ne (.inl (by omega))
    · have := hlt l hl; exact addr_ne (.inl (by omega))
    · have := hlt l hl; have := mr a ha; exact addr_ne (.inl (by omega))
  have hne : (List.range ls.length).map (s2.heap.objs.size + ·) ≠ [] := by
    intro z
    have := congrArg List.length z
    simp at this
    rw [this] at h4
    simp at h4
  refine ⟨s2.heap.objs.size + ls.length + 2, _, _, _, H1, rfl, I3, turn_zipN D hne (by simp; omega), Z.z, fun c hcm => ?_, q1⟩
  have hle : s2.heap.objs.size ≤ c := by
    rcases List.mem_cons.mp hcm with q | hc
    · rw [q]; omega
    · rcases List.mem_cons.mp hc with q | hc
      · rw [q]; omega
      · rcases List.mem_cons.mp hc with q | hc
        · rw [q]; omega
        · obtain ⟨j, hj, rfl⟩ := List.mem_map.mp hc
          show s2.heap.objs.size ≤ s2.heap.objs.size + j
          omega
  exact I2.fpOk hle (I2.hok.fresh hle)

/-- n rows: the i-th is what stands at i in each of the lists -/
theorem walk_zipN {K : PySem.W.Frag} {ls : List Addr} {xss : List (List V)} {n : Nat} (hne : ls ≠ []) (hl : xss.length = ls.length) (hn : ∀ xs ∈ xss, xs.length = n) :
    Walk (ItzN K ls) n (fun H => ∀ (j : Nat) (l : Addr) (xs : List V), ls[j]? = some l → xss[j]? = some xs → SqL K H l xs)
      (fun i H v H' => ∃ (T : Addr) (ys : List V), v = .ref T ∧ H T = none ∧ H' = upd H T (.tup ys) ∧ ys.length = ls.length ∧ ∀ (j : Nat) (xs : List V) (y : V), xss[j]? = some xs → ys[j]? = some y → xs[i]? = some y) := by
  refine ⟨fun i H hi q => ?_, fun H q l el => ?_, fun i H v H' hi q y => ?_⟩
  · obtain ⟨ys, h1, h2⟩ := pick_list (fun j y => ∃ xs, xss[j]? = some xs ∧ xs[i]? = some y) ls.length fun j hj => by
      have hj2 : j < xss.length := by omega
      have hi2 : i < xss[j].length := by rw [hn _ (List.getElem_mem hj2)]; exact hi
      exact ⟨_, _, List.getElem?_eq_getElem hj2, List.getElem?_eq_getElem hi2⟩
    refine ⟨ys, h1, fun j l y el ey => ?_⟩
    obtain ⟨xs, ex, hx⟩ := h2 j y ey
    exact ⟨xs, q j l xs el ex, hx⟩
  · have h0 : 0 < xss.length := by rw [hl]; exact (List.getElem?_eq_some_iff.mp el).1
    exact ⟨xss[0], q 0 l _ el (List.getElem?_eq_getElem h0), by rw [hn _ (List.getElem_mem h0)]; exact Nat.le_refl _⟩
  · obtain ⟨T, ys, h1, h2, h3, h4, h5⟩ := y
    refine ⟨T, ys, h1, h2, h3, h4, fun j xs y ex ey => ?_⟩
    have hj : j < ls.length := by rw [← hl]; exact (List.getElem?_eq_some_iff.mp ex).1
    exact h5 j _ y (List.getElem?_eq_getElem hj) ey xs (q j _ xs (List.getElem?_eq_getElem hj) ex)
end LF
set_option Elab.async false
set_option linter.all false
set_option maxRecDepth 100000
set_option maxHeartbeats 4000000
/-! enumerate over a tuple. -/
namespace LF
open PySem PySem.Spec PyProof.Rows L2
open AutoSeq1 (wpAny_loadPart')

theorem meets_enumerate_newT (l : Addr) (items : Array Value) (o : Obj) (n : Nat) :
    Meets (Builtin.«enumerate.__new__» ⟨[.type "enumerate", .ref l], []⟩) (fun _ R s => (s.heap.get? l = some o ∧ o.cls = .type "tuple" ∧ o.data = .seq items n) ∧
      R (.ok (.ret (.ref (s.heap.push { cls := .type "tuple_iterator", data := .fields #[.ref l, .int 0 0] }).objs.size)))
        { s with heap := (s.heap.push { cls := .type "tuple_iterator", data := .fields #[.ref l, .int 0 0] }).push { cls := .type "enumerate", data := .fields #[.none, .bool false, .ref s.heap.objs.size, rawInt 0, .none, .none] } }) :=
  .of_wp fun prog w A R s h => by
    obtain ⟨hp, g, d, tk, os⟩ := s; obtain ⟨⟨hl, hc, hd⟩, h⟩ := h
    obtain ⟨c, dct, dt, sl⟩ := o
    replace hc : c = .type "tuple" := hc
    replace hd : dt = .seq items n := hd
    subst hc hd
    have hsub := sub_enumerate
    have hL : Heap.IsTuple (Shared.heap ⟨hp, g, d, tk, os⟩) l items := ⟨_, hl, rfl, n, rfl⟩
    wp_walk using wpAny_loadPart' hl
    refine wpAny_stack_any fun st => wpAny_pure ?_
    split
    · rename_i c _ _ _ _ _
      cases (c == Value.type "enumerate")
      · wp_walk using wpAny_loadPart' hl, wpAny_pyIter_tuple hL
        exact ⟨_, rfl, h⟩
      · wp_walk using wpAny_loadPart' hl, wpAny_pyIter_tuple hL
        exact ⟨_, rfl, h⟩
    · wp_walk using wpAny_loadPart' hl, wpAny_pyIter_tuple hL
      exact ⟨_, rfl, h⟩

section
variable {prog : Program} {w : World} {A : Around} {E : Value → Shared → Prop} {s : Shared}
theorem call_enumerate_tuple {l : Addr} {items : Array Value} {Q : Value → Shared → Prop} (hL : s.heap.IsTuple l items)
    (h : ∀ h', IsEnum h' (s.heap.objs.size + 1) s.heap.objs.size 0 .none → h'.IsTupleIter s.heap.objs.size l 0 → h'.objs.size = s.heap.objs.size + 2 →
      (∀ b o, s.heap.get? b = some o → h'.get? b = some o) → Q (.ref (s.heap.objs.size + 1)) { s with heap := h' }) :
    wpAny (model prog w) A (call (.type "enumerate") [.ref l]) Q E s := by
  obtain ⟨o, hl, hc, n, hd⟩ := hL
  refine callType_new F.called_enumerate (by decide) (F.typeCall_enumerate_1 _) (F.newCall_enumerate_1 _) (fun obj => F.args_object_init_2 obj _) F.entry_enumerate_new
    (meets_enumerate_newT l items o n) ⟨⟨hl, hc, hd⟩, ?_⟩
  have hz : (s.heap.push { cls := .type "tuple_iterator", data := .fields #[.ref l, .int 0 0] }).objs.size = s.heap.objs.size + 1 := Heap.size_push ..
  show _ ∧ _
  rw [hz]
  have he : IsEnum ((s.heap.push { cls := .type "tuple_iterator", data := .fields #[.ref l, .int 0 0] }).push
      { cls := .type "enumerate", data := .fields #[.none, .bool false, .ref s.heap.objs.size, rawInt 0, .none, .none] }) (s.heap.objs.size + 1) s.heap.objs.size 0 .none := by
    have := Heap.get?_push_size (s.heap.push { cls := .type "tuple_iterator", data := .fields #[.ref l, .int 0 0] })
      (o := { cls := .type "enumerate", data := .fields #[.none, .bool false, .ref s.heap.objs.size, rawInt 0, .none, .none] }) rfl
    rw [hz] at this; exact this
  refine ⟨⟨_, he, rfl⟩, h _ he ⟨_, Heap.get?_push_of_some _ (Heap.get?_push_size _ rfl), rfl, rfl⟩ (by rw [Heap.size_push, hz]) fun b o x => Heap.get?_push_of_some _ (Heap.get?_push_of_some _ x)⟩
end

/-- the tuple at a, each item in a new pair -/
def IteT (K : PySem.W.Frag) (a : Addr) : It :=
  ⟨fun i H => ∃ (xs : List V) (x : V), SqT K H a xs ∧ xs[i]? = some x, fun i H v H' => ∃ T x, v = .ref T ∧ H T = none ∧ H' = upd H T (.tup [.int (i : Nat), x]) ∧ ∀ xs, SqT K H a xs → xs[i]? = some x, fun i H => ∃ xs : List V, SqT K H a xs ∧ xs.length = i⟩
theorem turn_enumT {P : Program} {w : World} {K : PySem.W.Frag} {elts : List Expr} {kk : Nat} {tpos : Pos} (a e it : Addr) :
    Turn P w K (.Tuple elts kk tpos) (IteT K a) [e, it] e (fun i h => (∃ old, IsEnum h e it ((i : Nat) : Int) old) ∧ h.IsTupleIter it a i ∧ e ≠ it ∧ a ≠ it ∧ e ≠ a) where
  mem := by simp
  obj := fun i h st b hb => by
    obtain ⟨⟨old, he⟩, ⟨o, ho, hc, hd⟩, _⟩ := st
    have e' : b = e ∨ b = it := by simpa using hb
    rcases e' with z | z
    · rw [z]; exact ⟨_, he, fun v q => nomatch q⟩
    · rw [z]; exact ⟨o, ho, fun v q => by rw [hd] at q; cases q⟩
  keep := fun i h h' st k => let ⟨⟨old, he⟩, hi, hne⟩ := st; ⟨⟨old, k e (by simp) _ he⟩, hi.at fun o q => k it (by simp) o q, hne⟩
  item := by
    intro X hP hw hK hc i pins s σ H E I hf st hg
    subst hP hw hK
    obtain ⟨⟨old, he⟩, hit, hne, hai, hea⟩ := st
    obtain ⟨xs, x, hq, hx⟩ := hg
    obtain ⟨its, rv, p, hz⟩ := I.tuple hq
    obtain ⟨u, hu, ru⟩ := rv.get hx
    have hel : e < s.heap.objs.size := Heap.lt_size he
    have hil : it < s.heap.objs.size := by obtain ⟨_, q, _⟩ := hit; exact Heap.lt_size q
    have hlt : i < its.toArray.size := by
      have := (List.getElem?_eq_some_iff.mp hu).1
      simpa using this
    have D : Draws X.prog X.w X.A.in1 it [it, a] its.toArray.size (fun i v => its.toArray[i]? = some v) (fun i h => h.IsTupleIter it a i ∧ h.IsTuple a its.toArray) := Draws.tuple (show X.A.in1.handled = none from I.ok.hd hc) it a hai its.toArray
    refine wpAny_pyNext_enum_itemD D he ⟨hit, p⟩ hlt hne (by simp [hne, hea]) fun v h' tk hv ho hit' hT hsz hk => ?_
    have hv' : v = u := by
      have : its.toArray[i]? = some u := by simpa using hu
      rw [this] at hv
      exact (Option.some.inj hv).symm
    subst hv'
    refine ⟨_, rfl, wpAny_letOwnedTupleGo_enum (s := { s with heap := h', toks := tk + 1 }) ho fun h'' he' sb => ?_⟩
    have hT2 : h''.get? s.heap.objs.size = some { cls := .type "tuple", data := .seq #[.int i tk, v] } := (sb.2 _ (Nat.ne_of_gt hel)).trans hT
    have new : ObjOk X.prog X.w (upd H s.heap.objs.size (.tup [.int (i : Nat), x])) h'' s.heap.objs.size (.tup [.int (i : Nat), x]) :=
      ⟨by show 2 ≤ sizeLine; decide, [.int i tk, v], .cons ⟨_, rfl⟩ (.cons ru .nil), ⟨_, hT2, rfl, _, rfl⟩⟩
    have I1 : Inv X pins σ (upd H s.heap.objs.size (.tup [.int (i : Nat), x])) { s with heap := h'', toks := tk + 1 } :=
      I.turnedNew (ch := [e, it]) (fun b ob hb q => (sb.2 b (fun z => hb (by simp [z]))).trans (hk b ob (fun z => hb (by simp [z])) (fun z => hb (by simp [z])) q)) hf (Nat.le_refl _) new
    refine ⟨.ref s.heap.objs.size, _, I1, rfl, ⟨_, x, rfl, I.hok.fresh (Nat.le_refl _), rfl, fun ys hy => by rw [I.tuple_inj hy hq]; exact hx⟩, ⟨⟨v, ?_⟩, hit'.1.at fun o q => (sb.2 it (Ne.symm hne)).trans q, hne, hai, hea⟩, fun b hb => ?_⟩
    · have e1 : ((i + 1 : Nat) : Int) = (i : Int) + 1 := by omega
      rw [e1]; exact he'
    · have hb' : b < s.heap.objs.size := by
        have e' : b = e ∨ b = it := by simpa using hb
        rcases e' with z | z
        · rw [z]; exact hel
        · rw [z]; exact hil
      rw [upd_ne (Nat.ne_of_lt hb')]
      exact (hf b hb).1
  done := by
    intro X hP hw hK hc i pins s σ H E I hf st hg
    subst hP hw hK
    obtain ⟨⟨old, he⟩, hit, hne, hai, hea⟩ := st
    obtain ⟨xs, hq, hx⟩ := hg
    obtain ⟨its, rv, p, hz⟩ := I.tuple hq
    obtain ⟨f0, f1, f2, f3, f4, f5⟩ := hf it (by simp)
    have hl := rv.length
    have D : Draws X.prog X.w X.A.in1 it [it, a] its.toArray.size (fun i v => its.toArray[i]? = some v) (fun i h => h.IsTupleIter it a i ∧ h.IsTuple a its.toArray) := Draws.tuple (show X.A.in1.handled = none from I.ok.hd hc) it a hai its.toArray
    have hi : i = its.toArray.size := by simp; omega
    rw [hi] at hit
    exact wpAny_pyNext_enum_endD D he ⟨hit, p⟩ fun h' eb => ⟨rfl, I.turned (t' := s.toks) (fun b o hb q => eb b o hb q) f0 f1 f3 f4 f5⟩
  self := fun A i s Q E st h => let ⟨⟨_, he⟩, _⟩ := st; wpAny_pyIter_enum he h
def iEnumT (K : PySem.W.Frag) (ta : TA) : TI := fun σ H R => ta σ H fun vs H1 => ∃ a xs, vs = [.ref a] ∧ SqT K H1 a xs ∧ R (IteT K a) H1
theorem pi_enumT {X : Cx} {e : Expr} {ta : TA} {p pos tpos : Pos} {elts : List Expr} {kk : Nat} (hg : Gl X "enumerate") (hm : X.mg "enumerate" = none) (ha : PA X [e] ta) (hs : starEach [e] X.env = [(false, eval e X.env)] := by rfl) :
    PI X (.Tuple elts kk tpos) (.Call (.Name "enumerate" p) [e] [] pos) (iEnumT X.K ta) := by
  refine ⟨fun pins s σ H R I h => ?_⟩
  refine Call_ (ld_blt I hg hm boot_enumerate (PyProof.Rows.callWith_type1 (thn (ha.run pos pins s σ H _ I h) fun us s1 ⟨vs, H1, I1, r1, q1⟩ => ?_) hs rfl))
  obtain ⟨a, xs, ex, hq, q⟩ := q1
  subst ex
  cases r1 with
  | cons r rr =>
    cases rr
    cases r
    obtain ⟨its, rv, p', hz⟩ := I1.tuple hq
    have hal : @LT.lt Nat _ a s1.heap.objs.size := by obtain ⟨_, e, _⟩ := id p'; exact Heap.lt_size e
    refine call_enumerate_tuple p' fun h' he hit hsz hk => wpAny_pyIter_enum he ?_
    have I2 : Inv X pins σ H1 { s1 with heap := h' } := I1.kept (t' := s1.toks) hk
    refine ⟨s1.heap.objs.size + 1, [s1.heap.objs.size + 1, s1.heap.objs.size], _, _, H1, rfl, I2, turn_enumT a (s1.heap.objs.size + 1) s1.heap.objs.size, ⟨⟨.none, he⟩, hit, Nat.succ_ne_self _, Nat.ne_of_lt hal, addr_ne (.inr (by omega))⟩, fun b hb => ?_, q⟩
    have e' : b = s1.heap.objs.size + 1 ∨ b = s1.heap.objs.size := by simpa using hb
    have hle : s1.heap.objs.size ≤ b := by
      rcases e' with z | z
      · rw [z]; exact Nat.le_add_right _ _
      · rw [z]; exact Nat.le_refl _
    exact I1.fpOk hle (I1.hok.fresh hle)
theorem walk_enumT {K : PySem.W.Frag} {a : Addr} {xs : List V} : Walk (IteT K a) xs.length (fun H => SqT K H a xs) (YPair (fun i => some (.int (i : Nat))) (fun i => xs[i]?)) := by
  refine ⟨fun i _ hi q => ⟨xs, xs[i], q, by simp [hi]⟩, fun _ q => ⟨xs, q, rfl⟩, fun i H v H' _ q y => ?_⟩
  obtain ⟨T, x, h1, h2, h3, h4⟩ := y
  exact ⟨T, .int (i : Nat), x, h1, h2, h3, rfl, h4 xs q⟩
end LF
set_option Elab.async false
set_option linter.all false
set_option maxRecDepth 100000
set_option maxHeartbeats 4000000
/-! match with literal cases; text * int; repr; defs that are called outside of any repr. -/
namespace LF
open PySem PySem.Spec PyProof.Rows L2

section
variable {X : Cx}
/-- one more case ahead -/
def tCase (z : Str) (t u : V → TS) : V → TS := fun x D σ H => scal x (.str z) = true ∧ (if decide (x = .str z) = true then t x D σ H else u x D σ H)
structure PMs (X : Cx) (cs : List MatchCase) (t : V → TS) : Prop where
  run : ∀ (pins : List (Addr × Obj)) (s : Shared) (σ : L2.St) (H : Hp) (D : Ends) (x : V) (v : Value) (first : Bool), Inv X pins σ H s → RelV x v → t x D σ H → wpAny (model X.prog X.w) X.A (matchCases cs X.env v first) (SP X pins D) X.xe s
theorem pms_nil : PMs X [] (fun _ D σ H => D.nx σ H) := ⟨fun pins s σ H D x v first I r h => wpAny_matchCases_nil ⟨σ, H, I, h⟩⟩
theorem pms_str {z : Str} {j : Nat} {p1 p2 : Pos} {body : List Stmt} {rest : List MatchCase} {t : TS} {u : V → TS} (hb : PSs X body t) (hr : PMs X rest u) :
    PMs X (⟨.MatchValue (.Constant (.str z) j p1) p2, none, body⟩ :: rest) (tCase z (fun _ => t) u) := by
  refine ⟨fun pins s σ H D x v first I r h => ?_⟩
  obtain ⟨hs, h⟩ := h
  refine wpAny_matchCases_cons (wpAny_matchPattern_Value ?_)
  refine thn ((pe_str (x := z) (j := j) (pos := p1)).run pins s σ H (fun y H1 => y = .str z ∧ H1 = H) I ⟨rfl, rfl⟩) fun y s1 ⟨yv, H1, I1, ry, e1, e2⟩ => ?_
  subst e1 e2
  refine thn (op_eq pins s1 σ H1 x (.str z) v y (fun b H2 => b = .bl (decide (x = .str z)) ∧ H2 = H1) I1 r ry ⟨hs, rfl, rfl⟩) fun c s2 ⟨cv, H2, I2, rc, e3, e4⟩ => ?_
  subst e3 e4
  cases rc
  refine wpAny_truthy_bool ?_
  cases hd : decide (x = .str z) with
  | true =>
    rw [hd] at h
    simp only [if_true] at h ⊢
    exact wpAny_assignInOrder_none (hb.run pins s2 σ H2 D I2 h)
  | false =>
    rw [hd] at h
    simp only [Bool.false_eq_true, if_false] at h ⊢
    exact hr.run pins s2 σ H2 D x v false I2 r h
def tMatch (te : TE) (t : V → TS) : TS := fun D σ H => te σ H fun x H1 => t x D σ H1
theorem ps_match {e : Expr} {cs : List MatchCase} {pos : Pos} {te : TE} {t : V → TS} (he : PE X e te) (hm : PMs X cs t) : PS X (.Match e cs pos) (tMatch te t) := by
  refine ⟨fun pins s σ H D I h => wpAny_Match ?_⟩
  exact thn (he.run pins s σ H _ I h) fun v s1 ⟨x, H1, I1, r, q⟩ => hm.run pins s1 σ H1 D x v true I1 r q

/-! ### text * int -/
def rMulS : R2 := fun x y H Q => ∃ (z : Str) (k : Nat), x = .str z ∧ y = .int (k : Nat) ∧ 1 ≤ k ∧ k ≤ 1000 ∧ z.length ≤ 1000 ∧ z.length ≠ 0 ∧ Q (.str ⟨(List.replicate k z.cps).foldl (· ++ ·) #[]⟩) H
theorem op_mulS : OpR X (binaryOp .Mult) rMulS := by
  intro pins s σ H x y v u Q I rx ry h
  obtain ⟨z, k, rfl, rfl, h1, h2, h3, h4, q⟩ := h
  obtain ⟨t, rfl⟩ := rx
  obtain ⟨t', rfl⟩ := ry
  have hs : sizeLine = 16777216 := sizeLine_eq
  have hlo : decide (((k : Nat) : Int) < -(2 ^ 63 : Int)) = false := decide_eq_false (by omega)
  have hhi : decide (((k : Nat) : Int) ≥ 2 ^ 63) = false := decide_eq_false (by omega)
  refine P.mul_str (by rw [hlo, hhi]; rfl) (fun _ _ => ?_) (fun _ _ => ?_) ?_
  · have : ((2 : Int) ^ 63 - 1) / (k : Int) ≥ 1000 := by
      refine (Int.le_ediv_iff_mul_le (by omega)).mpr ?_
      omega
    omega
  · have hm : z.length * k ≤ 1000 * 1000 := Nat.mul_le_mul h3 h2
    show Builtin.Str.tooLong (z.length * ((k : Nat) : Int).toNat) = false
    rw [Int.toNat_natCast]
    unfold Builtin.Str.tooLong
    refine decide_eq_false ?_
    omega
  · rw [if_neg (by omega)]
    by_cases hk : k = 1
    · subst hk
      rw [if_pos (by simp)]
      have e : (List.replicate 1 z.cps).foldl (· ++ ·) #[] = z.cps := by simp
      rw [e] at q
      exact ⟨.str z, H, I, ⟨_, rfl⟩, q⟩
    · rw [if_neg (by simp; omega)]
      have hl : ∀ (n : Nat) (acc : Array Nat), ((List.replicate n z.cps).foldl (· ++ ·) acc).size = acc.size + n * z.cps.size := fun n => by
        induction n with
        | zero => intro acc; simp
        | succ n ih => intro acc; rw [List.replicate_succ, List.foldl_cons, ih]; simp [Nat.succ_mul]; omega
      have hz : ((List.replicate ((k : Nat) : Int).toNat z.cps).foldl (· ++ ·) #[]).size ≤ 1000 * 1000 := by
        rw [hl, Int.toNat_natCast]
        have hm : k * z.cps.size ≤ 1000 * 1000 := Nat.mul_le_mul h2 h3
        simpa using hm
      refine ⟨?_, ?_⟩
      · exact Nat.le_trans hz (by omega)
      · rw [Int.toNat_natCast]
        exact ⟨.str _, H, I.tok _, ⟨_, rfl⟩, q⟩

/-! ### repr -/
def rRepr (K : PySem.W.Frag) : List V → Hp → VK → Prop := fun xs H Q => ∃ (a : Addr) (d : PyData), xs = [.ref a] ∧ Dp K H (.ref a) d ∧ d.showable = true ∧ d.hasDict = false ∧ d.depth ≤ 60 ∧ d.shown.length ≤ sizeLine ∧ Q (.str d.shown) H
theorem call_reprD (hg : X.A.guards = some []) (hu : X.A.units + 64 < cLine) : CallR X (.builtin "repr") (rRepr X.K) := by
  intro pins s σ H xs us Q I r h
  obtain ⟨a, d, rfl, hd, h1, h2, h3, h4, q⟩ := h
  obtain ⟨u, rfl, ru⟩ := vals1 r
  obtain rfl : u = Value.ref a := ru
  obtain ⟨as, hr⟩ := Dp.reads I d _ _ hd (rfl : RelV (.ref a) (.ref a))
  exact repr_of_reads' hr h1 (PyData.noDict_hsm h2) hg (by omega) (fun _ _ e => e) (fun h' u tk hk => ⟨.str d.shown, H, I.kept (t' := tk) hk, ⟨_, rfl⟩, q⟩) h4
end

/-! ### defs that are called while no repr runs -/
structure FnG (P : Program) (w : World) (K : PySem.W.Frag) (mg : Str → Option Value) (base : Heap) (CX : CXT) (k : Nat) (f : Addr) (fd : FuncData) (ps : List Str) (sp : Sp) : Prop where
  len : ∀ vs H Q E, sp vs H Q E → vs.length = ps.length
  run : ∀ (A : Around) (outer : List Env) (s : Shared) (H : Hp) (args : Args) (us : List Value) (vs : List V) (Q : VK) (E : XK), A.guards = some [] → Room k A → Env0 P w K mg base A outer s H → BindsTo s fd args (ps.zip us) → Vals vs us → sp vs H Q E →
    codeAny (model P w) A (.call (.ref f) args) (CR CX outer P w H s Q E) s
section
variable {P : Program} {w : World} {K : PySem.W.Frag} {mg : Str → Option Value} {base : Heap}
theorem Fun.okG {x qual : Str} {st : Stmt} {f : Addr} {fd : FuncData} {N ps : List Str} {k : Nat} {sp : Sp} (F : Fun K x qual st f fd) (S : FnScope N ps (defScope st)) (len : ∀ vs H Q E, sp vs H Q E → vs.length = ps.length)
    (hbody : ∀ (cdv : Value) (A : Around) (outer : List Env) (s : Shared) (H : Hp) (vs : List V) (Q : VK) (E : XK), A.guards = some [] → Room k (A.deeper (envOfC qual (defScope st) s.heap.objs.size f cdv)) → sp vs H Q E →
      ∃ t, PSs (cxOf CX0 P w K mg base N qual (defScope st) f cdv A outer s H E).nox (defBody st) t ∧ t { nx := fun _ H' => Q .non H', rt := Q } (start N vs) H) : FnG P w K mg base CX0 (k + 1) f fd ps sp := by
  obtain ⟨oc, od, kV, doc, pm, an, cdv, ct, osl, rfl, lk, hcd⟩ := F.ex
  refine ⟨len, fun A outer s H args us vs Q E hgd hr e0 hb r hsp => ?_⟩
  have hl := len _ _ _ _ hsp
  have KX : K.In s.heap := e0.mod.kin.keeps fun b o e => (e0.bs b o e).1
  have lim : s.heap.NoLimit := e0.mod.nolimit.keeps fun b o e => (e0.bs b o e).1
  have hkind : ∀ y ∈ ps.zip us, (defScope st).names.lookup y.1 = some .local ∨ ((defScope st).names.lookup y.1 = some .cell ∧ ((cellsFrom (s.heap.objs.size + 1) (defScope st).names []).lookup y.1).isSome = true) := fun y hy =>
    (S.par y.1 (List.of_mem_zip (a := y.1) (b := y.2) hy).1).elim .inl fun q => .inr ⟨q, PySem.W.cellsFrom_some _ _ _ (.inl q)⟩
  refine codeAny_call_function hr.depth (KX _ _ lk) rfl S.co S.gen rfl (PySem.W.codeRec_of KX hcd) (hb _ _ _ _ ?_)
  refine wpAny_newFunctionEnv_cells S.kind hkind fun env he s1 x => ?_
  subst he
  refine ⟨lim.keeps x.toInCall.keep, codeAny_func ?_⟩
  obtain ⟨t, ht, hq⟩ := hbody cdv A outer s H vs Q E hgd (hr.deeper _) hsp
  have I : Inv (cxOf CX0 P w K mg base N qual (defScope st) f cdv A outer s H E) [] (start N vs) H s1 := inv_start S hr.hd e0 hl r x
  refine wpAny_mono (ht.nox.run [] s1 (start N vs) H _ I hq) (fun fl s' hs => ?_) fun e s' hs => hs
  have fin : ∀ {σ' : L2.St} {H' : Hp} {v : V} {u : Value}, Inv (cxOf CX0 P w K mg base N qual (defScope st) f cdv A outer s H E) [] σ' H' s' → RelV v u → Q v H' → CE outer P w H s Q u s' :=
    fun {σ' H' v u} J rv q => ⟨v, H', J.os, J.bare, J.base, J.hok, rv, q⟩
  cases fl with
  | ret u => exact let ⟨v, σ', H', J, rv, q⟩ := hs; fin J rv q
  | next => exact let ⟨σ', H', J, q⟩ := hs; fin (v := V.non) (u := Value.none) J rfl q
  | brk => exact let ⟨_, _, _, q⟩ := hs; False.elim q
  | cont => exact let ⟨_, _, _, q⟩ := hs; False.elim q
variable {X : Cx} {CX : CXT} {k : Nat} {f : Addr} {fd : FuncData} {ps : List Str} {sp : Sp} {E : XK} {x : Str} {e : Expr} {es : List Expr} {t : TA} {p pos : Pos} {dvs : List V} {ds : List Value}
theorem pe_callG (F : FnG X.prog X.w X.K X.mg X.base CX k f fd ps sp) (hgd : X.A.guards = some []) (hr : Room k X.A) (hg : Gl X x) (hm : X.mg x = some (.ref f)) (hk : PySem.W.keepIn X.K (.ref f) = true) (hb : Binds X.K fd ps ds) (hd : Vals dvs ds) (hx : Passes CX X E)
    (ha : PA X (e :: es) t) (hdb : (x == ("__debug__" : Str)) = false := by decide) (he : starEach (e :: es) X.env = (false, eval e X.env) :: starEach es X.env := by rfl) (hpl : (backTo pos (starEach es X.env)).any (·.1) = false := by rfl) :
    PE X (.Call (.Name x p) (e :: es) [] pos) (tCall sp dvs E t) := by
  refine ⟨fun pins s σ H Q I h => ?_⟩
  refine wpAny_Call_Name_kw (ld_glob I hg hm ?_ hdb)
  refine PySem.W.callWith_K (h₀ := X.base) I.ok.mod.kin hk (thn (ha.run pos pins s σ H _ I h) fun us s1 ⟨vs, H1, I1, r, q⟩ => ⟨I1.kIn, ?_⟩) he hpl
  have r2 : Vals (vs ++ dvs) (us ++ ds) := r.append hd
  have hl : (us ++ ds).length = ps.length := by rw [← r2.length]; exact F.len _ _ _ _ q
  refine wpAny_call (codeAny_mono (F.run X.A X.stack s1 H1 ⟨us, []⟩ (us ++ ds) (vs ++ dvs) Q E hgd hr I1.env0 (hb s1 us I1.kIn hl) r2 q) fun r s' hq => ?_)
  match r, hq with
  | .error er, hq => exact hx pins σ H1 s1 er s' I1 hq
  | .ok (.ret u), hq => exact I1.after hq
  | .ok .next, hq => exact False.elim hq
  | .ok .brk, hq => exact False.elim hq
  | .ok .cont, hq => exact False.elim hq
end
end LF
set_option Elab.async false
set_option linter.all false
set_option maxRecDepth 100000
set_option maxHeartbeats 4000000
/-! The world of sheets and blocks: what is told of it, what the heap holds of it, and what each kind of write does to it. -/
namespace LF
open PySem PySem.Spec PyProof.Rows L2

/-- which class -/
inductive Kd | s | n | b | nb
  deriving DecidableEq
def Kd.nt : Kd → Bool
  | .s => false | .n => true | .b => false | .nb => true
/-- whose an object is -/
inductive Ro
  | oth
  | ofS (s : Addr) (i : Nat)
  | ofB (b : Addr) (i : Nat)
structure Sh where
  kd : Kd
  dx : Addr
  bs : Nat
  tot : Nat
  made : Int
  op : Bool
  pa : Addr
  na : Addr
  ns : List V
  cs : List Addr
  bl : Nat → List Addr
structure Bk where
  dx : Addr
  cl : Addr
  sl : Addr
  vs : List V
  ls : List Addr
structure AS where
  sh : Addr → Option Sh
  bk : Addr → Option Bk
def AS.setS (a : AS) (s : Addr) (x : Sh) : AS := { a with sh := fun t => if t = s then some x else a.sh t }
def AS.setB (a : AS) (b : Addr) (x : Bk) : AS := { a with bk := fun t => if t = b then some x else a.bk t }
@[simp] theorem setS_bk {a : AS} {s : Addr} {x : Sh} : (a.setS s x).bk = a.bk := rfl
@[simp] theorem setB_sh {a : AS} {s : Addr} {x : Bk} : (a.setB s x).sh = a.sh := rfl
@[simp] theorem setS_same {a : AS} {s : Addr} {x : Sh} : (a.setS s x).sh s = some x := if_pos rfl
theorem setS_ne {a : AS} {s t : Addr} {x : Sh} (h : t ≠ s) : (a.setS s x).sh t = a.sh t := if_neg h
@[simp] theorem setB_same {a : AS} {s : Addr} {x : Bk} : (a.setB s x).bk s = some x := if_pos rfl
theorem setB_ne {a : AS} {s t : Addr} {x : Bk} (h : t ≠ s) : (a.setB s x).bk t = a.bk t := if_neg h

def kdFs (k : Kd) (na : Addr) : List (Str × V) := match k with
  | .s => [] | .n => [("noted", .ref na)] | .b => [("bound", .non)] | .nb => [("bound", .non), ("noted", .ref na)]
def sheetFs (k : Kd) (hd : Addr) (bs tot : Nat) (made : Int) (op : Bool) (pa na : Addr) : List (Str × V) :=
  ("heads", .ref hd) :: ("block_size", .int bs) :: ("total", .int tot) :: ("made", .int made) :: ("opened", .bl op) :: ("parts", .ref pa) :: kdFs k na

/-- what never changes -/
def Fixed : HO → Prop
  | .tup _ => True
  | .frz _ _ => True
  | _ => False

/-- from one heap to a later one: the world's objects may change, others but those of X stay -/
structure Step (X : Addr → Prop) (ρ : Addr → Ro) (H : Hp) (ρ' : Addr → Ro) (H' : Hp) : Prop where
  ro : ∀ b o, H b = some o → ρ' b = ρ b
  ot : ∀ b o, H b = some o → ρ b = .oth → ¬ X b → H' b = some o
  tr : ∀ b o, H b = some o → ∃ o', H' b = some o'
  fx : ∀ b o, H b = some o → Fixed o → H' b = some o
abbrev none' : Addr → Prop := fun _ => False
theorem Step.refl {X : Addr → Prop} {ρ : Addr → Ro} {H : Hp} : Step X ρ H ρ H := ⟨fun _ _ _ => rfl, fun _ _ e _ _ => e, fun _ o e => ⟨o, e⟩, fun _ _ e _ => e⟩
theorem Step.trans {X : Addr → Prop} {ρ ρ1 ρ2 : Addr → Ro} {H H1 H2 : Hp} (a : Step X ρ H ρ1 H1) (b : Step X ρ1 H1 ρ2 H2) : Step X ρ H ρ2 H2 where
  ro c o e := by
    obtain ⟨o1, e1⟩ := a.tr c o e
    rw [b.ro c o1 e1, a.ro c o e]
  ot c o e r n := b.ot c o (a.ot c o e r n) (by rw [a.ro c o e]; exact r) n
  tr c o e := by
    obtain ⟨o1, e1⟩ := a.tr c o e
    exact b.tr c o1 e1
  fx c o e f := b.fx c o (a.fx c o e f) f
theorem Step.mono {X Y : Addr → Prop} {ρ ρ' : Addr → Ro} {H H' : Hp} (a : Step X ρ H ρ' H') (h : ∀ b, X b → Y b) : Step Y ρ H ρ' H' := ⟨a.ro, fun b o e r n => a.ot b o e r fun x => n (h b x), a.tr, a.fx⟩
theorem Step.same {X : Addr → Prop} {ρ : Addr → Ro} {H H' : Hp} (e : Same H H') : Step X ρ H ρ H' := ⟨fun _ _ _ => rfl, fun b o h _ _ => e b o h, fun b o h => ⟨o, e b o h⟩, fun b o h _ => e b o h⟩
theorem Step.sqT {K : PySem.W.Frag} {X : Addr → Prop} {ρ ρ' : Addr → Ro} {H H' : Hp} (a : Step X ρ H ρ' H') {t : Addr} {xs : List V} (h : SqT K H t xs) : SqT K H' t xs :=
  h.elim (fun h => .inl (h.elim (fun h => .inl (a.fx _ _ h trivial)) fun ⟨o, h⟩ => .inr ⟨o, a.fx _ _ h trivial⟩)) fun h => .inr h
/-- what was fresh behind is fresh ahead -/
theorem Step.free {X : Addr → Prop} {ρ ρ' : Addr → Ro} {H H' : Hp} (a : Step X ρ H ρ' H') {t : Addr} (h : H' t = none) : H t = none := by
  cases q : H t with
  | none => rfl
  | some o =>
    obtain ⟨o', e⟩ := a.tr t o q
    rw [h] at e
    cases e
/-- a write at one place of X, or of the world -/
theorem Step.upd1 {X : Addr → Prop} {ρ : Addr → Ro} {H : Hp} {p : Addr} {o : HO} (h : (ρ p ≠ .oth ∧ ∃ u, H p = some u ∧ ¬ Fixed u) ∨ (X p ∧ ∃ u, H p = some u ∧ ¬ Fixed u) ∨ H p = none) : Step X ρ H ρ (upd H p o) := by
  refine ⟨fun _ _ _ => rfl, fun b u e r n => ?_, fun b u e => ?_, fun b u e f => ?_⟩
  · by_cases hb : b = p
    · subst hb
      rcases h with ⟨z, _⟩ | ⟨z, _⟩ | z
      · exact absurd r z
      · exact absurd z n
      · rw [z] at e; cases e
    · rw [upd_ne hb]; exact e
  · by_cases hb : b = p
    · subst hb; exact ⟨o, upd_same⟩
    · exact ⟨u, by rw [upd_ne hb]; exact e⟩
  · by_cases hb : b = p
    · subst hb
      rcases h with ⟨_, v, z1, z2⟩ | ⟨_, v, z1, z2⟩ | z
      · rw [e] at z1; cases z1; exact absurd f z2
      · rw [e] at z1; cases z1; exact absurd f z2
      · rw [z] at e; cases e
    · rw [upd_ne hb]; exact e
/-- fresh places may take any role -/
theorem Step.role {X : Addr → Prop} {ρ ρ' ρ'' : Addr → Ro} {H H' : Hp} (a : Step X ρ H ρ' H') (h : ∀ b, H b ≠ none → ρ'' b = ρ' b) : Step X ρ H ρ'' H' :=
  ⟨fun b o e => (h b (by rw [e]; exact fun z => by cases z)).trans (a.ro b o e), a.ot, a.tr, a.fx⟩

theorem idx_nd {l : List Addr} (nd : l.Nodup) {j : Nat} (hj : j < l.length) : l.idxOf l[j] = j := by
  have h1 : l.idxOf l[j] < l.length := List.idxOf_lt_length_iff.mpr (List.getElem_mem hj)
  have h2 : l[l.idxOf l[j]]? = some l[j] := by
    rw [List.getElem?_eq_getElem h1]
    exact congrArg some (List.getElem_idxOf h1)
  exact nd_ix nd h2 (List.getElem?_eq_getElem hj)
section
variable (cls : Kd → Addr) (cB : Addr) (m : Nat) (hd : Addr)
structure SheetR (ρ : Addr → Ro) (H : Hp) (s : Addr) (x : Sh) : Prop where
  at_ : H s = some (.ins (cls x.kd) x.dx (sheetFs x.kd hd x.bs x.tot x.made x.op x.pa x.na))
  r0 : ρ s = .ofS s 0
  pa : H x.pa = some (.lst (x.cs.map V.ref))
  r1 : ρ x.pa = .ofS s 1
  len : x.cs.length = m
  col : ∀ (j : Nat) (c : Addr), x.cs[j]? = some c → H c = some (.lst ((x.bl j).map V.ref)) ∧ ρ c = .ofS s (3 + j)
  nt : x.kd.nt = true → H x.na = some (.lst x.ns) ∧ ρ x.na = .ofS s 2
structure BlkR (ρ : Addr → Ro) (H : Hp) (b : Addr) (x : Bk) : Prop where
  at_ : H b = some (.ins cB x.dx [("cells", .ref x.cl), ("sheets", .ref x.sl)])
  r0 : ρ b = .ofB b 0
  cl : H x.cl = some (.lst x.vs)
  r1 : ρ x.cl = .ofB b 1
  sl : H x.sl = some (.lst (x.ls.map V.ref))
  r2 : ρ x.sl = .ofB b 2
structure Rep (ρ : Addr → Ro) (H : Hp) (a : AS) : Prop where
  fr : ∀ p, H p = none → ρ p = .oth
  sh : ∀ s x, a.sh s = some x → SheetR cls m hd ρ H s x
  bk : ∀ b x, a.bk b = some x → BlkR cB ρ H b x
end

section
variable {cls : Kd → Addr} {cB : Addr} {m : Nat} {hd : Addr} {ρ ρ' : Addr → Ro} {H H' : Hp} {a : AS} {s b : Addr} {x : Sh} {y : Bk}
theorem SheetR.keep (h : SheetR cls m hd ρ H s x) (k : ∀ q i o, ρ q = .ofS s i → H q = some o → ρ' q = .ofS s i ∧ H' q = some o) : SheetR cls m hd ρ' H' s x where
  at_ := (k _ _ _ h.r0 h.at_).2
  r0 := (k _ _ _ h.r0 h.at_).1
  pa := (k _ _ _ h.r1 h.pa).2
  r1 := (k _ _ _ h.r1 h.pa).1
  len := h.len
  col j c e := ⟨(k _ _ _ (h.col j c e).2 (h.col j c e).1).2, (k _ _ _ (h.col j c e).2 (h.col j c e).1).1⟩
  nt e := ⟨(k _ _ _ (h.nt e).2 (h.nt e).1).2, (k _ _ _ (h.nt e).2 (h.nt e).1).1⟩
theorem BlkR.keep (h : BlkR cB ρ H b y) (k : ∀ q i o, ρ q = .ofB b i → H q = some o → ρ' q = .ofB b i ∧ H' q = some o) : BlkR cB ρ' H' b y where
  at_ := (k _ _ _ h.r0 h.at_).2
  r0 := (k _ _ _ h.r0 h.at_).1
  cl := (k _ _ _ h.r1 h.cl).2
  r1 := (k _ _ _ h.r1 h.cl).1
  sl := (k _ _ _ h.r2 h.sl).2
  r2 := (k _ _ _ h.r2 h.sl).1
/-- objects laid, or others changed -/
theorem Rep.keep (R : Rep cls cB m hd ρ H a) (k : ∀ q o, ρ q ≠ .oth → H q = some o → H' q = some o) (t : ∀ q, H q ≠ none → H' q ≠ none) : Rep cls cB m hd ρ H' a where
  fr p e := by
    refine R.fr p ?_
    cases q : H p with
    | none => rfl
    | some o => exact absurd e (t p (by rw [q]; exact fun z => by cases z))
  sh s x e := (R.sh s x e).keep fun q i o r e => ⟨r, k q o (by rw [r]; exact fun z => by cases z) e⟩
  bk b x e := (R.bk b x e).keep fun q i o r e => ⟨r, k q o (by rw [r]; exact fun z => by cases z) e⟩
theorem Rep.same (R : Rep cls cB m hd ρ H a) (e : Same H H') : Rep cls cB m hd ρ H' a :=
  R.keep (fun q o _ h => e q o h) fun q h => by
    cases z : H q with
    | none => exact absurd z h
    | some o => rw [e q o z]; exact fun z => by cases z
theorem Rep.updO (R : Rep cls cB m hd ρ H a) {p : Addr} {o : HO} (h : ρ p = .oth) : Rep cls cB m hd ρ (upd H p o) a :=
  R.keep (fun q u r e => by
    have hq : q ≠ p := fun z => r (z ▸ h)
    rw [upd_ne hq]; exact e) fun q h => by
    by_cases hq : q = p
    · subst hq; rw [upd_same]; exact fun z => by cases z
    · rw [upd_ne hq]; exact h
theorem Rep.oth_of (R : Rep cls cB m hd ρ H a) {p : Addr} (h : H p = none) : ρ p = .oth := R.fr p h

theorem frame_upd {p q : Addr} {o u : HO} (h : q ≠ p) (e : H q = some u) : upd H p o q = some u := by rw [upd_ne h]; exact e
/-- a write of one sheet's own things -/
theorem Rep.setS (R : Rep cls cB m hd ρ H a) {p : Addr} {o : HO} {i : Nat} {x' : Sh} (hp : ρ p = .ofS s i) (ht : H p ≠ none) (h : SheetR cls m hd ρ (upd H p o) s x') : Rep cls cB m hd ρ (upd H p o) (a.setS s x') where
  fr q e := by
    by_cases hq : q = p
    · subst hq; rw [upd_same] at e; cases e
    · rw [upd_ne hq] at e; exact R.fr q e
  sh t z e := by
    by_cases ht' : t = s
    · subst ht'
      rw [setS_same] at e
      cases e
      exact h
    · rw [setS_ne ht'] at e
      exact (R.sh t z e).keep fun q i' u r e => ⟨r, frame_upd (fun z => by subst z; rw [hp] at r; injection r with r1; exact ht' r1.symm) e⟩
  bk b z e := (R.bk b z e).keep fun q i' u r e => ⟨r, frame_upd (fun z => by subst z; rw [hp] at r; cases r) e⟩
/-- a write of one block's own things -/
theorem Rep.setB (R : Rep cls cB m hd ρ H a) {p : Addr} {o : HO} {i : Nat} {y' : Bk} (hp : ρ p = .ofB b i) (ht : H p ≠ none) (h : BlkR cB ρ (upd H p o) b y') : Rep cls cB m hd ρ (upd H p o) (a.setB b y') where
  fr q e := by
    by_cases hq : q = p
    · subst hq; rw [upd_same] at e; cases e
    · rw [upd_ne hq] at e; exact R.fr q e
  sh t z e := (R.sh t z e).keep fun q i' u r e => ⟨r, frame_upd (fun z => by subst z; rw [hp] at r; cases r) e⟩
  bk t z e := by
    by_cases ht' : t = b
    · subst ht'
      rw [setB_same] at e
      cases e
      exact h
    · rw [setB_ne ht'] at e
      exact (R.bk t z e).keep fun q i' u r e => ⟨r, frame_upd (fun z => by subst z; rw [hp] at r; injection r with r1; exact ht' r1.symm) e⟩

theorem ro_ne {p q : Addr} {r r' : Ro} (h : ρ p = r) (h' : ρ q = r') (n : r ≠ r') : p ≠ q := fun e => n (by rw [← h, ← h', e])
theorem ofS_ne {s : Addr} {i j : Nat} (h : i ≠ j) : Ro.ofS s i ≠ Ro.ofS s j := fun e => by injection e with _ e; exact h e
theorem ofB_ne {s : Addr} {i j : Nat} (h : i ≠ j) : Ro.ofB s i ≠ Ro.ofB s j := fun e => by injection e with _ e; exact h e

/-- the cells of a block written -/
theorem Rep.cells (R : Rep cls cB m hd ρ H a) (e : a.bk b = some y) (vs : List V) : Rep cls cB m hd ρ (upd H y.cl (.lst vs)) (a.setB b { y with vs := vs }) := by
  have h := R.bk b y e
  refine R.setB h.r1 (by rw [h.cl]; exact fun z => by cases z) ⟨frame_upd (ro_ne h.r0 h.r1 (ofB_ne (by decide))) h.at_, h.r0, upd_same, h.r1, frame_upd (ro_ne h.r2 h.r1 (ofB_ne (by decide))) h.sl, h.r2⟩
/-- the sheets of a block written -/
theorem Rep.sheets (R : Rep cls cB m hd ρ H a) (e : a.bk b = some y) (ls : List Addr) : Rep cls cB m hd ρ (upd H y.sl (.lst (ls.map V.ref))) (a.setB b { y with ls := ls }) := by
  have h := R.bk b y e
  refine R.setB h.r2 (by rw [h.sl]; exact fun z => by cases z) ⟨frame_upd (ro_ne h.r0 h.r2 (ofB_ne (by decide))) h.at_, h.r0, frame_upd (ro_ne h.r1 h.r2 (ofB_ne (by decide))) h.cl, h.r1, upd_same, h.r2⟩
/-- a column of a sheet written -/
theorem Rep.column (R : Rep cls cB m hd ρ H a) (e : a.sh s = some x) {j : Nat} {c : Addr} (hc : x.cs[j]? = some c) (bs : List Addr) : Rep cls cB m hd ρ (upd H c (.lst (bs.map V.ref))) (a.setS s { x with bl := fun i => if i = j then bs else x.bl i }) := by
  have h := R.sh s x e
  obtain ⟨h1, h2⟩ := h.col j c hc
  refine R.setS h2 (by rw [h1]; exact fun z => by cases z) ⟨frame_upd (ro_ne h.r0 h2 (ofS_ne (by omega))) h.at_, h.r0, frame_upd (ro_ne h.r1 h2 (ofS_ne (by omega))) h.pa, h.r1, h.len, fun i c' e' => ?_, fun z => ⟨frame_upd (ro_ne (h.nt z).2 h2 (ofS_ne (by omega))) (h.nt z).1, (h.nt z).2⟩⟩
  obtain ⟨h3, h4⟩ := h.col i c' e'
  refine ⟨?_, h4⟩
  by_cases q : i = j
  · subst q
    rw [hc] at e'
    cases e'
    rw [upd_same]
    show _ = some (HO.lst ((if i = i then bs else x.bl i).map V.ref))
    rw [if_pos rfl]
  · rw [upd_ne (ro_ne h4 h2 (ofS_ne (by omega))), h3]
    show _ = some (HO.lst ((if i = j then bs else x.bl i).map V.ref))
    rw [if_neg q]
/-- the sheet's own fields written -/
theorem Rep.fields (R : Rep cls cB m hd ρ H a) (e : a.sh s = some x) (tot : Nat) (made : Int) (op : Bool) : Rep cls cB m hd ρ (upd H s (.ins (cls x.kd) x.dx (sheetFs x.kd hd x.bs tot made op x.pa x.na))) (a.setS s { x with tot := tot, made := made, op := op }) := by
  have h := R.sh s x e
  exact R.setS h.r0 (by rw [h.at_]; exact fun z => by cases z) ⟨upd_same, h.r0, frame_upd (ro_ne h.r1 h.r0 (ofS_ne (by decide))) h.pa, h.r1, h.len, fun j c e' => ⟨frame_upd (ro_ne (h.col j c e').2 h.r0 (ofS_ne (by omega))) (h.col j c e').1, (h.col j c e').2⟩,
    fun z => ⟨frame_upd (ro_ne (h.nt z).2 h.r0 (ofS_ne (by decide))) (h.nt z).1, (h.nt z).2⟩⟩
/-- its notes written -/
theorem Rep.notes (R : Rep cls cB m hd ρ H a) (e : a.sh s = some x) (hk : x.kd.nt = true) (ns : List V) : Rep cls cB m hd ρ (upd H x.na (.lst ns)) (a.setS s { x with ns := ns }) := by
  have h := R.sh s x e
  obtain ⟨h1, h2⟩ := h.nt hk
  exact R.setS h2 (by rw [h1]; exact fun z => by cases z) ⟨frame_upd (ro_ne h.r0 h2 (ofS_ne (by decide))) h.at_, h.r0, frame_upd (ro_ne h.r1 h2 (ofS_ne (by decide))) h.pa, h.r1, h.len,
    fun j c e' => ⟨frame_upd (ro_ne (h.col j c e').2 h2 (ofS_ne (by omega))) (h.col j c e').1, (h.col j c e').2⟩, fun z => ⟨upd_same, h2⟩⟩
/-- a sheet is not yet the world's while its role is not -/
theorem Rep.no_sh (R : Rep cls cB m hd ρ H a) (h : ρ s = .oth) : a.sh s = none := by
  cases e : a.sh s with
  | none => rfl
  | some x => have := (R.sh s x e).r0; rw [h] at this; cases this
theorem Rep.no_bk (R : Rep cls cB m hd ρ H a) (h : ρ b = .oth) : a.bk b = none := by
  cases e : a.bk b with
  | none => rfl
  | some x => have := (R.bk b x e).r0; rw [h] at this; cases this
theorem Rep.sh_in (R : Rep cls cB m hd ρ H a) (e : a.sh s = some x) {q : Addr} {i : Nat} (h : ρ q = .ofS s i) : True := trivial

/-- a block becomes the world's -/
theorem Rep.addB (R : Rep cls cB m hd ρ H a) (h0 : ρ b = .oth) (h1 : ρ y.cl = .oth) (h2 : ρ y.sl = .oth) (e0 : H b = some (.ins cB y.dx [("cells", .ref y.cl), ("sheets", .ref y.sl)])) (e1 : H y.cl = some (.lst y.vs)) (e2 : H y.sl = some (.lst (y.ls.map V.ref))) (n12 : y.cl ≠ y.sl) :
    Rep cls cB m hd (fun q => if q = b then .ofB b 0 else if q = y.cl then .ofB b 1 else if q = y.sl then .ofB b 2 else ρ q) H (a.setB b y) := by
  have n1 : y.cl ≠ b := ne_of e1 e0 (fun z => by cases z)
  have n2 : y.sl ≠ b := ne_of e2 e0 (fun z => by cases z)
  have keep : ∀ q r, ρ q = r → r ≠ .oth → (if q = b then Ro.ofB b 0 else if q = y.cl then .ofB b 1 else if q = y.sl then .ofB b 2 else ρ q) = r := fun q r hr hn => by
    rw [if_neg (fun z => hn (by rw [← hr, z, h0])), if_neg (fun z => hn (by rw [← hr, z, h1])), if_neg (fun z => hn (by rw [← hr, z, h2])), hr]
  refine ⟨fun p e => ?_, fun t z e => (R.sh t z e).keep fun q i u r eq => ⟨keep q _ r (fun z => by cases z), eq⟩, fun t z e => ?_⟩
  · rw [if_neg (fun z => by rw [z, e0] at e; cases e), if_neg (fun z => by rw [z, e1] at e; cases e), if_neg (fun z => by rw [z, e2] at e; cases e)]
    exact R.fr p e
  · by_cases q : t = b
    · subst q
      rw [setB_same] at e
      cases e
      exact ⟨e0, if_pos rfl, e1, by rw [if_neg n1, if_pos rfl], e2, by rw [if_neg n2, if_neg n12.symm, if_pos rfl]⟩
    · rw [setB_ne q] at e
      exact (R.bk t z e).keep fun q i u r eq => ⟨keep q _ r (fun z => by cases z), eq⟩
/-- a sheet becomes the world's -/
theorem Rep.addS (R : Rep cls cB m hd ρ H a) (h0 : ρ s = .oth) (h1 : ρ x.pa = .oth) (hc : ∀ c ∈ x.cs, ρ c = .oth) (hn : x.kd.nt = true → ρ x.na = .oth) (e0 : H s = some (.ins (cls x.kd) x.dx (sheetFs x.kd hd x.bs x.tot x.made x.op x.pa x.na))) (e1 : H x.pa = some (.lst (x.cs.map V.ref)))
    (len : x.cs.length = m) (ec : ∀ (j : Nat) (c : Addr), x.cs[j]? = some c → H c = some (.lst ((x.bl j).map V.ref))) (en : x.kd.nt = true → H x.na = some (.lst x.ns) ∧ x.na ≠ x.pa ∧ x.na ∉ x.cs) (nc : x.pa ∉ x.cs) (nd : x.cs.Nodup) :
    ∃ ρ', Rep cls cB m hd ρ' H (a.setS s x) ∧ (∀ q, q ≠ s → q ≠ x.pa → q ∉ x.cs → (x.kd.nt = true → q ≠ x.na) → ρ' q = ρ q) := by
  have n1 : x.pa ≠ s := ne_of e1 e0 (fun z => by cases z)
  have nsc : s ∉ x.cs := fun z => by
    obtain ⟨j, hj⟩ := List.mem_iff_getElem?.mp z
    have := ec j s hj
    rw [e0] at this
    cases this
  have nns : x.kd.nt = true → x.na ≠ s := fun z => ne_of (en z).1 e0 (fun z => by cases z)
  refine ⟨fun q => if q = s then .ofS s 0 else if q = x.pa then .ofS s 1 else if x.kd.nt = true ∧ q = x.na then .ofS s 2 else if q ∈ x.cs then .ofS s (3 + x.cs.idxOf q) else ρ q, ⟨fun p e => ?_, fun t z e => ?_, fun t z e => ?_⟩, fun q q0 q1 q2 q3 => ?_⟩
  · rw [if_neg (fun z => by rw [z, e0] at e; cases e), if_neg (fun z => by rw [z, e1] at e; cases e), if_neg (fun z => by rw [z.2, (en z.1).1] at e; cases e), if_neg (fun z => ?_)]
    · exact R.fr p e
    · obtain ⟨j, hj⟩ := List.mem_iff_getElem?.mp z
      have := ec j p hj
      rw [e] at this
      cases this
  · have keep : ∀ q r, ρ q = r → r ≠ .oth → (if q = s then Ro.ofS s 0 else if q = x.pa then .ofS s 1 else if x.kd.nt = true ∧ q = x.na then .ofS s 2 else if q ∈ x.cs then .ofS s (3 + x.cs.idxOf q) else ρ q) = r := fun q r hr hn' => by
      rw [if_neg (fun z => hn' (by rw [← hr, z, h0])), if_neg (fun z => hn' (by rw [← hr, z, h1])), if_neg (fun z => hn' (by rw [← hr, z.2, hn z.1])), if_neg (fun z => hn' (by rw [← hr, hc q z])), hr]
    by_cases q : t = s
    · subst q
      rw [setS_same] at e
      cases e
      refine ⟨e0, if_pos rfl, e1, by rw [if_neg n1, if_pos rfl], len, fun j c e' => ⟨ec j c e', ?_⟩, fun z => ⟨(en z).1, ?_⟩⟩
      · have mc : c ∈ x.cs := List.mem_of_getElem? e'
        rw [if_neg (fun z => nsc (by rw [← z]; exact mc)), if_neg (fun z => nc (by rw [← z]; exact mc)), if_neg (fun z => (en z.1).2.2 (by rw [← z.2]; exact mc)), if_pos mc]
        obtain ⟨hj, ej⟩ := List.getElem?_eq_some_iff.mp e'
        have : x.cs.idxOf c = j := by rw [← ej]; exact idx_nd nd hj
        rw [this]
      · rw [if_neg (nns z), if_neg (en z).2.1, if_pos ⟨z, rfl⟩]
    · rw [setS_ne q] at e
      exact (R.sh t z e).keep fun q i u r eq => ⟨keep q _ r (fun z => by cases z), eq⟩
  · have keep : ∀ q r, ρ q = r → r ≠ .oth → (if q = s then Ro.ofS s 0 else if q = x.pa then .ofS s 1 else if x.kd.nt = true ∧ q = x.na then .ofS s 2 else if q ∈ x.cs then .ofS s (3 + x.cs.idxOf q) else ρ q) = r := fun q r hr hn' => by
      rw [if_neg (fun z => hn' (by rw [← hr, z, h0])), if_neg (fun z => hn' (by rw [← hr, z, h1])), if_neg (fun z => hn' (by rw [← hr, z.2, hn z.1])), if_neg (fun z => hn' (by rw [← hr, hc q z])), hr]
    exact (R.bk t z e).keep fun q i u r eq => ⟨keep q _ r (fun z => by cases z), eq⟩
  · show (if q = s then Ro.ofS s 0 else if q = x.pa then .ofS s 1 else if x.kd.nt = true ∧ q = x.na then .ofS s 2 else if q ∈ x.cs then .ofS s (3 + x.cs.idxOf q) else ρ q) = ρ q
    rw [if_neg q0, if_neg q1, if_neg (fun z => q3 z.1 z.2), if_neg q2]
end
end LF
set_option Elab.async false
set_option linter.all false
set_option maxRecDepth 100000
set_option maxHeartbeats 4000000
/-! What the tracked sheets tell, and that writes keep it: no program in sight. -/
namespace LF
open PySem PySem.Spec PyProof.Rows L2

/-! ### chunks -/
def chunk (D : List V) (bs k : Nat) : List V := (D.drop (k * bs)).take bs
def nbl (n bs : Nat) : Nat := (n + bs - 1) / bs
theorem chunk_len {D : List V} {bs k : Nat} : (chunk D bs k).length ≤ bs := by unfold chunk; rw [List.length_take]; exact Nat.min_le_left ..
theorem nbl_lt {n bs k : Nat} (hb : 1 ≤ bs) : k < nbl n bs ↔ k * bs < n := by
  unfold nbl
  rw [show k < (n + bs - 1) / bs ↔ k + 1 ≤ (n + bs - 1) / bs from Iff.rfl, Nat.le_div_iff_mul_le (by omega), Nat.succ_mul]
  omega
theorem nbl_zero {bs : Nat} (hb : 1 ≤ bs) : nbl 0 bs = 0 := by
  unfold nbl
  exact Nat.div_eq_of_lt (by omega)
theorem nbl_le {n bs : Nat} (hb : 1 ≤ bs) : nbl n bs ≤ n := by
  rcases Nat.lt_or_ge n (nbl n bs) with h | h
  · have := (nbl_lt hb).mp h
    have : n * 1 ≤ n * bs := Nat.mul_le_mul_left n hb
    omega
  · exact h
theorem nbl_mul {n bs : Nat} (hb : 1 ≤ bs) : n ≤ nbl n bs * bs := by
  rcases Nat.lt_or_ge (nbl n bs * bs) n with h | h
  · exact absurd ((nbl_lt hb).mpr h) (Nat.lt_irrefl _)
  · exact h
/-- a new block is wanted -/
theorem nbl_new {n bs : Nat} (hb : 1 ≤ bs) (h : n % bs = 0) : nbl (n + 1) bs = nbl n bs + 1 ∧ nbl n bs = n / bs := by
  have e : n = (n / bs) * bs := by have := Nat.div_add_mod n bs; rw [h] at this; rw [Nat.mul_comm] at this; omega
  have h1 : nbl n bs = n / bs := by
    unfold nbl
    generalize n / bs = q at e
    subst e
    rw [Nat.add_sub_assoc hb, Nat.add_comm, Nat.add_mul_div_right _ _ (by omega), Nat.div_eq_of_lt (by omega), Nat.zero_add]
  have h2 : nbl (n + 1) bs = n / bs + 1 := by
    unfold nbl
    generalize n / bs = q at e
    subst e
    rw [show q * bs + 1 + bs - 1 = (q + 1) * bs by rw [Nat.succ_mul]; omega, Nat.mul_div_cancel _ (by omega)]
  exact ⟨by rw [h2, h1], h1⟩
/-- the last block takes it -/
theorem nbl_old {n bs : Nat} (hb : 1 ≤ bs) (h : n % bs ≠ 0) : nbl (n + 1) bs = nbl n bs ∧ nbl n bs = n / bs + 1 := by
  have hm : n % bs < bs := Nat.mod_lt _ (by omega)
  have e : n = (n / bs) * bs + n % bs := by have := Nat.div_add_mod n bs; rw [Nat.mul_comm] at this; omega
  have h1 : nbl n bs = n / bs + 1 := by
    unfold nbl
    generalize n / bs = q at e
    generalize n % bs = r at e hm h
    subst e
    rw [show q * bs + r + bs - 1 = (r - 1) + (q + 1) * bs by rw [Nat.succ_mul]; omega, Nat.add_mul_div_right _ _ (by omega), Nat.div_eq_of_lt (by omega), Nat.zero_add]
  have h2 : nbl (n + 1) bs = n / bs + 1 := by
    unfold nbl
    generalize n / bs = q at e
    generalize n % bs = r at e hm h
    subst e
    rw [show q * bs + r + 1 + bs - 1 = r + (q + 1) * bs by rw [Nat.succ_mul]; omega, Nat.add_mul_div_right _ _ (by omega), Nat.div_eq_of_lt hm, Nat.zero_add]
  exact ⟨by rw [h2, h1], h1⟩
/-- appended to the last, which is not full -/
theorem chunk_app {D : List V} {v : V} {bs : Nat} (hb : 1 ≤ bs) (h : D.length % bs ≠ 0) (k : Nat) :
    chunk (D ++ [v]) bs k = if k = D.length / bs then chunk D bs k ++ [v] else chunk D bs k := by
  have hm : D.length % bs < bs := Nat.mod_lt _ (by omega)
  have e : D.length = (D.length / bs) * bs + D.length % bs := by have := Nat.div_add_mod D.length bs; rw [Nat.mul_comm] at this; omega
  unfold chunk
  by_cases hk : k = D.length / bs
  · rw [if_pos hk]
    have hle : k * bs ≤ D.length := by rw [hk]; omega
    rw [List.drop_append_of_le_length hle]
    have hl : (D.drop (k * bs)).length < bs := by rw [List.length_drop, hk]; omega
    rw [List.take_of_length_le (by rw [List.length_append]; simp; simp at hl; omega), List.take_of_length_le (by omega)]
  · rw [if_neg hk]
    rcases Nat.lt_or_ge k (D.length / bs) with h1 | h1
    · have hle : (k + 1) * bs ≤ D.length := by
        have : (k + 1) * bs ≤ (D.length / bs) * bs := Nat.mul_le_mul_right _ h1
        omega
      rw [Nat.succ_mul] at hle
      rw [List.drop_append_of_le_length (by omega), List.take_append_of_le_length (by rw [List.length_drop]; omega)]
    · have hge : D.length + 1 ≤ k * bs := by
        have : (D.length / bs + 1) * bs ≤ k * bs := Nat.mul_le_mul_right _ (by omega)
        rw [Nat.succ_mul] at this
        omega
      rw [List.drop_of_length_le (by simp; omega), List.drop_of_length_le (by omega)]
/-- in a new block -/
theorem chunk_new {D : List V} {v : V} {bs : Nat} (hb : 1 ≤ bs) (h : D.length % bs = 0) :
    chunk (D ++ [v]) bs (D.length / bs) = [v] ∧ ∀ k, k < D.length / bs → chunk (D ++ [v]) bs k = chunk D bs k := by
  have e : D.length = (D.length / bs) * bs := by have := Nat.div_add_mod D.length bs; rw [h] at this; rw [Nat.mul_comm] at this; omega
  refine ⟨?_, fun k hk => ?_⟩
  · unfold chunk
    rw [← e, List.drop_append_of_le_length (Nat.le_refl _), List.drop_length]
    exact List.take_of_length_le (by simpa using hb)
  · unfold chunk
    have hle : (k + 1) * bs ≤ D.length := by
      have : (k + 1) * bs ≤ (D.length / bs) * bs := Nat.mul_le_mul_right _ hk
      omega
    rw [Nat.succ_mul] at hle
    rw [List.drop_append_of_le_length (by omega), List.take_append_of_le_length (by rw [List.length_drop]; omega)]
theorem chunk_set {D : List V} {v : V} {bs i : Nat} (hb : 1 ≤ bs) (k : Nat) :
    chunk (D.set i v) bs k = if k = i / bs then (chunk D bs k).set (i % bs) v else chunk D bs k := by
  have hm : i % bs < bs := Nat.mod_lt _ (by omega)
  have e : i = (i / bs) * bs + i % bs := by have := Nat.div_add_mod i bs; rw [Nat.mul_comm] at this; omega
  unfold chunk
  by_cases hk : k = i / bs
  · rw [if_pos hk, List.drop_set, if_neg (by rw [hk]; omega), List.take_set]
    congr 1
    rw [hk]; omega
  · rw [if_neg hk, List.drop_set]
    split
    · rfl
    · rename_i h
      rw [List.take_set_of_le]
      rcases Nat.lt_or_ge k (i / bs) with h1 | h1
      · have : (k + 1) * bs ≤ (i / bs) * bs := Nat.mul_le_mul_right _ h1
        rw [Nat.succ_mul] at this
        omega
      · have : (i / bs + 1) * bs ≤ k * bs := Nat.mul_le_mul_right _ (by omega)
        rw [Nat.succ_mul] at this
        omega
theorem take_chunk {D : List V} {bs k : Nat} : D.take (k * bs) ++ chunk D bs k = D.take ((k + 1) * bs) := by
  unfold chunk
  rw [Nat.succ_mul, List.take_add]

/-! ### the tracked sheets -/
structure Sok (m N : Nat) (a : AS) (t : Addr) (x : Sh) (D : Nat → List V) : Prop where
  op : x.op = true
  b1 : 1 ≤ x.bs
  b2 : x.bs ≤ 100
  tot : x.tot ≤ N
  nts : x.ns.length ≤ N
  dl : ∀ j, j < m → (D j).length ≤ N
  bl : ∀ j, j < m → (x.bl j).length = nbl (D j).length x.bs
  ce : ∀ (j k : Nat) (b : Addr), j < m → (x.bl j)[k]? = some b → ∃ y, a.bk b = some y ∧ y.vs = chunk (D j) x.bs k ∧ t ∈ y.ls ∧ y.ls.length ≤ N ∧ ∀ u ∈ y.ls, (a.sh u).isSome
  inj : ∀ (j k j' k' : Nat) (b : Addr), j < m → j' < m → (x.bl j)[k]? = some b → (x.bl j')[k']? = some b → j = j' ∧ k = k'
abbrev TSt := Addr → Option ((Nat → List V) × Nat)
def updT (TS : TSt) (s : Addr) (v : Option ((Nat → List V) × Nat)) : TSt := fun t => if t = s then v else TS t
theorem updT_same {TS : TSt} {s : Addr} {v : Option ((Nat → List V) × Nat)} : updT TS s v s = v := if_pos rfl
theorem updT_ne {TS : TSt} {s t : Addr} {v : Option ((Nat → List V) × Nat)} (h : t ≠ s) : updT TS s v t = TS t := if_neg h
/-- each tracked sheet stands as it is told -/
def Tok (m N : Nat) (a : AS) (TS : TSt) : Prop := ∀ t D n, TS t = some (D, n) → ∃ x, a.sh t = some x ∧ x.tot = n ∧ Sok m N a t x D
/-- no other open sheet holds the block -/
def Sole (a : AS) (s b : Addr) : Prop := ∀ y, a.bk b = some y → ∀ u ∈ y.ls, u ≠ s → ∀ x, a.sh u = some x → x.op = false

section
variable {m N N' : Nat} {a a' : AS} {s t b nb : Addr} {x : Sh} {y z : Bk} {D : Nat → List V} {TS : TSt} {j k n : Nat}
theorem Sok.keep (h : Sok m N a t x D) (hN : N ≤ N') (hs : ∀ u, (a.sh u).isSome → (a'.sh u).isSome)
    (hb : ∀ (j k : Nat) (b : Addr) (y : Bk), j < m → (x.bl j)[k]? = some b → a.bk b = some y → t ∈ y.ls → ∃ y', a'.bk b = some y' ∧ y'.vs = y.vs ∧ t ∈ y'.ls ∧ (y.ls.length ≤ N → y'.ls.length ≤ N') ∧ ∀ u ∈ y'.ls, u ∈ y.ls ∨ (a'.sh u).isSome) : Sok m N' a' t x D where
  op := h.op
  b1 := h.b1
  b2 := h.b2
  tot := Nat.le_trans h.tot hN
  nts := Nat.le_trans h.nts hN
  dl j hj := Nat.le_trans (h.dl j hj) hN
  bl := h.bl
  ce j k b hj e := by
    obtain ⟨y, h1, h2, h3, h4, h5⟩ := h.ce j k b hj e
    obtain ⟨y', g1, g2, g3, g4, g5⟩ := hb j k b y hj e h1 h3
    exact ⟨y', g1, g2.trans h2, g3, g4 h4, fun u hu => (g5 u hu).elim (fun q => hs u (h5 u q)) id⟩
  inj := h.inj
theorem Tok.mono (h : Tok m N a TS) (hN : N ≤ N') : Tok m N' a TS := fun t D n e => by
  obtain ⟨x, h1, h2, h3⟩ := h t D n e
  exact ⟨x, h1, h2, h3.keep hN (fun _ q => q) fun j k b y hj e1 e2 e3 => ⟨y, e2, rfl, e3, fun q => Nat.le_trans q hN, fun u hu => .inl hu⟩⟩
theorem isSome_setS {u : Addr} (h : (a.sh u).isSome) : ((a.setS s x).sh u).isSome := by
  by_cases q : u = s
  · rw [q, setS_same]; rfl
  · rw [setS_ne q]; exact h

/-! ### a block is copied for s -/
def ownA (a : AS) (s b nb : Addr) (x : Sh) (y : Bk) (j k : Nat) (dx cl sl : Addr) : AS :=
  ((a.setB b { y with ls := y.ls.erase s }).setB nb ⟨dx, cl, sl, y.vs, [s]⟩).setS s { x with bl := fun i => if i = j then (x.bl j).set k nb else x.bl i, made := x.made + 1 }
theorem Tok.own {dx cl sl : Addr} (T : Tok m N a TS) (e : TS s = some (D, n)) (ex : a.sh s = some x) (hj : j < m) (eb : (x.bl j)[k]? = some b) (ey : a.bk b = some y) (hn : a.bk nb = none) (hN : 1 ≤ N) : Tok m N (ownA a s b nb x y j k dx cl sl) TS := by
  have nbb : nb ≠ b := fun q => by rw [q, ey] at hn; cases hn
  have bk_nb : (ownA a s b nb x y j k dx cl sl).bk nb = some ⟨dx, cl, sl, y.vs, [s]⟩ := setB_same
  have bk_b : (ownA a s b nb x y j k dx cl sl).bk b = some { y with ls := y.ls.erase s } := (setB_ne nbb.symm).trans setB_same
  have bk_o : ∀ c, c ≠ nb → c ≠ b → (ownA a s b nb x y j k dx cl sl).bk c = a.bk c := fun c h1 h2 => (setB_ne h1).trans (setB_ne h2)
  have hs : ∀ u, (a.sh u).isSome → ((ownA a s b nb x y j k dx cl sl).sh u).isSome := fun u q => isSome_setS q
  intro t D' n' et
  obtain ⟨x1, g1, g2, g3⟩ := T t D' n' et
  by_cases q : t = s
  · subst q
    rw [ex] at g1
    cases g1
    rw [e] at et
    cases et
    have kl : k < (x.bl j).length := (List.getElem?_eq_some_iff.mp eb).1
    -- places of the new column
    have get : ∀ j' k' c, ((if j' = j then (x.bl j).set k nb else x.bl j') : List Addr)[k']? = some c → (j' = j ∧ k' = k ∧ c = nb) ∨ ((x.bl j')[k']? = some c ∧ ¬ (j' = j ∧ k' = k)) := fun j' k' c h => by
      by_cases h1 : j' = j
      · subst h1
        rw [if_pos rfl, List.getElem?_set] at h
        by_cases h2 : k = k'
        · subst h2
          rw [if_pos rfl, if_pos kl] at h
          exact .inl ⟨rfl, rfl, (Option.some.inj h).symm⟩
        · rw [if_neg h2] at h
          exact .inr ⟨h, fun z => h2 z.2.symm⟩
      · rw [if_neg h1] at h
        exact .inr ⟨h, fun z => h1 z.1⟩
    refine ⟨_, setS_same, g2, g3.op, g3.b1, g3.b2, g3.tot, g3.nts, g3.dl, fun i hi => ?_, fun j' k' c hj' ec => ?_, fun j1 k1 j2 k2 c h1 h2 e1 e2 => ?_⟩
    · show ((if i = j then (x.bl j).set k nb else x.bl i) : List Addr).length = nbl (D i).length x.bs
      by_cases h1 : i = j
      · subst h1
        rw [if_pos rfl, List.length_set]
        exact g3.bl i hi
      · rw [if_neg h1]
        exact g3.bl i hi
    · rcases get j' k' c ec with ⟨rfl, rfl, rfl⟩ | ⟨h1, h2⟩
      · obtain ⟨y0, f1, f2, _⟩ := g3.ce j' k' b hj eb
        rw [ey] at f1
        cases f1
        exact ⟨_, bk_nb, f2, List.mem_singleton.mpr rfl, hN, fun u hu => by rw [List.mem_singleton.mp hu]; exact hs t (by rw [ex]; rfl)⟩
      · obtain ⟨y0, f1, f2, f3, f4, f5⟩ := g3.ce j' k' c hj' h1
        have c1 : c ≠ nb := fun z => by rw [z, hn] at f1; cases f1
        have c2 : c ≠ b := fun z => by
          subst z
          exact h2 (g3.inj j' k' j k c hj' hj h1 eb)
        exact ⟨y0, (bk_o c c1 c2).trans f1, f2, f3, f4, fun u hu => hs u (f5 u hu)⟩
    · rcases get j1 k1 c e1 with ⟨rfl, rfl, rfl⟩ | ⟨a1, a2⟩
      · rcases get j2 k2 c e2 with ⟨rfl, rfl, _⟩ | ⟨b1, b2⟩
        · exact ⟨rfl, rfl⟩
        · obtain ⟨y0, f1, _⟩ := g3.ce j2 k2 c h2 b1
          rw [hn] at f1
          cases f1
      · rcases get j2 k2 c e2 with ⟨rfl, rfl, rfl⟩ | ⟨b1, b2⟩
        · obtain ⟨y0, f1, _⟩ := g3.ce j1 k1 c h1 a1
          rw [hn] at f1
          cases f1
        · exact g3.inj j1 k1 j2 k2 c h1 h2 a1 b1
  · refine ⟨x1, (setS_ne q).trans g1, g2, g3.keep (Nat.le_refl _) hs fun j' k' c y0 hj' ec ey0 ht => ?_⟩
    have c1 : c ≠ nb := fun z => by rw [z, hn] at ey0; cases ey0
    by_cases c2 : c = b
    · subst c2
      rw [ey] at ey0
      cases ey0
      exact ⟨_, bk_b, rfl, (List.mem_erase_of_ne q).mpr ht, fun h => Nat.le_trans List.length_erase_le h, fun u hu => .inl (List.mem_of_mem_erase hu)⟩
    · exact ⟨y0, (bk_o c c1 c2).trans ey0, rfl, ht, id, fun u hu => .inl hu⟩

/-! ### the cells of an own block are written -/
theorem Tok.cells {D' : Nat → List V} {vs : List V} (T : Tok m N a TS) (e : TS s = some (D, n)) (ex : a.sh s = some x) (hj : j < m) (eb : (x.bl j)[k]? = some b) (ey : a.bk b = some y) (so : Sole a s b) (hN : N ≤ N')
    (h1 : ∀ i, i < m → (D' i).length ≤ N') (h2 : ∀ i, i < m → nbl (D' i).length x.bs = nbl (D i).length x.bs) (h3 : chunk (D' j) x.bs k = vs) (h4 : ∀ i l, i < m → ¬ (i = j ∧ l = k) → l < nbl (D i).length x.bs → chunk (D' i) x.bs l = chunk (D i) x.bs l) :
    Tok m N' (a.setB b { y with vs := vs }) (updT TS s (some (D', n))) := by
  intro t Dt nt et
  by_cases q : t = s
  · subst q
    rw [updT_same] at et
    cases et
    obtain ⟨x1, g1, g2, g3⟩ := T t D n e
    rw [ex] at g1
    cases g1
    refine ⟨x, ex, g2, g3.op, g3.b1, g3.b2, Nat.le_trans g3.tot hN, Nat.le_trans g3.nts hN, h1, fun i hi => by rw [g3.bl i hi, h2 i hi], fun j' k' c hj' ec => ?_, g3.inj⟩
    obtain ⟨y0, f1, f2, f3, f4, f5⟩ := g3.ce j' k' c hj' ec
    by_cases hc : c = b
    · subst hc
      obtain ⟨rfl, rfl⟩ := g3.inj j' k' j k c hj' hj ec eb
      rw [ey] at f1
      cases f1
      exact ⟨_, setB_same, h3.symm, f3, Nat.le_trans f4 hN, f5⟩
    · have hkl : k' < nbl (D j').length x.bs := by rw [← g3.bl j' hj']; exact (List.getElem?_eq_some_iff.mp ec).1
      refine ⟨y0, (setB_ne hc).trans f1, ?_, f3, Nat.le_trans f4 hN, f5⟩
      rw [f2, h4 j' k' hj' (fun z => ?_) hkl]
      obtain ⟨rfl, rfl⟩ := z
      rw [eb] at ec
      exact hc (Option.some.inj ec).symm
  · rw [updT_ne q] at et
    obtain ⟨x1, g1, g2, g3⟩ := T t Dt nt et
    refine ⟨x1, g1, g2, g3.keep hN (fun _ z => z) fun j' k' c y0 hj' ec ey0 ht => ?_⟩
    have hc : c ≠ b := fun z => by
      subst z
      have := so y0 ey0 t ht q x1 g1
      rw [g3.op] at this
      cases this
    exact ⟨y0, (setB_ne hc).trans ey0, rfl, ht, fun h => Nat.le_trans h hN, fun u hu => .inl hu⟩

/-! ### a new block behind the last -/
theorem Tok.newBlk {v : V} {dx cl sl : Addr} (T : Tok m N a TS) (e : TS s = some (D, n)) (ex : a.sh s = some x) (hj : j < m) (hn : a.bk nb = none) (hN : N ≤ N') (hN1 : 1 ≤ N') (hm : (D j).length % x.bs = 0) (hl : (D j).length + 1 ≤ N') :
    Tok m N' ((a.setB nb ⟨dx, cl, sl, [v], [s]⟩).setS s { x with bl := fun i => if i = j then x.bl j ++ [nb] else x.bl i }) (updT TS s (some ((fun i => if i = j then D j ++ [v] else D i), n))) := by
  intro t Dt nt et
  have hs : ∀ u, (a.sh u).isSome → (((a.setB nb ⟨dx, cl, sl, [v], [s]⟩).setS s { x with bl := fun i => if i = j then x.bl j ++ [nb] else x.bl i }).sh u).isSome := fun u q => isSome_setS q
  by_cases q : t = s
  · subst q
    rw [updT_same] at et
    cases et
    obtain ⟨x1, g1, g2, g3⟩ := T t D n e
    rw [ex] at g1
    cases g1
    obtain ⟨z1, z2⟩ := nbl_new g3.b1 hm
    obtain ⟨z3, z4⟩ := chunk_new (v := v) g3.b1 hm
    have get : ∀ j' k' c, ((if j' = j then x.bl j ++ [nb] else x.bl j') : List Addr)[k']? = some c → (j' = j ∧ k' = (D j).length / x.bs ∧ c = nb) ∨ ((x.bl j')[k']? = some c) := fun j' k' c h => by
      by_cases h1 : j' = j
      · subst h1
        rw [if_pos rfl] at h
        by_cases h2 : k' < (x.bl j').length
        · rw [List.getElem?_append_left h2] at h
          exact .inr h
        · rw [List.getElem?_append_right (by omega)] at h
          have h3 : k' - (x.bl j').length = 0 := by
            rcases Nat.eq_zero_or_pos (k' - (x.bl j').length) with z | z
            · exact z
            · rw [List.getElem?_eq_none (by show 1 ≤ _; omega)] at h; cases h
          rw [h3] at h
          have h4 := g3.bl j' hj
          exact .inl ⟨rfl, by omega, (Option.some.inj h).symm⟩
      · rw [if_neg h1] at h
        exact .inr h
    refine ⟨_, setS_same, g2, g3.op, g3.b1, g3.b2, Nat.le_trans g3.tot hN, Nat.le_trans g3.nts hN, fun i hi => ?_, fun i hi => ?_, fun j' k' c hj' ec => ?_, fun j1 k1 j2 k2 c h1 h2 e1 e2 => ?_⟩
    · show ((if i = j then D j ++ [v] else D i) : List V).length ≤ N'
      split
      · simpa using hl
      · exact Nat.le_trans (g3.dl i hi) hN
    · show ((if i = j then x.bl j ++ [nb] else x.bl i) : List Addr).length = nbl ((if i = j then D j ++ [v] else D i) : List V).length x.bs
      by_cases h1 : i = j
      · subst h1
        rw [if_pos rfl, if_pos rfl, List.length_append, List.length_append, g3.bl i hi]
        exact z1.symm
      · rw [if_neg h1, if_neg h1]
        exact g3.bl i hi
    · show ∃ y : Bk, _ ∧ y.vs = chunk ((if j' = j then D j ++ [v] else D j') : List V) x.bs k' ∧ _
      rcases get j' k' c ec with ⟨rfl, rfl, rfl⟩ | h1
      · exact ⟨_, setB_same, by rw [if_pos rfl, z3], List.mem_singleton.mpr rfl, hN1, fun u hu => by rw [List.mem_singleton.mp hu]; exact hs t (by rw [ex]; rfl)⟩
      · obtain ⟨y0, f1, f2, f3, f4, f5⟩ := g3.ce j' k' c hj' h1
        have c1 : c ≠ nb := fun z => by rw [z, hn] at f1; cases f1
        refine ⟨y0, (setB_ne c1).trans f1, ?_, f3, Nat.le_trans f4 hN, fun u hu => hs u (f5 u hu)⟩
        by_cases h2 : j' = j
        · subst h2
          rw [if_pos rfl, z4 k' (by rw [← z2, ← g3.bl j' hj]; exact (List.getElem?_eq_some_iff.mp h1).1)]
          exact f2
        · rw [if_neg h2]
          exact f2
    · rcases get j1 k1 c e1 with ⟨rfl, rfl, rfl⟩ | a1
      · rcases get j2 k2 c e2 with ⟨rfl, rfl, _⟩ | b1
        · exact ⟨rfl, rfl⟩
        · obtain ⟨y0, f1, _⟩ := g3.ce j2 k2 c h2 b1
          rw [hn] at f1
          cases f1
      · rcases get j2 k2 c e2 with ⟨rfl, rfl, rfl⟩ | b1
        · obtain ⟨y0, f1, _⟩ := g3.ce j1 k1 c h1 a1
          rw [hn] at f1
          cases f1
        · exact g3.inj j1 k1 j2 k2 c h1 h2 a1 b1
  · rw [updT_ne q] at et
    obtain ⟨x1, g1, g2, g3⟩ := T t Dt nt et
    refine ⟨x1, (setS_ne q).trans g1, g2, g3.keep hN hs fun j' k' c y0 hj' ec ey0 ht => ?_⟩
    have c1 : c ≠ nb := fun z => by rw [z, hn] at ey0; cases ey0
    exact ⟨y0, (setB_ne c1).trans ey0, rfl, ht, fun h => Nat.le_trans h hN, fun u hu => .inl hu⟩

/-! ### a sheet's own fields, its notes -/
theorem Tok.fields {x' : Sh} {n' : Nat} (T : Tok m N a TS) (e : TS s = some (D, n)) (ex : a.sh s = some x) (hN : N ≤ N') (h1 : x'.op = true) (h2 : x'.bs = x.bs) (h3 : x'.tot = n') (h4 : n' ≤ N') (h5 : x'.ns.length ≤ N') (h6 : x'.bl = x.bl) :
    Tok m N' (a.setS s x') (updT TS s (some (D, n'))) := by
  intro t Dt nt et
  have hs : ∀ u, (a.sh u).isSome → ((a.setS s x').sh u).isSome := fun u q => isSome_setS q
  by_cases q : t = s
  · subst q
    rw [updT_same] at et
    cases et
    obtain ⟨x1, g1, g2, g3⟩ := T t D n e
    rw [ex] at g1
    cases g1
    refine ⟨x', setS_same, h3, h1, by rw [h2]; exact g3.b1, by rw [h2]; exact g3.b2, by rw [h3]; exact h4, h5, fun i hi => Nat.le_trans (g3.dl i hi) hN, fun i hi => by rw [h2, h6]; exact g3.bl i hi, fun j' k' c hj' ec => ?_, by rw [h6]; exact g3.inj⟩
    rw [h6] at ec
    obtain ⟨y0, f1, f2, f3, f4, f5⟩ := g3.ce j' k' c hj' ec
    exact ⟨y0, f1, by rw [h2]; exact f2, f3, Nat.le_trans f4 hN, fun u hu => hs u (f5 u hu)⟩
  · rw [updT_ne q] at et
    obtain ⟨x1, g1, g2, g3⟩ := T t Dt nt et
    exact ⟨x1, (setS_ne q).trans g1, g2, g3.keep hN hs fun j' k' c y0 hj' ec ey0 ht => ⟨y0, ey0, rfl, ht, fun h => Nat.le_trans h hN, fun u hu => .inl hu⟩⟩
/-- closed: no longer tracked -/
theorem Tok.close {x' : Sh} (T : Tok m N a TS) : Tok m N (a.setS s x') (updT TS s none) := by
  intro t Dt nt et
  by_cases q : t = s
  · subst q
    rw [updT_same] at et
    cases et
  · rw [updT_ne q] at et
    obtain ⟨x1, g1, g2, g3⟩ := T t Dt nt et
    exact ⟨x1, (setS_ne q).trans g1, g2, g3.keep (Nat.le_refl _) (fun u => isSome_setS) fun j' k' c y0 hj' ec ey0 ht => ⟨y0, ey0, rfl, ht, id, fun u hu => .inl hu⟩⟩
/-- blocks made, lists of sheets grown by a sheet that now is the world's; a new sheet tracked -/
theorem Tok.add {x' : Sh} {D' : Nat → List V} (T : Tok m N a TS) (hn : a.sh s = none) (hs : ∀ u, (a.sh u).isSome → (a'.sh u).isSome) (he : ∀ u, (a.sh u).isSome → a'.sh u = a.sh u) (e' : a'.sh s = some x') (hN : N ≤ N')
    (hb : ∀ c y, a.bk c = some y → ∃ y', a'.bk c = some y' ∧ y'.vs = y.vs ∧ (y'.ls = y.ls ∨ (y'.ls = y.ls ++ [s] ∧ N + 1 ≤ N')))
    (S : Sok m N' a' s x' D') : Tok m N' a' (updT TS s (some (D', x'.tot))) := by
  intro t Dt nt et
  by_cases q : t = s
  · subst q
    rw [updT_same] at et
    cases et
    exact ⟨x', e', rfl, S⟩
  · rw [updT_ne q] at et
    obtain ⟨x1, g1, g2, g3⟩ := T t Dt nt et
    refine ⟨x1, (he t (by rw [g1]; rfl)).trans g1, g2, g3.keep hN hs fun j' k' c y0 hj' ec ey0 ht => ?_⟩
    obtain ⟨y', f1, f2, f3⟩ := hb c y0 ey0
    rcases f3 with f3 | ⟨f3, f4⟩
    · exact ⟨y', f1, f2, by rw [f3]; exact ht, fun h => by rw [f3]; exact Nat.le_trans h hN, fun u hu => .inl (by rw [← f3]; exact hu)⟩
    · refine ⟨y', f1, f2, by rw [f3]; exact List.mem_append_left _ ht, fun h => by rw [f3, List.length_append]; simp; omega, fun u hu => ?_⟩
      rw [f3] at hu
      rcases List.mem_append.mp hu with h | h
      · exact .inl h
      · rw [List.mem_singleton.mp h]
        exact .inr (by rw [e']; rfl)
end
end LF
set_option Elab.async false
set_option linter.all false
set_option maxRecDepth 100000
set_option maxHeartbeats 4000000
/-! The text by places; what the head must tell of it. Printed by gen_txt.py. -/
namespace LF
open PySem PySem.Spec PyProof.Rows L2
def top (i : Nat) : Stmt := PySem.Challenge.pw_labelframes_k70_whole_no_write_is_seen_e.main.body.getD i (.Pass ⟨0, 0, 0, 0⟩)
abbrev ga (K : PySem.W.Frag) (x : Str) : Addr := He.ga K x
/-- the object that C's attribute m is -/
abbrev ma (K : PySem.W.Frag) (c m : Str) : Addr := He.ma K (He.ga K c) m
/-- the getter of the property m of c -/
def gtr (K : PySem.W.Frag) (c m : Str) : Addr := match PySem.W.recIn K (ma K c m) "property" with
  | some (.ref g :: _) => g
  | _ => 0
def FunP (K : PySem.W.Frag) (x qual : Str) (st : Stmt) (f : Addr) : Prop := ∃ fd, Fun K x qual st f fd
/-- a def with defaults -/
def FunDP (K : PySem.W.Frag) (x qual : Str) (st : Stmt) (dvs : List V) (kws : List (Str × V)) (f : Addr) : Prop := ∃ fd, FunD K x qual (defArgs st) (defBody st) (defScope st) dvs kws f fd
/-- a method that closes over __class__ -/
def FunSP (P : Program) (K : PySem.W.Frag) (x qual : Str) (st : Stmt) (kws : List (Str × V)) (D f : Addr) : Prop := ∃ cl c fd, FunS P K ⟨x, qual, defArgs st, defBody st, defScope st, cl, c⟩ kws D f fd
/-- a def with its promise, positionally called -/
def Ok (P : Program) (w : World) (K : PySem.W.Frag) (mg : Str → Option Value) (base : Heap) (k : Nat) (f : Addr) (ps : List Str) (sp : Sp) : Prop := ∃ fd, FnOk P w K mg base CX0 k f fd ps sp ∧ Binds K fd ps []
def kName : Kd → Str
  | .s => "Sheet" | .n => "NotedSheet" | .b => "BoundedSheet" | .nb => "NotedBoundedSheet"
/-- the classes of the sheets -/
def cls (K : PySem.W.Frag) (k : Kd) : Addr := ga K (kName k)
abbrev cF (K : PySem.W.Frag) : Addr := ga K "Frame"
abbrev cB (K : PySem.W.Frag) : Addr := ga K "Block"

def at_put : Kd → Str
  | .s => "Sheet" | .n => "NotedSheet" | .b => "Sheet" | .nb => "NotedSheet"
def at_add_row : Kd → Str
  | .s => "Sheet" | .n => "NotedSheet" | .b => "BoundedSheet" | .nb => "NotedSheet"
def at_blank : Kd → Str
  | .s => "Sheet" | .n => "NotedSheet" | .b => "BoundedSheet" | .nb => "NotedBoundedSheet"
def at_hold : Kd → Str
  | .s => "Sheet" | .n => "NotedSheet" | .b => "BoundedSheet" | .nb => "NotedSheet"
structure TX (P : Program) (K : PySem.W.Frag) (mg : Str → Option Value) : Prop where
  b_isinstance : mg "isinstance" = none
  b_int : mg "int" = none
  b_str : mg "str" = none
  b_bool : mg "bool" = none
  b_tuple : mg "tuple" = none
  b_all : mg "all" = none
  b_len : mg "len" = none
  b_list : mg "list" = none
  b_range : mg "range" = none
  b_enumerate : mg "enumerate" = none
  b_sum : mg "sum" = none
  b_zip : mg "zip" = none
  b_abs : mg "abs" = none
  b_divmod : mg "divmod" = none
  b_repr : mg "repr" = none
  b_max : mg "max" = none
  b_min : mg "min" = none
  b_super : mg "super" = none
  f_is_integer : FunP K "is_integer" "is_integer" (top 21) (ga K "is_integer")
  g_is_integer : mg "is_integer" = some (.ref (ga K "is_integer"))
  f_is_name : FunP K "is_name" "is_name" (top 22) (ga K "is_name")
  g_is_name : mg "is_name" = some (.ref (ga K "is_name"))
  f_is_kind : FunP K "is_kind" "is_kind" (top 23) (ga K "is_kind")
  g_is_kind : mg "is_kind" = some (.ref (ga K "is_kind"))
  f_is_value : FunP K "is_value" "is_value" (top 24) (ga K "is_value")
  g_is_value : mg "is_value" = some (.ref (ga K "is_value"))
  f_is_column : FunP K "is_column" "is_column" (top 25) (ga K "is_column")
  g_is_column : mg "is_column" = some (.ref (ga K "is_column"))
  f_fault_in_schema : FunP K "fault_in_schema" "fault_in_schema" (top 26) (ga K "fault_in_schema")
  g_fault_in_schema : mg "fault_in_schema" = some (.ref (ga K "fault_in_schema"))
  f_check_schema : FunP K "check_schema" "check_schema" (top 28) (ga K "check_schema")
  g_check_schema : mg "check_schema" = some (.ref (ga K "check_schema"))
  f_fault_in_row : FunP K "fault_in_row" "fault_in_row" (top 29) (ga K "fault_in_row")
  g_fault_in_row : mg "fault_in_row" = some (.ref (ga K "fault_in_row"))
  f_is_row : FunP K "is_row" "is_row" (top 30) (ga K "is_row")
  g_is_row : mg "is_row" = some (.ref (ga K "is_row"))
  f_check_rows : FunP K "check_rows" "check_rows" (top 31) (ga K "check_rows")
  g_check_rows : mg "check_rows" = some (.ref (ga K "check_rows"))
  f_cut_blocks : FunP K "cut_blocks" "cut_blocks" (top 49) (ga K "cut_blocks")
  g_cut_blocks : mg "cut_blocks" = some (.ref (ga K "cut_blocks"))
  f_blank_frame : FunP K "blank_frame" "blank_frame" (top 50) (ga K "blank_frame")
  g_blank_frame : mg "blank_frame" = some (.ref (ga K "blank_frame"))
  f__law_cell : FunP K "_law_cell" "_law_cell" (top 56) (ga K "_law_cell")
  g__law_cell : mg "_law_cell" = some (.ref (ga K "_law_cell"))
  f__law_pool : FunP K "_law_pool" "_law_pool" (top 57) (ga K "_law_pool")
  g__law_pool : mg "_law_pool" = some (.ref (ga K "_law_pool"))
  f__law_draw : FunP K "_law_draw" "_law_draw" (top 58) (ga K "_law_draw")
  g__law_draw : mg "_law_draw" = some (.ref (ga K "_law_draw"))
  f__law_calls : FunP K "_law_calls" "_law_calls" (top 59) (ga K "_law_calls")
  g__law_calls : mg "_law_calls" = some (.ref (ga K "_law_calls"))
  f__law_worth : FunP K "_law_worth" "_law_worth" (top 60) (ga K "_law_worth")
  g__law_worth : mg "_law_worth" = some (.ref (ga K "_law_worth"))
  f__law_heads : FunP K "_law_heads" "_law_heads" (top 61) (ga K "_law_heads")
  g__law_heads : mg "_law_heads" = some (.ref (ga K "_law_heads"))
  f__law_lines : FunP K "_law_lines" "_law_lines" (top 62) (ga K "_law_lines")
  g__law_lines : mg "_law_lines" = some (.ref (ga K "_law_lines"))
  f__law_small : FunP K "_law_small" "_law_small" (top 63) (ga K "_law_small")
  g__law_small : mg "_law_small" = some (.ref (ga K "_law_small"))
  f__law_size : FunP K "_law_size" "_law_size" (top 64) (ga K "_law_size")
  g__law_size : mg "_law_size" = some (.ref (ga K "_law_size"))
  f__law_drawn_write : FunP K "_law_drawn_write" "_law_drawn_write" (top 65) (ga K "_law_drawn_write")
  g__law_drawn_write : mg "_law_drawn_write" = some (.ref (ga K "_law_drawn_write"))
  f__law_kind_of : FunP K "_law_kind_of" "_law_kind_of" (top 66) (ga K "_law_kind_of")
  g__law_kind_of : mg "_law_kind_of" = some (.ref (ga K "_law_kind_of"))
  f__law_write : FunP K "_law_write" "_law_write" (top 67) (ga K "_law_write")
  g__law_write : mg "_law_write" = some (.ref (ga K "_law_write"))
  f__law_step : FunP K "_law_step" "_law_step" (top 68) (ga K "_law_step")
  g__law_step : mg "_law_step" = some (.ref (ga K "_law_step"))
  f__law_right : FunP K "_law_right" "_law_right" (top 69) (ga K "_law_right")
  g__law_right : mg "_law_right" = some (.ref (ga K "_law_right"))
  f_law : FunP K "law" "law" (top 70) (ga K "law")
  g_Frame : mg "Frame" = some (.ref (ga K "Frame"))
  g_Block : mg "Block" = some (.ref (ga K "Block"))
  g_Sheet : mg "Sheet" = some (.ref (ga K "Sheet"))
  g_NotedSheet : mg "NotedSheet" = some (.ref (ga K "NotedSheet"))
  g_BoundedSheet : mg "BoundedSheet" = some (.ref (ga K "BoundedSheet"))
  g_NotedBoundedSheet : mg "NotedBoundedSheet" = some (.ref (ga K "NotedBoundedSheet"))
  kinds : ∃ (a : Addr) (o : Obj) (its : Array Value) (n : Nat), mg "KINDS" = some (.ref a) ∧ K.lookup a = some o ∧ o.cls = .type "tuple" ∧ o.data = .seq its n ∧ its.size ≤ sizeLine ∧ Vals [.str "int", .str "text", .str "bool"] its.toList
  letters : ∃ t, mg "LETTERS" = some (.str "abcdefghijklmnopqrstuvwxyz" t)
  most : ∃ t, mg "MOST_LETTERS" = some (.int 8 t)
  f_Frame_names : FunP K "names" "Frame.names" (inClass (top 46) 4) (gtr K "Frame" "names")
  f_Frame_schema : FunP K "schema" "Frame.schema" (inClass (top 46) 2) (gtr K "Frame" "schema")
  f_Frame_rows : FunP K "rows" "Frame.rows" (inClass (top 46) 3) (gtr K "Frame" "rows")
  f_Frame_column : FunP K "column" "Frame.column" (inClass (top 46) 5) (ma K "Frame" "column")
  f_Frame___len__ : FunP K "__len__" "Frame.__len__" (inClass (top 46) 10) (ma K "Frame" "__len__")
  f_Block___init__ : FunP K "__init__" "Block.__init__" (inClass (top 48) 0) (ma K "Block" "__init__")
  f_Sheet_schema : FunP K "schema" "Sheet.schema" (inClass (top 51) 2) (gtr K "Sheet" "schema")
  f_Sheet___len__ : FunP K "__len__" "Sheet.__len__" (inClass (top 51) 5) (ma K "Sheet" "__len__")
  f_Sheet_check_open : FunP K "check_open" "Sheet.check_open" (inClass (top 51) 8) (ma K "Sheet" "check_open")
  f_Sheet_check_row : FunP K "check_row" "Sheet.check_row" (inClass (top 51) 9) (ma K "Sheet" "check_row")
  f_Sheet_place_of : FunP K "place_of" "Sheet.place_of" (inClass (top 51) 10) (ma K "Sheet" "place_of")
  f_Sheet_own_block : FunP K "own_block" "Sheet.own_block" (inClass (top 51) 11) (ma K "Sheet" "own_block")
  f_Sheet_put : FunP K "put" "Sheet.put" (inClass (top 51) 12) (ma K "Sheet" "put")
  f_Sheet_add_row : FunP K "add_row" "Sheet.add_row" (inClass (top 51) 13) (ma K "Sheet" "add_row")
  f_Sheet_to_frame : FunP K "to_frame" "Sheet.to_frame" (inClass (top 51) 14) (ma K "Sheet" "to_frame")
  f_Sheet_blank : FunP K "blank" "Sheet.blank" (inClass (top 51) 15) (ma K "Sheet" "blank")
  f_Sheet_hold : FunP K "hold" "Sheet.hold" (inClass (top 51) 16) (ma K "Sheet" "hold")
  f_Sheet_twin : FunP K "twin" "Sheet.twin" (inClass (top 51) 17) (ma K "Sheet" "twin")
  f_Sheet_close : FunP K "close" "Sheet.close" (inClass (top 51) 18) (ma K "Sheet" "close")
  f_Sheet_shared : FunP K "shared" "Sheet.shared" (inClass (top 51) 19) (ma K "Sheet" "shared")
  f_NotedSheet_blank : FunP K "blank" "NotedSheet.blank" (inClass (top 52) 3) (ma K "NotedSheet" "blank")
  f_BoundedSheet_blank : FunP K "blank" "BoundedSheet.blank" (inClass (top 53) 5) (ma K "BoundedSheet" "blank")
  f_NotedBoundedSheet_blank : FunP K "blank" "NotedBoundedSheet.blank" (inClass (top 54) 0) (ma K "NotedBoundedSheet" "blank")
  rows0 : ∃ (r : Addr) (o : Obj) (n : Nat), K.lookup r = some o ∧ o.cls = .type "tuple" ∧ o.data = .seq #[] n ∧ FunDP K "__init__" "Frame.__init__" (inClass (top 46) 0) [.ref r] [] (ma K "Frame" "__init__")
  f_Sheet___init__ : FunDP K "__init__" "Sheet.__init__" (inClass (top 51) 1) [] [("block", .int 4)] (ma K "Sheet" "__init__")
  f_NotedSheet___init__ : FunSP P K "__init__" "NotedSheet.__init__" (inClass (top 52) 0) [("block", .int 4)] (ga K "NotedSheet") (ma K "NotedSheet" "__init__")
  f_NotedSheet_put : FunSP P K "put" "NotedSheet.put" (inClass (top 52) 1) [] (ga K "NotedSheet") (ma K "NotedSheet" "put")
  f_NotedSheet_add_row : FunSP P K "add_row" "NotedSheet.add_row" (inClass (top 52) 2) [] (ga K "NotedSheet") (ma K "NotedSheet" "add_row")
  f_NotedSheet_hold : FunSP P K "hold" "NotedSheet.hold" (inClass (top 52) 4) [] (ga K "NotedSheet") (ma K "NotedSheet" "hold")
  f_BoundedSheet___init__ : FunSP P K "__init__" "BoundedSheet.__init__" (inClass (top 53) 0) [("block", .int 4)] (ga K "BoundedSheet") (ma K "BoundedSheet" "__init__")
  f_BoundedSheet_add_row : FunSP P K "add_row" "BoundedSheet.add_row" (inClass (top 53) 4) [] (ga K "BoundedSheet") (ma K "BoundedSheet" "add_row")
  f_BoundedSheet_hold : FunSP P K "hold" "BoundedSheet.hold" (inClass (top 53) 6) [] (ga K "BoundedSheet") (ma K "BoundedSheet" "hold")
  c_Frame : Cls K (cF K)
  c_Block : Cls K (cB K)
  c_sheet : ∀ k, Cls K (cls K k)
  na_Frame_heads : NoAttr K (cF K) "heads"
  na_Frame_lines : NoAttr K (cF K) "lines"
  na_Block_cells : NoAttr K (cB K) "cells"
  na_Block_sheets : NoAttr K (cB K) "sheets"
  na_heads : ∀ k, NoAttr K (cls K k) "heads"
  na_block_size : ∀ k, NoAttr K (cls K k) "block_size"
  na_total : ∀ k, NoAttr K (cls K k) "total"
  na_made : ∀ k, NoAttr K (cls K k) "made"
  na_opened : ∀ k, NoAttr K (cls K k) "opened"
  na_parts : ∀ k, NoAttr K (cls K k) "parts"
  na_bound : ∀ k, NoAttr K (cls K k) "bound"
  na_noted : ∀ k, NoAttr K (cls K k) "noted"
  mk_Frame : Mk K (cF K) (ma K "Frame" "__init__")
  mk_Block : Mk K (cB K) (ma K "Block" "__init__")
  mk_s : Mk K (cls K .s) (ma K "Sheet" "__init__")
  mk_n : Mk K (cls K .n) (ma K "NotedSheet" "__init__")
  mk_b : Mk K (cls K .b) (ma K "BoundedSheet" "__init__")
  mk_nb : Mk K (cls K .nb) (ma K "NotedSheet" "__init__")
  p_Frame_schema : PropOf K (cF K) "schema" (ma K "Frame" "schema") (gtr K "Frame" "schema")
  p_Frame_rows : PropOf K (cF K) "rows" (ma K "Frame" "rows") (gtr K "Frame" "rows")
  p_Frame_names : PropOf K (cF K) "names" (ma K "Frame" "names") (gtr K "Frame" "names")
  p_schema : ∀ k, PropOf K (cls K k) "schema" (ma K "Sheet" "schema") (gtr K "Sheet" "schema")
  m_Frame_column : Meth K (cF K) "column" (ma K "Frame" "column")
  m_Frame___len__ : Meth K (cF K) "__len__" (ma K "Frame" "__len__")
  m_check_open : ∀ k, Meth K (cls K k) "check_open" (ma K "Sheet" "check_open")
  m_check_row : ∀ k, Meth K (cls K k) "check_row" (ma K "Sheet" "check_row")
  m_place_of : ∀ k, Meth K (cls K k) "place_of" (ma K "Sheet" "place_of")
  m_own_block : ∀ k, Meth K (cls K k) "own_block" (ma K "Sheet" "own_block")
  m_to_frame : ∀ k, Meth K (cls K k) "to_frame" (ma K "Sheet" "to_frame")
  m_twin : ∀ k, Meth K (cls K k) "twin" (ma K "Sheet" "twin")
  m_close : ∀ k, Meth K (cls K k) "close" (ma K "Sheet" "close")
  m_shared : ∀ k, Meth K (cls K k) "shared" (ma K "Sheet" "shared")
  m___len__ : ∀ k, Meth K (cls K k) "__len__" (ma K "Sheet" "__len__")
  m_put : ∀ k, Meth K (cls K k) "put" (ma K (at_put k) "put")
  m_add_row : ∀ k, Meth K (cls K k) "add_row" (ma K (at_add_row k) "add_row")
  m_blank : ∀ k, Meth K (cls K k) "blank" (ma K (at_blank k) "blank")
  m_hold : ∀ k, Meth K (cls K k) "hold" (ma K (at_hold k) "hold")
  s_NotedSheet_NotedSheet___init__ : SupF K (ga K "NotedSheet") (ga K "NotedSheet") "__init__" (ma K "Sheet" "__init__")
  s_NotedBoundedSheet_NotedSheet___init__ : SupF K (ga K "NotedBoundedSheet") (ga K "NotedSheet") "__init__" (ma K "BoundedSheet" "__init__")
  s_BoundedSheet_BoundedSheet___init__ : SupF K (ga K "BoundedSheet") (ga K "BoundedSheet") "__init__" (ma K "Sheet" "__init__")
  s_NotedBoundedSheet_BoundedSheet___init__ : SupF K (ga K "NotedBoundedSheet") (ga K "BoundedSheet") "__init__" (ma K "Sheet" "__init__")
  s_NotedSheet_NotedSheet_put : SupF K (ga K "NotedSheet") (ga K "NotedSheet") "put" (ma K "Sheet" "put")
  s_NotedBoundedSheet_NotedSheet_put : SupF K (ga K "NotedBoundedSheet") (ga K "NotedSheet") "put" (ma K "Sheet" "put")
  s_NotedSheet_NotedSheet_add_row : SupF K (ga K "NotedSheet") (ga K "NotedSheet") "add_row" (ma K "Sheet" "add_row")
  s_NotedBoundedSheet_NotedSheet_add_row : SupF K (ga K "NotedBoundedSheet") (ga K "NotedSheet") "add_row" (ma K "BoundedSheet" "add_row")
  s_BoundedSheet_BoundedSheet_add_row : SupF K (ga K "BoundedSheet") (ga K "BoundedSheet") "add_row" (ma K "Sheet" "add_row")
  s_NotedBoundedSheet_BoundedSheet_add_row : SupF K (ga K "NotedBoundedSheet") (ga K "BoundedSheet") "add_row" (ma K "Sheet" "add_row")
  s_NotedSheet_NotedSheet_hold : SupF K (ga K "NotedSheet") (ga K "NotedSheet") "hold" (ma K "Sheet" "hold")
  s_NotedBoundedSheet_NotedSheet_hold : SupF K (ga K "NotedBoundedSheet") (ga K "NotedSheet") "hold" (ma K "BoundedSheet" "hold")
  s_BoundedSheet_BoundedSheet_hold : SupF K (ga K "BoundedSheet") (ga K "BoundedSheet") "hold" (ma K "Sheet" "hold")
  s_NotedBoundedSheet_BoundedSheet_hold : SupF K (ga K "NotedBoundedSheet") (ga K "BoundedSheet") "hold" (ma K "Sheet" "hold")
  stat : PySem.W.nsIn K PySem.cStatics "thirdparty.any" = some none
  topSuper : (P.main.scope.names.lookup ("super" : Str)).isSome = false
  rdSheet : ClX.CRead K (cls K .s) (.type "type")
  mostBlock : ∃ t, ClX.CVal K (cls K .s) (.type "type") "MOST_BLOCK" (.int 100) (.int 100 t)
  eqo : ∀ k, EqO K (cls K k)
  mro : ∀ k k', ∃ b, PySem.W.mroIn K (cls K k) (.ref (cls K k')) = some b
  isFrame : PySem.W.kitOne K (.ref (cF K)) (.ref (cF K)) = some true
  isSheet : ∀ k, PySem.W.kitOne K (.ref (cls K k)) (.ref (cls K .s)) = some true
  o_Frame : PySem.W.findIn K (.ref (cF K)) "__class__" = some (some (.builtin "object.__class__"))
  o_sheet : ∀ k, PySem.W.findIn K (.ref (cls K k)) "__class__" = some (some (.builtin "object.__class__"))
  o_get : PySem.W.specialIn K (.builtin "object.__class__") "__get__" = some (some (.builtin "getset_descriptor.__get__"))
  o_tak : PySem.W.takesIn K (.builtin "object.__class__") = some true
  o_mroF : PySem.W.mroIn K (cF K) (.type "object") = some true
  o_mroS : ∀ k, PySem.W.mroIn K (cls K k) (.type "object") = some true
end LF
set_option Elab.async false
set_option linter.all false
set_option maxRecDepth 100000
set_option maxHeartbeats 4000000
/-! The defs of values. -/
namespace LF
open PySem PySem.Spec PyProof.Rows L2

/-! ### what values, names, kinds, schemas and rows are -/
def lettersZ : Str := "abcdefghijklmnopqrstuvwxyz"
def NameOk (z : Str) : Prop := 1 ≤ z.length ∧ z.length ≤ 8 ∧ ∀ c ∈ z.cps.toList, c ∈ lettersZ.cps.toList
def KindOk (k : Str) : Prop := k = "int" ∨ k = "text" ∨ k = "bool"
def KindV (k : Str) (v : V) : Prop := v = .non ∨ (k = "int" ∧ ∃ i, v = .int i) ∨ (k = "text" ∧ ∃ z : Str, v = .str z ∧ z.length ≤ 1000 ∧ ∀ c ∈ z.cps.toList, 32 ≤ c ∧ c ≤ 126) ∨ (k = "bool" ∧ ∃ b, v = .bl b)
abbrev Sch := List (Str × Str)
structure SchOk (sch : Sch) : Prop where
  ne : sch ≠ []
  le : sch.length ≤ 4
  nm : ∀ p ∈ sch, NameOk p.1 ∧ KindOk p.2
  nd : (sch.map (·.1)).Nodup
def Hd (K : PySem.W.Frag) (H : Hp) (hd : Addr) (sch : Sch) : Prop := ∃ as : List Addr, SqT K H hd (as.map V.ref) ∧ as.length = sch.length ∧ ∀ (i : Nat) (a : Addr) (p : Str × Str), as[i]? = some a → sch[i]? = some p → SqT K H a [.str p.1, .str p.2]
def RowOk (sch : Sch) (r : List V) : Prop := r.length = sch.length ∧ ∀ (i : Nat) (p : Str × Str) (v : V), sch[i]? = some p → r[i]? = some v → KindV p.2 v
def RowsAt (K : PySem.W.Frag) (H : Hp) (L : Addr) (rows : List (List V)) : Prop := ∃ rs : List Addr, SqT K H L (rs.map V.ref) ∧ rs.length = rows.length ∧ ∀ (i : Nat) (a : Addr) (r : List V), rs[i]? = some a → rows[i]? = some r → SqT K H a r
theorem same_sqT {K : PySem.W.Frag} {H H' : Hp} {a : Addr} {xs : List V} (e : Same H H') (h : SqT K H a xs) : SqT K H' a xs := h.ext e
theorem Hd.same {K : PySem.W.Frag} {H H' : Hp} {hd : Addr} {sch : Sch} (h : Hd K H hd sch) (e : Same H H') : Hd K H' hd sch := by
  obtain ⟨as, h1, h2, h3⟩ := h
  exact ⟨as, h1.ext e, h2, fun i a p x y => (h3 i a p x y).ext e⟩
theorem RowsAt.same {K : PySem.W.Frag} {H H' : Hp} {hd : Addr} {rows : List (List V)} (h : RowsAt K H hd rows) (e : Same H H') : RowsAt K H' hd rows := by
  obtain ⟨as, h1, h2, h3⟩ := h
  exact ⟨as, h1.ext e, h2, fun i a p x y => (h3 i a p x y).ext e⟩
theorem same_upd {H : Hp} {p : Addr} {o : HO} (h : H p = none) : Same H (upd H p o) := fun a u e => by rw [upd_ne (ne_of_none e h)]; exact e

theorem yes {σ : L2.St} {H : Hp} {A B : Hp → Prop} (h : A H) : tYes σ H (fun b H3 => if b = true then A H3 else B H3) := by
  show (if true = true then A H else B H)
  rw [if_pos rfl]
  exact h

/-! ### calls by a promise -/
section
variable {X : Cx} {j k : Nat} {f : Addr} {ps : List Str} {sp : Sp} {x : Str} {e : Expr} {es : List Expr} {t : TA} {p pos : Pos}
theorem pe_callO (O : Ok X.prog X.w X.K X.mg X.base j f ps sp) (hk : PySem.W.keepIn X.K (.ref f) = true) (hr : Room k X.A) (hg : Gl X x) (hm : X.mg x = some (.ref f)) (ha : PA X (e :: es) t) (hj : j ≤ k := by decide)
    (hdb : (x == ("__debug__" : Str)) = false := by decide) (he : starEach (e :: es) X.env = (false, eval e X.env) :: starEach es X.env := by rfl) (hpl : (backTo pos (starEach es X.env)).any (·.1) = false := by rfl) :
    PE X (.Call (.Name x p) (e :: es) [] pos) (tCall sp [] E0 t) := by
  obtain ⟨fd, G, b⟩ := O
  exact pe_call G (hr.mono hj) hg hm hk b .nil pass0 ha hdb he hpl
end
theorem FunP.kp {K : PySem.W.Frag} {x qual : Str} {st : Stmt} {f : Addr} (h : FunP K x qual st f) : PySem.W.keepIn K (.ref f) = true := by
  obtain ⟨fd, F⟩ := h
  exact F.kp

variable {P : Program} {w : World} {K : PySem.W.Frag} {mg : Str → Option Value} {base : Heap}

/-! ### is_integer -/
theorem sc_isint : FnScope ["value"] ["value"] (defScope (top 21)) := ⟨rfl, rfl, rfl, by decide +kernel, rfl, by decide +kernel, by decide +kernel⟩
def spIsInt : Sp := fun vs H Q _ => ∃ i : Int, vs = [.int i] ∧ Q (.bl true) H
theorem ok_isint (T : TX P K mg) : Ok P w K mg base 1 (ga K "is_integer") ["value"] spIsInt := by
  obtain ⟨fd, F⟩ := T.f_is_integer
  refine ⟨fd, F.ok sc_isint (fun vs H Q E h => by obtain ⟨i, rfl, _⟩ := h; rfl) (fun cdv A outer s H vs Q E hr h => ?_), F.binds fun _ _ _ _ _ _ us hl => match us, hl with | [_], _ => rfl⟩
  obtain ⟨i, rfl, hQ⟩ := h
  refine ⟨_, pss_one (ps_ret (pe_and (pe_callB call_isi (by rfl) T.b_isinstance boot_isinstance (pa_cons (pv 0) (pa_cons (pe_bltn (v := .ty "int") (by rfl) T.b_int boot_int rfl) pa_nil)))
    (pe_one (pe_not (pe_callB call_isi (by rfl) T.b_isinstance boot_isinstance (pa_cons (pv 0) (pa_cons (pe_bltn (v := .ty "bool") (by rfl) T.b_bool boot_bool rfl) pa_nil))))))), ?_⟩
  refine ⟨_, rfl, ⟨_, _, _, _, _, rfl, .ty "int", .base (.int i), kit_ty (r := true) (by decide +kernel), _, rfl, ?_⟩⟩
  exact iteT ⟨_, rfl, ⟨_, _, _, _, _, rfl, .ty "bool", .base (.int i), kit_ty (r := false) (by decide +kernel), _, rfl, hQ⟩⟩

/-! ### is_name -/
theorem sc_isname : FnScope ["value", "sign"] ["value"] (defScope (top 22)) := ⟨rfl, rfl, rfl, by decide +kernel, rfl, by decide +kernel, by decide +kernel⟩
def spIsName : Sp := fun vs H Q _ => ∃ z : Str, vs = [.str z] ∧ NameOk z ∧ ∀ H', Same H H' → Q (.bl true) H'
theorem map_true {α : Type} {l : List α} {f : α → Bool} (h : ∀ x ∈ l, f x = true) : (l.map f).all id = true := by
  rw [List.all_map]
  exact List.all_eq_true.mpr fun x hx => h x hx
theorem ok_isname (T : TX P K mg) : Ok P w K mg base 1 (ga K "is_name") ["value"] spIsName := by
  obtain ⟨fd, F⟩ := T.f_is_name
  obtain ⟨tl, hl⟩ := T.letters
  obtain ⟨tm, hm⟩ := T.most
  refine ⟨fd, F.ok sc_isname (fun vs H Q E h => by obtain ⟨i, rfl, _⟩ := h; rfl) (fun cdv A outer s H vs Q E hr h => ?_), F.binds fun _ _ _ _ _ _ us hl => match us, hl with | [_], _ => rfl⟩
  obtain ⟨z, rfl, hz, hQ⟩ := h
  obtain ⟨z1, z2, z3⟩ := hz
  refine ⟨_, pss_one (ps_ret (pe_and (pe_callB call_isi (by rfl) T.b_isinstance boot_isinstance (pa_cons (pv 0) (pa_cons (pe_bltn (v := .ty "str") (by rfl) T.b_str boot_str rfl) pa_nil)))
    (pe_and (pe_chain op_le op_le pe_int (pe_callB call_len (by rfl) T.b_len boot_len (pa_cons (pv 0) pa_nil)) (pe_glob (v := .int 8) (by rfl) hm ⟨_, rfl⟩))
    (pe_one (pe_callB (cr_all rfl) (by rfl) T.b_all boot_all (pa_cons (pe_lc (own := [("sign", 1)]) (g := gName 1) (tt := tYes) (by rfl) sc_isname.nd (pi_str (pv 0)) (blkOk_by (own := [("sign", 1)]) (N := ["value", "sign"]) (sc := defScope (top 22)) (by decide +kernel))
      (fun _ _ _ _ _ => pg_name (i := 1) sc_isname.nd rfl (Or.inl rfl)) (fun _ _ _ _ _ => pts_nil) (fun _ _ _ _ _ => pe_cmpR op_in_sign (pv 1) (pe_glob (v := .str lettersZ) (by rfl) hl ⟨_, rfl⟩) (by rfl))) pa_nil)))))), ?_⟩
  refine ⟨_, rfl, ⟨_, _, _, _, _, rfl, .ty "str", .base (.str z), kit_ty (r := true) (by decide +kernel), _, rfl, ?_⟩⟩
  refine iteT ?_
  have hs : sizeLine = 16777216 := sizeLine_eq
  refine ⟨_, rfl, _, _, rfl, ⟨by omega, rfl⟩, ⟨_, _, rfl, rfl, _, rfl, ?_⟩⟩
  rw [decide_eq_true (show (1 : Int) ≤ (z.length : Int) by omega)]
  refine iteT ⟨_, _, rfl, rfl, _, rfl, ?_⟩
  rw [decide_eq_true (show (z.length : Int) ≤ 8 by omega)]
  refine iteT ⟨_, rfl, _, rfl, fun D hD => ?_⟩
  refine lc_it walk_str (fun i H' => H' = upd H D (.lst ((z.cps.toList.take i).map fun c => V.bl (decide (c ∈ lettersZ.cps.toList))))) (by simp) (fun _ _ _ _ => trivial) (fun i x H' H'' hi hp hy => ?_) fun H' hp => ?_
  · obtain ⟨rfl, c, hc, rfl⟩ := hy
    subst hp
    refine ⟨rfl, ?_⟩
    refine yes ?_
    refine ⟨_, rfl, _, _, rfl, rfl, _, upd_same, ?_, ?_⟩
    · have hi' : i < z.length := hi
      have : ((z.cps.toList.take i).map fun c => V.bl (decide (c ∈ lettersZ.cps.toList))).length ≤ i := by simp; omega
      omega
    · rw [upd_upd]
      congr 2
      rw [List.take_succ_eq_append_getElem (by simpa using hi), List.map_append]
      have : z.cps.toList[i]'(by simpa using hi) = c := by
        have := Array.getElem?_eq_some_iff.mp hc
        obtain ⟨h1, h2⟩ := this
        simpa using h2
      rw [this]
      rfl
  · subst hp
    refine ⟨_, z.cps.toList.map fun c => decide (c ∈ lettersZ.cps.toList), rfl, SqL.of ?_, ?_⟩
    · rw [upd_same, List.take_of_length_le (by simp)]
      simp
    · rw [map_true fun c hc => decide_eq_true (z3 c hc)]
      exact hQ _ (same_upd hD)

/-! ### is_kind -/
theorem sc_iskind : FnScope ["value"] ["value"] (defScope (top 23)) := ⟨rfl, rfl, rfl, by decide +kernel, rfl, by decide +kernel, by decide +kernel⟩
def spIsKind : Sp := fun vs H Q _ => ∃ z : Str, vs = [.str z] ∧ KindOk z ∧ Q (.bl true) H
theorem ok_iskind (T : TX P K mg) : Ok P w K mg base 1 (ga K "is_kind") ["value"] spIsKind := by
  obtain ⟨fd, F⟩ := T.f_is_kind
  obtain ⟨a, o, its, n, hm, h1, h2, h3, h4, h5⟩ := T.kinds
  refine ⟨fd, F.ok sc_iskind (fun vs H Q E h => by obtain ⟨i, rfl, _⟩ := h; rfl) (fun cdv A outer s H vs Q E hr h => ?_), F.binds fun _ _ _ _ _ _ us hl => match us, hl with | [_], _ => rfl⟩
  obtain ⟨z, rfl, hz, hQ⟩ := h
  refine ⟨_, pss_one (ps_ret (pe_and (pe_callB call_isi (by rfl) T.b_isinstance boot_isinstance (pa_cons (pv 0) (pa_cons (pe_bltn (v := .ty "str") (by rfl) T.b_str boot_str rfl) pa_nil)))
    (pe_one (pe_cmpR op_in_seq (pv 0) (pe_glob (v := .ref a) (by rfl) hm rfl) (by rfl))))), ?_⟩
  refine ⟨_, rfl, ⟨_, _, _, _, _, rfl, .ty "str", .base (.str z), kit_ty (r := true) (by decide +kernel), _, rfl, ?_⟩⟩
  refine iteT ⟨_, rfl, _, _, rfl, .inr (.inr ⟨o, its, n, h1, h2, h3, h4, h5⟩), rfl, rfl, ?_⟩
  have : inV (.str z) [.str "int", .str "text", .str "bool"] = true := by
    rcases hz with rfl | rfl | rfl <;> decide +kernel
  show Q (.bl (inV (.str z) [.str "int", .str "text", .str "bool"])) H
  rw [this]
  exact hQ

/-! ### is_value -/
theorem sc_isval : FnScope ["kind", "value", "sign"] ["kind", "value"] (defScope (top 24)) := ⟨rfl, rfl, rfl, by decide +kernel, rfl, by decide +kernel, by decide +kernel⟩
def spIsVal : Sp := fun vs H Q _ => ∃ (k : Str) (v : V), vs = [.str k, v] ∧ KindV k v ∧ ∀ H', Same H H' → Q (.bl true) H'
theorem le_sign {a c : Nat} (h : a ≤ c) : (!decide ([c] < [a])) = true := by
  rw [decide_eq_false]
  · rfl
  · intro z
    rw [List.cons_lt_cons_iff] at z
    rcases z with z | ⟨_, z⟩
    · omega
    · exact absurd z (List.lt_irrefl _)
theorem ok_isval (T : TX P K mg) : Ok P w K mg base 2 (ga K "is_value") ["kind", "value"] spIsVal := by
  obtain ⟨fd, F⟩ := T.f_is_value
  have O1 : Ok P w K mg base 1 (ga K "is_integer") ["value"] spIsInt := ok_isint T
  refine ⟨fd, F.ok sc_isval (fun vs H Q E h => by obtain ⟨k, v, rfl, _⟩ := h; rfl) (fun cdv A outer s H vs Q E hr h => ?_), F.binds fun _ _ _ _ _ _ us hl => match us, hl with | [_, _], _ => rfl⟩
  obtain ⟨k, v, rfl, hv, hQ⟩ := h
  refine ⟨_, pss_cons (ps_if (pt_cmpR op_isN (pv 1) pe_non (nomark _)) (pss_one (ps_ret pe_bl)) pss_nil)
    (pss_cons (ps_match (pv 0) (pms_str (pss_one (ps_ret (pe_callO O1 T.f_is_integer.kp hr (by rfl) T.g_is_integer (pa_cons (pv 1) pa_nil))))
      (pms_str (pss_one (ps_ret (pe_and (pe_callB call_isi (by rfl) T.b_isinstance boot_isinstance (pa_cons (pv 1) (pa_cons (pe_bltn (v := .ty "str") (by rfl) T.b_str boot_str rfl) pa_nil)))
        (pe_one (pe_callB (cr_all rfl) (by rfl) T.b_all boot_all (pa_cons (pe_lc (own := [("sign", 2)]) (g := gName 2) (tt := tYes) (by rfl) sc_isval.nd (pi_str (pv 1)) (blkOk_by (own := [("sign", 2)]) (N := ["kind", "value", "sign"]) (sc := defScope (top 24)) (by decide +kernel))
          (fun _ _ _ _ _ => pg_name (i := 2) sc_isval.nd rfl (Or.inl rfl)) (fun _ _ _ _ _ => pts_nil) (fun _ _ _ _ _ => pe_chain op_le_str op_le_str pe_str (pv 2) pe_str)) pa_nil)))))) pms_nil)))
    (pss_one (ps_ret (pe_callB call_isi (by rfl) T.b_isinstance boot_isinstance (pa_cons (pv 1) (pa_cons (pe_bltn (v := .ty "bool") (by rfl) T.b_bool boot_bool rfl) pa_nil)))))), ?_⟩
  rcases hv with rfl | ⟨rfl, i, rfl⟩ | ⟨rfl, z, rfl, hz, hc⟩ | ⟨rfl, b, rfl⟩
  · exact ⟨_, rfl, rfl, _, rfl, iteT (hQ H (Same.refl H))⟩
  · refine ⟨_, rfl, rfl, _, rfl, iteF ⟨_, rfl, rfl, iteT ⟨_, rfl, i, rfl, hQ H (Same.refl H)⟩⟩⟩
  · refine ⟨_, rfl, rfl, _, rfl, iteF ⟨_, rfl, rfl, iteF ⟨rfl, iteT ?_⟩⟩⟩
    refine ⟨_, rfl, ⟨_, _, _, _, _, rfl, .ty "str", .base (.str z), kit_ty (r := true) (by decide +kernel), _, rfl, ?_⟩⟩
    refine iteT ⟨_, rfl, _, rfl, fun D hD => ?_⟩
    refine lc_it walk_str (fun i H' => H' = upd H D (.lst ((z.cps.toList.take i).map fun _ => V.bl true))) (by simp) (fun _ _ _ _ => trivial) (fun i x H' H'' hi hp hy => ?_) fun H' hp => ?_
    · obtain ⟨rfl, c, hc', rfl⟩ := hy
      subst hp
      have hmem : c ∈ z.cps.toList := by
        obtain ⟨h1, h2⟩ := Array.getElem?_eq_some_iff.mp hc'
        rw [← h2]
        simp
      obtain ⟨c1, c2⟩ := hc c hmem
      refine ⟨rfl, ?_⟩
      refine yes ?_
      refine ⟨_, rfl, _, _, rfl, rfl, _, rfl, ?_⟩
      have e1 : (!decide (([c] : List Nat) < [32])) = true := le_sign c1
      have e2 : (!decide (([126] : List Nat) < [c])) = true := le_sign c2
      have hs : sizeLine = 16777216 := sizeLine_eq
      have hi' : i < z.length := hi
      show (if (!decide (([c] : List Nat) < [32])) = true then _ else _)
      rw [e1]
      refine iteT ⟨_, _, rfl, rfl, ?_⟩
      show ∃ acc, _
      refine ⟨_, upd_same, by simp; omega, ?_⟩
      rw [upd_upd]
      congr 2
      rw [List.take_succ_eq_append_getElem (by simpa using hi), List.map_append]
      show _ ++ [V.bl (!decide (([126] : List Nat) < [c]))] = _
      rw [e2]
      rfl
    · subst hp
      refine ⟨_, z.cps.toList.map fun _ => true, rfl, SqL.of ?_, ?_⟩
      · rw [upd_same, List.take_of_length_le (by simp)]
        simp
      · rw [map_true fun _ _ => rfl]
        exact hQ _ (same_upd hD)
  · refine ⟨_, rfl, rfl, _, rfl, iteF ⟨_, rfl, rfl, iteF ⟨rfl, iteF ?_⟩⟩⟩
    exact ⟨_, rfl, ⟨_, _, _, _, _, rfl, .ty "bool", .base (.bl b), kit_ty (r := true) (by decide +kernel), hQ H (Same.refl H)⟩⟩
end LF
set_option Elab.async false
set_option linter.all false
set_option maxRecDepth 100000
set_option maxHeartbeats 4000000
/-! Columns, schemas, rows. -/
namespace LF
open PySem PySem.Spec PyProof.Rows L2
theorem tyx_tup {K : PySem.W.Frag} {H : Hp} {a : Addr} {xs : List V} (h : SqT K H a xs) : TyX K H (.ref a) (.type "tuple") := by
  rcases h with (h | ⟨o, h⟩) | ⟨o, its, n, h1, h2, _⟩
  · exact .base (.tup h)
  · exact .fTuple h
  · exact .kTuple h1 h2
theorem kit_tt {K : PySem.W.Frag} : PySem.W.kitOne K (.type "tuple") (.type "tuple") = some true := kit_ty (by decide +kernel)
theorem kit_ss {K : PySem.W.Frag} : PySem.W.kitOne K (.type "str") (.type "str") = some true := kit_ty (by decide +kernel)
theorem get_map {as : List Addr} {i : Nat} {y : V} (h : (as.map V.ref)[i]? = some y) : ∃ a, as[i]? = some a ∧ y = .ref a := by
  rw [List.getElem?_map] at h
  cases e : as[i]? with
  | none => rw [e] at h; cases h
  | some a => rw [e] at h; exact ⟨a, rfl, (Option.some.inj h).symm⟩
theorem lt_get {α : Type} {l : List α} {i : Nat} (h : i < l.length) : ∃ x, l[i]? = some x := ⟨l[i], List.getElem?_eq_getElem h⟩
theorem sz0 : (0 : Nat) ≤ sizeLine := Nat.zero_le _

variable {P : Program} {w : World} {K : PySem.W.Frag} {mg : Str → Option Value} {base : Heap}

/-! ### is_column -/
theorem sc_iscol : FnScope ["value"] ["value"] (defScope (top 25)) := ⟨rfl, rfl, rfl, by decide +kernel, rfl, by decide +kernel, by decide +kernel⟩
def spIsCol (K : PySem.W.Frag) : Sp := fun vs H Q _ => ∃ (c : Addr) (n k : Str), vs = [.ref c] ∧ SqT K H c [.str n, .str k] ∧ NameOk n ∧ KindOk k ∧ ∀ H', Same H H' → Q (.bl true) H'
theorem ok_iscol (T : TX P K mg) : Ok P w K mg base 2 (ga K "is_column") ["value"] (spIsCol K) := by
  obtain ⟨fd, F⟩ := T.f_is_column
  have O1 : Ok P w K mg base 1 (ga K "is_name") ["value"] spIsName := ok_isname T
  have O2 : Ok P w K mg base 1 (ga K "is_kind") ["value"] spIsKind := ok_iskind T
  refine ⟨fd, F.ok sc_iscol (fun vs H Q E h => by obtain ⟨c, n, k, rfl, _⟩ := h; rfl) (fun cdv A outer s H vs Q E hr h => ?_), F.binds fun _ _ _ _ _ _ us hl => match us, hl with | [_], _ => rfl⟩
  obtain ⟨c, n, k, rfl, hc, hn, hk, hQ⟩ := h
  refine ⟨_, pss_one (ps_ret (pe_and (pe_callB call_isi (by rfl) T.b_isinstance boot_isinstance (pa_cons (pv 0) (pa_cons (pe_bltn (v := .ty "tuple") (by rfl) T.b_tuple boot_tuple rfl) pa_nil)))
    (pe_and (pe_cmpR op_eq (pe_callB call_len (by rfl) T.b_len boot_len (pa_cons (pv 0) pa_nil)) pe_int (nomark _))
    (pe_and (pe_callO O1 T.f_is_name.kp hr (by rfl) T.g_is_name (pa_cons (pe_ix ix_tup (pv 0) pe_int (fun _ _ => rfl)) pa_nil))
    (pe_one (pe_callO O2 T.f_is_kind.kp hr (by rfl) T.g_is_kind (pa_cons (pe_ix ix_tup (pv 0) pe_int (fun _ _ => rfl)) pa_nil))))))), ?_⟩
  refine ⟨_, rfl, ⟨_, _, _, _, _, rfl, .ty "tuple", tyx_tup hc, kit_tt, _, rfl, iteT ?_⟩⟩
  refine ⟨_, rfl, _, _, rfl, .inr ⟨_, hc, rfl⟩, rfl, _, rfl, ?_⟩
  refine iteT ⟨_, rfl, _, _, _, _, rfl, rfl, hc, atI_nat (j := 0) rfl, n, rfl, hn, fun H1 s1 => ⟨_, rfl, iteT ?_⟩⟩
  exact ⟨_, rfl, _, _, _, _, rfl, rfl, same_sqT s1 hc, atI_nat (j := 1) rfl, k, rfl, hk, hQ _ s1⟩

/-! ### fault_in_schema -/
theorem sc_fault : FnScope ["schema", "names", "index", "column"] ["schema"] (defScope (top 26)) := ⟨rfl, rfl, rfl, by decide +kernel, rfl, by decide +kernel, by decide +kernel⟩
/-- nothing at fault -/
def spNoFault (K : PySem.W.Frag) (ok : List V → Hp → Prop) : Sp := fun vs H Q _ => ok vs H ∧ ∀ H' p, Same H H' → H' p = some (.tup []) → Q (.ref p) H'
def okSch (K : PySem.W.Frag) : List V → Hp → Prop := fun vs H => ∃ hd sch, vs = [.ref hd] ∧ Hd K H hd sch ∧ SchOk sch
theorem inV_names {n : Str} {ns : List Str} (h : n ∉ ns) : inV (.str n) (ns.map V.str) = false := by
  unfold inV
  rw [List.any_map, List.any_eq_false]
  intro x hx hc
  have : x = n := by
    have h2 : eqV (.str x) (.str n) = true := hc
    simpa [eqV] using h2
  exact h (this ▸ hx)
theorem flat_names {ns : List Str} : (ns.map V.str).all flatV = true := by
  rw [List.all_map]
  exact List.all_eq_true.mpr fun x _ => rfl
theorem ok_fault (T : TX P K mg) : Ok P w K mg base 3 (ga K "fault_in_schema") ["schema"] (spNoFault K (okSch K)) := by
  obtain ⟨fd, F⟩ := T.f_fault_in_schema
  have O1 : Ok P w K mg base 2 (ga K "is_column") ["value"] (spIsCol K) := ok_iscol T
  refine ⟨fd, F.ok sc_fault (fun vs H Q E h => by obtain ⟨⟨c, n, rfl, _⟩, _⟩ := h; rfl) (fun cdv A outer s H vs Q E hr h => ?_), F.binds fun _ _ _ _ _ _ us hl => match us, hl with | [_], _ => rfl⟩
  obtain ⟨⟨hd, sch, rfl, hh, hs⟩, hQ⟩ := h
  obtain ⟨as, hA, hl, hc⟩ := id hh
  refine ⟨_, pss_cons (ps_if (PW.pt (pw_or (pt_not (pt_val (pe_callB call_isi (by rfl) T.b_isinstance boot_isinstance (pa_cons (pv 0) (pa_cons (pe_bltn (v := .ty "tuple") (by rfl) T.b_tuple boot_tuple rfl) pa_nil)))))
      (pw_or1 (pt_not (pt_truth (pv 0) (by intro _; rfl)))))) pss_never pss_nil)
    (pss_cons (ps_set (i := 1) sc_fault.nd rfl (.inl rfl) (pe_lst pa_nil))
    (pss_cons (ps_for PassesOwn.never rfl (pi_enumT (by rfl) T.b_enumerate (pa_cons (pv 0) pa_nil)) (pg_tup rfl (pgs_cons (pg_name (i := 2) sc_fault.nd rfl (.inl rfl)) (pgs_cons (pg_name (i := 3) sc_fault.nd rfl (.inl rfl)) pgs_nil)))
      (pss_cons (ps_if (PW.pt (pw_or (pt_not (pt_val (pe_callO O1 T.f_is_column.kp hr (by rfl) T.g_is_column (pa_cons (pv 3) pa_nil))))
          (pw_or1 (pt_cmpR op_in_seq (pe_ix ix_tup (pv 3) pe_int (fun _ _ => rfl)) (pv 1) (by rfl))))) pss_never pss_nil)
        (pss_one (ps_expr (pe_bm PySem.F.plainAttrs_list PySem.F.slot_list_append PySem.F.type_list_append mt_append (pv 1) (pa_cons (pe_ix ix_tup (pv 3) pe_int (fun _ _ => rfl)) pa_nil))))))
    (pss_one (ps_ret (pe_tup pa_nil))))), ?_⟩
  refine ⟨_, rfl, _, _, _, _, _, rfl, .ty "tuple", tyx_tup hA, kit_tt, _, rfl, iteF ?_⟩
  have hne : (as.map V.ref).isEmpty = false := by
    cases as with
    | nil => exact absurd (List.length_eq_zero_iff.mp hl.symm) hs.ne
    | cons a r => rfl
  refine ⟨_, rfl, true, .inr (.inl ⟨_, hA, by rw [hne]; rfl⟩), iteF ?_⟩
  refine ⟨sz0, fun nl hnl => ?_⟩
  have s0 : Same H (upd H nl (.lst [])) := same_upd hnl
  refine ⟨_, rfl, hd, _, rfl, same_sqT s0 hA, ?_⟩
  refine for_it (walk_enumT (xs := as.map V.ref)) (fun i σ H' => ∃ a b, σ = [some (.ref hd), some (.ref nl), a, b] ∧ H' nl = some (.lst (((sch.map (·.1)).take i).map V.str)) ∧ Same H H') ⟨_, _, rfl, upd_same, s0⟩ (fun i σ H' _ p => ?_) (fun i x σ H1 H2 hi p hy => ?_) fun σ H1 p => ?_
  · obtain ⟨a, b, _, _, s1⟩ := p
    exact same_sqT s1 hA
  · obtain ⟨a, b, rfl, hn, s1⟩ := p
    obtain ⟨Tp, x1, y1, rfl, hT, rfl, h1, h2⟩ := hy
    cases h1
    obtain ⟨c, hci, rfl⟩ := get_map h2
    have hi' : i < sch.length := by rw [← hl]; simpa using hi
    obtain ⟨p, hp⟩ := lt_get hi'
    have hcc := hc i c p hci hp
    have s2 : Same H (upd H1 Tp (.tup [.int (i : Nat), .ref c])) := s1.trans (same_upd hT)
    obtain ⟨n1, n2⟩ := hs.nm p (List.mem_of_getElem? hp)
    refine ⟨Tp, _, rfl, SqT.of upd_same, rfl, _, _, rfl, _, _, rfl, rfl, ?_⟩
    refine ⟨_, rfl, c, p.1, p.2, rfl, same_sqT s2 hcc, n1, n2, fun H3 s3 => ⟨_, rfl, iteF ?_⟩⟩
    have s4 : Same H H3 := s2.trans s3
    have hn3 : H3 nl = some (.lst (((sch.map (·.1)).take i).map V.str)) := s3 _ _ (by rw [upd_ne (ne_of_none hn hT)]; exact hn)
    refine ⟨_, rfl, _, _, _, _, rfl, rfl, same_sqT s4 hcc, atI_nat (j := 0) rfl, _, rfl, _, _, rfl, .inl (SqL.of hn3), rfl, flat_names, ?_⟩
    have hnot : p.1 ∉ (sch.map (·.1)).take i := fun hm => by
      obtain ⟨j, hj, ej⟩ := List.mem_take_iff_getElem.mp hm
      have e1 : (sch.map (·.1))[j]? = some p.1 := by
        rw [List.getElem?_eq_getElem (by omega), ej]
      have e2 : (sch.map (·.1))[i]? = some p.1 := by rw [List.getElem?_map, hp]; rfl
      have := nd_ix hs.nd e1 e2
      omega
    refine ⟨_, rfl, ?_⟩
    show (if inV (.str p.1) (((sch.map (·.1)).take i).map V.str) = true then _ else _)
    rw [inV_names hnot]
    refine iteF ?_
    have hsl : sizeLine = 16777216 := sizeLine_eq
    refine ⟨_, rfl, .inl ⟨rfl, _, SqL.of hn3⟩, _, rfl, _, _, _, _, rfl, rfl, same_sqT s4 hcc, atI_nat (j := 0) rfl, _, _, _, rfl, rfl, hn3, ?_, ?_⟩
    · have := hs.le
      simp
      omega
    · refine ⟨_, _, rfl, ?_, fun q o e => ?_⟩
      · rw [upd_same, List.take_succ_eq_append_getElem (by simpa using hi'), List.map_append]
        have : (sch.map (·.1))[i]'(by simpa using hi') = p.1 := by
          have := (List.getElem?_eq_some_iff.mp hp).2
          simp [this]
        rw [this]
        rfl
      · have : q ≠ nl := ne_of_none e hnl
        rw [upd_ne this]
        exact s4 _ _ e
  · obtain ⟨a, b, rfl, hn, s1⟩ := p
    exact ⟨sz0, fun p hp => hQ _ p (s1.trans (same_upd hp)) upd_same⟩

/-! ### check_schema -/
theorem sc_check : FnScope ["schema", "fault"] ["schema"] (defScope (top 28)) := ⟨rfl, rfl, rfl, by decide +kernel, rfl, by decide +kernel, by decide +kernel⟩
def spCheck (K : PySem.W.Frag) (ok : List V → Hp → Prop) : Sp := fun vs H Q _ => ok vs H ∧ ∀ H', Same H H' → Q .non H'
theorem ok_check (T : TX P K mg) : Ok P w K mg base 4 (ga K "check_schema") ["schema"] (spCheck K (okSch K)) := by
  obtain ⟨fd, F⟩ := T.f_check_schema
  have O1 : Ok P w K mg base 3 (ga K "fault_in_schema") ["schema"] (spNoFault K (okSch K)) := ok_fault T
  refine ⟨fd, F.ok sc_check (fun vs H Q E h => by obtain ⟨⟨c, n, rfl, _⟩, _⟩ := h; rfl) (fun cdv A outer s H vs Q E hr h => ?_), F.binds fun _ _ _ _ _ _ us hl => match us, hl with | [_], _ => rfl⟩
  obtain ⟨⟨hd, sch, rfl, hh, hs⟩, hQ⟩ := h
  refine ⟨_, pss_cons (ps_set (i := 1) sc_check.nd rfl (.inl rfl) (pe_callO O1 T.f_fault_in_schema.kp hr (by rfl) T.g_fault_in_schema (pa_cons (pv 0) pa_nil)))
    (pss_one (ps_if (pt_truth (pv 1) (by intro _; rfl)) pss_never pss_nil)), ?_⟩
  refine ⟨_, rfl, ⟨hd, sch, rfl, hh, hs⟩, fun H1 p s1 hp => ?_⟩
  exact ⟨_, rfl, false, .inr (.inl ⟨_, SqT.of hp, rfl⟩), iteF (hQ _ s1)⟩

/-! ### fault_in_row, is_row -/
theorem sc_frow : FnScope ["schema", "row", "index", "column"] ["schema", "row"] (defScope (top 29)) := ⟨rfl, rfl, rfl, by decide +kernel, rfl, by decide +kernel, by decide +kernel⟩
def okRow (K : PySem.W.Frag) : List V → Hp → Prop := fun vs H => ∃ hd sch rw r, vs = [.ref hd, .ref rw] ∧ Hd K H hd sch ∧ SqT K H rw r ∧ RowOk sch r
theorem ok_frow (T : TX P K mg) : Ok P w K mg base 3 (ga K "fault_in_row") ["schema", "row"] (spNoFault K (okRow K)) := by
  obtain ⟨fd, F⟩ := T.f_fault_in_row
  have O1 : Ok P w K mg base 2 (ga K "is_value") ["kind", "value"] spIsVal := ok_isval T
  refine ⟨fd, F.ok sc_frow (fun vs H Q E h => by obtain ⟨⟨c, n, r, l, rfl, _⟩, _⟩ := h; rfl) (fun cdv A outer s H vs Q E hr h => ?_), F.binds fun _ _ _ _ _ _ us hl => match us, hl with | [_, _], _ => rfl⟩
  obtain ⟨⟨hd, sch, ra, r, rfl, hh, hra, hrow⟩, hQ⟩ := h
  obtain ⟨as, hA, hl, hc⟩ := id hh
  refine ⟨_, pss_cons (ps_if (PW.pt (pw_or (pt_not (pt_val (pe_callB call_isi (by rfl) T.b_isinstance boot_isinstance (pa_cons (pv 1) (pa_cons (pe_bltn (v := .ty "tuple") (by rfl) T.b_tuple boot_tuple rfl) pa_nil)))))
      (pw_or1 (pt_cmpR op_ne (pe_callB call_len (by rfl) T.b_len boot_len (pa_cons (pv 1) pa_nil)) (pe_callB call_len (by rfl) T.b_len boot_len (pa_cons (pv 0) pa_nil)) (nomark _))))) pss_never pss_nil)
    (pss_cons (ps_for PassesOwn.never rfl (pi_enumT (by rfl) T.b_enumerate (pa_cons (pv 0) pa_nil)) (pg_tup rfl (pgs_cons (pg_name (i := 2) sc_frow.nd rfl (.inl rfl)) (pgs_cons (pg_name (i := 3) sc_frow.nd rfl (.inl rfl)) pgs_nil)))
      (pss_one (ps_if (pt_not (pt_val (pe_callO O1 T.f_is_value.kp hr (by rfl) T.g_is_value (pa_cons (pe_ix ix_tup (pv 3) pe_int (fun _ _ => rfl)) (pa_cons (pe_ix ix_tup (pv 1) (pv 2) (fun _ _ => rfl)) pa_nil))))) pss_never pss_nil)))
    (pss_one (ps_ret (pe_tup pa_nil)))), ?_⟩
  refine ⟨_, rfl, _, _, _, _, _, rfl, .ty "tuple", tyx_tup hra, kit_tt, _, rfl, iteF ?_⟩
  refine ⟨_, rfl, _, _, rfl, .inr ⟨_, hra, rfl⟩, _, rfl, _, _, rfl, .inr ⟨_, hA, rfl⟩, rfl, _, rfl, ?_⟩
  have e : (!decide (V.int (r.length : Nat) = V.int ((as.map V.ref).length : Nat))) = false := by
    rw [List.length_map, hl, hrow.1]; simp
  show (if (!decide (V.int (r.length : Nat) = V.int ((as.map V.ref).length : Nat))) = true then _ else _)
  rw [e]
  refine iteF ?_
  refine ⟨_, rfl, hd, _, rfl, hA, ?_⟩
  refine for_it (walk_enumT (xs := as.map V.ref)) (fun i σ H' => ∃ a b, σ = [some (.ref hd), some (.ref ra), a, b] ∧ Same H H') ⟨_, _, rfl, Same.refl H⟩ (fun i σ H' _ p => ?_) (fun i x σ H1 H2 hi p hy => ?_) fun σ H1 p => ?_
  · obtain ⟨a, b, _, s1⟩ := p
    exact same_sqT s1 hA
  · obtain ⟨a, b, rfl, s1⟩ := p
    obtain ⟨Tp, x1, y1, rfl, hT, rfl, h1, h2⟩ := hy
    cases h1
    obtain ⟨c, hci, rfl⟩ := get_map h2
    have hi' : i < sch.length := by rw [← hl]; simpa using hi
    obtain ⟨p, hp⟩ := lt_get hi'
    obtain ⟨v, hv⟩ := lt_get (l := r) (i := i) (by rw [hrow.1]; exact hi')
    have hcc := hc i c p hci hp
    have s2 : Same H (upd H1 Tp (.tup [.int (i : Nat), .ref c])) := s1.trans (same_upd hT)
    refine ⟨Tp, _, rfl, SqT.of upd_same, rfl, _, _, rfl, _, _, rfl, rfl, ?_⟩
    refine ⟨_, rfl, _, _, _, _, rfl, rfl, same_sqT s2 hcc, atI_nat (j := 1) rfl, _, rfl, _, rfl, _, _, _, _, rfl, rfl, same_sqT s2 hra, atI_nat hv, p.2, v, rfl, hrow.2 i p v hp hv, fun H3 s3 => ⟨_, rfl, iteF ?_⟩⟩
    exact ⟨_, _, rfl, s2.trans s3⟩
  · obtain ⟨a, b, rfl, s1⟩ := p
    exact ⟨sz0, fun p hp => hQ _ p (s1.trans (same_upd hp)) upd_same⟩
theorem sc_isrow : FnScope ["schema", "row"] ["schema", "row"] (defScope (top 30)) := ⟨rfl, rfl, rfl, by decide +kernel, rfl, by decide +kernel, by decide +kernel⟩
def spIsRow (K : PySem.W.Frag) : Sp := fun vs H Q _ => okRow K vs H ∧ ∀ H', Same H H' → Q (.bl true) H'
theorem ok_isrow (T : TX P K mg) : Ok P w K mg base 4 (ga K "is_row") ["schema", "row"] (spIsRow K) := by
  obtain ⟨fd, F⟩ := T.f_is_row
  have O1 : Ok P w K mg base 3 (ga K "fault_in_row") ["schema", "row"] (spNoFault K (okRow K)) := ok_frow T
  refine ⟨fd, F.ok sc_isrow (fun vs H Q E h => by obtain ⟨⟨c, n, r, l, rfl, _⟩, _⟩ := h; rfl) (fun cdv A outer s H vs Q E hr h => ?_), F.binds fun _ _ _ _ _ _ us hl => match us, hl with | [_, _], _ => rfl⟩
  obtain ⟨⟨hd, sch, ra, r, rfl, hh, hra, hrow⟩, hQ⟩ := h
  refine ⟨_, pss_one (ps_ret (pe_cmpR (op_eqD hr.units) (pe_callO O1 T.f_fault_in_row.kp hr (by rfl) T.g_fault_in_row (pa_cons (pv 0) (pa_cons (pv 1) pa_nil))) (pe_tup pa_nil) (nomark _))), ?_⟩
  refine ⟨_, rfl, _, rfl, ⟨hd, sch, ra, r, rfl, hh, hra, hrow⟩, fun H1 p s1 hp => ⟨sz0, fun q hq => ?_⟩⟩
  have hp2 : upd H1 q (.tup []) p = some (.tup []) := by rw [upd_ne (ne_of_none hp hq)]; exact hp
  refine ⟨.tuple [], .tuple [], .tup (SqT.of hp2) .nil, .tup (SqT.of upd_same) .nil, rfl, rfl, ?_⟩
  have : PyData.eqv (.tuple []) (.tuple []) = true := by decide +kernel
  show Q (.bl (PyData.eqv (.tuple []) (.tuple []))) _
  rw [this]
  exact hQ _ (s1.trans (same_upd hq))

/-! ### check_rows -/
theorem sc_chrows : FnScope ["schema", "rows", "index", "row"] ["schema", "rows"] (defScope (top 31)) := ⟨rfl, rfl, rfl, by decide +kernel, rfl, by decide +kernel, by decide +kernel⟩
def okRows (K : PySem.W.Frag) : List V → Hp → Prop := fun vs H => ∃ hd sch L rows, vs = [.ref hd, .ref L] ∧ Hd K H hd sch ∧ RowsAt K H L rows ∧ ∀ r ∈ rows, RowOk sch r
theorem ok_chrows (T : TX P K mg) : Ok P w K mg base 5 (ga K "check_rows") ["schema", "rows"] (spCheck K (okRows K)) := by
  obtain ⟨fd, F⟩ := T.f_check_rows
  have O1 : Ok P w K mg base 4 (ga K "is_row") ["schema", "row"] (spIsRow K) := ok_isrow T
  refine ⟨fd, F.ok sc_chrows (fun vs H Q E h => by obtain ⟨⟨c, n, r, l, rfl, _⟩, _⟩ := h; rfl) (fun cdv A outer s H vs Q E hr h => ?_), F.binds fun _ _ _ _ _ _ us hl => match us, hl with | [_, _], _ => rfl⟩
  obtain ⟨⟨hd, sch, L, rows, rfl, hh, hL, hrow⟩, hQ⟩ := h
  obtain ⟨rs, hA, hl, hc⟩ := id hL
  refine ⟨_, pss_cons (ps_if (pt_not (pt_val (pe_callB call_isi (by rfl) T.b_isinstance boot_isinstance (pa_cons (pv 1) (pa_cons (pe_bltn (v := .ty "tuple") (by rfl) T.b_tuple boot_tuple rfl) pa_nil))))) pss_never pss_nil)
    (pss_one (ps_for PassesOwn.never rfl (pi_enumT (by rfl) T.b_enumerate (pa_cons (pv 1) pa_nil)) (pg_tup rfl (pgs_cons (pg_name (i := 2) sc_chrows.nd rfl (.inl rfl)) (pgs_cons (pg_name (i := 3) sc_chrows.nd rfl (.inl rfl)) pgs_nil)))
      (pss_one (ps_if (pt_not (pt_val (pe_callO O1 T.f_is_row.kp hr (by rfl) T.g_is_row (pa_cons (pv 0) (pa_cons (pv 3) pa_nil))))) pss_never pss_nil)))), ?_⟩
  refine ⟨_, rfl, _, _, _, _, _, rfl, .ty "tuple", tyx_tup hA, kit_tt, _, rfl, iteF ?_⟩
  refine ⟨_, rfl, L, _, rfl, hA, ?_⟩
  refine for_it (walk_enumT (xs := rs.map V.ref)) (fun i σ H' => ∃ a b, σ = [some (.ref hd), some (.ref L), a, b] ∧ Same H H') ⟨_, _, rfl, Same.refl H⟩ (fun i σ H' _ p => ?_) (fun i x σ H1 H2 hi p hy => ?_) fun σ H1 p => ?_
  · obtain ⟨a, b, _, s1⟩ := p
    exact same_sqT s1 hA
  · obtain ⟨a, b, rfl, s1⟩ := p
    obtain ⟨Tp, x1, y1, rfl, hT, rfl, h1, h2⟩ := hy
    cases h1
    obtain ⟨c, hci, rfl⟩ := get_map h2
    have hi' : i < rows.length := by rw [← hl]; simpa using hi
    obtain ⟨r, hr2⟩ := lt_get hi'
    have hcc := hc i c r hci hr2
    have s2 : Same H (upd H1 Tp (.tup [.int (i : Nat), .ref c])) := s1.trans (same_upd hT)
    refine ⟨Tp, _, rfl, SqT.of upd_same, rfl, _, _, rfl, _, _, rfl, rfl, ?_⟩
    refine ⟨_, rfl, _, rfl, ⟨hd, sch, c, r, rfl, hh.same s2, same_sqT s2 hcc, hrow r (List.mem_of_getElem? hr2)⟩, fun H3 s3 => ⟨_, rfl, iteF ?_⟩⟩
    exact ⟨_, _, rfl, s2.trans s3⟩
  · obtain ⟨a, b, rfl, s1⟩ := p
    exact hQ _ s1
end LF
set_option Elab.async false
set_option linter.all false
set_option maxRecDepth 100000
set_option maxHeartbeats 4000000
/-! tuple(list) whose object is known, and its methods; ranges upward. -/
namespace LF
open PySem PySem.Spec PyProof.Rows L2
section
variable {X : Cx}
theorem call_tuple_frz : CallR X (.type "tuple") (fun xs H Q => ∃ p ys, xs = [.ref p] ∧ SqL X.K H p ys ∧ ∀ l o, H l = none → o.cls = .type "tuple" → o.dict = none → Q (.ref l) (upd H l (.frz o (.tup ys)))) := by
  intro pins s σ H xs us Q I r h
  obtain ⟨p, ys, rfl, hq, q⟩ := h
  obtain ⟨u, rfl, rx⟩ := vals1 r
  cases rx
  obtain ⟨its, r', pl, hz⟩ := I.list hq
  have hlen := r'.length
  refine call_tuple_list pl.isList (fun h' kp => ?_) (by simp only [List.size_toArray] <;> omega)
  have I1 : Inv X pins σ H { s with heap := h' } := I.kept (t' := s.toks) kp
  have I2 : Inv X pins σ (upd H h'.objs.size (.frz { cls := .type "tuple", data := .seq its.toArray } (.tup ys))) { s with heap := h'.push { cls := .type "tuple", data := .seq its.toArray } } :=
    I1.laid (t' := s.toks) (fun b o e => Heap.get?_push_of_some _ e) (Nat.le_refl _) (show ObjOk X.prog X.w _ _ _ (.frz _ (.tup ys)) from ⟨Heap.get?_push_size _ rfl, hz, its, r', IsTup.new _ _⟩)
  exact ⟨.ref h'.objs.size, _, I2, rfl, q _ _ (I1.hok.fresh (Nat.le_refl _)) rfl rfl⟩

/-- o.m(e, ..), o a thing whose object is known -/
def tBMF (T : String) (r : V → List V → Hp → VK → Prop) (to : TE) (t : TA) : TE := fun σ H Q => to σ H fun x H1 => (∃ a o u, x = .ref a ∧ H1 a = some (.frz o u) ∧ o.cls = .type T ∧ o.dict = none) ∧ t σ H1 fun xs H2 => r x xs H2 Q
variable {o e : Expr} {es : List Expr} {to : TE} {t : TA} {name : Str} {apos cpos : Pos} {T id : String} {r : V → List V → Hp → VK → Prop}
theorem pe_bmF (pa : PlainAttrs T) (slot : Slot T name id) (hty : typeOf (.builtin id) = pure (.type "method_descriptor")) (hm : MtR X id r) (ho : PE X o to) (ha : PA X (e :: es) t)
    (hbase : attributeBase o name X.env (eval o X.env) = eval o X.env := by rfl)
    (hfew : ((backTo cpos (starEach (e :: es) X.env)).all (fun x => !x.1) && (backToKw cpos (keywordEach [] X.env)).all (fun x => x.1.isSome)
      && decide ((e :: es).length + ([] : List Keyword).length + (if ([] : List Keyword).isEmpty then 0 else 1) < 30)) = true := by rfl)
    (hline : (apos.endLine == cpos.line) = true := by rfl) (hs : starEach (e :: es) X.env = (false, eval e X.env) :: starEach es X.env := by rfl) (hplain : (backTo cpos (starEach es X.env)).any (·.1) = false := by rfl) :
    PE X (.Call (.Attribute o name apos) (e :: es) [] cpos) (tBMF T r to t) := by
  refine ⟨fun pins s σ H Q I h => ?_⟩
  refine wpAny_Call_method_late hbase hfew hline rfl (thn (ho.run pins s σ H _ I h) fun v s1 ⟨x, H1, I1, r1, ty, q1⟩ => ?_)
  obtain ⟨a, ob, u, rfl, hf, hc, hd⟩ := ty
  obtain rfl : v = Value.ref a := r1
  have hat : s1.heap.get? a = some ob := (show ObjOk X.prog X.w H1 s1.heap a (.frz ob u) from I1.hok a _ hf).1
  refine ⟨T, id, pa, slot, hty, ⟨ob, hat, hc⟩, fun b e => by cases e; exact ⟨ob, hat, hd⟩, ?_⟩
  have hA := ha.run cpos pins s1 σ H1 _ I1 q1
  rw [hs] at hA ⊢
  refine Calls.callWith_builtin (by show (false || (backTo cpos (starEach es X.env)).any (·.1)) = false; rw [hplain] <;> rfl) (Calls.evalArgs_plain ?_)
  exact thn hA fun us s2 ⟨vs, H2, I2, r2, q2⟩ => hm pins s2 σ H2 (.ref a) vs (.ref a) us Q I2 rfl r2 q2
end
theorem rgc_up {n sz : Nat} (hn : n ≤ 1000) (h1 : 1 ≤ sz) (h2 : sz ≤ 100) : RgC 0 (n : Nat) (sz : Nat) (nbl n sz) := by
  have e : Builtin.Range.rangeSize 0 (n : Nat) (sz : Nat) = (nbl n sz : Nat) := by
    unfold Builtin.Range.rangeSize
    rw [if_pos (show ((sz : Nat) : Int) > 0 by omega)]
    by_cases h : n = 0
    · subst h
      rw [if_neg (by simp), nbl_zero h1]
      rfl
    · rw [if_pos (by omega)]
      unfold nbl
      have : n + sz - 1 = (n - 1) + sz := by omega
      rw [this, Nat.add_div_right _ (by omega)]
      have e2 : ((n : Int) - 0 - 1) = ((n - 1 : Nat) : Int) := by omega
      rw [e2]
      simp
  refine ⟨by omega, by omega, ?_, e⟩
  have hb := nbl_le (n := n) (bs := sz) h1
  unfold Builtin.Range.small
  rw [e]
  simp only [Builtin.Range.rangeFitsLong, Bool.and_eq_true, Bool.or_eq_true, decide_eq_true_eq, beq_iff_eq]
  rw [if_pos (show ((sz : Nat) : Int) > 0 by omega)]
  simp only [Bool.and_eq_true, decide_eq_true_eq]
  omega
end LF
set_option Elab.async false
set_option linter.all false
set_option maxRecDepth 100000
set_option maxHeartbeats 4000000
/-! Frames. -/
namespace LF
open PySem PySem.Spec PyProof.Rows L2
def SameX (x : Addr) (H H' : Hp) : Prop := ∀ b o, b ≠ x → H b = some o → H' b = some o
theorem SameX.refl {x : Addr} {H : Hp} : SameX x H H := fun _ _ _ h => h
theorem SameX.trans {x : Addr} {H H1 H2 : Hp} (a : SameX x H H1) (b : SameX x H1 H2) : SameX x H H2 := fun c o n h => b c o n (a c o n h)
theorem SameX.same {x : Addr} {H H1 : Hp} (a : Same H H1) : SameX x H H1 := fun c o _ h => a c o h
theorem SameX.put {x : Addr} {H : Hp} {o : HO} : SameX x H (upd H x o) := fun c u n h => by rw [upd_ne n]; exact h
theorem same_made {H : Hp} {x dx C : Addr} (nx : H x = none) (nd : H dx = none) : Same H (upd (upd H dx (.own x)) x (.ins C dx [])) := fun b o e => by
  rw [upd_ne (ne_of_none e nx), upd_ne (ne_of_none e nd)]; exact e
theorem SameX.made {H H1 : Hp} {x dx C : Addr} (nx : H x = none) (nd : H dx = none) (k : SameX x (upd (upd H dx (.own x)) x (.ins C dx [])) H1) : Same H H1 := fun b o e => k b o (ne_of_none e nx) (same_made nx nd b o e)
section
variable {X : Cx} {j k : Nat} {f C pp : Addr} {ps : List Str} {sp : Sp} {x : Str} {e : Expr} {es : List Expr} {t : TA} {ta : TE} {p pos : Pos}
theorem pe_propO (O : Ok X.prog X.w X.K X.mg X.base j f ps sp) (he : PE X e ta) (c : Cls X.K C) (hp : PropOf X.K C x pp f) (hr : Room k X.A) (hj : j + 1 ≤ k := by decide) (hab : attributeBase e x X.env (eval e X.env) = eval e X.env := by rfl) :
    PE X (.Attribute e x pos) (tProp C sp [] E0 ta) := by
  obtain ⟨fd, G, b⟩ := O
  exact pe_prop he c hp G (hr.mono hj) b .nil pass0 hab
end
variable {P : Program} {w : World} {K : PySem.W.Frag} {mg : Str → Option Value} {base : Heap}
def FrameAt (K : PySem.W.Frag) (H : Hp) (f hd L : Addr) : Prop := ∃ dx, H f = some (.ins (cF K) dx [("heads", .ref hd), ("lines", .ref L)])
theorem FrameAt.same {H H' : Hp} {f hd L : Addr} (h : FrameAt K H f hd L) (e : Same H H') : FrameAt K H' f hd L := let ⟨dx, h⟩ := h; ⟨dx, e _ _ h⟩

/-! ### schema, rows, len -/
theorem sc_fsch : FnScope ["self"] ["self"] (defScope (inClass (top 46) 2)) := ⟨rfl, rfl, rfl, by decide +kernel, rfl, by decide +kernel, by decide +kernel⟩
theorem sc_frows : FnScope ["self"] ["self"] (defScope (inClass (top 46) 3)) := ⟨rfl, rfl, rfl, by decide +kernel, rfl, by decide +kernel, by decide +kernel⟩
theorem sc_flen : FnScope ["self"] ["self"] (defScope (inClass (top 46) 10)) := ⟨rfl, rfl, rfl, by decide +kernel, rfl, by decide +kernel, by decide +kernel⟩
def spFSch (K : PySem.W.Frag) : Sp := fun vs H Q _ => ∃ f hd L, vs = [.ref f] ∧ FrameAt K H f hd L ∧ Q (.ref hd) H
def spFRows (K : PySem.W.Frag) : Sp := fun vs H Q _ => ∃ f hd L, vs = [.ref f] ∧ FrameAt K H f hd L ∧ Q (.ref L) H
def spFLen (K : PySem.W.Frag) : Sp := fun vs H Q _ => ∃ f hd L rows, vs = [.ref f] ∧ FrameAt K H f hd L ∧ RowsAt K H L rows ∧ Q (.int (rows.length : Nat)) H
theorem ok_fsch (T : TX P K mg) : Ok P w K mg base 1 (gtr K "Frame" "schema") ["self"] (spFSch K) := by
  obtain ⟨fd, F⟩ := T.f_Frame_schema
  refine ⟨fd, F.ok sc_fsch (fun vs H Q E h => by obtain ⟨f, hd, L, rfl, _⟩ := h; rfl) (fun cdv A outer s H vs Q E hr h => ?_), F.binds fun _ _ _ _ _ _ us hl => match us, hl with | [_], _ => rfl⟩
  obtain ⟨f, hd, L, rfl, ⟨dx, h⟩, hQ⟩ := h
  refine ⟨_, pss_one (ps_ret (pe_fld (pv 0) rfl)), ?_⟩
  exact ⟨_, rfl, f, _, dx, _, _, rfl, h, T.c_Frame, T.na_Frame_heads, rfl, hQ⟩
theorem ok_frows (T : TX P K mg) : Ok P w K mg base 1 (gtr K "Frame" "rows") ["self"] (spFRows K) := by
  obtain ⟨fd, F⟩ := T.f_Frame_rows
  refine ⟨fd, F.ok sc_frows (fun vs H Q E h => by obtain ⟨f, hd, L, rfl, _⟩ := h; rfl) (fun cdv A outer s H vs Q E hr h => ?_), F.binds fun _ _ _ _ _ _ us hl => match us, hl with | [_], _ => rfl⟩
  obtain ⟨f, hd, L, rfl, ⟨dx, h⟩, hQ⟩ := h
  refine ⟨_, pss_one (ps_ret (pe_fld (pv 0) rfl)), ?_⟩
  exact ⟨_, rfl, f, _, dx, _, _, rfl, h, T.c_Frame, T.na_Frame_lines, rfl, hQ⟩
theorem ok_flen (T : TX P K mg) : Ok P w K mg base 1 (ma K "Frame" "__len__") ["self"] (spFLen K) := by
  obtain ⟨fd, F⟩ := T.f_Frame___len__
  refine ⟨fd, F.ok sc_flen (fun vs H Q E h => by obtain ⟨f, hd, L, r, rfl, _⟩ := h; rfl) (fun cdv A outer s H vs Q E hr h => ?_), F.binds fun _ _ _ _ _ _ us hl => match us, hl with | [_], _ => rfl⟩
  obtain ⟨f, hd, L, rows, rfl, ⟨dx, h⟩, ⟨rs, h1, h2, _⟩, hQ⟩ := h
  refine ⟨_, pss_one (ps_ret (pe_callB call_len (by rfl) T.b_len boot_len (pa_cons (pe_fld (pv 0) rfl) pa_nil))), ?_⟩
  refine ⟨_, rfl, f, _, dx, _, _, rfl, h, T.c_Frame, T.na_Frame_lines, rfl, _, _, rfl, .inr ⟨_, h1, rfl⟩, ?_⟩
  rw [List.length_map, h2]
  exact hQ

/-! ### names -/
theorem sc_names : FnScope ["self", "name", "kind"] ["self"] (defScope (inClass (top 46) 4)) := ⟨rfl, rfl, rfl, by decide +kernel, rfl, by decide +kernel, by decide +kernel⟩
def spNames (K : PySem.W.Frag) : Sp := fun vs H Q _ => ∃ f hd L sch, vs = [.ref f] ∧ FrameAt K H f hd L ∧ Hd K H hd sch ∧ SchOk sch ∧
  ∀ H' p (o : Obj), Same H H' → o.cls = .type "tuple" → o.dict = none → H' p = some (.frz o (.tup ((sch.map (·.1)).map V.str))) → Q (.ref p) H'
theorem ok_names (T : TX P K mg) : Ok P w K mg base 1 (gtr K "Frame" "names") ["self"] (spNames K) := by
  obtain ⟨fd, F⟩ := T.f_Frame_names
  refine ⟨fd, F.ok sc_names (fun vs H Q E h => by obtain ⟨f, hd, L, r, rfl, _⟩ := h; rfl) (fun cdv A outer s H vs Q E hr h => ?_), F.binds fun _ _ _ _ _ _ us hl => match us, hl with | [_], _ => rfl⟩
  obtain ⟨f, hd, L, sch, rfl, ⟨dx, hf⟩, hh, hs, hQ⟩ := h
  obtain ⟨as, hA, hl, hc⟩ := id hh
  refine ⟨_, pss_one (ps_ret (pe_callTy call_tuple_frz (by rfl) T.b_tuple boot_tuple (pa_cons (pe_lc (own := [("name", 1), ("kind", 2)]) (g := gTup K 2 (gCons (gName 1) (gCons (gName 2) gNil))) (tt := tYes) (by rfl) sc_names.nd (pi_tup (pe_fld (pv 0) rfl)) (blkOk_by (own := [("name", 1), ("kind", 2)]) (N := ["self", "name", "kind"]) (sc := defScope (inClass (top 46) 4)) (by decide +kernel))
    (fun _ _ _ _ _ => pg_tup (n := 2) (by rfl) (pgs_cons (pg_name (i := 1) sc_names.nd rfl (Or.inl rfl)) (pgs_cons (pg_name (i := 2) sc_names.nd rfl (Or.inl rfl)) pgs_nil))) (fun _ _ _ _ _ => pts_nil) (fun _ _ _ _ _ => pv 1)) pa_nil))), ?_⟩
  refine ⟨_, rfl, f, _, dx, _, _, rfl, hf, T.c_Frame, T.na_Frame_heads, rfl, hd, rfl, ⟨_, hA⟩, fun D hD => ?_⟩
  have s0 : ∀ (o : HO), Same H (upd H D o) := fun o => same_upd hD
  refine lc_it (walk_tup (xs := as.map V.ref)) (fun i H' => H' = upd H D (.lst (((sch.map (·.1)).take i).map V.str))) (by simp) (fun i H' _ hp => by subst hp; exact same_sqT (s0 _) hA) (fun i x H' H'' hi hp hy => ?_) fun H' hp => ?_
  · obtain ⟨rfl, hx⟩ := hy
    subst hp
    obtain ⟨c, hci, rfl⟩ := get_map hx
    have hi' : i < sch.length := by rw [← hl]; simpa using hi
    obtain ⟨p, hp⟩ := lt_get hi'
    refine ⟨c, _, rfl, same_sqT (s0 _) (hc i c p hci hp), rfl, _, _, rfl, _, _, rfl, rfl, rfl, ?_⟩
    refine yes ?_
    have hsl : sizeLine = 16777216 := sizeLine_eq
    refine ⟨_, rfl, _, upd_same, ?_, ?_⟩
    · have := hs.le
      simp
      omega
    · rw [upd_upd]
      congr 2
      rw [List.take_succ_eq_append_getElem (by simpa using hi'), List.map_append]
      have : (sch.map (·.1))[i]'(by simpa using hi') = p.1 := by
        have := (List.getElem?_eq_some_iff.mp hp).2
        simp [this]
      rw [this]
      rfl
  · subst hp
    refine ⟨D, _, rfl, SqL.of upd_same, fun l o hl' h1 h2 => ?_⟩
    have el : (as.map V.ref).length = sch.length := by simp [hl]
    rw [el, List.take_of_length_le (by simp)]
    exact hQ _ l o ((s0 _).trans (same_upd (by rw [el, List.take_of_length_le (by simp)] at hl'; exact hl'))) h1 h2 upd_same

/-! ### column -/
theorem sc_col : FnScope ["self", "name", "place", "row"] ["self", "name"] (defScope (inClass (top 46) 5)) := ⟨rfl, rfl, rfl, by decide +kernel, rfl, by decide +kernel, by decide +kernel⟩
def colOf (j : Nat) (rows : List (List V)) : List V := rows.map fun r => r.getD j .non
def spColumn (K : PySem.W.Frag) : Sp := fun vs H Q _ => ∃ f hd L sch rows j p, vs = [.ref f, .str p.1] ∧ FrameAt K H f hd L ∧ Hd K H hd sch ∧ SchOk sch ∧ RowsAt K H L rows ∧ (∀ r ∈ rows, r.length = sch.length) ∧ rows.length ≤ 1000 ∧ sch[j]? = some p ∧
  ∀ H' q, Same H H' → H' q = some (.tup (colOf j rows)) → Q (.ref q) H'
theorem inV_names_yes {n : Str} {ns : List Str} (h : n ∈ ns) : inV (.str n) (ns.map V.str) = true := by
  unfold inV
  rw [List.any_map, List.any_eq_true]
  exact ⟨n, h, by show eqV (.str n) (.str n) = true; simp [eqV]⟩
theorem ok_column (T : TX P K mg) : Ok P w K mg base 3 (ma K "Frame" "column") ["self", "name"] (spColumn K) := by
  obtain ⟨fd, F⟩ := T.f_Frame_column
  have O1 : Ok P w K mg base 1 (gtr K "Frame" "names") ["self"] (spNames K) := ok_names T
  refine ⟨fd, F.ok sc_col (fun vs H Q E h => by obtain ⟨f, hd, L, sch, r, j, p, rfl, _⟩ := h; rfl) (fun cdv A outer s H vs Q E hr h => ?_), F.binds fun _ _ _ _ _ _ us hl => match us, hl with | [_, _], _ => rfl⟩
  obtain ⟨f, hd, L, sch, rows, j, p, rfl, hf, hh, hs, hL, hlen, hle, hj, hQ⟩ := h
  obtain ⟨rs, hR, hrl, hrc⟩ := id hL
  refine ⟨_, pss_cons (ps_if (PW.pt (pw_or (pt_not (pt_val (pe_callB call_isi (by rfl) T.b_isinstance boot_isinstance (pa_cons (pv 1) (pa_cons (pe_bltn (v := .ty "str") (by rfl) T.b_str boot_str rfl) pa_nil)))))
      (pw_or1 (pt_cmpR op_notIn_seq (pv 1) (pe_propO O1 (pv 0) T.c_Frame T.p_Frame_names hr) (by rfl))))) pss_never pss_nil)
    (pss_cons (ps_set (i := 2) sc_col.nd rfl (.inr rfl) (pe_bmF PySem.F.plainAttrs_tuple PySem.F.slot_tuple_index PySem.F.type_tuple_index mt_tup_index (pe_propO O1 (pv 0) T.c_Frame T.p_Frame_names hr) (pa_cons (pv 1) pa_nil)))
    (pss_one (ps_ret (pe_callTy call_tuple_of (by rfl) T.b_tuple boot_tuple (pa_cons (pe_lc (own := [("row", 3)]) (g := gName 3) (tt := tYes) (by rfl) sc_col.nd (pi_tup (pe_fld (pv 0) rfl)) (blkOk_by (own := [("row", 3)]) (N := ["self", "name", "place", "row"]) (sc := defScope (inClass (top 46) 5)) (by decide +kernel))
      (fun _ _ _ _ _ => pg_name (i := 3) sc_col.nd rfl (Or.inl rfl)) (fun _ _ _ _ _ => pts_nil) (fun _ _ _ _ _ => pe_ix (r := rIxT K) ix_tup (pv 3) (pv 2) (fun _ _ => rfl))) pa_nil))))), ?_⟩
  have hm : p.1 ∈ sch.map (·.1) := List.mem_map.mpr ⟨p, List.mem_of_getElem? hj, rfl⟩
  obtain ⟨dx, hfx⟩ := id hf
  refine ⟨_, rfl, _, _, _, _, _, rfl, .ty "str", .base (.str p.1), kit_ss, _, rfl, iteF ?_⟩
  refine ⟨_, rfl, _, rfl, f, dx, _, rfl, hfx, f, hd, L, sch, rfl, hf, hh, hs, fun H1 q o s1 o1 o2 hq => ?_⟩
  refine ⟨_, _, rfl, .inr (.inl (.inr ⟨o, hq⟩)), rfl, flat_names, _, rfl, ?_⟩
  show (if (!inV (.str p.1) ((sch.map (·.1)).map V.str)) = true then _ else _)
  rw [inV_names_yes hm]
  refine iteF ?_
  refine ⟨_, rfl, f, dx, _, rfl, s1 _ _ hfx, f, hd, L, sch, rfl, hf.same s1, hh.same s1, hs, fun H2 q2 o' s2 o1' o2' hq2 => ?_⟩
  refine ⟨⟨q2, o', _, rfl, hq2, o1', o2'⟩, _, rfl, q2, sch.map (·.1), p.1, j, rfl, rfl, .inl (.inr ⟨o', hq2⟩), by rw [List.getElem?_map, hj]; rfl, fun m hm' e => ?_, ?_⟩
  · have := nd_ix hs.nd e (show (sch.map (·.1))[j]? = some p.1 by rw [List.getElem?_map, hj]; rfl)
    omega
  have s12 : Same H H2 := s1.trans s2
  refine ⟨_, rfl, f, _, dx, _, _, rfl, s12 _ _ hfx, T.c_Frame, T.na_Frame_lines, rfl, L, rfl, ⟨_, same_sqT s12 hR⟩, fun D hD => ?_⟩
  have s0 : ∀ (o : HO), Same H2 (upd H2 D o) := fun o => same_upd hD
  refine lc_it (walk_tup (xs := rs.map V.ref)) (fun i H' => H' = upd H2 D (.lst (colOf j (rows.take i)))) (by simp [colOf]) (fun i H' _ hp => by subst hp; exact same_sqT (s12.trans (s0 _)) hR) (fun i x H' H'' hi hp hy => ?_) fun H' hp => ?_
  · obtain ⟨rfl, hx⟩ := hy
    subst hp
    obtain ⟨c, hci, rfl⟩ := get_map hx
    have hi' : i < rows.length := by rw [← hrl]; simpa using hi
    obtain ⟨r, hr2⟩ := lt_get hi'
    have hjr : j < r.length := by
      rw [hlen r (List.mem_of_getElem? hr2)]
      exact (List.getElem?_eq_some_iff.mp hj).1
    refine ⟨rfl, ?_⟩
    refine yes ?_
    have hsl : sizeLine = 16777216 := sizeLine_eq
    refine ⟨_, rfl, _, rfl, c, _, _, r.getD j .non, rfl, rfl, same_sqT (s12.trans (s0 _)) (hrc i c r hci hr2), atI_nat (j := j) (by rw [List.getD_eq_getElem?_getD, List.getElem?_eq_getElem hjr]; rfl), _, upd_same, ?_, ?_⟩
    · simp [colOf]
      omega
    · rw [upd_upd]
      congr 2
      unfold colOf
      rw [List.take_succ_eq_append_getElem hi', List.map_append]
      have : rows[i] = r := by
        have := (List.getElem?_eq_some_iff.mp hr2).2
        exact this
      rw [this]
      rfl
  · subst hp
    have el : (rs.map V.ref).length = rows.length := by simp [hrl]
    rw [el, List.take_length]
    refine ⟨D, _, rfl, .inl ⟨SqL.of upd_same, fun l hl' => ?_⟩⟩
    exact hQ _ l (s12.trans ((s0 _).trans (same_upd hl'))) upd_same

/-! ### a frame is made -/
theorem sc_finit : FnScope ["self", "schema", "rows"] ["self", "schema", "rows"] (defScope (inClass (top 46) 0)) := ⟨rfl, rfl, rfl, by decide +kernel, rfl, by decide +kernel, by decide +kernel⟩
def spFInit (K : PySem.W.Frag) : Sp := fun vs H Q _ => ∃ x dx hd L sch rows, vs = [.ref x, .ref hd, .ref L] ∧ H x = some (.ins (cF K) dx []) ∧ Hd K H hd sch ∧ SchOk sch ∧ RowsAt K H L rows ∧ (∀ r ∈ rows, RowOk sch r) ∧
  ∀ H', SameX x H H' → FrameAt K H' x hd L → Q .non H'
/-- .. with its rows, or by the default of none -/
def OkFI (P : Program) (w : World) (K : PySem.W.Frag) (mg : Str → Option Value) (base : Heap) : Prop := ∃ fd, FnOk P w K mg base CX0 6 (ma K "Frame" "__init__") fd ["self", "schema", "rows"] (spFInit K) ∧ Binds K fd ["self", "schema", "rows"] [] ∧
  ∃ r0 ds, Vals [.ref r0] ds ∧ Binds K fd ["self", "schema", "rows"] ds ∧ ∀ H, SqT K H r0 []
theorem ok_finit (T : TX P K mg) : OkFI P w K mg base := by
  obtain ⟨r0, o, n, h1, h2, h3, fd, F⟩ := T.rows0
  have O1 : Ok P w K mg base 4 (ga K "check_schema") ["schema"] (spCheck K (okSch K)) := ok_check T
  have O2 : Ok P w K mg base 5 (ga K "check_rows") ["schema", "rows"] (spCheck K (okRows K)) := ok_chrows T
  have b3 : ∃ ds, Vals (([.ref r0] : List V).drop 1) ds ∧ Binds K fd ["self", "schema", "rows"] ds := F.binds1 3 1 (by simp) rfl fun T kV doc pm an cdv ct us its hl h1 => match us, hl with | [_, _, _], _ => match its, h1 with | [_], _ => ⟨_, rfl, rfl⟩
  have b2 : ∃ ds, Vals (([.ref r0] : List V).drop 0) ds ∧ Binds K fd ["self", "schema", "rows"] ds := F.binds1 2 0 (by simp) rfl fun T kV doc pm an cdv ct us its hl h1 => match us, hl with | [_, _], _ => match its, h1 with | [_], _ => ⟨_, rfl, rfl⟩
  obtain ⟨ds3, v3, b3⟩ := b3
  cases v3
  obtain ⟨ds2, v2, b2⟩ := b2
  refine ⟨fd, F.ok sc_finit (fun vs H Q E h => by obtain ⟨x, dx, hd, L, sch, r, rfl, _⟩ := h; rfl) (fun cdv A outer s H vs Q E hr h => ?_), b3, r0, ds2, v2, b2, fun H => .inr ⟨o, #[], n, h1, h2, h3, Nat.zero_le _, .nil⟩⟩
  obtain ⟨x, dx, hd, L, sch, rows, rfl, hx, hh, hs, hL, hrow, hQ⟩ := h
  refine ⟨_, PSs.nox (pss_cons (ps_expr (pe_callO O1 T.f_check_schema.kp hr (by rfl) T.g_check_schema (pa_cons (pv 1) pa_nil)))
    (pss_cons (ps_expr (pe_callO O2 T.f_check_rows.kp hr (by rfl) T.g_check_rows (pa_cons (pv 1) (pa_cons (pv 2) pa_nil))))
    (pss_cons (ps_fld (pv 0) (pv 1) rfl) (pss_one (ps_fld (pv 0) (pv 2) rfl))))), ?_⟩
  refine ⟨_, rfl, ⟨hd, sch, rfl, hh, hs⟩, fun H1 s1 => ?_⟩
  refine ⟨_, rfl, _, rfl, ⟨hd, sch, L, rows, rfl, hh.same s1, hL.same s1, hrow⟩, fun H2 s2 => ?_⟩
  refine ⟨_, rfl, _, rfl, x, _, dx, _, rfl, s2 _ _ (s1 _ _ hx), T.c_Frame, T.na_Frame_heads, by decide, ?_⟩
  refine ⟨_, rfl, _, rfl, x, _, dx, _, rfl, upd_same, T.c_Frame, T.na_Frame_lines, by show (1 : Nat) < 1000; decide, ?_⟩
  exact hQ _ ((SameX.same (s1.trans s2)).trans (SameX.put.trans SameX.put)) ⟨dx, upd_same⟩

/-! ### blank_frame -/
theorem sc_bframe : FnScope ["heads"] ["heads"] (defScope (top 50)) := ⟨rfl, rfl, rfl, by decide +kernel, rfl, by decide +kernel, by decide +kernel⟩
def spBFrame (K : PySem.W.Frag) : Sp := fun vs H Q _ => ∃ hd sch, vs = [.ref hd] ∧ Hd K H hd sch ∧ SchOk sch ∧ ∀ H' f L, Same H H' → H f = none → FrameAt K H' f hd L → RowsAt K H' L [] → Q (.ref f) H'
theorem ok_bframe (T : TX P K mg) : Ok P w K mg base 8 (ga K "blank_frame") ["heads"] (spBFrame K) := by
  obtain ⟨fd, F⟩ := T.f_blank_frame
  obtain ⟨fdI, G, b3, r0, ds, v, b2, hr0⟩ := ok_finit (w := w) (base := base) T
  refine ⟨fd, F.ok sc_bframe (fun vs H Q E h => by obtain ⟨hd, sch, rfl, _⟩ := h; rfl) (fun cdv A outer s H vs Q E hr h => ?_), F.binds fun _ _ _ _ _ _ us hl => match us, hl with | [_], _ => rfl⟩
  obtain ⟨hd, sch, rfl, hh, hs, hQ⟩ := h
  refine ⟨_, pss_one (ps_ret (pe_make T.mk_Frame G hr (by rfl) T.g_Frame b2 v pass0 (pa_cons (pv 0) pa_nil))), ?_⟩
  refine ⟨_, rfl, fun x dx nx nd hne => ?_⟩
  have s0 := same_made (C := cF K) nx nd
  refine ⟨x, dx, hd, r0, sch, [], rfl, upd_same, hh.same s0, hs, ⟨[], hr0 _, rfl, fun i a r e => by simp at e⟩, fun r hr => by simp at hr, fun H1 s1 hf => ⟨rfl, ?_⟩⟩
  exact hQ H1 x r0 (s1.made nx nd) nx hf ⟨[], hr0 _, rfl, fun i a r e => by simp at e⟩
end LF
set_option Elab.async false
set_option linter.all false
set_option maxRecDepth 100000
set_option maxHeartbeats 4000000
/-! Blocks, and a column cut into blocks. -/
namespace LF
open PySem PySem.Spec PyProof.Rows L2
theorem Step.updF {X : Addr → Prop} {ρ ρ' : Addr → Ro} {H H' : Hp} {p : Addr} {o : HO} (a : Step X ρ H ρ' H') (h : H p = none) : Step X ρ H ρ' (upd H' p o) where
  ro := a.ro
  ot b u e r n := by rw [upd_ne (ne_of_none e h)]; exact a.ot b u e r n
  tr b u e := by rw [upd_ne (ne_of_none e h)]; exact a.tr b u e
  fx b u e f := by rw [upd_ne (ne_of_none e h)]; exact a.fx b u e f
theorem Hd.step {K : PySem.W.Frag} {X : Addr → Prop} {ρ ρ' : Addr → Ro} {H H' : Hp} {hd : Addr} {sch : Sch} (h : Hd K H hd sch) (e : Step X ρ H ρ' H') : Hd K H' hd sch := by
  obtain ⟨as, h1, h2, h3⟩ := h
  exact ⟨as, e.sqT h1, h2, fun i a p x y => e.sqT (h3 i a p x y)⟩
theorem RowsAt.step {K : PySem.W.Frag} {X : Addr → Prop} {ρ ρ' : Addr → Ro} {H H' : Hp} {hd : Addr} {rows : List (List V)} (h : RowsAt K H hd rows) (e : Step X ρ H ρ' H') : RowsAt K H' hd rows := by
  obtain ⟨as, h1, h2, h3⟩ := h
  exact ⟨as, e.sqT h1, h2, fun i a p x y => e.sqT (h3 i a p x y)⟩
theorem cut_chunk {xs : List V} {sz i : Nat} : cutV xs (some ((0 : Int) + (i : Nat) * (sz : Nat))) (some ((0 : Int) + (i : Nat) * (sz : Nat) + (sz : Nat))) = chunk xs sz i := by
  have e1 : ((0 : Int) + (i : Nat) * (sz : Nat)) = ((i * sz : Nat) : Int) := by push_cast; omega
  have e2 : ((0 : Int) + (i : Nat) * (sz : Nat) + (sz : Nat)) = ((i * sz + sz : Nat) : Int) := by push_cast; omega
  unfold cutV chunk
  rw [e2, e1, HT.sIx_nat, HT.sIx_nat]
  generalize i * sz = q
  rcases Nat.lt_or_ge q xs.length with h | h
  · have e3 : min q xs.length = q := Nat.min_eq_left (by omega)
    rw [e3]
    rcases Nat.lt_or_ge (q + sz) xs.length with h2 | h2
    · have e4 : min (q + sz) xs.length = q + sz := Nat.min_eq_left (by omega)
      rw [e4]
      congr 1
      omega
    · have e4 : min (q + sz) xs.length = xs.length := Nat.min_eq_right h2
      rw [e4, List.take_of_length_le (by simp), List.take_of_length_le (by simp; omega)]
  · rw [Nat.min_eq_right h, List.drop_of_length_le (Nat.le_refl _), List.drop_of_length_le h]
    simp
variable {P : Program} {w : World} {K : PySem.W.Frag} {mg : Str → Option Value} {base : Heap}
abbrev RepK (K : PySem.W.Frag) (m : Nat) (hd : Addr) (ρ : Addr → Ro) (H : Hp) (a : AS) : Prop := Rep (cls K) (cB K) m hd ρ H a

theorem sc_binit : FnScope ["self", "cells", "sheet"] ["self", "cells", "sheet"] (defScope (inClass (top 48) 0)) := ⟨rfl, rfl, rfl, by decide +kernel, rfl, by decide +kernel, by decide +kernel⟩
def spBInit (K : PySem.W.Frag) : Sp := fun vs H Q _ => ∃ b dx cl s, vs = [.ref b, .ref cl, .ref s] ∧ H b = some (.ins (cB K) dx []) ∧
  ∀ H' sl, SameX b H H' → H sl = none → H' sl = some (.lst [.ref s]) → H' b = some (.ins (cB K) dx [("cells", .ref cl), ("sheets", .ref sl)]) → Q .non H'
theorem ok_binit (T : TX P K mg) : Ok P w K mg base 1 (ma K "Block" "__init__") ["self", "cells", "sheet"] (spBInit K) := by
  obtain ⟨fd, F⟩ := T.f_Block___init__
  refine ⟨fd, F.ok sc_binit (fun vs H Q E h => by obtain ⟨b, dx, cl, s, rfl, _⟩ := h; rfl) (fun cdv A outer s H vs Q E hr h => ?_), F.binds fun _ _ _ _ _ _ us hl => match us, hl with | [_, _, _], _ => rfl⟩
  obtain ⟨b, dx, cl, sh, rfl, hb, hQ⟩ := h
  refine ⟨_, pss_cons (ps_fld (pv 0) (pv 1) rfl) (pss_one (ps_fld (pv 0) (pe_lst (pa_cons (pv 2) pa_nil)) rfl)), ?_⟩
  refine ⟨_, rfl, _, rfl, b, _, dx, _, rfl, hb, T.c_Block, T.na_Block_cells, by decide, ?_⟩
  refine ⟨_, rfl, by show (1 : Nat) ≤ sizeLine; decide, fun sl hsl => ?_⟩
  have hne : sl ≠ b := fun z => by rw [z, upd_same] at hsl; cases hsl
  have hsl0 : H sl = none := by rw [upd_ne hne] at hsl; exact hsl
  refine ⟨_, rfl, b, _, dx, _, rfl, (by rw [upd_ne hne.symm]; exact upd_same), T.c_Block, T.na_Block_sheets, by show (1 : Nat) < 1000; decide, ?_⟩
  refine hQ _ sl (fun c o hc e => ?_) hsl0 ?_ upd_same
  · rw [upd_ne hc, upd_ne (ne_of_none e hsl0), upd_ne hc]; exact e
  · rw [upd_ne hne]; exact upd_same

theorem sc_cut : FnScope ["cells", "size", "sheet", "start"] ["cells", "size", "sheet"] (defScope (top 49)) := ⟨rfl, rfl, rfl, by decide +kernel, rfl, by decide +kernel, by decide +kernel⟩
/-- blocks made for a column xs of the sheet at s, i of them so far -/
structure Cut (K : PySem.W.Frag) (m : Nat) (hd : Addr) (ρ : Addr → Ro) (H : Hp) (a : AS) (xs : List V) (sz i : Nat) (s : Addr) (ρ' : Addr → Ro) (H' : Hp) (a' : AS) (D : Addr) (bs : List Addr) : Prop where
  st : Step none' ρ H ρ' H'
  rep : RepK K m hd ρ' H' a'
  sh : a'.sh = a.sh
  old : ∀ b y, a.bk b = some y → a'.bk b = some y
  new : ∀ b y, a'.bk b = some y → a.bk b = some y ∨ y.ls = [s]
  at_ : H' D = some (.lst (bs.map V.ref))
  ro : ρ' D = .oth
  len : bs.length = i
  ce : ∀ (k : Nat) (b : Addr), bs[k]? = some b → H b = none ∧ ∃ y, a'.bk b = some y ∧ y.vs = chunk xs sz k ∧ y.ls = [s]
  nd : bs.Nodup
def spCut (K : PySem.W.Frag) : Sp := fun vs H Q _ => ∃ (m : Nat) (hd : Addr) (ρ : Addr → Ro) (a : AS) (t s : Addr) (xs : List V) (sz : Nat), vs = [.ref t, .int (sz : Nat), .ref s] ∧ RepK K m hd ρ H a ∧ SqT K H t xs ∧ xs.length ≤ 1000 ∧ 1 ≤ sz ∧ sz ≤ 100 ∧
  ∀ ρ' a' H' l bs, H l = none → Cut K m hd ρ H a xs sz (nbl xs.length sz) s ρ' H' a' l bs → Q (.ref l) H'
theorem ok_cut (T : TX P K mg) : Ok P w K mg base 3 (ga K "cut_blocks") ["cells", "size", "sheet"] (spCut K) := by
  obtain ⟨fd, F⟩ := T.f_cut_blocks
  obtain ⟨fdB, G, b3⟩ : Ok P w K mg base 1 (ma K "Block" "__init__") ["self", "cells", "sheet"] (spBInit K) := ok_binit T
  refine ⟨fd, F.ok sc_cut (fun vs H Q E h => by obtain ⟨m, hd, ρ, a, t, s, xs, sz, rfl, _⟩ := h; rfl) (fun cdv A outer s H vs Q E hr h => ?_), F.binds fun _ _ _ _ _ _ us hl => match us, hl with | [_, _, _], _ => rfl⟩
  obtain ⟨m, hd, ρ, a, t, sh, xs, sz, rfl, R, ht, hle, h1, h2, hQ⟩ := h
  refine ⟨_, pss_one (ps_ret (pe_lc (own := [("start", 3)]) (g := gName 3) (tt := tYes) (by rfl) sc_cut.nd (pi_range3 (by rfl) T.b_range (pa_cons pe_int (pa_cons (pe_callB call_len (by rfl) T.b_len boot_len (pa_cons (pv 0) pa_nil)) (pa_cons (pv 1) pa_nil))))
    (blkOk_by (own := [("start", 3)]) (N := ["cells", "size", "sheet", "start"]) (sc := defScope (top 49)) (by decide +kernel))
    (fun _ _ _ _ _ => pg_name (i := 3) sc_cut.nd rfl (Or.inl rfl)) (fun _ _ _ _ _ => pts_nil)
    (fun _ _ _ _ _ => pe_make T.mk_Block G (hr.mono (by decide)) (by rfl) T.g_Block b3 .nil pass0 (pa_cons (pe_callTy (r := fun xs H Q => ∃ p ys, xs = [.ref p] ∧ (SqL K H p ys ∨ SqT K H p ys) ∧ ∀ l, H l = none → Q (.ref l) (upd H l (.lst ys))) call_list_of (by rfl) T.b_list boot_list
      (pa_cons (pe_slice (r := rSlA K) sl_tupA (pv 0) (po_some (pv 3)) (po_some (pe_op op_add (pv 3) (pv 1)))) pa_nil)) (pa_cons (pv 2) pa_nil))))), ?_⟩
  refine ⟨_, rfl, _, _, rfl, .inr ⟨xs, ht, rfl⟩, _, rfl, _, _, _, _, rfl, rgc_up hle h1 h2, fun D hD => ?_⟩
  refine lc_it walk_rangeC (fun i H' => ∃ ρ' a' bs, Cut K m hd ρ H a xs sz i sh ρ' H' a' D bs) ?_ (fun _ _ _ _ => trivial) (fun i x H' H'' hi hp hy => ?_) fun H' hp => ?_
  · exact ⟨ρ, a, [], Step.same (same_upd hD), R.same (same_upd hD), rfl, fun _ _ h => h, fun _ _ h => .inl h, upd_same, R.fr D hD, rfl, fun k b e => by simp at e, List.nodup_nil⟩
  · obtain ⟨rfl, rfl⟩ := hy
    obtain ⟨ρ', a', bs, C⟩ := hp
    refine ⟨rfl, ?_⟩
    refine yes ?_
    have hsl : sizeLine = 16777216 := sizeLine_eq
    have ht' : SqT K H'' t xs := C.st.sqT ht
    -- behind the list
    have tail : ∀ (Hl : Hp) (l : Addr), Same H'' Hl → H'' l = none → Hl l = some (.lst (chunk xs sz i)) → ∀ x dx, Hl x = none → Hl dx = none → dx ≠ x →
        spBInit K [.ref x, .ref l, .ref sh] (upd (upd Hl dx (.own x)) x (.ins (cB K) dx [])) (fun v H2 => v = .non ∧ ∃ acc, H2 D = some (.lst acc) ∧ acc.length < sizeLine ∧ ∃ ρ' a' bs, Cut K m hd ρ H a xs sz (i + 1) sh ρ' (upd H2 D (.lst (acc ++ [.ref x]))) a' D bs) E0 := by
      intro Hl l sHl hl el x dx nx nd hne
      refine ⟨x, dx, l, sh, rfl, upd_same, fun H2 sl sx nsl esl ex => ⟨rfl, ?_⟩⟩
      have s2 : Same Hl H2 := sx.made nx nd
      have s02 : Same H'' H2 := sHl.trans s2
      have nslH : Hl sl = none := (same_made nx nd).free nsl
      have fx : H'' x = none := sHl.free nx
      have fsl : H'' sl = none := sHl.free nslH
      have lsl : l ≠ sl := ne_of_none el nslH
      have lx : l ≠ x := ne_of_none el nx
      have slx : sl ≠ x := fun z => by rw [z, upd_same] at nsl; cases nsl
      have hDx : D ≠ x := ne_of_none C.at_ fx
      have hDl : D ≠ l := ne_of_none C.at_ hl
      have hDsl : D ≠ sl := ne_of_none C.at_ fsl
      have R2 := (C.rep.same s02).addB (b := x) (y := ⟨dx, l, sl, chunk xs sz i, [sh]⟩) (C.rep.fr x fx) (C.rep.fr l hl) (C.rep.fr sl fsl) ex (s2 _ _ el) esl lsl
      refine ⟨_, s02 _ _ C.at_, by rw [List.length_map, C.len]; have := nbl_le (n := xs.length) h1; omega, _, _, bs ++ [x], ⟨?_, R2.updO ?_, C.sh, fun b y e => ?_, fun b y e => ?_, ?_, ?_, by rw [List.length_append, C.len]; rfl, fun k b e => ?_, ?_⟩⟩
      · refine Step.updF (Step.role (C.st.trans (Step.same s02)) fun b hb => ?_) hD
        have h3 : ∀ q, H'' q = none → b ≠ q := fun q hq z => hb (by
          cases e : H b with
          | none => rfl
          | some o => obtain ⟨o', e'⟩ := C.st.tr b o e; rw [z, hq] at e'; cases e')
        show (if b = x then Ro.ofB x 0 else if b = l then .ofB x 1 else if b = sl then .ofB x 2 else ρ' b) = ρ' b
        rw [if_neg (h3 x fx), if_neg (h3 l hl), if_neg (h3 sl fsl)]
      · show (if D = x then Ro.ofB x 0 else if D = l then .ofB x 1 else if D = sl then .ofB x 2 else ρ' D) = .oth
        rw [if_neg hDx, if_neg hDl, if_neg hDsl]
        exact C.ro
      · have : b ≠ x := fun z => by
          have := (C.rep.no_bk (C.rep.fr x fx))
          rw [z] at e
          rw [C.old _ _ e] at this
          cases this
        rw [setB_ne this]
        exact C.old b y e
      · by_cases hb : b = x
        · subst hb
          rw [setB_same] at e
          cases e
          exact .inr rfl
        · rw [setB_ne hb] at e
          exact C.new b y e
      · rw [upd_same, List.map_append]
        rfl
      · show (if D = x then Ro.ofB x 0 else if D = l then .ofB x 1 else if D = sl then .ofB x 2 else ρ' D) = .oth
        rw [if_neg hDx, if_neg hDl, if_neg hDsl]
        exact C.ro
      · by_cases hk : k < bs.length
        · rw [List.getElem?_append_left hk] at e
          obtain ⟨q1, y, q2, q3, q4⟩ := C.ce k b e
          have : b ≠ x := fun z => by
            have h5 := (C.rep.no_bk (C.rep.fr x fx))
            rw [z] at q2
            rw [q2] at h5
            cases h5
          exact ⟨q1, y, by rw [setB_ne this]; exact q2, q3, q4⟩
        · have hk2 : k = bs.length := by
            have := (List.getElem?_eq_some_iff.mp e).1
            rw [List.length_append] at this
            simp at this
            omega
          subst hk2
          rw [List.getElem?_append_right (Nat.le_refl _), Nat.sub_self] at e
          cases e
          refine ⟨C.st.free fx, _, setB_same, ?_, rfl⟩
          rw [C.len]
      · refine List.nodup_append.mpr ⟨C.nd, List.nodup_cons.mpr ⟨by simp, List.nodup_nil⟩, fun b hb c hc z => ?_⟩
        rw [List.mem_singleton.mp hc] at z
        obtain ⟨k, hk⟩ := List.mem_iff_getElem?.mp hb
        obtain ⟨_, y, q2, _⟩ := C.ce k b hk
        have h5 := (C.rep.no_bk (C.rep.fr x fx))
        rw [z] at q2
        rw [q2] at h5
        cases h5
    refine ⟨_, rfl, _, rfl, _, rfl, _, rfl, _, rfl, _, _, rfl, rfl, _, rfl, t, xs, rfl, ht', fun hw => ?_, fun _ p hp => ?_⟩
    · refine ⟨t, xs, rfl, .inr ht', fun l hl => ⟨_, rfl, fun x dx nx nd hne => ?_⟩⟩
      refine tail _ l (same_upd hl) hl ?_ x dx nx nd hne
      rw [upd_same, ← cut_chunk]
      unfold cutV
      rw [hw.1, hw.2, List.drop_zero, Nat.sub_zero, List.take_length]
    · refine ⟨p, _, rfl, .inr (SqT.of upd_same), fun l hl => ⟨_, rfl, fun x dx nx nd hne => ?_⟩⟩
      have hl' : H'' l = none := (same_upd hp).free hl
      refine tail _ l ((same_upd hp).trans (same_upd hl)) hl' ?_ x dx nx nd hne
      rw [upd_same]
      exact congrArg (fun z => some (HO.lst z)) cut_chunk
  · obtain ⟨ρ', a', bs, C⟩ := hp
    exact hQ ρ' a' H' D bs hD C
end LF
set_option Elab.async false
set_option linter.all false
set_option maxRecDepth 100000
set_option maxHeartbeats 4000000
/-! Sheets: what only reads. -/
namespace LF
open PySem PySem.Spec PyProof.Rows L2
variable {P : Program} {w : World} {K : PySem.W.Frag} {mg : Str → Option Value} {base : Heap}
abbrev shO (K : PySem.W.Frag) (hd : Addr) (x : Sh) : HO := .ins (cls K x.kd) x.dx (sheetFs x.kd hd x.bs x.tot x.made x.op x.pa x.na)
section
variable {k : Kd} {hd : Addr} {bs tot : Nat} {made : Int} {op : Bool} {pa na : Addr}
theorem lk_open : (sheetFs k hd bs tot made op pa na).lookup ("opened" : Str) = some (.bl op) := rfl
theorem lm_check_open : (sheetFs k hd bs tot made op pa na).lookup ("check_open" : Str) = none := by cases k <;> rfl
theorem lm_check_row : (sheetFs k hd bs tot made op pa na).lookup ("check_row" : Str) = none := by cases k <;> rfl
theorem lm_place_of : (sheetFs k hd bs tot made op pa na).lookup ("place_of" : Str) = none := by cases k <;> rfl
theorem lm_own_block : (sheetFs k hd bs tot made op pa na).lookup ("own_block" : Str) = none := by cases k <;> rfl
theorem lm_put : (sheetFs k hd bs tot made op pa na).lookup ("put" : Str) = none := by cases k <;> rfl
theorem lm_add_row : (sheetFs k hd bs tot made op pa na).lookup ("add_row" : Str) = none := by cases k <;> rfl
theorem lm_to_frame : (sheetFs k hd bs tot made op pa na).lookup ("to_frame" : Str) = none := by cases k <;> rfl
theorem lm_blank : (sheetFs k hd bs tot made op pa na).lookup ("blank" : Str) = none := by cases k <;> rfl
theorem lm_hold : (sheetFs k hd bs tot made op pa na).lookup ("hold" : Str) = none := by cases k <;> rfl
theorem lm_twin : (sheetFs k hd bs tot made op pa na).lookup ("twin" : Str) = none := by cases k <;> rfl
theorem lm_close : (sheetFs k hd bs tot made op pa na).lookup ("close" : Str) = none := by cases k <;> rfl
theorem lm_shared : (sheetFs k hd bs tot made op pa na).lookup ("shared" : Str) = none := by cases k <;> rfl
theorem lk_noted (h : k.nt = true) : (sheetFs k hd bs tot made op pa na).lookup ("noted" : Str) = some (.ref na) := by cases k <;> first | rfl | cases h
theorem fs_few : (sheetFs k hd bs tot made op pa na).length < 1000 := by
  have : (sheetFs k hd bs tot made op pa na).length ≤ 8 := by cases k <;> exact Nat.le_of_ble_eq_true rfl
  omega
theorem pf_total {t : Nat} : putF "total" (.int (t : Nat)) (sheetFs k hd bs tot made op pa na) = sheetFs k hd bs t made op pa na := rfl
theorem pf_made {t : Int} : putF "made" (.int t) (sheetFs k hd bs tot made op pa na) = sheetFs k hd bs tot t op pa na := rfl
theorem pf_open {t : Bool} : putF "opened" (.bl t) (sheetFs k hd bs tot made op pa na) = sheetFs k hd bs tot made t pa na := rfl
theorem pf_parts {t : Addr} : putF "parts" (.ref t) (sheetFs k hd bs tot made op pa na) = sheetFs k hd bs tot made op t na := rfl
end

/-! ### schema, len -/
theorem sc_ssch : FnScope ["self"] ["self"] (defScope (inClass (top 51) 2)) := ⟨rfl, rfl, rfl, by decide +kernel, rfl, by decide +kernel, by decide +kernel⟩
theorem sc_slen : FnScope ["self", "step"] ["self"] (defScope (inClass (top 51) 5)) := ⟨rfl, rfl, rfl, by decide +kernel, rfl, by decide +kernel, by decide +kernel⟩
def spSSch (K : PySem.W.Frag) : Sp := fun vs H Q _ => ∃ s x hd, vs = [.ref s] ∧ H s = some (shO K hd x) ∧ Q (.ref hd) H
theorem ok_ssch (T : TX P K mg) : Ok P w K mg base 1 (gtr K "Sheet" "schema") ["self"] (spSSch K) := by
  obtain ⟨fd, F⟩ := T.f_Sheet_schema
  refine ⟨fd, F.ok sc_ssch (fun vs H Q E h => by obtain ⟨f, hd, L, rfl, _⟩ := h; rfl) (fun cdv A outer s H vs Q E hr h => ?_), F.binds fun _ _ _ _ _ _ us hl => match us, hl with | [_], _ => rfl⟩
  obtain ⟨s, x, hd, rfl, h, hQ⟩ := h
  refine ⟨_, pss_one (ps_ret (pe_fld (pv 0) rfl)), ?_⟩
  exact ⟨_, rfl, s, _, _, _, _, rfl, h, T.c_sheet _, T.na_heads _, rfl, hQ⟩
def spSLen (K : PySem.W.Frag) : Sp := fun vs H Q _ => ∃ s x hd, vs = [.ref s] ∧ H s = some (shO K hd x) ∧ x.tot ≤ 1000 ∧ ∀ H', Same H H' → Q (.int (x.tot : Nat)) H'
theorem ok_slen (T : TX P K mg) : Ok P w K mg base 1 (ma K "Sheet" "__len__") ["self"] (spSLen K) := by
  obtain ⟨fd, F⟩ := T.f_Sheet___len__
  refine ⟨fd, F.ok sc_slen (fun vs H Q E h => by obtain ⟨f, hd, L, rfl, _⟩ := h; rfl) (fun cdv A outer s H vs Q E hr h => ?_), F.binds fun _ _ _ _ _ _ us hl => match us, hl with | [_], _ => rfl⟩
  obtain ⟨s, x, hd, rfl, h, hx, hQ⟩ := h
  refine ⟨_, pss_one (ps_ret (pe_callB call_len (by rfl) T.b_len boot_len (pa_cons (pe_lc (own := [("step", 1)]) (g := gName 1) (tt := tYes) (by rfl) sc_slen.nd (pi_range1 (by rfl) T.b_range (pa_cons (pe_fld (pv 0) rfl) pa_nil))
    (blkOk_by (own := [("step", 1)]) (N := ["self", "step"]) (sc := defScope (inClass (top 51) 5)) (by decide +kernel)) (fun _ _ _ _ _ => pg_name (i := 1) sc_slen.nd rfl (Or.inl rfl)) (fun _ _ _ _ _ => pts_nil) (fun _ _ _ _ _ => pe_int)) pa_nil))), ?_⟩
  refine ⟨_, rfl, s, _, _, _, _, rfl, h, T.c_sheet _, T.na_total _, rfl, ?_⟩
  refine ⟨(x.tot : Nat), rfl, by omega, by omega, fun D hD => ?_⟩
  refine lc_it walk_range (fun i H' => H' = upd H D (.lst (List.replicate i (.int 1)))) rfl (fun _ _ _ _ => trivial) (fun i y H' H'' hi hp hy => ?_) fun H' hp => ?_
  · obtain ⟨rfl, rfl⟩ := hy
    subst hp
    refine ⟨rfl, ?_⟩
    refine yes ?_
    have hsl : sizeLine = 16777216 := sizeLine_eq
    have hi' : i < x.tot := by simpa using hi
    refine ⟨_, upd_same, by simp; omega, ?_⟩
    rw [upd_upd, List.replicate_succ']
  · subst hp
    refine ⟨_, x.tot, rfl, .inl ⟨_, SqL.of upd_same, by simp⟩, ?_⟩
    exact hQ _ (same_upd hD)

/-! ### check_open, check_row, place_of -/
theorem sc_copen : FnScope ["self"] ["self"] (defScope (inClass (top 51) 8)) := ⟨rfl, rfl, rfl, by decide +kernel, rfl, by decide +kernel, by decide +kernel⟩
def spOpen (K : PySem.W.Frag) : Sp := fun vs H Q _ => ∃ s x hd, vs = [.ref s] ∧ H s = some (shO K hd x) ∧ x.op = true ∧ Q .non H
theorem ok_copen (T : TX P K mg) : Ok P w K mg base 1 (ma K "Sheet" "check_open") ["self"] (spOpen K) := by
  obtain ⟨fd, F⟩ := T.f_Sheet_check_open
  refine ⟨fd, F.ok sc_copen (fun vs H Q E h => by obtain ⟨f, hd, L, rfl, _⟩ := h; rfl) (fun cdv A outer s H vs Q E hr h => ?_), F.binds fun _ _ _ _ _ _ us hl => match us, hl with | [_], _ => rfl⟩
  obtain ⟨s, x, hd, rfl, h, ho, hQ⟩ := h
  refine ⟨_, pss_one (ps_if (pt_not (pt_val (pe_fld (pv 0) rfl))) pss_never pss_nil), ?_⟩
  refine ⟨_, rfl, s, _, _, _, _, rfl, h, T.c_sheet _, T.na_opened _, lk_open, _, rfl, ?_⟩
  rw [ho]
  exact iteF hQ
section
variable {X : Cx} {j k : Nat} {m : Str} {f : Addr} {ps : List Str} {sp : Sp} {o e : Expr} {es : List Expr} {ta : TE} {t : TA} {p pos apos : Pos}
/-- o.m(..), o a sheet of any class -/
theorem pe_mS (O : Ok X.prog X.w X.K X.mg X.base j f ps sp) (he : PE X o ta) (c : ∀ i, Cls X.K (cls X.K i)) (hm : ∀ i, Meth X.K (cls X.K i) m f) (hr : Room k X.A) (ha : PA X (e :: es) t) (hj : j ≤ k := by decide) {pl : Sem Bool}
    (hst : starEach (e :: es) X.env = (false, eval e X.env) :: starEach es X.env := by rfl) (hpl : (backTo pos (starEach es X.env)).any (·.1) = false := by rfl)
    (ht : eval (.Call (.Attribute o m apos) (e :: es) [] pos) X.env = (do
      let ov ← eval o X.env
      standAt apos.atName
      let (f, first) ← holding [ov] (getMethod ov m pl)
      callWith pos f first (backTo pos (starEach (e :: es) X.env)) (backToKw pos (keywordEach [] X.env))) := by rfl) :
    PE X (.Call (.Attribute o m apos) (e :: es) [] pos) (tMethP (cls X.K) m (fun _ => sp) E0 ta t) := by
  obtain ⟨fd, G, b⟩ := O
  exact pe_methP (pl := pl) he c hm (fun _ => G) (hr.mono hj) (fun _ => b) pass0 ha hst hpl ht
theorem pe_mS0 (O : Ok X.prog X.w X.K X.mg X.base j f ps sp) (he : PE X o ta) (c : ∀ i, Cls X.K (cls X.K i)) (hm : ∀ i, Meth X.K (cls X.K i) m f) (hr : Room k X.A) (hj : j ≤ k := by decide) {pl : Sem Bool}
    (ht : eval (.Call (.Attribute o m apos) [] [] pos) X.env = (do
      let ov ← eval o X.env
      standAt apos.atName
      let (f, first) ← holding [ov] (getMethod ov m pl)
      callWith pos f first (backTo pos (starEach [] X.env)) (backToKw pos (keywordEach [] X.env))) := by rfl) :
    PE X (.Call (.Attribute o m apos) [] [] pos) (tMethP (cls X.K) m (fun _ => sp) E0 ta tNil) := by
  obtain ⟨fd, G, b⟩ := O
  exact pe_methP0 (pl := pl) he c hm (fun _ => G) (hr.mono hj) (fun _ => b) pass0 ht
end
theorem sc_crow : FnScope ["self", "row", "index", "value"] ["self", "row"] (defScope (inClass (top 51) 9)) := ⟨rfl, rfl, rfl, by decide +kernel, rfl, by decide +kernel, by decide +kernel⟩
def spChRow (K : PySem.W.Frag) : Sp := fun vs H Q _ => ∃ s x hd sch ra r, vs = [.ref s, .ref ra] ∧ H s = some (shO K hd x) ∧ x.op = true ∧ Hd K H hd sch ∧ SqT K H ra r ∧ RowOk sch r ∧ ∀ H', Same H H' → Q .non H'
theorem ok_crow (T : TX P K mg) : Ok P w K mg base 3 (ma K "Sheet" "check_row") ["self", "row"] (spChRow K) := by
  obtain ⟨fd, F⟩ := T.f_Sheet_check_row
  have O1 : Ok P w K mg base 1 (ma K "Sheet" "check_open") ["self"] (spOpen K) := ok_copen T
  have O2 : Ok P w K mg base 2 (ga K "is_value") ["kind", "value"] spIsVal := ok_isval T
  refine ⟨fd, F.ok sc_crow (fun vs H Q E h => by obtain ⟨f, hd, L, a, b, c, rfl, _⟩ := h; rfl) (fun cdv A outer s H vs Q E hr h => ?_), F.binds fun _ _ _ _ _ _ us hl => match us, hl with | [_, _], _ => rfl⟩
  obtain ⟨s, x, hd, sch, ra, r, rfl, h, ho, hh, hra, hrow, hQ⟩ := h
  obtain ⟨as, hA, hl, hc⟩ := id hh
  refine ⟨_, pss_cons (ps_expr (pe_mS0 O1 (pv 0) T.c_sheet T.m_check_open hr))
    (pss_cons (ps_if (PW.pt (pw_or (pt_not (pt_val (pe_callB call_isi (by rfl) T.b_isinstance boot_isinstance (pa_cons (pv 1) (pa_cons (pe_bltn (v := .ty "tuple") (by rfl) T.b_tuple boot_tuple rfl) pa_nil)))))
      (pw_or1 (pt_cmpR op_ne (pe_callB call_len (by rfl) T.b_len boot_len (pa_cons (pv 1) pa_nil)) (pe_callB call_len (by rfl) T.b_len boot_len (pa_cons (pe_fld (pv 0) rfl) pa_nil)) (nomark _))))) pss_never pss_nil)
    (pss_one (ps_for PassesOwn.never rfl (pi_enumT (by rfl) T.b_enumerate (pa_cons (pv 1) pa_nil)) (pg_tup rfl (pgs_cons (pg_name (i := 2) sc_crow.nd rfl (.inl rfl)) (pgs_cons (pg_name (i := 3) sc_crow.nd rfl (.inl rfl)) pgs_nil)))
      (pss_one (ps_if (pt_not (pt_val (pe_callO O2 T.f_is_value.kp hr (by rfl) T.g_is_value (pa_cons (pe_ix ix_tup (pe_ix ix_tup (pe_fld (pv 0) rfl) (pv 2) (fun _ _ => rfl)) pe_int (fun _ _ => rfl)) (pa_cons (pv 3) pa_nil))))) pss_never pss_nil))))), ?_⟩
  refine ⟨_, rfl, _, s, _, _, rfl, h, lm_check_open, s, x, hd, rfl, h, ho, ?_⟩
  refine ⟨_, rfl, _, _, _, _, _, rfl, .ty "tuple", tyx_tup hra, kit_tt, _, rfl, iteF ?_⟩
  refine ⟨_, rfl, _, _, rfl, .inr ⟨_, hra, rfl⟩, _, rfl, s, _, _, _, _, rfl, h, T.c_sheet _, T.na_heads _, rfl, _, _, rfl, .inr ⟨_, hA, rfl⟩, rfl, _, rfl, ?_⟩
  have e : (!decide (V.int (r.length : Nat) = V.int ((as.map V.ref).length : Nat))) = false := by
    rw [List.length_map, hl, hrow.1]; simp
  show (if (!decide (V.int (r.length : Nat) = V.int ((as.map V.ref).length : Nat))) = true then _ else _)
  rw [e]
  refine iteF ?_
  refine ⟨_, rfl, ra, _, rfl, hra, ?_⟩
  refine for_it (walk_enumT (xs := r)) (fun i σ H' => ∃ a b, σ = [some (.ref s), some (.ref ra), a, b] ∧ Same H H') ⟨_, _, rfl, Same.refl H⟩ (fun i σ H' _ p => ?_) (fun i y σ H1 H2 hi p hy => ?_) fun σ H1 p => ?_
  · obtain ⟨a, b, _, s1⟩ := p
    exact same_sqT s1 hra
  · obtain ⟨a, b, rfl, s1⟩ := p
    obtain ⟨Tp, x1, v, rfl, hT, rfl, h1, hv⟩ := hy
    cases h1
    have hi' : i < sch.length := by rw [← hrow.1]; exact hi
    obtain ⟨p, hp⟩ := lt_get hi'
    obtain ⟨c, hci⟩ := lt_get (l := as) (i := i) (by rw [hl]; exact hi')
    have hcc := hc i c p hci hp
    have s2 : Same H (upd H1 Tp (.tup [.int (i : Nat), v])) := s1.trans (same_upd hT)
    refine ⟨Tp, _, rfl, SqT.of upd_same, rfl, _, _, rfl, _, _, rfl, rfl, ?_⟩
    refine ⟨_, rfl, s, _, _, _, _, rfl, s2 _ _ h, T.c_sheet _, T.na_heads _, rfl, _, rfl, _, _, _, _, rfl, rfl, same_sqT s2 hA, atI_nat (j := i) (by rw [List.getElem?_map, hci]; rfl), ?_⟩
    refine ⟨_, _, _, _, rfl, rfl, same_sqT s2 hcc, atI_nat (j := 1) rfl, _, rfl, p.2, v, rfl, hrow.2 i p v hp hv, fun H3 s3 => ⟨_, rfl, iteF ?_⟩⟩
    exact ⟨_, _, rfl, s2.trans s3⟩
  · obtain ⟨a, b, rfl, s1⟩ := p
    exact hQ _ s1
theorem sc_place : FnScope ["self", "name", "place", "column", "kind"] ["self", "name"] (defScope (inClass (top 51) 10)) := ⟨rfl, rfl, rfl, by decide +kernel, rfl, by decide +kernel, by decide +kernel⟩
def spPlace (K : PySem.W.Frag) : Sp := fun vs H Q _ => ∃ s x hd sch j p, vs = [.ref s, .str p.1] ∧ H s = some (shO K hd x) ∧ Hd K H hd sch ∧ SchOk sch ∧ sch[j]? = some p ∧ ∀ H', Same H H' → Q (.int (j : Nat)) H'
theorem ok_place (T : TX P K mg) : Ok P w K mg base 1 (ma K "Sheet" "place_of") ["self", "name"] (spPlace K) := by
  obtain ⟨fd, F⟩ := T.f_Sheet_place_of
  refine ⟨fd, F.ok sc_place (fun vs H Q E h => by obtain ⟨f, hd, L, a, b, c, rfl, _⟩ := h; rfl) (fun cdv A outer s H vs Q E hr h => ?_), F.binds fun _ _ _ _ _ _ us hl => match us, hl with | [_, _], _ => rfl⟩
  obtain ⟨s, x, hd, sch, j, p, rfl, h, hh, hs, hj, hQ⟩ := h
  obtain ⟨as, hA, hl, hc⟩ := id hh
  refine ⟨_, pss_cons (ps_for PassesOwn.never rfl (pi_enumT (by rfl) T.b_enumerate (pa_cons (pe_fld (pv 0) rfl) pa_nil)) (pg_tup rfl (pgs_cons (pg_name (i := 2) sc_place.nd rfl (.inl rfl)) (pgs_cons (pg_tup rfl (pgs_cons (pg_name (i := 3) sc_place.nd rfl (.inl rfl)) (pgs_cons (pg_name (i := 4) sc_place.nd rfl (.inl rfl)) pgs_nil))) pgs_nil)))
      (pss_one (ps_if (pt_cmpR op_eq (pv 3) (pv 1) (nomark _)) (pss_one (ps_ret (pv 2))) pss_nil))) pss_never, ?_⟩
  refine ⟨_, rfl, s, _, _, _, _, rfl, h, T.c_sheet _, T.na_heads _, rfl, hd, _, rfl, hA, ?_⟩
  have hjl : j < sch.length := (List.getElem?_eq_some_iff.mp hj).1
  refine for_it (walk_enumT (xs := as.map V.ref)) (fun i σ H' => i ≤ j ∧ (∃ a b c, σ = [some (.ref s), some (.str p.1), a, b, c]) ∧ Same H H') ⟨Nat.zero_le _, ⟨_, _, _, rfl⟩, Same.refl H⟩ (fun i σ H' _ p => same_sqT p.2.2 hA) (fun i y σ H1 H2 hi q hy => ?_) fun σ H1 q => ?_
  · obtain ⟨hij, ⟨a, b, c0, rfl⟩, s1⟩ := q
    obtain ⟨Tp, x1, v, rfl, hT, rfl, h1, hv⟩ := hy
    cases h1
    obtain ⟨c, hci, rfl⟩ := get_map hv
    have hi' : i < sch.length := by rw [← hl]; simpa using hi
    obtain ⟨q, hq⟩ := lt_get hi'
    have hcc := hc i c q hci hq
    have s2 : Same H (upd H1 Tp (.tup [.int (i : Nat), .ref c])) := s1.trans (same_upd hT)
    refine ⟨Tp, _, rfl, SqT.of upd_same, rfl, _, _, rfl, _, _, rfl, ⟨c, _, rfl, same_sqT s2 hcc, rfl, _, _, rfl, _, _, rfl, rfl, ?_⟩⟩
    refine ⟨rfl, _, rfl, _, rfl, rfl, _, rfl, ?_⟩
    show (if decide (V.str q.1 = V.str p.1) = true then _ else _)
    by_cases e : q.1 = p.1
    · rw [decide_eq_true (by rw [e])]
      have : i = j := nd_ix hs.nd (show (sch.map (·.1))[i]? = some p.1 by rw [List.getElem?_map, hq]; exact congrArg some e) (show (sch.map (·.1))[j]? = some p.1 by rw [List.getElem?_map, hj]; rfl)
      subst this
      exact iteT ⟨_, rfl, hQ _ s2⟩
    · rw [decide_eq_false (fun z => e (V.str.inj z))]
      refine iteF ⟨?_, ⟨_, _, _, rfl⟩, s2⟩
      rcases Nat.lt_or_ge i j with z | z
      · exact z
      · have : i = j := by omega
        subst this
        rw [hq] at hj
        cases hj
        exact absurd rfl e
  · obtain ⟨hij, _⟩ := q
    rw [List.length_map, hl] at hij
    omega
end LF
set_option Elab.async false
set_option linter.all false
set_option maxRecDepth 100000
set_option maxHeartbeats 4000000
/-! own_block: the block, or a copy. -/
namespace LF
open PySem PySem.Spec PyProof.Rows L2
variable {P : Program} {w : World} {K : PySem.W.Frag} {mg : Str → Option Value} {base : Heap}
theorem stepS {X : Addr → Prop} {ρ : Addr → Ro} {H : Hp} {p s : Addr} {i : Nat} {o u : HO} (h : ρ p = .ofS s i) (e : H p = some u) (n : ¬ Fixed u) : Step X ρ H ρ (upd H p o) :=
  Step.upd1 (.inl ⟨by rw [h]; exact fun z => (by cases z), _, e, n⟩)
theorem stepB {X : Addr → Prop} {ρ : Addr → Ro} {H : Hp} {p s : Addr} {i : Nat} {o u : HO} (h : ρ p = .ofB s i) (e : H p = some u) (n : ¬ Fixed u) : Step X ρ H ρ (upd H p o) :=
  Step.upd1 (.inl ⟨by rw [h]; exact fun z => (by cases z), _, e, n⟩)
theorem setS_setS {a : AS} {s : Addr} {x y : Sh} : (a.setS s x).setS s y = a.setS s y := by
  unfold AS.setS
  congr 1
  funext t
  by_cases h : t = s
  · simp [h]
  · simp [h]
theorem ixN_nat {n k : Nat} (h : k < n) : ixN n (k : Nat) = some k := by
  unfold ixN
  rw [if_pos (by omega), if_pos (by omega)]
  simp
theorem ixN_last {n : Nat} (h : 0 < n) : ixN n (-1) = some (n - 1) := by
  unfold ixN
  rw [if_neg (by omega), if_pos (by omega)]
  congr 1
  omega
theorem atI_ix {α : Type} {xs : List α} {i : Int} {k : Nat} {v : α} (h : ixN xs.length i = some k) (e : xs[k]? = some v) : atI xs i = some v := by
  unfold atI
  rw [h]
  exact e
/-- whether the sheet is open, as a number -/
def opN (a : AS) (u : Addr) : Int := match a.sh u with
  | some x => if x.op then 1 else 0
  | none => 0
theorem opN_ge (a : AS) (u : Addr) : 0 ≤ opN a u := by
  unfold opN
  split
  · split <;> decide
  · decide
theorem opN_sum_ge (a : AS) : ∀ l : List Addr, 0 ≤ (l.map (opN a)).sum
  | [] => by simp
  | u :: l => by
    have h1 := opN_ge a u
    have h2 := opN_sum_ge a l
    simp only [List.map_cons, List.sum_cons]
    omega
theorem opN_sum_mem (a : AS) {u : Addr} : ∀ {l : List Addr}, u ∈ l → opN a u ≤ (l.map (opN a)).sum
  | v :: l, h => by
    have h1 := opN_ge a v
    have h2 := opN_sum_ge a l
    simp only [List.map_cons, List.sum_cons]
    rcases List.mem_cons.mp h with rfl | h
    · omega
    · have := opN_sum_mem a h
      omega
theorem opN_sum_two (a : AS) {u v : Addr} (n : u ≠ v) : ∀ {l : List Addr}, u ∈ l → v ∈ l → opN a u + opN a v ≤ (l.map (opN a)).sum
  | z :: l, hu, hv => by
    have h1 := opN_ge a z
    have h2 := opN_sum_ge a l
    simp only [List.map_cons, List.sum_cons]
    rcases List.mem_cons.mp hu with e1 | hu
    · rcases List.mem_cons.mp hv with e2 | hv
      · exact absurd (e1.trans e2.symm) n
      · have := opN_sum_mem a hv
        rw [e1]
        omega
    · rcases List.mem_cons.mp hv with e2 | hv
      · have := opN_sum_mem a hu
        rw [e2]
        omega
      · have := opN_sum_two a n hu hv
        omega
theorem sole_of_sum {a : AS} {s b : Addr} {x : Sh} {y : Bk} (ex : a.sh s = some x) (ho : x.op = true) (ey : a.bk b = some y) (hs : s ∈ y.ls) (h : ¬ 1 < (y.ls.map (opN a)).sum) : Sole a s b := by
  intro y' e u hu hne x' ex'
  rw [ey] at e
  cases e
  cases hop : x'.op with
  | false => rfl
  | true =>
    have h1 : opN a s = 1 := by unfold opN; rw [ex]; simp [ho]
    have h2 : opN a u = 1 := by unfold opN; rw [ex']; simp [hop]
    have := opN_sum_two a hne hu hs
    omega
abbrev Sh.like (x x' : Sh) : Prop := x'.kd = x.kd ∧ x'.bs = x.bs ∧ x'.tot = x.tot ∧ x'.ns = x.ns
theorem sc_own : FnScope ["self", "place", "number", "block", "sheet"] ["self", "place", "number"] (defScope (inClass (top 51) 11)) := ⟨rfl, rfl, rfl, by decide +kernel, rfl, by decide +kernel, by decide +kernel⟩
def spOwn (K : PySem.W.Frag) : Sp := fun vs H Q _ => ∃ (m : Nat) (hd : Addr) (ρ : Addr → Ro) (a : AS) (N : Nat) (TS : TSt) (s : Addr) (x : Sh) (D : Nat → List V) (n j k : Nat) (num : Int) (b : Addr), vs = [.ref s, .int (j : Nat), .int num] ∧
  RepK K m hd ρ H a ∧ Tok m N a TS ∧ TS s = some (D, n) ∧ a.sh s = some x ∧ j < m ∧ (x.bl j)[k]? = some b ∧ ixN (x.bl j).length num = some k ∧ 1 ≤ N ∧ N ≤ 1000 ∧
  ∀ ρ' a' H' b' x', Step none' ρ H ρ' H' → RepK K m hd ρ' H' a' → Tok m N a' TS → a'.sh s = some x' → x.like x' → (x'.bl j)[k]? = some b' → (∃ y', a'.bk b' = some y') → Sole a' s b' → Q (.ref b') H'
theorem ok_own (T : TX P K mg) : Ok P w K mg base 3 (ma K "Sheet" "own_block") ["self", "place", "number"] (spOwn K) := by
  obtain ⟨fd, F⟩ := T.f_Sheet_own_block
  obtain ⟨fdB, G, b3⟩ : Ok P w K mg base 1 (ma K "Block" "__init__") ["self", "cells", "sheet"] (spBInit K) := ok_binit T
  refine ⟨fd, F.ok sc_own (fun vs H Q E h => by obtain ⟨_, _, _, _, _, _, _, _, _, _, _, _, _, _, rfl, _⟩ := h; rfl) (fun cdv A outer s H vs Q E hr h => ?_), F.binds fun _ _ _ _ _ _ us hl => match us, hl with | [_, _, _], _ => rfl⟩
  obtain ⟨m, hd, ρ, a, N, TS, s, x, D, n, j, k, num, b, rfl, R, Tk, e, ex, hj, eb, hix, hN1, hN, hQ⟩ := h
  refine ⟨_, pss_cons (ps_set (i := 3) sc_own.nd rfl (.inl rfl) (pe_ix ix_list (pe_ix ix_list (pe_fld (pv 0) rfl) (pv 1) (fun _ _ => rfl)) (pv 2) (fun _ _ => rfl)))
    (pss_cons (ps_if (pt_cmpR op_gt (pe_callB (cr_sum rfl) (by rfl) T.b_sum boot_sum (pa_cons (pe_lc (own := [("sheet", 4)]) (g := gName 4) (tt := tYes) (by rfl) sc_own.nd (pi_list (pe_fld (pv 3) rfl))
        (blkOk_by (own := [("sheet", 4)]) (N := ["self", "place", "number", "block", "sheet"]) (sc := defScope (inClass (top 51) 11)) (by decide +kernel)) (fun _ _ _ _ _ => pg_name (i := 4) sc_own.nd rfl (Or.inl rfl)) (fun _ _ _ _ _ => pts_nil)
        (fun _ _ _ _ _ => pe_callTy (T := "int") (r := fun xs H Q => (∃ i, xs = [.int i] ∧ Q (.int i) H) ∨ ∃ k, xs = [.bl k] ∧ Q (.int (if k then 1 else 0)) H) call_int1 (by rfl) T.b_int boot_int (pa_cons (show PE _ _ (tFld K (tVar 4) "opened") from pe_fld (pv 4) rfl) pa_nil))) pa_nil)) pe_int (nomark _))
      (pss_cons (ps_expr (pe_bm PySem.F.plainAttrs_list PySem.F.slot_list_remove PySem.F.type_list_remove (mt_removeO T.eqo T.mro (hu_of hr)) (pe_fld (pv 3) rfl) (pa_cons (pv 0) pa_nil)))
      (pss_cons (ps_set (i := 3) sc_own.nd rfl (.inl rfl) (pe_make T.mk_Block G (hr.mono (by decide)) (by rfl) T.g_Block b3 .nil pass0 (pa_cons (pe_callTy call_list_of (by rfl) T.b_list boot_list (pa_cons (pe_fld (pv 3) rfl) pa_nil)) (pa_cons (pv 0) pa_nil))))
      (pss_cons (ps_asg (pv 3) (pg_sub (pe_ix ix_list (pe_fld (pv 0) rfl) (pv 1) (fun _ _ => rfl)) (pv 2) set_list)) (pss_one (ps_fldaug (pv 0) pe_int in_add))))) pss_nil)
    (pss_one (ps_ret (pv 3)))), ?_⟩
  obtain ⟨x1, g1, g2, S⟩ := Tk s D n e
  rw [ex] at g1
  cases g1
  obtain ⟨y, ey, hvs, hsl, hll, hreg⟩ := S.ce j k b hj eb
  have RS := R.sh s x ex
  have RB := R.bk b y ey
  obtain ⟨c, hc⟩ := lt_get (l := x.cs) (i := j) (by rw [RS.len]; exact hj)
  obtain ⟨hcol, hcr⟩ := RS.col j c hc
  have hkl : k < (x.bl j).length := (List.getElem?_eq_some_iff.mp eb).1
  have hjl : j < x.cs.length := by rw [RS.len]; exact hj
  have hs0 : sizeLine = 16777216 := sizeLine_eq
  -- block = self.parts[place][number]
  refine ⟨_, rfl, s, _, _, _, _, rfl, RS.at_, T.c_sheet _, T.na_parts _, rfl, _, rfl, x.pa, _, _, _, rfl, rfl, SqL.of RS.pa, atI_nat (j := j) (by rw [List.getElem?_map, hc]; rfl), ?_⟩
  refine ⟨_, rfl, c, _, _, _, rfl, rfl, SqL.of hcol, atI_ix (k := k) (by rw [List.length_map]; exact hix) (by rw [List.getElem?_map, eb]; rfl), ?_⟩
  -- the sum
  refine ⟨_, rfl, b, _, _, _, _, rfl, RB.at_, T.c_Block, T.na_Block_sheets, rfl, y.sl, rfl, ⟨_, SqL.of RB.sl⟩, fun Dl hDl => ?_⟩
  have sD : ∀ o, Same H (upd H Dl o) := fun o => same_upd hDl
  have lsu : ∀ u ∈ y.ls, ∃ xu, a.sh u = some xu ∧ H u = some (shO K hd xu) := fun u hu => by
    obtain ⟨xu, hxu⟩ := Option.isSome_iff_exists.mp (hreg u hu)
    exact ⟨xu, hxu, (R.sh u xu hxu).at_⟩
  refine lc_it (walk_list (xs := y.ls.map V.ref)) (fun i H' => H' = upd H Dl (.lst (((y.ls.take i).map (opN a)).map V.int))) (by simp) (fun i H' _ hp => by subst hp; exact SqL.of (sD _ _ _ RB.sl)) (fun i z H' H'' hi hp hy => ?_) fun H' hp => ?_
  · obtain ⟨rfl, hx⟩ := hy
    subst hp
    obtain ⟨u, hui, rfl⟩ := get_map hx
    obtain ⟨xu, hxu, hHu⟩ := lsu u (List.mem_of_getElem? hui)
    have hi' : i < y.ls.length := (List.getElem?_eq_some_iff.mp hui).1
    refine ⟨rfl, ?_⟩
    refine yes ?_
    refine ⟨_, rfl, u, _, _, _, _, rfl, sD _ _ _ hHu, T.c_sheet _, T.na_opened _, lk_open, .inr ⟨_, rfl, ?_⟩⟩
    refine ⟨_, upd_same, by simp; omega, ?_⟩
    rw [upd_upd]
    congr 2
    rw [List.take_succ_eq_append_getElem hi', List.map_append, List.map_append]
    have : y.ls[i] = u := (List.getElem?_eq_some_iff.mp hui).2
    rw [this]
    show _ = _ ++ [V.int (opN a u)]
    unfold opN
    rw [hxu]
  subst hp
  rw [show (y.ls.map V.ref).length = y.ls.length from List.length_map .., List.take_length]
  have sD' : Same H (upd H Dl (.lst ((y.ls.map (opN a)).map V.int))) := sD _
  generalize hH1 : upd H Dl (.lst ((y.ls.map (opN a)).map V.int)) = H1 at sD' ⊢
  have hDl1 : H1 Dl = some (.lst ((y.ls.map (opN a)).map V.int)) := by rw [← hH1]; exact upd_same
  refine ⟨Dl, _, rfl, SqL.of hDl1, _, _, rfl, rfl, _, rfl, ?_⟩
  show (if decide ((1 : Int) < (y.ls.map (opN a)).sum) = true then _ else _)
  have R1 := R.same sD'
  by_cases hsum : (1 : Int) < (y.ls.map (opN a)).sum
  · rw [decide_eq_true hsum]
    refine iteT ?_
    have RS1 := R1.sh s x ex
    have RB1 := R1.bk b y ey
    have hinS : ∀ u ∈ y.ls, InsP (cls K) H1 u := fun u hu => by
      obtain ⟨xu, _, h⟩ := lsu u hu
      exact ⟨_, _, _, sD' _ _ h⟩
    -- remove
    refine ⟨_, rfl, b, _, _, _, _, rfl, RB1.at_, T.c_Block, T.na_Block_sheets, rfl, .inl ⟨rfl, _, SqL.of RB1.sl⟩, _, rfl, y.sl, y.ls, s, rfl, rfl, RB1.sl, hsl, hinS s hsl, hinS, ?_⟩
    have R2 := R1.sheets ey (y.ls.erase s)
    have st2 : Step none' ρ H ρ (upd H1 y.sl (.lst ((y.ls.erase s).map V.ref))) := (Step.same sD').trans (stepB RB1.r2 RB1.sl fun z => z)
    generalize hH2 : upd H1 y.sl (.lst ((y.ls.erase s).map V.ref)) = H2 at R2 st2 ⊢
    have RB2 := R2.bk b _ setB_same
    -- Block(list(block.cells), self)
    refine ⟨_, rfl, b, _, _, _, _, rfl, RB2.at_, T.c_Block, T.na_Block_cells, rfl, _, _, rfl, .inl (SqL.of RB2.cl), fun l hl => ⟨_, rfl, fun nb dx nx nd hne => ?_⟩⟩
    refine ⟨nb, dx, l, s, rfl, upd_same, fun H4 sl sx nsl esl enb => ⟨rfl, ?_⟩⟩
    have s24 : Same H2 H4 := (same_upd hl).trans (sx.made nx nd)
    have nslL : upd H2 l (.lst y.vs) sl = none := (same_made nx nd).free nsl
    have fnb : H2 nb = none := (same_upd hl).free nx
    have fsl : H2 sl = none := (same_upd hl).free nslL
    have el4 : H4 l = some (.lst y.vs) := sx.made nx nd _ _ upd_same
    have lsl : l ≠ sl := ne_of_none (show upd H2 l (.lst y.vs) l = some _ from upd_same) nslL
    have R4 := (R2.same s24).addB (b := nb) (y := ⟨dx, l, sl, y.vs, [s]⟩) (R2.fr nb fnb) (R2.fr l hl) (R2.fr sl fsl) enb el4 esl lsl
    have st4 : Step none' ρ H _ H4 := Step.role (ρ'' := fun q => if q = nb then Ro.ofB nb 0 else if q = l then .ofB nb 1 else if q = sl then .ofB nb 2 else ρ q) (st2.trans (Step.same s24)) fun q hq => by
      have h3 : ∀ p, H2 p = none → q ≠ p := fun p hp z => hq (by rw [z]; exact st2.free hp)
      show (if q = nb then Ro.ofB nb 0 else if q = l then .ofB nb 1 else if q = sl then .ofB nb 2 else ρ q) = ρ q
      rw [if_neg (h3 nb fnb), if_neg (h3 l hl), if_neg (h3 sl fsl)]
    have anb : a.bk nb = none := R.no_bk (R.fr nb (st2.free fnb))
    generalize (fun q => if q = nb then Ro.ofB nb 0 else if q = l then .ofB nb 1 else if q = sl then .ofB nb 2 else ρ q) = ρ4 at R4 st4
    have ex4 : ((a.setB b { y with ls := y.ls.erase s }).setB nb ⟨dx, l, sl, y.vs, [s]⟩).sh s = some x := ex
    have RS4 := R4.sh s x ex4
    obtain ⟨hcol4, hcr4⟩ := RS4.col j c hc
    -- self.parts[place][number] = block
    refine ⟨_, rfl, _, rfl, s, _, _, _, _, rfl, RS4.at_, T.c_sheet _, T.na_parts _, rfl, _, rfl, x.pa, _, _, _, rfl, rfl, SqL.of RS4.pa, atI_nat (j := j) (by rw [List.getElem?_map, hc]; rfl), ?_⟩
    refine ⟨_, rfl, c, _, _, k, rfl, rfl, hcol4, by rw [List.length_map]; exact hix, ?_⟩
    have R5 := R4.column ex4 hc ((x.bl j).set k nb)
    have st5 := st4.trans (stepS (X := none') (o := .lst (((x.bl j).set k nb).map V.ref)) hcr4 hcol4 fun z => z)
    rw [show ((x.bl j).map V.ref).set k (.ref nb) = ((x.bl j).set k nb).map V.ref by rw [List.map_set]]
    generalize upd H4 c (.lst (((x.bl j).set k nb).map V.ref)) = H5 at R5 st5 ⊢
    have RS5 := R5.sh s _ setS_same
    -- self.made += 1
    refine ⟨_, rfl, s, _, _, _, _, rfl, RS5.at_, T.c_sheet _, T.na_made _, rfl, _, _, rfl, rfl, _, _, RS5.at_, fs_few, ?_⟩
    have R6 := R5.fields setS_same x.tot (x.made + 1) x.op
    have st6 := st5.trans (stepS (X := none') (o := .ins (cls K x.kd) x.dx (sheetFs x.kd hd x.bs x.tot (x.made + 1) x.op x.pa x.na)) RS5.r0 RS5.at_ fun z => z)
    rw [setS_setS] at R6
    refine ⟨_, rfl, ?_⟩
    have Tk6 := Tk.own (dx := dx) (cl := l) (sl := sl) e ex hj eb ey anb hN1
    refine hQ ρ4 _ _ nb _ st6 R6 Tk6 setS_same ⟨rfl, rfl, rfl, rfl⟩ ?_ ⟨_, setB_same⟩ ?_
    · show ((if j = j then (x.bl j).set k nb else x.bl j) : List Addr)[k]? = some nb
      rw [if_pos rfl, List.getElem?_set_self hkl]
    · intro y' e' u hu hne'
      have e2 : (some (⟨dx, l, sl, y.vs, [s]⟩ : Bk)) = some y' := (show _ = some _ from setB_same (a := a.setB b { y with ls := y.ls.erase s }) (s := nb) (x := ⟨dx, l, sl, y.vs, [s]⟩)).symm.trans e'
      cases e2
      exact absurd (List.mem_singleton.mp hu) hne'
  · rw [decide_eq_false hsum]
    refine iteF ⟨_, rfl, ?_⟩
    exact hQ ρ a H1 b x (Step.same sD') R1 Tk ex ⟨rfl, rfl, rfl, rfl⟩ eb ⟨y, ey⟩ (sole_of_sum ex S.op ey hsl hsum)
end LF
set_option Elab.async false
set_option linter.all false
set_option maxRecDepth 100000
set_option maxHeartbeats 4000000
/-! put and add_row of a sheet. -/
namespace LF
open PySem PySem.Spec PyProof.Rows L2
variable {P : Program} {w : World} {K : PySem.W.Frag} {mg : Str → Option Value} {base : Heap}
theorem updT_updT {TS : TSt} {s : Addr} {u v : Option ((Nat → List V) × Nat)} : updT (updT TS s u) s v = updT TS s v := by
  funext t
  by_cases h : t = s <;> simp [updT, h]
theorem updT_self {TS : TSt} {s : Addr} {v : Option ((Nat → List V) × Nat)} (h : TS s = v) : updT TS s v = TS := by
  funext t
  by_cases e : t = s
  · subst e; rw [updT_same, h]
  · rw [updT_ne e]
/-- the j-th column with its i-th value v -/
def putD (D : Nat → List V) (j i : Nat) (v : V) : Nat → List V := fun j' => if j' = j then (D j).set i v else D j'
theorem sc_put : FnScope ["self", "index", "name", "value", "place", "block"] ["self", "index", "name", "value"] (defScope (inClass (top 51) 12)) := ⟨rfl, rfl, rfl, by decide +kernel, rfl, by decide +kernel, by decide +kernel⟩
def spPut (K : PySem.W.Frag) : Sp := fun vs H Q _ => ∃ (hd : Addr) (sch : Sch) (ρ : Addr → Ro) (a : AS) (N : Nat) (TS : TSt) (s : Addr) (x : Sh) (D : Nat → List V) (n j i : Nat) (p : Str × Str) (v : V), vs = [.ref s, .int (i : Nat), .str p.1, v] ∧
  RepK K sch.length hd ρ H a ∧ Tok sch.length N a TS ∧ TS s = some (D, n) ∧ a.sh s = some x ∧ Hd K H hd sch ∧ SchOk sch ∧ sch[j]? = some p ∧ i < n ∧ (D j).length = n ∧ KindV p.2 v ∧ 1 ≤ N ∧ N ≤ 900 ∧
  ∀ ρ' a' H' x', Step none' ρ H ρ' H' → RepK K sch.length hd ρ' H' a' → Tok sch.length N a' (updT TS s (some (putD D j i v, n))) → a'.sh s = some x' → x.like x' → Q .non H'
theorem ok_put (T : TX P K mg) : Ok P w K mg base 4 (ma K "Sheet" "put") ["self", "index", "name", "value"] (spPut K) := by
  obtain ⟨fd, F⟩ := T.f_Sheet_put
  have O1 : Ok P w K mg base 1 (ma K "Sheet" "check_open") ["self"] (spOpen K) := ok_copen T
  have O2 : Ok P w K mg base 2 (ga K "is_value") ["kind", "value"] spIsVal := ok_isval T
  have O3 : Ok P w K mg base 1 (ga K "is_integer") ["value"] spIsInt := ok_isint T
  have O4 : Ok P w K mg base 1 (ma K "Sheet" "place_of") ["self", "name"] (spPlace K) := ok_place T
  have O5 : Ok P w K mg base 3 (ma K "Sheet" "own_block") ["self", "place", "number"] (spOwn K) := ok_own T
  refine ⟨fd, F.ok sc_put (fun vs H Q E h => by obtain ⟨_, _, _, _, _, _, _, _, _, _, _, _, _, _, rfl, _⟩ := h; rfl) (fun cdv A outer s H vs Q E hr h => ?_), F.binds fun _ _ _ _ _ _ us hl => match us, hl with | [_, _, _, _], _ => rfl⟩
  obtain ⟨hd, sch, ρ, a, N, TS, s, x, D, n, j, i, p, v, rfl, R, Tk, e, ex, hh, hs, hj, hi, hlen, hv, hN1, hN, hQ⟩ := h
  refine ⟨_, pss_cons (ps_expr (pe_mS0 O1 (pv 0) T.c_sheet T.m_check_open hr))
    (pss_cons (ps_if (PW.pt (pw_or (pt_not (pt_val (pe_callO O3 T.f_is_integer.kp hr (by rfl) T.g_is_integer (pa_cons (pv 1) pa_nil)))) (pw_or1 (pt_not (pt_chain op_le op_lt pe_int (pv 1) (pe_fld (pv 0) rfl)))))) pss_never pss_nil)
    (pss_cons (ps_set (i := 4) sc_put.nd rfl (.inl rfl) (pe_mS O4 (pv 0) T.c_sheet T.m_place_of hr (pa_cons (pv 2) pa_nil)))
    (pss_cons (ps_if (pt_not (pt_val (pe_callO O2 T.f_is_value.kp hr (by rfl) T.g_is_value (pa_cons (pe_ix ix_tup (pe_ix ix_tup (pe_fld (pv 0) rfl) (pv 4) (fun _ _ => rfl)) pe_int (fun _ _ => rfl)) (pa_cons (pv 3) pa_nil))))) pss_never pss_nil)
    (pss_cons (ps_set (i := 5) sc_put.nd rfl (.inl rfl) (pe_mS O5 (pv 0) T.c_sheet T.m_own_block hr (pa_cons (pv 4) (pa_cons (pe_op op_fdiv (pv 1) (pe_fld (pv 0) rfl)) pa_nil))))
    (pss_one (ps_asg (pv 3) (pg_sub (pe_fld (pv 5) rfl) (pe_op op_mod (pv 1) (pe_fld (pv 0) rfl)) set_list))))))), ?_⟩
  obtain ⟨x1, g1, g2, S⟩ := Tk s D n e
  rw [ex] at g1
  cases g1
  have hjm : j < sch.length := (List.getElem?_eq_some_iff.mp hj).1
  have RS := R.sh s x ex
  obtain ⟨as, hA, hl, hc⟩ := id hh
  obtain ⟨c, hci⟩ := lt_get (l := as) (i := j) (by rw [hl]; exact hjm)
  have b1 := S.b1
  have b2 := S.b2
  refine ⟨_, rfl, _, s, _, _, rfl, RS.at_, lm_check_open, s, x, hd, rfl, RS.at_, S.op, ?_⟩
  refine ⟨_, rfl, _, rfl, _, rfl, iteF ?_⟩
  refine ⟨_, rfl, _, _, rfl, rfl, _, rfl, ?_⟩
  rw [decide_eq_true (show (0 : Int) ≤ (i : Nat) by omega)]
  refine iteT ⟨_, rfl, s, _, _, _, _, rfl, RS.at_, T.c_sheet _, T.na_total _, rfl, _, _, rfl, rfl, _, rfl, ?_⟩
  rw [decide_eq_true (show ((i : Nat) : Int) < (x.tot : Nat) by omega)]
  refine iteF ?_
  -- place
  refine ⟨_, rfl, _, s, _, _, rfl, RS.at_, lm_place_of, _, rfl, s, x, hd, sch, j, p, rfl, RS.at_, hh, hs, hj, fun H1 s1 => ?_⟩
  have R1 := R.same s1
  have RS1 := R1.sh s x ex
  -- the value
  refine ⟨_, rfl, s, _, _, _, _, rfl, RS1.at_, T.c_sheet _, T.na_heads _, rfl, _, rfl, _, _, _, _, rfl, rfl, same_sqT s1 hA, atI_nat (j := j) (by rw [List.getElem?_map, hci]; rfl), ?_⟩
  refine ⟨_, _, _, _, rfl, rfl, same_sqT s1 (hc j c p hci hj), atI_nat (j := 1) rfl, _, rfl, p.2, v, rfl, hv, fun H2 s2 => ⟨_, rfl, iteF ?_⟩⟩
  have R2 := R1.same s2
  have RS2 := R2.sh s x ex
  have s12 : Same H H2 := s1.trans s2
  -- the block
  have e1 : ((i : Nat) : Int) / ((x.bs : Nat) : Int) = ((i / x.bs : Nat) : Int) := (Int.natCast_ediv i x.bs).symm
  have e2 : ((i : Nat) : Int) % ((x.bs : Nat) : Int) = ((i % x.bs : Nat) : Int) := (Int.natCast_emod i x.bs).symm
  have hdm : x.bs * (i / x.bs) + i % x.bs = i := Nat.div_add_mod i x.bs
  have hkn : i / x.bs < nbl (D j).length x.bs := by
    rw [nbl_lt b1, hlen, Nat.mul_comm]
    omega
  obtain ⟨b, hb⟩ := lt_get (l := x.bl j) (i := i / x.bs) (by rw [S.bl j hjm]; exact hkn)
  refine ⟨_, rfl, _, s, _, _, rfl, RS2.at_, lm_own_block, _, rfl, _, rfl, _, rfl, s, _, _, _, _, rfl, RS2.at_, T.c_sheet _, T.na_block_size _, rfl, _, _, rfl, rfl, ⟨by omega, by omega⟩, ?_⟩
  refine ⟨sch.length, hd, ρ, a, N, TS, s, x, D, n, j, i / x.bs, _, b, rfl, R2, Tk, e, ex, hjm, hb, by rw [e1]; exact ixN_nat (by rw [S.bl j hjm]; exact hkn), hN1, by omega, fun ρ3 a3 H3 b3 x3 st3 R3 Tk3 ex3 lk3 hb3 ⟨y3, ey3⟩ so3 => ?_⟩
  have RS3 := R3.sh s x3 ex3
  have RB3 := R3.bk b3 y3 ey3
  obtain ⟨x4, g4, _, S3⟩ := Tk3 s D n e
  rw [ex3] at g4
  cases g4
  obtain ⟨y4, ey4, hvs, _⟩ := S3.ce j _ b3 hjm hb3
  rw [ey3] at ey4
  cases ey4
  rw [lk3.2.1] at hvs
  -- the cell
  refine ⟨_, rfl, _, rfl, b3, _, _, _, _, rfl, RB3.at_, T.c_Block, T.na_Block_cells, rfl, _, rfl, _, rfl, s, _, _, _, _, rfl, RS3.at_, T.c_sheet _, T.na_block_size _, rfl, _, _, rfl, rfl, ?_, ?_⟩
  · show (0 : Int) < (x3.bs : Nat)
    rw [lk3.2.1]
    omega
  show rSetL _ _ _ _ _
  rw [lk3.2.1]
  have hcl : i % x.bs < y3.vs.length := by
    rw [hvs]
    unfold chunk
    have hm : i % x.bs < x.bs := Nat.mod_lt _ (by omega)
    rw [List.length_take, List.length_drop, hlen, Nat.mul_comm]
    omega
  refine ⟨_, _, _, _, rfl, rfl, RB3.cl, by rw [e2]; exact ixN_nat hcl, ?_⟩
  have R5 := R3.cells ey3 (y3.vs.set (i % x.bs) v)
  have st5 : Step none' ρ H ρ3 (upd H3 y3.cl (.lst (y3.vs.set (i % x.bs) v))) := ((Step.same s12).trans st3).trans (stepB RB3.r1 RB3.cl fun z => z)
  refine hQ ρ3 _ _ x3 st5 R5 ?_ ex3 lk3
  refine Tk3.cells e ex3 hjm hb3 ey3 so3 (Nat.le_refl _) (fun i' hi' => ?_) (fun i' hi' => ?_) ?_ fun i' l hi' hne hl' => ?_
  · unfold putD
    split
    · rw [List.length_set]; exact S3.dl j hjm
    · exact S3.dl i' hi'
  · unfold putD
    split
    · rename_i z; rw [List.length_set, z]
    · rfl
  · show chunk (putD D j i v j) x3.bs (i / x.bs) = _
    unfold putD
    rw [if_pos rfl, lk3.2.1, chunk_set b1, if_pos rfl, hvs]
  · show chunk (putD D j i v i') x3.bs l = _
    unfold putD
    split
    · rename_i z
      subst z
      rw [lk3.2.1, chunk_set b1, if_neg (fun z => hne ⟨rfl, z⟩)]
    · rfl

/-! ### add_row -/
/-- columns with one row more, the first i of them -/
def addD (D : Nat → List V) (r : List V) (i : Nat) : Nat → List V := fun j => if j < i then D j ++ [r.getD j .non] else D j
theorem addD_zero {D : Nat → List V} {r : List V} : addD D r 0 = D := by
  funext j
  exact if_neg (Nat.not_lt_zero _)
theorem addD_succ {D : Nat → List V} {r : List V} {i : Nat} {v : V} (h : r[i]? = some v) : (fun j => if j = i then addD D r i i ++ [v] else addD D r i j) = addD D r (i + 1) := by
  funext j
  unfold addD
  by_cases e : j = i
  · subst e
    rw [if_pos rfl, if_neg (Nat.lt_irrefl _), if_pos (Nat.lt_succ_self _), List.getD_eq_getElem?_getD, h]
    rfl
  · rw [if_neg e]
    by_cases h2 : j < i
    · rw [if_pos h2, if_pos (by omega)]
    · rw [if_neg h2, if_neg (by omega)]
theorem sc_add : FnScope ["self", "row", "place", "value", "block"] ["self", "row"] (defScope (inClass (top 51) 13)) := ⟨rfl, rfl, rfl, by decide +kernel, rfl, by decide +kernel, by decide +kernel⟩
def spAdd (K : PySem.W.Frag) : Sp := fun vs H Q _ => ∃ (hd : Addr) (sch : Sch) (ρ : Addr → Ro) (a : AS) (N : Nat) (TS : TSt) (s ra : Addr) (x : Sh) (D : Nat → List V) (n : Nat) (r : List V), vs = [.ref s, .ref ra] ∧
  RepK K sch.length hd ρ H a ∧ Tok sch.length N a TS ∧ TS s = some (D, n) ∧ a.sh s = some x ∧ Hd K H hd sch ∧ SqT K H ra r ∧ RowOk sch r ∧ (∀ j, j < sch.length → (D j).length = n) ∧ 1 ≤ N ∧ N ≤ 900 ∧
  ∀ ρ' a' H' x', Step none' ρ H ρ' H' → RepK K sch.length hd ρ' H' a' → Tok sch.length (N + 1) a' (updT TS s (some (addD D r sch.length, n + 1))) → a'.sh s = some x' → (x'.kd = x.kd ∧ x'.ns = x.ns) → Q (.int (n : Nat)) H'
theorem ok_add (T : TX P K mg) : Ok P w K mg base 4 (ma K "Sheet" "add_row") ["self", "row"] (spAdd K) := by
  obtain ⟨fd, F⟩ := T.f_Sheet_add_row
  have O1 : Ok P w K mg base 3 (ma K "Sheet" "check_row") ["self", "row"] (spChRow K) := ok_crow T
  have O5 : Ok P w K mg base 3 (ma K "Sheet" "own_block") ["self", "place", "number"] (spOwn K) := ok_own T
  obtain ⟨fdB, G, b3⟩ : Ok P w K mg base 1 (ma K "Block" "__init__") ["self", "cells", "sheet"] (spBInit K) := ok_binit T
  refine ⟨fd, F.ok sc_add (fun vs H Q E h => by obtain ⟨_, _, _, _, _, _, _, _, _, _, _, _, rfl, _⟩ := h; rfl) (fun cdv A outer s H vs Q E hr h => ?_), F.binds fun _ _ _ _ _ _ us hl => match us, hl with | [_, _], _ => rfl⟩
  obtain ⟨hd, sch, ρ, a, N, TS, s, ra, x, D, n, r, rfl, R, Tk, e, ex, hh, hra, hrow, hlen, hN1, hN, hQ⟩ := h
  refine ⟨_, pss_cons (ps_expr (pe_mS O1 (pv 0) T.c_sheet T.m_check_row hr (pa_cons (pv 1) pa_nil)))
    (pss_cons (ps_for PassesOwn.never rfl (pi_enumT (by rfl) T.b_enumerate (pa_cons (pv 1) pa_nil)) (pg_tup rfl (pgs_cons (pg_name (i := 2) sc_add.nd rfl (.inl rfl)) (pgs_cons (pg_name (i := 3) sc_add.nd rfl (.inl rfl)) pgs_nil)))
      (pss_one (ps_if (pt_cmpR op_eq (pe_op op_mod (pe_fld (pv 0) rfl) (pe_fld (pv 0) rfl)) pe_int (nomark _))
        (pss_one (ps_expr (pe_bm PySem.F.plainAttrs_list PySem.F.slot_list_append PySem.F.type_list_append mt_append (pe_ix ix_list (pe_fld (pv 0) rfl) (pv 2) (fun _ _ => rfl))
          (pa_cons (pe_make T.mk_Block G (hr.mono (by decide)) (by rfl) T.g_Block b3 .nil pass0 (pa_cons (pe_lst (pa_cons (pv 3) pa_nil)) (pa_cons (pv 0) pa_nil))) pa_nil))))
        (pss_cons (ps_set (i := 4) sc_add.nd rfl (.inl rfl) (pe_mS O5 (pv 0) T.c_sheet T.m_own_block hr (pa_cons (pv 2) (pa_cons (pe_un un_neg pe_int) pa_nil))))
          (pss_one (ps_expr (pe_bm PySem.F.plainAttrs_list PySem.F.slot_list_append PySem.F.type_list_append mt_append (pe_fld (pv 4) rfl) (pa_cons (pv 3) pa_nil))))))))
    (pss_cons (ps_fldaug (pv 0) pe_int in_add) (pss_one (ps_ret (pe_op op_sub (pe_fld (pv 0) rfl) pe_int))))), ?_⟩
  obtain ⟨x1, g1, g2, S⟩ := Tk s D n e
  rw [ex] at g1
  cases g1
  have RS := R.sh s x ex
  have hs0 : sizeLine = 16777216 := sizeLine_eq
  refine ⟨_, rfl, _, s, _, _, rfl, RS.at_, lm_check_row, _, rfl, s, x, hd, sch, ra, r, rfl, RS.at_, S.op, hh, hra, hrow, fun H1 s1 => ?_⟩
  have R1 := R.same s1
  refine ⟨_, rfl, ra, _, rfl, same_sqT s1 hra, ?_⟩
  refine for_it (walk_enumT (xs := r)) (fun i σ H' => (∃ c d e, σ = [some (.ref s), some (.ref ra), c, d, e]) ∧ ∃ ρ' a' x', Step none' ρ H ρ' H' ∧ RepK K sch.length hd ρ' H' a' ∧ Tok sch.length (N + 1) a' (updT TS s (some (addD D r i, n))) ∧ a'.sh s = some x' ∧ x.like x')
    ⟨⟨_, _, _, rfl⟩, ρ, a, x, Step.same s1, R1, by rw [addD_zero, updT_self e]; exact Tk.mono (Nat.le_succ _), ex, rfl, rfl, rfl, rfl⟩ (fun i σ H' _ p => ?_) (fun i z σ H2 H3 hi p hy => ?_) fun σ H2 p => ?_
  · obtain ⟨_, ρ', a', x', st, _⟩ := p
    exact st.sqT hra
  · obtain ⟨⟨c0, d0, e0, rfl⟩, ρ2, a2, x2, st2, R2, Tk2, ex2, lk2⟩ := p
    obtain ⟨Tp, z1, v, rfl, hT, rfl, h1, hv⟩ := hy
    cases h1
    have him : i < sch.length := by rw [← hrow.1]; exact hi
    refine ⟨Tp, _, rfl, SqT.of upd_same, rfl, _, _, rfl, _, _, rfl, rfl, ?_⟩
    have sT : Same H2 (upd H2 Tp (.tup [.int (i : Nat), v])) := same_upd hT
    generalize upd H2 Tp (.tup [.int (i : Nat), v]) = H3 at sT ⊢
    have st3 := st2.trans (Step.same (X := none') (ρ := ρ2) sT)
    have R3 := R2.same sT
    have RS3 := R3.sh s x2 ex2
    obtain ⟨x4, g4, g5, S2⟩ := Tk2 s _ n updT_same
    rw [ex2] at g4
    cases g4
    have b1 := S2.b1
    have b2 := S2.b2
    have hDi : addD D r i i = D i := if_neg (Nat.lt_irrefl _)
    have hDl : (addD D r i i).length = n := by rw [hDi]; exact hlen i him
    have em : ((x2.tot : Nat) : Int) % ((x2.bs : Nat) : Int) = ((n % x2.bs : Nat) : Int) := by rw [g5]; exact (Int.natCast_emod n x2.bs).symm
    obtain ⟨c, hc⟩ := lt_get (l := x2.cs) (i := i) (by rw [RS3.len]; exact him)
    refine ⟨_, rfl, s, _, _, _, _, rfl, RS3.at_, T.c_sheet _, T.na_total _, rfl, _, rfl, s, _, _, _, _, rfl, RS3.at_, T.c_sheet _, T.na_block_size _, rfl, _, _, rfl, rfl, (by show (0 : Int) < (x2.bs : Nat); omega), rfl, _, rfl, ?_⟩
    show (if decide (V.int (((x2.tot : Nat) : Int) % ((x2.bs : Nat) : Int)) = V.int 0) = true then _ else _)
    rw [em]
    by_cases hmod : n % x2.bs = 0
    · rw [decide_eq_true (by rw [hmod]; rfl)]
      refine iteT ?_
      obtain ⟨hcol3, hcr3⟩ := RS3.col i c hc
      refine ⟨_, rfl, s, _, _, _, _, rfl, RS3.at_, T.c_sheet _, T.na_parts _, rfl, _, rfl, _, _, _, .ref c, rfl, rfl, SqL.of RS3.pa, atI_nat (j := i) (by rw [List.getElem?_map, hc]; rfl), .inl ⟨rfl, _, SqL.of hcol3⟩, ?_⟩
      refine ⟨_, rfl, by show (1 : Nat) ≤ sizeLine; decide, fun l hl => ⟨_, rfl, fun nb dx nx nd hne => ?_⟩⟩
      refine ⟨nb, dx, l, s, rfl, upd_same, fun H4 sl sx nsl esl enb => ⟨rfl, ?_⟩⟩
      have s34 : Same H3 H4 := (same_upd hl).trans (sx.made nx nd)
      have nslL : upd H3 l (.lst [v]) sl = none := (same_made nx nd).free nsl
      have fnb : H3 nb = none := (same_upd hl).free nx
      have fsl : H3 sl = none := (same_upd hl).free nslL
      have el4 : H4 l = some (.lst [v]) := sx.made nx nd _ _ upd_same
      have lsl : l ≠ sl := ne_of_none (show upd H3 l (.lst [v]) l = some _ from upd_same) nslL
      have R4 := (R3.same s34).addB (b := nb) (y := ⟨dx, l, sl, [v], [s]⟩) (R3.fr nb fnb) (R3.fr l hl) (R3.fr sl fsl) enb el4 esl lsl
      have st4 : Step none' ρ H _ H4 := Step.role (ρ'' := fun q => if q = nb then Ro.ofB nb 0 else if q = l then .ofB nb 1 else if q = sl then .ofB nb 2 else ρ2 q) (st3.trans (Step.same s34)) fun q hq => by
        have h3 : ∀ p, H3 p = none → q ≠ p := fun p hp z => hq (by rw [z]; exact st3.free hp)
        show (if q = nb then Ro.ofB nb 0 else if q = l then .ofB nb 1 else if q = sl then .ofB nb 2 else ρ2 q) = ρ2 q
        rw [if_neg (h3 nb fnb), if_neg (h3 l hl), if_neg (h3 sl fsl)]
      have anb : a2.bk nb = none := R3.no_bk (R3.fr nb fnb)
      generalize (fun q => if q = nb then Ro.ofB nb 0 else if q = l then .ofB nb 1 else if q = sl then .ofB nb 2 else ρ2 q) = ρ4 at R4 st4
      have ex4 : (a2.setB nb ⟨dx, l, sl, [v], [s]⟩).sh s = some x2 := ex2
      have RS4 := R4.sh s x2 ex4
      obtain ⟨hcol4, hcr4⟩ := RS4.col i c hc
      have hbl : (x2.bl i).length ≤ n := by
        rw [S2.bl i him, hDl]
        exact nbl_le b1
      have hnN : n ≤ N + 1 := by have := S2.dl i him; rw [hDl] at this; exact this
      refine ⟨c, _, _, rfl, rfl, hcol4, by rw [List.length_map]; omega, ?_⟩
      have R5 := R4.column ex4 hc (x2.bl i ++ [nb])
      have st5 := st4.trans (stepS (X := none') (o := .lst ((x2.bl i ++ [nb]).map V.ref)) hcr4 hcol4 fun z => z)
      rw [show ((x2.bl i).map V.ref) ++ [V.ref nb] = (x2.bl i ++ [nb]).map V.ref by simp]
      have Tk5 := Tk2.newBlk (v := v) (dx := dx) (cl := l) (sl := sl) updT_same ex2 him anb (Nat.le_refl _) (by omega) (by rw [hDl]; exact hmod) (by rw [hDl]; have := S.tot; omega)
      rw [updT_updT, addD_succ hv] at Tk5
      exact ⟨⟨_, _, _, rfl⟩, ρ4, _, _, st5, R5, Tk5, setS_same, lk2⟩
    · rw [decide_eq_false (fun z => hmod (by have := V.int.inj z; omega))]
      refine iteF ?_
      obtain ⟨z1, z2⟩ := nbl_old b1 hmod
      have hbl : (x2.bl i).length = n / x2.bs + 1 := by rw [S2.bl i him, hDl]; exact z2
      obtain ⟨b, hb⟩ := lt_get (l := x2.bl i) (i := n / x2.bs) (by omega)
      refine ⟨_, rfl, _, s, _, _, rfl, RS3.at_, lm_own_block, _, rfl, _, rfl, ?_⟩
      refine ⟨sch.length, hd, ρ2, a2, N + 1, _, s, x2, _, n, i, n / x2.bs, _, b, rfl, R3, Tk2, updT_same, ex2, him, hb, ?_, by omega, by omega, fun ρ4 a4 H4 b4 x4 st4 R4 Tk4 ex4 lk4 hb4 ⟨y4, ey4⟩ so4 => ?_⟩
      · rw [hbl]
        exact ixN_last (n := n / x2.bs + 1) (Nat.succ_pos _)
      have RB4 := R4.bk b4 y4 ey4
      obtain ⟨x5, g6, _, S4⟩ := Tk4 s _ n updT_same
      rw [ex4] at g6
      cases g6
      obtain ⟨y5, ey5, hvs, _⟩ := S4.ce i _ b4 him hb4
      rw [ey4] at ey5
      cases ey5
      have hyl : y4.vs.length ≤ 100 := by
        rw [hvs]
        have := chunk_len (D := addD D r i i) (bs := x4.bs) (k := n / x2.bs)
        have := S4.b2
        omega
      refine ⟨_, rfl, b4, _, _, _, _, rfl, RB4.at_, T.c_Block, T.na_Block_cells, rfl, .inl ⟨rfl, _, SqL.of RB4.cl⟩, _, rfl, y4.cl, _, _, rfl, rfl, RB4.cl, by omega, ?_⟩
      have R5 := R4.cells ey4 (y4.vs ++ [v])
      have st5 : Step none' ρ H ρ4 (upd H4 y4.cl (.lst (y4.vs ++ [v]))) := (st3.trans st4).trans (stepB RB4.r1 RB4.cl fun z => z)
      have hbs : x4.bs = x2.bs := lk4.2.1
      have Tk5 := Tk4.cells (D' := fun j => if j = i then addD D r i i ++ [v] else addD D r i j) (vs := y4.vs ++ [v]) (N' := N + 1) updT_same ex4 him hb4 ey4 so4 (Nat.le_refl _) (fun i' hi' => ?_) (fun i' hi' => ?_) ?_ fun i' l hi' hne hl' => ?_
      · rw [updT_updT, addD_succ hv] at Tk5
        exact ⟨⟨_, _, _, rfl⟩, ρ4, _, x4, st5, R5, Tk5, ex4, lk4.1.trans lk2.1, lk4.2.1.trans lk2.2.1, lk4.2.2.1.trans lk2.2.2.1, lk4.2.2.2.trans lk2.2.2.2⟩
      · show ((if i' = i then addD D r i i ++ [v] else addD D r i i') : List V).length ≤ N + 1
        split
        · rw [List.length_append, hDl]
          have := S.tot
          simp
          omega
        · exact S4.dl i' hi'
      · show nbl ((if i' = i then addD D r i i ++ [v] else addD D r i i') : List V).length x4.bs = _
        split
        · rename_i q
          rw [q, List.length_append, hDl, hbs]
          exact z1
        · rfl
      · show chunk ((if i = i then addD D r i i ++ [v] else addD D r i i) : List V) x4.bs (n / x2.bs) = _
        rw [if_pos rfl, hvs, hbs, chunk_app b1 (by rw [hDl]; exact hmod), hDl, if_pos rfl]
      · show chunk ((if i' = i then addD D r i i ++ [v] else addD D r i i') : List V) x4.bs l = _
        split
        · rename_i q
          subst q
          rw [hbs, chunk_app b1 (by rw [hDl]; exact hmod), hDl, if_neg (fun z => hne ⟨rfl, z⟩)]
        · rfl
  · obtain ⟨⟨c0, d0, e0, rfl⟩, ρ2, a2, x2, st2, R2, Tk2, ex2, lk2⟩ := p
    rw [hrow.1] at Tk2
    have RS2 := R2.sh s x2 ex2
    obtain ⟨x4, g4, g5, S2⟩ := Tk2 s _ n updT_same
    rw [ex2] at g4
    cases g4
    refine ⟨_, rfl, s, _, _, _, _, rfl, RS2.at_, T.c_sheet _, T.na_total _, rfl, _, _, rfl, rfl, _, _, RS2.at_, fs_few, ?_⟩
    have e1 : ((x2.tot : Nat) : Int) + 1 = ((n + 1 : Nat) : Int) := by rw [g5]; rfl
    rw [e1, pf_total]
    have R3 := R2.fields ex2 (n + 1) x2.made x2.op
    have st3 := st2.trans (stepS (X := none') (o := .ins (cls K x2.kd) x2.dx (sheetFs x2.kd hd x2.bs (n + 1) x2.made x2.op x2.pa x2.na)) RS2.r0 RS2.at_ fun z => z)
    have Tk3 := Tk2.fields (x' := { x2 with tot := n + 1, made := x2.made, op := x2.op }) (n' := n + 1) updT_same ex2 (Nat.le_refl _) S2.op rfl rfl (by have := S.tot; omega) S2.nts rfl
    rw [updT_updT] at Tk3
    have RS3 := R3.sh s _ setS_same
    refine ⟨_, rfl, s, _, _, _, _, rfl, RS3.at_, T.c_sheet _, T.na_total _, rfl, _, _, rfl, rfl, ?_⟩
    have e2 : (((n + 1 : Nat) : Int)) - 1 = (n : Nat) := by omega
    show Q (.int (((n + 1 : Nat) : Int) - 1)) _
    rw [e2]
    exact hQ ρ2 _ _ _ st3 R3 Tk3 setS_same ⟨lk2.1, lk2.2.2.2⟩
end LF
set_option Elab.async false
set_option linter.all false
set_option maxRecDepth 100000
set_option maxHeartbeats 4000000
/-! to_frame. -/
namespace LF
open PySem PySem.Spec PyProof.Rows L2
/-- the inner for of a comprehension with two: Pv by the turn and the heap -/
theorem in_it {J : It} {n : Nat} {G : Hp → Prop} {Y : Nat → Hp → V → Hp → Prop} (w : Walk J n G Y) {g : TG} {tt : TT} {te : TE} {vs : List Nat} {σ : L2.St} {H1 : Hp} {D : Addr} {Nx : Hp → Prop} (Pv : Nat → Hp → Prop) (h0 : Pv 0 H1) (hG : ∀ i H, i ≤ n → Pv i H → G H)
    (hs : ∀ i x H H', i < n → Pv i H → Y i H x H' → g x (wipe σ vs) H' fun σ2 H2 => wipe σ2 vs = wipe σ vs ∧ tt σ2 H2 fun b H3 =>
      if b = true then te σ2 H3 fun y H4 => ∃ acc, H4 D = some (.lst acc) ∧ acc.length < sizeLine ∧ Pv (i + 1) (upd H4 D (.lst (acc ++ [y]))) else Pv (i + 1) H3) (hd : ∀ H, Pv n H → Nx H) :
    ∃ W1 : Nat → Nat → Hp → Prop, (∃ m, W1 0 m H1) ∧ ∀ j k H, W1 j k H →
      (J.stop j H ∧ Nx H) ∨ (J.go j H ∧ ∃ Nx1 : Hp → Prop, (∀ H', Nx1 H' → ∃ k', k' < k ∧ W1 (j + 1) k' H') ∧ ∀ x H', J.yld j H x H' → g x (wipe σ vs) H' fun σ2 H2 => wipe σ2 vs = wipe σ vs ∧ tt σ2 H2 fun b H3 =>
        if b = true then te σ2 H3 fun y H4 => ∃ acc, H4 D = some (.lst acc) ∧ acc.length < sizeLine ∧ Nx1 (upd H4 D (.lst (acc ++ [y]))) else Nx1 H3) := by
  refine ⟨fun i m H => m = n - i ∧ i ≤ n ∧ Pv i H, ⟨n, by simp, Nat.zero_le _, h0⟩, ?_⟩
  rintro i m H ⟨rfl, hi, p⟩
  have q := hG i H hi p
  by_cases hlt : i < n
  · refine .inr ⟨w.goes i H hlt q, Pv (i + 1), fun H' p' => ⟨n - (i + 1), by omega, rfl, hlt, p'⟩, fun x H' y => hs i x H H' hlt p (w.yields i H x H' hlt q y)⟩
  · have e : i = n := by omega
    subst e
    exact .inl ⟨w.stops H q, hd H p⟩
/-- the outer one: what a turn does is said by itself -/
theorem out_it {J : It} {n : Nat} {G : Hp → Prop} {Y : Nat → Hp → V → Hp → Prop} (w : Walk J n G Y) {H1 : Hp} {Qd : Hp → Prop} {B : (Hp → Prop) → V → Hp → Prop} (Pv : Nat → Hp → Prop) (h0 : Pv 0 H1) (hG : ∀ i H, i ≤ n → Pv i H → G H)
    (hs : ∀ i x H H', i < n → Pv i H → Y i H x H' → B (Pv (i + 1)) x H') (hd : ∀ H, Pv n H → Qd H) :
    ∃ W : Nat → Nat → Hp → Prop, (∃ m, W 0 m H1) ∧ ∀ i m H, W i m H →
      (J.stop i H ∧ Qd H) ∨ (J.go i H ∧ ∃ Nx : Hp → Prop, (∀ H', Nx H' → ∃ m', m' < m ∧ W (i + 1) m' H') ∧ ∀ x H', J.yld i H x H' → B Nx x H') := by
  refine ⟨fun i m H => m = n - i ∧ i ≤ n ∧ Pv i H, ⟨n, by simp, Nat.zero_le _, h0⟩, ?_⟩
  rintro i m H ⟨rfl, hi, p⟩
  have q := hG i H hi p
  by_cases hlt : i < n
  · exact .inr ⟨w.goes i H hlt q, Pv (i + 1), fun H' p' => ⟨n - (i + 1), by omega, rfl, hlt, p'⟩, fun x H' y => hs i x H H' hlt p (w.yields i H x H' hlt q y)⟩
  · have e : i = n := by omega
    subst e
    exact .inl ⟨w.stops H q, hd H p⟩
def lcSc : Expr → Scope
  | .ListComp _ _ sc _ => sc
  | _ => { kind := .function, names := [], isGenerator := false, isCoroutine := false }
def asgV : Stmt → Expr
  | .Assign _ v _ => v
  | _ => .Constant .none 0 ⟨0, 0, 0, 0⟩
def stAt (st : Stmt) (i : Nat) : Stmt := (defBody st).getD i (.Pass ⟨0, 0, 0, 0⟩)
variable {P : Program} {w : World} {K : PySem.W.Frag} {mg : Str → Option Value} {base : Heap}
theorem sc_to : FnScope ["self", "columns", "blocks", "block", "value", "row"] ["self"] (defScope (inClass (top 51) 14)) := ⟨rfl, rfl, rfl, by decide +kernel, rfl, by decide +kernel, by decide +kernel⟩
def spTo (K : PySem.W.Frag) : Sp := fun vs H Q _ => ∃ (hd : Addr) (sch : Sch) (ρ : Addr → Ro) (a : AS) (N : Nat) (TS : TSt) (s : Addr) (x : Sh) (D : Nat → List V) (n : Nat) (rows : List (List V)), vs = [.ref s] ∧
  RepK K sch.length hd ρ H a ∧ Tok sch.length N a TS ∧ TS s = some (D, n) ∧ a.sh s = some x ∧ Hd K H hd sch ∧ SchOk sch ∧ (∀ j, j < sch.length → D j = colOf j rows) ∧ rows.length = n ∧ (∀ r ∈ rows, RowOk sch r) ∧ n ≤ 900 ∧
  ∀ H' f L, Same H H' → H f = none → FrameAt K H' f hd L → RowsAt K H' L rows → Q (.ref f) H'
theorem ok_to (T : TX P K mg) : Ok P w K mg base 8 (ma K "Sheet" "to_frame") ["self"] (spTo K) := by
  obtain ⟨fd, F⟩ := T.f_Sheet_to_frame
  have O1 : Ok P w K mg base 1 (ma K "Sheet" "check_open") ["self"] (spOpen K) := ok_copen T
  obtain ⟨fdI, G, b3, _⟩ := ok_finit (w := w) (base := base) T
  refine ⟨fd, F.ok sc_to (fun vs H Q E h => by obtain ⟨_, _, _, _, _, _, _, _, _, _, _, rfl, _⟩ := h; rfl) (fun cdv A outer s H vs Q E hr h => ?_), F.binds fun _ _ _ _ _ _ us hl => match us, hl with | [_], _ => rfl⟩
  obtain ⟨hd, sch, ρ, a, N, TS, s, x, D, n, rows, rfl, R, Tk, e, ex, hh, hs, hD, hn, hrow, hN, hQ⟩ := h
  refine ⟨_, pss_cons (ps_expr (pe_mS0 O1 (pv 0) T.c_sheet T.m_check_open hr))
    (pss_cons (ps_setLc (i := 1) (own := [("blocks", 2)]) (g := gName 2) (tt := tYes) (by rfl) sc_to.nd rfl rfl (sw_true rfl rfl rfl (by decide +kernel)) (pi_list (pe_fld (pv 0) rfl))
        (blkOk_by (own := [("blocks", 2)]) (N := ["self", "columns", "blocks", "block", "value", "row"]) (sc := defScope (inClass (top 51) 14)) (by decide +kernel)) (fun _ _ _ _ _ => pg_name (i := 2) sc_to.nd rfl (Or.inl rfl)) (fun _ _ _ _ _ => pts_nil)
        (fun _ _ _ _ _ => pe_lc2 (own := [("block", 3), ("value", 4)]) (vs1 := [4]) (g := gName 3) (g1 := gName 4) (tt := tYes) (tt1 := tYes) (wi := iList K (tVar 2)) (wi1 := iList K (tFld K (tVar 3) "cells")) (by rfl) sc_to.nd (pi_list (pv 2))
          (blkOk_by (own := [("block", 3), ("value", 4)]) (N := ["self", "columns", "blocks", "block", "value", "row"]) (sc := lcSc (asgV (stAt (inClass (top 51) 14) 1))) (by decide +kernel)) (by decide)
          (fun _ _ _ _ _ => pg_name (i := 3) sc_to.nd rfl (Or.inl rfl)) (fun _ _ _ _ _ => pts_nil) (fun _ _ _ _ _ => pi_list (pe_fld (pv 3) rfl)) (fun _ _ _ _ _ => pg_name (i := 4) sc_to.nd rfl (Or.inl rfl)) (fun _ _ _ _ _ => pts_nil) (fun _ _ _ _ _ => pv 4)))
    (pss_one (ps_ret (pe_make T.mk_Frame G hr (by rfl) T.g_Frame b3 .nil pass0 (pa_cons (pe_fld (pv 0) rfl) (pa_cons (pe_callTy call_tuple_of (by rfl) T.b_tuple boot_tuple (pa_cons
      (pe_lc (own := [("row", 5)]) (g := gName 5) (tt := tYes) (by rfl) sc_to.nd (pi_zipN (by rfl) T.b_zip (pv 1)) (blkOk_by (own := [("row", 5)]) (N := ["self", "columns", "blocks", "block", "value", "row"]) (sc := defScope (inClass (top 51) 14)) (by decide +kernel))
        (fun _ _ _ _ _ => pg_name (i := 5) sc_to.nd rfl (Or.inl rfl)) (fun _ _ _ _ _ => pts_nil)
        (fun _ _ _ _ _ => pe_callTy (T := "tuple") (r := fun xs H Q => ∃ p ys, xs = [.ref p] ∧ ((SqL K H p ys ∧ ∀ l, H l = none → Q (.ref l) (upd H l (.tup ys))) ∨ (SqT K H p ys ∧ Q (.ref p) H))) call_tuple_of (by rfl) T.b_tuple boot_tuple (pa_cons (pv 5) pa_nil))) pa_nil)) pa_nil)))))), ?_⟩
  obtain ⟨x1, g1, g2, S⟩ := Tk s D n e
  rw [ex] at g1
  cases g1
  have RS := R.sh s x ex
  have hs0 : sizeLine = 16777216 := sizeLine_eq
  have b1 := S.b1
  have hDn : ∀ j, j < sch.length → (D j).length = n := fun j hj => by rw [hD j hj]; simp [colOf, hn]
  refine ⟨_, rfl, _, s, _, _, rfl, RS.at_, lm_check_open, s, x, hd, rfl, RS.at_, S.op, ?_⟩
  refine ⟨_, rfl, s, _, _, _, _, rfl, RS.at_, T.c_sheet _, T.na_parts _, rfl, x.pa, rfl, ⟨_, SqL.of RS.pa⟩, fun D1 hD1 => ?_⟩
  refine lc_it (walk_list (xs := x.cs.map V.ref)) (fun i H' => ∃ cols : List Addr, Same H H' ∧ H' D1 = some (.lst (cols.map V.ref)) ∧ cols.length = i ∧ ∀ (j : Nat) (c : Addr), cols[j]? = some c → H' c = some (.lst (D j)))
    ⟨[], same_upd hD1, upd_same, rfl, fun j c z => by simp at z⟩ (fun i H' _ hp => by obtain ⟨_, s1, _⟩ := hp; exact SqL.of (s1 _ _ RS.pa)) (fun i z H' H'' hi hp hy => ?_) fun H1 hp => ?_
  · obtain ⟨rfl, hx⟩ := hy
    obtain ⟨c, hc, rfl⟩ := get_map hx
    obtain ⟨cols, s1, hc1, hcl, hcc⟩ := hp
    have him : i < sch.length := by rw [← RS.len]; simpa using hi
    obtain ⟨hcol, _⟩ := RS.col i c hc
    refine ⟨rfl, ?_⟩
    refine yes ?_
    refine ⟨_, rfl, c, rfl, ⟨_, SqL.of (s1 _ _ hcol)⟩, fun D2 hD2 => ?_⟩
    have s2 : ∀ o, Same H'' (upd H'' D2 o) := fun o => same_upd hD2
    refine out_it (walk_list (xs := (x.bl i).map V.ref)) (fun k Hk => Hk = upd H'' D2 (.lst ((D i).take (k * x.bs)))) (by simp) (fun k Hk _ hp => by subst hp; exact SqL.of (s2 _ _ _ (s1 _ _ hcol))) (fun k z Hk Hk' hk hp hy => ?_) fun Hk hp => ?_
    · obtain ⟨rfl, hz⟩ := hy
      subst hp
      obtain ⟨b, hb, rfl⟩ := get_map hz
      obtain ⟨y, ey, hvs, _⟩ := S.ce i k b him hb
      have RB := R.bk b y ey
      refine ⟨rfl, ?_⟩
      refine yes ?_
      refine ⟨_, rfl, b, _, _, _, _, rfl, s2 _ _ _ (s1 _ _ RB.at_), T.c_Block, T.na_Block_cells, rfl, y.cl, rfl, ⟨_, SqL.of (s2 _ _ _ (s1 _ _ RB.cl))⟩, ?_⟩
      refine in_it (walk_list (xs := y.vs)) (fun l Hl => Hl = upd H'' D2 (.lst ((D i).take (k * x.bs) ++ y.vs.take l))) (by simp) (fun l Hl _ hp => by subst hp; exact SqL.of (s2 _ _ _ (s1 _ _ RB.cl))) (fun l v Hl Hl' hl hp hy => ?_) fun Hl hp => ?_
      · obtain ⟨rfl, hv⟩ := hy
        subst hp
        refine ⟨rfl, ?_⟩
        refine yes ?_
        refine ⟨_, rfl, _, upd_same, ?_, ?_⟩
        · have h1 := hDn i him
          have h2 : y.vs.length ≤ x.bs := by rw [hvs]; exact chunk_len
          have h3 := S.b2
          rw [List.length_append, List.length_take, List.length_take]
          omega
        · rw [upd_upd, List.append_assoc]
          congr 3
          rw [List.take_succ_eq_append_getElem hl]
          have : y.vs[l] = v := (List.getElem?_eq_some_iff.mp hv).2
          rw [this]
      · subst hp
        rw [List.take_length, hvs, take_chunk]
    · subst hp
      rw [List.length_map, S.bl i him, List.take_of_length_le (nbl_mul b1)]
      have hne : D1 ≠ D2 := ne_of_none hc1 hD2
      refine ⟨_, (by rw [upd_ne hne]; exact hc1), by rw [List.length_map, hcl]; have := hs.le; omega, cols ++ [D2], fun q o z => ?_, by rw [upd_same]; simp, by simp [hcl], fun j' c' z => ?_⟩
      · have q1 : q ≠ D1 := ne_of_none z hD1
        have q2 : q ≠ D2 := ne_of_none (s1 _ _ z) hD2
        rw [upd_ne q1, upd_ne q2]
        exact s1 _ _ z
      · by_cases hj' : j' < cols.length
        · rw [List.getElem?_append_left hj'] at z
          have h3 := hcc j' c' z
          have q1 : c' ≠ D1 := fun w => by
            rw [w, hc1] at h3
            have h4 := List.mem_of_getElem? z
            have h5 := HO.lst.inj (Option.some.inj h3)
            have h6 : (cols.map V.ref).length = (D j').length := by rw [h5]
            have h7 := hD j' (by omega)
            obtain ⟨v0, hv0⟩ := lt_get (l := D j') (i := 0) (by rw [← h6, List.length_map]; omega)
            have hv1 : (cols.map V.ref)[0]? = some v0 := by rw [h5]; exact hv0
            obtain ⟨q, _, rfl⟩ := get_map hv1
            have h8 : V.ref q ∈ D j' := List.mem_of_getElem? hv0
            rw [h7] at h8
            obtain ⟨r, hr1, hr2⟩ := List.mem_map.mp h8
            obtain ⟨p, hp⟩ := lt_get (l := sch) (i := j') (by omega)
            obtain ⟨u, hu⟩ := lt_get (l := r) (i := j') (by rw [(hrow r hr1).1]; omega)
            have h9 := (hrow r hr1).2 j' p u hp hu
            rw [List.getD_eq_getElem?_getD, hu] at hr2
            have hr3 : u = V.ref q := hr2
            rw [hr3] at h9
            rcases h9 with h | ⟨_, i, h⟩ | ⟨_, z', h, _⟩ | ⟨_, b', h⟩ <;> cases h
          have q2 : c' ≠ D2 := ne_of_none h3 hD2
          rw [upd_ne q1, upd_ne q2]
          exact h3
        · have : j' = cols.length := by
            have := (List.getElem?_eq_some_iff.mp z).1
            rw [List.length_append] at this
            simp at this
            omega
          subst this
          rw [List.getElem?_append_right (Nat.le_refl _), Nat.sub_self] at z
          cases z
          rw [upd_ne hne.symm, upd_same, hcl]
  · obtain ⟨cols, s1, hc1, hcl, hcc⟩ := hp
    rw [List.length_map, RS.len] at hcl
    have hne : cols ≠ [] := fun z => by
      rw [z] at hcl
      exact hs.ne (List.length_eq_zero_iff.mp hcl.symm)
    have h4 : cols.length = 1 ∨ cols.length = 2 ∨ cols.length = 3 ∨ cols.length = 4 := by
      have h1 := hs.le
      have h2 : 0 < cols.length := List.length_pos_iff.mpr hne
      omega
    have hxs : ((List.range sch.length).map D).length = cols.length := by simp [hcl]
    have hxn : ∀ xs ∈ (List.range sch.length).map D, xs.length = n := fun xs hx => by
      obtain ⟨j, hj, rfl⟩ := List.mem_map.mp hx
      exact hDn j (List.mem_range.mp hj)
    refine ⟨_, rfl, s, _, _, _, _, rfl, s1 _ _ RS.at_, T.c_sheet _, T.na_heads _, rfl, _, rfl, D1, cols, rfl, SqL.of hc1, h4, fun l hl => ?_, fun D2 hD2 => ?_⟩
    · obtain ⟨j, hj⟩ := List.mem_iff_getElem?.mp hl
      exact ⟨_, SqL.of (hcc j l hj)⟩
    refine lc_it (walk_zipN (xss := (List.range sch.length).map D) (n := n) hne hxs hxn) (fun i H' => ∃ ts : List Addr, Same H1 H' ∧ H' D2 = some (.lst (ts.map V.ref)) ∧ ts.length = i ∧ ∀ (k : Nat) (t : Addr) (r : List V), ts[k]? = some t → rows[k]? = some r → H' t = some (.tup r))
      ⟨[], same_upd hD2, upd_same, rfl, fun k t r z => by simp at z⟩ (fun i H' _ hp j l xs el exs => ?_) (fun i z H' H'' hi hp hy => ?_) fun H2 hp => ?_
    · obtain ⟨ts, s2, _⟩ := hp
      have hj : j < sch.length := by rw [← hcl]; exact (List.getElem?_eq_some_iff.mp el).1
      rw [List.getElem?_map, List.getElem?_range hj] at exs
      cases exs
      exact SqL.of (s2 _ _ (hcc j l el))
    · obtain ⟨Tp, ys, rfl, hT, rfl, hyl, hys⟩ := hy
      obtain ⟨ts, s2, ht, htl, htc⟩ := hp
      have hi' : i < rows.length := by rw [hn]; exact hi
      obtain ⟨r, hr2⟩ := lt_get hi'
      have hyr : ys = r := by
        have hrl := (hrow r (List.mem_of_getElem? hr2)).1
        refine List.ext_getElem? fun j => ?_
        by_cases hj : j < sch.length
        · obtain ⟨v, hv⟩ := lt_get (l := ys) (i := j) (by omega)
          have h1 := hys j (D j) v (by rw [List.getElem?_map, List.getElem?_range hj]; rfl) hv
          rw [hD j hj] at h1
          unfold colOf at h1
          rw [List.getElem?_map, hr2] at h1
          have h2 : r.getD j .non = v := Option.some.inj h1
          obtain ⟨u, hu⟩ := lt_get (l := r) (i := j) (by omega)
          rw [List.getD_eq_getElem?_getD, hu] at h2
          rw [hv, hu]
          exact congrArg some h2.symm
        · rw [List.getElem?_eq_none (by omega), List.getElem?_eq_none (by omega)]
      subst hyr
      refine ⟨rfl, ?_⟩
      refine yes ?_
      refine ⟨_, rfl, Tp, _, rfl, .inr ⟨SqT.of upd_same, ?_⟩⟩
      have hTD : D2 ≠ Tp := ne_of_none ht hT
      refine ⟨_, (by rw [upd_ne hTD]; exact ht), by rw [List.length_map, htl]; omega, ts ++ [Tp], fun q o z => ?_, by rw [upd_same]; simp, by simp [htl], fun k t r z zr => ?_⟩
      · have q1 : q ≠ D2 := ne_of_none z hD2
        have q2 : q ≠ Tp := ne_of_none (s2 _ _ z) hT
        rw [upd_ne q1, upd_ne q2]
        exact s2 _ _ z
      · by_cases hk : k < ts.length
        · rw [List.getElem?_append_left hk] at z
          have h3 := htc k t r z zr
          have q1 : t ≠ D2 := ne_of h3 ht (fun w => by cases w)
          have q2 : t ≠ Tp := ne_of_none h3 hT
          rw [upd_ne q1, upd_ne q2]
          exact h3
        · have : k = ts.length := by
            have := (List.getElem?_eq_some_iff.mp z).1
            rw [List.length_append] at this
            simp at this
            omega
          subst this
          rw [List.getElem?_append_right (Nat.le_refl _), Nat.sub_self] at z
          cases z
          rw [htl, hr2] at zr
          cases zr
          rw [upd_ne hTD.symm, upd_same]
    · obtain ⟨ts, s2, ht, htl, htc⟩ := hp
      refine ⟨D2, _, rfl, .inl ⟨SqL.of ht, fun L hL => ?_⟩⟩
      have s3 : Same H2 (upd H2 L (.tup (ts.map V.ref))) := same_upd hL
      intro f dx nf ndx hne2
      have s4 := same_made (C := cF K) nf ndx
      have sall : Same H _ := ((s1.trans s2).trans s3).trans s4
      have hrows : ∀ Hx, Same (upd H2 L (.tup (ts.map V.ref))) Hx → RowsAt K Hx L rows := fun Hx sx => ⟨ts, SqT.of (sx _ _ upd_same), by omega, fun k t r z zr => SqT.of (sx _ _ (s3 _ _ (htc k t r z zr)))⟩
      refine ⟨f, dx, hd, L, sch, rows, rfl, upd_same, hh.same sall, hs, hrows _ s4, hrow, fun H5 s5 hf => ⟨rfl, ?_⟩⟩
      have s35 : Same (upd H2 L (.tup (ts.map V.ref))) H5 := s5.made nf ndx
      exact hQ H5 f L (((s1.trans s2).trans s3).trans s35) (((s1.trans s2).trans s3).free nf) hf (hrows _ s35)
end LF
set_option Elab.async false
set_option linter.all false
set_option maxRecDepth 100000
set_option maxHeartbeats 4000000
/-! Sheets are made. -/
namespace LF
open PySem PySem.Spec PyProof.Rows L2
variable {P : Program} {w : World} {K : PySem.W.Frag} {mg : Str → Option Value} {base : Heap}
/-- a sheet that is not yet the world's -/
structure Raw (K : PySem.W.Frag) (m : Nat) (hd : Addr) (ρ : Addr → Ro) (H : Hp) (x C dx : Addr) (k : Kd) (bs tot : Nat) (pa na : Addr) (ns : List V) (cs : List Addr) (bl : Nat → List Addr) : Prop where
  at_ : H x = some (.ins C dx (sheetFs k hd bs tot 0 true pa na))
  hpa : H pa = some (.lst (cs.map V.ref))
  pr : ρ pa = .oth
  len : cs.length = m
  col : ∀ (j : Nat) (c : Addr), cs[j]? = some c → H c = some (.lst ((bl j).map V.ref)) ∧ ρ c = .oth
  hna : k.nt = true → H na = some (.lst ns) ∧ ρ na = .oth
  nc : pa ∉ cs
  nd : cs.Nodup
  nn : k.nt = true → na ≠ pa ∧ na ∉ cs
/-- what the making of the sheet at x from rows did -/
structure Made (K : PySem.W.Frag) (m : Nat) (hd : Addr) (ρ : Addr → Ro) (H : Hp) (a : AS) (x : Addr) (rows : List (List V)) (bs : Nat) (ρ' : Addr → Ro) (H' : Hp) (a' : AS) (bl : Nat → List Addr) : Prop where
  st : Step (fun q => q = x) ρ H ρ' H'
  rep : RepK K m hd ρ' H' a'
  sh : a'.sh = a.sh
  old : ∀ b y, a.bk b = some y → a'.bk b = some y
  new : ∀ b y, a'.bk b = some y → a.bk b = some y ∨ y.ls = [x]
  bls : ∀ j, j < m → (bl j).length = nbl rows.length bs ∧ ∀ (k : Nat) (b : Addr), (bl j)[k]? = some b → ∃ y, a'.bk b = some y ∧ y.vs = chunk (colOf j rows) bs k ∧ y.ls = [x]
  inj : ∀ (j k j' k' : Nat) (b : Addr), j < m → j' < m → (bl j)[k]? = some b → (bl j')[k']? = some b → j = j' ∧ k = k'
theorem sqT_sameX {x : Addr} {H H' : Hp} {C dx : Addr} {fs : List (Str × V)} (hx : H x = some (.ins C dx fs)) (sx : SameX x H H') {a : Addr} {xs : List V} (h : SqT K H a xs) : SqT K H' a xs :=
  h.elim (fun h => .inl (h.elim (fun h => .inl (sx _ _ (ne_of h hx (fun z => by cases z)) h)) fun ⟨o, h⟩ => .inr ⟨o, sx _ _ (ne_of h hx (fun z => by cases z)) h⟩)) fun h => .inr h
theorem Hd.sameX {x : Addr} {H H' : Hp} {C dx : Addr} {fs : List (Str × V)} (hx : H x = some (.ins C dx fs)) (sx : SameX x H H') {hd : Addr} {sch : Sch} (h : Hd K H hd sch) : Hd K H' hd sch := by
  obtain ⟨as, h1, h2, h3⟩ := h
  exact ⟨as, sqT_sameX hx sx h1, h2, fun i a p u v => sqT_sameX hx sx (h3 i a p u v)⟩
theorem RowsAt.sameX {x : Addr} {H H' : Hp} {C dx : Addr} {fs : List (Str × V)} (hx : H x = some (.ins C dx fs)) (sx : SameX x H H') {L : Addr} {rows : List (List V)} (h : RowsAt K H L rows) : RowsAt K H' L rows := by
  obtain ⟨as, h1, h2, h3⟩ := h
  exact ⟨as, sqT_sameX hx sx h1, h2, fun i a p u v => sqT_sameX hx sx (h3 i a p u v)⟩
theorem Rep.sameX {m : Nat} {hd : Addr} {ρ : Addr → Ro} {H H' : Hp} {a : AS} {x : Addr} (R : RepK K m hd ρ H a) (hr : ρ x = .oth) (hx : H' x ≠ none) (sx : SameX x H H') : RepK K m hd ρ H' a :=
  R.keep (fun q o r e => sx q o (fun z => r (by rw [z]; exact hr)) e) fun q h => by
    by_cases e : q = x
    · rw [e]; exact hx
    · cases z : H q with
      | none => exact absurd z h
      | some o => rw [sx q o e z]; exact fun w => by cases w
theorem Step.sameX {ρ : Addr → Ro} {H H' : Hp} {x C dx : Addr} {fs : List (Str × V)} (h0 : H x = some (.ins C dx fs)) (hx : ∃ o, H' x = some o) (sx : SameX x H H') : Step (fun q => q = x) ρ H ρ H' where
  ro _ _ _ := rfl
  ot b o e _ n := sx b o n e
  tr b o e := by
    by_cases z : b = x
    · rw [z]; exact hx
    · exact ⟨o, sx b o z e⟩
  fx b o e f := sx b o (fun z => by rw [z, h0] at e; cases e; exact f) e
def spInit (K : PySem.W.Frag) (kk kout : Kd) : Sp := fun vs H Q _ => ∃ (hd : Addr) (sch : Sch) (ρ : Addr → Ro) (a : AS) (x dx f L : Addr) (rows : List (List V)) (bs : Nat), vs = [.ref x, .ref f, .int (bs : Nat)] ∧
  RepK K sch.length hd ρ H a ∧ ρ x = .oth ∧ ρ f = .oth ∧ H x = some (.ins (cls K kk) dx []) ∧ FrameAt K H f hd L ∧ Hd K H hd sch ∧ SchOk sch ∧ RowsAt K H L rows ∧ (∀ r ∈ rows, RowOk sch r) ∧ rows.length ≤ 900 ∧ 1 ≤ bs ∧ bs ≤ 100 ∧
  ∀ ρ' a' H' pa na cs bl, Made K sch.length hd ρ H a x rows bs ρ' H' a' bl → Raw K sch.length hd ρ' H' x (cls K kk) dx kout bs rows.length pa na [] cs bl → H pa = none → (∀ c ∈ cs, H c = none) → (kout.nt = true → H na = none) → Q .non H'
/-- a def of self, a frame and a block size by its name -/
def OkK (P : Program) (w : World) (K : PySem.W.Frag) (mg : Str → Option Value) (base : Heap) (k : Nat) (f : Addr) (sp : Sp) : Prop :=
  ∃ fd, FnOk P w K mg base CX0 k f fd ["self", "frame", "block"] sp ∧ KBn K fd ["self", "frame", "block"] 2 ["block"] (fun us ws => us ++ ws) (fun vs zs => vs ++ zs)

theorem sc_sinit : FnScope ["self", "frame", "block", "name", "kind"] ["self", "frame", "block"] (defScope (inClass (top 51) 1)) := ⟨rfl, rfl, rfl, by decide +kernel, rfl, by decide +kernel, by decide +kernel⟩
theorem row_len {sch : Sch} {rows : List (List V)} (h : ∀ r ∈ rows, RowOk sch r) : ∀ r ∈ rows, r.length = sch.length := fun r hr => (h r hr).1
/-- the columns so far -/
structure Cols (K : PySem.W.Frag) (m : Nat) (hd : Addr) (ρ : Addr → Ro) (H : Hp) (a : AS) (x : Addr) (rows : List (List V)) (bs i : Nat) (D : Addr) (ρ' : Addr → Ro) (H' : Hp) (a' : AS) (cs : List Addr) (bl : Nat → List Addr) : Prop where
  st : Step none' ρ H ρ' H'
  rep : RepK K m hd ρ' H' a'
  sh : a'.sh = a.sh
  old : ∀ b y, a.bk b = some y → a'.bk b = some y
  new : ∀ b y, a'.bk b = some y → a.bk b = some y ∨ y.ls = [x]
  at_ : H' D = some (.lst (cs.map V.ref))
  ro : ρ' D = .oth
  len : cs.length = i
  col : ∀ (j : Nat) (c : Addr), cs[j]? = some c → H' c = some (.lst ((bl j).map V.ref)) ∧ ρ' c = .oth ∧ H c = none ∧ c ≠ D
  nd : cs.Nodup
  bls : ∀ j, j < i → (bl j).length = nbl rows.length bs ∧ ∀ (k : Nat) (b : Addr), (bl j)[k]? = some b → a.bk b = none ∧ ∃ y, a'.bk b = some y ∧ y.vs = chunk (colOf j rows) bs k ∧ y.ls = [x]
  inj : ∀ (j k j' k' : Nat) (b : Addr), j < i → j' < i → (bl j)[k]? = some b → (bl j')[k']? = some b → j = j' ∧ k = k'
theorem ok_sinit (T : TX P K mg) (kk : Kd) : OkK P w K mg base 5 (ma K "Sheet" "__init__") (spInit K kk .s) := by
  obtain ⟨fd, F⟩ := T.f_Sheet___init__
  have O1 : Ok P w K mg base 1 (ga K "is_integer") ["value"] spIsInt := ok_isint T
  have O2 : Ok P w K mg base 1 (gtr K "Frame" "schema") ["self"] (spFSch K) := ok_fsch T
  obtain ⟨fdL, GL, bL⟩ : Ok P w K mg base 1 (ma K "Frame" "__len__") ["self"] (spFLen K) := ok_flen T
  obtain ⟨fdC, GC, bC⟩ : Ok P w K mg base 3 (ma K "Frame" "column") ["self", "name"] (spColumn K) := ok_column T
  have O5 : Ok P w K mg base 3 (ga K "cut_blocks") ["cells", "size", "sheet"] (spCut K) := ok_cut T
  obtain ⟨tM, hM⟩ := T.mostBlock
  have kb : ∃ mv : List Value, KBn K fd ["self", "frame", "block"] 2 ["block"] (fun us ws => us ++ ws) (fun vs zs => vs ++ zs) := F.kbinds0 2 ["block"] [] (fun a b c => a ++ c) (by simp) (fun q hq => by cases hq) (fun r1 _ r3 => r1.append r3)
    (fun D doc pm an cdv ct us mv ws h1 h2 h3 => match us, h1 with | [_, _], _ => match ws, h3 with | [_], _ => rfl)
  obtain ⟨_, kb⟩ := kb
  refine ⟨fd, F.ok sc_sinit (fun vs H Q E h => by obtain ⟨_, _, _, _, _, _, _, _, _, _, rfl, _⟩ := h; rfl) (fun cdv A outer s H vs Q E hr h => ?_), kb⟩
  obtain ⟨hd, sch, ρ, a, x, dx, f, L, rows, bs, rfl, R, hro, hrf, hx, hf, hh, hs, hL, hrow, hle, h1, h2, hQ⟩ := h
  refine ⟨_, PSs.nox (pss_cons (ps_if (pt_not (pt_val (pe_callB call_isi (by rfl) T.b_isinstance boot_isinstance (pa_cons (pv 1) (pa_cons (pe_glob (v := .ref (cF K)) (by rfl) T.g_Frame rfl) pa_nil))))) pss_never pss_nil)
    (pss_cons (ps_if (PW.pt (pw_or (pt_not (pt_val (pe_callO O1 T.f_is_integer.kp hr (by rfl) T.g_is_integer (pa_cons (pv 2) pa_nil)))) (pw_or1 (pt_not (pt_chain op_le op_le pe_int (pv 2) (ClX.pe_cval (pe_glob (v := .ref (cls K .s)) (by rfl) T.g_Sheet rfl))))))) pss_never pss_nil)
    (pss_cons (ps_fld (pv 0) (pe_propO O2 (pv 1) T.c_Frame T.p_Frame_schema hr) rfl)
    (pss_cons (ps_fld (pv 0) (pv 2) rfl)
    (pss_cons (ps_fld (pv 0) (pe_callB (call_lenP (ι := Unit) (C := fun _ => cF K) (fun _ => T.m_Frame___len__) (fun _ => GL) (hr.mono (by decide)) (fun _ => bL) pass0) (by rfl) T.b_len boot_len (pa_cons (pv 1) pa_nil)) rfl)
    (pss_cons (ps_fld (pv 0) pe_int rfl)
    (pss_cons (ps_fld (pv 0) pe_bl rfl)
    (pss_one (ps_fld (pv 0) (pe_lc (own := [("name", 3), ("kind", 4)]) (g := gTup K 2 (gCons (gName 3) (gCons (gName 4) gNil))) (tt := tYes) (by rfl) sc_sinit.nd (pi_tup (pe_fld (pv 0) rfl)) (blkOk_by (own := [("name", 3), ("kind", 4)]) (N := ["self", "frame", "block", "name", "kind"]) (sc := defScope (inClass (top 51) 1)) (by decide +kernel))
      (fun _ _ _ _ _ => pg_tup (n := 2) (by rfl) (pgs_cons (pg_name (i := 3) sc_sinit.nd rfl (Or.inl rfl)) (pgs_cons (pg_name (i := 4) sc_sinit.nd rfl (Or.inl rfl)) pgs_nil))) (fun _ _ _ _ _ => pts_nil)
      (fun _ _ _ _ _ => pe_callO O5 T.f_cut_blocks.kp hr (by rfl) T.g_cut_blocks (pa_cons (pe_meth (pv 1) T.c_Frame T.m_Frame_column GC (hr.mono (by decide)) bC .nil pass0 (pa_cons (pv 3) pa_nil)) (pa_cons (pv 2) (pa_cons (pv 0) pa_nil))))) rfl))))))))), ?_⟩
  obtain ⟨dxf, hfx⟩ := id hf
  have hfne : f ≠ x := ne_of hfx hx (fun z => by injection z with _ _ z3; cases z3)
  have hs0 : sizeLine = 16777216 := sizeLine_eq
  refine ⟨_, rfl, _, _, _, _, _, rfl, .own (cF K), .base (.ins hfx T.c_Frame T.o_Frame T.o_get T.o_tak T.o_mroF), T.isFrame, _, rfl, iteF ?_⟩
  refine ⟨_, rfl, _, rfl, _, rfl, iteF ?_⟩
  refine ⟨_, rfl, _, _, rfl, rfl, _, rfl, ?_⟩
  rw [decide_eq_true (show (1 : Int) ≤ (bs : Nat) by omega)]
  refine iteT ⟨_, _, _, _, rfl, T.rdSheet, hM, _, _, rfl, rfl, _, rfl, ?_⟩
  rw [decide_eq_true (show ((bs : Nat) : Int) ≤ 100 by omega)]
  refine iteF ?_
  -- heads
  refine ⟨_, rfl, f, dxf, _, rfl, hfx, ⟨f, hd, L, rfl, hf, ?_⟩⟩
  refine ⟨_, rfl, x, _, dx, _, rfl, hx, T.c_sheet kk, T.na_heads kk, by decide, ?_⟩
  -- block_size
  refine ⟨_, rfl, _, rfl, x, _, dx, _, rfl, upd_same, T.c_sheet kk, T.na_block_size kk, by show (1 : Nat) < 1000; decide, ?_⟩
  -- total
  have hf2 : FrameAt K (upd (upd H x (.ins (cls K kk) dx (putF "heads" (.ref hd) []))) x (.ins (cls K kk) dx (putF "block_size" (.int (bs : Nat)) (putF "heads" (.ref hd) [])))) f hd L := ⟨dxf, by rw [upd_ne hfne, upd_ne hfne]; exact hfx⟩
  have hL2 : RowsAt K (upd (upd H x (.ins (cls K kk) dx (putF "heads" (.ref hd) []))) x (.ins (cls K kk) dx (putF "block_size" (.int (bs : Nat)) (putF "heads" (.ref hd) [])))) L rows := hL.sameX hx (SameX.put.trans SameX.put)
  obtain ⟨dxf2, hfx2⟩ := id hf2
  refine ⟨_, rfl, (), f, dxf2, _, rfl, hfx2, f, hd, L, rows, rfl, hf2, hL2, rows.length, rfl, by omega, ?_⟩
  refine ⟨_, rfl, x, _, dx, _, rfl, upd_same, T.c_sheet kk, T.na_total kk, by show (2 : Nat) < 1000; decide, ?_⟩
  -- made, opened
  refine ⟨_, rfl, x, _, dx, _, rfl, upd_same, T.c_sheet kk, T.na_made kk, by show (3 : Nat) < 1000; decide, ?_⟩
  refine ⟨_, rfl, x, _, dx, _, rfl, upd_same, T.c_sheet kk, T.na_opened kk, by show (4 : Nat) < 1000; decide, ?_⟩
  -- the heap so far
  have sx5 : SameX x H (upd (upd (upd (upd (upd H x (.ins (cls K kk) dx (putF "heads" (.ref hd) []))) x (.ins (cls K kk) dx (putF "block_size" (.int (bs : Nat)) (putF "heads" (.ref hd) [])))) x (.ins (cls K kk) dx (putF "total" (.int (rows.length : Nat)) (putF "block_size" (.int (bs : Nat)) (putF "heads" (.ref hd) []))))) x (.ins (cls K kk) dx (putF "made" (.int 0) (putF "total" (.int (rows.length : Nat)) (putF "block_size" (.int (bs : Nat)) (putF "heads" (.ref hd) [])))))) x (.ins (cls K kk) dx (putF "opened" (.bl true) (putF "made" (.int 0) (putF "total" (.int (rows.length : Nat)) (putF "block_size" (.int (bs : Nat)) (putF "heads" (.ref hd) []))))))) :=
    SameX.put.trans (SameX.put.trans (SameX.put.trans (SameX.put.trans SameX.put)))
  have hx5 : (upd (upd (upd (upd (upd H x (.ins (cls K kk) dx (putF "heads" (.ref hd) []))) x (.ins (cls K kk) dx (putF "block_size" (.int (bs : Nat)) (putF "heads" (.ref hd) [])))) x (.ins (cls K kk) dx (putF "total" (.int (rows.length : Nat)) (putF "block_size" (.int (bs : Nat)) (putF "heads" (.ref hd) []))))) x (.ins (cls K kk) dx (putF "made" (.int 0) (putF "total" (.int (rows.length : Nat)) (putF "block_size" (.int (bs : Nat)) (putF "heads" (.ref hd) [])))))) x (.ins (cls K kk) dx (putF "opened" (.bl true) (putF "made" (.int 0) (putF "total" (.int (rows.length : Nat)) (putF "block_size" (.int (bs : Nat)) (putF "heads" (.ref hd) []))))))) x
      = some (.ins (cls K kk) dx [("heads", .ref hd), ("block_size", .int (bs : Nat)), ("total", .int (rows.length : Nat)), ("made", .int 0), ("opened", .bl true)]) := upd_same
  generalize (upd (upd (upd (upd (upd H x (.ins (cls K kk) dx (putF "heads" (.ref hd) []))) x (.ins (cls K kk) dx (putF "block_size" (.int (bs : Nat)) (putF "heads" (.ref hd) [])))) x (.ins (cls K kk) dx (putF "total" (.int (rows.length : Nat)) (putF "block_size" (.int (bs : Nat)) (putF "heads" (.ref hd) []))))) x (.ins (cls K kk) dx (putF "made" (.int 0) (putF "total" (.int (rows.length : Nat)) (putF "block_size" (.int (bs : Nat)) (putF "heads" (.ref hd) [])))))) x (.ins (cls K kk) dx (putF "opened" (.bl true) (putF "made" (.int 0) (putF "total" (.int (rows.length : Nat)) (putF "block_size" (.int (bs : Nat)) (putF "heads" (.ref hd) []))))))) = H5 at sx5 hx5 ⊢
  have R5 : RepK K sch.length hd ρ H5 a := Rep.sameX R hro (by rw [hx5]; exact fun z => by cases z) sx5
  have hh5 := hh.sameX hx sx5
  have hL5 := hL.sameX hx sx5
  have hf5 : FrameAt K H5 f hd L := ⟨dxf, sx5 _ _ hfne hfx⟩
  obtain ⟨as, hA, hl, hc⟩ := id hh5
  have free5 : ∀ q, H5 q = none → H q = none := fun q hq => by
    cases e : H q with
    | none => rfl
    | some o =>
      by_cases z : q = x
      · rw [z, hx5] at hq; cases hq
      · rw [sx5 q o z e] at hq; cases hq
  refine ⟨_, rfl, x, _, dx, _, _, rfl, hx5, T.c_sheet kk, T.na_heads kk, rfl, hd, rfl, ⟨_, hA⟩, fun D hD => ?_⟩
  refine lc_it (walk_tup (xs := as.map V.ref)) (fun i H' => ∃ ρ' a' cs bl, Cols K sch.length hd ρ H5 a x rows bs i D ρ' H' a' cs bl)
    ⟨ρ, a, [], fun _ => [], Step.same (same_upd hD), R5.same (same_upd hD), rfl, fun _ _ h => h, fun _ _ h => .inl h, upd_same, R5.fr D hD, rfl, fun j c z => by simp at z, List.nodup_nil, fun j hj => absurd hj (Nat.not_lt_zero _), fun j k j' k' b hj => absurd hj (Nat.not_lt_zero _)⟩
    (fun i H' _ hp => by obtain ⟨_, _, _, _, C⟩ := hp; exact C.st.sqT hA) (fun i z H' H'' hi hp hy => ?_) fun H' hp => ?_
  · obtain ⟨rfl, hz⟩ := hy
    obtain ⟨ρ1, a1, cs, bl, C⟩ := hp
    obtain ⟨c, hci, rfl⟩ := get_map hz
    have hi' : i < sch.length := by rw [← hl]; simpa using hi
    obtain ⟨p, hp⟩ := lt_get hi'
    have hf6 : FrameAt K H'' f hd L := let ⟨d6, h6⟩ := hf5; ⟨d6, C.st.ot _ _ h6 hrf (fun z => z)⟩
    obtain ⟨dx6, hfx6⟩ := id hf6
    refine ⟨c, _, rfl, C.st.sqT (hc i c p hci hp), rfl, _, _, rfl, _, _, rfl, rfl, rfl, ?_⟩
    refine yes ?_
    refine ⟨_, rfl, f, dx6, _, rfl, hfx6, rfl, _, rfl, f, hd, L, sch, rows, i, p, rfl, hf6, hh5.step C.st, hs, hL5.step C.st, row_len hrow, by omega, hp, fun H2 q s2 hq => ?_⟩
    refine ⟨_, rfl, _, rfl, sch.length, hd, ρ1, a1, q, x, colOf i rows, bs, rfl, C.rep.same s2, SqT.of hq, by simp [colOf]; omega, h1, h2, fun ρ2 a2 H3 l bs2 hl2 C2 => ?_⟩
    have fr2 : ∀ q, H2 q = none → H5 q = none := fun q hq => C.st.free (s2.free hq)
    have hD3 : H3 D = some (.lst (cs.map V.ref)) := C2.st.ot D _ (s2 _ _ C.at_) C.ro (fun z => z)
    have hD3r : ρ2 D = .oth := (C2.st.ro D _ (s2 _ _ C.at_)).trans C.ro
    have lD : l ≠ D := fun z => by rw [z, s2 _ _ C.at_] at hl2; cases hl2
    refine ⟨_, hD3, by rw [List.length_map, C.len]; have := hs.le; omega, ρ2, a2, cs ++ [l], fun j => if j = i then bs2 else bl j, ⟨?_, C2.rep.updO hD3r, C2.sh.trans C.sh, fun b y e => C2.old b y (C.old b y e), fun b y e => ?_, by rw [upd_same]; simp, hD3r, by simp [C.len], fun j c' z => ?_, ?_, fun j hj => ?_, fun j k j' k' b hj hj' z z' => ?_⟩⟩
    · exact Step.updF ((C.st.trans (Step.same s2)).trans C2.st) hD
    · rcases C2.new b y e with h | h
      · exact C.new b y h
      · exact .inr h
    · by_cases hj : j < cs.length
      · rw [List.getElem?_append_left hj] at z
        obtain ⟨q1, q2, q3, q4⟩ := C.col j c' z
        have : j ≠ i := by have := C.len; omega
        rw [if_neg this, upd_ne q4]
        exact ⟨C2.st.ot c' _ (s2 _ _ q1) q2 (fun z => z), (C2.st.ro c' _ (s2 _ _ q1)).trans q2, q3, q4⟩
      · have : j = cs.length := by
          have := (List.getElem?_eq_some_iff.mp z).1
          rw [List.length_append] at this
          simp at this
          omega
        subst this
        rw [List.getElem?_append_right (Nat.le_refl _), Nat.sub_self] at z
        cases z
        rw [if_pos C.len, upd_ne lD]
        exact ⟨C2.at_, C2.ro, fr2 l hl2, lD⟩
    · refine List.nodup_append.mpr ⟨C.nd, List.nodup_cons.mpr ⟨by simp, List.nodup_nil⟩, fun b hb c' hc' z => ?_⟩
      rw [List.mem_singleton.mp hc'] at z
      obtain ⟨k, hk⟩ := List.mem_iff_getElem?.mp hb
      have := s2 _ _ (C.col k b hk).1
      rw [z, hl2] at this
      cases this
    · by_cases e : j = i
      · rw [if_pos e, e]
        refine ⟨?_, fun k b z => ?_⟩
        · have := C2.len
          simpa [colOf] using this
        · obtain ⟨q1, q2⟩ := C2.ce k b z
          exact ⟨R5.no_bk (R5.fr b (fr2 b q1)), q2⟩
      · rw [if_neg e]
        obtain ⟨q1, q2⟩ := C.bls j (by omega)
        refine ⟨q1, fun k b z => ?_⟩
        obtain ⟨q3, y, q4, q5⟩ := q2 k b z
        exact ⟨q3, y, C2.old b y q4, q5⟩
    · have notboth : ∀ k1 b j2 k2, bs2[k1]? = some b → j2 < i → (bl j2)[k2]? = some b → False := fun k1 b j2 k2 u1 u2 u3 => by
        obtain ⟨q1, _⟩ := C2.ce k1 b u1
        obtain ⟨_, y, q4, _⟩ := (C.bls j2 u2).2 k2 b u3
        have := C.rep.no_bk (C.rep.fr b (s2.free q1))
        rw [q4] at this
        cases this
      by_cases e : j = i
      · rw [if_pos e] at z
        by_cases e' : j' = i
        · rw [if_pos e'] at z'
          exact ⟨e.trans e'.symm, nd_ix C2.nd z z'⟩
        · rw [if_neg e'] at z'
          exact (notboth k b j' k' z (by omega) z').elim
      · rw [if_neg e] at z
        by_cases e' : j' = i
        · rw [if_pos e'] at z'
          exact (notboth k' b j k z' (by omega) z).elim
        · rw [if_neg e'] at z'
          exact C.inj j k j' k' b (by omega) (by omega) z z'
  · obtain ⟨ρ1, a1, cs, bl, C⟩ := hp
    rw [List.length_map, hl] at C
    have hx6 : H' x = _ := C.st.ot x _ hx5 hro (fun z => z)
    have hxr : ρ1 x = .oth := (C.st.ro x _ hx5).trans hro
    have Dx : D ≠ x := fun z => by rw [z, hx5] at hD; cases hD
    refine ⟨_, rfl, x, _, dx, _, rfl, hx6, T.c_sheet kk, T.na_parts kk, by show (5 : Nat) < 1000; decide, ?_⟩
    refine hQ ρ1 a1 _ D 0 cs bl ⟨?_, C.rep.updO hxr, C.sh, C.old, C.new, fun j hj => ⟨(C.bls j hj).1, fun k b z => ((C.bls j hj).2 k b z).2⟩, C.inj⟩
      ⟨upd_same, by rw [upd_ne Dx]; exact C.at_, C.ro, C.len, fun j c z => ?_, fun z => (by cases z), fun z => ?_, C.nd, fun z => (by cases z)⟩ (free5 D hD) (fun c hc' => ?_) (fun z => by cases z)
    · exact ((Step.sameX hx ⟨_, hx5⟩ sx5).trans (C.st.mono fun _ z => z.elim)).trans (Step.upd1 (.inr (.inl ⟨rfl, _, hx6, fun z => z⟩)))
    · obtain ⟨q1, q2, q3, q4⟩ := C.col j c z
      have : c ≠ x := fun z => by rw [z, hx5] at q3; cases q3
      rw [upd_ne this]
      exact ⟨q1, q2⟩
    · obtain ⟨k, hk⟩ := List.mem_iff_getElem?.mp z
      exact (C.col k D hk).2.2.2 rfl
    · obtain ⟨k, hk⟩ := List.mem_iff_getElem?.mp hc'
      exact free5 c (C.col k c hk).2.2.1
end LF
set_option Elab.async false
set_option linter.all false
set_option maxRecDepth 100000
set_option maxHeartbeats 4000000
/-! The makers of the other classes. -/
namespace LF
open PySem PySem.Spec PyProof.Rows L2 NdefX
variable {P : Program} {w : World} {K : PySem.W.Frag} {mg : Str → Option Value} {base : Heap}
theorem FunS.kb {F : NF} {kws : List (Str × V)} {D f : Addr} {fd : FuncData} {ps ks : List Str} {n : Nat} (S : FunS P K F kws D f fd)
    (h : ∀ (kV doc pm ctv : Value) (an : Option Addr) (us ws : List Value), us.length = n → ws.length = ks.length → bindArgs (fdS F kV doc pm ctv an) ⟨us, ks.zip ws⟩ = pure (ps.zip (us ++ ws))) :
    KBn K fd ps n ks (fun us ws => us ++ ws) (fun vs zs => vs ++ zs) := by
  obtain ⟨oc, od, kV, doc, pm, ctv, an, osl, rfl, _⟩ := S.ex
  exact ⟨fun s us ws X l1 l2 => .of_eq (h kV doc pm ctv an us ws l1 l2), fun r1 r2 => r1.append r2⟩
theorem FunS.bs {F : NF} {kws : List (Str × V)} {D f : Addr} {fd : FuncData} {ps : List Str} (S : FunS P K F kws D f fd)
    (h : ∀ (kV doc pm ctv : Value) (an : Option Addr) (us : List Value), us.length = ps.length → bindArgs (fdS F kV doc pm ctv an) ⟨us, []⟩ = pure (ps.zip us)) : Binds K fd ps [] := by
  obtain ⟨oc, od, kV, doc, pm, ctv, an, osl, rfl, _⟩ := S.ex
  exact .all (h kV doc pm ctv an)
theorem Raw.put {m : Nat} {hd : Addr} {ρ : Addr → Ro} {H : Hp} {x C dx : Addr} {k k' : Kd} {bs tot tot' : Nat} {pa na na' : Addr} {ns ns' : List V} {cs : List Addr} {bl : Nat → List Addr} (R : Raw K m hd ρ H x C dx k bs tot pa na ns cs bl)
    (hn : k'.nt = true → H na' = some (.lst ns') ∧ ρ na' = .oth ∧ na' ≠ pa ∧ na' ∉ cs) : Raw K m hd ρ (upd H x (.ins C dx (sheetFs k' hd bs tot' 0 true pa na'))) x C dx k' bs tot' pa na' ns' cs bl where
  at_ := upd_same
  hpa := by rw [upd_ne (ne_of R.hpa R.at_ (fun z => by cases z))]; exact R.hpa
  pr := R.pr
  len := R.len
  col j c e := ⟨by rw [upd_ne (ne_of (R.col j c e).1 R.at_ (fun z => by cases z))]; exact (R.col j c e).1, (R.col j c e).2⟩
  hna e := ⟨by rw [upd_ne (ne_of (hn e).1 R.at_ (fun z => by cases z))]; exact (hn e).1, (hn e).2.1⟩
  nc := R.nc
  nd := R.nd
  nn e := (hn e).2.2
theorem Made.put {m : Nat} {hd : Addr} {ρ ρ' : Addr → Ro} {H H' : Hp} {a a' : AS} {x : Addr} {rows : List (List V)} {bs : Nat} {bl : Nat → List Addr} {u o : HO} (M : Made K m hd ρ H a x rows bs ρ' H' a' bl) (hr : ρ' x = .oth) (hx : H' x = some u) (hu : ¬ Fixed u) :
    Made K m hd ρ H a x rows bs ρ' (upd H' x o) a' bl :=
  ⟨M.st.trans (Step.upd1 (.inr (.inl ⟨rfl, _, hx, hu⟩))), M.rep.updO hr, M.sh, M.old, M.new, M.bls, M.inj⟩
theorem Made.same {m : Nat} {hd : Addr} {ρ ρ' : Addr → Ro} {H H' H'' : Hp} {a a' : AS} {x : Addr} {rows : List (List V)} {bs : Nat} {bl : Nat → List Addr} (M : Made K m hd ρ H a x rows bs ρ' H' a' bl) (s : Same H' H'') :
    Made K m hd ρ H a x rows bs ρ' H'' a' bl :=
  ⟨M.st.trans (Step.same s), M.rep.same s, M.sh, M.old, M.new, M.bls, M.inj⟩
theorem Raw.same {m : Nat} {hd : Addr} {ρ : Addr → Ro} {H H' : Hp} {x C dx : Addr} {k : Kd} {bs tot : Nat} {pa na : Addr} {ns : List V} {cs : List Addr} {bl : Nat → List Addr} (R : Raw K m hd ρ H x C dx k bs tot pa na ns cs bl) (s : Same H H') : Raw K m hd ρ H' x C dx k bs tot pa na ns cs bl :=
  ⟨s _ _ R.at_, s _ _ R.hpa, R.pr, R.len, fun j c e => ⟨s _ _ (R.col j c e).1, (R.col j c e).2⟩, fun e => ⟨s _ _ (R.hna e).1, (R.hna e).2⟩, R.nc, R.nd, R.nn⟩

/-! ### BoundedSheet.__init__ -/
theorem sc_bdinit : NScope ["self", "frame", "block", "__class__"] ["self", "frame", "block"] ["__class__"] (defScope (inClass (top 53) 0)) := nscope_by (by decide +kernel)
theorem ok_bdinit (T : TX P K mg) (kk : Kd) (G : SupF K (cls K kk) (ga K "BoundedSheet") "__init__" (ma K "Sheet" "__init__")) : OkK P w K mg base 6 (ma K "BoundedSheet" "__init__") (spInit K kk .b) := by
  obtain ⟨cl, c, fd, S0⟩ := T.f_BoundedSheet___init__
  obtain ⟨fdI, FG, hb⟩ := ok_sinit (w := w) (base := base) T kk
  refine ⟨fd, S0.ok sc_bdinit (fun vs H Q E h => by obtain ⟨_, _, _, _, _, _, _, _, _, _, rfl, _⟩ := h; rfl) (fun A outer s H vs Q E hr h => ?_), S0.kb fun kV doc pm ctv an us ws h1 h2 => match us, h1 with | [_, _], _ => match ws, h2 with | [_], _ => rfl⟩
  refine ⟨_, pssa_cons (psa_expr (pea_superK (n := 1) (x0 := "self") (L := s.heap.objs.size) ⟨rfl, rfl, ⟨_, rfl, rfl⟩, rfl, rfl, rfl, T.b_super, T.stat, T.topSuper⟩ S0 G rfl FG hr hb pass0 (pa_cons (pv 1) pa_nil) (pk_cons (pv 2) pk_nil))) (pssa_of (pss_one (ps_fld (pv 0) pe_non rfl))), ?_⟩
  obtain ⟨hd, sch, ρ, a, x, dx, f, L, rows, bs, rfl, R, hro, hrf, hx, hf, hh, hs, hL, hrow, hle, h1, h2, hQ⟩ := h
  refine ⟨x, dx, [], rfl, hx, _, rfl, _, rfl, rfl, rfl, hd, sch, ρ, a, x, dx, f, L, rows, bs, rfl, R, hro, hrf, hx, hf, hh, hs, hL, hrow, hle, h1, h2, fun ρ' a' H' pa na cs bl M Rw f1 f2 f3 => ?_⟩
  have hxr : ρ' x = .oth := (M.st.ro x _ hx).trans hro
  refine ⟨_, rfl, x, _, dx, _, rfl, Rw.at_, T.c_sheet kk, T.na_bound kk, fs_few, ?_⟩
  exact hQ ρ' a' _ pa 0 cs bl (M.put hxr Rw.at_ fun z => z) (Rw.put (k' := .b) fun z => (by cases z)) f1 f2 fun z => (by cases z)
/-! ### NotedSheet.__init__ -/
theorem sc_ninit : NScope ["self", "frame", "block", "__class__"] ["self", "frame", "block"] ["__class__"] (defScope (inClass (top 52) 0)) := nscope_by (by decide +kernel)
theorem ok_ninit0 (T : TX P K mg) (kk k1 k2 : Kd) (hk : ∀ (hd : Addr) (bs tot : Nat) (pa na na' : Addr), putF "noted" (.ref na') (sheetFs k1 hd bs tot 0 true pa na) = sheetFs k2 hd bs tot 0 true pa na') {m : Str} (G : SupF K (cls K kk) (ga K "NotedSheet") "__init__" (ma K m "__init__")) (hI : OkK P w K mg base 6 (ma K m "__init__") (spInit K kk k1)) :
    OkK P w K mg base 7 (ma K "NotedSheet" "__init__") (spInit K kk k2) := by
  obtain ⟨cl, c, fd, S0⟩ := T.f_NotedSheet___init__
  obtain ⟨fdI, FG, hb⟩ := hI
  refine ⟨fd, S0.ok sc_ninit (fun vs H Q E h => by obtain ⟨_, _, _, _, _, _, _, _, _, _, rfl, _⟩ := h; rfl) (fun A outer s H vs Q E hr h => ?_), S0.kb fun kV doc pm ctv an us ws h1 h2 => match us, h1 with | [_, _], _ => match ws, h2 with | [_], _ => rfl⟩
  refine ⟨_, pssa_cons (psa_expr (pea_superK (n := 1) (x0 := "self") (L := s.heap.objs.size) ⟨rfl, rfl, ⟨_, rfl, rfl⟩, rfl, rfl, rfl, T.b_super, T.stat, T.topSuper⟩ S0 G rfl FG hr hb pass0 (pa_cons (pv 1) pa_nil) (pk_cons (pv 2) pk_nil))) (pssa_of (pss_one (ps_fld (pv 0) (pe_lst pa_nil) rfl))), ?_⟩
  obtain ⟨hd, sch, ρ, a, x, dx, f, L, rows, bs, rfl, R, hro, hrf, hx, hf, hh, hs, hL, hrow, hle, h1, h2, hQ⟩ := h
  refine ⟨x, dx, [], rfl, hx, _, rfl, _, rfl, rfl, rfl, hd, sch, ρ, a, x, dx, f, L, rows, bs, rfl, R, hro, hrf, hx, hf, hh, hs, hL, hrow, hle, h1, h2, fun ρ' a' H' pa na cs bl M Rw f1 f2 f3 => ?_⟩
  have hxr : ρ' x = .oth := (M.st.ro x _ hx).trans hro
  refine ⟨sz0, fun nl hnl => ?_⟩
  have s1 : Same H' (upd H' nl (.lst [])) := same_upd hnl
  have M1 := M.same s1
  have R1 := Rw.same s1
  refine ⟨_, rfl, x, _, dx, _, rfl, R1.at_, T.c_sheet kk, T.na_noted kk, fs_few, ?_⟩
  rw [hk]
  have n1 : nl ≠ pa := (ne_of_none Rw.hpa hnl).symm
  have n2 : nl ∉ cs := fun z => by
    obtain ⟨j, hj⟩ := List.mem_iff_getElem?.mp z
    have := (Rw.col j nl hj).1
    rw [hnl] at this
    cases this
  exact hQ ρ' a' _ pa nl cs bl (M1.put hxr R1.at_ fun z => z) (R1.put (k' := k2) (ns' := []) fun _ => ⟨upd_same, M.rep.fr nl hnl, n1, n2⟩) f1 f2 fun _ => M.st.free hnl
theorem OkK.mono {k k' : Nat} {f : Addr} {sp : Sp} (h : OkK P w K mg base k f sp) (hk : k ≤ k') : OkK P w K mg base k' f sp := by
  obtain ⟨fd, G, b⟩ := h
  exact ⟨fd, G.mono hk, b⟩
/-- the maker of each class -/
def iniOf : Kd → Str
  | .s => "Sheet" | .n => "NotedSheet" | .b => "BoundedSheet" | .nb => "NotedSheet"
theorem ok_init (T : TX P K mg) (kk : Kd) : OkK P w K mg base 7 (ma K (iniOf kk) "__init__") (spInit K kk kk) := by
  cases kk with
  | s => exact (ok_sinit T .s).mono (by decide)
  | n => exact ok_ninit0 T .n .s .n (fun _ _ _ _ _ _ => rfl) T.s_NotedSheet_NotedSheet___init__ ((ok_sinit T .n).mono (by decide))
  | b => exact (ok_bdinit T .b T.s_BoundedSheet_BoundedSheet___init__).mono (by decide)
  | nb => exact ok_ninit0 T .nb .b .nb (fun _ _ _ _ _ _ => rfl) T.s_NotedBoundedSheet_NotedSheet___init__ (ok_bdinit T .nb T.s_NotedBoundedSheet_BoundedSheet___init__)
theorem mk_of (T : TX P K mg) (kk : Kd) : Mk K (cls K kk) (ma K (iniOf kk) "__init__") := by
  cases kk with
  | s => exact T.mk_s
  | n => exact T.mk_n
  | b => exact T.mk_b
  | nb => exact T.mk_nb
end LF
set_option Elab.async false
set_option linter.all false
set_option maxRecDepth 100000
set_option maxHeartbeats 4000000
/-! A made sheet becomes the world's; blank, close, shared. -/
namespace LF
open PySem PySem.Spec PyProof.Rows L2
variable {P : Program} {w : World} {K : PySem.W.Frag} {mg : Str → Option Value} {base : Heap}
theorem Step.drop {ρ ρ' : Addr → Ro} {H0 H H' : Hp} {x : Addr} (a : Step (fun q => q = x) ρ H ρ' H') (s : Same H0 H) (h : H0 x = none) : Step none' ρ H0 ρ' H' where
  ro b o e := a.ro b o (s b o e)
  ot b o e r _ := a.ot b o (s b o e) r (fun z => by rw [z, h] at e; cases e)
  tr b o e := a.tr b o (s b o e)
  fx b o e f := a.fx b o (s b o e) f
/-- t holds none of the blocks of s -/
def Apart (m : Nat) (a : AS) (s t : Addr) : Prop := ∀ x, a.sh s = some x → ∀ (j k : Nat) (b : Addr), j < m → (x.bl j)[k]? = some b → ∀ y, a.bk b = some y → t ∉ y.ls
abbrev shOf (kk : Kd) (dx : Addr) (bs tot : Nat) (pa na : Addr) (ns : List V) (cs : List Addr) (bl : Nat → List Addr) : Sh := ⟨kk, dx, bs, tot, 0, true, pa, na, ns, cs, bl⟩
/-- the roles of a sheet's own things -/
theorem Raw.add {m : Nat} {hd : Addr} {ρ ρ' : Addr → Ro} {H0 H' : Hp} {x dx : Addr} {k : Kd} {bs tot : Nat} {pa na : Addr} {ns : List V} {cs : List Addr} {bl : Nat → List Addr} {a' : AS} (Rw : Raw K m hd ρ' H' x (cls K k) dx k bs tot pa na ns cs bl) (R : RepK K m hd ρ' H' a') (hx : ρ' x = .oth)
    (st : Step none' ρ H0 ρ' H') (x0 : H0 x = none) (p0 : H0 pa = none) (c0 : ∀ c ∈ cs, H0 c = none) (n0 : k.nt = true → H0 na = none) :
    ∃ ρ'', Step none' ρ H0 ρ'' H' ∧ RepK K m hd ρ'' H' (a'.setS x (shOf k dx bs tot pa na ns cs bl)) := by
  obtain ⟨ρ'', h1, h2⟩ := R.addS (s := x) (x := shOf k dx bs tot pa na ns cs bl) hx Rw.pr (fun c hc => by
      obtain ⟨j, hj⟩ := List.mem_iff_getElem?.mp hc
      exact (Rw.col j c hj).2) (fun e => (Rw.hna e).2) Rw.at_ Rw.hpa Rw.len (fun j c e => (Rw.col j c e).1) (fun e => ⟨(Rw.hna e).1, (Rw.nn e).1, (Rw.nn e).2⟩) Rw.nc Rw.nd
  exact ⟨ρ'', st.role fun q hq => h2 q (fun z => hq (by rw [z]; exact x0)) (fun z => hq (by rw [z]; exact p0)) (fun z => hq (c0 q z)) (fun e z => hq (by rw [z]; exact n0 e)), h1⟩
theorem register {m N : Nat} {hd : Addr} {ρ ρ' : Addr → Ro} {H0 H H' : Hp} {a a' : AS} {TS : TSt} {x dx : Addr} {kk : Kd} {rows : List (List V)} {bs : Nat} {bl : Nat → List Addr} {pa na : Addr} {cs : List Addr}
    (T0 : Tok m N a TS) (R0 : RepK K m hd ρ H a) (sH : Same H0 H) (x0 : H0 x = none) (hro : ρ x = .oth) (hx : ∃ o, H x = some o) (M : Made K m hd ρ H a x rows bs ρ' H' a' bl) (Rw : Raw K m hd ρ' H' x (cls K kk) dx kk bs rows.length pa na [] cs bl)
    (p0 : H pa = none) (c0 : ∀ c ∈ cs, H c = none) (n0 : kk.nt = true → H na = none) (h1 : 1 ≤ bs) (h2 : bs ≤ 100) (hN : rows.length ≤ N) (hN1 : 1 ≤ N) :
    ∃ ρ'' x', Step none' ρ H0 ρ'' H' ∧ RepK K m hd ρ'' H' (a'.setS x x') ∧ Tok m N (a'.setS x x') (updT TS x (some (fun j => colOf j rows, rows.length))) ∧ x'.kd = kk ∧ a.sh x = none ∧
      (∀ t D n, TS t = some (D, n) → Apart m (a'.setS x x') t x ∧ Apart m (a'.setS x x') x t) := by
  obtain ⟨ox, hx⟩ := hx
  have ax : a.sh x = none := R0.no_sh hro
  obtain ⟨ρ'', q1, q2⟩ := Rw.add M.rep ((M.st.ro x ox hx).trans hro) (M.st.drop sH x0) x0 (sH.free p0) (fun c hc => sH.free (c0 c hc)) (fun e => sH.free (n0 e))
  have hs : ∀ u, (a.sh u).isSome → ((a'.setS x (shOf kk dx bs rows.length pa na [] cs bl)).sh u).isSome := fun u h => isSome_setS (by rw [M.sh]; exact h)
  have he : ∀ u, (a.sh u).isSome → (a'.setS x (shOf kk dx bs rows.length pa na [] cs bl)).sh u = a.sh u := fun u h => by
    rw [setS_ne (fun z => by rw [z, ax] at h; cases h), M.sh]
  refine ⟨ρ'', _, q1, q2, ?_, rfl, ax, fun t D n et => ?_⟩
  · refine T0.add ax hs he setS_same (Nat.le_refl _) (fun c y e => ⟨y, M.old c y e, rfl, .inl rfl⟩) ⟨rfl, h1, h2, hN, Nat.zero_le _, fun j hj => by simp [colOf]; exact hN, fun j hj => ?_, fun j k b hj e => ?_, M.inj⟩
    · show (bl j).length = nbl (colOf j rows).length bs
      rw [(M.bls j hj).1]
      simp [colOf]
    · obtain ⟨y, f1, f2, f3⟩ := (M.bls j hj).2 k b e
      refine ⟨y, f1, f2, by rw [f3]; exact List.mem_singleton.mpr rfl, by rw [f3]; exact hN1, fun u hu => ?_⟩
      rw [f3] at hu
      rw [List.mem_singleton.mp hu, setS_same]
      rfl
  · obtain ⟨xt, g1, g2, S⟩ := T0 t D n et
    have htx : t ≠ x := fun z => by rw [z, ax] at g1; cases g1
    constructor
    · intro xt' e j k b hj eb y ey hm
      rw [he t (by rw [g1]; rfl), g1] at e
      cases e
      obtain ⟨y0, f1, _, _, _, f5⟩ := S.ce j k b hj eb
      have := M.old b y0 f1
      rw [show (a'.setS x _).bk b = a'.bk b from rfl, this] at ey
      cases ey
      have := f5 x hm
      rw [ax] at this
      cases this
    · intro xt' e j k b hj eb y ey hm
      rw [setS_same] at e
      cases e
      obtain ⟨y0, f1, _, f3⟩ := (M.bls j hj).2 k b eb
      rw [show (a'.setS x _).bk b = a'.bk b from rfl, f1] at ey
      cases ey
      rw [f3] at hm
      exact htx (List.mem_singleton.mp hm)

/-! ### blank -/
/-- a raw sheet without rows -/
def spBlank (K : PySem.W.Frag) (kk : Kd) : Sp := fun vs H Q _ => ∃ (hd : Addr) (sch : Sch) (ρ : Addr → Ro) (a : AS) (s : Addr) (x : Sh), vs = [.ref s] ∧ RepK K sch.length hd ρ H a ∧ a.sh s = some x ∧ Hd K H hd sch ∧ SchOk sch ∧ 1 ≤ x.bs ∧ x.bs ≤ 100 ∧
  ∀ ρ' a' H' y dx pa na cs bl, Step none' ρ H ρ' H' → RepK K sch.length hd ρ' H' a' → a'.sh = a.sh → (∀ b v, a.bk b = some v → a'.bk b = some v) → Raw K sch.length hd ρ' H' y (cls K kk) dx kk x.bs 0 pa na [] cs bl → ρ' y = .oth →
    H y = none → H pa = none → (∀ c ∈ cs, H c = none) → (kk.nt = true → H na = none) → Q (.ref y) H'
theorem sc_blank1 : FnScope ["self"] ["self"] (defScope (inClass (top 51) 15)) := ⟨rfl, rfl, rfl, by decide +kernel, rfl, by decide +kernel, by decide +kernel⟩
theorem sc_blank2 : FnScope ["self"] ["self"] (defScope (inClass (top 52) 3)) := ⟨rfl, rfl, rfl, by decide +kernel, rfl, by decide +kernel, by decide +kernel⟩
theorem sc_blank3 : FnScope ["self"] ["self"] (defScope (inClass (top 53) 5)) := ⟨rfl, rfl, rfl, by decide +kernel, rfl, by decide +kernel, by decide +kernel⟩
theorem sc_blank4 : FnScope ["self"] ["self"] (defScope (inClass (top 54) 0)) := ⟨rfl, rfl, rfl, by decide +kernel, rfl, by decide +kernel, by decide +kernel⟩
/-- the reading of its one expression -/
theorem blank_read (T : TX P K mg) {kk : Kd} {s : V} {H : Hp} {Q : VK} {E : XK} (h : spBlank K kk [s] H Q E) :
    tMakeK (cls K kk) 1 1 (spInit K kk kk) (fun vs zs => vs ++ zs) E0 (tCons (tCall (spBFrame K) [] E0 (tCons (tFld K (tVar 0) "heads") tNil)) tNil) (tCons (tFld K (tVar 0) "block_size") tNil) [some s] H Q := by
  obtain ⟨hd, sch, ρ, a, s, x, es, R, ex, hh, hs, h1, h2, hQ⟩ := h
  cases es
  have RS := R.sh s x ex
  refine ⟨_, rfl, s, _, _, _, _, rfl, RS.at_, T.c_sheet _, T.na_heads _, rfl, hd, sch, rfl, hh, hs, fun H1 f L s1 nf hf hL => ?_⟩
  have R1 := R.same s1
  have RS1 := R1.sh s x ex
  refine ⟨_, rfl, s, _, _, _, _, rfl, RS1.at_, T.c_sheet _, T.na_block_size _, rfl, rfl, rfl, fun y dx ny nd hne => ?_⟩
  have s2 := same_made (C := cls K kk) ny nd
  have s12 := s1.trans s2
  refine ⟨hd, sch, ρ, a, y, dx, f, L, [], x.bs, rfl, R1.same s2, R1.fr y ny, R.fr f nf, upd_same, hf.same s2, hh.same s12, hs, hL.same s2, fun r hr => by simp at hr, by simp, h1, h2, fun ρ' a' H' pa na cs bl M Rw p0 c0 n0 => ⟨rfl, ?_⟩⟩
  exact hQ ρ' a' H' y dx pa na cs bl (M.st.drop s12 (s1.free ny)) M.rep M.sh M.old Rw ((M.st.ro y _ upd_same).trans (R1.fr y ny)) (s1.free ny) (s12.free p0) (fun c hc => s12.free (c0 c hc)) (fun e => s12.free (n0 e))
theorem ok_blank (T : TX P K mg) (kk : Kd) : Ok P w K mg base 9 (ma K (at_blank kk) "blank") ["self"] (spBlank K kk) := by
  have O1 : Ok P w K mg base 8 (ga K "blank_frame") ["heads"] (spBFrame K) := ok_bframe T
  obtain ⟨fdI, G, kb⟩ := ok_init (w := w) (base := base) T kk
  cases kk with
  | s =>
    obtain ⟨fd, F⟩ := T.f_Sheet_blank
    refine ⟨fd, F.ok sc_blank1 (fun vs H Q E h => by obtain ⟨_, _, _, _, _, _, rfl, _⟩ := h; rfl) (fun cdv A outer s H vs Q E hr h => ?_), F.binds fun _ _ _ _ _ _ us hl => match us, hl with | [_], _ => rfl⟩
    refine ⟨_, pss_one (ps_ret (pe_makeK (n := 1) (mk_of T .s) G hr (by rfl) T.g_Sheet kb pass0 (pa_cons (pe_callO O1 T.f_blank_frame.kp hr (by rfl) T.g_blank_frame (pa_cons (pe_fld (pv 0) rfl) pa_nil)) pa_nil) (pk_cons (pe_fld (pv 0) rfl) pk_nil))), ?_⟩
    obtain ⟨s, rfl⟩ : ∃ s, vs = [s] := by obtain ⟨_, _, _, _, _, _, e, _⟩ := id h; exact ⟨_, e⟩
    exact blank_read (E := E) T h
  | n =>
    obtain ⟨fd, F⟩ := T.f_NotedSheet_blank
    refine ⟨fd, F.ok sc_blank2 (fun vs H Q E h => by obtain ⟨_, _, _, _, _, _, rfl, _⟩ := h; rfl) (fun cdv A outer s H vs Q E hr h => ?_), F.binds fun _ _ _ _ _ _ us hl => match us, hl with | [_], _ => rfl⟩
    refine ⟨_, pss_one (ps_ret (pe_makeK (n := 1) (mk_of T .n) G hr (by rfl) T.g_NotedSheet kb pass0 (pa_cons (pe_callO O1 T.f_blank_frame.kp hr (by rfl) T.g_blank_frame (pa_cons (pe_fld (pv 0) rfl) pa_nil)) pa_nil) (pk_cons (pe_fld (pv 0) rfl) pk_nil))), ?_⟩
    obtain ⟨s, rfl⟩ : ∃ s, vs = [s] := by obtain ⟨_, _, _, _, _, _, e, _⟩ := id h; exact ⟨_, e⟩
    exact blank_read (E := E) T h
  | b =>
    obtain ⟨fd, F⟩ := T.f_BoundedSheet_blank
    refine ⟨fd, F.ok sc_blank3 (fun vs H Q E h => by obtain ⟨_, _, _, _, _, _, rfl, _⟩ := h; rfl) (fun cdv A outer s H vs Q E hr h => ?_), F.binds fun _ _ _ _ _ _ us hl => match us, hl with | [_], _ => rfl⟩
    refine ⟨_, pss_one (ps_ret (pe_makeK (n := 1) (mk_of T .b) G hr (by rfl) T.g_BoundedSheet kb pass0 (pa_cons (pe_callO O1 T.f_blank_frame.kp hr (by rfl) T.g_blank_frame (pa_cons (pe_fld (pv 0) rfl) pa_nil)) pa_nil) (pk_cons (pe_fld (pv 0) rfl) pk_nil))), ?_⟩
    obtain ⟨s, rfl⟩ : ∃ s, vs = [s] := by obtain ⟨_, _, _, _, _, _, e, _⟩ := id h; exact ⟨_, e⟩
    exact blank_read (E := E) T h
  | nb =>
    obtain ⟨fd, F⟩ := T.f_NotedBoundedSheet_blank
    refine ⟨fd, F.ok sc_blank4 (fun vs H Q E h => by obtain ⟨_, _, _, _, _, _, rfl, _⟩ := h; rfl) (fun cdv A outer s H vs Q E hr h => ?_), F.binds fun _ _ _ _ _ _ us hl => match us, hl with | [_], _ => rfl⟩
    refine ⟨_, pss_one (ps_ret (pe_makeK (n := 1) (mk_of T .nb) G hr (by rfl) T.g_NotedBoundedSheet kb pass0 (pa_cons (pe_callO O1 T.f_blank_frame.kp hr (by rfl) T.g_blank_frame (pa_cons (pe_fld (pv 0) rfl) pa_nil)) pa_nil) (pk_cons (pe_fld (pv 0) rfl) pk_nil))), ?_⟩
    obtain ⟨s, rfl⟩ : ∃ s, vs = [s] := by obtain ⟨_, _, _, _, _, _, e, _⟩ := id h; exact ⟨_, e⟩
    exact blank_read (E := E) T h

/-! ### close -/
theorem sc_close : FnScope ["self"] ["self"] (defScope (inClass (top 51) 18)) := ⟨rfl, rfl, rfl, by decide +kernel, rfl, by decide +kernel, by decide +kernel⟩
def spClose (K : PySem.W.Frag) : Sp := fun vs H Q _ => ∃ (m : Nat) (hd : Addr) (ρ : Addr → Ro) (a : AS) (N : Nat) (TS : TSt) (s : Addr) (x : Sh), vs = [.ref s] ∧ RepK K m hd ρ H a ∧ Tok m N a TS ∧ a.sh s = some x ∧ x.op = true ∧
  ∀ a' H', Step none' ρ H ρ H' → RepK K m hd ρ H' a' → Tok m N a' (updT TS s none) → Q .non H'
theorem ok_close (T : TX P K mg) : Ok P w K mg base 2 (ma K "Sheet" "close") ["self"] (spClose K) := by
  obtain ⟨fd, F⟩ := T.f_Sheet_close
  have O1 : Ok P w K mg base 1 (ma K "Sheet" "check_open") ["self"] (spOpen K) := ok_copen T
  refine ⟨fd, F.ok sc_close (fun vs H Q E h => by obtain ⟨_, _, _, _, _, _, _, _, rfl, _⟩ := h; rfl) (fun cdv A outer s H vs Q E hr h => ?_), F.binds fun _ _ _ _ _ _ us hl => match us, hl with | [_], _ => rfl⟩
  obtain ⟨m, hd, ρ, a, N, TS, s, x, rfl, R, Tk, ex, ho, hQ⟩ := h
  refine ⟨_, pss_cons (ps_expr (pe_mS0 O1 (pv 0) T.c_sheet T.m_check_open hr)) (pss_one (ps_fld (pv 0) pe_bl rfl)), ?_⟩
  have RS := R.sh s x ex
  refine ⟨_, rfl, _, s, _, _, rfl, RS.at_, lm_check_open, s, x, hd, rfl, RS.at_, ho, ?_⟩
  refine ⟨_, rfl, s, _, _, _, rfl, RS.at_, T.c_sheet _, T.na_opened _, fs_few, ?_⟩
  have R1 := R.fields ex x.tot x.made false
  exact hQ _ _ (stepS RS.r0 RS.at_ fun z => z) R1 Tk.close
end LF
set_option Elab.async false
set_option linter.all false
set_option maxRecDepth 100000
set_option maxHeartbeats 4000000
/-! hold: the blocks of another sheet are held too. -/
namespace LF
open PySem PySem.Spec PyProof.Rows L2 NdefX
variable {P : Program} {w : World} {K : PySem.W.Frag} {mg : Str → Option Value} {base : Heap}
/-- the blocks of S have y in their lists too -/
structure HeldP (S : Addr → Prop) (a : AS) (y : Addr) (a' : AS) : Prop where
  sh : a'.sh = a.sh
  yes : ∀ b v, S b → a.bk b = some v → a'.bk b = some { v with ls := v.ls ++ [y] }
  no : ∀ b v, ¬ S b → a.bk b = some v → a'.bk b = some v
/-- the first i columns, and k blocks of the next -/
def done (m : Nat) (x : Sh) (i k : Nat) (b : Addr) : Prop := ∃ j k', j < m ∧ (j < i ∨ (j = i ∧ k' < k)) ∧ (x.bl j)[k']? = some b
theorem HeldP.imp {S S' : Addr → Prop} {a a' : AS} {y : Addr} (h : HeldP S a y a') (e : ∀ b, S b ↔ S' b) : HeldP S' a y a' := ⟨h.sh, fun b v s => h.yes b v ((e b).mpr s), fun b v s => h.no b v (fun z => s ((e b).mp z))⟩
def spHold (K : PySem.W.Frag) (kk : Kd) : Sp := fun vs H Q _ => ∃ (m : Nat) (hd : Addr) (ρ : Addr → Ro) (a : AS) (N : Nat) (s y dx pa na : Addr) (x : Sh) (D : Nat → List V) (cs : List Addr) (bl : Nat → List Addr), vs = [.ref y, .ref s] ∧
  RepK K m hd ρ H a ∧ a.sh s = some x ∧ x.kd = kk ∧ Sok m N a s x D ∧ Raw K m hd ρ H y (cls K kk) dx kk x.bs 0 pa na [] cs bl ∧ ρ y = .oth ∧ N ≤ 900 ∧ m ≤ 4 ∧
  ∀ a' H' pa' na' ns' cs', Step (fun q => q = y) ρ H ρ H' → RepK K m hd ρ H' a' → HeldP (done m x m 0) a y a' → Raw K m hd ρ H' y (cls K kk) dx kk x.bs x.tot pa' na' ns' cs' x.bl → H pa' = none → (∀ c ∈ cs', H c = none) → (na' = na ∨ H na' = none) → ns'.length ≤ N → Q .non H'
theorem sc_hold : FnScope ["self", "sheet", "blocks", "block"] ["self", "sheet"] (defScope (inClass (top 51) 16)) := ⟨rfl, rfl, rfl, by decide +kernel, rfl, by decide +kernel, by decide +kernel⟩
theorem ok_hold0 (T : TX P K mg) (kk : Kd) : Ok P w K mg base 1 (ma K "Sheet" "hold") ["self", "sheet"] (spHold K kk) := by
  obtain ⟨fd, F⟩ := T.f_Sheet_hold
  refine ⟨fd, F.ok sc_hold (fun vs H Q E h => by obtain ⟨_, _, _, _, _, _, _, _, _, _, _, _, _, _, rfl, _⟩ := h; rfl) (fun cdv A outer s H vs Q E hr h => ?_), F.binds fun _ _ _ _ _ _ us hl => match us, hl with | [_, _], _ => rfl⟩
  obtain ⟨m, hd, ρ, a, N, s, y, dx, pa, na, x, D, cs, bl, rfl, R, ex, hk, S, Rw, hry, hN, hm, hQ⟩ := h
  refine ⟨_, pss_cons (ps_fld (pv 0) (pe_fld (pv 1) rfl) rfl)
    (pss_cons (ps_fld (pv 0) (pe_lc (own := [("blocks", 2)]) (g := gName 2) (tt := tYes) (by rfl) sc_hold.nd (pi_list (pe_fld (pv 1) rfl)) (blkOk_by (own := [("blocks", 2)]) (N := ["self", "sheet", "blocks", "block"]) (sc := defScope (inClass (top 51) 16)) (by decide +kernel))
        (fun _ _ _ _ _ => pg_name (i := 2) sc_hold.nd rfl (Or.inl rfl)) (fun _ _ _ _ _ => pts_nil)
        (fun _ _ _ _ _ => pe_callTy (T := "list") (r := fun xs H Q => ∃ p ys, xs = [.ref p] ∧ (SqL K H p ys ∨ SqT K H p ys) ∧ ∀ l, H l = none → Q (.ref l) (upd H l (.lst ys))) call_list_of (by rfl) T.b_list boot_list (pa_cons (pv 2) pa_nil))) rfl)
    (pss_one (ps_for PassesOwn.never rfl (pi_list (pe_fld (pv 0) rfl)) (pg_name (i := 2) sc_hold.nd rfl (.inl rfl))
      (pss_one (ps_for PassesOwn.never rfl (pi_list (pv 2)) (pg_name (i := 3) sc_hold.nd rfl (.inl rfl))
        (pss_one (ps_expr (pe_bm PySem.F.plainAttrs_list PySem.F.slot_list_append PySem.F.type_list_append mt_append (pe_fld (pv 3) rfl) (pa_cons (pv 0) pa_nil))))))))), ?_⟩
  have RS := R.sh s x ex
  have hs0 : sizeLine = 16777216 := sizeLine_eq
  have b1 := S.b1
  have hys : y ≠ s := fun z => by rw [z, RS.r0] at hry; cases hry
  -- total
  refine ⟨_, rfl, s, _, _, _, _, rfl, RS.at_, T.c_sheet _, T.na_total _, rfl, _, rfl, y, _, dx, _, rfl, Rw.at_, T.c_sheet kk, T.na_total kk, fs_few, ?_⟩
  rw [pf_total]
  have Rw1 := Rw.put (k' := kk) (tot' := x.tot) (na' := na) (ns' := []) fun e => ⟨(Rw.hna e).1, (Rw.hna e).2, Rw.nn e⟩
  have R1 := R.updO (p := y) (o := .ins (cls K kk) dx (sheetFs kk hd x.bs x.tot 0 true pa na)) hry
  have st1 : Step (fun q => q = y) ρ H ρ (upd H y (.ins (cls K kk) dx (sheetFs kk hd x.bs x.tot 0 true pa na))) := Step.upd1 (.inr (.inl ⟨rfl, _, Rw.at_, fun z => z⟩))
  generalize upd H y (.ins (cls K kk) dx (sheetFs kk hd x.bs x.tot 0 true pa na)) = H1 at Rw1 R1 st1 ⊢
  have RS1 := R1.sh s x ex
  -- parts
  refine ⟨_, rfl, s, _, _, _, _, rfl, RS1.at_, T.c_sheet _, T.na_parts _, rfl, x.pa, rfl, ⟨_, SqL.of RS1.pa⟩, fun Dl hDl => ?_⟩
  refine lc_it (walk_list (xs := x.cs.map V.ref)) (fun i H' => ∃ cs' : List Addr, Same H1 H' ∧ H' Dl = some (.lst (cs'.map V.ref)) ∧ cs'.length = i ∧ (∀ (j : Nat) (c : Addr), cs'[j]? = some c → H' c = some (.lst ((x.bl j).map V.ref)) ∧ H1 c = none ∧ c ≠ Dl) ∧ cs'.Nodup)
    ⟨[], same_upd hDl, upd_same, rfl, fun j c z => by simp at z, List.nodup_nil⟩ (fun i H' _ hp => by obtain ⟨_, s1, _⟩ := hp; exact SqL.of (s1 _ _ RS1.pa)) (fun i z H' H'' hi hp hy => ?_) fun H2 hp => ?_
  · obtain ⟨rfl, hz⟩ := hy
    obtain ⟨cs', s1, hD1, hcl, hcc, hnd⟩ := hp
    obtain ⟨c, hc, rfl⟩ := get_map hz
    obtain ⟨hcol, _⟩ := RS1.col i c hc
    have him : i < m := by rw [← RS1.len]; simpa using hi
    refine ⟨rfl, ?_⟩
    refine yes ?_
    refine ⟨_, rfl, c, _, rfl, .inl (SqL.of (s1 _ _ hcol)), fun l hl => ?_⟩
    have lD : Dl ≠ l := ne_of_none hD1 hl
    refine ⟨_, (by rw [upd_ne lD]; exact hD1), by rw [List.length_map, hcl]; omega, cs' ++ [l], fun q o z => ?_, by rw [upd_same]; simp, by simp [hcl], fun j c' z => ?_, ?_⟩
    · have q1 : q ≠ Dl := ne_of_none z hDl
      have q2 : q ≠ l := ne_of_none (s1 _ _ z) hl
      rw [upd_ne q1, upd_ne q2]
      exact s1 _ _ z
    · by_cases hj : j < cs'.length
      · rw [List.getElem?_append_left hj] at z
        obtain ⟨q1, q2, q3⟩ := hcc j c' z
        rw [upd_ne q3, upd_ne (ne_of_none q1 hl)]
        exact ⟨q1, q2, q3⟩
      · have : j = cs'.length := by
          have := (List.getElem?_eq_some_iff.mp z).1
          rw [List.length_append] at this
          simp at this
          omega
        subst this
        rw [List.getElem?_append_right (Nat.le_refl _), Nat.sub_self] at z
        cases z
        rw [upd_ne lD.symm, upd_same, hcl]
        exact ⟨rfl, s1.free hl, lD.symm⟩
    · refine List.nodup_append.mpr ⟨hnd, List.nodup_cons.mpr ⟨by simp, List.nodup_nil⟩, fun b hb c' hc' z => ?_⟩
      rw [List.mem_singleton.mp hc'] at z
      obtain ⟨k, hk⟩ := List.mem_iff_getElem?.mp hb
      have := (hcc k b hk).1
      rw [z, hl] at this
      cases this
  obtain ⟨cs', s1, hD1, hcl, hcc, hnd⟩ := hp
  rw [List.length_map, RS1.len] at hcl
  have Rw2 := Rw1.same s1
  have R2 := R1.same s1
  have Dy : Dl ≠ y := fun z => by rw [z, Rw1.at_] at hDl; cases hDl
  refine ⟨_, rfl, y, _, dx, _, rfl, Rw2.at_, T.c_sheet kk, T.na_parts kk, fs_few, ?_⟩
  rw [pf_parts]
  have cy : ∀ c j, cs'[j]? = some c → c ≠ y := fun c j e z => by
    have := (hcc j c e).2.1
    rw [z, Rw1.at_] at this
    cases this
  have Rw3 : Raw K m hd ρ (upd H2 y (.ins (cls K kk) dx (sheetFs kk hd x.bs x.tot 0 true Dl na))) y (cls K kk) dx kk x.bs x.tot Dl na [] cs' x.bl := by
    refine ⟨upd_same, by rw [upd_ne Dy]; exact hD1, R1.fr Dl hDl, hcl, fun j c e => ⟨by rw [upd_ne (cy c j e)]; exact (hcc j c e).1, R1.fr c (hcc j c e).2.1⟩, fun e => ⟨by rw [upd_ne (ne_of (Rw2.hna e).1 Rw2.at_ (fun z => by cases z))]; exact (Rw2.hna e).1, (Rw2.hna e).2⟩, fun z => ?_, hnd, fun e => ⟨fun z => ?_, fun z => ?_⟩⟩
    · obtain ⟨j, hj⟩ := List.mem_iff_getElem?.mp z
      exact (hcc j Dl hj).2.2 rfl
    · have := (Rw1.hna e).1
      rw [z, hDl] at this
      cases this
    · obtain ⟨j, hj⟩ := List.mem_iff_getElem?.mp z
      have := (Rw1.hna e).1
      rw [(hcc j na hj).2.1] at this
      cases this
  have R3 := R2.updO (p := y) (o := .ins (cls K kk) dx (sheetFs kk hd x.bs x.tot 0 true Dl na)) hry
  have st3 : Step (fun q => q = y) ρ H ρ (upd H2 y (.ins (cls K kk) dx (sheetFs kk hd x.bs x.tot 0 true Dl na))) := (st1.trans (Step.same s1)).trans (Step.upd1 (.inr (.inl ⟨rfl, _, Rw2.at_, fun z => z⟩)))
  have fr1 : ∀ q, H1 q = none → H q = none := fun q hq => st1.free hq
  have fcs : ∀ c ∈ cs', H c = none := fun c hc => by
    obtain ⟨j, hj⟩ := List.mem_iff_getElem?.mp hc
    exact fr1 c (hcc j c hj).2.1
  have fD := fr1 Dl hDl
  clear Rw1 Rw2 s1 hcc hD1 hDl
  generalize upd H2 y (.ins (cls K kk) dx (sheetFs kk hd x.bs x.tot 0 true Dl na)) = H3 at Rw3 R3 st3 ⊢
  -- the lists of sheets
  refine ⟨_, rfl, y, _, dx, _, _, rfl, Rw3.at_, T.c_sheet kk, T.na_parts kk, rfl, Dl, rfl, ⟨_, SqL.of Rw3.hpa⟩, ?_⟩
  refine for_it (walk_list (xs := cs'.map V.ref)) (fun i σ H' => (∃ c d, σ = [some (.ref y), some (.ref s), c, d]) ∧ ∃ a', Step none' ρ H3 ρ H' ∧ RepK K m hd ρ H' a' ∧ HeldP (done m x i 0) a y a')
    ⟨⟨_, _, rfl⟩, a, Step.refl, R3, rfl, fun b v hb => ?_, fun b v _ e => e⟩ (fun i σ H' _ p => ?_) (fun i z σ H4 H5 hi p hy => ?_) fun σ H4 p => ?_
  · obtain ⟨j, k', _, h, _⟩ := hb
    omega
  · obtain ⟨_, a', st, _⟩ := p
    exact SqL.of (st.ot _ _ Rw3.hpa Rw3.pr (fun z => z))
  · obtain ⟨⟨c0, d0, rfl⟩, a', st4, R4, Hl⟩ := p
    obtain ⟨rfl, hz⟩ := hy
    obtain ⟨c, hc, rfl⟩ := get_map hz
    have him : i < m := by rw [← hcl]; simpa using hi
    obtain ⟨hcol, hcr⟩ := Rw3.col i c hc
    have hcol4 := st4.ot _ _ hcol hcr (fun z => z)
    refine ⟨_, rfl, c, rfl, ⟨_, SqL.of hcol4⟩, ?_⟩
    refine for_it (walk_list (xs := (x.bl i).map V.ref)) (fun k σ H' => (∃ d, σ = [some (.ref y), some (.ref s), some (.ref c), d]) ∧ ∃ a', Step none' ρ H3 ρ H' ∧ RepK K m hd ρ H' a' ∧ HeldP (done m x i k) a y a')
      ⟨⟨_, rfl⟩, a', st4, R4, Hl⟩ (fun k σ H' _ p => ?_) (fun k z σ H6 H7 hk p hy => ?_) fun σ H6 p => ?_
    · obtain ⟨_, a', st, _⟩ := p
      exact SqL.of (st.ot _ _ hcol hcr (fun z => z))
    · obtain ⟨⟨d1, rfl⟩, a6, st6, R6, H6l⟩ := p
      obtain ⟨rfl, hz'⟩ := hy
      obtain ⟨b, hb, rfl⟩ := get_map hz'
      obtain ⟨v, ev, _, _, hvl, _⟩ := S.ce i k b him hb
      have hnot : ¬ done m x i k b := fun ⟨j, k', hj, h, e⟩ => by
        obtain ⟨rfl, rfl⟩ := S.inj j k' i k b hj him e hb
        omega
      have ev6 := H6l.no b v hnot ev
      have RB := R6.bk b v ev6
      refine ⟨_, rfl, b, _, _, _, _, rfl, RB.at_, T.c_Block, T.na_Block_sheets, rfl, .inl ⟨rfl, _, SqL.of RB.sl⟩, _, rfl, v.sl, _, _, rfl, rfl, RB.sl, by rw [List.length_map]; omega, ?_⟩
      rw [show (v.ls.map V.ref) ++ [V.ref y] = (v.ls ++ [y]).map V.ref by simp]
      refine ⟨⟨_, rfl⟩, _, st6.trans (stepB RB.r2 RB.sl fun z => z), R6.sheets ev6 (v.ls ++ [y]), H6l.sh, fun b' v' hb' e => ?_, fun b' v' hb' e => ?_⟩
      · by_cases q : b' = b
        · subst q
          rw [ev] at e
          cases e
          exact setB_same
        · rw [setB_ne q]
          refine H6l.yes b' v' ?_ e
          obtain ⟨j, k', hj, h, e'⟩ := hb'
          refine ⟨j, k', hj, ?_, e'⟩
          rcases h with h | ⟨h1, h2⟩
          · exact .inl h
          · subst h1
            refine .inr ⟨rfl, ?_⟩
            rcases Nat.lt_or_ge k' k with h3 | h3
            · exact h3
            · have : k' = k := by omega
              subst this
              rw [hb] at e'
              exact absurd (Option.some.inj e').symm q
      · have q : b' ≠ b := fun z => hb' ⟨i, k, him, .inr ⟨rfl, by omega⟩, by rw [z]; exact hb⟩
        rw [setB_ne q]
        exact H6l.no b' v' (fun ⟨j, k', hj, h, e'⟩ => hb' ⟨j, k', hj, h.elim .inl fun h => .inr ⟨h.1, by omega⟩, e'⟩) e
    · obtain ⟨⟨d1, rfl⟩, a6, st6, R6, H6l⟩ := p
      refine ⟨⟨_, _, rfl⟩, a6, st6, R6, H6l.imp fun b => ⟨fun ⟨j, k', hj, h, e⟩ => ⟨j, k', hj, .inl (by omega), e⟩, fun ⟨j, k', hj, h, e⟩ => ⟨j, k', hj, ?_, e⟩⟩⟩
      have h0 : j < i + 1 := by omega
      rcases Nat.lt_or_ge j i with h1 | h1
      · exact .inl h1
      · have : j = i := by omega
        subst this
        refine .inr ⟨rfl, ?_⟩
        rw [List.length_map]
        exact (List.getElem?_eq_some_iff.mp e).1
  · obtain ⟨⟨c0, d0, rfl⟩, a', st4, R4, Hl⟩ := p
    rw [List.length_map, hcl] at Hl
    refine hQ a' H4 Dl na [] cs' (st3.trans (st4.mono fun _ z => z.elim)) R4 Hl ?_ fD fcs (.inl rfl) (Nat.zero_le _)
    exact ⟨st4.ot _ _ Rw3.at_ hry (fun z => z), st4.ot _ _ Rw3.hpa Rw3.pr (fun z => z), Rw3.pr, Rw3.len, fun j c e => ⟨st4.ot _ _ (Rw3.col j c e).1 (Rw3.col j c e).2 (fun z => z), (Rw3.col j c e).2⟩, fun e => ⟨st4.ot _ _ (Rw3.hna e).1 (Rw3.hna e).2 (fun z => z), (Rw3.hna e).2⟩, Rw3.nc, Rw3.nd, Rw3.nn⟩
end LF
set_option Elab.async false
set_option linter.all false
set_option maxRecDepth 100000
set_option maxHeartbeats 4000000
/-! hold of the other classes, twin, shared. -/
namespace LF
open PySem PySem.Spec PyProof.Rows L2 NdefX
variable {P : Program} {w : World} {K : PySem.W.Frag} {mg : Str → Option Value} {base : Heap}
theorem Ok.mono {k k' : Nat} {f : Addr} {ps : List Str} {sp : Sp} (h : Ok P w K mg base k f ps sp) (hk : k ≤ k') : Ok P w K mg base k' f ps sp := by
  obtain ⟨fd, G, b⟩ := h
  exact ⟨fd, G.mono hk, b⟩
theorem sc_bhold : NScope ["self", "sheet", "__class__"] ["self", "sheet"] ["__class__"] (defScope (inClass (top 53) 6)) := nscope_by (by decide +kernel)
theorem ok_holdB (T : TX P K mg) (kk : Kd) (hl : ∀ (hd : Addr) (bs tot : Nat) (made : Int) (op : Bool) (pa na : Addr), (sheetFs kk hd bs tot made op pa na).lookup ("bound" : Str) = some .non)
    (hp : ∀ (hd : Addr) (bs tot : Nat) (made : Int) (op : Bool) (pa na : Addr), putF "bound" .non (sheetFs kk hd bs tot made op pa na) = sheetFs kk hd bs tot made op pa na)
    (G : SupF K (cls K kk) (ga K "BoundedSheet") "hold" (ma K "Sheet" "hold")) : Ok P w K mg base 2 (ma K "BoundedSheet" "hold") ["self", "sheet"] (spHold K kk) := by
  obtain ⟨cl, c, fd, S0⟩ := T.f_BoundedSheet_hold
  obtain ⟨fdI, FG, hb⟩ := ok_hold0 (w := w) (base := base) T kk
  refine ⟨fd, S0.ok sc_bhold (fun vs H Q E h => by obtain ⟨_, _, _, _, _, _, _, _, _, _, _, _, _, _, rfl, _⟩ := h; rfl) (fun A outer s H vs Q E hr h => ?_), S0.bs fun kV doc pm ctv an us hl => match us, hl with | [_, _], _ => rfl⟩
  refine ⟨_, pssa_cons (psa_expr (pea_super (x0 := "self") (L := s.heap.objs.size) ⟨rfl, rfl, ⟨_, rfl, rfl⟩, rfl, rfl, rfl, T.b_super, T.stat, T.topSuper⟩ S0 G rfl FG hr hb .nil pass0 (pa_cons (pv 1) pa_nil))) (pssa_of (pss_one (ps_fld (pv 0) (pe_fld (pv 1) rfl) rfl))), ?_⟩
  obtain ⟨m, hd, ρ, a, N, s, y, dx, pa, na, x, D, cs, bl, rfl, R, ex, hk, S, Rw, hry, hN, hm, hQ⟩ := h
  refine ⟨y, dx, _, rfl, Rw.at_, _, rfl, m, hd, ρ, a, N, s, y, dx, pa, na, x, D, cs, bl, rfl, R, ex, hk, S, Rw, hry, hN, hm, fun a' H' pa' na' ns' cs' st R' Hl Rw' f1 f2 f3 f4 => ?_⟩
  have ex' : a'.sh s = some x := by rw [Hl.sh]; exact ex
  have RS := R'.sh s x ex'
  refine ⟨_, rfl, s, _, _, _, _, rfl, RS.at_, T.c_sheet _, T.na_bound _, by rw [hk]; exact hl _ _ _ _ _ _ _, _, rfl, y, _, dx, _, rfl, Rw'.at_, T.c_sheet kk, T.na_bound kk, fs_few, ?_⟩
  rw [hp]
  exact hQ a' _ pa' na' ns' cs' (st.trans (Step.upd1 (.inr (.inl ⟨rfl, _, Rw'.at_, fun z => z⟩)))) (R'.updO hry) Hl (Rw'.put fun e => ⟨(Rw'.hna e).1, (Rw'.hna e).2, Rw'.nn e⟩) f1 f2 f3 f4
theorem sc_nhold : NScope ["self", "sheet", "__class__"] ["self", "sheet"] ["__class__"] (defScope (inClass (top 52) 4)) := nscope_by (by decide +kernel)
theorem ok_holdN (T : TX P K mg) (kk : Kd) (hnt : kk.nt = true) (hp : ∀ (hd : Addr) (bs tot : Nat) (made : Int) (op : Bool) (pa na na' : Addr), putF "noted" (.ref na') (sheetFs kk hd bs tot made op pa na) = sheetFs kk hd bs tot made op pa na') {m : Str}
    (G : SupF K (cls K kk) (ga K "NotedSheet") "hold" (ma K m "hold")) (hI : Ok P w K mg base 2 (ma K m "hold") ["self", "sheet"] (spHold K kk)) : Ok P w K mg base 3 (ma K "NotedSheet" "hold") ["self", "sheet"] (spHold K kk) := by
  obtain ⟨cl, c, fd, S0⟩ := T.f_NotedSheet_hold
  obtain ⟨fdI, FG, hb⟩ := hI
  refine ⟨fd, S0.ok sc_nhold (fun vs H Q E h => by obtain ⟨_, _, _, _, _, _, _, _, _, _, _, _, _, _, rfl, _⟩ := h; rfl) (fun A outer s H vs Q E hr h => ?_), S0.bs fun kV doc pm ctv an us hl => match us, hl with | [_, _], _ => rfl⟩
  refine ⟨_, pssa_cons (psa_expr (pea_super (x0 := "self") (L := s.heap.objs.size) ⟨rfl, rfl, ⟨_, rfl, rfl⟩, rfl, rfl, rfl, T.b_super, T.stat, T.topSuper⟩ S0 G rfl FG hr hb .nil pass0 (pa_cons (pv 1) pa_nil))) (pssa_of (pss_one (ps_fld (pv 0) (pe_callTy call_list_of (by rfl) T.b_list boot_list (pa_cons (pe_fld (pv 1) rfl) pa_nil)) rfl))), ?_⟩
  obtain ⟨m, hd, ρ, a, N, s, y, dx, pa, na, x, D, cs, bl, rfl, R, ex, hk, S, Rw, hry, hN, hm, hQ⟩ := h
  refine ⟨y, dx, _, rfl, Rw.at_, _, rfl, m, hd, ρ, a, N, s, y, dx, pa, na, x, D, cs, bl, rfl, R, ex, hk, S, Rw, hry, hN, hm, fun a' H' pa' na' ns' cs' st R' Hl Rw' f1 f2 f3 f4 => ?_⟩
  have ex' : a'.sh s = some x := by rw [Hl.sh]; exact ex
  have RS := R'.sh s x ex'
  refine ⟨_, rfl, s, _, _, _, _, rfl, RS.at_, T.c_sheet _, T.na_noted _, lk_noted (by rw [hk]; exact hnt), _, _, rfl, .inl (SqL.of (RS.nt (by rw [hk]; exact hnt)).1), fun l hl => ?_⟩
  have s1 : Same H' (upd H' l (.lst x.ns)) := same_upd hl
  have Rw1 := Rw'.same s1
  refine ⟨_, rfl, y, _, dx, _, rfl, Rw1.at_, T.c_sheet kk, T.na_noted kk, fs_few, ?_⟩
  rw [hp]
  refine hQ a' _ pa' l x.ns cs' ((st.trans (Step.same s1)).trans (Step.upd1 (.inr (.inl ⟨rfl, _, Rw1.at_, fun z => z⟩)))) ((R'.same s1).updO hry) Hl (Rw1.put fun e => ⟨upd_same, R'.fr l hl, (ne_of_none Rw'.hpa hl).symm, fun z => ?_⟩) f1 f2 (.inr (st.free hl)) S.nts
  obtain ⟨j, hj⟩ := List.mem_iff_getElem?.mp z
  have := (Rw'.col j l hj).1
  rw [hl] at this
  cases this
theorem ok_hold (T : TX P K mg) (kk : Kd) : Ok P w K mg base 3 (ma K (at_hold kk) "hold") ["self", "sheet"] (spHold K kk) := by
  cases kk with
  | s => exact (ok_hold0 T .s).mono (by decide)
  | n => exact ok_holdN T .n rfl (fun _ _ _ _ _ _ _ _ => rfl) T.s_NotedSheet_NotedSheet_hold ((ok_hold0 T .n).mono (by decide))
  | b => exact (ok_holdB T .b (fun _ _ _ _ _ _ _ => rfl) (fun _ _ _ _ _ _ _ => rfl) T.s_BoundedSheet_BoundedSheet_hold).mono (by decide)
  | nb => exact ok_holdN T .nb rfl (fun _ _ _ _ _ _ _ _ => rfl) T.s_NotedBoundedSheet_NotedSheet_hold (ok_holdB T .nb (fun _ _ _ _ _ _ _ => rfl) (fun _ _ _ _ _ _ _ => rfl) T.s_NotedBoundedSheet_BoundedSheet_hold)

/-! ### twin -/
section
variable {X : Cx} {j k : Nat} {m : Str} {f : Kd → Addr} {ps : List Str} {sp : Kd → Sp} {o e : Expr} {es : List Expr} {ta : TE} {t : TA} {p pos apos : Pos}
/-- o.m(..), o a sheet of any class, its def by the class -/
theorem pe_mF (O : ∀ i, Ok X.prog X.w X.K X.mg X.base j (f i) ps (sp i)) (he : PE X o ta) (c : ∀ i, Cls X.K (cls X.K i)) (hm : ∀ i, Meth X.K (cls X.K i) m (f i)) (hr : Room k X.A) (ha : PA X (e :: es) t) (hj : j ≤ k := by decide) {pl : Sem Bool}
    (hst : starEach (e :: es) X.env = (false, eval e X.env) :: starEach es X.env := by rfl) (hpl : (backTo pos (starEach es X.env)).any (·.1) = false := by rfl)
    (ht : eval (.Call (.Attribute o m apos) (e :: es) [] pos) X.env = (do
      let ov ← eval o X.env
      standAt apos.atName
      let (f, first) ← holding [ov] (getMethod ov m pl)
      callWith pos f first (backTo pos (starEach (e :: es) X.env)) (backToKw pos (keywordEach [] X.env))) := by rfl) :
    PE X (.Call (.Attribute o m apos) (e :: es) [] pos) (tMethP (cls X.K) m sp E0 ta t) := by
  obtain ⟨fd, G⟩ := Classical.axiomOfChoice O
  exact pe_methP (pl := pl) (fd := fd) he c hm (fun i => (G i).1) (hr.mono hj) (fun i => (G i).2) pass0 ha hst hpl ht
theorem pe_mF0 (O : ∀ i, Ok X.prog X.w X.K X.mg X.base j (f i) ps (sp i)) (he : PE X o ta) (c : ∀ i, Cls X.K (cls X.K i)) (hm : ∀ i, Meth X.K (cls X.K i) m (f i)) (hr : Room k X.A) (hj : j ≤ k := by decide) {pl : Sem Bool}
    (ht : eval (.Call (.Attribute o m apos) [] [] pos) X.env = (do
      let ov ← eval o X.env
      standAt apos.atName
      let (f, first) ← holding [ov] (getMethod ov m pl)
      callWith pos f first (backTo pos (starEach [] X.env)) (backToKw pos (keywordEach [] X.env))) := by rfl) :
    PE X (.Call (.Attribute o m apos) [] [] pos) (tMethP (cls X.K) m sp E0 ta tNil) := by
  obtain ⟨fd, G⟩ := Classical.axiomOfChoice O
  exact pe_methP0 (pl := pl) (fd := fd) he c hm (fun i => (G i).1) (hr.mono hj) (fun i => (G i).2) pass0 ht
end
theorem sc_twin : FnScope ["self", "found"] ["self"] (defScope (inClass (top 51) 17)) := ⟨rfl, rfl, rfl, by decide +kernel, rfl, by decide +kernel, by decide +kernel⟩
def spTwin (K : PySem.W.Frag) : Sp := fun vs H Q _ => ∃ (hd : Addr) (sch : Sch) (ρ : Addr → Ro) (a : AS) (N : Nat) (TS : TSt) (s : Addr) (D : Nat → List V) (n : Nat), vs = [.ref s] ∧
  RepK K sch.length hd ρ H a ∧ Tok sch.length N a TS ∧ TS s = some (D, n) ∧ Hd K H hd sch ∧ SchOk sch ∧ 1 ≤ N ∧ N ≤ 900 ∧
  ∀ ρ' a' H' y, Step none' ρ H ρ' H' → RepK K sch.length hd ρ' H' a' → Tok sch.length (N + 1) a' (updT TS y (some (D, n))) → H y = none → a.sh y = none → Q (.ref y) H'
theorem ok_twin (T : TX P K mg) : Ok P w K mg base 10 (ma K "Sheet" "twin") ["self"] (spTwin K) := by
  obtain ⟨fd, F⟩ := T.f_Sheet_twin
  have O1 : Ok P w K mg base 1 (ma K "Sheet" "check_open") ["self"] (spOpen K) := ok_copen T
  refine ⟨fd, F.ok sc_twin (fun vs H Q E h => by obtain ⟨_, _, _, _, _, _, _, _, _, rfl, _⟩ := h; rfl) (fun cdv A outer s H vs Q E hr h => ?_), F.binds fun _ _ _ _ _ _ us hl => match us, hl with | [_], _ => rfl⟩
  obtain ⟨hd, sch, ρ, a, N, TS, s, D, n, rfl, R, Tk, e, hh, hs, hN1, hN, hQ⟩ := h
  refine ⟨_, pss_cons (ps_expr (pe_mS0 O1 (pv 0) T.c_sheet T.m_check_open hr))
    (pss_cons (ps_set (i := 1) sc_twin.nd rfl (.inl rfl) (pe_mF0 (ok_blank T) (pv 0) T.c_sheet T.m_blank hr))
    (pss_cons (ps_expr (pe_mF (ok_hold T) (pv 1) T.c_sheet T.m_hold hr (pa_cons (pv 0) pa_nil))) (pss_one (ps_ret (pv 1))))), ?_⟩
  obtain ⟨x, ex, g2, S⟩ := Tk s D n e
  have RS := R.sh s x ex
  refine ⟨_, rfl, _, s, _, _, rfl, RS.at_, lm_check_open, s, x, hd, rfl, RS.at_, S.op, ?_⟩
  refine ⟨_, rfl, x.kd, s, _, _, rfl, RS.at_, lm_blank, hd, sch, ρ, a, s, x, rfl, R, ex, hh, hs, S.b1, S.b2, fun ρ1 a1 H1 y dx pa na cs bl st1 R1 sh1 old1 Rw hry y0 p0 c0 n0 => ?_⟩
  have ex1 : a1.sh s = some x := by rw [sh1]; exact ex
  have S1 : Sok sch.length N a1 s x D := S.keep (Nat.le_refl _) (fun u h => by rw [sh1]; exact h) fun j k b v hj eb ev ht => ⟨v, old1 b v ev, rfl, ht, id, fun u hu => .inl hu⟩
  have hml : sch.length ≤ 4 := hs.le
  refine ⟨_, rfl, x.kd, y, dx, _, rfl, Rw.at_, lm_hold, _, rfl, sch.length, hd, ρ1, a1, N, s, y, dx, pa, na, x, D, cs, bl, rfl, R1, ex1, rfl, S1, Rw, hry, hN, hml, fun a2 H2 pa' na' ns' cs' st2 R2 Hl Rw2 f1 f2 f3 f4 => ?_⟩
  refine ⟨_, rfl, ?_⟩
  have ay : a.sh y = none := R.no_sh (R.fr y y0)
  have st12 : Step none' ρ H ρ1 H2 := by
    refine ⟨fun b o z => (st2.ro b _ (st1.tr b o z).choose_spec).trans (st1.ro b o z), fun b o z r nx => st2.ot b o (st1.ot b o z r nx) ((st1.ro b o z).trans r) (fun q => by rw [q, y0] at z; cases z), fun b o z => ?_, fun b o z f => st2.fx b o (st1.fx b o z f) f⟩
    obtain ⟨o1, h1⟩ := st1.tr b o z
    exact st2.tr b o1 h1
  have fr : ∀ q, H1 q = none → H q = none := fun q hq => st1.free hq
  obtain ⟨ρ', q1, q2⟩ := Rw2.add R2 hry st12 y0 (fr pa' f1) (fun c hc => fr c (f2 c hc)) (fun ent => f3.elim (fun z => by rw [z]; exact n0 ent) (fr na'))
  have hs' : ∀ u, (a.sh u).isSome → ((a2.setS y (shOf x.kd dx x.bs x.tot pa' na' ns' cs' x.bl)).sh u).isSome := fun u h => isSome_setS (by rw [Hl.sh, sh1]; exact h)
  have Tk2 := Tk.add (a' := a2.setS y (shOf x.kd dx x.bs x.tot pa' na' ns' cs' x.bl)) (N' := N + 1) (D' := D) ay hs' (fun u h => by rw [setS_ne (fun z => by rw [z, ay] at h; cases h), Hl.sh, sh1]) setS_same (Nat.le_succ _)
    (fun c v ev => by
      by_cases hd' : done sch.length x sch.length 0 c
      · exact ⟨_, Hl.yes c v hd' (old1 c v ev), rfl, .inr ⟨rfl, Nat.le_refl _⟩⟩
      · exact ⟨v, Hl.no c v hd' (old1 c v ev), rfl, .inl rfl⟩)
    ⟨rfl, S.b1, S.b2, Nat.le_trans S.tot (Nat.le_succ _), Nat.le_trans f4 (Nat.le_succ _), fun j hj => Nat.le_trans (S.dl j hj) (Nat.le_succ _), S.bl, fun j k b hj eb => by
      obtain ⟨v, v1, v2, v3, v4, v5⟩ := S.ce j k b hj eb
      refine ⟨_, Hl.yes b v ⟨j, k, hj, .inl hj, eb⟩ (old1 b v v1), v2, List.mem_append_right _ (List.mem_singleton.mpr rfl), by rw [List.length_append]; simp; exact v4, fun u hu => ?_⟩
      rcases List.mem_append.mp hu with h | h
      · exact hs' u (v5 u h)
      · rw [List.mem_singleton.mp h, setS_same]; rfl, S.inj⟩
  exact hQ ρ' _ H2 y q1 q2 (by rw [← g2]; exact Tk2) y0 ay

/-! ### shared -/
theorem sc_shared : FnScope ["self", "other", "blocks", "block"] ["self", "other"] (defScope (inClass (top 51) 19)) := ⟨rfl, rfl, rfl, by decide +kernel, rfl, by decide +kernel, by decide +kernel⟩
def spShared (K : PySem.W.Frag) : Sp := fun vs H Q _ => ∃ (m : Nat) (hd : Addr) (ρ : Addr → Ro) (a : AS) (N : Nat) (s t : Addr) (x xt : Sh) (D : Nat → List V), vs = [.ref s, .ref t] ∧
  RepK K m hd ρ H a ∧ a.sh s = some x ∧ a.sh t = some xt ∧ xt.op = true ∧ Sok m N a s x D ∧ Apart m a s t ∧ N ≤ 900 ∧ m ≤ 4 ∧ ∀ H', Same H H' → Q (.int 0) H'
theorem ok_shared (T : TX P K mg) : Ok P w K mg base 1 (ma K "Sheet" "shared") ["self", "other"] (spShared K) := by
  obtain ⟨fd, F⟩ := T.f_Sheet_shared
  refine ⟨fd, F.ok sc_shared (fun vs H Q E h => by obtain ⟨_, _, _, _, _, _, _, _, _, _, rfl, _⟩ := h; rfl) (fun cdv A outer s H vs Q E hr h => ?_), F.binds fun _ _ _ _ _ _ us hl => match us, hl with | [_, _], _ => rfl⟩
  obtain ⟨m, hd, ρ, a, N, s, t, x, xt, D, rfl, R, ex, et, ht, S, Ap, hN, hm, hQ⟩ := h
  refine ⟨_, pss_cons (ps_if (pt_not (pt_val (pe_callB call_isi (by rfl) T.b_isinstance boot_isinstance (pa_cons (pv 1) (pa_cons (pe_glob (v := .ref (cls K .s)) (by rfl) T.g_Sheet rfl) pa_nil))))) pss_never pss_nil)
    (pss_cons (ps_if (PW.pt (pw_or (pt_not (pt_val (pe_fld (pv 0) rfl))) (pw_or1 (pt_not (pt_val (pe_fld (pv 1) rfl)))))) pss_never pss_nil)
    (pss_one (ps_ret (pe_callB (cr_sum rfl) (by rfl) T.b_sum boot_sum (pa_cons
      (pe_lc2 (own := [("blocks", 2), ("block", 3)]) (vs1 := [3]) (g := gName 2) (g1 := gName 3) (tt := tYes) (tt1 := tYes) (wi1 := iList K (tVar 2)) (by rfl) sc_shared.nd (pi_list (pe_fld (pv 0) rfl))
          (blkOk_by (own := [("blocks", 2), ("block", 3)]) (N := ["self", "other", "blocks", "block"]) (sc := defScope (inClass (top 51) 19)) (by decide +kernel)) (by decide)
          (fun _ _ _ _ _ => pg_name (i := 2) sc_shared.nd rfl (Or.inl rfl)) (fun _ _ _ _ _ => pts_nil) (fun _ _ _ _ _ => pi_list (pv 2)) (fun _ _ _ _ _ => pg_name (i := 3) sc_shared.nd rfl (Or.inl rfl)) (fun _ _ _ _ _ => pts_nil)
          (fun _ _ _ _ _ => pe_callTy (T := "int") (r := fun xs H Q => (∃ i, xs = [.int i] ∧ Q (.int i) H) ∨ ∃ k, xs = [.bl k] ∧ Q (.int (if k then 1 else 0)) H) call_int1 (by rfl) T.b_int boot_int
            (pa_cons (pe_cmpR (r := rInO K (cls K)) (op_inO T.eqo T.mro (hu_of hr)) (pv 1) (show PE _ _ (tFld K (tVar 3) "sheets") from pe_fld (pv 3) rfl) (by rfl)) pa_nil))) pa_nil))))), ?_⟩
  have RS := R.sh s x ex
  have RT := R.sh t xt et
  have hs0 : sizeLine = 16777216 := sizeLine_eq
  refine ⟨_, rfl, _, _, _, _, _, rfl, .own (cls K .s), .base (.ins RT.at_ (T.c_sheet _) (T.o_sheet _) T.o_get T.o_tak (T.o_mroS _)), T.isSheet _, _, rfl, iteF ?_⟩
  refine ⟨_, rfl, s, _, _, _, _, rfl, RS.at_, T.c_sheet _, T.na_opened _, lk_open, _, rfl, ?_⟩
  rw [S.op]
  refine iteF ⟨_, rfl, t, _, _, _, _, rfl, RT.at_, T.c_sheet _, T.na_opened _, lk_open, _, rfl, ?_⟩
  rw [ht]
  refine iteF ?_
  refine ⟨_, rfl, s, _, _, _, _, rfl, RS.at_, T.c_sheet _, T.na_parts _, rfl, x.pa, rfl, ⟨_, SqL.of RS.pa⟩, fun Dl hDl => ?_⟩
  have sD : ∀ o, Same H (upd H Dl o) := fun o => same_upd hDl
  refine out_it (walk_list (xs := x.cs.map V.ref)) (fun i H' => ∃ c, c ≤ i * 1000 ∧ H' = upd H Dl (.lst (List.replicate c (.int 0)))) ⟨0, Nat.zero_le _, rfl⟩ (fun i H' _ hp => by obtain ⟨c, _, rfl⟩ := hp; exact SqL.of (sD _ _ _ RS.pa)) (fun i z H' H'' hi hp hy => ?_) fun H' hp => ?_
  · obtain ⟨rfl, hz⟩ := hy
    obtain ⟨cn, hcn, rfl⟩ := hp
    obtain ⟨c, hc, rfl⟩ := get_map hz
    have him : i < m := by rw [← RS.len]; simpa using hi
    obtain ⟨hcol, _⟩ := RS.col i c hc
    refine ⟨rfl, ?_⟩
    refine yes ?_
    refine ⟨_, rfl, c, rfl, ⟨_, SqL.of (sD _ _ _ hcol)⟩, ?_⟩
    have hbl : (x.bl i).length ≤ 900 := by
      rw [S.bl i him]
      have := nbl_le (n := (D i).length) S.b1
      have := S.dl i him
      omega
    refine in_it (walk_list (xs := (x.bl i).map V.ref)) (fun l Hl => Hl = upd H Dl (.lst (List.replicate (cn + l) (.int 0)))) rfl (fun l Hl _ hp => by subst hp; exact SqL.of (sD _ _ _ hcol)) (fun l v Hl Hl' hl hp hy => ?_) fun Hl hp => ?_
    · obtain ⟨rfl, hv⟩ := hy
      subst hp
      obtain ⟨b, hb, rfl⟩ := get_map hv
      obtain ⟨y, ey, _, _, _, hreg⟩ := S.ce i l b him hb
      have RB := R.bk b y ey
      refine ⟨rfl, ?_⟩
      refine yes ?_
      have hin : ∀ u ∈ y.ls, InsP (cls K) (upd H Dl (.lst (List.replicate (cn + l) (.int 0)))) u := fun u hu => by
        obtain ⟨xu, hxu⟩ := Option.isSome_iff_exists.mp (hreg u hu)
        exact ⟨_, _, _, sD _ _ _ (R.sh u xu hxu).at_⟩
      have hnot : t ∉ y.ls := Ap x ex i l b him hb y ey
      refine ⟨_, rfl, _, rfl, b, _, _, _, _, rfl, sD _ _ _ RB.at_, T.c_Block, T.na_Block_sheets, rfl, t, y.sl, y.ls, rfl, rfl, SqL.of (sD _ _ _ RB.sl), ⟨_, _, _, sD _ _ _ RT.at_⟩, hin, .inr ⟨_, rfl, ?_⟩⟩
      rw [decide_eq_false hnot]
      refine ⟨_, upd_same, ?_, ?_⟩
      · have hl' : l < (x.bl i).length := by simpa using hl
        simp
        omega
      · rw [upd_upd]
        congr 2
        exact (List.replicate_succ' ..).symm
    · subst hp
      refine ⟨_, ?_, rfl⟩
      rw [List.length_map]
      omega
  · obtain ⟨c, hc, rfl⟩ := hp
    refine ⟨Dl, List.replicate c 0, rfl, SqL.of (by rw [upd_same]; simp), ?_⟩
    have : (List.replicate c (0 : Int)).sum = 0 := by
      induction c with
      | zero => rfl
      | succ c ih => rw [List.replicate_succ, List.sum_cons, ih (by omega)]; rfl
    rw [this]
    exact hQ _ (sD _)
end LF
set_option Elab.async false
set_option linter.all false
set_option maxRecDepth 100000
set_option maxHeartbeats 4000000
/-! put and add_row of every class. -/
namespace LF
open PySem PySem.Spec PyProof.Rows L2 NdefX
variable {P : Program} {w : World} {K : PySem.W.Frag} {mg : Str → Option Value} {base : Heap}
theorem Ok.imp {k : Nat} {f : Addr} {ps : List Str} {sp sp' : Sp} (h : Ok P w K mg base k f ps sp) (e : ∀ vs H Q E, sp' vs H Q E → sp vs H Q E) : Ok P w K mg base k f ps sp' := by
  obtain ⟨fd, G, b⟩ := h
  exact ⟨fd, G.imp e, b⟩
def spPutF (K : PySem.W.Frag) (kk : Kd) : Sp := fun vs H Q _ => ∃ (hd : Addr) (sch : Sch) (ρ : Addr → Ro) (a : AS) (N : Nat) (TS : TSt) (s : Addr) (x : Sh) (D : Nat → List V) (n j i : Nat) (p : Str × Str) (v : V), vs = [.ref s, .int (i : Nat), .str p.1, v] ∧
  RepK K sch.length hd ρ H a ∧ Tok sch.length N a TS ∧ TS s = some (D, n) ∧ a.sh s = some x ∧ x.kd = kk ∧ Hd K H hd sch ∧ SchOk sch ∧ sch[j]? = some p ∧ i < n ∧ (D j).length = n ∧ KindV p.2 v ∧ 1 ≤ N ∧ N ≤ 900 ∧
  ∀ ρ' a' H', Step none' ρ H ρ' H' → RepK K sch.length hd ρ' H' a' → Tok sch.length (N + 1) a' (updT TS s (some (putD D j i v, n))) → Q .non H'
theorem ok_putS (T : TX P K mg) (kk : Kd) : Ok P w K mg base 4 (ma K "Sheet" "put") ["self", "index", "name", "value"] (spPutF K kk) :=
  (ok_put T).imp fun vs H Q E h => by
    obtain ⟨hd, sch, ρ, a, N, TS, s, x, D, n, j, i, p, v, rfl, R, Tk, e, ex, hk, hh, hs, hj, hi, hlen, hv, hN1, hN, hQ⟩ := h
    exact ⟨hd, sch, ρ, a, N, TS, s, x, D, n, j, i, p, v, rfl, R, Tk, e, ex, hh, hs, hj, hi, hlen, hv, hN1, hN, fun ρ' a' H' x' st R' Tk' _ _ => hQ ρ' a' H' st R' (Tk'.mono (Nat.le_succ _))⟩
theorem sc_nput : NScope ["self", "index", "name", "value", "__class__"] ["self", "index", "name", "value"] ["__class__"] (defScope (inClass (top 52) 1)) := nscope_by (by decide +kernel)
theorem ok_putN (T : TX P K mg) (kk : Kd) (hnt : kk.nt = true) (G : SupF K (cls K kk) (ga K "NotedSheet") "put" (ma K "Sheet" "put")) : Ok P w K mg base 5 (ma K "NotedSheet" "put") ["self", "index", "name", "value"] (spPutF K kk) := by
  obtain ⟨cl, c, fd, S0⟩ := T.f_NotedSheet_put
  obtain ⟨fdI, FG, hb⟩ := ok_put (w := w) (base := base) T
  refine ⟨fd, S0.ok sc_nput (fun vs H Q E h => by obtain ⟨_, _, _, _, _, _, _, _, _, _, _, _, _, _, rfl, _⟩ := h; rfl) (fun A outer s H vs Q E hr h => ?_), S0.bs fun kV doc pm ctv an us hl => match us, hl with | [_, _, _, _], _ => rfl⟩
  refine ⟨_, pssa_cons (psa_expr (pea_super (x0 := "self") (L := s.heap.objs.size) ⟨rfl, rfl, ⟨_, rfl, rfl⟩, rfl, rfl, rfl, T.b_super, T.stat, T.topSuper⟩ S0 G rfl FG hr hb .nil pass0 (pa_cons (pv 1) (pa_cons (pv 2) (pa_cons (pv 3) pa_nil)))))
    (pssa_of (pss_one (ps_expr (pe_bm PySem.F.plainAttrs_list PySem.F.slot_list_append PySem.F.type_list_append mt_append (pe_fld (pv 0) rfl) (pa_cons (pe_tup (pa_cons pe_str (pa_cons (pv 1) (pa_cons (pv 2) (pa_cons (pv 3) pa_nil))))) pa_nil))))), ?_⟩
  obtain ⟨hd, sch, ρ, a, N, TS, s, x, D, n, j, i, p, v, rfl, R, Tk, e, ex, hk, hh, hs, hj, hi, hlen, hv, hN1, hN, hQ⟩ := h
  have RS := R.sh s x ex
  have hs0 : sizeLine = 16777216 := sizeLine_eq
  refine ⟨s, _, _, rfl, by rw [← hk]; exact RS.at_, _, rfl, _, rfl, _, rfl, hd, sch, ρ, a, N, TS, s, x, D, n, j, i, p, v, rfl, R, Tk, e, ex, hh, hs, hj, hi, hlen, hv, hN1, hN, fun ρ' a' H' x' st R' Tk' ex' lk => ?_⟩
  have RS' := R'.sh s x' ex'
  have hk' : x'.kd.nt = true := by rw [lk.1, hk]; exact hnt
  obtain ⟨hna, hnr⟩ := RS'.nt hk'
  obtain ⟨x2, g1, g2, S'⟩ := Tk' s _ n updT_same
  rw [ex'] at g1
  cases g1
  have hnl := S'.nts
  refine ⟨_, rfl, s, _, _, _, _, rfl, RS'.at_, T.c_sheet _, T.na_noted _, lk_noted hk', .inl ⟨rfl, _, SqL.of hna⟩, ?_⟩
  refine ⟨_, rfl, _, rfl, _, rfl, by show (4 : Nat) ≤ sizeLine; decide, fun tp htp => ?_⟩
  have s1 : Same H' (upd H' tp (.tup [.str "put", .int (i : Nat), .str p.1, v])) := same_upd htp
  refine ⟨x'.na, _, _, rfl, rfl, s1 _ _ hna, by omega, ?_⟩
  have R2 := (R'.same s1).notes ex' hk' (x'.ns ++ [.ref tp])
  have Tk2 := Tk'.fields (x' := { x' with ns := x'.ns ++ [.ref tp] }) (N' := N + 1) (n' := n) updT_same ex' (Nat.le_succ _) S'.op rfl g2 (by have := S'.tot; omega) (by simp; omega) rfl
  rw [updT_updT] at Tk2
  exact hQ ρ' _ _ ((st.trans (Step.same s1)).trans (stepS hnr (s1 _ _ hna) fun z => z)) R2 Tk2
theorem ok_putF (T : TX P K mg) (kk : Kd) : Ok P w K mg base 5 (ma K (at_put kk) "put") ["self", "index", "name", "value"] (spPutF K kk) := by
  cases kk with
  | s => exact (ok_putS T .s).mono (by decide)
  | n => exact ok_putN T .n rfl T.s_NotedSheet_NotedSheet_put
  | b => exact (ok_putS T .b).mono (by decide)
  | nb => exact ok_putN T .nb rfl T.s_NotedBoundedSheet_NotedSheet_put

/-! ### add_row -/
def spAddB (K : PySem.W.Frag) (kk : Kd) : Sp := fun vs H Q _ => ∃ (hd : Addr) (sch : Sch) (ρ : Addr → Ro) (a : AS) (N : Nat) (TS : TSt) (s ra : Addr) (x : Sh) (D : Nat → List V) (n : Nat) (r : List V), vs = [.ref s, .ref ra] ∧
  RepK K sch.length hd ρ H a ∧ Tok sch.length N a TS ∧ TS s = some (D, n) ∧ a.sh s = some x ∧ x.kd = kk ∧ Hd K H hd sch ∧ SqT K H ra r ∧ RowOk sch r ∧ (∀ j, j < sch.length → (D j).length = n) ∧ 1 ≤ N ∧ N ≤ 900 ∧
  ∀ ρ' a' H' x', Step none' ρ H ρ' H' → RepK K sch.length hd ρ' H' a' → Tok sch.length (N + 1) a' (updT TS s (some (addD D r sch.length, n + 1))) → a'.sh s = some x' → (x'.kd = x.kd ∧ x'.ns = x.ns) → Q (.int (n : Nat)) H'
theorem ok_addS (T : TX P K mg) (kk : Kd) : Ok P w K mg base 4 (ma K "Sheet" "add_row") ["self", "row"] (spAddB K kk) :=
  (ok_add T).imp fun vs H Q E h => by
    obtain ⟨hd, sch, ρ, a, N, TS, s, ra, x, D, n, r, rfl, R, Tk, e, ex, hk, hh, hra, hrow, hlen, hN1, hN, hQ⟩ := h
    exact ⟨hd, sch, ρ, a, N, TS, s, ra, x, D, n, r, rfl, R, Tk, e, ex, hh, hra, hrow, hlen, hN1, hN, hQ⟩
theorem sc_badd : NScope ["self", "row", "__class__"] ["self", "row"] ["__class__"] (defScope (inClass (top 53) 4)) := nscope_by (by decide +kernel)
theorem ok_addB (T : TX P K mg) (kk : Kd) (hl : ∀ (hd : Addr) (bs tot : Nat) (made : Int) (op : Bool) (pa na : Addr), (sheetFs kk hd bs tot made op pa na).lookup ("bound" : Str) = some .non)
    (G : SupF K (cls K kk) (ga K "BoundedSheet") "add_row" (ma K "Sheet" "add_row")) : Ok P w K mg base 5 (ma K "BoundedSheet" "add_row") ["self", "row"] (spAddB K kk) := by
  obtain ⟨cl, c, fd, S0⟩ := T.f_BoundedSheet_add_row
  obtain ⟨fdI, FG, hb⟩ := ok_add (w := w) (base := base) T
  have O1 : Ok P w K mg base 3 (ma K "Sheet" "check_row") ["self", "row"] (spChRow K) := ok_crow T
  refine ⟨fd, S0.ok sc_badd (fun vs H Q E h => by obtain ⟨_, _, _, _, _, _, _, _, _, _, _, _, rfl, _⟩ := h; rfl) (fun A outer s H vs Q E hr h => ?_), S0.bs fun kV doc pm ctv an us hl => match us, hl with | [_, _], _ => rfl⟩
  refine ⟨_, pssa_cons (psa_of (ps_expr (pe_mS O1 (pv 0) T.c_sheet T.m_check_row hr (pa_cons (pv 1) pa_nil))))
    (pssa_cons (psa_of (ps_if (PW.pt (pw_and (pt_cmpR op_notN (pe_fld (pv 0) rfl) pe_non (nomark _)) (pw_and1 (pt_cmpR op_ge (pe_fld (pv 0) rfl) (pe_fld (pv 0) rfl) (nomark _))))) pss_never pss_nil))
    (pssa_cons (psa_ret (pea_super (x0 := "self") (L := s.heap.objs.size) ⟨rfl, rfl, ⟨_, rfl, rfl⟩, rfl, rfl, rfl, T.b_super, T.stat, T.topSuper⟩ S0 G rfl FG hr hb .nil pass0 (pa_cons (pv 1) pa_nil))) (pssa_of pss_nil))), ?_⟩
  obtain ⟨hd, sch, ρ, a, N, TS, s, ra, x, D, n, r, rfl, R, Tk, e, ex, hk, hh, hra, hrow, hlen, hN1, hN, hQ⟩ := h
  obtain ⟨x1, g1, g2, S⟩ := Tk s D n e
  rw [ex] at g1
  cases g1
  have RS := R.sh s x ex
  refine ⟨_, rfl, _, s, _, _, rfl, RS.at_, lm_check_row, _, rfl, s, x, hd, sch, ra, r, rfl, RS.at_, S.op, hh, hra, hrow, fun H1 s1 => ?_⟩
  have R1 := R.same s1
  have RS1 := R1.sh s x ex
  refine ⟨_, rfl, s, _, _, _, _, rfl, RS1.at_, T.c_sheet _, T.na_bound _, by rw [hk]; exact hl _ _ _ _ _ _ _, rfl, _, rfl, iteNS rfl ?_⟩
  refine iteF ?_
  refine ⟨s, _, _, rfl, by rw [← hk]; exact RS1.at_, _, rfl, hd, sch, ρ, a, N, TS, s, ra, x, D, n, r, rfl, R1, Tk, e, ex, hh.same s1, same_sqT s1 hra, hrow, hlen, hN1, hN, fun ρ' a' H' x' st R' Tk' ex' lk => ?_⟩
  exact hQ ρ' a' H' x' ((Step.same s1).trans st) R' Tk' ex' lk
def spAddF (K : PySem.W.Frag) (kk : Kd) : Sp := fun vs H Q _ => ∃ (hd : Addr) (sch : Sch) (ρ : Addr → Ro) (a : AS) (N : Nat) (TS : TSt) (s ra : Addr) (x : Sh) (D : Nat → List V) (n : Nat) (r : List V), vs = [.ref s, .ref ra] ∧
  RepK K sch.length hd ρ H a ∧ Tok sch.length N a TS ∧ TS s = some (D, n) ∧ a.sh s = some x ∧ x.kd = kk ∧ Hd K H hd sch ∧ SqT K H ra r ∧ RowOk sch r ∧ (∀ j, j < sch.length → (D j).length = n) ∧ 1 ≤ N ∧ N ≤ 900 ∧
  ∀ ρ' a' H', Step none' ρ H ρ' H' → RepK K sch.length hd ρ' H' a' → Tok sch.length (N + 1) a' (updT TS s (some (addD D r sch.length, n + 1))) → Q (.int (n : Nat)) H'
theorem addF_of {kk : Kd} {vs : List V} {H : Hp} {Q : VK} {E : XK} (h : spAddF K kk vs H Q E) : spAddB K kk vs H Q E := by
  obtain ⟨hd, sch, ρ, a, N, TS, s, ra, x, D, n, r, rfl, R, Tk, e, ex, hk, hh, hra, hrow, hlen, hN1, hN, hQ⟩ := h
  exact ⟨hd, sch, ρ, a, N, TS, s, ra, x, D, n, r, rfl, R, Tk, e, ex, hk, hh, hra, hrow, hlen, hN1, hN, fun ρ' a' H' x' st R' Tk' _ _ => hQ ρ' a' H' st R' Tk'⟩
theorem sc_nadd : NScope ["self", "row", "__class__", "index"] ["self", "row"] ["__class__"] (defScope (inClass (top 52) 2)) := nscope_by (by decide +kernel)
theorem ok_addN (T : TX P K mg) (kk : Kd) (hnt : kk.nt = true) {m : Str} (G : SupF K (cls K kk) (ga K "NotedSheet") "add_row" (ma K m "add_row")) (hI : Ok P w K mg base 5 (ma K m "add_row") ["self", "row"] (spAddB K kk)) :
    Ok P w K mg base 6 (ma K "NotedSheet" "add_row") ["self", "row"] (spAddF K kk) := by
  obtain ⟨cl, c, fd, S0⟩ := T.f_NotedSheet_add_row
  obtain ⟨fdI, FG, hb⟩ := hI
  refine ⟨fd, S0.ok sc_nadd (fun vs H Q E h => by obtain ⟨_, _, _, _, _, _, _, _, _, _, _, _, rfl, _⟩ := h; rfl) (fun A outer s H vs Q E hr h => ?_), S0.bs fun kV doc pm ctv an us hl => match us, hl with | [_, _], _ => rfl⟩
  refine ⟨_, pssa_cons (psa_set (i := 3) sc_nadd.nd rfl (.inl rfl) (pea_super (x0 := "self") (L := s.heap.objs.size) ⟨rfl, rfl, ⟨_, rfl, rfl⟩, rfl, rfl, rfl, T.b_super, T.stat, T.topSuper⟩ S0 G rfl FG hr hb .nil pass0 (pa_cons (pv 1) pa_nil)))
    (pssa_of (pss_cons (ps_expr (pe_bm PySem.F.plainAttrs_list PySem.F.slot_list_append PySem.F.type_list_append mt_append (pe_fld (pv 0) rfl) (pa_cons (pe_tup (pa_cons pe_str (pa_cons (pv 1) pa_nil))) pa_nil))) (pss_one (ps_ret (pv 3))))), ?_⟩
  obtain ⟨hd, sch, ρ, a, N, TS, s, ra, x, D, n, r, rfl, R, Tk, e, ex, hk, hh, hra, hrow, hlen, hN1, hN, hQ⟩ := h
  have RS := R.sh s x ex
  have hs0 : sizeLine = 16777216 := sizeLine_eq
  obtain ⟨x0, h1, _, S⟩ := Tk s D n e
  rw [ex] at h1
  cases h1
  refine ⟨s, _, _, rfl, by rw [← hk]; exact RS.at_, _, rfl, hd, sch, ρ, a, N, TS, s, ra, x, D, n, r, rfl, R, Tk, e, ex, hk, hh, hra, hrow, hlen, hN1, hN, fun ρ' a' H' x' st R' Tk' ex' lk => ?_⟩
  have RS' := R'.sh s x' ex'
  have hk' : x'.kd.nt = true := by rw [lk.1, hk]; exact hnt
  obtain ⟨hna, hnr⟩ := RS'.nt hk'
  obtain ⟨x2, g1, g2, S'⟩ := Tk' s _ (n + 1) updT_same
  rw [ex'] at g1
  cases g1
  have hnl : x'.ns.length ≤ N := by rw [lk.2]; exact S.nts
  refine ⟨_, rfl, s, _, _, _, _, rfl, RS'.at_, T.c_sheet _, T.na_noted _, lk_noted hk', .inl ⟨rfl, _, SqL.of hna⟩, ?_⟩
  refine ⟨_, rfl, by show (2 : Nat) ≤ sizeLine; decide, fun tp htp => ?_⟩
  have s1 : Same H' (upd H' tp (.tup [.str "add", .ref ra])) := same_upd htp
  refine ⟨x'.na, _, _, rfl, rfl, s1 _ _ hna, by omega, ?_⟩
  have R2 := (R'.same s1).notes ex' hk' (x'.ns ++ [.ref tp])
  have Tk2 := Tk'.fields (x' := { x' with ns := x'.ns ++ [.ref tp] }) (N' := N + 1) (n' := n + 1) updT_same ex' (Nat.le_refl _) S'.op rfl g2 (by have := S'.tot; omega) (by simp; omega) rfl
  rw [updT_updT] at Tk2
  exact ⟨_, rfl, hQ ρ' _ _ ((st.trans (Step.same s1)).trans (stepS hnr (s1 _ _ hna) fun z => z)) R2 Tk2⟩
theorem ok_addF (T : TX P K mg) (kk : Kd) : Ok P w K mg base 6 (ma K (at_add_row kk) "add_row") ["self", "row"] (spAddF K kk) := by
  cases kk with
  | s => exact ((ok_addS T .s).mono (by decide)).imp fun _ _ _ _ => addF_of
  | n => exact ok_addN T .n rfl T.s_NotedSheet_NotedSheet_add_row ((ok_addS T .n).mono (by decide))
  | b => exact ((ok_addB T .b (fun _ _ _ _ _ _ _ => rfl) T.s_BoundedSheet_BoundedSheet_add_row).mono (by decide)).imp fun _ _ _ _ => addF_of
  | nb => exact ok_addN T .nb rfl T.s_NotedBoundedSheet_NotedSheet_add_row (ok_addB T .nb (fun _ _ _ _ _ _ _ => rfl) T.s_NotedBoundedSheet_BoundedSheet_add_row)
end LF
set_option Elab.async false
set_option linter.all false
set_option maxRecDepth 100000
set_option maxHeartbeats 4000000
/-! The data of rows: equal, shown. -/
namespace LF
open PySem PySem.Spec PyProof.Rows L2
/-- every value that the law draws -/
def valsL : List V := [.non, .bl true, .bl false, .int 0, .int 1, .int 2, .int (-1), .int 3, .int 7, .int (-10 ^ 12), .int (10 ^ 13), .str "", .str "a", .str "b", .str "ab", .str "Rome", .str "), [a,b", .str "\"", .str "\\", .str "none", .str " "]
def Val (v : V) : Prop := v ∈ valsL
def dataV : V → PyData
  | .bl b => .bool b
  | .int i => .int i
  | .str z => .str z
  | _ => .none
theorem vals_ok : ∀ v ∈ valsL, flatV v = true ∧ (dataV v).canLay0 = true ∧ (dataV v).depth = 0 ∧ (dataV v).showable = true ∧ (dataV v).hasDict = false ∧ (dataV v).shown.length ≤ 20 := by decide +kernel
theorem dp_val {K : PySem.W.Frag} {H : Hp} {v : V} (h : flatV v = true) : Dp K H v (dataV v) := by
  cases v with
  | non => exact .non
  | bl b => exact .bl b
  | int i => exact .int i
  | str z => exact .str z
  | byt b => cases h
  | flt b => cases h
  | ref a => cases h
  | ty n => cases h
abbrev rowD (r : List V) : PyData := .tuple (r.map dataV)
abbrev rowsD (rows : List (List V)) : List PyData := rows.map rowD
theorem dp_row {K : PySem.W.Frag} {H : Hp} : ∀ {r : List V}, (∀ v ∈ r, Val v) → DpAll K H r (r.map dataV)
  | [], _ => .nil
  | v :: r, h => .cons (dp_val (vals_ok v (h v List.mem_cons_self)).1) (dp_row fun u hu => h u (List.mem_cons_of_mem _ hu))
theorem dp_rows {K : PySem.W.Frag} {H : Hp} : ∀ {rs : List Addr} {rows : List (List V)}, rs.length = rows.length → (∀ (i : Nat) (a : Addr) (r : List V), rs[i]? = some a → rows[i]? = some r → SqT K H a r) → (∀ r ∈ rows, ∀ v ∈ r, Val v) → DpAll K H (rs.map V.ref) (rowsD rows)
  | [], [], _, _, _ => .nil
  | [], _ :: _, h, _, _ => by simp at h
  | _ :: _, [], h, _, _ => by simp at h
  | a :: rs, r :: rows, hl, h, hv => .cons (.tup (h 0 a r rfl rfl) (dp_row (hv r List.mem_cons_self))) (dp_rows (by simpa using hl) (fun i b q x y => h (i + 1) b q x y) fun q hq => hv q (List.mem_cons_of_mem _ hq))
theorem canLay_vals : ∀ {r : List V}, (∀ v ∈ r, Val v) → PyData.canLayAll0 (r.map dataV) = true ∧ PyData.depthAll (r.map dataV) = 0 ∧ PyData.showableAll (r.map dataV) = true ∧ PyData.hasDictAll (r.map dataV) = false ∧ piled (PyData.shownAll (r.map dataV)) ≤ r.length * 22
  | [], _ => by simp [PyData.canLayAll0, PyData.depthAll, PyData.showableAll, PyData.hasDictAll, PyData.shownAll, piled]
  | v :: r, h => by
    obtain ⟨h1, h2, h3, h4, h5⟩ := canLay_vals (r := r) fun u hu => h u (List.mem_cons_of_mem _ hu)
    obtain ⟨_, k1, k2, k3, k4, k5⟩ := vals_ok v (h v List.mem_cons_self)
    simp only [List.map_cons, PyData.canLayAll0, PyData.depthAll, PyData.showableAll, PyData.hasDictAll, PyData.shownAll, piled_cons, List.length_cons, h1, h2, h3, h4, k1, k2, k3, k4]
    refine ⟨rfl, rfl, rfl, rfl, ?_⟩
    omega
theorem tupleText_le (ts : List Str) : (tupleText ts).length ≤ piled ts + 4 := by
  unfold tupleText
  rw [strLen_append, strLen_append]
  have e1 : ((("(" : String) : Str)).length = 1 := rfl
  have e2 : ((if ts.length == 1 then ",)" else ")" : String) : Str).length ≤ 2 := by split <;> decide
  have e3 : (Str.join ", " ts).length ≤ piled ts := by
    by_cases h : ts = []
    · subst h; decide
    · have := join_length_add ts h
      omega
  omega
theorem row_data {r : List V} (h : ∀ v ∈ r, Val v) (hl : r.length ≤ 4) : (rowD r).canLay0 = true ∧ (rowD r).depth = 1 ∧ (rowD r).showable = true ∧ (rowD r).hasDict = false ∧ (rowD r).shown.length ≤ 92 := by
  obtain ⟨h1, h2, h3, h4, h5⟩ := canLay_vals h
  refine ⟨by simpa only [PyData.canLay0] using h1, by simp only [PyData.depth, h2], by simpa only [PyData.showable] using h3, by simpa only [PyData.hasDict] using h4, ?_⟩
  simp only [PyData.shown]
  have := tupleText_le (PyData.shownAll (r.map dataV))
  omega
theorem rows_data : ∀ {rows : List (List V)}, (∀ r ∈ rows, (∀ v ∈ r, Val v) ∧ r.length ≤ 4) → PyData.canLayAll0 (rowsD rows) = true ∧ PyData.depthAll (rowsD rows) ≤ 1 ∧ PyData.showableAll (rowsD rows) = true ∧ PyData.hasDictAll (rowsD rows) = false ∧ piled (PyData.shownAll (rowsD rows)) ≤ rows.length * 94
  | [], _ => by simp [PyData.canLayAll0, PyData.depthAll, PyData.showableAll, PyData.hasDictAll, PyData.shownAll, piled]
  | r :: rows, h => by
    obtain ⟨h1, h2, h3, h4, h5⟩ := rows_data (rows := rows) fun u hu => h u (List.mem_cons_of_mem _ hu)
    obtain ⟨k1, k2, k3, k4, k5⟩ := row_data (h r List.mem_cons_self).1 (h r List.mem_cons_self).2
    simp only [List.map_cons, PyData.canLayAll0, PyData.depthAll, PyData.showableAll, PyData.hasDictAll, PyData.shownAll, piled_cons, List.length_cons, h1, h3, h4, k1, k2, k3, k4]
    have h2' : PyData.depthAll (List.map rowD rows) ≤ 1 := h2
    have h5' : piled (PyData.shownAll (List.map rowD rows)) ≤ rows.length * 94 := h5
    refine ⟨rfl, by omega, rfl, rfl, ?_⟩
    omega
/-- the rows as a list and as a tuple: comparable, showable -/
theorem list_shaped {rows : List (List V)} (h : ∀ r ∈ rows, (∀ v ∈ r, Val v) ∧ r.length ≤ 4) : SeqAt.shaped (.list (rowsD rows)) = true := by
  obtain ⟨h1, h2, _⟩ := rows_data h
  unfold SeqAt.shaped
  simp only [PyData.canLay0, PyData.depth, h1, Bool.true_and]
  exact decide_eq_true (by omega)
theorem nil_shaped : SeqAt.shaped (.list []) = true := by decide +kernel
theorem eqv_nil (ds : List PyData) : PyData.eqv (.list ds) (.list []) = ds.isEmpty := by
  cases ds with
  | nil => simp [PyData.eqv, PyData.eqvAll]
  | cons d ds => simp [PyData.eqv, PyData.eqvAll]
theorem tup_show {rows : List (List V)} (h : ∀ r ∈ rows, (∀ v ∈ r, Val v) ∧ r.length ≤ 4) (hl : rows.length ≤ 1000) : (PyData.tuple (rowsD rows)).showable = true ∧ (PyData.tuple (rowsD rows)).hasDict = false ∧ (PyData.tuple (rowsD rows)).depth ≤ 60 ∧ (PyData.tuple (rowsD rows)).shown.length ≤ sizeLine := by
  obtain ⟨h1, h2, h3, h4, h5⟩ := rows_data h
  have hs0 : sizeLine = 16777216 := sizeLine_eq
  refine ⟨by simpa only [PyData.showable] using h3, by simpa only [PyData.hasDict] using h4, by simp only [PyData.depth]; omega, ?_⟩
  simp only [PyData.shown]
  have := tupleText_le (PyData.shownAll (rowsD rows))
  omega
/-- a row of a schema, of drawn values -/
def RowV (sch : Sch) (r : List V) : Prop := RowOk sch r ∧ ∀ v ∈ r, Val v
theorem rowsV_data {sch : Sch} {rows : List (List V)} (hs : sch.length ≤ 4) (h : ∀ r ∈ rows, RowV sch r) : ∀ r ∈ rows, (∀ v ∈ r, Val v) ∧ r.length ≤ 4 := fun r hr => ⟨(h r hr).2, by rw [(h r hr).1.1]; exact hs⟩
end LF
set_option Elab.async false
set_option linter.all false
set_option maxRecDepth 100000
set_option maxHeartbeats 4000000
/-! The law's numbers: cells, pools, draws, names, values. -/
namespace LF
open PySem PySem.Spec PyProof.Rows L2
variable {P : Program} {w : World} {K : PySem.W.Frag} {mg : Str → Option Value} {base : Heap}
def PoolAt (H : Hp) (pl : Addr) : Prop := ∃ a b c : Int, H pl = some (.lst [.int a, .int b, .int c]) ∧ 0 ≤ a ∧ a < 2147483423 ∧ 0 ≤ b
theorem sameX_same {x : Addr} {H H1 H2 : Hp} (a : SameX x H H1) (b : Same H1 H2) : SameX x H H2 := fun c o n h => b c o (a c o n h)
theorem PoolAt.same {H H' : Hp} {pl : Addr} (h : PoolAt H pl) (s : Same H H') : PoolAt H' pl := by
  obtain ⟨a, b, c, h1, h2⟩ := h
  exact ⟨a, b, c, s _ _ h1, h2⟩

/-! ### draw -/
theorem sc_draw : FnScope ["_law_pool_here", "_law_many", "_law_was", "_law_more", "_law_digit"] ["_law_pool_here", "_law_many"] (defScope (top 58)) := ⟨rfl, rfl, rfl, by decide +kernel, rfl, by decide +kernel, by decide +kernel⟩
def spDraw : Sp := fun vs H Q _ => ∃ (pl : Addr) (m : Nat), vs = [.ref pl, .int (m : Nat)] ∧ PoolAt H pl ∧ 1 ≤ m ∧ m ≤ 1000 ∧ ∀ H' (d : Nat), SameX pl H H' → PoolAt H' pl → d < m → Q (.int (d : Nat)) H'
theorem ok_draw (T : TX P K mg) : Ok P w K mg base 1 (ga K "_law_draw") ["_law_pool_here", "_law_many"] spDraw := by
  obtain ⟨fd, F⟩ := T.f__law_draw
  refine ⟨fd, F.ok sc_draw (fun vs H Q E h => by obtain ⟨_, _, rfl, _⟩ := h; rfl) (fun cdv A outer s H vs Q E hr h => ?_), F.binds fun _ _ _ _ _ _ us hl => match us, hl with | [_, _], _ => rfl⟩
  obtain ⟨pl, m, rfl, ⟨a, b, c, h, ha, ha2, hb⟩, hm1, hm2, hQ⟩ := h
  refine ⟨_, pss_cons (ps_asg (pe_op op_add (pe_ix ix_list (pv 0) pe_int (fun _ _ => rfl)) pe_int) (pg_sub (pv 0) pe_int set_list))
    (pss_cons (ps_par (i := 2) (j := 3) (by rfl) sc_draw.nd rfl rfl (by decide) rfl rfl (pa_cons (pe_ix ix_list (pv 0) pe_int (fun _ _ => rfl)) (pa_cons (pe_op op_add (pe_op op_mul pe_int (pe_ix ix_list (pv 0) pe_int (fun _ _ => rfl))) pe_int) pa_nil)) (by rfl))
    (pss_cons (ps_asg (pe_op op_mod (pe_op op_add (pe_op op_mul (pv 2) (pe_op op_add (pe_op op_mod (pv 2) pe_int) pe_int)) (pv 3)) pe_int) (pg_sub (pv 0) pe_int set_list))
    (pss_cons (ps_if (pt_cmpR op_gt (pe_ix ix_list (pv 0) pe_int (fun _ _ => rfl)) pe_int (nomark _))
      (pss_cons (ps_asg (pe_callB call_divmodW (by rfl) T.b_divmod boot_divmod (pa_cons (pe_ix ix_list (pv 0) pe_int (fun _ _ => rfl)) (pa_cons (pv 1) pa_nil))) (pg_tup rfl (pgs_cons (pg_sub (pv 0) pe_int set_list) (pgs_cons (pg_name (i := 4) sc_draw.nd rfl (.inl rfl)) pgs_nil))))
        (pss_one (ps_ret (pv 4)))) pss_nil)
    (pss_one (ps_ret (pe_op op_mod (pe_op op_fdiv (pe_ix ix_list (pv 0) pe_int (fun _ _ => rfl)) pe_int) (pv 1))))))), ?_⟩
  refine ⟨_, rfl, pl, _, _, .int c, rfl, rfl, SqL.of h, atI_nat (j := 2) rfl, _, _, rfl, rfl, _, rfl, pl, _, 2, 2, rfl, rfl, h, rfl, ?_⟩
  have h1 : upd H pl (.lst (([.int a, .int b, .int c] : List V).set 2 (.int (c + 1)))) pl = some (.lst [.int a, .int b, .int (c + 1)]) := upd_same
  have s1 : SameX pl H (upd H pl (.lst (([.int a, .int b, .int c] : List V).set 2 (.int (c + 1))))) := SameX.put
  generalize upd H pl (.lst (([.int a, .int b, .int c] : List V).set 2 (.int (c + 1)))) = H1 at h1 s1 ⊢
  refine ⟨_, rfl, pl, _, _, .int a, rfl, rfl, SqL.of h1, atI_nat (j := 0) rfl, _, rfl, pl, _, _, .int (c + 1), rfl, rfl, SqL.of h1, atI_nat (j := 2) rfl, _, _, rfl, rfl, .inl ⟨by decide, by decide⟩, _, _, rfl, rfl, _, _, rfl, ?_⟩
  refine ⟨_, rfl, _, rfl, _, _, rfl, rfl, (by show (0 : Int) < 43013; decide), _, _, rfl, rfl, _, _, rfl, rfl, .inl ⟨by omega, by omega⟩, _, rfl, _, _, rfl, rfl, _, _, rfl, rfl, (by show (0 : Int) < 2147483423; decide), ?_⟩
  refine ⟨_, rfl, pl, _, 0, 0, rfl, rfl, h1, rfl, ?_⟩
  have hn1 := Int.emod_nonneg (a * (a % 43013 + 26003) + (60029 * (c + 1) + 19)) (show (2147483423 : Int) ≠ 0 by decide)
  have hn2 := Int.emod_lt_of_pos (a * (a % 43013 + 26003) + (60029 * (c + 1) + 19)) (show (0 : Int) < 2147483423 by decide)
  have h2 : upd H1 pl (.lst (([.int a, .int b, .int (c + 1)] : List V).set 0 (.int ((a * (a % 43013 + 26003) + (60029 * (c + 1) + 19)) % 2147483423)))) pl = some (.lst [.int ((a * (a % 43013 + 26003) + (60029 * (c + 1) + 19)) % 2147483423), .int b, .int (c + 1)]) := upd_same
  have s2 : SameX pl H (upd H1 pl (.lst (([.int a, .int b, .int (c + 1)] : List V).set 0 (.int ((a * (a % 43013 + 26003) + (60029 * (c + 1) + 19)) % 2147483423))))) := s1.trans SameX.put
  dsimp only
  generalize (a * (a % 43013 + 26003) + (60029 * (c + 1) + 19)) % 2147483423 = a2 at hn1 hn2 h2 s2 ⊢
  generalize upd H1 pl (.lst (([.int a, .int b, .int (c + 1)] : List V).set 0 (.int a2))) = H2 at h2 s2 ⊢
  refine ⟨_, rfl, pl, _, _, .int b, rfl, rfl, SqL.of h2, atI_nat (j := 1) rfl, _, _, rfl, rfl, _, rfl, ?_⟩
  have hmi : (0 : Int) < (m : Nat) := by omega
  by_cases hb0 : (0 : Int) < b
  · rw [decide_eq_true hb0]
    refine iteT ?_
    refine ⟨_, rfl, pl, _, _, .int b, rfl, rfl, SqL.of h2, atI_nat (j := 1) rfl, _, rfl, _, _, rfl, ⟨hmi, PyProof.noPylong_small (by omega)⟩, fun p hp => ?_⟩
    have hne : pl ≠ p := ne_of_none h2 hp
    have hb1 := Int.emod_nonneg b (show ((m : Nat) : Int) ≠ 0 by omega)
    have hb2 := Int.emod_lt_of_pos b hmi
    have hb3 : 0 ≤ b / (m : Nat) := Int.ediv_nonneg hb (by omega)
    refine ⟨p, _, rfl, SqT.of upd_same, rfl, _, _, rfl, _, rfl, pl, _, 1, 1, rfl, rfl, (by rw [upd_ne hne]; exact h2), rfl, _, _, rfl, rfl, _, rfl, ?_⟩
    obtain ⟨d, hd⟩ := Int.eq_ofNat_of_zero_le hb1
    have hd' : b % (m : Nat) = (d : Nat) := hd
    rw [hd']
    refine hQ _ d ?_ ⟨a2, b / (m : Nat), c + 1, upd_same, hn1, hn2, hb3⟩ (by omega)
    exact (sameX_same s2 (same_upd hp)).trans SameX.put
  · rw [decide_eq_false hb0]
    refine iteF ?_
    refine ⟨_, rfl, pl, _, _, .int a2, rfl, rfl, SqL.of h2, atI_nat (j := 0) rfl, _, _, rfl, rfl, ⟨by decide, by decide⟩, _, rfl, _, _, rfl, rfl, hmi, ?_⟩
    have hb1 := Int.emod_nonneg (a2 / 32) (show ((m : Nat) : Int) ≠ 0 by omega)
    have hb2 := Int.emod_lt_of_pos (a2 / 32) hmi
    obtain ⟨d, hd⟩ := Int.eq_ofNat_of_zero_le hb1
    show Q (.int (a2 / 32 % (m : Nat))) H2
    have hd' : a2 / 32 % (m : Nat) = (d : Nat) := hd
    rw [hd']
    exact hQ _ d s2 ⟨a2, b, c + 1, h2, hn1, hn2, hb⟩ (by omega)

/-! ### cell, pool -/
theorem sc_cell : FnScope ["_law_script", "_law_k", "_law_state_here", "_law_cell_here"] ["_law_script", "_law_k"] (defScope (top 56)) := ⟨rfl, rfl, rfl, by decide +kernel, rfl, by decide +kernel, by decide +kernel⟩
def spCellL (K : PySem.W.Frag) : Sp := fun vs H Q _ => ∃ (sa : Addr) (ns : List Int) (k : Nat), vs = [.ref sa, .int (k : Nat)] ∧ SqL K H sa (ns.map V.int) ∧ k ≤ 100 ∧ ∀ H' i, Same H H' → Q (.int i) H'
theorem ok_cell (T : TX P K mg) : Ok P w K mg base 1 (ga K "_law_cell") ["_law_script", "_law_k"] (spCellL K) := by
  obtain ⟨fd, F⟩ := T.f__law_cell
  refine ⟨fd, F.ok sc_cell (fun vs H Q E h => by obtain ⟨_, _, _, rfl, _⟩ := h; rfl) (fun cdv A outer s H vs Q E hr h => ?_), F.binds fun _ _ _ _ _ _ us hl => match us, hl with | [_, _], _ => rfl⟩
  obtain ⟨sa, ns, k, rfl, hs, hk, hQ⟩ := h
  refine ⟨_, pss_cons (ps_if (pt_cmpR op_lt (pv 1) (pe_callB call_len (by rfl) T.b_len boot_len (pa_cons (pv 0) pa_nil)) (nomark _)) (pss_one (ps_ret (pe_ix ix_list (pv 0) (pv 1) (fun _ _ => rfl)))) pss_nil)
    (pss_cons (ps_set (i := 2) sc_cell.nd rfl (.inl rfl) (pe_op op_mod (pe_op op_mul pe_int (pe_op op_add (pe_op op_add (pe_op op_mul (pv 1) (pv 1)) (pe_op op_mul pe_int (pv 1))) pe_int)) pe_int))
    (pss_cons (ps_for PassesOwn.never rfl (pi_list (pe_slice sl_list (pv 0) po_none (po_some pe_int))) (pg_name (i := 3) sc_cell.nd rfl (.inl rfl))
      (pss_one (ps_set (i := 2) sc_cell.nd rfl (.inl rfl) (pe_op op_mod (pe_op op_add (pe_op op_mul (pv 2) pe_int) (pv 3)) pe_int))))
    (pss_one (ps_ret (pv 2))))), ?_⟩
  refine ⟨_, rfl, _, rfl, _, _, rfl, .inl ⟨_, hs, rfl⟩, _, _, rfl, rfl, _, rfl, ?_⟩
  by_cases hlt : ((k : Nat) : Int) < ((ns.map V.int).length : Nat)
  · rw [decide_eq_true hlt]
    refine iteT ?_
    obtain ⟨i, hi⟩ := lt_get (l := ns) (i := k) (by simpa using hlt)
    exact ⟨_, rfl, _, rfl, sa, _, _, .int i, rfl, rfl, hs, atI_nat (j := k) (by rw [List.getElem?_map, hi]; rfl), hQ H i (Same.refl H)⟩
  · rw [decide_eq_false hlt]
    refine iteF ?_
    refine ⟨_, rfl, _, rfl, _, _, rfl, rfl, .inl ⟨by omega, by omega⟩, _, rfl, _, _, rfl, rfl, .inl ⟨by decide, by decide⟩, _, _, rfl, rfl, _, _, rfl, rfl, _, _, rfl, rfl, .inl ⟨by decide, by decide⟩, _, _, rfl, rfl, (by show (0 : Int) < 2147483423; decide), ?_⟩
    refine ⟨_, rfl, _, rfl, sa, _, rfl, hs, fun p hp => ?_⟩
    have s1 : Same H (upd H p (.lst (cutV (ns.map V.int) none (some 3)))) := same_upd hp
    refine ⟨p, rfl, ⟨_, SqL.of upd_same⟩, ?_⟩
    refine for_it (walk_list (xs := cutV (ns.map V.int) none (some 3))) (fun i σ H' => (∃ (st : Int) (c : Option V), σ = [some (.ref sa), some (.int (k : Nat)), some (.int st), c]) ∧ H' = upd H p (.lst (cutV (ns.map V.int) none (some 3)))) ⟨⟨_, _, rfl⟩, rfl⟩ (fun i σ H' _ q => by rw [q.2]; exact SqL.of upd_same) (fun i z σ H1 H2 hi q hy => ?_) fun σ H1 q => ?_
    · obtain ⟨⟨st, c, rfl⟩, rfl⟩ := q
      obtain ⟨rfl, hz⟩ := hy
      have hz2 : z ∈ ns.map V.int := List.mem_of_mem_drop (List.mem_of_mem_take (List.mem_of_getElem? hz))
      obtain ⟨v, _, rfl⟩ := List.mem_map.mp hz2
      exact ⟨_, rfl, _, _, rfl, rfl, .inr ⟨by decide, by decide⟩, _, rfl, _, _, rfl, rfl, _, _, rfl, rfl, (by show (0 : Int) < 2147483423; decide), ⟨_, _, rfl⟩, rfl⟩
    · obtain ⟨⟨st, c, rfl⟩, rfl⟩ := q
      exact ⟨_, rfl, hQ _ st s1⟩
theorem sc_pool : FnScope ["_law_cell_here", "_law_digits"] ["_law_cell_here"] (defScope (top 57)) := ⟨rfl, rfl, rfl, by decide +kernel, rfl, by decide +kernel, by decide +kernel⟩
def spPool : Sp := fun vs H Q _ => ∃ i : Int, vs = [.int i] ∧ ∀ H' p, Same H H' → H p = none → PoolAt H' p → Q (.ref p) H'
theorem ok_pool (T : TX P K mg) : Ok P w K mg base 1 (ga K "_law_pool") ["_law_cell_here"] spPool := by
  obtain ⟨fd, F⟩ := T.f__law_pool
  refine ⟨fd, F.ok sc_pool (fun vs H Q E h => by obtain ⟨_, rfl, _⟩ := h; rfl) (fun cdv A outer s H vs Q E hr h => ?_), F.binds fun _ _ _ _ _ _ us hl => match us, hl with | [_], _ => rfl⟩
  obtain ⟨i, rfl, hQ⟩ := h
  refine ⟨_, pss_cons (ps_set (i := 1) sc_pool.nd rfl (.inl rfl) (pe_ifExp (PW.pt (pw_or (pt_cmpR op_lt (pv 0) pe_int (nomark _)) (pw_or1 (pt_cmpR op_ge (pv 0) (pe_op op_pow pe_int pe_int) (nomark _))))) (pe_callB call_abs (by rfl) T.b_abs boot_abs (pa_cons (pv 0) pa_nil)) pe_int))
    (pss_one (ps_ret (pe_lst (pa_cons (pe_op op_mod (pv 0) pe_int) (pa_cons (pv 1) (pa_cons pe_int pa_nil)))))), ?_⟩
  have hn1 := Int.emod_nonneg i (show (2147483423 : Int) ≠ 0 by decide)
  have hn2 := Int.emod_lt_of_pos i (show (0 : Int) < 2147483423 by decide)
  have tail : ∀ d : Int, 0 ≤ d → tRet (tLst (tCons (tOp (rI (fun _ j => 0 < j) fun i j => .int (i % j)) (tVar 0) (tC (.int 2147483423))) (tCons (tVar 1) (tCons (tC (.int 0)) tNil)))) { nx := fun _ H' => Q .non H', rt := Q } [some (.int i), some (.int d)] H := fun d hd =>
    ⟨_, rfl, _, _, rfl, rfl, (by show (0 : Int) < 2147483423; decide), _, rfl, by show (3 : Nat) ≤ sizeLine; decide, fun p hp => hQ _ p (same_upd hp) hp ⟨_, _, _, upd_same, hn1, hn2, hd⟩⟩
  have habs : 0 ≤ (if i < 0 then -i else i) := by split <;> omega
  refine ⟨_, rfl, _, _, rfl, rfl, _, rfl, ?_⟩
  by_cases h1 : i < 0
  · rw [decide_eq_true h1]
    refine iteT (iteT ⟨_, rfl, _, rfl, ?_⟩)
    exact tail _ habs
  · rw [decide_eq_false h1]
    refine iteF ?_
    refine ⟨_, rfl, _, _, rfl, rfl, ⟨by decide, by decide, by decide⟩, _, _, rfl, rfl, _, rfl, ?_⟩
    by_cases h2 : (10 ^ (18 : Int).toNat : Int) ≤ i
    · rw [decide_eq_true h2]
      refine iteT ⟨_, rfl, _, rfl, ?_⟩
      exact tail _ habs
    · rw [decide_eq_false h2]
      exact iteF (tail 0 (by decide))
end LF
set_option Elab.async false
set_option linter.all false
set_option maxRecDepth 100000
set_option maxHeartbeats 4000000
/-! The law's names, values, heads. -/
namespace LF
open PySem PySem.Spec PyProof.Rows L2
variable {P : Program} {w : World} {K : PySem.W.Frag} {mg : Str → Option Value} {base : Heap}
instance {z : Str} : Decidable (NameOk z) := by unfold NameOk; infer_instance
theorem sqT_pool {pl : Addr} {H H' : Hp} (hp : PoolAt H pl) (sx : SameX pl H H') {a : Addr} {xs : List V} (h : SqT K H a xs) : SqT K H' a xs := by
  obtain ⟨_, _, _, hx, _⟩ := hp
  exact h.elim (fun h => .inl (h.elim (fun h => .inl (sx _ _ (ne_of h hx (fun z => by cases z)) h)) fun ⟨o, h⟩ => .inr ⟨o, sx _ _ (ne_of h hx (fun z => by cases z)) h⟩)) fun h => .inr h
theorem hd_pool {pl : Addr} {H H' : Hp} (hp : PoolAt H pl) (sx : SameX pl H H') {hd : Addr} {sch : Sch} (h : Hd K H hd sch) : Hd K H' hd sch := by
  obtain ⟨as, h1, h2, h3⟩ := h
  exact ⟨as, sqT_pool hp sx h1, h2, fun i a p u v => sqT_pool hp sx (h3 i a p u v)⟩
theorem rows_pool {pl : Addr} {H H' : Hp} (hp : PoolAt H pl) (sx : SameX pl H H') {L : Addr} {rows : List (List V)} (h : RowsAt K H L rows) : RowsAt K H' L rows := by
  obtain ⟨as, h1, h2, h3⟩ := h
  exact ⟨as, sqT_pool hp sx h1, h2, fun i a p u v => sqT_pool hp sx (h3 i a p u v)⟩
theorem pool_ne {pl : Addr} {H : Hp} (hp : PoolAt H pl) {q : Addr} (h : H q = none) : q ≠ pl := by
  obtain ⟨_, _, _, hx, _⟩ := hp
  exact (ne_of_none hx h).symm
/-- after a draw, what was free before and is named now -/
theorem sx_at {pl : Addr} {H H' : Hp} (hp : PoolAt H pl) {p : Addr} (hf : H p = none) {o : HO} {H1 : Hp} (h1 : H1 p = some o) (sx : SameX pl H1 H') : H' p = some o := sx _ _ (pool_ne hp hf) h1

/-! ### calls -/
def ownL : List Str := ["scan", "where", "pick", "add", "there", "up", "all", "int", "count", "none", "value", "rows"]
def name1 (b k : Nat) : Str := ownL.getD ((b + 5 * k) % 12) ""
def name2 (b k : Nat) : Str := ⟨(List.replicate (([1, 1, 2, 8] : List Nat).getD (k % 4) 0) #[lettersZ.cps.toList.getD ((b + 5 * k) % 26) 0]).foldl (· ++ ·) #[]⟩
theorem names1 : ∀ b < 12, ∀ m < 5, ((List.range m).map (name1 b)).Nodup ∧ ∀ z ∈ (List.range m).map (name1 b), NameOk z := by decide +kernel
theorem names2 : ∀ b < 12, ∀ m < 5, ((List.range m).map (name2 b)).Nodup ∧ ∀ z ∈ (List.range m).map (name2 b), NameOk z := by decide +kernel
theorem range_map_succ {α : Type} {f : Nat → α} {i : Nat} : (List.range (i + 1)).map f = (List.range i).map f ++ [f i] := by
  rw [List.range_succ, List.map_append]; rfl
abbrev nmCalls : List Str := ["_law_pool_here", "_law_many", "_law_own", "_law_begin", "_law_letters", "_law_k"]
theorem sc_calls : FnScope nmCalls ["_law_pool_here", "_law_many"] (defScope (top 59)) := ⟨rfl, rfl, rfl, by decide +kernel, rfl, by decide +kernel, by decide +kernel⟩
def spCalls : Sp := fun vs H Q _ => ∃ (pl : Addr) (m : Nat), vs = [.ref pl, .int (m : Nat)] ∧ PoolAt H pl ∧ m ≤ 4 ∧
  ∀ H' p (ns : List Str), SameX pl H H' → PoolAt H' pl → H p = none → H' p = some (.lst (ns.map V.str)) → ns.length = m → ns.Nodup → (∀ z ∈ ns, NameOk z) → Q (.ref p) H'
theorem ok_calls (T : TX P K mg) : Ok P w K mg base 2 (ga K "_law_calls") ["_law_pool_here", "_law_many"] spCalls := by
  obtain ⟨fd, F⟩ := T.f__law_calls
  have O1 : Ok P w K mg base 1 (ga K "_law_draw") ["_law_pool_here", "_law_many"] spDraw := ok_draw T
  refine ⟨fd, F.ok sc_calls (fun vs H Q E h => by obtain ⟨_, _, rfl, _⟩ := h; rfl) (fun cdv A outer s H vs Q E hr h => ?_), F.binds fun _ _ _ _ _ _ us hl => match us, hl with | [_, _], _ => rfl⟩
  obtain ⟨pl, m, rfl, hp, hm, hQ⟩ := h
  refine ⟨_, pss_cons (ps_set (i := 2) sc_calls.nd rfl (.inr rfl) (pe_lst (pa_cons pe_str (pa_cons pe_str (pa_cons pe_str (pa_cons pe_str (pa_cons pe_str (pa_cons pe_str (pa_cons pe_str (pa_cons pe_str (pa_cons pe_str (pa_cons pe_str (pa_cons pe_str (pa_cons pe_str pa_nil))))))))))))))
    (pss_cons (ps_set (i := 3) sc_calls.nd rfl (.inr rfl) (pe_callO O1 T.f__law_draw.kp hr (by rfl) T.g__law_draw (pa_cons (pv 0) (pa_cons pe_int pa_nil))))
    (pss_cons (ps_if (pt_cmpR op_eq (pe_callO O1 T.f__law_draw.kp hr (by rfl) T.g__law_draw (pa_cons (pv 0) (pa_cons pe_int pa_nil))) pe_int (nomark _))
      (pss_one (ps_ret (pe_lc (own := [("_law_k", 5)]) (g := gName 5) (tt := tYes) (by rfl) sc_calls.nd (pi_range1 (by rfl) T.b_range (pa_cons (pv 1) pa_nil)) (blkOk_by (own := [("_law_k", 5)]) (N := nmCalls) (sc := defScope (top 59)) (by decide +kernel))
        (fun _ _ _ _ _ => pg_name (i := 5) sc_calls.nd rfl (Or.inl rfl)) (fun _ _ _ _ _ => pts_nil) (fun _ _ _ _ _ => pe_ix (r := rIxL K) ix_list (pv 2) (pe_op op_mod (pe_op op_add (pv 3) (pe_op op_mul pe_int (pv 5))) pe_int) (fun _ _ => rfl))))) pss_nil)
    (pss_cons (ps_set (i := 4) sc_calls.nd rfl (.inr rfl) pe_str)
    (pss_one (ps_ret (pe_lc (own := [("_law_k", 5)]) (g := gName 5) (tt := tYes) (by rfl) sc_calls.nd (pi_range1 (by rfl) T.b_range (pa_cons (pv 1) pa_nil)) (blkOk_by (own := [("_law_k", 5)]) (N := nmCalls) (sc := defScope (top 59)) (by decide +kernel))
        (fun _ _ _ _ _ => pg_name (i := 5) sc_calls.nd rfl (Or.inl rfl)) (fun _ _ _ _ _ => pts_nil) (fun _ _ _ _ _ => pe_op op_mulS (pe_ix (r := rIxS) ix_str (pv 4) (pe_op op_mod (pe_op op_add (pv 3) (pe_op op_mul pe_int (pv 5))) pe_int) (fun _ _ => rfl))
          (pe_ix (r := rIxL K) ix_list (pe_lst (pa_cons pe_int (pa_cons pe_int (pa_cons pe_int (pa_cons pe_int pa_nil))))) (pe_op op_mod (pv 5) pe_int) (fun _ _ => rfl))))))))), ?_⟩
  have hsl : sizeLine = 16777216 := sizeLine_eq
  refine ⟨by show (12 : Nat) ≤ sizeLine; omega, fun ow how => ?_⟩
  have hp0 := hp.same (same_upd (o := .lst (ownL.map V.str)) how)
  refine ⟨_, rfl, pl, 12, rfl, hp0, by decide, by decide, fun H1 b sx1 hp1 hb => ?_⟩
  have h1o : H1 ow = some (.lst (ownL.map V.str)) := sx_at hp how upd_same sx1
  refine ⟨_, rfl, pl, 3, rfl, hp1, by decide, by decide, fun H2 d sx2 hp2 hd => ?_⟩
  have h2o : H2 ow = some (.lst (ownL.map V.str)) := sx_at hp how h1o sx2
  have s02 : SameX pl H H2 := ((SameX.same (same_upd how)).trans sx1).trans sx2
  have fr : ∀ q, H2 q = none → H q = none := fun q hq => by
    cases e : H q with
    | none => rfl
    | some o =>
      by_cases hqp : q = pl
      · obtain ⟨_, _, _, hx, _⟩ := hp2
        rw [hqp, hx] at hq; cases hq
      · rw [s02 q o hqp e] at hq; cases hq
  refine ⟨rfl, _, rfl, ?_⟩
  show (if decide (V.int (d : Nat) = V.int 0) = true then _ else _)
  by_cases hd0 : d = 0
  · subst hd0
    refine iteT ?_
    refine ⟨_, rfl, m, rfl, by omega, by omega, fun D hD => ?_⟩
    have hoD : ow ≠ D := ne_of_none h2o hD
    refine lc_it walk_range (fun i H' => H' = upd H2 D (.lst (((List.range i).map (name1 b)).map V.str))) rfl (fun _ _ _ _ => trivial) (fun i x H' H'' hi hq hy => ?_) fun H' hq => ?_
    · obtain ⟨rfl, rfl⟩ := hy
      subst hq
      refine ⟨rfl, ?_⟩
      refine yes ?_
      have e : (((b : Nat) : Int) + 5 * ((0 : Int) + (i : Nat))) % 12 = (((b + 5 * i) % 12 : Nat) : Int) := by omega
      obtain ⟨z, hz⟩ := lt_get (l := ownL) (i := (b + 5 * i) % 12) (by show _ < 12; omega)
      have hz2 : name1 b i = z := by unfold name1; rw [List.getD_eq_getElem?_getD, hz]; rfl
      refine ⟨_, rfl, _, rfl, _, rfl, _, _, rfl, rfl, .inl ⟨by decide, by decide⟩, _, _, rfl, rfl, _, _, rfl, rfl, (by show (0 : Int) < 12; decide), ow, _, _, .str z, rfl, rfl, SqL.of (by rw [upd_ne hoD]; exact h2o), ?_, _, upd_same, ?_, ?_⟩
      · rw [e]; exact atI_nat (by rw [List.getElem?_map, hz]; rfl)
      · simp; omega
      · rw [upd_upd, range_map_succ, List.map_append, hz2]; rfl
    · subst hq
      obtain ⟨n1, n2⟩ := names1 b hb (Int.toNat (m : Nat)) (by rw [Int.toNat_natCast]; omega)
      exact hQ _ D _ (s02.trans (SameX.same (same_upd hD))) (hp2.same (same_upd hD)) (fr D hD) upd_same (by simp) n1 n2
  · rw [decide_eq_false (fun z => hd0 (by injection z with z; omega))]
    refine iteF ?_
    refine ⟨_, rfl, m, rfl, by omega, by omega, fun D hD => ?_⟩
    refine lc_it walk_range (fun i H' => Same H2 H' ∧ H' D = some (.lst (((List.range i).map (name2 b)).map V.str))) ⟨same_upd hD, upd_same⟩ (fun _ _ _ _ => trivial) (fun i x H' H'' hi hq hy => ?_) fun H' hq => ?_
    · obtain ⟨rfl, rfl⟩ := hy
      obtain ⟨s3, hD3⟩ := hq
      refine ⟨rfl, ?_⟩
      refine yes ?_
      have e : (((b : Nat) : Int) + 5 * ((0 : Int) + (i : Nat))) % 26 = (((b + 5 * i) % 26 : Nat) : Int) := by omega
      have e2 : ((0 : Int) + (i : Nat)) % 4 = ((i % 4 : Nat) : Int) := by omega
      obtain ⟨z, hz⟩ := lt_get (l := lettersZ.cps.toList) (i := (b + 5 * i) % 26) (by show _ < 26; omega)
      obtain ⟨r, hr4⟩ := lt_get (l := ([1, 1, 2, 8] : List Nat)) (i := i % 4) (by show _ < 4; omega)
      have hr5 : 1 ≤ r ∧ r ≤ 8 := (by decide : ∀ r ∈ ([1, 1, 2, 8] : List Nat), 1 ≤ r ∧ r ≤ 8) r (List.mem_of_getElem? hr4)
      have hz2 : name2 b i = ⟨(List.replicate r #[z]).foldl (· ++ ·) #[]⟩ := by
        have g1 : lettersZ.cps.toList.getD ((b + 5 * i) % 26) 0 = z := by rw [List.getD_eq_getElem?_getD, hz]; rfl
        have g2 : ([1, 1, 2, 8] : List Nat).getD (i % 4) 0 = r := by rw [List.getD_eq_getElem?_getD, hr4]; rfl
        unfold name2
        rw [g1, g2]
      refine ⟨_, rfl, _, rfl, _, rfl, _, _, rfl, rfl, .inl ⟨by decide, by decide⟩, _, _, rfl, rfl, _, _, rfl, rfl, (by show (0 : Int) < 26; decide), _, _, z, rfl, rfl, (by show (26 : Nat) ≤ sizeLine; omega), ?_, (by show (4 : Nat) ≤ sizeLine; omega), fun q hq => ?_⟩
      · rw [e]; exact atI_nat hz
      · have hqD : D ≠ q := ne_of_none hD3 hq
        refine ⟨_, rfl, _, _, rfl, rfl, (by show (0 : Int) < 4; decide), q, ([1, 1, 2, 8] : List Nat).map fun n => V.int (n : Nat), _, .int (r : Nat), rfl, rfl, SqL.of upd_same, ?_, _, r, rfl, rfl, hr5.1, by omega, (by show (1 : Nat) ≤ 1000; decide), (by show (1 : Nat) ≠ 0; decide), _, (by rw [upd_ne hqD]; exact hD3), ?_, ?_⟩
        · rw [e2]; exact atI_nat (by rw [List.getElem?_map, hr4]; rfl)
        · simp; omega
        · refine ⟨fun c o hc => ?_, ?_⟩
          · rw [upd_ne (ne_of_none hc hD), upd_ne (ne_of_none (s3 _ _ hc) hq)]; exact s3 _ _ hc
          · rw [upd_same, range_map_succ, List.map_append, hz2]; rfl
    · obtain ⟨s3, hD3⟩ := hq
      obtain ⟨n1, n2⟩ := names2 b hb (Int.toNat (m : Nat)) (by rw [Int.toNat_natCast]; omega)
      exact hQ _ D _ (s02.trans (SameX.same s3)) (hp2.same s3) (fr D hD) hD3 (by simp) n1 n2

/-! ### worth, size -/
theorem sc_worth : FnScope ["_law_pool_here", "_law_kind_here"] ["_law_pool_here", "_law_kind_here"] (defScope (top 60)) := ⟨rfl, rfl, rfl, by decide +kernel, rfl, by decide +kernel, by decide +kernel⟩
def spWorth : Sp := fun vs H Q _ => ∃ (pl : Addr) (k : Str), vs = [.ref pl, .str k] ∧ PoolAt H pl ∧ KindOk k ∧ ∀ H' v, SameX pl H H' → PoolAt H' pl → KindV k v → Val v → Q v H'
def intsL : List V := [.int 0, .int 1, .int 2, .int (-1), .int 3, .int 7, .int (-10 ^ (12 : Int).toNat), .int (10 ^ (13 : Int).toNat)]
def textsL : List Str := ["", "a", "b", "ab", "Rome", "), [a,b", "\"", "\\", "none", " "]
theorem ints_ok : ∀ v ∈ intsL, Val v := by unfold Val; decide +kernel
theorem ints_int : ∀ v ∈ intsL, ∃ i, v = .int i := by
  intro v h
  simp only [intsL, List.mem_cons, List.not_mem_nil, or_false] at h
  rcases h with rfl | rfl | rfl | rfl | rfl | rfl | rfl | rfl <;> exact ⟨_, rfl⟩
theorem texts_ok : ∀ z ∈ textsL, Val (.str z) ∧ z.length ≤ 1000 ∧ ∀ c ∈ z.cps.toList, 32 ≤ c ∧ c ≤ 126 := by unfold Val; decide +kernel
theorem ok_worth (T : TX P K mg) : Ok P w K mg base 2 (ga K "_law_worth") ["_law_pool_here", "_law_kind_here"] spWorth := by
  obtain ⟨fd, F⟩ := T.f__law_worth
  have O1 : Ok P w K mg base 1 (ga K "_law_draw") ["_law_pool_here", "_law_many"] spDraw := ok_draw T
  refine ⟨fd, F.ok sc_worth (fun vs H Q E h => by obtain ⟨_, _, rfl, _⟩ := h; rfl) (fun cdv A outer s H vs Q E hr h => ?_), F.binds fun _ _ _ _ _ _ us hl => match us, hl with | [_, _], _ => rfl⟩
  obtain ⟨pl, k, rfl, hp, hk, hQ⟩ := h
  refine ⟨_, pss_cons (ps_if (pt_cmpR op_eq (pe_callO O1 T.f__law_draw.kp hr (by rfl) T.g__law_draw (pa_cons (pv 0) (pa_cons pe_int pa_nil))) pe_int (nomark _)) (pss_one (ps_ret pe_non)) pss_nil)
    (pss_cons (ps_if (pt_cmpR op_eq (pv 1) pe_str (nomark _)) (pss_one (ps_ret (pe_ix ix_list (pe_lst (pa_cons pe_int (pa_cons pe_int (pa_cons pe_int (pa_cons (pe_un un_neg pe_int) (pa_cons pe_int (pa_cons pe_int (pa_cons (pe_un un_neg (pe_op op_pow pe_int pe_int)) (pa_cons (pe_op op_pow pe_int pe_int) pa_nil)))))))))
        (pe_callO O1 T.f__law_draw.kp hr (by rfl) T.g__law_draw (pa_cons (pv 0) (pa_cons pe_int pa_nil))) (fun _ _ => rfl)))) pss_nil)
    (pss_cons (ps_if (pt_cmpR op_eq (pv 1) pe_str (nomark _)) (pss_one (ps_ret (pe_ix ix_list (pe_lst (pa_cons pe_str (pa_cons pe_str (pa_cons pe_str (pa_cons pe_str (pa_cons pe_str (pa_cons pe_str (pa_cons pe_str (pa_cons pe_str (pa_cons pe_str (pa_cons pe_str pa_nil)))))))))))
        (pe_callO O1 T.f__law_draw.kp hr (by rfl) T.g__law_draw (pa_cons (pv 0) (pa_cons pe_int pa_nil))) (fun _ _ => rfl)))) pss_nil)
    (pss_one (ps_ret (pe_cmpR op_eq (pe_callO O1 T.f__law_draw.kp hr (by rfl) T.g__law_draw (pa_cons (pv 0) (pa_cons pe_int pa_nil))) pe_int (nomark _)))))), ?_⟩
  have hsl : sizeLine = 16777216 := sizeLine_eq
  refine ⟨_, rfl, pl, 5, rfl, hp, by decide, by decide, fun H1 d sx1 hp1 hd => ?_⟩
  refine ⟨rfl, _, rfl, ?_⟩
  show (if decide (V.int (d : Nat) = V.int 0) = true then _ else _)
  have hnon : Val .non := List.mem_cons_self
  by_cases hd0 : d = 0
  · subst hd0
    exact iteT (hQ _ .non sx1 hp1 (.inl rfl) hnon)
  rw [decide_eq_false (fun z => hd0 (by injection z with z; omega))]
  refine iteF ?_
  refine ⟨_, rfl, rfl, _, rfl, ?_⟩
  rcases hk with rfl | rfl | rfl
  · refine iteT ⟨_, rfl, _, _, rfl, rfl, ⟨by decide, by decide, by decide⟩, _, rfl, _, _, rfl, rfl, ⟨by decide, by decide, by decide⟩, by show (8 : Nat) ≤ sizeLine; omega, fun q hq => ?_⟩
    have hp2 := hp1.same (same_upd (o := .lst intsL) hq)
    refine ⟨_, rfl, pl, 8, rfl, hp2, by decide, by decide, fun H2 e sx2 hp3 he => ?_⟩
    obtain ⟨v, hv⟩ := lt_get (l := intsL) (i := e) he
    have hm := List.mem_of_getElem? hv
    exact ⟨q, intsL, _, v, rfl, rfl, SqL.of (sx_at hp1 hq upd_same sx2), atI_nat hv, hQ _ v ((sx1.trans (SameX.same (same_upd hq))).trans sx2) hp3 (.inr (.inl ⟨rfl, ints_int v hm⟩)) (ints_ok v hm)⟩
  · refine iteF ⟨_, rfl, rfl, _, rfl, iteT ⟨by show (10 : Nat) ≤ sizeLine; omega, fun q hq => ?_⟩⟩
    have hp2 := hp1.same (same_upd (o := .lst (textsL.map V.str)) hq)
    refine ⟨_, rfl, pl, 10, rfl, hp2, by decide, by decide, fun H2 e sx2 hp3 he => ?_⟩
    obtain ⟨z, hz⟩ := lt_get (l := textsL) (i := e) he
    obtain ⟨z1, z2⟩ := texts_ok z (List.mem_of_getElem? hz)
    exact ⟨q, textsL.map V.str, _, .str z, rfl, rfl, SqL.of (sx_at hp1 hq upd_same sx2), atI_nat (by rw [List.getElem?_map, hz]; rfl), hQ _ _ ((sx1.trans (SameX.same (same_upd hq))).trans sx2) hp3 (.inr (.inr (.inl ⟨rfl, z, rfl, z2⟩))) z1⟩
  · refine iteF ⟨_, rfl, rfl, _, rfl, iteF ?_⟩
    refine ⟨_, rfl, pl, 2, rfl, hp1, by decide, by decide, fun H2 e sx2 hp2 he => ⟨rfl, ?_⟩⟩
    refine hQ _ _ (sx1.trans sx2) hp2 (.inr (.inr (.inr ⟨rfl, _, rfl⟩))) ?_
    unfold Val
    cases decide (V.int (e : Nat) = V.int 0) <;> decide
/-! ### size -/
theorem sc_size : FnScope ["_law_pool_here"] ["_law_pool_here"] (defScope (top 64)) := ⟨rfl, rfl, rfl, by decide +kernel, rfl, by decide +kernel, by decide +kernel⟩
def spSize : Sp := fun vs H Q _ => ∃ (pl : Addr), vs = [.ref pl] ∧ PoolAt H pl ∧ ∀ H' (b : Nat), SameX pl H H' → PoolAt H' pl → 1 ≤ b → b ≤ 100 → Q (.int (b : Nat)) H'
theorem ok_size (T : TX P K mg) : Ok P w K mg base 2 (ga K "_law_size") ["_law_pool_here"] spSize := by
  obtain ⟨fd, F⟩ := T.f__law_size
  have O1 : Ok P w K mg base 1 (ga K "_law_draw") ["_law_pool_here", "_law_many"] spDraw := ok_draw T
  refine ⟨fd, F.ok sc_size (fun vs H Q E h => by obtain ⟨_, rfl, _⟩ := h; rfl) (fun cdv A outer s H vs Q E hr h => ?_), F.binds fun _ _ _ _ _ _ us hl => match us, hl with | [_], _ => rfl⟩
  obtain ⟨pl, rfl, hp, hQ⟩ := h
  refine ⟨_, pss_one (ps_ret (pe_ix ix_list (pe_lst (pa_cons pe_int (pa_cons pe_int (pa_cons pe_int (pa_cons pe_int (pa_cons pe_int (pa_cons pe_int (pa_cons pe_int pa_nil))))))))
        (pe_callO O1 T.f__law_draw.kp hr (by rfl) T.g__law_draw (pa_cons (pv 0) (pa_cons pe_int pa_nil))) (fun _ _ => rfl))), ?_⟩
  have hsl : sizeLine = 16777216 := sizeLine_eq
  refine ⟨by show (7 : Nat) ≤ sizeLine; omega, fun q hq => ?_⟩
  have hp2 := hp.same (same_upd (o := .lst (([1, 2, 3, 4, 5, 8, 100] : List Nat).map fun n => V.int (n : Nat))) hq)
  refine ⟨_, rfl, pl, 7, rfl, hp2, by decide, by decide, fun H2 e sx2 hp3 he => ?_⟩
  obtain ⟨z, hz⟩ := lt_get (l := ([1, 2, 3, 4, 5, 8, 100] : List Nat)) (i := e) he
  obtain ⟨z1, z2⟩ := (by decide : ∀ r ∈ ([1, 2, 3, 4, 5, 8, 100] : List Nat), 1 ≤ r ∧ r ≤ 100) z (List.mem_of_getElem? hz)
  exact ⟨q, ([1, 2, 3, 4, 5, 8, 100] : List Nat).map fun n => V.int (n : Nat), _, .int (z : Nat), rfl, rfl, SqL.of (sx_at hp hq upd_same sx2), atI_nat (by rw [List.getElem?_map, hz]; rfl), hQ _ z ((SameX.same (same_upd hq)).trans sx2) hp3 z1 z2⟩
end LF
set_option Elab.async false
set_option linter.all false
set_option maxRecDepth 100000
set_option maxHeartbeats 4000000
/-! The law's heads. -/
namespace LF
open PySem PySem.Spec PyProof.Rows L2
variable {P : Program} {w : World} {K : PySem.W.Frag} {mg : Str → Option Value} {base : Heap}
theorem cutV_from {xs : List V} {k : Nat} : cutV xs (some (k : Nat)) none = xs.drop k := by
  unfold cutV
  rw [HT.sIx_nat, HT.sIx_none]
  by_cases h : k ≤ xs.length
  · rw [Nat.min_eq_left h, List.take_of_length_le (by simp)]
  · rw [Nat.min_eq_right (by omega), List.drop_of_length_le (Nat.le_refl _), List.drop_of_length_le (by omega), List.take_nil]
theorem cutV_to {xs : List V} {k : Nat} : cutV xs none (some (k : Nat)) = xs.take k := by
  unfold cutV
  rw [HT.sIx_nat, HT.sIx_none]
  show (xs.drop 0).take (min k xs.length - 0) = _
  rw [List.drop_zero, Nat.sub_zero]
  by_cases h : k ≤ xs.length
  · rw [Nat.min_eq_left h]
  · rw [Nat.min_eq_right (by omega), List.take_of_length_le (Nat.le_refl _), List.take_of_length_le (by omega)]
/-- a list of rows -/
structure Lines (K : PySem.W.Frag) (H : Hp) (D : Addr) (ts : List Addr) (rows : List (List V)) : Prop where
  at_ : H D = some (.lst (ts.map V.ref))
  len : ts.length = rows.length
  ro : ∀ (k : Nat) (t : Addr) (r : List V), ts[k]? = some t → rows[k]? = some r → SqT K H t r
theorem sqT_list {x : Addr} {H H' : Hp} {ys : List V} (hx : H x = some (.lst ys)) (sx : SameX x H H') {a : Addr} {xs : List V} (h : SqT K H a xs) : SqT K H' a xs :=
  h.elim (fun h => .inl (h.elim (fun h => .inl (sx _ _ (ne_of h hx (fun z => by cases z)) h)) fun ⟨o, h⟩ => .inr ⟨o, sx _ _ (ne_of h hx (fun z => by cases z)) h⟩)) fun h => .inr h
theorem Lines.nil {H : Hp} {D : Addr} (h : H D = some (.lst [])) : Lines K H D [] [] := ⟨h, rfl, fun _ _ _ z => by simp at z⟩
theorem Lines.add {H : Hp} {D t : Addr} {ts : List Addr} {rows : List (List V)} {r : List V} (h : Lines K H D ts rows) (ht : SqT K H t r) : Lines K (upd H D (.lst (ts.map V.ref ++ [.ref t]))) D (ts ++ [t]) (rows ++ [r]) := by
  refine ⟨by rw [upd_same]; simp, by simp [h.len], fun k t' r' z zr => sqT_list h.at_ SameX.put ?_⟩
  by_cases hk : k < ts.length
  · rw [List.getElem?_append_left hk] at z
    rw [List.getElem?_append_left (by rw [← h.len]; exact hk)] at zr
    exact h.ro k t' r' z zr
  · have hk2 : k = ts.length := by
      have := (List.getElem?_eq_some_iff.mp z).1
      simp at this; omega
    subst hk2
    rw [List.getElem?_append_right (Nat.le_refl _), Nat.sub_self] at z
    rw [h.len, List.getElem?_append_right (Nat.le_refl _), Nat.sub_self] at zr
    cases z; cases zr
    exact ht
theorem Lines.same {H H' : Hp} {D : Addr} {ts : List Addr} {rows : List (List V)} (h : Lines K H D ts rows) (s : Same H H') : Lines K H' D ts rows := ⟨s _ _ h.at_, h.len, fun k t r z zr => same_sqT s (h.ro k t r z zr)⟩
theorem refs_ne {ts : List Addr} {a b c : Int} : ts.map V.ref ≠ [.int a, .int b, .int c] := by
  cases ts with
  | nil => intro h; cases h
  | cons t r => intro h; simp at h
theorem Lines.pool {H H' : Hp} {D pl : Addr} {ts : List Addr} {rows : List (List V)} (h : Lines K H D ts rows) (hp : PoolAt H pl) (s : SameX pl H H') : Lines K H' D ts rows := by
  refine ⟨s _ _ ?_ h.at_, h.len, fun k t r z zr => sqT_pool hp s (h.ro k t r z zr)⟩
  obtain ⟨a, b, c, hx, _⟩ := hp
  exact ne_of h.at_ hx fun z => by injection z with z; exact refs_ne z
theorem Lines.rows {H : Hp} {D L : Addr} {ts : List Addr} {rows : List (List V)} (h : Lines K H D ts rows) (hL : SqT K H L (ts.map V.ref)) : RowsAt K H L rows := ⟨ts, hL, h.len, h.ro⟩

/-! ### heads -/
abbrev nmHeads : List Str := ["_law_pool_here", "_law_calls_here", "_law_kinds", "_law_call", "_law_k"]
theorem sc_heads : FnScope nmHeads ["_law_pool_here", "_law_calls_here"] (defScope (top 61)) := ⟨rfl, rfl, rfl, by decide +kernel, rfl, by decide +kernel, by decide +kernel⟩
def spHeads (K : PySem.W.Frag) : Sp := fun vs H Q _ => ∃ (pl cl : Addr) (ns : List Str), vs = [.ref pl, .ref cl] ∧ PoolAt H pl ∧ H cl = some (.lst (ns.map V.str)) ∧ ns ≠ [] ∧ ns.length ≤ 4 ∧ ns.Nodup ∧ (∀ z ∈ ns, NameOk z) ∧
  ∀ H' hd sch, SameX pl H H' → PoolAt H' pl → H hd = none → Hd K H' hd sch → SchOk sch → Q (.ref hd) H'
def kindsL : List Str := ["int", "text", "bool", "int", "text"]
theorem ok_heads (T : TX P K mg) : Ok P w K mg base 2 (ga K "_law_heads") ["_law_pool_here", "_law_calls_here"] (spHeads K) := by
  obtain ⟨fd, F⟩ := T.f__law_heads
  have O1 : Ok P w K mg base 1 (ga K "_law_draw") ["_law_pool_here", "_law_many"] spDraw := ok_draw T
  refine ⟨fd, F.ok sc_heads (fun vs H Q E h => by obtain ⟨_, _, _, rfl, _⟩ := h; rfl) (fun cdv A outer s H vs Q E hr h => ?_), F.binds fun _ _ _ _ _ _ us hl => match us, hl with | [_, _], _ => rfl⟩
  obtain ⟨pl, cl, ns, rfl, hp, hcl, hne, hle, hnd, hnm, hQ⟩ := h
  refine ⟨_, pss_cons (ps_set (i := 2) sc_heads.nd rfl (.inr rfl) (pe_op op_cat (pe_lst (pa_cons pe_str pa_nil)) (pe_lc (own := [("_law_call", 3)]) (g := gName 3) (tt := tYes) (by rfl) sc_heads.nd (pi_list (pe_slice (r := rSlL K) sl_list (pv 1) (po_some pe_int) po_none))
        (blkOk_by (own := [("_law_call", 3)]) (N := nmHeads) (sc := defScope (top 61)) (by decide +kernel))
        (fun _ _ _ _ _ => pg_name (i := 3) sc_heads.nd rfl (Or.inl rfl)) (fun _ _ _ _ _ => pts_nil) (fun _ _ _ _ _ => pe_ix (r := rIxL K) ix_list (pe_lst (pa_cons pe_str (pa_cons pe_str (pa_cons pe_str (pa_cons pe_str (pa_cons pe_str pa_nil))))))
          (pe_callO O1 T.f__law_draw.kp hr (by rfl) T.g__law_draw (pa_cons (pv 0) (pa_cons pe_int pa_nil))) (fun _ _ => rfl)))))
    (pss_one (ps_ret (pe_callTy call_tuple_of (by rfl) T.b_tuple boot_tuple (pa_cons (pe_lc (own := [("_law_k", 4)]) (g := gName 4) (tt := tYes) (by rfl) sc_heads.nd (pi_range1 (by rfl) T.b_range (pa_cons (pe_callB call_len (by rfl) T.b_len boot_len (pa_cons (pv 1) pa_nil)) pa_nil))
        (blkOk_by (own := [("_law_k", 4)]) (N := nmHeads) (sc := defScope (top 61)) (by decide +kernel))
        (fun _ _ _ _ _ => pg_name (i := 4) sc_heads.nd rfl (Or.inl rfl)) (fun _ _ _ _ _ => pts_nil) (fun _ _ _ _ _ => pe_tup (pa_cons (pe_ix (r := rIxL K) ix_list (pv 1) (pv 4) (fun _ _ => rfl)) (pa_cons (pe_ix (r := rIxL K) ix_list (pv 2) (pv 4) (fun _ _ => rfl)) pa_nil)))) pa_nil)))), ?_⟩
  have hsl : sizeLine = 16777216 := sizeLine_eq
  refine ⟨by show (1 : Nat) ≤ sizeLine; omega, fun q0 hq0 => ?_⟩
  refine ⟨_, rfl, _, rfl, cl, ns.map V.str, rfl, SqL.of (by rw [upd_ne (ne_of_none hcl hq0)]; exact hcl), fun p hp0 => ?_⟩
  have s1 : Same H (upd H q0 (.lst [.str "int"])) := same_upd hq0
  have s2 : Same (upd H q0 (.lst [.str "int"])) (upd (upd H q0 (.lst [.str "int"])) p (.lst (cutV (ns.map V.str) (some 1) none))) := same_upd hp0
  have e1 : cutV (ns.map V.str) (some 1) none = (ns.drop 1).map V.str := by rw [List.map_drop]; exact cutV_from (k := 1)
  rw [e1] at s2 ⊢
  have h1q : (upd (upd H q0 (.lst [.str "int"])) p (.lst ((ns.drop 1).map V.str))) q0 = some (.lst [.str "int"]) := s2 _ _ upd_same
  have h1p : (upd (upd H q0 (.lst [.str "int"])) p (.lst ((ns.drop 1).map V.str))) p = some (.lst ((ns.drop 1).map V.str)) := upd_same
  have s12 := s1.trans s2
  have hpp : p ≠ pl := pool_ne hp (s1.free hp0)
  have hqq : q0 ≠ pl := pool_ne hp hq0
  generalize upd (upd H q0 (.lst [.str "int"])) p (.lst ((ns.drop 1).map V.str)) = H1 at h1q h1p s12 ⊢
  refine ⟨p, rfl, ⟨_, SqL.of h1p⟩, fun D hD => ?_⟩
  have hDp : D ≠ pl := pool_ne (hp.same s12) hD
  refine lc_it (walk_list (xs := (ns.drop 1).map V.str)) (fun i H' => ∃ ks : List Str, SameX pl H1 H' ∧ PoolAt H' pl ∧ H' D = some (.lst (ks.map V.str)) ∧ ks.length = i ∧ ∀ k ∈ ks, KindOk k)
    ⟨[], SameX.same (same_upd hD), (hp.same s12).same (same_upd hD), upd_same, rfl, fun _ z => by simp at z⟩ (fun i H' _ hq => by obtain ⟨_, s3, _⟩ := hq; exact SqL.of (s3 _ _ hpp h1p)) (fun i x H' H'' hi hq hy => ?_) fun H' hq => ?_
  · obtain ⟨rfl, hx⟩ := hy
    obtain ⟨ks, s3, hp3, h3D, hkl, hko⟩ := hq
    refine ⟨rfl, ?_⟩
    refine yes ?_
    refine ⟨by show (5 : Nat) ≤ sizeLine; omega, fun q hq => ?_⟩
    refine ⟨_, rfl, pl, 5, rfl, hp3.same (same_upd hq), by decide, by decide, fun H4 d sx4 hp4 hd => ?_⟩
    obtain ⟨z, hz⟩ := lt_get (l := kindsL) (i := d) hd
    have s34 : SameX pl H'' H4 := (SameX.same (same_upd hq)).trans sx4
    have hzo : KindOk z := (by unfold KindOk; decide : ∀ z ∈ kindsL, KindOk z) z (List.mem_of_getElem? hz)
    refine ⟨q, kindsL.map V.str, _, .str z, rfl, rfl, SqL.of (sx_at hp3 hq upd_same sx4), atI_nat (by rw [List.getElem?_map, hz]; rfl), _, s34 _ _ hDp h3D, ?_, ks ++ [z], ?_, ?_, by rw [upd_same]; simp, by simp [hkl], fun k hk => ?_⟩
    · rw [List.length_map, hkl]; simp at hi; omega
    · exact fun c o n hc => by rw [upd_ne (ne_of_none hc hD)]; exact s34 _ _ n (s3 _ _ n hc)
    · obtain ⟨a, b, c, x1, x2⟩ := hp4
      exact ⟨a, b, c, by rw [upd_ne hDp.symm]; exact x1, x2⟩
    · rcases List.mem_append.mp hk with h | h
      · exact hko k h
      · rw [List.mem_singleton.mp h]; exact hzo
  · obtain ⟨ks, s3, hp3, h3D, hkl, hko⟩ := hq
    have hlen : ns.length = ks.length + 1 := by
      rw [hkl]
      have := List.length_pos_iff.mpr hne
      simp; omega
    have h3q := s3 _ _ hqq h1q
    refine ⟨q0, D, _, _, rfl, rfl, h3q, h3D, by simp; omega, fun kl hkl2 => ?_⟩
    have s4 : SameX pl H (upd H' kl (.lst ([V.str "int"] ++ ks.map V.str))) := ((SameX.same s12).trans s3).trans (SameX.same (same_upd hkl2))
    have hp4 := hp3.same (same_upd (o := .lst ([V.str "int"] ++ ks.map V.str)) hkl2)
    have fr4 : ∀ q, (upd H' kl (.lst ([V.str "int"] ++ ks.map V.str))) q = none → H q = none := fun q hq => by
      cases e : H q with
      | none => rfl
      | some o =>
        by_cases hqp : q = pl
        · obtain ⟨_, _, _, hx, _⟩ := hp4
          rw [hqp, hx] at hq; cases hq
        · rw [s4 q o hqp e] at hq; cases hq
    have h4k : (upd H' kl (.lst ([V.str "int"] ++ ks.map V.str))) kl = some (.lst ((("int" : Str) :: ks).map V.str)) := upd_same
    have hclp : cl ≠ pl := by
      obtain ⟨a, b, c, hx, _⟩ := hp
      exact ne_of hcl hx fun z => by
        injection z with z
        cases ns with
        | nil => cases z
        | cons t r => simp at z
    have h4c := s4 _ _ hclp hcl
    generalize upd H' kl (.lst ([V.str "int"] ++ ks.map V.str)) = H4 at s4 hp4 fr4 h4k h4c ⊢
    refine ⟨_, rfl, _, _, rfl, .inl ⟨_, SqL.of h4c, rfl⟩, (ns.length : Nat), (by rw [List.length_map]), by omega, by omega, fun D2 hD2 => ?_⟩
    refine lc_it walk_range (fun i H5 => ∃ ts, Same H4 H5 ∧ Lines K H5 D2 ts (((ns.zip (("int" : Str) :: ks)).take i).map fun p => [.str p.1, .str p.2])) ⟨[], same_upd hD2, Lines.nil upd_same⟩ (fun _ _ _ _ => trivial) (fun i x H5 H5' hi hq hy => ?_) fun H5 hq => ?_
    · obtain ⟨rfl, rfl⟩ := hy
      obtain ⟨ts, s5, hl5⟩ := hq
      have hi' : i < ns.length := by simpa using hi
      refine ⟨rfl, ?_⟩
      refine yes ?_
      obtain ⟨z, hz⟩ := lt_get hi'
      obtain ⟨y, hy⟩ := lt_get (l := ("int" : Str) :: ks) (i := i) (by simp; omega)
      have e2 : (0 : Int) + (i : Nat) = (i : Nat) := by omega
      refine ⟨_, rfl, _, rfl, cl, _, _, .str z, rfl, rfl, SqL.of (s5 _ _ h4c), (by show atI _ ((0 : Int) + (i : Nat)) = _; rw [e2]; exact atI_nat (by rw [List.getElem?_map, hz]; rfl)), _, rfl, _, rfl, kl, _, _, .str y, rfl, rfl, SqL.of (s5 _ _ h4k), (by show atI _ ((0 : Int) + (i : Nat)) = _; rw [e2]; exact atI_nat (by rw [List.getElem?_map, hy]; rfl)), (by show (2 : Nat) ≤ sizeLine; omega), fun t ht => ?_⟩
      have hl6 := hl5.same (same_upd (o := .tup [.str z, .str y]) ht)
      refine ⟨_, hl6.at_, ?_, ts ++ [t], ?_, ?_⟩
      · rw [List.length_map, hl6.len]; simp; omega
      · exact fun c o hc => by rw [upd_ne (ne_of_none hc hD2), upd_ne (ne_of_none (s5 _ _ hc) ht)]; exact s5 _ _ hc
      · have e3 : ((ns.zip (("int" : Str) :: ks)).take (i + 1)).map (fun p => [V.str p.1, V.str p.2]) = ((ns.zip (("int" : Str) :: ks)).take i).map (fun p => [V.str p.1, V.str p.2]) ++ [[.str z, .str y]] := by
          have h1 : (ns.zip (("int" : Str) :: ks))[i]? = some (z, y) := by rw [List.getElem?_zip_eq_some]; exact ⟨hz, hy⟩
          rw [List.take_succ, h1]; simp
        rw [e3]
        exact hl6.add (SqT.of upd_same)
    · obtain ⟨ts, s5, hl5⟩ := hq
      have hzl : (ns.zip (("int" : Str) :: ks)).length = ns.length := by simp; omega
      have e4 : (ns.zip (("int" : Str) :: ks)).take (Int.toNat (ns.length : Nat)) = ns.zip (("int" : Str) :: ks) := by rw [Int.toNat_natCast, List.take_of_length_le (by omega)]
      rw [e4] at hl5
      refine ⟨D2, _, rfl, .inl ⟨SqL.of hl5.at_, fun l hl => ?_⟩⟩
      have s6 : Same H5 (upd H5 l (.tup (ts.map V.ref))) := same_upd hl
      have hl6 := hl5.same s6
      have s46 := s5.trans s6
      refine hQ _ l (ns.zip (("int" : Str) :: ks)) (s4.trans (SameX.same s46)) (hp4.same s46) (fr4 _ (s5.free hl)) ⟨ts, SqT.of upd_same, by rw [hl6.len]; simp, fun i a p z zp => hl6.ro i a _ z (by rw [List.getElem?_map, zp]; rfl)⟩ ⟨?_, by rw [hzl]; exact hle, fun p hp => ?_, ?_⟩
      · intro z
        rw [z] at hzl
        exact hne (List.length_eq_zero_iff.mp hzl.symm)
      · have h1 := List.of_mem_zip hp
        refine ⟨hnm _ h1.1, ?_⟩
        rcases List.mem_cons.mp h1.2 with h | h
        · exact .inl h
        · exact hko _ h
      · have : (ns.zip (("int" : Str) :: ks)).map (·.1) = ns := List.map_fst_zip (by simp; omega)
        rw [this]; exact hnd
end LF
set_option Elab.async false
set_option linter.all false
set_option maxRecDepth 100000
set_option maxHeartbeats 4000000
/-! The law's lines. -/
namespace LF
open PySem PySem.Spec PyProof.Rows L2
variable {P : Program} {w : World} {K : PySem.W.Frag} {mg : Str → Option Value} {base : Heap}
theorem KindV.row {sch : Sch} {vs : List V} (hl : vs.length = sch.length) (h : ∀ (j : Nat) (p : Str × Str) (v : V), sch[j]? = some p → vs[j]? = some v → KindV p.2 v) (hv : ∀ v ∈ vs, Val v) : RowV sch vs := ⟨⟨hl, h⟩, hv⟩
/-- the values of one row, drawn: the comprehension's run -/
theorem row_it {pl hd : Addr} {sch : Sch} {as : List Addr} {H1 : Hp} {D : Addr} {Qd : Hp → Prop} {te : TE} {g : TG} {vs : List Nat} {σ : L2.St}
    (hp : PoolAt H1 pl) (hA : SqT K H1 hd (as.map V.ref)) (hl : as.length = sch.length) (hc : ∀ (i : Nat) (a : Addr) (p : Str × Str), as[i]? = some a → sch[i]? = some p → SqT K H1 a [.str p.1, .str p.2]) (hs : SchOk sch) (hD : H1 D = none)
    (step : ∀ (H' : Hp) (c : Addr) (p : Str × Str) (R : V → Hp → Prop), PoolAt H' pl → SqT K H' c [.str p.1, .str p.2] → KindOk p.2 → (∀ H2 v, SameX pl H' H2 → PoolAt H2 pl → KindV p.2 v → Val v → R v H2) →
      g (.ref c) (wipe σ vs) H' fun σ2 H2 => wipe σ2 vs = wipe σ vs ∧ te σ2 H2 R)
    (hd' : ∀ H' us, SameX pl H1 H' → PoolAt H' pl → H' D = some (.lst us) → RowV sch us → Qd H') :
    ∃ W : Nat → Nat → Hp → Prop, (∃ m, W 0 m (upd H1 D (.lst []))) ∧ ∀ i m H, W i m H →
      ((Itt K hd).stop i H ∧ Qd H) ∨ ((Itt K hd).go i H ∧ ∃ Nx : Hp → Prop, (∀ H', Nx H' → ∃ m', m' < m ∧ W (i + 1) m' H') ∧ ∀ x H', (Itt K hd).yld i H x H' → g x (wipe σ vs) H' fun σ2 H2 => wipe σ2 vs = wipe σ vs ∧ tYes σ2 H2 fun b H3 =>
        if b = true then te σ2 H3 fun y H4 => ∃ acc, H4 D = some (.lst acc) ∧ acc.length < sizeLine ∧ Nx (upd H4 D (.lst (acc ++ [y]))) else Nx H3) := by
  refine lc_it (walk_tup (xs := as.map V.ref)) (fun i H' => ∃ us : List V, SameX pl H1 H' ∧ PoolAt H' pl ∧ H' D = some (.lst us) ∧ us.length = i ∧ (∀ v ∈ us, Val v) ∧ ∀ (j : Nat) (p : Str × Str) (v : V), sch[j]? = some p → us[j]? = some v → KindV p.2 v)
    ⟨[], SameX.same (same_upd hD), hp.same (same_upd hD), upd_same, rfl, fun _ z => by simp at z, fun _ _ _ _ z => by simp at z⟩ (fun i H' _ hq => by obtain ⟨_, s3, _⟩ := hq; exact sqT_pool hp s3 hA) (fun i x H' H'' hi hq hy => ?_) fun H' hq => ?_
  · obtain ⟨rfl, hx⟩ := hy
    obtain ⟨us, s3, hp3, h3D, hkl, hv, hko⟩ := hq
    obtain ⟨c, hci, rfl⟩ := get_map hx
    have hi' : i < sch.length := by rw [← hl]; simpa using hi
    obtain ⟨p, hpi⟩ := lt_get hi'
    have hDp : D ≠ pl := pool_ne hp hD
    have hsl : sizeLine = 16777216 := sizeLine_eq
    refine step H'' c p _ hp3 (sqT_pool hp s3 (hc i c p hci hpi)) (hs.nm p (List.mem_of_getElem? hpi)).2 fun H2 v s4 hp4 kv vv => ?_
    refine ⟨us, s4 _ _ hDp h3D, ?_, us ++ [v], ?_, ?_, upd_same, by simp [hkl], fun u hu => ?_, fun j q u hj hu => ?_⟩
    · have := hs.le
      omega
    · exact fun c o n hc => by rw [upd_ne (ne_of_none hc hD)]; exact s4 _ _ n (s3 _ _ n hc)
    · obtain ⟨a, b, c, x1, x2⟩ := hp4
      exact ⟨a, b, c, by rw [upd_ne hDp.symm]; exact x1, x2⟩
    · rcases List.mem_append.mp hu with h | h
      · exact hv u h
      · rw [List.mem_singleton.mp h]; exact vv
    · by_cases hk : j < us.length
      · rw [List.getElem?_append_left hk] at hu
        exact hko j q u hj hu
      · have hk2 : j = us.length := by
          have := (List.getElem?_eq_some_iff.mp hu).1
          simp at this; omega
        subst hk2
        rw [List.getElem?_append_right (Nat.le_refl _), Nat.sub_self] at hu
        rw [hkl, hpi] at hj
        cases hu; cases hj
        exact kv
  · obtain ⟨us, s3, hp3, h3D, hkl, hv, hko⟩ := hq
    rw [List.length_map, hl] at hkl
    exact hd' H' us s3 hp3 h3D (KindV.row hkl hko hv)

/-! ### lines -/
abbrev nmLines : List Str := ["_law_pool_here", "_law_heads_here", "_law_many", "_law_found", "_law_turn", "_law_call", "_law_kind_here"]
theorem sc_lines : FnScope nmLines ["_law_pool_here", "_law_heads_here", "_law_many"] (defScope (top 62)) := ⟨rfl, rfl, rfl, by decide +kernel, rfl, by decide +kernel, by decide +kernel⟩
def spLines (K : PySem.W.Frag) : Sp := fun vs H Q _ => ∃ (pl hd : Addr) (m : Nat) (sch : Sch), vs = [.ref pl, .ref hd, .int (m : Nat)] ∧ PoolAt H pl ∧ Hd K H hd sch ∧ SchOk sch ∧ m ≤ 12 ∧
  ∀ H' L rows, SameX pl H H' → PoolAt H' pl → H L = none → RowsAt K H' L rows → rows.length ≤ m → (∀ r ∈ rows, RowV sch r) → Q (.ref L) H'
theorem fr_pool {pl : Addr} {H H' : Hp} (s : SameX pl H H') (hp : PoolAt H' pl) {q : Addr} (hq : H' q = none) : H q = none := by
  cases e : H q with
  | none => rfl
  | some o =>
    by_cases hqp : q = pl
    · obtain ⟨_, _, _, hx, _⟩ := hp
      rw [hqp, hx] at hq; cases hq
    · rw [s q o hqp e] at hq; cases hq
theorem ok_lines (T : TX P K mg) : Ok P w K mg base 3 (ga K "_law_lines") ["_law_pool_here", "_law_heads_here", "_law_many"] (spLines K) := by
  obtain ⟨fd, F⟩ := T.f__law_lines
  have O1 : Ok P w K mg base 1 (ga K "_law_draw") ["_law_pool_here", "_law_many"] spDraw := ok_draw T
  have O2 : Ok P w K mg base 2 (ga K "_law_worth") ["_law_pool_here", "_law_kind_here"] spWorth := ok_worth T
  refine ⟨fd, F.ok sc_lines (fun vs H Q E h => by obtain ⟨_, _, _, _, rfl, _⟩ := h; rfl) (fun cdv A outer s H vs Q E hr h => ?_), F.binds fun _ _ _ _ _ _ us hl => match us, hl with | [_, _, _], _ => rfl⟩
  obtain ⟨pl, hd, m, sch, rfl, hp, hh, hs, hm, hQ⟩ := h
  obtain ⟨as, hA, hl, hc⟩ := id hh
  refine ⟨_, pss_cons (ps_set (i := 3) sc_lines.nd rfl (.inl rfl) (pe_lst pa_nil))
    (pss_cons (ps_for PassesOwn.never rfl (pi_range1 (by rfl) T.b_range (pa_cons (pe_callO O1 T.f__law_draw.kp hr (by rfl) T.g__law_draw (pa_cons (pv 0) (pa_cons (pe_op op_add (pv 2) pe_int) pa_nil))) pa_nil)) (pg_name (i := 4) sc_lines.nd rfl (.inl rfl))
      (pss_one (ps_if (PW.pt (pw_and (pt_cmpR (op_neD hr.units) (pv 3) (pe_lst pa_nil) (nomark _)) (pw_and1 (pt_cmpR op_eq (pe_callO O1 T.f__law_draw.kp hr (by rfl) T.g__law_draw (pa_cons (pv 0) (pa_cons pe_int pa_nil))) pe_int (nomark _)))))
        (pss_one (ps_expr (pe_bm PySem.F.plainAttrs_list PySem.F.slot_list_append PySem.F.type_list_append mt_append (pv 3) (pa_cons (pe_ix ix_list (pv 3)
          (pe_callO O1 T.f__law_draw.kp hr (by rfl) T.g__law_draw (pa_cons (pv 0) (pa_cons (pe_callB call_len (by rfl) T.b_len boot_len (pa_cons (pv 3) pa_nil)) pa_nil))) (fun _ _ => rfl)) pa_nil))))
        (pss_one (ps_expr (pe_bm PySem.F.plainAttrs_list PySem.F.slot_list_append PySem.F.type_list_append mt_append (pv 3) (pa_cons (pe_callTy call_tuple_of (by rfl) T.b_tuple boot_tuple (pa_cons
          (pe_lc (own := [("_law_call", 5), ("_law_kind_here", 6)]) (g := gTup K 2 (gCons (gName 5) (gCons (gName 6) gNil))) (tt := tYes) (by rfl) sc_lines.nd (pi_tup (pv 1)) (blkOk_by (own := [("_law_call", 5), ("_law_kind_here", 6)]) (N := nmLines) (sc := defScope (top 62)) (by decide +kernel))
            (fun _ _ _ _ _ => pg_tup (n := 2) (by rfl) (pgs_cons (pg_name (i := 5) sc_lines.nd rfl (Or.inl rfl)) (pgs_cons (pg_name (i := 6) sc_lines.nd rfl (Or.inl rfl)) pgs_nil))) (fun _ _ _ _ _ => pts_nil)
            (fun _ _ _ _ _ => pe_callO O2 T.f__law_worth.kp hr (by rfl) T.g__law_worth (pa_cons (pv 0) (pa_cons (pv 6) pa_nil)))) pa_nil)) pa_nil)))))))
    (pss_one (ps_ret (pe_callTy call_tuple_of (by rfl) T.b_tuple boot_tuple (pa_cons (pv 3) pa_nil))))), ?_⟩
  have hsl : sizeLine = 16777216 := sizeLine_eq
  refine ⟨sz0, fun fl hfl => ?_⟩
  have hp0 := hp.same (same_upd (o := .lst []) hfl)
  have e0 : ((m : Nat) : Int) + 1 = ((m + 1 : Nat) : Int) := by omega
  refine ⟨_, rfl, _, rfl, _, _, rfl, rfl, pl, m + 1, (by show _ = [V.ref pl, V.int ((m + 1 : Nat) : Int)]; rw [← e0]; rfl), hp0, by omega, by omega, fun H1 d sx1 hp1 hd1 => ⟨(d : Nat), rfl, by omega, by omega, ?_⟩⟩
  have h1f : Lines K H1 fl [] [] := Lines.nil (sx_at hp hfl upd_same sx1)
  have s01 : SameX pl H H1 := (SameX.same (same_upd hfl)).trans sx1
  refine for_it walk_range (fun i σ H' => ∃ a b c ts rows, σ = [some (.ref pl), some (.ref hd), some (.int (m : Nat)), some (.ref fl), a, b, c] ∧ SameX pl H H' ∧ PoolAt H' pl ∧ Lines K H' fl ts rows ∧ rows.length = i ∧ ∀ r ∈ rows, RowV sch r)
    ⟨_, _, _, [], [], rfl, s01, hp1, h1f, rfl, fun _ z => by simp at z⟩ (fun _ _ _ _ _ => trivial) (fun i x σ H' H'' hi hq hy => ?_) fun σ H' hq => ?_
  · obtain ⟨a, b, c, ts, rows, rfl, s2, hp2, hl2, hn2, hr2⟩ := hq
    obtain ⟨rfl, rfl⟩ := hy
    have hi' : i < d := by simpa using hi
    have hdat := rowsV_data hs.le hr2
    have hflp : fl ≠ pl := pool_ne hp hfl
    -- a row more
    have more : ∀ (H3 : Hp) (t : Addr) (r : List V) (a b c : Option V), SameX pl H'' H3 → PoolAt H3 pl → SqT K H3 t r → RowV sch r → ∃ xs : List V, H3 fl = some (.lst xs) ∧ xs.length < sizeLine ∧
        (∃ a' b' c' ts' rows', [some (V.ref pl), some (.ref hd), some (.int (m : Nat)), some (.ref fl), a, b, c] = [some (.ref pl), some (.ref hd), some (.int (m : Nat)), some (.ref fl), a', b', c'] ∧ SameX pl H (upd H3 fl (.lst (xs ++ [.ref t]))) ∧ PoolAt (upd H3 fl (.lst (xs ++ [.ref t]))) pl ∧ Lines K (upd H3 fl (.lst (xs ++ [.ref t]))) fl ts' rows' ∧ rows'.length = i + 1 ∧ ∀ r ∈ rows', RowV sch r) := by
      intro H3 t r a b c s3 hp3 ht hrv
      have hl3 := hl2.pool hp2 s3
      refine ⟨_, hl3.at_, by rw [List.length_map, hl3.len]; omega, a, b, c, ts ++ [t], rows ++ [r], rfl, ?_, ?_, hl3.add ht, by simp [hn2], fun r' h => ?_⟩
      · exact fun c o n hc => by rw [upd_ne (ne_of_none hc hfl)]; exact s3 _ _ n (s2 _ _ n hc)
      · obtain ⟨a, b, c, x1, x2⟩ := hp3
        exact ⟨a, b, c, by rw [upd_ne hflp.symm]; exact x1, x2⟩
      · rcases List.mem_append.mp h with h | h
        · exact hr2 r' h
        · rw [List.mem_singleton.mp h]; exact hrv
    -- a new row
    have fresh : ∀ (D : Ends) (H3 : Hp), SameX pl H'' H3 → PoolAt H3 pl → (∀ H4, (∃ a' b' c' ts' rows', [some (V.ref pl), some (.ref hd), some (.int (m : Nat)), some (.ref fl), some (.int ((0 : Int) + (i : Nat))), b, c] = [some (.ref pl), some (.ref hd), some (.int (m : Nat)), some (.ref fl), a', b', c'] ∧ SameX pl H H4 ∧ PoolAt H4 pl ∧ Lines K H4 fl ts' rows' ∧ rows'.length = i + 1 ∧ ∀ r ∈ rows', RowV sch r) →
        D.nx [some (V.ref pl), some (.ref hd), some (.int (m : Nat)), some (.ref fl), some (.int ((0 : Int) + (i : Nat))), b, c] H4) →
        tDrop (tBM K "list" rAppend (tVar 3) (tCons (tCB (fun xs H Q => ∃ p ys, xs = [.ref p] ∧ ((SqL K H p ys ∧ ∀ l, H l = none → Q (.ref l) (upd H l (.tup ys))) ∨ (SqT K H p ys ∧ Q (.ref p) H))) (tCons (tLc (iTup K (tVar 1)) (gTup K 2 (gCons (gName 5) (gCons (gName 6) gNil))) tYes (tCall spWorth [] E0 (tCons (tVar 0) (tCons (tVar 6) tNil))) ([(("_law_call" : Str), 5), (("_law_kind_here" : Str), 6)].map (·.2))) tNil)) tNil))
          D [some (V.ref pl), some (.ref hd), some (.int (m : Nat)), some (.ref fl), some (.int ((0 : Int) + (i : Nat))), b, c] H3 := by
      intro DD H3 s3 hp3 hDD
      have hl3 := hl2.pool hp2 s3
      have hh3 := hd_pool hp ((s2).trans s3) hh
      obtain ⟨as3, hA3, hla3, hc3⟩ := id hh3
      refine ⟨_, rfl, .inl ⟨rfl, _, SqL.of hl3.at_⟩, _, rfl, hd, rfl, ⟨_, hA3⟩, fun D hD => ?_⟩
      refine row_it hp3 hA3 hla3 hc3 hs hD (fun H5 cc p R hp5 hc5 hk5 hR => ⟨cc, _, rfl, hc5, rfl, _, _, rfl, _, _, rfl, rfl, rfl, ⟨_, rfl, _, rfl, pl, _, rfl, hp5, hk5, hR⟩⟩) fun H5 us s5 hp5 h5D hv => ?_
      refine ⟨D, us, rfl, .inl ⟨SqL.of h5D, fun t ht => ?_⟩⟩
      obtain ⟨xs, m1, m2, m3⟩ := more (upd H5 t (.tup us)) t us (some (.int ((0 : Int) + (i : Nat)))) b c ((s3.trans s5).trans (SameX.same (same_upd ht))) (hp5.same (same_upd ht)) (SqT.of upd_same) hv
      exact ⟨fl, xs, _, rfl, rfl, m1, m2, hDD _ m3⟩
    have hdp : Dp K H'' (.ref fl) (.list (rowsD rows)) := .lst (SqL.of hl2.at_) (dp_rows hl2.len hl2.ro fun r hr v hv => (hdat r hr).1 v hv)
    refine ⟨_, rfl, sz0, fun e he => ?_⟩
    have s3 : Same H'' (upd H'' e (.lst [])) := same_upd he
    have hl3 := hl2.same s3
    have hdp3 : Dp K (upd H'' e (.lst [])) (.ref fl) (.list (rowsD rows)) := .lst (SqL.of hl3.at_) (dp_rows hl3.len hl3.ro fun r hr v hv => (hdat r hr).1 v hv)
    refine ⟨_, _, hdp3, .lst (SqL.of upd_same) .nil, list_shaped hdat, nil_shaped, _, rfl, ?_⟩
    rw [eqv_nil]
    cases hrows : (rowsD rows).isEmpty with
    | true => exact iteF (iteF (fresh _ _ (SameX.same s3) (hp2.same s3) fun H4 h => h))
    | false =>
      have hpos : 0 < rows.length := by
        cases rows with
        | nil => cases hrows
        | cons r rs => simp
      refine iteT ⟨_, rfl, pl, 4, rfl, hp2.same s3, by decide, by decide, fun H4 d4 s4 hp4 hd4 => ⟨rfl, _, rfl, ?_⟩⟩
      have s34 := (SameX.same s3).trans s4
      cases hz : decide (V.int (d4 : Nat) = V.int 0) with
      | false => exact iteF (fresh _ _ s34 hp4 fun H4 h => h)
      | true =>
        refine iteT ?_
        have hl4 := hl2.pool hp2 s34
        refine ⟨_, rfl, .inl ⟨rfl, _, SqL.of hl4.at_⟩, _, rfl, _, rfl, _, rfl, _, _, rfl, .inl ⟨_, SqL.of hl4.at_, rfl⟩, pl, rows.length, (by rw [List.length_map, hl4.len]; rfl), hp4, hpos, by omega, fun H5 d5 s5 hp5 hd5 => ?_⟩
        have hl5 := hl4.pool hp4 s5
        obtain ⟨t, ht⟩ := lt_get (l := ts) (i := d5) (by rw [hl5.len]; exact hd5)
        obtain ⟨r, hr5⟩ := lt_get (l := rows) (i := d5) hd5
        obtain ⟨xs, m1, m2, m3⟩ := more H5 t r (some (.int ((0 : Int) + (i : Nat)))) b c (s34.trans s5) hp5 (hl5.ro d5 t r ht hr5) (hr2 r (List.mem_of_getElem? hr5))
        exact ⟨fl, _, _, .ref t, rfl, rfl, SqL.of hl5.at_, atI_nat (by rw [List.getElem?_map, ht]; rfl), fl, xs, _, rfl, rfl, m1, m2, m3⟩
  · obtain ⟨a, b, c, ts, rows, rfl, s2, hp2, hl2, hn2, hr2⟩ := hq
    refine ⟨_, rfl, fl, _, rfl, .inl ⟨SqL.of hl2.at_, fun L hL => ?_⟩⟩
    have s3 : Same H' (upd H' L (.tup (ts.map V.ref))) := same_upd hL
    have : rows.length = d := by rw [hn2]; simp
    exact hQ _ L rows (s2.trans (SameX.same s3)) (hp2.same s3) (fr_pool s2 hp2 hL) ((hl2.same s3).rows (SqT.of upd_same)) (by omega) hr2
end LF
set_option Elab.async false
set_option linter.all false
set_option maxRecDepth 100000
set_option maxHeartbeats 4000000
/-! The law's first lines; one write, drawn. -/
namespace LF
open PySem PySem.Spec PyProof.Rows L2
variable {P : Program} {w : World} {K : PySem.W.Frag} {mg : Str → Option Value} {base : Heap}
theorem sc_small : FnScope ["_law_pool_here", "_law_most", "_law_heads_here"] ["_law_pool_here", "_law_most"] (defScope (top 63)) := ⟨rfl, rfl, rfl, by decide +kernel, rfl, by decide +kernel, by decide +kernel⟩
def spSmall (K : PySem.W.Frag) : Sp := fun vs H Q _ => ∃ (pl : Addr) (m : Nat), vs = [.ref pl, .int (m : Nat)] ∧ PoolAt H pl ∧ m ≤ 12 ∧
  ∀ H' p hd L sch rows, SameX pl H H' → PoolAt H' pl → H' p = some (.lst [.ref hd, .ref L]) → Hd K H' hd sch → SchOk sch → RowsAt K H' L rows → rows.length ≤ m → (∀ r ∈ rows, RowV sch r) → Q (.ref p) H'
theorem ok_small (T : TX P K mg) : Ok P w K mg base 4 (ga K "_law_small") ["_law_pool_here", "_law_most"] (spSmall K) := by
  obtain ⟨fd, F⟩ := T.f__law_small
  have O1 : Ok P w K mg base 1 (ga K "_law_draw") ["_law_pool_here", "_law_many"] spDraw := ok_draw T
  have O2 : Ok P w K mg base 2 (ga K "_law_calls") ["_law_pool_here", "_law_many"] spCalls := ok_calls T
  have O3 : Ok P w K mg base 2 (ga K "_law_heads") ["_law_pool_here", "_law_calls_here"] (spHeads K) := ok_heads T
  have O4 : Ok P w K mg base 3 (ga K "_law_lines") ["_law_pool_here", "_law_heads_here", "_law_many"] (spLines K) := ok_lines T
  refine ⟨fd, F.ok sc_small (fun vs H Q E h => by obtain ⟨_, _, rfl, _⟩ := h; rfl) (fun cdv A outer s H vs Q E hr h => ?_), F.binds fun _ _ _ _ _ _ us hl => match us, hl with | [_, _], _ => rfl⟩
  obtain ⟨pl, m, rfl, hp, hm, hQ⟩ := h
  refine ⟨_, pss_cons (ps_set (i := 2) sc_small.nd rfl (.inl rfl) (pe_callO O3 T.f__law_heads.kp hr (by rfl) T.g__law_heads (pa_cons (pv 0) (pa_cons (pe_callO O2 T.f__law_calls.kp hr (by rfl) T.g__law_calls (pa_cons (pv 0) (pa_cons
      (pe_op op_add pe_int (pe_callO O1 T.f__law_draw.kp hr (by rfl) T.g__law_draw (pa_cons (pv 0) (pa_cons pe_int pa_nil)))) pa_nil))) pa_nil))))
    (pss_one (ps_ret (pe_lst (pa_cons (pv 2) (pa_cons (pe_callO O4 T.f__law_lines.kp hr (by rfl) T.g__law_lines (pa_cons (pv 0) (pa_cons (pv 2) (pa_cons (pv 1) pa_nil)))) pa_nil))))), ?_⟩
  have hsl : sizeLine = 16777216 := sizeLine_eq
  refine ⟨_, rfl, _, rfl, _, rfl, pl, 4, rfl, hp, by decide, by decide, fun H1 d s1 hp1 hd => ?_⟩
  have e0 : (1 : Int) + ((d : Nat) : Int) = ((d + 1 : Nat) : Int) := by omega
  refine ⟨_, _, rfl, rfl, pl, d + 1, (by show _ = [V.ref pl, V.int ((d + 1 : Nat) : Int)]; rw [← e0]; rfl), hp1, by omega, fun H2 cl ns s2 hp2 hcn hcl hnl hnd hnm => ?_⟩
  have hne : ns ≠ [] := fun z => by rw [z] at hnl; simp at hnl
  refine ⟨pl, cl, ns, rfl, hp2, hcl, hne, by omega, hnd, hnm, fun H3 hd sch s3 hp3 hhn hh hs => ?_⟩
  refine ⟨_, rfl, _, rfl, _, rfl, _, rfl, pl, hd, m, sch, rfl, hp3, hh, hs, hm, fun H4 L rows s4 hp4 hLn hL hrl hrv => ⟨by show (2 : Nat) ≤ sizeLine; omega, fun p hpn => ?_⟩⟩
  have s5 : Same H4 (upd H4 p (.lst [.ref hd, .ref L])) := same_upd hpn
  exact hQ _ p hd L sch rows ((((s1.trans s2).trans s3).trans s4).trans (SameX.same s5)) (hp4.same s5) upd_same ((hd_pool hp3 s4 hh).same s5) hs (hL.same s5) hrl hrv

/-! ### a write -/
abbrev nmDW : List Str := ["_law_pool_here", "_law_page", "_law_heads_here", "_law_call", "_law_kind_here"]
theorem sc_dw : FnScope nmDW ["_law_pool_here", "_law_page", "_law_heads_here"] (defScope (top 65)) := ⟨rfl, rfl, rfl, by decide +kernel, rfl, by decide +kernel, by decide +kernel⟩
inductive Deed (K : PySem.W.Frag) (H : Hp) (sch : Sch) (n : Nat) (p : Addr) : Prop
  | add (t : Addr) (r : List V) : H p = some (.tup [.str "add", .ref t]) → SqT K H t r → RowV sch r → Deed K H sch n p
  | put (i j : Nat) (q : Str × Str) (v : V) : H p = some (.tup [.str "put", .int (i : Nat), .str q.1, v]) → i < n → sch[j]? = some q → KindV q.2 v → Val v → Deed K H sch n p
def spDW (K : PySem.W.Frag) : Sp := fun vs H Q _ => ∃ (pl pg hd l : Addr) (ts : List Addr) (rows : List (List V)) (sch : Sch), vs = [.ref pl, .ref pg, .ref hd] ∧ PoolAt H pl ∧ H pg = some (.dK [(.inr "lines", .ref l)]) ∧ Lines K H l ts rows ∧ Hd K H hd sch ∧ SchOk sch ∧ (∀ r ∈ rows, RowV sch r) ∧ rows.length ≤ 900 ∧
  ∀ H' p, SameX pl H H' → PoolAt H' pl → Deed K H' sch rows.length p → Q (.ref p) H'
theorem ok_dw (T : TX P K mg) : Ok P w K mg base 3 (ga K "_law_drawn_write") ["_law_pool_here", "_law_page", "_law_heads_here"] (spDW K) := by
  obtain ⟨fd, F⟩ := T.f__law_drawn_write
  have O1 : Ok P w K mg base 1 (ga K "_law_draw") ["_law_pool_here", "_law_many"] spDraw := ok_draw T
  have O2 : Ok P w K mg base 2 (ga K "_law_worth") ["_law_pool_here", "_law_kind_here"] spWorth := ok_worth T
  refine ⟨fd, F.ok sc_dw (fun vs H Q E h => by obtain ⟨_, _, _, _, _, _, _, rfl, _⟩ := h; rfl) (fun cdv A outer s H vs Q E hr h => ?_), F.binds fun _ _ _ _ _ _ us hl => match us, hl with | [_, _, _], _ => rfl⟩
  obtain ⟨pl, pg, hd, l, ts, rows, sch, rfl, hp, hpg, hl, hh, hs, hrv, hn, hQ⟩ := h
  obtain ⟨as, hA, hla, hc⟩ := id hh
  refine ⟨_, pss_cons (ps_if (PW.pt (pw_or (pt_cmpR (op_eqD hr.units) (pe_dget (Nat.lt_of_le_of_lt (Nat.add_le_add_left (by decide : 1 ≤ 64) _) hr.units) (pv 1) pe_str (fun _ _ => rfl)) (pe_lst pa_nil) (nomark _)) (pw_or1 (pt_cmpR op_eq (pe_callO O1 T.f__law_draw.kp hr (by rfl) T.g__law_draw (pa_cons (pv 0) (pa_cons pe_int pa_nil))) pe_int (nomark _)))))
      (pss_one (ps_ret (pe_tup (pa_cons pe_str (pa_cons (pe_callTy call_tuple_of (by rfl) T.b_tuple boot_tuple (pa_cons
          (pe_lc (own := [("_law_call", 3), ("_law_kind_here", 4)]) (g := gTup K 2 (gCons (gName 3) (gCons (gName 4) gNil))) (tt := tYes) (by rfl) sc_dw.nd (pi_tup (pv 2)) (blkOk_by (own := [("_law_call", 3), ("_law_kind_here", 4)]) (N := nmDW) (sc := defScope (top 65)) (by decide +kernel))
            (fun _ _ _ _ _ => pg_tup (n := 2) (by rfl) (pgs_cons (pg_name (i := 3) sc_dw.nd rfl (Or.inl rfl)) (pgs_cons (pg_name (i := 4) sc_dw.nd rfl (Or.inl rfl)) pgs_nil))) (fun _ _ _ _ _ => pts_nil)
            (fun _ _ _ _ _ => pe_callO O2 T.f__law_worth.kp hr (by rfl) T.g__law_worth (pa_cons (pv 0) (pa_cons (pv 4) pa_nil)))) pa_nil)) pa_nil))))) pss_nil)
    (pss_cons (ps_asg (pe_ix ix_tup (pv 2) (pe_callO O1 T.f__law_draw.kp hr (by rfl) T.g__law_draw (pa_cons (pv 0) (pa_cons (pe_callB call_len (by rfl) T.b_len boot_len (pa_cons (pv 2) pa_nil)) pa_nil))) (fun _ _ => rfl))
      (pg_tup (n := 2) (by rfl) (pgs_cons (pg_name (i := 3) sc_dw.nd rfl (Or.inl rfl)) (pgs_cons (pg_name (i := 4) sc_dw.nd rfl (Or.inl rfl)) pgs_nil))))
    (pss_one (ps_ret (pe_tup (pa_cons pe_str (pa_cons (pe_callO O1 T.f__law_draw.kp hr (by rfl) T.g__law_draw (pa_cons (pv 0) (pa_cons (pe_callB call_len (by rfl) T.b_len boot_len (pa_cons (pe_dget (Nat.lt_of_le_of_lt (Nat.add_le_add_left (by decide : 1 ≤ 64) _) hr.units) (pv 1) pe_str (fun _ _ => rfl)) pa_nil)) pa_nil)))
      (pa_cons (pv 3) (pa_cons (pe_callO O2 T.f__law_worth.kp hr (by rfl) T.g__law_worth (pa_cons (pv 0) (pa_cons (pv 4) pa_nil))) pa_nil)))))))), ?_⟩
  have hsl : sizeLine = 16777216 := sizeLine_eq
  have hdat := rowsV_data hs.le hrv
  have hlpl : l ≠ pl := by
    obtain ⟨a, b, c, hx, _⟩ := hp
    exact ne_of hl.at_ hx fun z => by injection z with z; exact refs_ne z
  have hpgpl : pg ≠ pl := by
    obtain ⟨a, b, c, hx, _⟩ := hp
    exact ne_of hpg hx fun z => by cases z
  -- a row
  have fresh : ∀ (H3 : Hp) (σ : L2.St) (b c : Option V), σ = [some (.ref pl), some (.ref pg), some (.ref hd), b, c] → SameX pl H H3 → PoolAt H3 pl →
      tRet (tTup (tCons (tC (.str "add")) (tCons (tCB (fun xs H Q => ∃ p ys, xs = [.ref p] ∧ ((SqL K H p ys ∧ ∀ l, H l = none → Q (.ref l) (upd H l (.tup ys))) ∨ (SqT K H p ys ∧ Q (.ref p) H))) (tCons (tLc (iTup K (tVar 2)) (gTup K 2 (gCons (gName 3) (gCons (gName 4) gNil))) tYes (tCall spWorth [] E0 (tCons (tVar 0) (tCons (tVar 4) tNil))) ([(("_law_call" : Str), 3), (("_law_kind_here" : Str), 4)].map (·.2))) tNil)) tNil)))
        { nx := fun _ H' => Q .non H', rt := Q } σ H3 := by
    intro H3 σ b c hσ s3 hp3
    subst hσ
    have hh3 := hd_pool hp s3 hh
    obtain ⟨as3, hA3, hla3, hc3⟩ := id hh3
    refine ⟨_, rfl, hd, rfl, ⟨_, hA3⟩, fun D hD => ?_⟩
    refine row_it hp3 hA3 hla3 hc3 hs hD (fun H5 cc p R hp5 hc5 hk5 hR => ⟨cc, _, rfl, hc5, rfl, _, _, rfl, _, _, rfl, rfl, rfl, ⟨_, rfl, _, rfl, pl, _, rfl, hp5, hk5, hR⟩⟩) fun H5 us s5 hp5 h5D hv => ?_
    refine ⟨D, us, rfl, .inl ⟨SqL.of h5D, fun t ht => ⟨by show (2 : Nat) ≤ sizeLine; omega, fun p hpn => ?_⟩⟩⟩
    have s6 : Same H5 (upd H5 t (.tup us)) := same_upd ht
    have s7 : Same (upd H5 t (.tup us)) (upd (upd H5 t (.tup us)) p (.tup [.str "add", .ref t])) := same_upd hpn
    exact hQ _ p ((s3.trans s5).trans (SameX.same (s6.trans s7))) (hp5.same (s6.trans s7)) (.add t us upd_same (SqT.of (s7 _ _ upd_same)) hv)
  refine ⟨_, rfl, pg, _, rfl, DGet.k (k := .inr "lines") hpg, sz0, fun e he => ?_⟩
  have s3 : Same H (upd H e (.lst [])) := same_upd he
  have hl3 := hl.same s3
  have hdp3 : Dp K (upd H e (.lst [])) (.ref l) (.list (rowsD rows)) := .lst (SqL.of hl3.at_) (dp_rows hl3.len hl3.ro fun r hr v hv => (hdat r hr).1 v hv)
  refine ⟨_, _, hdp3, .lst (SqL.of upd_same) .nil, list_shaped hdat, nil_shaped, _, rfl, ?_⟩
  rw [eqv_nil]
  cases hrows : (rowsD rows).isEmpty with
  | true => exact iteT (iteT (fresh _ _ _ _ rfl (SameX.same s3) (hp.same s3)))
  | false =>
    have hpos : 0 < rows.length := by
      cases rows with
      | nil => cases hrows
      | cons r rs => simp
    refine iteF ⟨_, rfl, pl, 4, rfl, hp.same s3, by decide, by decide, fun H4 d4 s4 hp4 hd4 => ⟨rfl, _, rfl, ?_⟩⟩
    have s34 := (SameX.same s3).trans s4
    cases hz : decide (V.int (d4 : Nat) = V.int 0) with
    | true => exact iteT (fresh _ _ _ _ rfl s34 hp4)
    | false =>
      refine iteF ?_
      obtain ⟨as4, hA4, hla4, hc4⟩ := hd_pool hp s34 hh
      refine ⟨_, rfl, _, rfl, _, rfl, _, _, rfl, .inr ⟨_, hA4, rfl⟩, pl, sch.length, (by rw [List.length_map, hla4]; rfl), hp4, List.length_pos_iff.mpr hs.ne, by have := hs.le; omega, fun H5 d5 s5 hp5 hd5 => ?_⟩
      obtain ⟨cc, hcc⟩ := lt_get (l := as4) (i := d5) (by rw [hla4]; exact hd5)
      obtain ⟨q, hq⟩ := lt_get (l := sch) (i := d5) hd5
      have hA5 := sqT_pool hp4 s5 hA4
      have hc5 := sqT_pool hp4 s5 (hc4 d5 cc q hcc hq)
      refine ⟨hd, _, _, .ref cc, rfl, rfl, hA5, atI_nat (by rw [List.getElem?_map, hcc]; rfl), cc, _, rfl, hc5, rfl, _, _, rfl, _, _, rfl, rfl, ?_⟩
      have s35 := s34.trans s5
      have hl5 := hl.pool hp s35
      have hpg5 := s35 _ _ hpgpl hpg
      refine ⟨_, rfl, _, rfl, pg, _, rfl, DGet.k (k := .inr "lines") hpg5, _, _, rfl, .inl ⟨_, SqL.of hl5.at_, rfl⟩, pl, rows.length, (by rw [List.length_map, hl5.len]; rfl), hp5, hpos, by omega, fun H6 d6 s6 hp6 hd6 => ?_⟩
      refine ⟨_, rfl, _, rfl, _, rfl, pl, _, rfl, hp6, (hs.nm q (List.mem_of_getElem? hq)).2, fun H7 v s7 hp7 hk7 hv7 => ⟨by show (4 : Nat) ≤ sizeLine; omega, fun p hpn => ?_⟩⟩
      have s8 : Same H7 (upd H7 p (.tup [.str "put", .int (d6 : Nat), .str q.1, v])) := same_upd hpn
      exact hQ _ p (((s35.trans s6).trans s7).trans (SameX.same s8)) (hp7.same s8) (.put d6 d5 q v upd_same hd6 hq hk7 hv7)
end LF
set_option Elab.async false
set_option linter.all false
set_option maxRecDepth 100000
set_option maxHeartbeats 4000000
/-! A sheet of a drawn class. -/
namespace LF
open PySem PySem.Spec PyProof.Rows L2
variable {P : Program} {w : World} {K : PySem.W.Frag} {mg : Str → Option Value} {base : Heap}
theorem Step.pool {pl : Addr} {ρ : Addr → Ro} {H H' : Hp} (hp : PoolAt H pl) (hp' : PoolAt H' pl) (sx : SameX pl H H') : Step (fun q => q = pl) ρ H ρ H' := by
  obtain ⟨a, b, c, hx, _⟩ := hp
  obtain ⟨a', b', c', hx', _⟩ := hp'
  refine ⟨fun _ _ _ => rfl, fun b o e r n => sx b o n e, fun b o e => ?_, fun b o e f => sx b o (fun z => ?_) e⟩
  · by_cases h : b = pl
    · exact ⟨_, by rw [h]; exact hx'⟩
    · exact ⟨o, sx b o h e⟩
  · rw [z, hx] at e; cases e; exact f
theorem Rep.pool {m : Nat} {hd : Addr} {ρ : Addr → Ro} {H H' : Hp} {a : AS} {pl : Addr} (R : RepK K m hd ρ H a) (hr : ρ pl = .oth) (hp' : PoolAt H' pl) (sx : SameX pl H H') : RepK K m hd ρ H' a := by
  obtain ⟨a', b', c', hx', _⟩ := hp'
  exact Rep.sameX R hr (by rw [hx']; exact fun z => by cases z) sx
theorem FrameAt.pool {pl : Addr} {H H' : Hp} {f hd L : Addr} (hp : PoolAt H pl) (sx : SameX pl H H') (h : FrameAt K H f hd L) : FrameAt K H' f hd L := by
  obtain ⟨a, b, c, hx, _⟩ := hp
  obtain ⟨dx, h⟩ := h
  exact ⟨dx, sx _ _ (ne_of h hx fun z => by cases z) h⟩
theorem Step.pool' {ρ ρ' : Addr → Ro} {H H' : Hp} {pl : Addr} (st : Step none' ρ H ρ' H') (hr : ρ pl = .oth) (hp : PoolAt H pl) : PoolAt H' pl := by
  obtain ⟨a, b, c, hx, h⟩ := hp
  exact ⟨a, b, c, st.ot pl _ hx hr (fun z => z), h⟩
abbrev nmKind : List Str := ["_law_pool_here", "_law_passed", "_law_size_here", "_law_way"]
theorem sc_kind : FnScope nmKind ["_law_pool_here", "_law_passed", "_law_size_here"] (defScope (top 66)) := ⟨rfl, rfl, rfl, by decide +kernel, rfl, by decide +kernel, by decide +kernel⟩
def spKind (K : PySem.W.Frag) : Sp := fun vs H Q _ => ∃ (pl f hd L : Addr) (bs : Nat) (sch : Sch) (ρ : Addr → Ro) (a : AS) (N : Nat) (TS : TSt) (rows : List (List V)), vs = [.ref pl, .ref f, .int (bs : Nat)] ∧ PoolAt H pl ∧ ρ pl = .oth ∧
  RepK K sch.length hd ρ H a ∧ Tok sch.length N a TS ∧ FrameAt K H f hd L ∧ ρ f = .oth ∧ Hd K H hd sch ∧ SchOk sch ∧ RowsAt K H L rows ∧ (∀ r ∈ rows, RowOk sch r) ∧ rows.length ≤ N ∧ 1 ≤ N ∧ N ≤ 900 ∧ 1 ≤ bs ∧ bs ≤ 100 ∧
  ∀ ρ' a' H' x, Step (fun q => q = pl) ρ H ρ' H' → PoolAt H' pl → RepK K sch.length hd ρ' H' a' → Tok sch.length N a' (updT TS x (some (fun j => colOf j rows, rows.length))) → H x = none → a.sh x = none →
    (∀ t D n, TS t = some (D, n) → Apart sch.length a' t x ∧ Apart sch.length a' x t) → Q (.ref x) H'
theorem kind_read (T : TX P K mg) {kk : Kd} {pl f hd L : Addr} {bs : Nat} {sch : Sch} {ρ : Addr → Ro} {a : AS} {N : Nat} {TS : TSt} {rows : List (List V)} {H H1 : Hp} {Q : VK} {d : Nat} (hp : PoolAt H pl) (hro : ρ pl = .oth) (R : RepK K sch.length hd ρ H a) (Tk : Tok sch.length N a TS)
    (hf : FrameAt K H f hd L) (hrf : ρ f = .oth) (hh : Hd K H hd sch) (hs : SchOk sch) (hL : RowsAt K H L rows) (hrow : ∀ r ∈ rows, RowOk sch r) (hrN : rows.length ≤ N) (hN1 : 1 ≤ N) (hN : N ≤ 900) (h1 : 1 ≤ bs) (h2 : bs ≤ 100)
    (hQ : ∀ ρ' a' H' x, Step (fun q => q = pl) ρ H ρ' H' → PoolAt H' pl → RepK K sch.length hd ρ' H' a' → Tok sch.length N a' (updT TS x (some (fun j => colOf j rows, rows.length))) → H x = none → a.sh x = none →
    (∀ t D n, TS t = some (D, n) → Apart sch.length a' t x ∧ Apart sch.length a' x t) → Q (.ref x) H') (s1 : SameX pl H H1) (hp1 : PoolAt H1 pl) :
    tMakeK (cls K kk) 1 1 (spInit K kk kk) (fun vs zs => vs ++ zs) E0 (tCons (tVar 1) tNil) (tCons (tVar 2) tNil) [some (.ref pl), some (.ref f), some (.int (bs : Nat)), some (.int (d : Nat))] H1 Q := by
  refine ⟨_, rfl, _, rfl, rfl, rfl, fun y dx ny nd hne => ?_⟩
  have R1 : RepK K sch.length hd ρ H1 a := R.pool hro hp1 s1
  have s2 := same_made (C := cls K kk) ny nd
  have hh1 := hd_pool hp s1 hh
  have hL1 := rows_pool hp s1 hL
  have hf1 := hf.pool hp s1
  have hy0 : H y = none := fr_pool s1 hp1 ny
  refine ⟨hd, sch, ρ, a, y, dx, f, L, rows, bs, rfl, R1.same s2, R1.fr y ny, hrf, upd_same, hf1.same s2, hh1.same s2, hs, hL1.same s2, hrow, by omega, h1, h2, fun ρ' a' H' pa na cs bl M Rw p0 c0 n0 => ⟨rfl, ?_⟩⟩
  obtain ⟨ρ'', x', st, R2, T2, _, ax, ap⟩ := register Tk (R1.same s2) s2 ny (R1.fr y ny) ⟨_, upd_same⟩ M Rw p0 c0 n0 h1 h2 hrN hN1
  have st0 : Step (fun q => q = pl) ρ H ρ H1 := Step.pool hp hp1 s1
  exact hQ ρ'' _ H' y (st0.trans (st.mono fun _ z => z.elim)) (st.pool' hro hp1) R2 T2 hy0 ax ap
theorem ok_kind (T : TX P K mg) : Ok P w K mg base 9 (ga K "_law_kind_of") ["_law_pool_here", "_law_passed", "_law_size_here"] (spKind K) := by
  obtain ⟨fd, F⟩ := T.f__law_kind_of
  have O1 : Ok P w K mg base 1 (ga K "_law_draw") ["_law_pool_here", "_law_many"] spDraw := ok_draw T
  obtain ⟨fd0, G0, kb0⟩ := ok_init (w := w) (base := base) T .s
  obtain ⟨fd1, G1, kb1⟩ := ok_init (w := w) (base := base) T .n
  obtain ⟨fd2, G2, kb2⟩ := ok_init (w := w) (base := base) T .b
  obtain ⟨fd3, G3, kb3⟩ := ok_init (w := w) (base := base) T .nb
  refine ⟨fd, F.ok sc_kind (fun vs H Q E h => by obtain ⟨_, _, _, _, _, _, _, _, _, _, _, rfl, _⟩ := h; rfl) (fun cdv A outer s H vs Q E hr h => ?_), F.binds fun _ _ _ _ _ _ us hl => match us, hl with | [_, _, _], _ => rfl⟩
  obtain ⟨pl, f, hd, L, bs, sch, ρ, a, N, TS, rows, rfl, hp, hro, R, Tk, hf, hrf, hh, hs, hL, hrow, hrN, hN1, hN, h1, h2, hQ⟩ := h
  refine ⟨_, pss_cons (ps_set (i := 3) sc_kind.nd rfl (.inl rfl) (pe_callO O1 T.f__law_draw.kp hr (by rfl) T.g__law_draw (pa_cons (pv 0) (pa_cons pe_int pa_nil))))
    (pss_cons (ps_if (pt_cmpR op_eq (pv 3) pe_int (nomark _)) (pss_one (ps_ret (pe_makeK (n := 1) (mk_of T .s) G0 hr (by rfl) T.g_Sheet kb0 pass0 (pa_cons (pv 1) pa_nil) (pk_cons (pv 2) pk_nil)))) pss_nil)
    (pss_cons (ps_if (pt_cmpR op_eq (pv 3) pe_int (nomark _)) (pss_one (ps_ret (pe_makeK (n := 1) (mk_of T .n) G1 hr (by rfl) T.g_NotedSheet kb1 pass0 (pa_cons (pv 1) pa_nil) (pk_cons (pv 2) pk_nil)))) pss_nil)
    (pss_one (ps_ret (pe_ifExp (pt_cmpR op_eq (pv 3) pe_int (nomark _)) (pe_makeK (n := 1) (mk_of T .b) G2 hr (by rfl) T.g_BoundedSheet kb2 pass0 (pa_cons (pv 1) pa_nil) (pk_cons (pv 2) pk_nil))
      (pe_makeK (n := 1) (mk_of T .nb) G3 hr (by rfl) T.g_NotedBoundedSheet kb3 pass0 (pa_cons (pv 1) pa_nil) (pk_cons (pv 2) pk_nil))))))), ?_⟩
  refine ⟨_, rfl, pl, 4, rfl, hp, by decide, by decide, fun H1 d s1 hp1 hd1 => ?_⟩
  refine ⟨_, rfl, rfl, _, rfl, ?_⟩
  cases decide (V.int (d : Nat) = V.int 0) with
  | true => exact iteT (kind_read (d := d) T hp hro R Tk hf hrf hh hs hL hrow hrN hN1 hN h1 h2 hQ s1 hp1)
  | false =>
    refine iteF ⟨_, rfl, rfl, _, rfl, ?_⟩
    cases decide (V.int (d : Nat) = V.int 1) with
    | true => exact iteT (kind_read (d := d) T hp hro R Tk hf hrf hh hs hL hrow hrN hN1 hN h1 h2 hQ s1 hp1)
    | false =>
      refine iteF ⟨_, rfl, rfl, _, rfl, ?_⟩
      cases decide (V.int (d : Nat) = V.int 2) with
      | true => exact iteT (kind_read (d := d) T hp hro R Tk hf hrf hh hs hL hrow hrN hN1 hN h1 h2 hQ s1 hp1)
      | false => exact iteF (kind_read (d := d) T hp hro R Tk hf hrf hh hs hL hrow hrN hN1 hN h1 h2 hQ s1 hp1)
end LF
set_option Elab.async false
set_option linter.all false
set_option maxRecDepth 100000
set_option maxHeartbeats 4000000
/-! One write on a sheet and on the lines kept beside it. -/
namespace LF
open PySem PySem.Spec PyProof.Rows L2
variable {P : Program} {w : World} {K : PySem.W.Frag} {mg : Str → Option Value} {base : Heap}
theorem slA_read {H : Hp} {a : Addr} {xs : List V} {lo hi : Option Int} {Q : VK} (h : SqT K H a xs) (hQ : ∀ H' p, Same H H' → SqT K H' p (cutV xs lo hi) → Q (.ref p) H') : rSlA K (.ref a) lo hi H Q := by
  refine ⟨a, xs, rfl, h, fun hw => hQ H a (Same.refl H) ?_, fun _ p hp => hQ _ p (same_upd hp) (SqT.of upd_same)⟩
  have : cutV xs lo hi = xs := by
    unfold cutV
    rw [hw.1, hw.2, List.drop_zero, Nat.sub_zero, List.take_of_length_le (Nat.le_refl _)]
  rw [this]; exact h
theorem catA_read {H : Hp} {a b : Addr} {xs ys : List V} {Q : VK} (h : SqT K H a xs) (h2 : SqT K H b ys) (hz : xs.length + ys.length ≤ sizeLine) (hQ : ∀ H' p, Same H H' → SqT K H' p (xs ++ ys) → Q (.ref p) H') : rCatA K (.ref a) (.ref b) H Q := by
  refine ⟨a, b, xs, ys, rfl, rfl, h, h2, hz, fun e => hQ H b (Same.refl H) (by rw [e]; exact h2), fun _ e => hQ H a (Same.refl H) (by rw [e, List.append_nil]; exact h), fun _ _ p hp => hQ _ p (same_upd hp) (SqT.of upd_same)⟩
theorem set_cut {α : Type} {xs : List α} {i : Nat} {v : α} (h : i < xs.length) : xs.take i ++ [v] ++ xs.drop (i + 1) = xs.set i v := by
  rw [List.set_eq_take_append_cons_drop, if_pos h, List.append_assoc]; rfl
theorem col_set {rows : List (List V)} {r : List V} {i j : Nat} {v : V} (hr : rows[i]? = some r) (hj : j < r.length) (j' : Nat) : putD (fun j => colOf j rows) j i v j' = colOf j' (rows.set i (r.set j v)) := by
  unfold putD colOf
  rw [List.map_set]
  obtain ⟨hi, hri⟩ := List.getElem?_eq_some_iff.mp hr
  by_cases h : j' = j
  · subst h
    rw [if_pos rfl]
    congr 1
    rw [List.getD_eq_getElem?_getD, List.getElem?_set_self hj]; rfl
  · rw [if_neg h]
    have e : (r.set j v).getD j' .non = r.getD j' .non := by
      rw [List.getD_eq_getElem?_getD, List.getD_eq_getElem?_getD, List.getElem?_set_ne (fun z => h z.symm)]
    rw [e]
    have : (rows.map fun r => r.getD j' V.non)[i]'(by simpa using hi) = r.getD j' .non := by rw [List.getElem_map, hri]
    rw [← this, List.set_getElem_self]
theorem col_add {rows : List (List V)} {r : List V} {m j : Nat} {D : Nat → List V} (hD : ∀ j, j < m → D j = colOf j rows) (hj : j < m) : addD D r m j = colOf j (rows ++ [r]) := by
  unfold addD colOf
  rw [if_pos hj, hD j hj, List.map_append]; rfl
theorem Lines.step {ρ ρ' : Addr → Ro} {H H' : Hp} {D : Addr} {ts : List Addr} {rows : List (List V)} {X : Addr → Prop} (h : Lines K H D ts rows) (st : Step X ρ H ρ' H') (hr : ρ D = .oth) (hx : ¬ X D) : Lines K H' D ts rows :=
  ⟨st.ot _ _ h.at_ hr hx, h.len, fun k t r z zr => st.sqT (h.ro k t r z zr)⟩
theorem Lines.set {H H' : Hp} {l l' t : Addr} {ts : List Addr} {rows : List (List V)} {r : List V} {i : Nat} (h : Lines K H l ts rows) (s : Same H H') (ht : SqT K H' t r) (h' : H' l' = some (.lst ((ts.set i t).map V.ref))) : Lines K H' l' (ts.set i t) (rows.set i r) := by
  refine ⟨h', by rw [List.length_set, List.length_set, h.len], fun k t' r' z zr => ?_⟩
  by_cases hk : k = i
  · subst hk
    have h1 : k < ts.length := by have := (List.getElem?_eq_some_iff.mp z).1; simpa using this
    have h2 : k < rows.length := by have := (List.getElem?_eq_some_iff.mp zr).1; simpa using this
    rw [List.getElem?_set_self h1] at z
    rw [List.getElem?_set_self h2] at zr
    cases z; cases zr
    exact ht
  · rw [List.getElem?_set_ne (fun z => hk z.symm)] at z zr
    exact same_sqT s (h.ro k t' r' z zr)
theorem rowV_set {sch : Sch} {r : List V} {j : Nat} {q : Str × Str} {v : V} (h : RowV sch r) (hj : sch[j]? = some q) (hk : KindV q.2 v) (hv : Val v) : RowV sch (r.set j v) := by
  refine ⟨⟨by rw [List.length_set]; exact h.1.1, fun i p u hi hu => ?_⟩, fun u hu => ?_⟩
  · by_cases e : i = j
    · subst e
      have h1 : i < r.length := by have := (List.getElem?_eq_some_iff.mp hu).1; simpa using this
      rw [List.getElem?_set_self h1] at hu
      rw [hj] at hi
      cases hu; cases hi
      exact hk
    · rw [List.getElem?_set_ne (fun z => e z.symm)] at hu
      exact h.1.2 i p u hi hu
  · rcases List.mem_or_eq_of_mem_set hu with z | z
    · exact h.2 u z
    · rw [z]; exact hv

/-- the sheet s holds the rows -/
def Holds (m : Nat) (TS : TSt) (s : Addr) (rows : List (List V)) : Prop := ∃ D, TS s = some (D, rows.length) ∧ ∀ j, j < m → D j = colOf j rows
abbrev nmWrite : List Str := ["_law_box", "_law_lines_here", "_law_heads_here", "_law_deed", "_law_place", "_law_line_here", "_law_call", "_law_kind_here"]
theorem sc_write : FnScope nmWrite ["_law_box", "_law_lines_here", "_law_heads_here", "_law_deed"] (defScope (top 67)) := ⟨rfl, rfl, rfl, by decide +kernel, rfl, by decide +kernel, by decide +kernel⟩
def spWrite (K : PySem.W.Frag) : Sp := fun vs H Q _ => ∃ (s l hd p : Addr) (sch : Sch) (ρ : Addr → Ro) (a : AS) (N : Nat) (TS : TSt) (ts : List Addr) (rows : List (List V)), vs = [.ref s, .ref l, .ref hd, .ref p] ∧
  RepK K sch.length hd ρ H a ∧ Tok sch.length N a TS ∧ Holds sch.length TS s rows ∧ Lines K H l ts rows ∧ ρ l = .oth ∧ Hd K H hd sch ∧ SchOk sch ∧ Deed K H sch rows.length p ∧ (∀ r ∈ rows, RowV sch r) ∧ 1 ≤ N ∧ N ≤ 900 ∧ rows.length ≤ 900 ∧
  ∀ ρ' a' H' l' D' ts' rows', Step none' ρ H ρ' H' → RepK K sch.length hd ρ' H' a' → Tok sch.length (N + 1) a' (updT TS s (some (D', rows'.length))) → (∀ j, j < sch.length → D' j = colOf j rows') → Lines K H' l' ts' rows' → H l' = none → ρ' l' = .oth → (∀ r ∈ rows', RowV sch r) → rows'.length ≤ rows.length + 1 → Q (.ref l') H'
theorem ok_write (T : TX P K mg) : Ok P w K mg base 7 (ga K "_law_write") ["_law_box", "_law_lines_here", "_law_heads_here", "_law_deed"] (spWrite K) := by
  obtain ⟨fd, F⟩ := T.f__law_write
  refine ⟨fd, F.ok sc_write (fun vs H Q E h => by obtain ⟨_, _, _, _, _, _, _, _, _, _, _, rfl, _⟩ := h; rfl) (fun cdv A outer s0 H vs Q E hr h => ?_), F.binds fun _ _ _ _ _ _ us hl => match us, hl with | [_, _, _, _], _ => rfl⟩
  obtain ⟨s, l, hd, p, sch, ρ, a, N, TS, ts, rows, rfl, R, Tk, ⟨D, e, hD⟩, hl, hlr, hh, hs, hdeed, hrv, hN1, hN, hrn, hQ⟩ := h
  refine ⟨_, pss_cons (ps_if (pt_cmpR op_eq (pe_ix ix_tup (pv 3) pe_int (fun _ _ => rfl)) pe_str (nomark _))
      (pss_cons (ps_expr (pe_mF (ok_addF T) (pv 0) T.c_sheet T.m_add_row hr (pa_cons (pe_ix ix_tup (pv 3) pe_int (fun _ _ => rfl)) pa_nil)))
      (pss_one (ps_ret (pe_op op_cat (pv 1) (pe_lst (pa_cons (pe_ix ix_tup (pv 3) pe_int (fun _ _ => rfl)) pa_nil)))))) pss_nil)
    (pss_cons (ps_expr (pe_mF (ok_putF T) (pv 0) T.c_sheet T.m_put hr (pa_cons (pe_ix ix_tup (pv 3) pe_int (fun _ _ => rfl)) (pa_cons (pe_ix ix_tup (pv 3) pe_int (fun _ _ => rfl)) (pa_cons (pe_ix ix_tup (pv 3) pe_int (fun _ _ => rfl)) pa_nil)))))
    (pss_cons (ps_set (i := 4) sc_write.nd rfl (.inl rfl) (pe_bm PySem.F.plainAttrs_list PySem.F.slot_list_index PySem.F.type_list_index mt_index
        (pe_lc (own := [("_law_call", 6), ("_law_kind_here", 7)]) (g := gTup K 2 (gCons (gName 6) (gCons (gName 7) gNil))) (tt := tYes) (by rfl) sc_write.nd (pi_tup (pv 2)) (blkOk_by (own := [("_law_call", 6), ("_law_kind_here", 7)]) (N := nmWrite) (sc := defScope (top 67)) (by decide +kernel))
            (fun _ _ _ _ _ => pg_tup (n := 2) (by rfl) (pgs_cons (pg_name (i := 6) sc_write.nd rfl (Or.inl rfl)) (pgs_cons (pg_name (i := 7) sc_write.nd rfl (Or.inl rfl)) pgs_nil))) (fun _ _ _ _ _ => pts_nil)
            (fun _ _ _ _ _ => pv 6)) (pa_cons (pe_ix ix_tup (pv 3) pe_int (fun _ _ => rfl)) pa_nil)))
    (pss_cons (ps_set (i := 5) sc_write.nd rfl (.inl rfl) (pe_ix ix_list (pv 1) (pe_ix ix_tup (pv 3) pe_int (fun _ _ => rfl)) (fun _ _ => rfl)))
    (pss_one (ps_ret (pe_op op_cat (pe_op op_cat (pe_slice sl_list (pv 1) po_none (po_some (pe_ix ix_tup (pv 3) pe_int (fun _ _ => rfl))))
        (pe_lst (pa_cons (pe_op op_catA (pe_op op_catA (pe_slice sl_tupA (pv 5) po_none (po_some (pv 4))) (pe_tup (pa_cons (pe_ix ix_tup (pv 3) pe_int (fun _ _ => rfl)) pa_nil))) (pe_slice sl_tupA (pv 5) (po_some (pe_op op_add (pv 4) pe_int)) po_none)) pa_nil)))
      (pe_slice sl_list (pv 1) (po_some (pe_op op_add (pe_ix ix_tup (pv 3) pe_int (fun _ _ => rfl)) pe_int)) po_none))))))), ?_⟩
  have hsl : sizeLine = 16777216 := sizeLine_eq
  obtain ⟨x, ex, etot, S⟩ := Tk s D _ e
  have RS := R.sh s x ex
  have hDl : ∀ j, j < sch.length → (D j).length = rows.length := fun j hj => by rw [hD j hj]; simp [colOf]
  cases hdeed with
  | add t r hp ht hr5 =>
    refine ⟨_, rfl, p, _, _, _, rfl, rfl, SqT.of hp, atI_nat (j := 0) rfl, rfl, _, rfl, iteT ?_⟩
    refine ⟨_, rfl, x.kd, s, _, _, rfl, RS.at_, lm_add_row, _, rfl, p, _, _, _, rfl, rfl, SqT.of hp, atI_nat (j := 1) rfl, hd, sch, ρ, a, N, TS, s, t, x, D, rows.length, r, rfl, R, Tk, e, ex, rfl, hh, ht, hr5.1, hDl, hN1, hN, fun ρ' a' H' st R' Tk' => ?_⟩
    have hl1 := hl.step st hlr (fun z => z)
    have hp1 := st.fx _ _ hp trivial
    refine ⟨_, rfl, _, rfl, p, _, _, _, rfl, rfl, SqT.of hp1, atI_nat (j := 1) rfl, (by show (1 : Nat) ≤ sizeLine; omega), fun q hq => ?_⟩
    have hl2 := hl1.same (same_upd (o := .lst [.ref t]) hq)
    refine ⟨l, q, _, _, rfl, rfl, hl2.at_, upd_same, by rw [List.length_map, hl2.len]; simp; omega, fun l' hl' => ?_⟩
    have s2 : Same H' (upd (upd H' q (.lst [.ref t])) l' (.lst (ts.map V.ref ++ [.ref t]))) := (same_upd hq).trans (same_upd hl')
    refine hQ ρ' a' _ l' _ (ts ++ [t]) (rows ++ [r]) (st.trans (Step.same s2)) (R'.same s2) (by rw [List.length_append]; exact Tk') (fun j hj => col_add hD hj) ?_ (st.free ((same_upd hq).free hl')) (R'.fr l' ((same_upd hq).free hl')) (fun r' h => ?_) (by simp)
    · refine ⟨by rw [upd_same]; simp, by simp [hl.len], fun k t' r' z zr => same_sqT s2 ?_⟩
      by_cases hk : k < ts.length
      · rw [List.getElem?_append_left hk] at z
        rw [List.getElem?_append_left (by rw [← hl.len]; exact hk)] at zr
        exact hl1.ro k t' r' z zr
      · have hk2 : k = ts.length := by
          have := (List.getElem?_eq_some_iff.mp z).1
          simp at this; omega
        subst hk2
        rw [List.getElem?_append_right (Nat.le_refl _), Nat.sub_self] at z
        rw [hl.len, List.getElem?_append_right (Nat.le_refl _), Nat.sub_self] at zr
        cases z; cases zr
        exact st.sqT ht
    · rcases List.mem_append.mp h with h | h
      · exact hrv r' h
      · rw [List.mem_singleton.mp h]; exact hr5
  | put i j q v hp hi hj hk hv =>
    refine ⟨_, rfl, p, _, _, _, rfl, rfl, SqT.of hp, atI_nat (j := 0) rfl, rfl, _, rfl, iteF ?_⟩
    have hjm : j < sch.length := (List.getElem?_eq_some_iff.mp hj).1
    refine ⟨_, rfl, x.kd, s, _, _, rfl, RS.at_, lm_put, _, rfl, p, _, _, _, rfl, rfl, SqT.of hp, atI_nat (j := 1) rfl, _, rfl, p, _, _, _, rfl, rfl, SqT.of hp, atI_nat (j := 2) rfl, _, rfl, p, _, _, _, rfl, rfl, SqT.of hp, atI_nat (j := 3) rfl, hd, sch, ρ, a, N, TS, s, x, D, rows.length, j, i, q, v, rfl, R, Tk, e, ex, rfl, hh, hs, hj, hi, hDl j hjm, hk, hN1, hN, fun ρ' a' H' st R' Tk' => ?_⟩
    have hl1 := hl.step st hlr (fun z => z)
    have hp1 := st.fx _ _ hp trivial
    have hh1 : Hd K H' hd sch := by
      obtain ⟨as, h1, h2, h3⟩ := hh
      exact ⟨as, st.sqT h1, h2, fun i a p u v => st.sqT (h3 i a p u v)⟩
    obtain ⟨as, hA, hla, hc⟩ := id hh1
    -- the row
    obtain ⟨r, hri⟩ := lt_get hi
    obtain ⟨t, hti⟩ := lt_get (l := ts) (i := i) (by rw [hl.len]; exact hi)
    have hrr := hrv r (List.mem_of_getElem? hri)
    have hjr : j < r.length := by rw [hrr.1.1]; exact hjm
    have hr4 : r.length ≤ 4 := by rw [hrr.1.1]; exact hs.le
    have c1 : cutV r none (some (j : Nat)) = r.take j := cutV_to
    have c2 : cutV r (some ((j : Nat) + 1)) none = r.drop (j + 1) := by
      have : ((j : Nat) : Int) + 1 = ((j + 1 : Nat) : Int) := by omega
      rw [this]; exact cutV_from
    have c3 : cutV (ts.map V.ref) none (some (i : Nat)) = (ts.take i).map V.ref := by rw [List.map_take]; exact cutV_to
    have c4 : cutV (ts.map V.ref) (some ((i : Nat) + 1)) none = (ts.drop (i + 1)).map V.ref := by
      have : ((i : Nat) : Int) + 1 = ((i + 1 : Nat) : Int) := by omega
      rw [this, List.map_drop]; exact cutV_from
    refine ⟨_, rfl, hd, rfl, ⟨_, hA⟩, fun D1 hD1 => ?_⟩
    have sD : ∀ (o : HO), Same H' (upd H' D1 o) := fun o => same_upd hD1
    refine lc_it (walk_tup (xs := as.map V.ref)) (fun i H2 => H2 = upd H' D1 (.lst (((sch.map (·.1)).take i).map V.str))) (by simp) (fun i H2 _ hp => by subst hp; exact same_sqT (sD _) hA) (fun k x H2 H3 hk2 hp hy => ?_) fun H2 hq => ?_
    · obtain ⟨rfl, hx⟩ := hy
      subst hp
      obtain ⟨c, hci, rfl⟩ := get_map hx
      have hi' : k < sch.length := by rw [← hla]; simpa using hk2
      obtain ⟨p, hp⟩ := lt_get hi'
      refine ⟨c, _, rfl, same_sqT (sD _) (hc k c p hci hp), rfl, _, _, rfl, _, _, rfl, rfl, rfl, ?_⟩
      refine yes ?_
      refine ⟨_, rfl, _, upd_same, ?_, ?_⟩
      · have := hs.le
        simp
        omega
      · rw [upd_upd]
        congr 2
        rw [List.take_succ_eq_append_getElem (by simpa using hi'), List.map_append]
        have : (sch.map (·.1))[k]'(by simpa using hi') = p.1 := by
          have := (List.getElem?_eq_some_iff.mp hp).2
          simp [this]
        rw [this]
        rfl
    · have el : (as.map V.ref).length = sch.length := by simp [hla]
      rw [el, List.take_of_length_le (by simp)] at hq
      have hs2 : Same H' H2 := by rw [hq]; exact sD _
      have h2D : H2 D1 = some (.lst ((sch.map (·.1)).map V.str)) := by rw [hq]; exact upd_same
      clear hq
      have hp2 := hs2 _ _ hp1
      have hl2 := hl1.same hs2
      refine ⟨.inl ⟨rfl, _, SqL.of h2D⟩, _, rfl, p, _, _, _, rfl, rfl, SqT.of hp2, atI_nat (j := 2) rfl, D1, (sch.map (·.1)).map V.str, .str q.1, j, .str q.1, rfl, rfl, SqL.of h2D, rfl, flat_names, by rw [List.getElem?_map, List.getElem?_map, hj]; rfl, by show eqV (.str q.1) (.str q.1) = true; simp [eqV], fun m z' hm e' => ?_, ?_⟩
      · rw [List.getElem?_map, List.getElem?_map] at e'
        cases em : sch[m]? with
        | none => rw [em] at e'; cases e'
        | some pm =>
          rw [em] at e'
          cases e'
          show eqV (.str pm.1) (.str q.1) = false
          cases hc' : eqV (.str pm.1) (.str q.1) with
          | false => rfl
          | true =>
            have h3 : pm.1 = q.1 := by simpa [eqV] using hc'
            have := nd_ix hs.nd (show (sch.map (·.1))[m]? = some q.1 by rw [List.getElem?_map, em, ← h3]; rfl) (show (sch.map (·.1))[j]? = some q.1 by rw [List.getElem?_map, hj]; rfl)
            omega
      refine ⟨_, rfl, _, rfl, p, _, _, _, rfl, rfl, SqT.of hp2, atI_nat (j := 1) rfl, l, _, _, .ref t, rfl, rfl, SqL.of hl2.at_, atI_nat (j := i) (by rw [List.getElem?_map, hti]; rfl), ?_⟩
      refine ⟨_, rfl, _, rfl, p, _, _, _, rfl, rfl, SqT.of hp2, atI_nat (j := 1) rfl, _, rfl, l, _, rfl, SqL.of hl2.at_, fun a1 ha1 => ?_⟩
      rw [c3]
      have s3 : Same H2 (upd H2 a1 (.lst ((ts.take i).map V.ref))) := same_upd ha1
      have h3a : (upd H2 a1 (.lst ((ts.take i).map V.ref))) a1 = some (.lst ((ts.take i).map V.ref)) := upd_same
      generalize upd H2 a1 (.lst ((ts.take i).map V.ref)) = H3 at s3 h3a ⊢
      have hl3 := hl2.same s3
      refine ⟨_, rfl, _, rfl, _, rfl, slA_read (hl3.ro i t r hti hri) fun H4 p4 s4 h4 => ?_⟩
      rw [c1] at h4
      have s34 := s3.trans s4
      refine ⟨_, rfl, p, _, _, _, rfl, rfl, SqT.of (s34 _ _ hp2), atI_nat (j := 3) rfl, (by show (1 : Nat) ≤ sizeLine; omega), fun q5 hq5 => ?_⟩
      have s5 : Same H4 (upd H4 q5 (.tup [v])) := same_upd hq5
      refine catA_read (same_sqT s5 h4) (SqT.of upd_same) (by simp; omega) fun H6 p6 s6 h6 => ?_
      have s36 := (s34.trans s5).trans s6
      have hl6 := hl2.same s36
      refine ⟨_, rfl, _, rfl, _, _, rfl, rfl, _, rfl, ?_⟩
      dsimp only [tNoPart]
      refine slA_read (hl6.ro i t r hti hri) fun H7 p7 s7 h7 => ?_
      rw [c2] at h7
      refine catA_read (same_sqT s7 h6) h7 (by simp; omega) fun H8 p8 s8 h8 => ?_
      rw [set_cut hjr] at h8
      refine ⟨by show (1 : Nat) ≤ sizeLine; omega, fun b hb => ?_⟩
      have s9 : Same H8 (upd H8 b (.lst [.ref p8])) := same_upd hb
      have h9b : (upd H8 b (.lst [.ref p8])) b = some (.lst [.ref p8]) := upd_same
      have h9 := same_sqT s9 h8
      have s39 := ((s36.trans s7).trans s8).trans s9
      have s49 := (((((s4.trans s5).trans s6).trans s7).trans s8).trans s9)
      generalize upd H8 b (.lst [.ref p8]) = H9 at s9 h9b h9 s39 s49 ⊢
      have hlt : ts.length = rows.length := hl.len
      refine ⟨a1, b, _, _, rfl, rfl, s49 _ _ h3a, h9b, by simp; omega, fun c hc9 => ?_⟩
      have s10 : Same H9 (upd H9 c (.lst ((ts.take i).map V.ref ++ [.ref p8]))) := same_upd hc9
      have h10c : (upd H9 c (.lst ((ts.take i).map V.ref ++ [.ref p8]))) c = some (.lst ((ts.take i).map V.ref ++ [.ref p8])) := upd_same
      have s310 := s39.trans s10
      have h10 := same_sqT s10 h9
      generalize upd H9 c (.lst ((ts.take i).map V.ref ++ [.ref p8])) = H10 at s10 h10c s310 h10 ⊢
      have hl10 := hl2.same s310
      refine ⟨_, rfl, _, rfl, p, _, _, _, rfl, rfl, SqT.of (s310 _ _ hp2), atI_nat (j := 1) rfl, _, _, rfl, rfl, _, rfl, l, _, rfl, SqL.of hl10.at_, fun d hd11 => ?_⟩
      rw [c4]
      have s11 : Same H10 (upd H10 d (.lst ((ts.drop (i + 1)).map V.ref))) := same_upd hd11
      have h11d : (upd H10 d (.lst ((ts.drop (i + 1)).map V.ref))) d = some (.lst ((ts.drop (i + 1)).map V.ref)) := upd_same
      have s311 := s310.trans s11
      have h11 := same_sqT s11 h10
      generalize upd H10 d (.lst ((ts.drop (i + 1)).map V.ref)) = H11 at s11 h11d s311 h11 ⊢
      refine ⟨c, d, _, _, rfl, rfl, s11 _ _ h10c, h11d, by simp; omega, fun l' hl' => ?_⟩
      have e12 : ((ts.take i).map V.ref ++ [V.ref p8]) ++ (ts.drop (i + 1)).map V.ref = (ts.set i p8).map V.ref := by
        rw [← set_cut (xs := ts) (v := p8) (by omega)]; simp
      rw [e12]
      have s12 : Same H11 (upd H11 l' (.lst ((ts.set i p8).map V.ref))) := same_upd hl'
      have sall := (hs2.trans s311).trans s12
      refine hQ ρ' a' _ l' (putD D j i v) _ (rows.set i (r.set j v)) (st.trans (Step.same sall)) (R'.same sall) (by rw [List.length_set]; exact Tk') (fun j' hj' => ?_) (hl1.set sall (same_sqT s12 h11) upd_same) (st.free ((hs2.trans s311).free hl')) (R'.fr l' ((hs2.trans s311).free hl')) (fun r' hr' => ?_) (by rw [List.length_set]; omega)
      · rw [← col_set hri hjr]
        unfold putD
        rw [hD j hjm, hD j' hj']
      · rcases List.mem_or_eq_of_mem_set hr' with z | z
        · exact hrv r' z
        · rw [z]; exact rowV_set hrr hj hk hv
end LF
set_option Elab.async false
set_option linter.all false
set_option maxRecDepth 100000
set_option maxHeartbeats 4000000
/-! The law's own things: the boxes, what was told. -/
namespace LF
open PySem PySem.Spec PyProof.Rows L2
structure BoxR where
  b : Addr
  s : Addr
  l : Addr
  ts : List Addr
  rows : List (List V)
structure ToldR where
  p : Addr
  f : Addr
  L : Addr
  Lf : Addr
  rows : List (List V)
variable {K : PySem.W.Frag} {sch : Sch} {hd pl bx tl : Addr} {τ : Addr → Nat} {ρ ρ' : Addr → Ro} {H H' : Hp} {B : List BoxR} {F : List ToldR}
structure BoxOk (K : PySem.W.Frag) (sch : Sch) (τ : Addr → Nat) (ρ : Addr → Ro) (H : Hp) (x : BoxR) : Prop where
  at_ : H x.b = some (.lst [.ref x.s, .ref x.l])
  rb : ρ x.b = .oth
  tb : τ x.b = 4
  li : Lines K H x.l x.ts x.rows
  rl : ρ x.l = .oth
  tl : τ x.l = 5
  rv : ∀ r ∈ x.rows, RowV sch r
structure ToldOk (K : PySem.W.Frag) (sch : Sch) (hd : Addr) (τ : Addr → Nat) (ρ : Addr → Ro) (H : Hp) (y : ToldR) : Prop where
  at_ : H y.p = some (.lst [.ref y.f, .ref y.L])
  rp : ρ y.p = .oth
  tp : τ y.p = 6
  fr : FrameAt K H y.f hd y.Lf
  rf : ρ y.f = .oth
  r1 : RowsAt K H y.Lf y.rows
  r2 : RowsAt K H y.L y.rows
  rv : ∀ r ∈ y.rows, RowV sch r
  le : y.rows.length ≤ 900
structure LawW (K : PySem.W.Frag) (sch : Sch) (hd pl bx tl : Addr) (τ : Addr → Nat) (ρ : Addr → Ro) (H : Hp) (B : List BoxR) (F : List ToldR) : Prop where
  pool : PoolAt H pl
  rpl : ρ pl = .oth
  tpl : τ pl = 1
  bxa : H bx = some (.lst (B.map fun x => V.ref x.b))
  rbx : ρ bx = .oth
  tbx : τ bx = 2
  tla : H tl = some (.lst (F.map fun x => V.ref x.p))
  rtl : ρ tl = .oth
  ttl : τ tl = 3
  bo : ∀ x ∈ B, BoxOk K sch τ ρ H x
  to : ∀ y ∈ F, ToldOk K sch hd τ ρ H y
  ndb : (B.map (·.b)).Nodup
  hh : Hd K H hd sch
theorem map_erase {α β : Type} {f : α → β} : ∀ {l : List α} {i : Nat}, (l.eraseIdx i).map f = (l.map f).eraseIdx i
  | [], _ => rfl
  | _ :: _, 0 => rfl
  | a :: l, i + 1 => by
    show f a :: (l.eraseIdx i).map f = f a :: (l.map f).eraseIdx i
    rw [map_erase]
theorem tne {x y : Addr} {i j : Nat} (h : τ x = i) (h' : τ y = j) (d : i ≠ j) : x ≠ y := fun z => d (by rw [← h, ← h', z])
/-- what is kept of a place -/
structure Kept (c : Addr) (ρ : Addr → Ro) (H : Hp) (ρ' : Addr → Ro) (H' : Hp) : Prop where
  ot : ∀ b o, H b = some o → ρ b = .oth → b ≠ c → H' b = some o ∧ ρ' b = .oth
  sq : ∀ (K : PySem.W.Frag) (a : Addr) (xs : List V), SqT K H a xs → SqT K H' a xs
theorem Kept.step (st : Step (fun q => q = pl) ρ H ρ' H') : Kept pl ρ H ρ' H' := ⟨fun b o e r n => ⟨st.ot b o e r n, (st.ro b o e).trans r⟩, fun K a xs h => st.sqT h⟩
theorem Kept.put {c : Addr} {ys : List V} {o : HO} (h : H c = some (.lst ys)) : Kept c ρ H ρ (upd H c o) := ⟨fun b o e r n => ⟨by rw [upd_ne n]; exact e, r⟩, fun K a xs h2 => sqT_list h SameX.put h2⟩
theorem Kept.lines {c l : Addr} {ts : List Addr} {rows : List (List V)} (k : Kept c ρ H ρ' H') (h : Lines K H l ts rows) (r : ρ l = .oth) (n : l ≠ c) : Lines K H' l ts rows ∧ ρ' l = .oth :=
  ⟨⟨(k.ot _ _ h.at_ r n).1, h.len, fun i t q z zq => k.sq K t q (h.ro i t q z zq)⟩, (k.ot _ _ h.at_ r n).2⟩
theorem Kept.rows {c l : Addr} {rows : List (List V)} (k : Kept c ρ H ρ' H') (h : RowsAt K H l rows) : RowsAt K H' l rows := by
  obtain ⟨rs, h1, h2, h3⟩ := h
  exact ⟨rs, k.sq K _ _ h1, h2, fun i a r z zr => k.sq K _ _ (h3 i a r z zr)⟩
theorem Kept.hds {c : Addr} (k : Kept c ρ H ρ' H') (h : Hd K H hd sch) : Hd K H' hd sch := by
  obtain ⟨as, h1, h2, h3⟩ := h
  exact ⟨as, k.sq K _ _ h1, h2, fun i a p u v => k.sq K _ _ (h3 i a p u v)⟩
theorem BoxOk.kept {c : Addr} {x : BoxR} (h : BoxOk K sch τ ρ H x) (k : Kept c ρ H ρ' H') (n1 : x.b ≠ c) (n2 : x.l ≠ c) : BoxOk K sch τ ρ' H' x :=
  ⟨(k.ot _ _ h.at_ h.rb n1).1, (k.ot _ _ h.at_ h.rb n1).2, h.tb, (k.lines h.li h.rl n2).1, (k.lines h.li h.rl n2).2, h.tl, h.rv⟩
theorem ToldOk.kept {c : Addr} {y : ToldR} {ys : List V} (h : ToldOk K sch hd τ ρ H y) (k : Kept c ρ H ρ' H') (n1 : y.p ≠ c) (hc : H c = some (.lst ys)) : ToldOk K sch hd τ ρ' H' y := by
  obtain ⟨dx, hf⟩ := h.fr
  have n2 : y.f ≠ c := ne_of hf hc fun z => by cases z
  exact ⟨(k.ot _ _ h.at_ h.rp n1).1, (k.ot _ _ h.at_ h.rp n1).2, h.tp, ⟨dx, (k.ot _ _ hf h.rf n2).1⟩, (k.ot _ _ hf h.rf n2).2, k.rows h.r1, k.rows h.r2, h.rv, h.le⟩
theorem LawW.step (W : LawW K sch hd pl bx tl τ ρ H B F) (st : Step (fun q => q = pl) ρ H ρ' H') (hp' : PoolAt H' pl) : LawW K sch hd pl bx tl τ ρ' H' B F := by
  have k := Kept.step st
  obtain ⟨p1, p2, p3, hpl, _⟩ := id W.pool
  have n1 := tne W.tbx W.tpl (by decide)
  have n2 := tne W.ttl W.tpl (by decide)
  exact ⟨hp', (st.ro _ _ hpl).trans W.rpl, W.tpl, (k.ot _ _ W.bxa W.rbx n1).1, (k.ot _ _ W.bxa W.rbx n1).2, W.tbx, (k.ot _ _ W.tla W.rtl n2).1, (k.ot _ _ W.tla W.rtl n2).2, W.ttl,
    fun x hx => (W.bo x hx).kept k (tne (W.bo x hx).tb W.tpl (by decide)) (tne (W.bo x hx).tl W.tpl (by decide)), fun y hy => (W.to y hy).kept k (tne (W.to y hy).tp W.tpl (by decide)) hpl, W.ndb, k.hds W.hh⟩
theorem Step.none'X (st : Step none' ρ H ρ' H') : Step (fun q => q = pl) ρ H ρ' H' := st.mono fun _ z => z.elim
/-- other tags for what is free -/
theorem LawW.retag (W : LawW K sch hd pl bx tl τ ρ H B F) {τ' : Addr → Nat} (h : ∀ q, H q ≠ none → τ' q = τ q) : LawW K sch hd pl bx tl τ' ρ H B F := by
  have g : ∀ {q : Addr} {o : HO} {i : Nat}, H q = some o → τ q = i → τ' q = i := fun {q o i} e t => (h q (by rw [e]; exact fun z => by cases z)).trans t
  obtain ⟨p1, p2, p3, hpl, _⟩ := id W.pool
  exact ⟨W.pool, W.rpl, g hpl W.tpl, W.bxa, W.rbx, g W.bxa W.tbx, W.tla, W.rtl, g W.tla W.ttl, fun x hx => ⟨(W.bo x hx).at_, (W.bo x hx).rb, g (W.bo x hx).at_ (W.bo x hx).tb, (W.bo x hx).li, (W.bo x hx).rl, g (W.bo x hx).li.at_ (W.bo x hx).tl, (W.bo x hx).rv⟩,
    fun y hy => ⟨(W.to y hy).at_, (W.to y hy).rp, g (W.to y hy).at_ (W.to y hy).tp, (W.to y hy).fr, (W.to y hy).rf, (W.to y hy).r1, (W.to y hy).r2, (W.to y hy).rv, (W.to y hy).le⟩, W.ndb, W.hh⟩
theorem PoolAt.put {c : Addr} {o : HO} (h : PoolAt H pl) (n : pl ≠ c) : PoolAt (upd H c o) pl := by
  obtain ⟨a, b, c', h1, h2⟩ := h
  exact ⟨a, b, c', by rw [upd_ne n]; exact h1, h2⟩
/-- one more box -/
theorem LawW.addBox (W : LawW K sch hd pl bx tl τ ρ H B F) {x : BoxR} (hx : BoxOk K sch τ ρ H x) (hn : x.b ∉ B.map (·.b)) : LawW K sch hd pl bx tl τ ρ (upd H bx (.lst ((B.map fun x => V.ref x.b) ++ [.ref x.b]))) (B ++ [x]) F := by
  have k : Kept bx ρ H ρ (upd H bx (.lst ((B.map fun x => V.ref x.b) ++ [.ref x.b]))) := Kept.put W.bxa
  have ext : ∀ z, BoxOk K sch τ ρ H z → BoxOk K sch τ ρ (upd H bx (.lst ((B.map fun x => V.ref x.b) ++ [.ref x.b]))) z := fun z hz => hz.kept k (tne hz.tb W.tbx (by decide)) (tne hz.tl W.tbx (by decide))
  refine ⟨W.pool.put (tne W.tpl W.tbx (by decide)), W.rpl, W.tpl, by rw [upd_same]; simp, W.rbx, W.tbx, (k.ot _ _ W.tla W.rtl (tne W.ttl W.tbx (by decide))).1, W.rtl, W.ttl, fun z hz => ?_, fun y hy => (W.to y hy).kept k (tne (W.to y hy).tp W.tbx (by decide)) W.bxa, ?_, k.hds W.hh⟩
  · rcases List.mem_append.mp hz with h | h
    · exact ext z (W.bo z h)
    · rw [List.mem_singleton.mp h]; exact ext x hx
  · rw [List.map_append]
    exact List.nodup_append.mpr ⟨W.ndb, (by simp), fun a ha b hb e => hn (by have hb2 : b = x.b := List.mem_singleton.mp hb; rw [← hb2, ← e]; exact ha)⟩
/-- one more told -/
theorem LawW.addTold (W : LawW K sch hd pl bx tl τ ρ H B F) {y : ToldR} (hy : ToldOk K sch hd τ ρ H y) : LawW K sch hd pl bx tl τ ρ (upd H tl (.lst ((F.map fun x => V.ref x.p) ++ [.ref y.p]))) B (F ++ [y]) := by
  have k : Kept tl ρ H ρ (upd H tl (.lst ((F.map fun x => V.ref x.p) ++ [.ref y.p]))) := Kept.put W.tla
  have ext : ∀ z, ToldOk K sch hd τ ρ H z → ToldOk K sch hd τ ρ (upd H tl (.lst ((F.map fun x => V.ref x.p) ++ [.ref y.p]))) z := fun z hz => hz.kept k (tne hz.tp W.ttl (by decide)) W.tla
  refine ⟨W.pool.put (tne W.tpl W.ttl (by decide)), W.rpl, W.tpl, (k.ot _ _ W.bxa W.rbx (tne W.tbx W.ttl (by decide))).1, W.rbx, W.tbx, by rw [upd_same]; simp, W.rtl, W.ttl, fun z hz => (W.bo z hz).kept k (tne (W.bo z hz).tb W.ttl (by decide)) (tne (W.bo z hz).tl W.ttl (by decide)), fun z hz => ?_, W.ndb, k.hds W.hh⟩
  rcases List.mem_append.mp hz with h | h
  · exact ext z (W.to z h)
  · rw [List.mem_singleton.mp h]; exact ext y hy
/-- one box less -/
theorem LawW.pop (W : LawW K sch hd pl bx tl τ ρ H B F) (i : Nat) : LawW K sch hd pl bx tl τ ρ (upd H bx (.lst ((B.map fun x => V.ref x.b).eraseIdx i))) (B.eraseIdx i) F := by
  have k : Kept bx ρ H ρ (upd H bx (.lst ((B.map fun x => V.ref x.b).eraseIdx i))) := Kept.put W.bxa
  refine ⟨W.pool.put (tne W.tpl W.tbx (by decide)), W.rpl, W.tpl, by rw [upd_same, map_erase], W.rbx, W.tbx, (k.ot _ _ W.tla W.rtl (tne W.ttl W.tbx (by decide))).1, W.rtl, W.ttl, fun z hz => ?_, fun y hy => (W.to y hy).kept k (tne (W.to y hy).tp W.tbx (by decide)) W.bxa, ?_, k.hds W.hh⟩
  · have hz := W.bo z (List.mem_of_mem_eraseIdx hz)
    exact hz.kept k (tne hz.tb W.tbx (by decide)) (tne hz.tl W.tbx (by decide))
  · rw [map_erase]
    exact W.ndb.sublist (List.eraseIdx_sublist _ _)
/-- other lines in a box -/
theorem LawW.setBox (W : LawW K sch hd pl bx tl τ ρ H B F) {i : Nat} {x : BoxR} (hi : B[i]? = some x) {l : Addr} {ts : List Addr} {rows : List (List V)} (hl : Lines K H l ts rows) (rl : ρ l = .oth) (tl' : τ l = 5) (rv : ∀ r ∈ rows, RowV sch r) :
    LawW K sch hd pl bx tl τ ρ (upd H x.b (.lst [.ref x.s, .ref l])) (B.set i { x with l := l, ts := ts, rows := rows }) F := by
  have hx := W.bo x (List.mem_of_getElem? hi)
  have k : Kept x.b ρ H ρ (upd H x.b (.lst [.ref x.s, .ref l])) := Kept.put hx.at_
  have em : ∀ {α : Type} (f : BoxR → α), f { x with l := l, ts := ts, rows := rows } = f x → (B.set i { x with l := l, ts := ts, rows := rows }).map f = B.map f := fun {α} f e => by
    rw [List.map_set, e]
    obtain ⟨h1, h2⟩ := List.getElem?_eq_some_iff.mp hi
    have : (B.map f)[i]'(by simpa using h1) = f x := by rw [List.getElem_map, h2]
    rw [← this, List.set_getElem_self]
  refine ⟨W.pool.put (tne W.tpl hx.tb (by decide)), W.rpl, W.tpl, ?_, W.rbx, W.tbx, (k.ot _ _ W.tla W.rtl (tne W.ttl hx.tb (by decide))).1, W.rtl, W.ttl, fun z hz => ?_, fun y hy => (W.to y hy).kept k (tne (W.to y hy).tp hx.tb (by decide)) hx.at_, ?_, k.hds W.hh⟩
  · rw [em (fun x => V.ref x.b) rfl]
    exact (k.ot _ _ W.bxa W.rbx (tne W.tbx hx.tb (by decide))).1
  · obtain ⟨j, hj⟩ := List.mem_iff_getElem?.mp hz
    by_cases e : j = i
    · subst e
      rw [List.getElem?_set_self (List.getElem?_eq_some_iff.mp hi).1] at hj
      cases hj
      have h5 := k.lines hl rl (tne tl' hx.tb (by decide))
      exact ⟨upd_same, hx.rb, hx.tb, h5.1, h5.2, tl', rv⟩
    · rw [List.getElem?_set_ne (fun q => e q.symm)] at hj
      have hz' := W.bo z (List.mem_of_getElem? hj)
      refine hz'.kept k (fun q => e ?_) (tne hz'.tl hx.tb (by decide))
      exact nd_ix W.ndb (show (B.map (·.b))[j]? = some x.b by rw [List.getElem?_map, hj, ← q]; rfl) (show (B.map (·.b))[i]? = some x.b by rw [List.getElem?_map, hi]; rfl)
  · rw [em (·.b) rfl]; exact W.ndb
end LF
set_option Elab.async false
set_option linter.all false
set_option maxRecDepth 100000
set_option maxHeartbeats 4000000
/-! The state between steps. -/
namespace LF
open PySem PySem.Spec PyProof.Rows L2
structure StateW (K : PySem.W.Frag) (sch : Sch) (hd pl bx tl : Addr) (τ : Addr → Nat) (ρ : Addr → Ro) (H : Hp) (a : AS) (N : Nat) (TS : TSt) (B : List BoxR) (F : List ToldR) : Prop where
  W : LawW K sch hd pl bx tl τ ρ H B F
  R : RepK K sch.length hd ρ H a
  Tk : Tok sch.length N a TS
  ho : ∀ x ∈ B, Holds sch.length TS x.s x.rows ∧ x.rows.length ≤ N
  nds : (B.map (·.s)).Nodup
  fl : F.length ≤ N
variable {K : PySem.W.Frag} {sch : Sch} {hd pl bx tl : Addr} {τ : Addr → Nat} {ρ ρ' : Addr → Ro} {H H' : Hp} {a a' : AS} {N : Nat} {TS : TSt} {B : List BoxR} {F : List ToldR}
theorem StateW.pool (S : StateW K sch hd pl bx tl τ ρ H a N TS B F) (sx : SameX pl H H') (hp : PoolAt H' pl) : StateW K sch hd pl bx tl τ ρ H' a N TS B F :=
  ⟨S.W.step (Step.pool S.W.pool hp sx) hp, S.R.pool S.W.rpl hp sx, S.Tk, S.ho, S.nds, S.fl⟩
theorem Holds.upd {m : Nat} {s y : Addr} {rows : List (List V)} {v : Option ((Nat → List V) × Nat)} (h : Holds m TS s rows) (n : s ≠ y) : Holds m (updT TS y v) s rows := by
  obtain ⟨D, h1, h2⟩ := h
  exact ⟨D, by rw [updT_ne n]; exact h1, h2⟩
theorem StateW.shs (S : StateW K sch hd pl bx tl τ ρ H a N TS B F) {x : BoxR} (hx : x ∈ B) : ∃ y D, a.sh x.s = some y ∧ TS x.s = some (D, x.rows.length) ∧ (∀ j, j < sch.length → D j = colOf j x.rows) ∧ y.tot = x.rows.length ∧ Sok sch.length N a x.s y D := by
  obtain ⟨D, h1, h2⟩ := (S.ho x hx).1
  obtain ⟨y, g1, g2, g3⟩ := S.Tk _ _ _ h1
  exact ⟨y, D, g1, h1, h2, g2, g3⟩
theorem StateW.new_ne (S : StateW K sch hd pl bx tl τ ρ H a N TS B F) {x : BoxR} (hx : x ∈ B) {y : Addr} (hy : a.sh y = none) : x.s ≠ y := by
  obtain ⟨z, _, h, _⟩ := S.shs hx
  intro e
  rw [e, hy] at h
  cases h
/-- the sheets, one more -/
theorem StateW.ho_add (S : StateW K sch hd pl bx tl τ ρ H a N TS B F) {y b l : Addr} {ts : List Addr} {rows : List (List V)} {D : Nat → List V} (hy : a.sh y = none) (hD : ∀ j, j < sch.length → D j = colOf j rows) (hr : rows.length ≤ N + 1) :
    (∀ x ∈ B ++ [(⟨b, y, l, ts, rows⟩ : BoxR)], Holds sch.length (updT TS y (some (D, rows.length))) x.s x.rows ∧ x.rows.length ≤ N + 1) ∧ ((B ++ [(⟨b, y, l, ts, rows⟩ : BoxR)]).map (·.s)).Nodup := by
  refine ⟨fun x hx => ?_, ?_⟩
  · rcases List.mem_append.mp hx with h | h
    · exact ⟨(S.ho x h).1.upd (S.new_ne h hy), Nat.le_succ_of_le (S.ho x h).2⟩
    · rw [List.mem_singleton.mp h]
      exact ⟨⟨D, updT_same, hD⟩, hr⟩
  · rw [List.map_append]
    refine List.nodup_append.mpr ⟨S.nds, (by simp), fun p hp q hq e => ?_⟩
    have hq2 : q = y := List.mem_singleton.mp hq
    obtain ⟨x, hx, rfl⟩ := List.mem_map.mp hp
    exact S.new_ne hx hy (e.trans hq2)
/-- what is neither the world's nor the law's own stays -/
def Out (τ : Addr → Nat) (ρ : Addr → Ro) (H : Hp) (τ' : Addr → Nat) (ρ' : Addr → Ro) (H' : Hp) : Prop := ∀ b o, H b = some o → ρ b = .oth → τ b = 0 → H' b = some o ∧ ρ' b = .oth ∧ τ' b = 0
theorem Out.refl : Out τ ρ H τ ρ H := fun _ _ e r t => ⟨e, r, t⟩
theorem Out.trans {τ1 τ2 : Addr → Nat} {ρ1 ρ2 : Addr → Ro} {H1 H2 : Hp} (h : Out τ ρ H τ1 ρ1 H1) (g : Out τ1 ρ1 H1 τ2 ρ2 H2) : Out τ ρ H τ2 ρ2 H2 := fun b o e r t => by
  obtain ⟨a1, a2, a3⟩ := h b o e r t
  exact g b o a1 a2 a3
theorem Out.same (s : Same H H') : Out τ ρ H τ ρ H' := fun b o e r t => ⟨s b o e, r, t⟩
theorem Out.step (st : Step (fun q => q = pl) ρ H ρ' H') (tp : τ pl = 1) : Out τ ρ H τ ρ' H' := fun b o e r t => ⟨st.ot b o e r (fun z => by rw [z, tp] at t; cases t), (st.ro b o e).trans r, t⟩
theorem Out.put {c : Addr} {o : HO} {i : Nat} (tp : τ c = i) (hi : i ≠ 0) : Out τ ρ H τ ρ (upd H c o) := fun b u e r t => ⟨by rw [upd_ne (fun z => hi (by rw [← tp, ← z, t]))]; exact e, r, t⟩
theorem Out.retag {τ' : Addr → Nat} (h : ∀ q, H q ≠ none → τ' q = τ q) : Out τ ρ H τ' ρ H := fun b o e r t => ⟨e, r, (h b (by rw [e]; exact fun z => by cases z)).trans t⟩
/-- [sheet, list(lines)] at the end of the boxes -/
theorem LawW.newBox (W : LawW K sch hd pl bx tl τ ρ H B F) (fr : ∀ p, H p = none → ρ p = .oth) {l l' b s : Addr} {ts : List Addr} {rows : List (List V)} (hl : Lines K H l ts rows) (l0 : H l' = none) (b0 : upd H l' (.lst (ts.map V.ref)) b = none) (rv : ∀ r ∈ rows, RowV sch r) :
    ∃ τ', LawW K sch hd pl bx tl τ' ρ (upd (upd (upd H l' (.lst (ts.map V.ref))) b (.lst [.ref s, .ref l'])) bx (.lst ((B.map fun x => V.ref x.b) ++ [.ref b]))) (B ++ [⟨b, s, l', ts, rows⟩]) F ∧
      Out τ ρ H τ' ρ (upd (upd (upd H l' (.lst (ts.map V.ref))) b (.lst [.ref s, .ref l'])) bx (.lst ((B.map fun x => V.ref x.b) ++ [.ref b]))) := by
  have s1 : Same H (upd H l' (.lst (ts.map V.ref))) := same_upd l0
  have s2 : Same (upd H l' (.lst (ts.map V.ref))) (upd (upd H l' (.lst (ts.map V.ref))) b (.lst [.ref s, .ref l'])) := same_upd b0
  have b00 : H b = none := s1.free b0
  have hlb : b ≠ l' := fun z => by rw [z, upd_same] at b0; cases b0
  have hre : ∀ q, H q ≠ none → (fun q => if q = l' then 5 else if q = b then 4 else τ q) q = τ q := fun q hq => by
    show (if q = l' then 5 else if q = b then 4 else τ q) = τ q
    rw [if_neg (fun z => hq (by rw [z]; exact l0)), if_neg (fun z => hq (by rw [z]; exact b00))]
  have W1 := W.retag hre
  have W2 := W1.step (H' := upd (upd H l' (.lst (ts.map V.ref))) b (.lst [.ref s, .ref l'])) (Step.same (s1.trans s2)) (W.pool.same (s1.trans s2))
  refine ⟨_, W2.addBox (x := ⟨b, s, l', ts, rows⟩) ⟨upd_same, fr b b00, ?_, ⟨s2 _ _ upd_same, hl.len, fun k t r z zr => same_sqT (s1.trans s2) (hl.ro k t r z zr)⟩, fr l' l0, if_pos rfl, rv⟩ fun h => ?_, ((Out.retag hre).trans (Out.same (s1.trans s2))).trans (Out.put W2.tbx (by decide))⟩
  · show (if b = l' then 5 else if b = b then 4 else τ b) = 4
    rw [if_neg hlb, if_pos rfl]
  · obtain ⟨x, hx, e⟩ := List.mem_map.mp h
    have := (W.bo x hx).at_
    rw [show x.b = b from e, b00] at this
    cases this
/-- [frame, tuple(lines)] at the end of the told -/
theorem LawW.newTold (W : LawW K sch hd pl bx tl τ ρ H B F) (fr : ∀ p, H p = none → ρ p = .oth) {l f L Lf p : Addr} {ts : List Addr} {rows : List (List V)} (hl : Lines K H l ts rows) (hf : FrameAt K H f hd Lf) (rf : ρ f = .oth) (hL : RowsAt K H Lf rows) (l0 : H L = none) (p0 : upd H L (.tup (ts.map V.ref)) p = none)
    (rv : ∀ r ∈ rows, RowV sch r) (hle : rows.length ≤ 900) :
    ∃ τ', LawW K sch hd pl bx tl τ' ρ (upd (upd (upd H L (.tup (ts.map V.ref))) p (.lst [.ref f, .ref L])) tl (.lst ((F.map fun x => V.ref x.p) ++ [.ref p]))) B (F ++ [⟨p, f, L, Lf, rows⟩]) ∧
      Out τ ρ H τ' ρ (upd (upd (upd H L (.tup (ts.map V.ref))) p (.lst [.ref f, .ref L])) tl (.lst ((F.map fun x => V.ref x.p) ++ [.ref p]))) := by
  have s1 : Same H (upd H L (.tup (ts.map V.ref))) := same_upd l0
  have s2 : Same (upd H L (.tup (ts.map V.ref))) (upd (upd H L (.tup (ts.map V.ref))) p (.lst [.ref f, .ref L])) := same_upd p0
  have p00 : H p = none := s1.free p0
  have hre : ∀ q, H q ≠ none → (fun q => if q = p then 6 else τ q) q = τ q := fun q hq => by
    show (if q = p then 6 else τ q) = τ q
    rw [if_neg (fun z => hq (by rw [z]; exact p00))]
  have W1 := W.retag hre
  have W2 := W1.step (H' := upd (upd H L (.tup (ts.map V.ref))) p (.lst [.ref f, .ref L])) (Step.same (s1.trans s2)) (W.pool.same (s1.trans s2))
  exact ⟨_, W2.addTold (y := ⟨p, f, L, Lf, rows⟩) ⟨upd_same, fr p p00, if_pos rfl, hf.same (s1.trans s2), rf, hL.same (s1.trans s2), (hl.same (s1.trans s2)).rows (SqT.of (s2 _ _ upd_same)), rv, hle⟩, ((Out.retag hre).trans (Out.same (s1.trans s2))).trans (Out.put W2.ttl (by decide))⟩
theorem Rep.oth {m : Nat} (R : RepK K m hd ρ H a) {c : Addr} {ys zs : List V} (hr : ρ c = .oth) (h : H c = some (.lst ys)) : RepK K m hd ρ (upd H c (.lst zs)) a :=
  Rep.sameX R hr (by rw [upd_same]; exact fun z => by cases z) SameX.put
end LF
set_option Elab.async false
set_option linter.all false
namespace LF
open PySem PySem.Spec PyProof.Rows L2
theorem if_read {t u : TT} {A B : TS} {D : Ends} {σ : L2.St} {H : Hp} (p : Prop) (ht : ∀ Q : Bool → Hp → Prop, (∀ b, (b = true → p) → Q b H) → tAnd t u σ H Q) (hA : p → A D σ H) (hB : B D σ H) : tIfS (tAnd t u) A B D σ H :=
  ht _ fun b hb => by
    cases b with
    | true => exact hA (hb rfl)
    | false => exact hB
theorem if_readS {t u : TT} {A B C : TS} {D : Ends} {σ : L2.St} {H : Hp} (p : Prop) (ht : ∀ Q : Bool → Hp → Prop, (∀ b, (b = true → p) → Q b H) → tAnd t u σ H Q) (hA : p → A { D with nx := C D } σ H) (hB : B { D with nx := C D } σ H) : tSeq (tIfS (tAnd t u) A B) C D σ H := if_read p ht hA hB
theorem and_read {c : Bool} {A B : Prop} (h1 : c = true → A) (h0 : B) : if c = true then A else B := by
  cases c with
  | true => exact h1 rfl
  | false => exact h0
end LF
set_option Elab.async false
set_option linter.all false
set_option maxRecDepth 100000
set_option maxHeartbeats 4000000
/-! One step of the law. -/
namespace LF
open PySem PySem.Spec PyProof.Rows L2
variable {P : Program} {w : World} {K : PySem.W.Frag} {mg : Str → Option Value} {base : Heap}
abbrev nmStep : List Str := ["_law_pool_here", "_law_boxes", "_law_heads_here", "_law_told", "_law_at", "_law_way", "_law_box", "_law_lines_here", "_law_fresh", "_law_deed"]
theorem sc_step : FnScope nmStep ["_law_pool_here", "_law_boxes", "_law_heads_here", "_law_told"] (defScope (top 68)) := ⟨rfl, rfl, rfl, by decide +kernel, rfl, by decide +kernel, by decide +kernel⟩
def spStep (K : PySem.W.Frag) : Sp := fun vs H Q _ => ∃ (pl bx hd tl : Addr) (sch : Sch) (τ : Addr → Nat) (ρ : Addr → Ro) (a : AS) (N : Nat) (TS : TSt) (B : List BoxR) (F : List ToldR), vs = [.ref pl, .ref bx, .ref hd, .ref tl] ∧
  StateW K sch hd pl bx tl τ ρ H a N TS B F ∧ SchOk sch ∧ B ≠ [] ∧ B.length ≤ 8 ∧ 1 ≤ N ∧ N ≤ 890 ∧
  ∀ τ' ρ' a' H' TS' B' F', StateW K sch hd pl bx tl τ' ρ' H' a' (N + 1) TS' B' F' → B' ≠ [] → B'.length ≤ 8 → Out τ ρ H τ' ρ' H' → Q (.bl true) H'
theorem ok_step (T : TX P K mg) : Ok P w K mg base 11 (ga K "_law_step") ["_law_pool_here", "_law_boxes", "_law_heads_here", "_law_told"] (spStep K) := by
  obtain ⟨fd, F0⟩ := T.f__law_step
  have O1 : Ok P w K mg base 1 (ga K "_law_draw") ["_law_pool_here", "_law_many"] spDraw := ok_draw T
  have O2 : Ok P w K mg base 10 (ma K "Sheet" "twin") ["self"] (spTwin K) := ok_twin T
  have O3 : Ok P w K mg base 2 (ma K "Sheet" "close") ["self"] (spClose K) := ok_close T
  have O4 : Ok P w K mg base 8 (ma K "Sheet" "to_frame") ["self"] (spTo K) := ok_to T
  have O5 : Ok P w K mg base 9 (ga K "_law_kind_of") ["_law_pool_here", "_law_passed", "_law_size_here"] (spKind K) := ok_kind T
  have O6 : Ok P w K mg base 2 (ga K "_law_size") ["_law_pool_here"] spSize := ok_size T
  have O7 : Ok P w K mg base 1 (ma K "Sheet" "shared") ["self", "other"] (spShared K) := ok_shared T
  have O8 : Ok P w K mg base 3 (ga K "_law_drawn_write") ["_law_pool_here", "_law_page", "_law_heads_here"] (spDW K) := ok_dw T
  have O9 : Ok P w K mg base 7 (ga K "_law_write") ["_law_box", "_law_lines_here", "_law_heads_here", "_law_deed"] (spWrite K) := ok_write T
  refine ⟨fd, F0.ok sc_step (fun vs H Q E h => by obtain ⟨_, _, _, _, _, _, _, _, _, _, _, _, rfl, _⟩ := h; rfl) (fun cdv A outer s0 H vs Q E hr h => ?_), F0.binds fun _ _ _ _ _ _ us hl => match us, hl with | [_, _, _, _], _ => rfl⟩
  obtain ⟨pl, bx, hd, tl, sch, τ, ρ, a, N, TS, B, F, rfl, S0, hs, hB, hB8, hN1, hN, hQ⟩ := h
  refine ⟨_, pss_cons (ps_par (i := 4) (j := 5) (by rfl) sc_step.nd rfl rfl (by decide) rfl rfl (pa_cons (pe_callO O1 T.f__law_draw.kp hr (by rfl) T.g__law_draw (pa_cons (pv 0) (pa_cons (pe_callB call_len (by rfl) T.b_len boot_len (pa_cons (pv 1) pa_nil)) pa_nil)))
        (pa_cons (pe_callO O1 T.f__law_draw.kp hr (by rfl) T.g__law_draw (pa_cons (pv 0) (pa_cons pe_int pa_nil))) pa_nil)) (by rfl))
    (pss_cons (ps_asg (pe_ix ix_list (pv 1) (pv 4) (fun _ _ => rfl)) (pg_unl (n := 2) (by rfl) (pgs_cons (pg_name (i := 6) sc_step.nd rfl (Or.inl rfl)) (pgs_cons (pg_name (i := 7) sc_step.nd rfl (Or.inl rfl)) pgs_nil))))
    (pss_cons (ps_if (PW.pt (pw_and (pt_cmpR op_eq (pv 5) pe_int (nomark _)) (pw_and1 (pt_cmpR op_lt (pe_callB call_len (by rfl) T.b_len boot_len (pa_cons (pv 1) pa_nil)) pe_int (nomark _)))))
        (pss_one (ps_expr (pe_bm PySem.F.plainAttrs_list PySem.F.slot_list_append PySem.F.type_list_append mt_append (pv 1) (pa_cons (pe_lst (pa_cons (pe_mS0 O2 (pv 6) T.c_sheet T.m_twin hr) (pa_cons (pe_callTy call_list_of (by rfl) T.b_list boot_list (pa_cons (pv 7) pa_nil)) pa_nil))) pa_nil))))
      (pss_one (ps_if (PW.pt (pw_and (pt_cmpR op_eq (pv 5) pe_int (nomark _)) (pw_and1 (pt_cmpR op_gt (pe_callB call_len (by rfl) T.b_len boot_len (pa_cons (pv 1) pa_nil)) pe_int (nomark _)))))
          (pss_cons (ps_expr (pe_mS0 O3 (pv 6) T.c_sheet T.m_close hr)) (pss_one (ps_expr (pe_bm PySem.F.plainAttrs_list PySem.F.slot_list_pop PySem.F.type_list_pop mt_popAt (pv 1) (pa_cons (pv 4) pa_nil)))))
        (pss_one (ps_if (PW.pt (pw_and (pt_cmpR op_eq (pv 5) pe_int (nomark _)) (pw_and1 (pt_cmpR op_lt (pe_callB call_len (by rfl) T.b_len boot_len (pa_cons (pv 1) pa_nil)) pe_int (nomark _)))))
            (pss_cons (ps_set (i := 8) sc_step.nd rfl (.inl rfl) (pe_callO O5 T.f__law_kind_of.kp hr (by rfl) T.g__law_kind_of (pa_cons (pv 0) (pa_cons (pe_mS0 O4 (pv 6) T.c_sheet T.m_to_frame hr) (pa_cons (pe_callO O6 T.f__law_size.kp hr (by rfl) T.g__law_size (pa_cons (pv 0) pa_nil)) pa_nil)))))
            (pss_cons (ps_expr (pe_bm PySem.F.plainAttrs_list PySem.F.slot_list_append PySem.F.type_list_append mt_append (pv 3) (pa_cons (pe_lst (pa_cons (pe_mS0 O4 (pv 6) T.c_sheet T.m_to_frame hr) (pa_cons (pe_callTy call_tuple_of (by rfl) T.b_tuple boot_tuple (pa_cons (pv 7) pa_nil)) pa_nil))) pa_nil)))
            (pss_cons (ps_expr (pe_bm PySem.F.plainAttrs_list PySem.F.slot_list_append PySem.F.type_list_append mt_append (pv 1) (pa_cons (pe_lst (pa_cons (pv 8) (pa_cons (pe_callTy call_list_of (by rfl) T.b_list boot_list (pa_cons (pv 7) pa_nil)) pa_nil))) pa_nil)))
            (pss_one (ps_ret (pe_and (pe_cmpR op_eq (pe_mS O7 (pv 8) T.c_sheet T.m_shared hr (pa_cons (pv 6) pa_nil)) pe_int (nomark _)) (pe_one (pe_cmpR op_eq (pe_mS O7 (pv 6) T.c_sheet T.m_shared hr (pa_cons (pv 8) pa_nil)) pe_int (nomark _)))))))))
          (pss_cons (ps_set (i := 9) sc_step.nd rfl (.inl rfl) (pe_callO O8 T.f__law_drawn_write.kp hr (by rfl) T.g__law_drawn_write (pa_cons (pv 0) (pa_cons (pe_disp (pps_cons pe_str (pv 7) pps_nil) rfl rfl (by decide) (by decide)) (pa_cons (pv 2) pa_nil)))))
            (pss_one (ps_asg (pe_callO O9 T.f__law_write.kp hr (by rfl) T.g__law_write (pa_cons (pv 6) (pa_cons (pv 7) (pa_cons (pv 2) (pa_cons (pv 9) pa_nil))))) (pg_sub (pe_ix ix_list (pv 1) (pv 4) (fun _ _ => rfl)) pe_int set_list)))))))))
    (pss_one (ps_ret pe_bl)))), ?_⟩
  have hsl : sizeLine = 16777216 := sizeLine_eq
  have hBl : 0 < B.length := List.length_pos_iff.mpr hB
  refine ⟨_, rfl, _, rfl, _, _, rfl, .inl ⟨_, SqL.of S0.W.bxa, rfl⟩, pl, B.length, (by rw [List.length_map]; rfl), S0.W.pool, hBl, by omega, fun H1 d s1 hp1 hdl => ?_⟩
  have S1 := S0.pool s1 hp1
  refine ⟨_, rfl, pl, 9, rfl, hp1, by decide, by decide, fun H2 wy s2 hp2 hwy => ?_⟩
  have S2 := S1.pool s2 hp2
  obtain ⟨x, hx⟩ := lt_get hdl
  have hxm := List.mem_of_getElem? hx
  have bo := S2.W.bo x hxm
  refine ⟨_, _, rfl, _, rfl, _, rfl, bx, _, _, .ref x.b, rfl, rfl, SqL.of S2.W.bxa, atI_nat (j := d) (by rw [List.getElem?_map, hx]; rfl), x.b, _, rfl, SqL.of bo.at_, rfl, _, _, rfl, _, _, rfl, rfl, ?_⟩
  have O02 : Out τ ρ H τ ρ H2 := (Out.step (Step.pool S0.W.pool hp1 s1) S0.W.tpl).trans (Out.step (Step.pool hp1 hp2 s2) S0.W.tpl)
  clear S0 S1 s1 s2 hp1
  obtain ⟨y, D, ex, eTS, hD, etot, S⟩ := S2.shs hxm
  have RS := S2.R.sh _ _ ex
  have hrows := bo.rv
  have hro : ∀ r ∈ x.rows, RowOk sch r := fun r hr => (hrows r hr).1
  have hxN := (S2.ho x hxm).2
  have hlen := bo.li.len
  have lt8 : decide ((((B.map fun x => V.ref x.b).length : Nat) : Int) < 8) = true → B.length < 8 := fun z => by have := of_decide_eq_true z; rw [List.length_map] at this; omega
  have gt1 : decide ((1 : Int) < (((B.map fun x => V.ref x.b).length : Nat) : Int)) = true → 1 < B.length := fun z => by have := of_decide_eq_true z; rw [List.length_map] at this; omega
  dsimp only
  refine if_readS (B.length < 8) (fun Q' hb => ?_) (fun h8 => ?_) ?_
  · exact ⟨_, rfl, rfl, _, rfl, and_read (fun _ => ⟨_, rfl, _, _, rfl, .inl ⟨_, SqL.of S2.W.bxa, rfl⟩, _, _, rfl, rfl, _, rfl, hb _ lt8⟩) (hb false fun z => by cases z)⟩
  · -- twin
    refine ⟨_, rfl, .inl ⟨rfl, _, SqL.of S2.W.bxa⟩, _, rfl, y.kd, x.s, _, _, rfl, RS.at_, lm_twin, hd, sch, ρ, a, N, TS, x.s, D, _, rfl, S2.R, S2.Tk, eTS, S2.W.hh, hs, hN1, by omega, fun ρ1 a1 H3 z st R3 Tk3 z0 az => ?_⟩
    have W3 := S2.W.step st.none'X (st.pool' S2.W.rpl S2.W.pool)
    have bo3 := W3.bo x hxm
    refine ⟨_, rfl, x.l, _, rfl, .inl (SqL.of bo3.li.at_), fun l' hl' => ⟨by show (2 : Nat) ≤ sizeLine; omega, fun b hb => ?_⟩⟩
    obtain ⟨τ', W4, O4⟩ := W3.newBox R3.fr (s := z) bo3.li hl' hb hrows
    have s35 : Same H3 (upd (upd H3 l' (.lst (x.ts.map V.ref))) b (.lst [.ref z, .ref l'])) := (same_upd hl').trans (same_upd hb)
    have hbx := s35 _ _ W3.bxa
    refine ⟨bx, _, _, rfl, rfl, hbx, by rw [List.length_map]; omega, ?_⟩
    obtain ⟨ho', nds'⟩ := S2.ho_add (b := b) (l := l') (ts := x.ts) (rows := x.rows) az hD (by omega)
    exact hQ τ' ρ1 a1 _ _ _ F ⟨W4, (R3.same s35).oth W3.rbx hbx, Tk3, ho', nds', Nat.le_succ_of_le S2.fl⟩ (by simp) (by simp; omega) ((O02.trans (Out.step st.none'X S2.W.tpl)).trans O4)
  · refine if_read (1 < B.length) (fun Q' hb => ?_) (fun h1 => ?_) ?_
    · exact ⟨_, rfl, rfl, _, rfl, and_read (fun _ => ⟨_, rfl, _, _, rfl, .inl ⟨_, SqL.of S2.W.bxa, rfl⟩, _, _, rfl, rfl, _, rfl, hb _ gt1⟩) (hb false fun z => by cases z)⟩
    · -- close
      refine ⟨_, rfl, y.kd, x.s, _, _, rfl, RS.at_, lm_close, sch.length, hd, ρ, a, N, TS, x.s, y, rfl, S2.R, S2.Tk, ex, S.op, fun a1 H3 st R3 Tk3 => ?_⟩
      have W3 := S2.W.step st.none'X (st.pool' S2.W.rpl S2.W.pool)
      refine ⟨_, rfl, .inl ⟨rfl, _, SqL.of W3.bxa⟩, _, rfl, bx, _, _, d, .ref x.b, rfl, rfl, W3.bxa, by omega, by omega, ?_, by rw [List.getElem?_map, hx]; rfl, ?_⟩
      · have := seqIndex_of (k := (d : Nat)) (n := (B.map fun x => V.ref x.b).length) (by omega) (by rw [List.length_map]; omega)
        rw [this]; rfl
      refine hQ τ ρ a1 _ _ (B.eraseIdx d) F ⟨W3.pop d, R3.oth W3.rbx W3.bxa, Tk3.mono (Nat.le_succ _), fun u hu => ?_, ?_, Nat.le_succ_of_le S2.fl⟩ ?_ ?_ ((O02.trans (Out.step st.none'X S2.W.tpl)).trans (Out.put W3.tbx (by decide)))
      · obtain ⟨j, hj, hu⟩ := List.mem_eraseIdx_iff_getElem?.mp hu
        have hum := List.mem_of_getElem? hu
        refine ⟨(S2.ho u hum).1.upd fun e => hj ?_, Nat.le_succ_of_le (S2.ho u hum).2⟩
        exact nd_ix S2.nds (show (B.map (·.s))[j]? = some x.s by rw [List.getElem?_map, hu, ← e]; rfl) (show (B.map (·.s))[d]? = some x.s by rw [List.getElem?_map, hx]; rfl)
      · rw [map_erase]
        exact S2.nds.sublist (List.eraseIdx_sublist _ _)
      · intro z
        have := List.length_eraseIdx_of_lt (l := B) hdl
        rw [z] at this
        simp at this
        omega
      · rw [List.length_eraseIdx_of_lt hdl]; omega
    · refine if_read (B.length < 8) (fun Q' hb => ?_) (fun h8 => ?_) ?_
      · exact ⟨_, rfl, rfl, _, rfl, and_read (fun _ => ⟨_, rfl, _, _, rfl, .inl ⟨_, SqL.of S2.W.bxa, rfl⟩, _, _, rfl, rfl, _, rfl, hb _ lt8⟩) (hb false fun z => by cases z)⟩
      · -- another sheet of its frame
        have rpl := S2.W.rpl
        refine ⟨_, rfl, _, rfl, y.kd, x.s, _, _, rfl, RS.at_, lm_to_frame, hd, sch, ρ, a, N, TS, x.s, y, D, _, x.rows, rfl, S2.R, S2.Tk, eTS, ex, S2.W.hh, hs, hD, rfl, hro, by omega, fun H3 f Lf s3 f0 hf hLf => ?_⟩
        have S3 := S2.pool (SameX.same s3) (hp2.same s3)
        refine ⟨_, rfl, pl, rfl, S3.W.pool, fun H4 bs s4 hp4 hb1 hb2 => ?_⟩
        have S4 := S3.pool s4 hp4
        refine ⟨pl, f, hd, Lf, bs, sch, ρ, a, N, TS, x.rows, rfl, hp4, rpl, S4.R, S4.Tk, hf.pool S3.W.pool s4, S2.R.fr f f0, S4.W.hh, hs, rows_pool S3.W.pool s4 hLf, hro, hxN, hN1, by omega, hb1, hb2, fun ρ5 a5 H5 z st5 hp5 R5 Tk5 z0 az ap => ?_⟩
        have W5 := S4.W.step st5 hp5
        have nz := S4.new_ne hxm az
        have e5 : updT TS z (some (fun j => colOf j x.rows, x.rows.length)) x.s = some (D, x.rows.length) := by rw [updT_ne nz]; exact eTS
        obtain ⟨y5, ey5, _, S5⟩ := Tk5 _ _ _ e5
        obtain ⟨yz, eyz, _, Sz⟩ := Tk5 _ _ _ (updT_same (TS := TS) (s := z) (v := some (fun j => colOf j x.rows, x.rows.length)))
        have RS5 := R5.sh _ _ ey5
        refine ⟨_, rfl, .inl ⟨rfl, _, SqL.of W5.tla⟩, _, rfl, y5.kd, x.s, _, _, rfl, RS5.at_, lm_to_frame, hd, sch, ρ5, a5, N, _, x.s, y5, D, _, x.rows, rfl, R5, Tk5, e5, ey5, W5.hh, hs, hD, rfl, hro, by omega, fun H6 f6 L6 s6 f60 hf6 hL6 => ?_⟩
        have W6 := W5.step (Step.same s6) (hp5.same s6)
        have R6 := R5.same s6
        have bo6 := W6.bo x hxm
        refine ⟨_, rfl, x.l, _, rfl, .inl ⟨SqL.of bo6.li.at_, fun L7 hL7 => ⟨by show (2 : Nat) ≤ sizeLine; omega, fun p hp => ?_⟩⟩⟩
        obtain ⟨τ7, W7, O7'⟩ := W6.newTold R6.fr bo6.li hf6 (R5.fr f6 f60) hL6 hL7 hp hrows (by omega)
        have s67 : Same H6 (upd (upd H6 L7 (.tup (x.ts.map V.ref))) p (.lst [.ref f6, .ref L7])) := (same_upd hL7).trans (same_upd hp)
        have htl := s67 _ _ W6.tla
        have fl2 := S2.fl
        refine ⟨tl, _, _, rfl, rfl, htl, by rw [List.length_map]; omega, ?_⟩
        have R7 := (R6.same s67).oth (zs := (F.map fun x => V.ref x.p) ++ [.ref p]) W6.rtl htl
        have bo7 := W7.bo x hxm
        generalize upd (upd (upd H6 L7 (.tup (x.ts.map V.ref))) p (.lst [.ref f6, .ref L7])) tl (.lst ((F.map fun x => V.ref x.p) ++ [.ref p])) = H7 at W7 R7 bo7 O7' ⊢
        refine ⟨_, rfl, .inl ⟨rfl, _, SqL.of W7.bxa⟩, _, rfl, _, rfl, x.l, _, rfl, .inl (SqL.of bo7.li.at_), fun l' hl' => ⟨by show (2 : Nat) ≤ sizeLine; omega, fun b hb => ?_⟩⟩
        obtain ⟨τ8, W8, O8'⟩ := W7.newBox R7.fr (s := z) bo7.li hl' hb hrows
        have s78 : Same H7 (upd (upd H7 l' (.lst (x.ts.map V.ref))) b (.lst [.ref z, .ref l'])) := (same_upd hl').trans (same_upd hb)
        have hbx := s78 _ _ W7.bxa
        refine ⟨bx, _, _, rfl, rfl, hbx, by rw [List.length_map]; omega, ?_⟩
        have R8 := (R7.same s78).oth (zs := (B.map fun x => V.ref x.b) ++ [.ref b]) W7.rbx hbx
        generalize upd (upd (upd H7 l' (.lst (x.ts.map V.ref))) b (.lst [.ref z, .ref l'])) bx (.lst ((B.map fun x => V.ref x.b) ++ [.ref b])) = H8 at W8 R8 O8' ⊢
        obtain ⟨ap1, ap2⟩ := ap x.s D _ eTS
        have hm4 := hs.le
        refine ⟨_, rfl, yz.kd, z, _, _, rfl, (R8.sh _ _ eyz).at_, lm_shared, _, rfl, sch.length, hd, ρ5, a5, N, z, x.s, yz, y5, _, rfl, R8, eyz, ey5, S5.op, Sz, ap2, by omega, hm4, fun H9 s9 => ⟨rfl, _, rfl, iteT ?_⟩⟩
        have R9 := R8.same s9
        refine ⟨_, rfl, y5.kd, x.s, _, _, rfl, (R9.sh _ _ ey5).at_, lm_shared, _, rfl, sch.length, hd, ρ5, a5, N, x.s, z, y5, yz, D, rfl, R9, ey5, eyz, Sz.op, S5, ap1, by omega, hm4, fun H10 s10 => ⟨rfl, ?_⟩⟩
        obtain ⟨ho', nds'⟩ := S2.ho_add (y := z) (b := b) (l := l') (ts := x.ts) (rows := x.rows) (D := fun j => colOf j x.rows) az (fun _ _ => rfl) (by omega)
        have s810 := s9.trans s10
        exact hQ τ8 ρ5 a5 H10 _ _ _ ⟨W8.step (Step.same s810) (W8.pool.same s810), R8.same s810, Tk5.mono (Nat.le_succ _), ho', nds', by simp; omega⟩ (by simp) (by simp; omega)
          ((((((O02.trans (Out.same s3)).trans (Out.step (Step.pool S3.W.pool hp4 s4) S2.W.tpl)).trans (Out.step st5 S2.W.tpl)).trans (Out.same s6)).trans O7').trans O8' |>.trans (Out.same s810))
      · -- a write
        refine ⟨_, rfl, fun pg hpg => ⟨_, rfl, upd_same, [(.inr "lines", .ref x.l)], rfl, (by show (1 : Nat) ≤ 15; omega), ?_⟩⟩
        have e0 : upd (upd H2 pg (.dK [])) pg (.dK (mergeK [] [(.inr "lines", .ref x.l)])) = upd H2 pg (.dK [(.inr "lines", .ref x.l)]) := upd_upd
        rw [e0]
        have s3 : Same H2 (upd H2 pg (.dK [(.inr "lines", .ref x.l)])) := same_upd hpg
        have h3g : (upd H2 pg (.dK [(.inr "lines", .ref x.l)])) pg = some (.dK [(.inr "lines", .ref x.l)]) := upd_same
        have S3 := S2.pool (SameX.same s3) (hp2.same s3)
        generalize upd H2 pg (.dK [(.inr "lines", .ref x.l)]) = H3 at s3 h3g S3 ⊢
        refine ⟨_, rfl, pl, pg, hd, x.l, x.ts, x.rows, sch, rfl, S3.W.pool, h3g, (S3.W.bo x hxm).li, S3.W.hh, hs, hrows, by omega, fun H4 p s4 hp4 deed => ?_⟩
        have S4 := S3.pool s4 hp4
        have bo4 := S4.W.bo x hxm
        refine ⟨_, rfl, _, rfl, _, rfl, _, rfl, x.s, x.l, hd, p, sch, ρ, a, N, TS, x.ts, x.rows, rfl, S4.R, S4.Tk, ⟨D, eTS, hD⟩, bo4.li, bo4.rl, S4.W.hh, hs, deed, hrows, hN1, by omega, by omega, fun ρ5 a5 H5 l' D' ts' rows' st R5 Tk5 hD' hl' l0 rl' hrv' hle => ?_⟩
        have hre : ∀ q, H4 q ≠ none → (fun q => if q = l' then 5 else τ q) q = τ q := fun q hq => if_neg fun z => hq (by rw [z]; exact l0)
        have W4 := S4.W.retag hre
        have W5 := W4.step st.none'X (st.pool' S4.W.rpl hp4)
        have bo5 := W5.bo x hxm
        refine ⟨_, rfl, _, rfl, bx, _, _, .ref x.b, rfl, rfl, SqL.of W5.bxa, atI_nat (j := d) (by rw [List.getElem?_map, hx]; rfl), x.b, _, 1, 1, rfl, rfl, bo5.at_, rfl, ?_⟩
        have W6 := W5.setBox hx hl' rl' (if_pos rfl) hrv'
        refine hQ _ ρ5 a5 _ _ (B.set d { x with l := l', ts := ts', rows := rows' }) F ⟨W6, R5.oth bo5.rb bo5.at_, Tk5, fun u hu => ?_, ?_, Nat.le_succ_of_le S2.fl⟩ ?_ ?_
          (((((O02.trans (Out.same s3)).trans (Out.step (Step.pool S3.W.pool hp4 s4) S2.W.tpl)).trans (Out.retag hre)).trans (Out.step st.none'X W4.tpl)).trans (Out.put bo5.tb (by decide)))
        · obtain ⟨j, hj⟩ := List.mem_iff_getElem?.mp hu
          by_cases e : j = d
          · subst e
            rw [List.getElem?_set_self hdl] at hj
            cases hj
            exact ⟨⟨D', updT_same, hD'⟩, (by show rows'.length ≤ N + 1; omega)⟩
          · rw [List.getElem?_set_ne (fun q => e q.symm)] at hj
            have hum := List.mem_of_getElem? hj
            refine ⟨(S2.ho u hum).1.upd fun q => e ?_, Nat.le_succ_of_le (S2.ho u hum).2⟩
            exact nd_ix S2.nds (show (B.map (·.s))[j]? = some x.s by rw [List.getElem?_map, hj, ← q]; rfl) (show (B.map (·.s))[d]? = some x.s by rw [List.getElem?_map, hx]; rfl)
        · have em : (B.set d { x with l := l', ts := ts', rows := rows' }).map (·.s) = B.map (·.s) := by
            rw [List.map_set]
            obtain ⟨h1, h2⟩ := List.getElem?_eq_some_iff.mp hx
            have : (B.map (·.s))[d]'(by simpa using h1) = x.s := by rw [List.getElem_map, h2]
            show (B.map (·.s)).set d x.s = _
            rw [← this, List.set_getElem_self]
          rw [em]; exact S2.nds
        · intro z
          have : (B.set d { x with l := l', ts := ts', rows := rows' }).length = B.length := List.length_set
          rw [z] at this
          simp at this
          omega
        · rw [List.length_set]; exact hB8
end LF
set_option Elab.async false
set_option linter.all false
set_option maxRecDepth 100000
set_option maxHeartbeats 4000000
/-! Heads as data. -/
namespace LF
open PySem PySem.Spec PyProof.Rows L2
abbrev headsD (sch : Sch) : List PyData := sch.map fun p => .tuple [.str p.1, .str p.2]
theorem heads_eqv (sch : Sch) : PyData.eqvAll (headsD sch) (headsD sch) = true := by
  induction sch with
  | nil => simp [PyData.eqvAll]
  | cons p r ih => simpa [PyData.eqvAll, PyData.eqv] using ih
theorem strOk_of {z : Str} (h : ∀ c ∈ z.cps.toList, c < 0x110000) : PyData.strOk z = true := by
  unfold PyData.strOk
  rw [Array.all_eq_true_iff_forall_mem]
  exact fun c hc => decide_eq_true (h c (Array.mem_toList_iff.mpr hc))
theorem name_ok {z : Str} (h : NameOk z) : PyData.strOk z = true :=
  strOk_of fun c hc => (by decide +kernel : ∀ c ∈ lettersZ.cps.toList, c < 0x110000) c (h.2.2 c hc)
theorem kind_ok {z : Str} (h : KindOk z) : PyData.strOk z = true := by
  rcases h with rfl | rfl | rfl <;> decide +kernel
theorem heads_data : ∀ (sch : Sch), (∀ p ∈ sch, NameOk p.1 ∧ KindOk p.2) → PyData.canLayAll0 (headsD sch) = true ∧ PyData.depthAll (headsD sch) ≤ 1
  | [], _ => by simp [PyData.canLayAll0, PyData.depthAll]
  | p :: r, h => by
    obtain ⟨h1, h2⟩ := heads_data r fun q hq => h q (List.mem_cons_of_mem _ hq)
    obtain ⟨k1, k2⟩ := h p List.mem_cons_self
    have h1' : PyData.canLayAll0 (List.map (fun p : Str × Str => PyData.tuple [.str p.1, .str p.2]) r) = true := h1
    have h2' : PyData.depthAll (List.map (fun p : Str × Str => PyData.tuple [.str p.1, .str p.2]) r) ≤ 1 := h2
    simp only [List.map_cons, PyData.canLayAll0, PyData.depthAll, PyData.canLay0, PyData.depth, h1', name_ok k1, kind_ok k2]
    refine ⟨rfl, by omega⟩
theorem heads_shaped {sch : Sch} (h : ∀ p ∈ sch, NameOk p.1 ∧ KindOk p.2) : SeqAt.shaped (.tuple (headsD sch)) = true := by
  obtain ⟨h1, h2⟩ := heads_data sch h
  unfold SeqAt.shaped
  simp only [PyData.canLay0, PyData.depth, h1, Bool.true_and]
  exact decide_eq_true (by omega)
theorem heads_dp {K : PySem.W.Frag} {H : Hp} : ∀ {as : List Addr} {sch : Sch}, as.length = sch.length → (∀ (i : Nat) (a : Addr) (p : Str × Str), as[i]? = some a → sch[i]? = some p → SqT K H a [.str p.1, .str p.2]) → DpAll K H (as.map V.ref) (headsD sch)
  | [], [], _, _ => .nil
  | [], _ :: _, h, _ => by simp at h
  | _ :: _, [], h, _ => by simp at h
  | a :: as, p :: sch, hl, h => .cons (.tup (h 0 a p rfl rfl) (.cons (.str _) (.cons (.str _) .nil))) (heads_dp (by simpa using hl) fun i b q x y => h (i + 1) b q x y)
theorem hd_dp {K : PySem.W.Frag} {H : Hp} {hd : Addr} {sch : Sch} (h : Hd K H hd sch) : Dp K H (.ref hd) (.tuple (headsD sch)) := by
  obtain ⟨as, h1, h2, h3⟩ := h
  exact .tup h1 (heads_dp h2 h3)
theorem rows_dp {K : PySem.W.Frag} {H : Hp} {L : Addr} {rows : List (List V)} (h : RowsAt K H L rows) (hv : ∀ r ∈ rows, ∀ v ∈ r, Val v) : Dp K H (.ref L) (.tuple (rowsD rows)) := by
  obtain ⟨rs, h1, h2, h3⟩ := h
  exact .tup h1 (dp_rows h2 h3 hv)
end LF
set_option Elab.async false
set_option linter.all false
set_option maxRecDepth 100000
set_option maxHeartbeats 4000000
/-! One run of the law over a pool. -/
namespace LF
open PySem PySem.Spec PyProof.Rows L2
variable {P : Program} {w : World} {K : PySem.W.Frag} {mg : Str → Option Value} {base : Heap}
abbrev nmRight : List Str := ["_law_pool_here", "_law_heads_here", "_law_lines_here", "_law_passed", "_law_boxes", "_law_told", "_law_turn", "_law_box", "_law_mine", "_law_one", "_law_some"]
theorem sc_right : FnScope nmRight ["_law_pool_here"] (defScope (top 69)) := ⟨rfl, rfl, rfl, by decide +kernel, rfl, by decide +kernel, by decide +kernel⟩
def spRight : Sp := fun vs H Q _ => ∃ (pl : Addr), vs = [.ref pl] ∧ PoolAt H pl ∧ ∀ H', SameX pl H H' → Q (.bl true) H'
theorem ok_right (T : TX P K mg) : ∃ fd, FnG P w K mg base CX0 12 (ga K "_law_right") fd ["_law_pool_here"] spRight ∧ Binds K fd ["_law_pool_here"] [] := by
  obtain ⟨fd, F0⟩ := T.f__law_right
  have O1 : Ok P w K mg base 4 (ga K "_law_small") ["_law_pool_here", "_law_most"] (spSmall K) := ok_small T
  have O2 : Ok P w K mg base 9 (ga K "_law_kind_of") ["_law_pool_here", "_law_passed", "_law_size_here"] (spKind K) := ok_kind T
  have O3 : Ok P w K mg base 2 (ga K "_law_size") ["_law_pool_here"] spSize := ok_size T
  have O4 : Ok P w K mg base 11 (ga K "_law_step") ["_law_pool_here", "_law_boxes", "_law_heads_here", "_law_told"] (spStep K) := ok_step T
  have O5 : Ok P w K mg base 8 (ma K "Sheet" "to_frame") ["self"] (spTo K) := ok_to T
  have O6 : Ok P w K mg base 1 (gtr K "Frame" "rows") ["self"] (spFRows K) := ok_frows T
  obtain ⟨fdL, GL, bL⟩ : Ok P w K mg base 1 (ma K "Sheet" "__len__") ["self"] (spSLen K) := ok_slen T
  obtain ⟨fdS, GS, bS⟩ : Ok P w K mg base 1 (gtr K "Sheet" "schema") ["self"] (spSSch K) := ok_ssch T
  obtain ⟨fdI, G, b3, _⟩ := ok_finit (w := w) (base := base) T
  refine ⟨fd, LF.Fun.okG F0 (k := 11) sc_right (fun vs H Q E h => by obtain ⟨_, rfl, _⟩ := h; rfl) (fun cdv A outer s0 H vs Q E hgd hr h => ?_), F0.binds fun _ _ _ _ _ _ us hl => match us, hl with | [_], _ => rfl⟩
  obtain ⟨pl, rfl, hp, hQ⟩ := h
  have hgd2 : (cxOf CX0 P w K mg base nmRight "_law_right" (defScope (top 69)) (ga K "_law_right") cdv A outer s0 H E).nox.A.guards = some [] := hgd
  refine ⟨_, pss_cons (ps_asg (pe_callO O1 T.f__law_small.kp hr (by rfl) T.g__law_small (pa_cons (pv 0) (pa_cons pe_int pa_nil))) (pg_unl (n := 2) (by rfl) (pgs_cons (pg_name (i := 1) sc_right.nd rfl (Or.inl rfl)) (pgs_cons (pg_name (i := 2) sc_right.nd rfl (Or.inl rfl)) pgs_nil))))
    (pss_cons (ps_set (i := 3) sc_right.nd rfl (.inl rfl) (pe_make T.mk_Frame G (hr.mono (by decide)) (by rfl) T.g_Frame b3 .nil pass0 (pa_cons (pv 1) (pa_cons (pv 2) pa_nil))))
    (pss_cons (ps_par (i := 4) (j := 5) (by rfl) sc_right.nd rfl rfl (by decide) rfl rfl
        (pa_cons (pe_lst (pa_cons (pe_lst (pa_cons (pe_callO O2 T.f__law_kind_of.kp hr (by rfl) T.g__law_kind_of (pa_cons (pv 0) (pa_cons (pv 3) (pa_cons (pe_callO O3 T.f__law_size.kp hr (by rfl) T.g__law_size (pa_cons (pv 0) pa_nil)) pa_nil))))
            (pa_cons (pe_callTy call_list_of (by rfl) T.b_list boot_list (pa_cons (pv 2) pa_nil)) pa_nil))) pa_nil))
          (pa_cons (pe_lst (pa_cons (pe_lst (pa_cons (pv 3) (pa_cons (pv 2) pa_nil))) pa_nil)) pa_nil)) (by rfl))
    (pss_cons (ps_for PassesOwn.never rfl (pi_range1 (by rfl) T.b_range (pa_cons pe_int pa_nil)) (pg_name (i := 6) sc_right.nd rfl (.inl rfl))
      (pss_cons (ps_if (pt_not (pt_val (pe_callO O4 T.f__law_step.kp hr (by rfl) T.g__law_step (pa_cons (pv 0) (pa_cons (pv 4) (pa_cons (pv 1) (pa_cons (pv 5) pa_nil))))))) (pss_one (ps_ret pe_bl)) pss_nil)
        (pss_one (ps_for PassesOwn.never rfl (pi_list (pv 4)) (pg_unl (n := 2) (by rfl) (pgs_cons (pg_name (i := 7) sc_right.nd rfl (Or.inl rfl)) (pgs_cons (pg_name (i := 8) sc_right.nd rfl (Or.inl rfl)) pgs_nil)))
          (pss_one (ps_if (PW.pt (pw_or (pt_cmpR op_ne (pe_callB (call_reprD hgd2 hr.units) (by rfl) T.b_repr boot_repr (pa_cons (pe_propO O6 (pe_mS0 O5 (pv 7) T.c_sheet T.m_to_frame hr) T.c_Frame T.p_Frame_rows hr) pa_nil))
                (pe_callB (call_reprD hgd2 hr.units) (by rfl) T.b_repr boot_repr (pa_cons (pe_callTy call_tuple_of (by rfl) T.b_tuple boot_tuple (pa_cons (pv 8) pa_nil)) pa_nil)) (nomark _))
              (pw_or (pt_cmpR op_ne (pe_callB (call_lenP (ι := Kd) (C := fun i => cls K i) T.m___len__ (fun _ => GL) (hr.mono (by decide)) (fun _ => bL) pass0) (by rfl) T.b_len boot_len (pa_cons (pv 7) pa_nil)) (pe_callB call_len (by rfl) T.b_len boot_len (pa_cons (pv 8) pa_nil)) (nomark _))
              (pw_or1 (pt_cmpR (op_neD hr.units) (pe_propP (ι := Kd) (C := fun i => cls K i) (pv 7) T.c_sheet T.p_schema (fun _ => GS) (hr.mono (by decide)) (fun _ => bS) pass0) (pv 1) (nomark _))))))
            (pss_one (ps_ret pe_bl)) pss_nil))))))
    (pss_one (ps_ret (pe_callB (cr_all rfl) (by rfl) T.b_all boot_all (pa_cons (pe_lc (own := [("_law_one", 9), ("_law_some", 10)]) (g := gUnl K 2 (gCons (gName 9) (gCons (gName 10) gNil))) (tt := tYes) (by rfl) sc_right.nd (pi_list (pv 5)) (blkOk_by (own := [("_law_one", 9), ("_law_some", 10)]) (N := nmRight) (sc := defScope (top 69)) (by decide +kernel))
        (fun _ _ _ _ _ => pg_unl (n := 2) (by rfl) (pgs_cons (pg_name (i := 9) sc_right.nd rfl (Or.inl rfl)) (pgs_cons (pg_name (i := 10) sc_right.nd rfl (Or.inl rfl)) pgs_nil))) (fun _ _ _ _ _ => pts_nil)
        (fun _ _ _ _ _ => pe_cmpR (r := rEq) op_eq (pe_callB (r := rRepr K) (call_reprD hgd2 hr.units) (by rfl) T.b_repr boot_repr (pa_cons (pe_propO O6 (pv 9) T.c_Frame T.p_Frame_rows hr) pa_nil))
          (pe_callB (r := rRepr K) (call_reprD hgd2 hr.units) (by rfl) T.b_repr boot_repr (pa_cons (pv 10) pa_nil)) (nomark _))) pa_nil))))))), ?_⟩
  have hsl : sizeLine = 16777216 := sizeLine_eq
  refine ⟨_, rfl, pl, 12, rfl, hp, by decide, fun H1 q hd L sch rows s1 hp1 hq hh hs hL hrl hrv => ?_⟩
  have hro : ∀ r ∈ rows, RowOk sch r := fun r hr => (hrv r hr).1
  refine ⟨q, _, rfl, SqL.of hq, rfl, _, _, rfl, _, _, rfl, rfl, ?_⟩
  refine ⟨_, rfl, _, rfl, fun f dx nf ndx hne => ?_⟩
  have s2 := same_made (C := cF K) nf ndx
  refine ⟨f, dx, hd, L, sch, rows, rfl, upd_same, hh.same s2, hs, hL.same s2, hro, fun H3 sx3 hf => ⟨rfl, ?_⟩⟩
  have s3 : Same H1 H3 := sx3.made nf ndx
  have hp3 := hp1.same s3
  refine ⟨_, rfl, _, rfl, _, rfl, pl, rfl, hp3, fun H4 bs s4 hp4 hb1 hb2 => ?_⟩
  have s04 : SameX pl H H4 := (s1.trans (SameX.same s3)).trans s4
  have hf4 := hf.pool hp3 s4
  have hh4 := hd_pool hp3 s4 (hh.same s3)
  have hL4 := rows_pool hp3 s4 (hL.same s3)
  have R0 : RepK K sch.length hd (fun _ => .oth) H4 ⟨fun _ => none, fun _ => none⟩ := ⟨fun _ _ => rfl, fun _ _ z => (by cases z), fun _ _ z => (by cases z)⟩
  have T0 : Tok sch.length 13 ⟨fun _ => none, fun _ => none⟩ (fun _ => none) := fun _ _ _ z => (by cases z)
  refine ⟨pl, f, hd, L, bs, sch, fun _ => .oth, ⟨fun _ => none, fun _ => none⟩, 13, fun _ => none, rows, rfl, hp4, rfl, R0, T0, hf4, rfl, hh4, hs, hL4, hro, by omega, by decide, by decide, hb1, hb2, fun ρ5 a5 H5 z st5 hp5 R5 Tk5 z0 az ap => ?_⟩
  have hL5 : RowsAt K H5 L rows := (Kept.step st5).rows hL4
  have hh5 : Hd K H5 hd sch := (Kept.step st5).hds hh4
  obtain ⟨rs, hR, hrs, hrc⟩ := id hL5
  have hf5 : FrameAt K H5 f hd L ∧ ρ5 f = .oth := by
    obtain ⟨dx4, h4⟩ := hf4
    obtain ⟨pa, pb, pc, hpx, _⟩ := hp4
    exact ⟨⟨dx4, st5.ot _ _ h4 rfl (ne_of h4 hpx fun z => by cases z)⟩, st5.ro _ _ h4⟩
  refine ⟨_, rfl, L, _, rfl, .inr hR, fun l' hl' => ⟨by show (2 : Nat) ≤ sizeLine; omega, fun b hb => ⟨by show (1 : Nat) ≤ sizeLine; omega, fun bx hbx => ⟨_, rfl, _, rfl, by show (2 : Nat) ≤ sizeLine; omega, fun p hpn => ⟨by show (1 : Nat) ≤ sizeLine; omega, fun tl htl => ⟨_, _, rfl, ?_⟩⟩⟩⟩⟩⟩
  have t1 : Same H5 (upd H5 l' (.lst (rs.map V.ref))) := same_upd hl'
  have a1 : (upd H5 l' (.lst (rs.map V.ref))) l' = some (.lst (rs.map V.ref)) := upd_same
  generalize upd H5 l' (.lst (rs.map V.ref)) = G1 at t1 a1 hb hbx hpn htl ⊢
  have t2 : Same G1 (upd G1 b (.lst [.ref z, .ref l'])) := same_upd hb
  have a2 : (upd G1 b (.lst [.ref z, .ref l'])) b = some (.lst [.ref z, .ref l']) := upd_same
  generalize upd G1 b (.lst [.ref z, .ref l']) = G2 at t2 a2 hbx hpn htl ⊢
  have t3 : Same G2 (upd G2 bx (.lst [.ref b])) := same_upd hbx
  have a3 : (upd G2 bx (.lst [.ref b])) bx = some (.lst [.ref b]) := upd_same
  generalize upd G2 bx (.lst [.ref b]) = G3 at t3 a3 hpn htl ⊢
  have t4 : Same G3 (upd G3 p (.lst [.ref f, .ref L])) := same_upd hpn
  have a4 : (upd G3 p (.lst [.ref f, .ref L])) p = some (.lst [.ref f, .ref L]) := upd_same
  generalize upd G3 p (.lst [.ref f, .ref L]) = G4 at t4 a4 htl ⊢
  have t5 : Same G4 (upd G4 tl (.lst [.ref p])) := same_upd htl
  have a5' : (upd G4 tl (.lst [.ref p])) tl = some (.lst [.ref p]) := upd_same
  generalize upd G4 tl (.lst [.ref p]) = G5 at t5 a5' ⊢
  obtain ⟨pa, pb, pc, hpx, _⟩ := id hp5
  have t45 := t5
  have t35 := t4.trans t45
  have t25 := t3.trans t35
  have t15 := t2.trans t25
  have t05 := t1.trans t15
  have fl : H5 l' = none := hl'
  have fb : H5 b = none := t1.free hb
  have fx : H5 bx = none := (t1.trans t2).free hbx
  have fp : H5 p = none := ((t1.trans t2).trans t3).free hpn
  have ft : H5 tl = none := (((t1.trans t2).trans t3).trans t4).free htl
  have n1 : l' ≠ pl := (ne_of_none hpx fl).symm
  have n2 : b ≠ pl := (ne_of_none hpx fb).symm
  have n3 : bx ≠ pl := (ne_of_none hpx fx).symm
  have n4 : p ≠ pl := (ne_of_none hpx fp).symm
  have n5 : tl ≠ pl := (ne_of_none hpx ft).symm
  have m1 : b ≠ l' := (ne_of_none a1 hb).symm
  have m2 : bx ≠ l' := (ne_of_none (t2 _ _ a1) hbx).symm
  have m3 : p ≠ l' := (ne_of_none ((t2.trans t3) _ _ a1) hpn).symm
  have m4 : tl ≠ l' := (ne_of_none (((t2.trans t3).trans t4) _ _ a1) htl).symm
  have m5 : bx ≠ b := (ne_of_none a2 hbx).symm
  have m6 : p ≠ b := (ne_of_none (t3 _ _ a2) hpn).symm
  have m7 : tl ≠ b := (ne_of_none ((t3.trans t4) _ _ a2) htl).symm
  have m8 : p ≠ bx := (ne_of_none a3 hpn).symm
  have m9 : tl ≠ bx := (ne_of_none (t4 _ _ a3) htl).symm
  have m10 : tl ≠ p := (ne_of_none a4 htl).symm
  let τ0 : Addr → Nat := fun q => if q = pl then 1 else if q = bx then 2 else if q = tl then 3 else if q = b then 4 else if q = l' then 5 else if q = p then 6 else 0
  have e1 : τ0 pl = 1 := if_pos rfl
  have e2 : τ0 bx = 2 := by show (if bx = pl then 1 else if bx = bx then 2 else _) = 2; rw [if_neg n3, if_pos rfl]
  have e3 : τ0 tl = 3 := by show (if tl = pl then 1 else if tl = bx then 2 else if tl = tl then 3 else _) = 3; rw [if_neg n5, if_neg m9, if_pos rfl]
  have e4 : τ0 b = 4 := by show (if b = pl then 1 else if b = bx then 2 else if b = tl then 3 else if b = b then 4 else _) = 4; rw [if_neg n2, if_neg m5.symm, if_neg m7.symm, if_pos rfl]
  have e5 : τ0 l' = 5 := by show (if l' = pl then 1 else if l' = bx then 2 else if l' = tl then 3 else if l' = b then 4 else if l' = l' then 5 else _) = 5; rw [if_neg n1, if_neg m2.symm, if_neg m4.symm, if_neg m1.symm, if_pos rfl]
  have e6 : τ0 p = 6 := by show (if p = pl then 1 else if p = bx then 2 else if p = tl then 3 else if p = b then 4 else if p = l' then 5 else if p = p then 6 else 0) = 6; rw [if_neg n4, if_neg m8, if_neg m10.symm, if_neg m6, if_neg m3, if_pos rfl]
  have Sx : StateW K sch hd pl bx tl τ0 ρ5 G5 a5 13 (updT (fun _ => none) z (some (fun j => colOf j rows, rows.length))) [⟨b, z, l', rs, rows⟩] [⟨p, f, L, L, rows⟩] := by
    refine ⟨⟨hp5.same t05, ?_, e1, t35 _ _ a3, R5.fr _ fx, e2, a5', R5.fr _ ft, e3, fun x hx => ?_, fun y hy => ?_, by simp, hh5.same t05⟩, R5.same t05, Tk5, fun x hx => ?_, by simp, by simp⟩
    · obtain ⟨_, _, _, hpx4, _⟩ := hp4
      exact st5.ro _ _ hpx4
    · rw [List.mem_singleton.mp hx]
      exact ⟨t25 _ _ a2, R5.fr _ fb, e4, ⟨t15 _ _ a1, hrs, fun k t r y1 y2 => same_sqT t05 (hrc k t r y1 y2)⟩, R5.fr _ fl, e5, hrv⟩
    · rw [List.mem_singleton.mp hy]
      exact ⟨t45 _ _ a4, R5.fr _ fp, e6, hf5.1.same t05, hf5.2, hL5.same t05, hL5.same t05, hrv, (by show rows.length ≤ 900; omega)⟩
    · rw [List.mem_singleton.mp hx]
      exact ⟨⟨_, updT_same, fun _ _ => rfl⟩, (by show rows.length ≤ 13; omega)⟩
  have K0 : ∀ c o, c ≠ pl → H c = some o → G5 c = some o ∧ ρ5 c = .oth ∧ τ0 c = 0 := fun c o n e => by
    have h4 := s04 c o n e
    have h5 := st5.ot c o h4 rfl n
    refine ⟨t05 _ _ h5, st5.ro _ _ h4, ?_⟩
    show (if c = pl then 1 else if c = bx then 2 else if c = tl then 3 else if c = b then 4 else if c = l' then 5 else if c = p then 6 else 0) = 0
    rw [if_neg n, if_neg (ne_of_none h5 fx), if_neg (ne_of_none h5 ft), if_neg (ne_of_none h5 fb), if_neg (ne_of_none h5 fl), if_neg (ne_of_none h5 fp)]
  clear_value τ0
  clear e1 e2 e3 e4 e5 e6 n1 n2 n3 n4 n5 m1 m2 m3 m4 m5 m6 m7 m8 m9 m10 t1 t2 t3 t4 t5 t45 t35 t25 t15 t05 a1 a2 a3 a4 a5' fl fb fx fp ft
  refine ⟨60, rfl, by decide, by decide, ?_⟩
  refine for_it walk_range (fun i σ H' => ∃ τ ρ a TS B F c6 c7 c8 c9 c10, σ = [some (V.ref pl), some (.ref hd), some (.ref L), some (.ref f), some (.ref bx), some (.ref tl), c6, c7, c8, c9, c10] ∧ StateW K sch hd pl bx tl τ ρ H' a (13 + i) TS B F ∧ B ≠ [] ∧ B.length ≤ 8 ∧
      ∀ c o, c ≠ pl → H c = some o → H' c = some o ∧ ρ c = .oth ∧ τ c = 0)
    ⟨τ0, ρ5, a5, _, _, _, _, _, _, _, _, rfl, Sx, by simp, by simp, K0⟩ (fun _ _ _ _ _ => trivial) (fun i v σ H' H'' hi hq hy => ?_) fun σ H' hq => ?_
  · obtain ⟨rfl, rfl⟩ := hy
    obtain ⟨τ, ρ, a, TS, B, F, c6, c7, c8, c9, c10, rfl, S, hB, hB8, hK⟩ := hq
    have hi' : i < 60 := by simpa using hi
    refine ⟨_, rfl, _, rfl, _, rfl, _, rfl, pl, bx, hd, tl, sch, τ, ρ, a, 13 + i, TS, B, F, rfl, S, hs, hB, hB8, by omega, by omega, fun τ' ρ' a' H3 TS' B' F' S' hB' hB8' out => ⟨_, rfl, iteF ?_⟩⟩
    have K3 : ∀ c o, c ≠ pl → H c = some o → H3 c = some o ∧ ρ' c = .oth ∧ τ' c = 0 := fun c o n e => by
      obtain ⟨k1, k2, k3⟩ := hK c o n e
      exact out c o k1 k2 k3
    refine ⟨_, rfl, bx, rfl, ⟨_, SqL.of S'.W.bxa⟩, ?_⟩
    refine for_it (walk_list (xs := B'.map fun x => V.ref x.b)) (fun k σ H' => ∃ c7 c8, σ = [some (V.ref pl), some (.ref hd), some (.ref L), some (.ref f), some (.ref bx), some (.ref tl), some (.int ((0 : Int) + (i : Nat))), c7, c8, c9, c10] ∧ Same H3 H') ⟨_, _, rfl, Same.refl H3⟩ (fun k σ H' _ q => by
      obtain ⟨_, _, _, s⟩ := q
      exact SqL.of (s _ _ S'.W.bxa)) (fun k v σ H4 H4' hk q hy => ?_) fun σ H4 q => ?_
    · obtain ⟨rfl, hv⟩ := hy
      obtain ⟨d7, d8, rfl, s34⟩ := q
      rw [List.getElem?_map] at hv
      cases hx : B'[k]? with
      | none => rw [hx] at hv; cases hv
      | some x =>
        rw [hx] at hv
        cases hv
        have hxm := List.mem_of_getElem? hx
        have S4 := S'.pool (SameX.same s34) (S'.W.pool.same s34)
        have bo := S4.W.bo x hxm
        obtain ⟨y, D, ex, eTS, hD, etot, Sk⟩ := S4.shs hxm
        have RS := S4.R.sh _ _ ex
        have hxN := (S4.ho x hxm).2
        have hdat := rowsV_data hs.le bo.rv
        have hvals : ∀ r ∈ x.rows, ∀ v ∈ r, Val v := fun r hr => (hdat r hr).1
        obtain ⟨h1, h2, h3, h4⟩ := tup_show hdat (by omega)
        refine ⟨x.b, _, rfl, SqL.of bo.at_, rfl, _, _, rfl, _, _, rfl, rfl, ?_⟩
        refine ⟨_, rfl, y.kd, x.s, _, _, rfl, RS.at_, lm_to_frame, hd, sch, ρ', a', _, TS', x.s, y, D, _, x.rows, rfl, S4.R, S4.Tk, eTS, ex, S4.W.hh, hs, hD, rfl, fun r hr => (bo.rv r hr).1, by omega, fun H5 f5 L5 s5 f50 hf5 hL5 => ?_⟩
        obtain ⟨dx5, hfx⟩ := id hf5
        refine ⟨f5, dx5, _, rfl, hfx, f5, hd, L5, rfl, hf5, L5, _, rfl, rows_dp hL5 hvals, h1, h2, h3, h4, ?_⟩
        have bo5 := bo.li.same s5
        refine ⟨_, rfl, x.l, _, rfl, .inl ⟨SqL.of bo5.at_, fun t ht => ?_⟩⟩
        have s6 : Same H5 (upd H5 t (.tup (x.ts.map V.ref))) := same_upd ht
        have hL6 : RowsAt K (upd H5 t (.tup (x.ts.map V.ref))) t x.rows := (bo5.same s6).rows (SqT.of upd_same)
        refine ⟨t, _, rfl, rows_dp hL6 hvals, h1, h2, h3, h4, rfl, _, rfl, ?_⟩
        have e0 : (!decide (V.str (PyData.tuple (rowsD x.rows)).shown = V.str (PyData.tuple (rowsD x.rows)).shown)) = false := by simp
        rw [e0]
        refine iteF ?_
        have s46 := s5.trans s6
        have RS6 := (S4.R.same s46).sh _ _ ex
        have bo6 := bo.li.same s46
        refine ⟨_, rfl, y.kd, x.s, _, _, rfl, RS6.at_, x.s, y, hd, rfl, RS6.at_, by omega, fun H7 s7 => ⟨_, rfl, by omega, ?_⟩⟩
        have s47 := s46.trans s7
        have RS7 := (S4.R.same s47).sh _ _ ex
        have bo7 := bo.li.same s47
        refine ⟨_, rfl, _, _, rfl, .inl ⟨_, SqL.of bo7.at_, rfl⟩, rfl, _, rfl, ?_⟩
        have e1 : (!decide (V.int (y.tot : Nat) = V.int ((x.ts.map V.ref).length : Nat))) = false := by
          rw [List.length_map, bo7.len, etot]; simp
        rw [e1]
        refine iteF ?_
        have hh7 := S4.W.hh.same s47
        refine ⟨_, rfl, y.kd, x.s, _, _, rfl, RS7.at_, x.s, y, hd, rfl, RS7.at_, _, rfl, _, _, hd_dp hh7, hd_dp hh7, heads_shaped hs.nm, heads_shaped hs.nm, _, rfl, ?_⟩
        have e2 : (!PyData.eqv (.tuple (headsD sch)) (.tuple (headsD sch))) = false := by
          simp only [PyData.eqv, heads_eqv]; rfl
        rw [e2]
        refine iteF ?_
        exact ⟨_, _, rfl, s34.trans s47⟩
    · obtain ⟨d7, d8, rfl, s34⟩ := q
      refine ⟨τ', ρ', a', TS', B', F', _, _, _, _, _, rfl, S'.pool (SameX.same s34) (S'.W.pool.same s34), hB', hB8', fun c o n e => ?_⟩
      obtain ⟨k1, k2, k3⟩ := K3 c o n e
      exact ⟨s34 _ _ k1, k2, k3⟩
  · obtain ⟨τ, ρ, a, TS, B, F, c6, c7, c8, c9, c10, rfl, S, hB, hB8, hK⟩ := hq
    refine ⟨_, rfl, tl, rfl, ⟨_, SqL.of S.W.tla⟩, fun D hD => ?_⟩
    have hfl := S.fl
    refine lc_it (walk_list (xs := F.map fun x => V.ref x.p)) (fun i H2 => H2 = upd H' D (.lst ((List.replicate i true).map V.bl))) rfl (fun i H2 _ q => by subst q; exact SqL.of (same_upd hD _ _ S.W.tla)) (fun i v H2 H2' hi q hy => ?_) fun H2 q => ?_
    · obtain ⟨rfl, hv⟩ := hy
      subst q
      rw [List.getElem?_map] at hv
      cases hx : F[i]? with
      | none => rw [hx] at hv; cases hv
      | some x =>
        rw [hx] at hv
        cases hv
        have s2 : Same H' (upd H' D (.lst ((List.replicate i true).map V.bl))) := same_upd hD
        have to := S.W.to x (List.mem_of_getElem? hx)
        have hdat := rowsV_data hs.le to.rv
        have hvals : ∀ r ∈ x.rows, ∀ v ∈ r, Val v := fun r hr => (hdat r hr).1
        have hle := to.le
        obtain ⟨h1, h2, h3, h4⟩ := tup_show hdat (by omega)
        obtain ⟨dx5, hfx⟩ := id to.fr
        refine ⟨x.p, _, rfl, SqL.of (s2 _ _ to.at_), rfl, _, _, rfl, _, _, rfl, rfl, rfl, ?_⟩
        refine yes ?_
        refine ⟨_, rfl, x.f, dx5, _, rfl, s2 _ _ hfx, x.f, hd, x.Lf, rfl, to.fr.same s2, x.Lf, _, rfl, rows_dp (to.r1.same s2) hvals, h1, h2, h3, h4, ?_⟩
        refine ⟨_, rfl, x.L, _, rfl, rows_dp (to.r2.same s2) hvals, h1, h2, h3, h4, rfl, _, upd_same, ?_, ?_⟩
        · have : i < F.length := by simpa using hi
          simp; omega
        · rw [upd_upd, List.replicate_succ', List.map_append]
          have e0 : decide (V.str (PyData.tuple (rowsD x.rows)).shown = V.str (PyData.tuple (rowsD x.rows)).shown) = true := by simp
          rw [e0]; rfl
    · subst q
      refine ⟨D, List.replicate (F.map fun x => V.ref x.p).length true, rfl, SqL.of upd_same, ?_⟩
      have e0 : (List.replicate (F.map fun x => V.ref x.p).length true).all id = true := by simp
      rw [e0]
      exact hQ _ fun c o n e => by rw [upd_ne (ne_of_none (hK c o n e).1 hD)]; exact (hK c o n e).1
end LF
set_option Elab.async false
set_option linter.all false
set_option maxRecDepth 100000
set_option maxHeartbeats 4000000
/-! The law. -/
namespace LF
open PySem PySem.Spec PyProof.Rows L2
variable {P : Program} {w : World} {K : PySem.W.Frag} {mg : Str → Option Value} {base : Heap}
theorem sc_law : FnScope ["_law_script", "_law_k"] ["_law_script"] (defScope (top 70)) := ⟨rfl, rfl, rfl, by decide +kernel, rfl, by decide +kernel, by decide +kernel⟩
def spLawL (K : PySem.W.Frag) : Sp := fun vs H Q _ => ∃ (a : Addr) (ns : List Int), vs = [.ref a] ∧ SqL K H a (ns.map V.int) ∧ ns.length < 2 ^ 61 ∧ ∀ H', Q (.bl true) H'
theorem ok_law (T : TX P K mg) {fd : FuncData} (F0 : Fun K "law" "law" (top 70) (ga K "law") fd) : FnG P w K mg base CX0 13 (ga K "law") fd ["_law_script"] (spLawL K) := by
  have O1 : Ok P w K mg base 1 (ga K "_law_cell") ["_law_script", "_law_k"] (spCellL K) := ok_cell T
  have O2 : Ok P w K mg base 1 (ga K "_law_pool") ["_law_cell_here"] spPool := ok_pool T
  obtain ⟨fdR, GR, bR⟩ := ok_right (w := w) (base := base) T
  refine LF.Fun.okG F0 (k := 12) sc_law (fun vs H Q E h => by obtain ⟨_, _, rfl, _⟩ := h; rfl) (fun cdv A outer s0 H vs Q E hgd hr h => ?_)
  obtain ⟨a, ns, rfl, hS, hn, hQ⟩ := h
  have hgd2 : (cxOf CX0 P w K mg base ["_law_script", "_law_k"] "law" (defScope (top 70)) (ga K "law") cdv A outer s0 H E).nox.A.guards = some [] := hgd
  refine ⟨_, pss_one (ps_ret (pe_callB (cr_all rfl) (by rfl) T.b_all boot_all (pa_cons (pe_lc (own := [("_law_k", 1)]) (g := gName 1) (tt := tYes) (by rfl) sc_law.nd
      (pi_range1 (by rfl) T.b_range (pa_cons (pe_callB (call_max2 rfl) (by rfl) T.b_max boot_max (pa_cons pe_int (pa_cons (pe_callB (call_min2 rfl) (by rfl) T.b_min boot_min (pa_cons (pe_callB call_len (by rfl) T.b_len boot_len (pa_cons (pv 0) pa_nil)) (pa_cons pe_int pa_nil))) pa_nil))) pa_nil))
      (blkOk_by (own := [("_law_k", 1)]) (N := ["_law_script", "_law_k"]) (sc := defScope (top 70)) (by decide +kernel))
      (fun _ _ _ _ _ => pg_name (i := 1) sc_law.nd rfl (Or.inl rfl)) (fun _ _ _ _ _ => pts_nil)
      (fun _ _ _ _ _ => pe_callG GR hgd2 hr (by rfl) T.g__law_right T.f__law_right.kp bR .nil pass0 (pa_cons (pe_callO O2 T.f__law_pool.kp hr (by rfl) T.g__law_pool (pa_cons (pe_callO O1 T.f__law_cell.kp hr (by rfl) T.g__law_cell (pa_cons (pv 0) (pa_cons (pv 1) pa_nil))) pa_nil)) pa_nil))) pa_nil))), ?_⟩
  have hsl : sizeLine = 16777216 := sizeLine_eq
  refine ⟨_, rfl, _, _, rfl, .inl ⟨_, hS, rfl⟩, _, _, rfl, _, _, rfl, ?_⟩
  obtain ⟨m, hm, hm4⟩ : ∃ m : Nat, (if (if (4 : Int) < ((ns.map V.int).length : Nat) then (4 : Int) else ((ns.map V.int).length : Nat)) > 2 then (if (4 : Int) < ((ns.map V.int).length : Nat) then (4 : Int) else ((ns.map V.int).length : Nat)) else 2) = (m : Int) ∧ m ≤ 4 := by
    by_cases h1 : (4 : Int) < ((ns.map V.int).length : Nat)
    · rw [if_pos h1]; exact ⟨4, rfl, by decide⟩
    · rw [if_neg h1]
      by_cases h2 : (((ns.map V.int).length : Nat) : Int) > 2
      · rw [if_pos h2]; exact ⟨(ns.map V.int).length, rfl, by omega⟩
      · rw [if_neg h2]; exact ⟨2, rfl, by decide⟩
  rw [hm]
  refine ⟨m, rfl, by omega, by omega, fun D hD => ?_⟩
  refine lc_it walk_range (fun i H' => Same H H' ∧ H' D = some (.lst ((List.replicate i true).map V.bl))) ⟨same_upd hD, upd_same⟩ (fun _ _ _ _ => trivial) (fun i v H' H'' hi hq hy => ?_) fun H' hq => ?_
  · obtain ⟨rfl, rfl⟩ := hy
    obtain ⟨h1, h2⟩ := hq
    have hi' : i < m := by simpa using hi
    refine ⟨rfl, ?_⟩
    refine yes ?_
    have e0 : (0 : Int) + (i : Nat) = ((i : Nat) : Int) := by omega
    refine ⟨_, rfl, _, rfl, a, ns, i, (by show _ = [V.ref a, V.int ((i : Nat) : Int)]; rw [← e0]; rfl), hS.ext h1, by omega, fun H3 z s3 => ?_⟩
    refine ⟨z, rfl, fun H4 p s4 hp hpa => ?_⟩
    refine ⟨p, rfl, hpa, fun H5 s5 => ?_⟩
    have sall : Same H'' H5 := fun c o e => s5 c o (ne_of_none (s3 c o e) hp) (s4 c o (s3 c o e))
    have h5 := sall _ _ h2
    refine ⟨_, h5, by simp; omega, ?_, ?_⟩
    · exact fun c o e => by rw [upd_ne (ne_of_none e hD)]; exact sall _ _ (h1 c o e)
    · rw [upd_same, List.replicate_succ', List.map_append]; rfl
  · obtain ⟨h1, h2⟩ := hq
    refine ⟨D, List.replicate (Int.toNat (m : Nat)) true, rfl, SqL.of h2, ?_⟩
    have e0 : (List.replicate (Int.toNat (m : Nat)) true).all id = true := by simp
    rw [e0]
    exact hQ H'
theorem toD {x qual : Str} {st : Stmt} {f : Addr} {fd : FuncData} (F : Fun K x qual st f fd) : FunD K x qual (defArgs st) (defBody st) (defScope st) [] [] f fd := by
  obtain ⟨⟨oc, od, kV, doc, pm, an, cdv, ct, osl, rfl, lk, hc⟩, kp⟩ := F
  exact ⟨⟨oc, od, .none, kV, doc, pm, an, cdv, ct, osl, rfl, lk, hc, .inl ⟨rfl, rfl⟩, .inl rfl⟩, kp⟩
end LF
set_option Elab.async false
set_option linter.all false
set_option maxRecDepth 100000
set_option maxHeartbeats 4000000
/-! The law's end, where no repr runs about it. -/
namespace LF
open PySem PySem.Spec PyProof.Rows L2
theorem law_callG {P : Program} {w : World} {K : PySem.W.Frag} {mg mb : Str → Option Value} {k : Nat} {fa a : Addr} {fd : FuncData} {x : Str} {sp : Sp} {s₁ : Shared} {vs : List Value} {ns : List Int}
    (KX : K.In s₁.heap) (hns : s₁.heap.Ns mainGlobals mg) (hb : s₁.heap.Ns builtinsNs mb) (hbb : ∀ x : Str, x ≠ "__name__" → mb x = bootBuiltins x) (hlim : s₁.heap.NoLimit) (hg : s₁.gens = #[])
    (ha : s₁.heap.get? a = some { cls := .type "list", data := .seq vs.toArray }) (hi : IntsAre vs ns) (hl : ns.length ≤ sizeLine) (hr : Room k callerA)
    (F : ∀ base : Heap, K.In base → base.Ns mainGlobals mg → FnG P w K mg base CX0 k fa fd [x] sp) (hbind : ∀ (s : Shared) (u : Value), BindsTo s fd ⟨[u], []⟩ [(x, u)])
    (hsp : ∀ H : Hp, Only H → SqL K H a (ns.map V.int) → sp [.ref a] H (fun v _ => v = .bl true) fun _ _ _ => False) :
    codeAny (model P w) callerA (.call (.ref fa) ⟨[.ref a], []⟩) (fun r s' => r = .ok (.ret (.bool true)) ∧ OldK s₁.heap s'.heap ∧ s'.os = s₁.os ∧ AllBare s'.gens) s₁ := by
  have rv := vals_ints hi
  have lenV := hi.length
  have core : ∀ H : Hp, Only H → SqL K H a (ns.map V.int) → HOk P w H s₁.heap → (∀ b, H b ≠ none → b = a ∧ K.lookup a = none) →
      codeAny (model P w) callerA (.call (.ref fa) ⟨[.ref a], []⟩) (fun r s' => r = .ok (.ret (.bool true)) ∧ OldK s₁.heap s'.heap ∧ s'.os = s₁.os ∧ AllBare s'.gens) s₁ := by
    intro H hO hS hok hA
    have nsK : ∀ {b : Addr} {m : Str → Option Value}, s₁.heap.Ns b m → (hidT s₁.heap H).Ns b m := fun {b m} ⟨o, es, ep, e, d, r⟩ => by
      refine ⟨o, es, ep, hidT_get e ?_, d, r⟩
      cases q : H b with
      | none => rfl
      | some u =>
        have e' := (hA b (by rw [q]; exact fun z => by cases z)).1
        rw [e', ha] at e
        cases e
        exact absurd (show Data.seq vs.toArray _ = Data.dict es ep from d) (fun z => by cases z)
    have hKb : K.In (hidT s₁.heap H) := fun b o e => hidT_get (KX b o e) (by
      cases q : H b with
      | none => rfl
      | some u =>
        obtain ⟨e', hk⟩ := hA b (by rw [q]; exact fun z => by cases z)
        rw [e', hk] at e
        cases e)
    have hM : Mod K mg (hidT s₁.heap H) := ⟨hKb, nsK hns, ⟨mb, nsK hb, hbb⟩, let ⟨mc, h1, h2⟩ := hlim; ⟨mc, nsK h1, h2⟩⟩
    have e0 : Env0 P w K mg (hidT s₁.heap H) callerA [] s₁ H := ⟨rfl, hM, fun b o e => of_hidT e, Nat.le_of_eq (hidT_size _ _), trivial, fun b hb => absurd (show b ∈ ([] : List Addr) from hb) (by simp), hok, .of_eq hg⟩
    refine codeAny_mono ((F _ hKb (nsK hns)).run callerA [] s₁ H ⟨[.ref a], []⟩ [.ref a] [.ref a] _ _ rfl hr e0 (hbind s₁ (.ref a)) (.cons rfl .nil) (hsp H hO hS)) fun r s' h => ?_
    match r, h with
    | .error e, h => exact h.elim
    | .ok .next, h => exact False.elim h
    | .ok .brk, h => exact False.elim h
    | .ok .cont, h => exact False.elim h
    | .ok (.ret u), h =>
      obtain ⟨v, H', os, bare, un, hok', r', q⟩ := h
      have q' : v = .bl true := q
      subst q'
      obtain rfl : u = Value.bool true := r'
      refine ⟨rfl, OldK.of_keep fun b o e => ?_, os, bare⟩
      cases q : H b with
      | none => exact un.keep b o e q (by intro z; exact absurd (show b ∈ ([] : List Addr) from z) (by simp)) (by simp)
      | some u =>
        rcases hO b with z | ⟨ob, xs, z⟩
        · rw [q] at z; cases z
        · obtain ⟨e1, _⟩ := hok b _ z
          obtain ⟨e2, _⟩ := hok' b _ (un.frzs b ob _ z)
          rw [e] at e1; cases e1
          exact e2
  cases hk : K.lookup a with
  | some o =>
    have e := KX a o hk
    rw [ha] at e
    cases e
    exact core (fun _ => none) (fun _ => .inl rfl) (.inr ⟨_, vs.toArray, _, hk, rfl, rfl, rfl, by rw [List.size_toArray, lenV]; exact hl, by simpa using rv⟩) (fun b u z => by have z' : (none : Option HO) = some u := z; cases z') (fun b z => absurd rfl z)
  | none =>
    have only : ∀ b, (if b = a then some (HO.frz { cls := .type "list", data := .seq vs.toArray } (.lst (ns.map V.int))) else none) ≠ none → b = a := fun b z => by
      by_cases hb : b = a
      · exact hb
      · exact absurd (if_neg hb) z
    refine core (fun b => if b = a then some (.frz { cls := .type "list", data := .seq vs.toArray } (.lst (ns.map V.int))) else none) (fun b => ?_) (.inl (.inr ⟨{ cls := .type "list", data := .seq vs.toArray }, if_pos rfl⟩)) (fun b u z => ?_) (fun b z => ⟨only b z, hk⟩)
    · by_cases hb : b = a
      · exact .inr ⟨_, _, if_pos hb⟩
      · exact .inl (if_neg hb)
    · have hb : b = a := only b fun q => by
        have z2 : (if b = a then some (HO.frz { cls := .type "list", data := .seq vs.toArray } (.lst (ns.map V.int))) else none) = some u := z
        rw [q] at z2; cases z2
      subst hb
      have z' := (if_pos rfl).symm.trans z
      cases z'
      exact ⟨ha, by rw [List.length_map]; exact hl, vs, _, rv, ha⟩
theorem walk_ofG {l : PySem.W.OpenLaw} {n k : Nat} {q : Program} {loose : List Str} {XP : (Str → Option Value) → Heap → Prop} {YP : World → Heap → Prop} {d : DefRec} {x : Str}
    (hn : l.most = some n) (hn2 : n ≤ sizeLine) (hdf : d.params.defaults = []) (hr : Room k callerA)
    (F : ∀ (w : World) (mg : Str → Option Value) (fa : Addr) (h : Heap), YP w h → h.Ns mainGlobals mg → mg d.name = some (.ref fa) →
      ∃ (K : PySem.W.Frag) (fd : FuncData) (sp : Sp), K.In h ∧ (∀ (s : Shared) (u : Value), BindsTo s fd ⟨[u], []⟩ [(x, u)]) ∧
        (∀ (H : Hp) (a : Addr) (ns : List Int), ns.length ≤ n → Only H → SqL K H a (ns.map V.int) → sp [.ref a] H (fun v _ => v = .bl true) fun _ _ _ => False) ∧
        ∀ base : Heap, K.In base → base.Ns mainGlobals mg → FnG l.prog w K mg base CX0 k fa fd [x] sp) :
    PySem.W.WalkO q loose XP YP l.row.toRowW d [] (fun f vs => PySem.call f vs) := by
  refine Att.attach_call hn hdf fun w s₀ s₁ mg mb fa o pm cd doc a vs ns G Y ho hd hcd hmg hobj hints hlen hg => ?_
  obtain ⟨K, fd, sp, KX, hb, hsp, hF⟩ := F w mg fa _ Y G.T.g hmg
  exact law_callG KX G.T.g G.T.b G.T.builtins G.T.nolimit hg hobj hints (Nat.le_trans hlen hn2) hr hF hb (fun H hO hS => hsp H a ns hlen hO hS)
end LF
set_option Elab.async false
set_option linter.all false
set_option maxRecDepth 100000
set_option maxHeartbeats 4000000
/-! The head's facts as data, the Hook that reads them. -/
namespace LF
open PySem PySem.Spec PyProof.Rows L2
/-! ### facts -/
inductive FL where
  | fa (f : He.Fa)
  | meth (x m y : Str)
  | mk (x y : Str)
  | prop (x f y : Str)
  | sup (C D m y : Str)
  | eqo (x : Str)
  | mroS (x y : Str)
  | kit (x y : Str)
  | find (x m : Str) (v : Value)
  | mroO (x : Str)
  | stat
  | oget
  | otak
  | rd (x : Str)
  | cval (x m : Str) (i : Int)
  | tup (x : Str) (vs : List He.Dv)
  | empty
/-- the default of Frame's rows -/
def rows0At (K : PySem.W.Frag) : Addr := He.dflAt ("Frame", some "__init__") 0 K
def FL.ok (K : PySem.W.Frag) : FL → Bool
  | .fa f => f.ok K
  | .meth x m y => He.eqO (PySem.W.findIn K (.ref (ga K x)) m) (some (some (.ref (ma K y m)))) && (PySem.W.isFn K (.ref (ma K y m)) && PySem.W.keepIn K (.ref (ma K y m)))
  | .mk x y => PySem.W.makesIn K (ga K x) && (He.eqO (PySem.W.findIn K (.ref (ga K x)) "__init__") (some (some (.ref (ma K y "__init__")))) && (PySem.W.isFn K (.ref (ma K y "__init__")) && PySem.W.keepIn K (.ref (ga K x))))
  | .prop x f y => He.eqO (PySem.W.findIn K (.ref (ga K x)) f) (some (some (.ref (ma K y f)))) && (He.eqO (PySem.W.specialIn K (.ref (ma K y f)) "__get__") (some (some (.builtin "property.__get__"))) && (decide (PySem.W.takesIn K (.ref (ma K y f)) = some true) &&
      (match PySem.W.recIn K (ma K y f) "property" with
        | some (.ref _ :: _) => true
        | _ => false)))
  | .sup C D m y => He.eqO (PySem.W.ks_superIn K (ga K C) (ga K D) m) (some (some (.ref (ma K y m)))) && (decide (PySem.W.typeIn K (.ref (ma K y m)) = some (.type "function")) && (PySem.W.fnIn K (ma K y m) && (decide (PySem.W.mroIn K (ga K C) (.ref (ga K D)) = some true) && (PySem.W.clsIn K (ga K D)).isSome)))
  | .eqo x => decide (PySem.W.mroIn K (ga K x) (.type "object") = some true) && He.eqO (PySem.W.findIn K (.ref (ga K x)) "__eq__") (some (some (.builtin "object.__eq__")))
  | .mroS x y => (PySem.W.mroIn K (ga K x) (.ref (ga K y))).isSome
  | .kit x y => decide (PySem.W.kitOne K (.ref (ga K x)) (.ref (ga K y)) = some true)
  | .find x m v => He.eqO (PySem.W.findIn K (.ref (ga K x)) m) (some (some v))
  | .mroO x => decide (PySem.W.mroIn K (ga K x) (.type "object") = some true)
  | .stat => He.eqO (PySem.W.nsIn K PySem.cStatics "thirdparty.any") (some none)
  | .oget => He.eqO (PySem.W.specialIn K (.builtin "object.__class__") "__get__") (some (some (.builtin "getset_descriptor.__get__")))
  | .otak => decide (PySem.W.takesIn K (.builtin "object.__class__") = some true)
  | .rd x => PySem.W.readsIn K (ga K x) (.type "type") && He.eqO (PySem.W.specialIn K (.ref (ga K x)) "__getattribute__") (some (some (.builtin "type.__getattribute__")))
  | .cval x m i => (match PySem.W.findCls K (.ref (ga K x)) (.type "type") m with
    | some (.val (.int j _)) => decide (j = i)
    | _ => false)
  | .tup x vs => (match K.lookup (ga K x) with
    | some ⟨.type c, _, .seq its _, _⟩ => decide (c = "tuple") && (decide (its.size ≤ sizeLine) && He.relAll (vs.map (He.Dv.v K)) its.toList)
    | _ => false)
  | .empty => (match K.lookup (rows0At K) with
    | some ⟨.type c, _, .seq its _, _⟩ => decide (c = "tuple") && decide (its = #[])
    | _ => false)
section
variable {K : PySem.W.Frag}
theorem meth_at {x m y : Str} (c : (FL.meth x m y).ok K = true) : Meth K (ga K x) m (ma K y m) := by
  obtain ⟨c1, c⟩ := He.ba c
  obtain ⟨c2, c3⟩ := He.ba c
  exact ⟨He.eqO_ok c1, c2, c3⟩
theorem mk_at {x y : Str} (c : (FL.mk x y).ok K = true) : Mk K (ga K x) (ma K y "__init__") := by
  obtain ⟨c1, c⟩ := He.ba c
  obtain ⟨c2, c⟩ := He.ba c
  obtain ⟨c3, c4⟩ := He.ba c
  exact ⟨c1, He.eqO_ok c2, c3, c4⟩
theorem prop_at {x f y : Str} (c : (FL.prop x f y).ok K = true) : PropOf K (ga K x) f (ma K y f) (gtr K y f) := by
  obtain ⟨c1, c⟩ := He.ba c
  obtain ⟨c2, c⟩ := He.ba c
  obtain ⟨c3, c4⟩ := He.ba c
  refine ⟨He.eqO_ok c1, He.eqO_ok c2, of_decide_eq_true c3, ?_⟩
  unfold gtr
  cases e : PySem.W.recIn K (ma K y f) "property" with
  | none => rw [e] at c4; cases c4
  | some l =>
    rw [e] at c4
    cases l with
    | nil => cases c4
    | cons v r =>
      cases v with
      | ref g => exact ⟨r, rfl⟩
      | _ => cases c4
theorem sup_at {C D m y : Str} (c : (FL.sup C D m y).ok K = true) : SupF K (ga K C) (ga K D) m (ma K y m) := by
  obtain ⟨c1, c⟩ := He.ba c
  obtain ⟨c2, c⟩ := He.ba c
  obtain ⟨c3, c⟩ := He.ba c
  obtain ⟨c4, c5⟩ := He.ba c
  exact ⟨He.eqO_ok c1, of_decide_eq_true c2, c3, of_decide_eq_true c4, c5⟩
theorem eqo_at {x : Str} (c : (FL.eqo x).ok K = true) : EqO K (ga K x) := by
  obtain ⟨c1, c2⟩ := He.ba c
  exact ⟨of_decide_eq_true c1, He.eqO_ok c2⟩
theorem mroS_at {x y : Str} (c : (FL.mroS x y).ok K = true) : ∃ b, PySem.W.mroIn K (ga K x) (.ref (ga K y)) = some b := Option.isSome_iff_exists.mp c
theorem kit_at {x y : Str} (c : (FL.kit x y).ok K = true) : PySem.W.kitOne K (.ref (ga K x)) (.ref (ga K y)) = some true := of_decide_eq_true c
theorem find_at {x m : Str} {v : Value} (c : (FL.find x m v).ok K = true) : PySem.W.findIn K (.ref (ga K x)) m = some (some v) := He.eqO_ok c
theorem mroO_at {x : Str} (c : (FL.mroO x).ok K = true) : PySem.W.mroIn K (ga K x) (.type "object") = some true := of_decide_eq_true c
theorem rd_at {x : Str} (c : (FL.rd x).ok K = true) : ClX.CRead K (ga K x) (.type "type") := by
  obtain ⟨c1, c2⟩ := He.ba c
  exact ⟨c1, He.eqO_ok c2⟩
theorem cval_at {x m : Str} {i : Int} (c : (FL.cval x m i).ok K = true) : ∃ t, ClX.CVal K (ga K x) (.type "type") m (.int i) (.int i t) := by
  have c2 : (match PySem.W.findCls K (.ref (ga K x)) (.type "type") m with
    | some (.val (.int j _)) => decide (j = i)
    | _ => false) = true := c
  cases e : PySem.W.findCls K (.ref (ga K x)) (.type "type") m with
  | none => rw [e] at c2; cases c2
  | some f =>
    rw [e] at c2
    cases f with
    | val u =>
      cases u with
      | int j t =>
        have ej : j = i := of_decide_eq_true c2
        subst ej
        exact ⟨t, e, ⟨_, rfl⟩⟩
      | _ => cases c2
    | _ => cases c2
theorem tup_at {x : Str} {vs : List He.Dv} (c : (FL.tup x vs).ok K = true) : ∃ (o : Obj) (its : Array Value) (n : Nat), K.lookup (ga K x) = some o ∧ o.cls = .type "tuple" ∧ o.data = .seq its n ∧ its.size ≤ sizeLine ∧ Vals (vs.map (He.Dv.v K)) its.toList := by
  have c2 : (match K.lookup (ga K x) with
    | some ⟨.type c, _, .seq its _, _⟩ => decide (c = "tuple") && (decide (its.size ≤ sizeLine) && He.relAll (vs.map (He.Dv.v K)) its.toList)
    | _ => false) = true := c
  cases q : K.lookup (ga K x) with
  | none => rw [q] at c2; cases c2
  | some o =>
    obtain ⟨oc, od, dt, osl⟩ := o
    rw [q] at c2
    cases oc with
    | type c =>
      cases dt with
      | seq its n =>
        obtain ⟨h1, h2⟩ := He.ba (show (decide (c = "tuple") && (decide (its.size ≤ sizeLine) && He.relAll (vs.map (He.Dv.v K)) its.toList)) = true from c2)
        obtain ⟨h3, h4⟩ := He.ba h2
        exact ⟨_, its, n, rfl, congrArg Value.type (of_decide_eq_true h1), rfl, of_decide_eq_true h3, He.relAll_ok h4⟩
      | _ => cases c2
    | _ => cases dt <;> cases c2
end

/-! ### defs -/
abbrev FnW2 : Type := Option (Str × Str × Arguments × FuncBody × Scope × Addr × Addr)
def fnW2 (K : PySem.W.Frag) (a : Addr) : FnW2 := match K.lookup a with
  | some ⟨_, _, .func fd, _⟩ => some (fd.name, fd.qualname, fd.params, fd.body, fd.scope, fd.globals, fd.builtins)
  | _ => none
structure DL where
  ad : PySem.W.Frag → Addr
  name : Str
  qual : Str
  st : Stmt
  dfl : List He.Dv := []
  kwd : List (Str × He.Dv) := []
  /-- the class that it closes over -/
  over : Option Str := none
def DL.val (d : DL) : FnW2 := some (d.name, d.qual, defArgs d.st, .stmts (defBody d.st), defScope d.st, mainGlobals, builtinsNs)
def DL.dvs (K : PySem.W.Frag) (d : DL) : List V := d.dfl.map (He.Dv.v K)
def DL.kws (K : PySem.W.Frag) (d : DL) : List (Str × V) := d.kwd.map fun q => (q.1, q.2.v K)
def clB (K : PySem.W.Frag) (D : Addr) : List (Str × Addr) → Bool
  | [(z, cc)] => decide (z = "__class__") && (match K.lookup cc with
    | some ⟨_, _, .cell (some (.ref a)), _⟩ => decide (a = D)
    | _ => false)
  | _ => false
def cdB (K : PySem.W.Frag) (file : Str) : Value → Bool
  | .ref c => (match K.lookup c with
    | some ⟨_, _, .fields vs, _⟩ => (match vs[2]? with
      | some (Value.str f _) => file == f
      | _ => false)
    | _ => false)
  | _ => false
def ovB (K : PySem.W.Frag) (file : Str) (fd : FuncData) : Option Str → Bool
  | none => fd.closure.isEmpty
  | some D => clB K (ga K D) fd.closure && cdB K file fd.code
def DL.ok (file : Str) (K : PySem.W.Frag) (d : DL) : Bool := PySem.W.keepIn K (.ref (d.ad K)) && (match K.lookup (d.ad K) with
  | some ⟨_, _, .func fd, _⟩ => ovB K file fd d.over && (PySem.W.codeIn K fd.code d.qual && (He.dflB K fd.defaults (d.dvs K) && He.kwdB K fd.kwdefaults (d.kws K)))
  | _ => false)
section
variable {K : PySem.W.Frag} {P : Program} {file : Str} {d : DL}
theorem DL.funD (e : fnW2 K (d.ad K) = d.val) (c : d.ok file K = true) (ho : d.over = none) : ∃ fd, FunD K d.name d.qual (defArgs d.st) (defBody d.st) (defScope d.st) (d.dvs K) (d.kws K) (d.ad K) fd := by
  obtain ⟨kp, c2⟩ := He.ba c
  unfold fnW2 at e
  rw [ho] at c2
  cases q : K.lookup (d.ad K) with
  | none => rw [q] at c2; cases c2
  | some o =>
    obtain ⟨oc, od, dt, osl⟩ := o
    rw [q] at c2 e
    cases dt with
    | func fd =>
      obtain ⟨n1, n2, n3, n4, n5, n6, n7, n8, n9, n10, n11, n12, n13, n14, n15⟩ := fd
      have e2 : (some (n1, n2, n3, n4, n5, n6, n15) : FnW2) = some (d.name, d.qual, defArgs d.st, .stmts (defBody d.st), defScope d.st, mainGlobals, builtinsNs) := e
      simp only [Option.some.injEq, Prod.mk.injEq] at e2
      obtain ⟨h1, h2, h3, h4, h5, h6, h8⟩ := e2
      subst h1 h2 h3 h4 h5 h6 h8
      obtain ⟨k0, k⟩ := He.ba (show (n7.isEmpty && (PySem.W.codeIn K n13 d.qual && (He.dflB K n8 (d.dvs K) && He.kwdB K n9 (d.kws K)))) = true from c2)
      obtain ⟨k1, k⟩ := He.ba k
      obtain ⟨k2, k3⟩ := He.ba k
      obtain rfl : n7 = [] := List.isEmpty_iff.mp k0
      exact ⟨_, ⟨oc, od, n8, n9, n10, n11, n12, n13, n14, osl, rfl, q, k1, He.dflB_ok k2, He.kwdB_ok k3⟩, kp⟩
    | _ => cases c2
theorem DL.fun (e : fnW2 K (d.ad K) = d.val) (c : d.ok file K = true) (ho : d.over = none) (hd : d.dfl = []) : FunP K d.name d.qual d.st (d.ad K) := by
  obtain ⟨fd, ⟨oc, od, dV, kV, doc, pm, an, cdv, ct, osl, rfl, lk, hc, hdf, _⟩, kp⟩ := DL.funD e c ho
  have hz : d.dvs K = [] := by unfold DL.dvs; rw [hd]; rfl
  rw [hz] at hdf
  rcases hdf with ⟨_, h⟩ | ⟨h, _⟩
  · subst h
    exact ⟨_, ⟨oc, od, kV, doc, pm, an, cdv, ct, osl, rfl, lk, hc⟩, kp⟩
  · exact absurd rfl h
theorem DL.funS {D : Str} (hP : P.main.file = file) (e : fnW2 K (d.ad K) = d.val) (c : d.ok file K = true) (ho : d.over = some D) (hd : d.dfl = []) : FunSP P K d.name d.qual d.st (d.kws K) (ga K D) (d.ad K) := by
  obtain ⟨kp, c2⟩ := He.ba c
  unfold fnW2 at e
  rw [ho] at c2
  have hz : d.dvs K = [] := by unfold DL.dvs; rw [hd]; rfl
  rw [hz] at c2
  cases q : K.lookup (d.ad K) with
  | none => rw [q] at c2; cases c2
  | some o =>
    obtain ⟨oc, od, dt, osl⟩ := o
    rw [q] at c2 e
    cases dt with
    | func fd =>
      obtain ⟨n1, n2, n3, n4, n5, n6, n7, n8, n9, n10, n11, n12, n13, n14, n15⟩ := fd
      have e2 : (some (n1, n2, n3, n4, n5, n6, n15) : FnW2) = some (d.name, d.qual, defArgs d.st, .stmts (defBody d.st), defScope d.st, mainGlobals, builtinsNs) := e
      simp only [Option.some.injEq, Prod.mk.injEq] at e2
      obtain ⟨h1, h2, h3, h4, h5, h6, h8⟩ := e2
      subst h1 h2 h3 h4 h5 h6 h8
      obtain ⟨k0, k⟩ := He.ba (show ((clB K (ga K D) n7 && cdB K file n13) && (PySem.W.codeIn K n13 d.qual && (He.dflB K n8 [] && He.kwdB K n9 (d.kws K)))) = true from c2)
      obtain ⟨k4, k5⟩ := He.ba k0
      obtain ⟨k1, k⟩ := He.ba k
      obtain ⟨k2, k3⟩ := He.ba k
      have h8 : n8 = .none := by
        cases n8 with
        | none => rfl
        | _ => cases k2
      subst h8
      -- its code
      cases n13 with
      | ref cd =>
        have k6 : (match K.lookup cd with
          | some ⟨_, _, .fields vs, _⟩ => (match vs[2]? with
            | some (Value.str f _) => file == f
            | _ => false)
          | _ => false) = true := k5
        cases q2 : K.lookup cd with
        | none => rw [q2] at k6; cases k6
        | some o2 =>
          obtain ⟨oc2, od2, dt2, osl2⟩ := o2
          rw [q2] at k6
          cases dt2 with
          | fields vs =>
            have k7 : (match vs[2]? with
              | some (Value.str f _) => file == f
              | _ => false) = true := k6
            cases q3 : vs[2]? with
            | none => rw [q3] at k7; cases k7
            | some v3 =>
              rw [q3] at k7
              cases v3 with
              | str f tf =>
                -- its closure
                cases n7 with
                | nil => cases k4
                | cons z r =>
                  cases r with
                  | cons _ _ => cases k4
                  | nil =>
                    obtain ⟨z1, cc⟩ := z
                    obtain ⟨k8, k9⟩ := He.ba (show (decide (z1 = "__class__") && (match K.lookup cc with
                      | some ⟨_, _, .cell (some (.ref a)), _⟩ => decide (a = ga K D)
                      | _ => false)) = true from k4)
                    have hz1 : z1 = "__class__" := of_decide_eq_true k8
                    subst hz1
                    cases q4 : K.lookup cc with
                    | none => rw [q4] at k9; cases k9
                    | some o4 =>
                      obtain ⟨oc4, od4, dt4, osl4⟩ := o4
                      rw [q4] at k9
                      cases dt4 with
                      | cell v4 =>
                        cases v4 with
                        | none => cases k9
                        | some v5 =>
                          cases v5 with
                          | ref a =>
                            have ha : a = ga K D := of_decide_eq_true k9
                            subst ha
                            exact ⟨[("__class__", cc)], cd, _, ⟨oc, od, n9, n10, n11, n14, n12, osl, rfl, q, k1, He.kwdB_ok k3⟩, ⟨cc, oc4, od4, osl4, rfl, q4⟩, ⟨oc2, od2, vs, osl2, f, tf, q2, q3, by rw [hP]; exact k7⟩, kp⟩
                          | _ => cases k9
                      | _ => cases k9
              | _ => cases k7
          | _ => cases k6
      | _ => cases k5
    | _ => cases c2
end
theorem rows0_of {K : PySem.W.Frag} {Q : Addr → Prop} (c : FL.empty.ok K = true) (q : Q (rows0At K)) : ∃ (r : Addr) (o : Obj) (n : Nat), K.lookup r = some o ∧ o.cls = .type "tuple" ∧ o.data = .seq #[] n ∧ Q r := by
  have c2 : (match K.lookup (rows0At K) with
    | some ⟨.type c, _, .seq its _, _⟩ => decide (c = "tuple") && decide (its = #[])
    | _ => false) = true := c
  refine ⟨rows0At K, ?_⟩
  cases e : K.lookup (rows0At K) with
  | none => rw [e] at c2; cases c2
  | some o =>
    obtain ⟨oc, od, dt, osl⟩ := o
    rw [e] at c2
    cases oc with
    | type c =>
      cases dt with
      | seq its n =>
        obtain ⟨h1, h2⟩ := He.ba (show (decide (c = "tuple") && decide (its = #[])) = true from c2)
        exact ⟨_, n, rfl, congrArg Value.type (of_decide_eq_true h1), congrArg (fun z => Data.seq z n) (of_decide_eq_true h2), q⟩
      | _ => cases c2
    | _ => cases dt <;> cases c2

/-! ### the Hook -/
def refsL (o : Obj) : List Addr := match o.data with
  | .dict es _ => es.toList.flatMap fun e => He.refV e.val
  | .func fd => He.refV fd.code ++ He.refV fd.defaults ++ He.refV fd.kwdefaults ++ fd.closure.map (·.2)
  | .cls cd => cd.ns :: cd.mro.flatMap He.refV
  | .seq its _ => its.toList.flatMap He.refV
  | .fields vs => (match o.cls with
    | .type T => if T == "property" then vs.toList.flatMap He.refV else []
    | _ => [])
  | _ => []
def expL (g : Addr → Option Obj) (as : List Addr) : List Addr := as.flatMap fun a => match g a with
  | some o => refsL o
  | none => []
def asL (g : Addr → Option Obj) (names : List Str) : List Addr :=
  let K0 := He.frG g [mainGlobals, PySem.cStatics]
  let L1 := names.filterMap fun x => match PySem.W.nsIn K0 mainGlobals x with
    | some (some (.ref a)) => some a
    | _ => none
  let L2 := expL g L1
  let L3 := expL g L2
  let L4 := expL g L3
  [mainGlobals, PySem.cStatics] ++ (L1 ++ (L2 ++ (L3 ++ (L4 ++ expL g L4))))
abbrev AlL : Type := Bool × List FnW2
def obsL (file : Str) (fa : List FL) (fn : List DL) (K : PySem.W.Frag) : AlL := ((fa.all fun f => f.ok K) && fn.all fun d => d.ok file K, fn.map fun d => fnW2 K (d.ad K))
def valL (fn : List DL) : AlL := (true, fn.map DL.val)
def SaysL (file : Str) (fa : List FL) (fn : List DL) (K : PySem.W.Frag) : Prop := obsL file fa fn K = valL fn
def obsLG (names : List Str) (file : Str) (fa : List FL) (fn : List DL) (g : Addr → Option Obj) : AlL := obsL file fa fn (He.frG g (asL g names))
def hookL (names : List Str) (file : Str) (fa : List FL) (fn : List DL) : PySem.W.Hook where
  α := AlL
  obs := fun s => obsLG names file fa fn s.heap.get?
  val := fun _ => valL fn
  says := fun _ h => ∃ K : PySem.W.Frag, K.In h ∧ SaysL file fa fn K
  of := fun _ _ e => ⟨_, He.frG_in, e⟩
  keeps := fun _ _ _ ⟨K, hK, c⟩ k => ⟨K, PySem.W.Frag.In.keeps hK k, c⟩
theorem obsLG_eq {names : List Str} {file : Str} {fa : List FL} {fn : List DL} {g : Addr → Option Obj} {s : Shared} (h : ∀ a, g a = s.heap.get? a) : obsLG names file fa fn g = (hookL names file fa fn).obs s := by
  have e : g = s.heap.get? := funext h
  rw [e] <;> rfl
section
variable {file : Str} {fa : List FL} {fn : List DL} {K : PySem.W.Frag} {P : Program}
theorem SaysL.fact (c : SaysL file fa fn K) (i : Nat) {f : FL} (h : fa[i]? = some f := by rfl) : f.ok K = true := by
  have c1 := (He.ba (show ((fa.all fun f => f.ok K) && fn.all fun d => d.ok file K) = true from congrArg (fun z : AlL => z.1) c)).1
  exact List.all_eq_true.mp c1 f (List.mem_of_getElem? h)
theorem SaysL.def_ (c : SaysL file fa fn K) (i : Nat) {d : DL} (h : fn[i]? = some d) : fnW2 K (d.ad K) = d.val ∧ d.ok file K = true := by
  have c2 := (He.ba (show ((fa.all fun f => f.ok K) && fn.all fun d => d.ok file K) = true from congrArg (fun z : AlL => z.1) c)).2
  have e : fn.map (fun d => fnW2 K (d.ad K)) = fn.map DL.val := congrArg (fun z : AlL => z.2) c
  have e2 : (fn.map fun d => fnW2 K (d.ad K))[i]? = (fn.map DL.val)[i]? := by rw [e]
  rw [List.getElem?_map, List.getElem?_map, h] at e2
  exact ⟨Option.some.inj e2, List.all_eq_true.mp c2 d (List.mem_of_getElem? h)⟩
theorem SaysL.fun (c : SaysL file fa fn K) (i : Nat) {d : DL} (h : fn[i]? = some d) (ho : d.over = none) (hd : d.dfl = []) : FunP K d.name d.qual d.st (d.ad K) := (c.def_ i h).1 |> fun e => DL.fun e (c.def_ i h).2 ho hd
theorem SaysL.funD (c : SaysL file fa fn K) (i : Nat) {d : DL} (h : fn[i]? = some d) (ho : d.over = none) : FunDP K d.name d.qual d.st (d.dvs K) (d.kws K) (d.ad K) := DL.funD (c.def_ i h).1 (c.def_ i h).2 ho
theorem SaysL.funS {D : Str} (c : SaysL file fa fn K) (hP : P.main.file = file) (i : Nat) {d : DL} (h : fn[i]? = some d) (ho : d.over = some D) (hd : d.dfl = []) : FunSP P K d.name d.qual d.st (d.kws K) (ga K D) (d.ad K) := DL.funS hP (c.def_ i h).1 (c.def_ i h).2 ho hd
end
end LF
set_option Elab.async false
set_option linter.all false
set_option maxRecDepth 100000
set_option maxHeartbeats 4000000
/-! The facts by places, and TX from them. Printed by gen_head.py. -/
namespace LF
open PySem PySem.Spec PyProof.Rows L2
def fileZ : Str := "/claim/cut.py"
def roots : List Str := "Frame" :: "Block" :: "Sheet" :: "NotedSheet" :: "BoundedSheet" :: "NotedBoundedSheet" :: "KINDS" :: "is_integer" :: "is_name" :: "is_kind" :: "is_value" :: "is_column" :: "fault_in_schema" :: "check_schema" :: "fault_in_row" :: "is_row" :: "check_rows" :: "cut_blocks" :: "blank_frame" :: "_law_cell" :: "_law_pool" :: "_law_draw" :: "_law_calls" :: "_law_worth" :: "_law_heads" :: "_law_lines" :: "_law_small" :: "_law_size" :: "_law_drawn_write" :: "_law_kind_of" :: "_law_write" :: "_law_step" :: "_law_right" :: "law" :: []
def fa : List FL :=
  .fa (.free "isinstance") ::
  .fa (.free "int") ::
  .fa (.free "str") ::
  .fa (.free "bool") ::
  .fa (.free "tuple") ::
  .fa (.free "all") ::
  .fa (.free "len") ::
  .fa (.free "list") ::
  .fa (.free "range") ::
  .fa (.free "enumerate") ::
  .fa (.free "sum") ::
  .fa (.free "zip") ::
  .fa (.free "abs") ::
  .fa (.free "divmod") ::
  .fa (.free "repr") ::
  .fa (.free "max") ::
  .fa (.free "min") ::
  .fa (.free "super") ::
  .fa (.glo "is_integer") ::
  .fa (.glo "is_name") ::
  .fa (.glo "is_kind") ::
  .fa (.glo "is_value") ::
  .fa (.glo "is_column") ::
  .fa (.glo "fault_in_schema") ::
  .fa (.glo "check_schema") ::
  .fa (.glo "fault_in_row") ::
  .fa (.glo "is_row") ::
  .fa (.glo "check_rows") ::
  .fa (.glo "cut_blocks") ::
  .fa (.glo "blank_frame") ::
  .fa (.glo "_law_cell") ::
  .fa (.glo "_law_pool") ::
  .fa (.glo "_law_draw") ::
  .fa (.glo "_law_calls") ::
  .fa (.glo "_law_worth") ::
  .fa (.glo "_law_heads") ::
  .fa (.glo "_law_lines") ::
  .fa (.glo "_law_small") ::
  .fa (.glo "_law_size") ::
  .fa (.glo "_law_drawn_write") ::
  .fa (.glo "_law_kind_of") ::
  .fa (.glo "_law_write") ::
  .fa (.glo "_law_step") ::
  .fa (.glo "_law_right") ::
  .fa (.glo "Frame") ::
  .fa (.glo "Block") ::
  .fa (.glo "Sheet") ::
  .fa (.glo "NotedSheet") ::
  .fa (.glo "BoundedSheet") ::
  .fa (.glo "NotedBoundedSheet") ::
  .fa (.glo "KINDS") ::
  .tup "KINDS" [.str "int", .str "text", .str "bool"] ::
  .fa (.str "LETTERS" "abcdefghijklmnopqrstuvwxyz") ::
  .fa (.int "MOST_LETTERS" 8) ::
  .empty ::
  .fa (.cls "Frame") ::
  .fa (.cls "Block") ::
  .fa (.cls "Sheet") ::
  .fa (.cls "NotedSheet") ::
  .fa (.cls "BoundedSheet") ::
  .fa (.cls "NotedBoundedSheet") ::
  .fa (.noat "Frame" "heads") ::
  .fa (.noat "Frame" "lines") ::
  .fa (.noat "Block" "cells") ::
  .fa (.noat "Block" "sheets") ::
  .fa (.noat "Sheet" "heads") ::
  .fa (.noat "NotedSheet" "heads") ::
  .fa (.noat "BoundedSheet" "heads") ::
  .fa (.noat "NotedBoundedSheet" "heads") ::
  .fa (.noat "Sheet" "block_size") ::
  .fa (.noat "NotedSheet" "block_size") ::
  .fa (.noat "BoundedSheet" "block_size") ::
  .fa (.noat "NotedBoundedSheet" "block_size") ::
  .fa (.noat "Sheet" "total") ::
  .fa (.noat "NotedSheet" "total") ::
  .fa (.noat "BoundedSheet" "total") ::
  .fa (.noat "NotedBoundedSheet" "total") ::
  .fa (.noat "Sheet" "made") ::
  .fa (.noat "NotedSheet" "made") ::
  .fa (.noat "BoundedSheet" "made") ::
  .fa (.noat "NotedBoundedSheet" "made") ::
  .fa (.noat "Sheet" "opened") ::
  .fa (.noat "NotedSheet" "opened") ::
  .fa (.noat "BoundedSheet" "opened") ::
  .fa (.noat "NotedBoundedSheet" "opened") ::
  .fa (.noat "Sheet" "parts") ::
  .fa (.noat "NotedSheet" "parts") ::
  .fa (.noat "BoundedSheet" "parts") ::
  .fa (.noat "NotedBoundedSheet" "parts") ::
  .fa (.noat "Sheet" "bound") ::
  .fa (.noat "NotedSheet" "bound") ::
  .fa (.noat "BoundedSheet" "bound") ::
  .fa (.noat "NotedBoundedSheet" "bound") ::
  .fa (.noat "Sheet" "noted") ::
  .fa (.noat "NotedSheet" "noted") ::
  .fa (.noat "BoundedSheet" "noted") ::
  .fa (.noat "NotedBoundedSheet" "noted") ::
  .mk "Frame" "Frame" ::
  .mk "Block" "Block" ::
  .mk "Sheet" "Sheet" ::
  .mk "NotedSheet" "NotedSheet" ::
  .mk "BoundedSheet" "BoundedSheet" ::
  .mk "NotedBoundedSheet" "NotedSheet" ::
  .prop "Frame" "schema" "Frame" ::
  .prop "Frame" "rows" "Frame" ::
  .prop "Frame" "names" "Frame" ::
  .prop "Sheet" "schema" "Sheet" ::
  .prop "NotedSheet" "schema" "Sheet" ::
  .prop "BoundedSheet" "schema" "Sheet" ::
  .prop "NotedBoundedSheet" "schema" "Sheet" ::
  .meth "Frame" "column" "Frame" ::
  .meth "Frame" "__len__" "Frame" ::
  .meth "Sheet" "check_open" "Sheet" ::
  .meth "NotedSheet" "check_open" "Sheet" ::
  .meth "BoundedSheet" "check_open" "Sheet" ::
  .meth "NotedBoundedSheet" "check_open" "Sheet" ::
  .meth "Sheet" "check_row" "Sheet" ::
  .meth "NotedSheet" "check_row" "Sheet" ::
  .meth "BoundedSheet" "check_row" "Sheet" ::
  .meth "NotedBoundedSheet" "check_row" "Sheet" ::
  .meth "Sheet" "place_of" "Sheet" ::
  .meth "NotedSheet" "place_of" "Sheet" ::
  .meth "BoundedSheet" "place_of" "Sheet" ::
  .meth "NotedBoundedSheet" "place_of" "Sheet" ::
  .meth "Sheet" "own_block" "Sheet" ::
  .meth "NotedSheet" "own_block" "Sheet" ::
  .meth "BoundedSheet" "own_block" "Sheet" ::
  .meth "NotedBoundedSheet" "own_block" "Sheet" ::
  .meth "Sheet" "to_frame" "Sheet" ::
  .meth "NotedSheet" "to_frame" "Sheet" ::
  .meth "BoundedSheet" "to_frame" "Sheet" ::
  .meth "NotedBoundedSheet" "to_frame" "Sheet" ::
  .meth "Sheet" "twin" "Sheet" ::
  .meth "NotedSheet" "twin" "Sheet" ::
  .meth "BoundedSheet" "twin" "Sheet" ::
  .meth "NotedBoundedSheet" "twin" "Sheet" ::
  .meth "Sheet" "close" "Sheet" ::
  .meth "NotedSheet" "close" "Sheet" ::
  .meth "BoundedSheet" "close" "Sheet" ::
  .meth "NotedBoundedSheet" "close" "Sheet" ::
  .meth "Sheet" "shared" "Sheet" ::
  .meth "NotedSheet" "shared" "Sheet" ::
  .meth "BoundedSheet" "shared" "Sheet" ::
  .meth "NotedBoundedSheet" "shared" "Sheet" ::
  .meth "Sheet" "__len__" "Sheet" ::
  .meth "NotedSheet" "__len__" "Sheet" ::
  .meth "BoundedSheet" "__len__" "Sheet" ::
  .meth "NotedBoundedSheet" "__len__" "Sheet" ::
  .meth "Sheet" "put" "Sheet" ::
  .meth "NotedSheet" "put" "NotedSheet" ::
  .meth "BoundedSheet" "put" "Sheet" ::
  .meth "NotedBoundedSheet" "put" "NotedSheet" ::
  .meth "Sheet" "add_row" "Sheet" ::
  .meth "NotedSheet" "add_row" "NotedSheet" ::
  .meth "BoundedSheet" "add_row" "BoundedSheet" ::
  .meth "NotedBoundedSheet" "add_row" "NotedSheet" ::
  .meth "Sheet" "blank" "Sheet" ::
  .meth "NotedSheet" "blank" "NotedSheet" ::
  .meth "BoundedSheet" "blank" "BoundedSheet" ::
  .meth "NotedBoundedSheet" "blank" "NotedBoundedSheet" ::
  .meth "Sheet" "hold" "Sheet" ::
  .meth "NotedSheet" "hold" "NotedSheet" ::
  .meth "BoundedSheet" "hold" "BoundedSheet" ::
  .meth "NotedBoundedSheet" "hold" "NotedSheet" ::
  .sup "NotedSheet" "NotedSheet" "__init__" "Sheet" ::
  .sup "NotedBoundedSheet" "NotedSheet" "__init__" "BoundedSheet" ::
  .sup "BoundedSheet" "BoundedSheet" "__init__" "Sheet" ::
  .sup "NotedBoundedSheet" "BoundedSheet" "__init__" "Sheet" ::
  .sup "NotedSheet" "NotedSheet" "put" "Sheet" ::
  .sup "NotedBoundedSheet" "NotedSheet" "put" "Sheet" ::
  .sup "NotedSheet" "NotedSheet" "add_row" "Sheet" ::
  .sup "NotedBoundedSheet" "NotedSheet" "add_row" "BoundedSheet" ::
  .sup "BoundedSheet" "BoundedSheet" "add_row" "Sheet" ::
  .sup "NotedBoundedSheet" "BoundedSheet" "add_row" "Sheet" ::
  .sup "NotedSheet" "NotedSheet" "hold" "Sheet" ::
  .sup "NotedBoundedSheet" "NotedSheet" "hold" "BoundedSheet" ::
  .sup "BoundedSheet" "BoundedSheet" "hold" "Sheet" ::
  .sup "NotedBoundedSheet" "BoundedSheet" "hold" "Sheet" ::
  .stat ::
  .rd "Sheet" ::
  .cval "Sheet" "MOST_BLOCK" 100 ::
  .eqo "Sheet" ::
  .eqo "NotedSheet" ::
  .eqo "BoundedSheet" ::
  .eqo "NotedBoundedSheet" ::
  .mroS "Sheet" "Sheet" ::
  .mroS "Sheet" "NotedSheet" ::
  .mroS "Sheet" "BoundedSheet" ::
  .mroS "Sheet" "NotedBoundedSheet" ::
  .mroS "NotedSheet" "Sheet" ::
  .mroS "NotedSheet" "NotedSheet" ::
  .mroS "NotedSheet" "BoundedSheet" ::
  .mroS "NotedSheet" "NotedBoundedSheet" ::
  .mroS "BoundedSheet" "Sheet" ::
  .mroS "BoundedSheet" "NotedSheet" ::
  .mroS "BoundedSheet" "BoundedSheet" ::
  .mroS "BoundedSheet" "NotedBoundedSheet" ::
  .mroS "NotedBoundedSheet" "Sheet" ::
  .mroS "NotedBoundedSheet" "NotedSheet" ::
  .mroS "NotedBoundedSheet" "BoundedSheet" ::
  .mroS "NotedBoundedSheet" "NotedBoundedSheet" ::
  .kit "Frame" "Frame" ::
  .kit "Sheet" "Sheet" ::
  .kit "NotedSheet" "Sheet" ::
  .kit "BoundedSheet" "Sheet" ::
  .kit "NotedBoundedSheet" "Sheet" ::
  .find "Frame" "__class__" (.builtin "object.__class__") ::
  .find "Sheet" "__class__" (.builtin "object.__class__") ::
  .find "NotedSheet" "__class__" (.builtin "object.__class__") ::
  .find "BoundedSheet" "__class__" (.builtin "object.__class__") ::
  .find "NotedBoundedSheet" "__class__" (.builtin "object.__class__") ::
  .oget ::
  .otak ::
  .mroO "Frame" ::
  .mroO "Sheet" ::
  .mroO "NotedSheet" ::
  .mroO "BoundedSheet" ::
  .mroO "NotedBoundedSheet" ::
  .fa (.glo "law") :: []
def fn : List DL :=
  ⟨fun K => ga K "is_integer", "is_integer", "is_integer", (top 21), [], [], none⟩ ::
  ⟨fun K => ga K "is_name", "is_name", "is_name", (top 22), [], [], none⟩ ::
  ⟨fun K => ga K "is_kind", "is_kind", "is_kind", (top 23), [], [], none⟩ ::
  ⟨fun K => ga K "is_value", "is_value", "is_value", (top 24), [], [], none⟩ ::
  ⟨fun K => ga K "is_column", "is_column", "is_column", (top 25), [], [], none⟩ ::
  ⟨fun K => ga K "fault_in_schema", "fault_in_schema", "fault_in_schema", (top 26), [], [], none⟩ ::
  ⟨fun K => ga K "check_schema", "check_schema", "check_schema", (top 28), [], [], none⟩ ::
  ⟨fun K => ga K "fault_in_row", "fault_in_row", "fault_in_row", (top 29), [], [], none⟩ ::
  ⟨fun K => ga K "is_row", "is_row", "is_row", (top 30), [], [], none⟩ ::
  ⟨fun K => ga K "check_rows", "check_rows", "check_rows", (top 31), [], [], none⟩ ::
  ⟨fun K => ga K "cut_blocks", "cut_blocks", "cut_blocks", (top 49), [], [], none⟩ ::
  ⟨fun K => ga K "blank_frame", "blank_frame", "blank_frame", (top 50), [], [], none⟩ ::
  ⟨fun K => ga K "_law_cell", "_law_cell", "_law_cell", (top 56), [], [], none⟩ ::
  ⟨fun K => ga K "_law_pool", "_law_pool", "_law_pool", (top 57), [], [], none⟩ ::
  ⟨fun K => ga K "_law_draw", "_law_draw", "_law_draw", (top 58), [], [], none⟩ ::
  ⟨fun K => ga K "_law_calls", "_law_calls", "_law_calls", (top 59), [], [], none⟩ ::
  ⟨fun K => ga K "_law_worth", "_law_worth", "_law_worth", (top 60), [], [], none⟩ ::
  ⟨fun K => ga K "_law_heads", "_law_heads", "_law_heads", (top 61), [], [], none⟩ ::
  ⟨fun K => ga K "_law_lines", "_law_lines", "_law_lines", (top 62), [], [], none⟩ ::
  ⟨fun K => ga K "_law_small", "_law_small", "_law_small", (top 63), [], [], none⟩ ::
  ⟨fun K => ga K "_law_size", "_law_size", "_law_size", (top 64), [], [], none⟩ ::
  ⟨fun K => ga K "_law_drawn_write", "_law_drawn_write", "_law_drawn_write", (top 65), [], [], none⟩ ::
  ⟨fun K => ga K "_law_kind_of", "_law_kind_of", "_law_kind_of", (top 66), [], [], none⟩ ::
  ⟨fun K => ga K "_law_write", "_law_write", "_law_write", (top 67), [], [], none⟩ ::
  ⟨fun K => ga K "_law_step", "_law_step", "_law_step", (top 68), [], [], none⟩ ::
  ⟨fun K => ga K "_law_right", "_law_right", "_law_right", (top 69), [], [], none⟩ ::
  ⟨fun K => ga K "law", "law", "law", (top 70), [], [], none⟩ ::
  ⟨fun K => gtr K "Frame" "names", "names", "Frame.names", (inClass (top 46) 4), [], [], none⟩ ::
  ⟨fun K => gtr K "Frame" "schema", "schema", "Frame.schema", (inClass (top 46) 2), [], [], none⟩ ::
  ⟨fun K => gtr K "Frame" "rows", "rows", "Frame.rows", (inClass (top 46) 3), [], [], none⟩ ::
  ⟨fun K => ma K "Frame" "column", "column", "Frame.column", (inClass (top 46) 5), [], [], none⟩ ::
  ⟨fun K => ma K "Frame" "__len__", "__len__", "Frame.__len__", (inClass (top 46) 10), [], [], none⟩ ::
  ⟨fun K => ma K "Block" "__init__", "__init__", "Block.__init__", (inClass (top 48) 0), [], [], none⟩ ::
  ⟨fun K => gtr K "Sheet" "schema", "schema", "Sheet.schema", (inClass (top 51) 2), [], [], none⟩ ::
  ⟨fun K => ma K "Sheet" "__len__", "__len__", "Sheet.__len__", (inClass (top 51) 5), [], [], none⟩ ::
  ⟨fun K => ma K "Sheet" "check_open", "check_open", "Sheet.check_open", (inClass (top 51) 8), [], [], none⟩ ::
  ⟨fun K => ma K "Sheet" "check_row", "check_row", "Sheet.check_row", (inClass (top 51) 9), [], [], none⟩ ::
  ⟨fun K => ma K "Sheet" "place_of", "place_of", "Sheet.place_of", (inClass (top 51) 10), [], [], none⟩ ::
  ⟨fun K => ma K "Sheet" "own_block", "own_block", "Sheet.own_block", (inClass (top 51) 11), [], [], none⟩ ::
  ⟨fun K => ma K "Sheet" "put", "put", "Sheet.put", (inClass (top 51) 12), [], [], none⟩ ::
  ⟨fun K => ma K "Sheet" "add_row", "add_row", "Sheet.add_row", (inClass (top 51) 13), [], [], none⟩ ::
  ⟨fun K => ma K "Sheet" "to_frame", "to_frame", "Sheet.to_frame", (inClass (top 51) 14), [], [], none⟩ ::
  ⟨fun K => ma K "Sheet" "blank", "blank", "Sheet.blank", (inClass (top 51) 15), [], [], none⟩ ::
  ⟨fun K => ma K "Sheet" "hold", "hold", "Sheet.hold", (inClass (top 51) 16), [], [], none⟩ ::
  ⟨fun K => ma K "Sheet" "twin", "twin", "Sheet.twin", (inClass (top 51) 17), [], [], none⟩ ::
  ⟨fun K => ma K "Sheet" "close", "close", "Sheet.close", (inClass (top 51) 18), [], [], none⟩ ::
  ⟨fun K => ma K "Sheet" "shared", "shared", "Sheet.shared", (inClass (top 51) 19), [], [], none⟩ ::
  ⟨fun K => ma K "NotedSheet" "blank", "blank", "NotedSheet.blank", (inClass (top 52) 3), [], [], none⟩ ::
  ⟨fun K => ma K "BoundedSheet" "blank", "blank", "BoundedSheet.blank", (inClass (top 53) 5), [], [], none⟩ ::
  ⟨fun K => ma K "NotedBoundedSheet" "blank", "blank", "NotedBoundedSheet.blank", (inClass (top 54) 0), [], [], none⟩ ::
  ⟨fun K => ma K "Frame" "__init__", "__init__", "Frame.__init__", (inClass (top 46) 0), [.adr rows0At], [], none⟩ ::
  ⟨fun K => ma K "Sheet" "__init__", "__init__", "Sheet.__init__", (inClass (top 51) 1), [], [("block", .int 4)], none⟩ ::
  ⟨fun K => ma K "NotedSheet" "__init__", "__init__", "NotedSheet.__init__", (inClass (top 52) 0), [], [("block", .int 4)], some "NotedSheet"⟩ ::
  ⟨fun K => ma K "NotedSheet" "put", "put", "NotedSheet.put", (inClass (top 52) 1), [], [], some "NotedSheet"⟩ ::
  ⟨fun K => ma K "NotedSheet" "add_row", "add_row", "NotedSheet.add_row", (inClass (top 52) 2), [], [], some "NotedSheet"⟩ ::
  ⟨fun K => ma K "NotedSheet" "hold", "hold", "NotedSheet.hold", (inClass (top 52) 4), [], [], some "NotedSheet"⟩ ::
  ⟨fun K => ma K "BoundedSheet" "__init__", "__init__", "BoundedSheet.__init__", (inClass (top 53) 0), [], [("block", .int 4)], some "BoundedSheet"⟩ ::
  ⟨fun K => ma K "BoundedSheet" "add_row", "add_row", "BoundedSheet.add_row", (inClass (top 53) 4), [], [], some "BoundedSheet"⟩ ::
  ⟨fun K => ma K "BoundedSheet" "hold", "hold", "BoundedSheet.hold", (inClass (top 53) 6), [], [], some "BoundedSheet"⟩ :: []
def lawAt : Nat := 218
theorem tx_of {P : Program} {K : PySem.W.Frag} {h : Heap} {mg : Str → Option Value} (X : K.In h) (G : h.Ns mainGlobals mg) (hP : P.main.file = fileZ) (hT : (P.main.scope.names.lookup ("super" : Str)).isSome = false) (c : SaysL fileZ fa fn K) : TX P K mg where
  b_isinstance := He.free_ok X G (c.fact 0 (f := .fa (.free "isinstance")) rfl)
  b_int := He.free_ok X G (c.fact 1 (f := .fa (.free "int")) rfl)
  b_str := He.free_ok X G (c.fact 2 (f := .fa (.free "str")) rfl)
  b_bool := He.free_ok X G (c.fact 3 (f := .fa (.free "bool")) rfl)
  b_tuple := He.free_ok X G (c.fact 4 (f := .fa (.free "tuple")) rfl)
  b_all := He.free_ok X G (c.fact 5 (f := .fa (.free "all")) rfl)
  b_len := He.free_ok X G (c.fact 6 (f := .fa (.free "len")) rfl)
  b_list := He.free_ok X G (c.fact 7 (f := .fa (.free "list")) rfl)
  b_range := He.free_ok X G (c.fact 8 (f := .fa (.free "range")) rfl)
  b_enumerate := He.free_ok X G (c.fact 9 (f := .fa (.free "enumerate")) rfl)
  b_sum := He.free_ok X G (c.fact 10 (f := .fa (.free "sum")) rfl)
  b_zip := He.free_ok X G (c.fact 11 (f := .fa (.free "zip")) rfl)
  b_abs := He.free_ok X G (c.fact 12 (f := .fa (.free "abs")) rfl)
  b_divmod := He.free_ok X G (c.fact 13 (f := .fa (.free "divmod")) rfl)
  b_repr := He.free_ok X G (c.fact 14 (f := .fa (.free "repr")) rfl)
  b_max := He.free_ok X G (c.fact 15 (f := .fa (.free "max")) rfl)
  b_min := He.free_ok X G (c.fact 16 (f := .fa (.free "min")) rfl)
  b_super := He.free_ok X G (c.fact 17 (f := .fa (.free "super")) rfl)
  f_is_integer := c.fun 0 rfl rfl rfl
  g_is_integer := He.glo_ok X G (c.fact 18 (f := .fa (.glo "is_integer")) rfl)
  f_is_name := c.fun 1 rfl rfl rfl
  g_is_name := He.glo_ok X G (c.fact 19 (f := .fa (.glo "is_name")) rfl)
  f_is_kind := c.fun 2 rfl rfl rfl
  g_is_kind := He.glo_ok X G (c.fact 20 (f := .fa (.glo "is_kind")) rfl)
  f_is_value := c.fun 3 rfl rfl rfl
  g_is_value := He.glo_ok X G (c.fact 21 (f := .fa (.glo "is_value")) rfl)
  f_is_column := c.fun 4 rfl rfl rfl
  g_is_column := He.glo_ok X G (c.fact 22 (f := .fa (.glo "is_column")) rfl)
  f_fault_in_schema := c.fun 5 rfl rfl rfl
  g_fault_in_schema := He.glo_ok X G (c.fact 23 (f := .fa (.glo "fault_in_schema")) rfl)
  f_check_schema := c.fun 6 rfl rfl rfl
  g_check_schema := He.glo_ok X G (c.fact 24 (f := .fa (.glo "check_schema")) rfl)
  f_fault_in_row := c.fun 7 rfl rfl rfl
  g_fault_in_row := He.glo_ok X G (c.fact 25 (f := .fa (.glo "fault_in_row")) rfl)
  f_is_row := c.fun 8 rfl rfl rfl
  g_is_row := He.glo_ok X G (c.fact 26 (f := .fa (.glo "is_row")) rfl)
  f_check_rows := c.fun 9 rfl rfl rfl
  g_check_rows := He.glo_ok X G (c.fact 27 (f := .fa (.glo "check_rows")) rfl)
  f_cut_blocks := c.fun 10 rfl rfl rfl
  g_cut_blocks := He.glo_ok X G (c.fact 28 (f := .fa (.glo "cut_blocks")) rfl)
  f_blank_frame := c.fun 11 rfl rfl rfl
  g_blank_frame := He.glo_ok X G (c.fact 29 (f := .fa (.glo "blank_frame")) rfl)
  f__law_cell := c.fun 12 rfl rfl rfl
  g__law_cell := He.glo_ok X G (c.fact 30 (f := .fa (.glo "_law_cell")) rfl)
  f__law_pool := c.fun 13 rfl rfl rfl
  g__law_pool := He.glo_ok X G (c.fact 31 (f := .fa (.glo "_law_pool")) rfl)
  f__law_draw := c.fun 14 rfl rfl rfl
  g__law_draw := He.glo_ok X G (c.fact 32 (f := .fa (.glo "_law_draw")) rfl)
  f__law_calls := c.fun 15 rfl rfl rfl
  g__law_calls := He.glo_ok X G (c.fact 33 (f := .fa (.glo "_law_calls")) rfl)
  f__law_worth := c.fun 16 rfl rfl rfl
  g__law_worth := He.glo_ok X G (c.fact 34 (f := .fa (.glo "_law_worth")) rfl)
  f__law_heads := c.fun 17 rfl rfl rfl
  g__law_heads := He.glo_ok X G (c.fact 35 (f := .fa (.glo "_law_heads")) rfl)
  f__law_lines := c.fun 18 rfl rfl rfl
  g__law_lines := He.glo_ok X G (c.fact 36 (f := .fa (.glo "_law_lines")) rfl)
  f__law_small := c.fun 19 rfl rfl rfl
  g__law_small := He.glo_ok X G (c.fact 37 (f := .fa (.glo "_law_small")) rfl)
  f__law_size := c.fun 20 rfl rfl rfl
  g__law_size := He.glo_ok X G (c.fact 38 (f := .fa (.glo "_law_size")) rfl)
  f__law_drawn_write := c.fun 21 rfl rfl rfl
  g__law_drawn_write := He.glo_ok X G (c.fact 39 (f := .fa (.glo "_law_drawn_write")) rfl)
  f__law_kind_of := c.fun 22 rfl rfl rfl
  g__law_kind_of := He.glo_ok X G (c.fact 40 (f := .fa (.glo "_law_kind_of")) rfl)
  f__law_write := c.fun 23 rfl rfl rfl
  g__law_write := He.glo_ok X G (c.fact 41 (f := .fa (.glo "_law_write")) rfl)
  f__law_step := c.fun 24 rfl rfl rfl
  g__law_step := He.glo_ok X G (c.fact 42 (f := .fa (.glo "_law_step")) rfl)
  f__law_right := c.fun 25 rfl rfl rfl
  g__law_right := He.glo_ok X G (c.fact 43 (f := .fa (.glo "_law_right")) rfl)
  f_law := c.fun 26 rfl rfl rfl
  g_Frame := He.glo_ok X G (c.fact 44 (f := .fa (.glo "Frame")) rfl)
  g_Block := He.glo_ok X G (c.fact 45 (f := .fa (.glo "Block")) rfl)
  g_Sheet := He.glo_ok X G (c.fact 46 (f := .fa (.glo "Sheet")) rfl)
  g_NotedSheet := He.glo_ok X G (c.fact 47 (f := .fa (.glo "NotedSheet")) rfl)
  g_BoundedSheet := He.glo_ok X G (c.fact 48 (f := .fa (.glo "BoundedSheet")) rfl)
  g_NotedBoundedSheet := He.glo_ok X G (c.fact 49 (f := .fa (.glo "NotedBoundedSheet")) rfl)
  kinds := let ⟨o, its, n, h1, h2, h3, h4, h5⟩ := tup_at (c.fact 51 (f := .tup "KINDS" [.str "int", .str "text", .str "bool"]) rfl); ⟨_, o, its, n, He.glo_ok X G (c.fact 50 (f := .fa (.glo "KINDS")) rfl), h1, h2, h3, h4, h5⟩
  letters := He.str_ok X G (c.fact 52 (f := .fa (.str "LETTERS" "abcdefghijklmnopqrstuvwxyz")) rfl)
  most := He.int_ok X G (c.fact 53 (f := .fa (.int "MOST_LETTERS" 8)) rfl)
  f_Frame_names := c.fun 27 rfl rfl rfl
  f_Frame_schema := c.fun 28 rfl rfl rfl
  f_Frame_rows := c.fun 29 rfl rfl rfl
  f_Frame_column := c.fun 30 rfl rfl rfl
  f_Frame___len__ := c.fun 31 rfl rfl rfl
  f_Block___init__ := c.fun 32 rfl rfl rfl
  f_Sheet_schema := c.fun 33 rfl rfl rfl
  f_Sheet___len__ := c.fun 34 rfl rfl rfl
  f_Sheet_check_open := c.fun 35 rfl rfl rfl
  f_Sheet_check_row := c.fun 36 rfl rfl rfl
  f_Sheet_place_of := c.fun 37 rfl rfl rfl
  f_Sheet_own_block := c.fun 38 rfl rfl rfl
  f_Sheet_put := c.fun 39 rfl rfl rfl
  f_Sheet_add_row := c.fun 40 rfl rfl rfl
  f_Sheet_to_frame := c.fun 41 rfl rfl rfl
  f_Sheet_blank := c.fun 42 rfl rfl rfl
  f_Sheet_hold := c.fun 43 rfl rfl rfl
  f_Sheet_twin := c.fun 44 rfl rfl rfl
  f_Sheet_close := c.fun 45 rfl rfl rfl
  f_Sheet_shared := c.fun 46 rfl rfl rfl
  f_NotedSheet_blank := c.fun 47 rfl rfl rfl
  f_BoundedSheet_blank := c.fun 48 rfl rfl rfl
  f_NotedBoundedSheet_blank := c.fun 49 rfl rfl rfl
  rows0 := rows0_of (c.fact 54 (f := .empty) rfl) (c.funD 50 rfl rfl)
  f_Sheet___init__ := c.funD 51 rfl rfl
  f_NotedSheet___init__ := c.funS hP 52 rfl rfl rfl
  f_NotedSheet_put := c.funS hP 53 rfl rfl rfl
  f_NotedSheet_add_row := c.funS hP 54 rfl rfl rfl
  f_NotedSheet_hold := c.funS hP 55 rfl rfl rfl
  f_BoundedSheet___init__ := c.funS hP 56 rfl rfl rfl
  f_BoundedSheet_add_row := c.funS hP 57 rfl rfl rfl
  f_BoundedSheet_hold := c.funS hP 58 rfl rfl rfl
  c_Frame := He.cls_ok (c.fact 55 (f := .fa (.cls "Frame")) rfl)
  c_Block := He.cls_ok (c.fact 56 (f := .fa (.cls "Block")) rfl)
  c_sheet := fun k => match k with | .s => He.cls_ok (c.fact 57 (f := .fa (.cls "Sheet")) rfl) | .n => He.cls_ok (c.fact 58 (f := .fa (.cls "NotedSheet")) rfl) | .b => He.cls_ok (c.fact 59 (f := .fa (.cls "BoundedSheet")) rfl) | .nb => He.cls_ok (c.fact 60 (f := .fa (.cls "NotedBoundedSheet")) rfl)
  na_Frame_heads := He.noat_ok (c.fact 61 (f := .fa (.noat "Frame" "heads")) rfl)
  na_Frame_lines := He.noat_ok (c.fact 62 (f := .fa (.noat "Frame" "lines")) rfl)
  na_Block_cells := He.noat_ok (c.fact 63 (f := .fa (.noat "Block" "cells")) rfl)
  na_Block_sheets := He.noat_ok (c.fact 64 (f := .fa (.noat "Block" "sheets")) rfl)
  na_heads := fun k => match k with | .s => He.noat_ok (c.fact 65 (f := .fa (.noat "Sheet" "heads")) rfl) | .n => He.noat_ok (c.fact 66 (f := .fa (.noat "NotedSheet" "heads")) rfl) | .b => He.noat_ok (c.fact 67 (f := .fa (.noat "BoundedSheet" "heads")) rfl) | .nb => He.noat_ok (c.fact 68 (f := .fa (.noat "NotedBoundedSheet" "heads")) rfl)
  na_block_size := fun k => match k with | .s => He.noat_ok (c.fact 69 (f := .fa (.noat "Sheet" "block_size")) rfl) | .n => He.noat_ok (c.fact 70 (f := .fa (.noat "NotedSheet" "block_size")) rfl) | .b => He.noat_ok (c.fact 71 (f := .fa (.noat "BoundedSheet" "block_size")) rfl) | .nb => He.noat_ok (c.fact 72 (f := .fa (.noat "NotedBoundedSheet" "block_size")) rfl)
  na_total := fun k => match k with | .s => He.noat_ok (c.fact 73 (f := .fa (.noat "Sheet" "total")) rfl) | .n => He.noat_ok (c.fact 74 (f := .fa (.noat "NotedSheet" "total")) rfl) | .b => He.noat_ok (c.fact 75 (f := .fa (.noat "BoundedSheet" "total")) rfl) | .nb => He.noat_ok (c.fact 76 (f := .fa (.noat "NotedBoundedSheet" "total")) rfl)
  na_made := fun k => match k with | .s => He.noat_ok (c.fact 77 (f := .fa (.noat "Sheet" "made")) rfl) | .n => He.noat_ok (c.fact 78 (f := .fa (.noat "NotedSheet" "made")) rfl) | .b => He.noat_ok (c.fact 79 (f := .fa (.noat "BoundedSheet" "made")) rfl) | .nb => He.noat_ok (c.fact 80 (f := .fa (.noat "NotedBoundedSheet" "made")) rfl)
  na_opened := fun k => match k with | .s => He.noat_ok (c.fact 81 (f := .fa (.noat "Sheet" "opened")) rfl) | .n => He.noat_ok (c.fact 82 (f := .fa (.noat "NotedSheet" "opened")) rfl) | .b => He.noat_ok (c.fact 83 (f := .fa (.noat "BoundedSheet" "opened")) rfl) | .nb => He.noat_ok (c.fact 84 (f := .fa (.noat "NotedBoundedSheet" "opened")) rfl)
  na_parts := fun k => match k with | .s => He.noat_ok (c.fact 85 (f := .fa (.noat "Sheet" "parts")) rfl) | .n => He.noat_ok (c.fact 86 (f := .fa (.noat "NotedSheet" "parts")) rfl) | .b => He.noat_ok (c.fact 87 (f := .fa (.noat "BoundedSheet" "parts")) rfl) | .nb => He.noat_ok (c.fact 88 (f := .fa (.noat "NotedBoundedSheet" "parts")) rfl)
  na_bound := fun k => match k with | .s => He.noat_ok (c.fact 89 (f := .fa (.noat "Sheet" "bound")) rfl) | .n => He.noat_ok (c.fact 90 (f := .fa (.noat "NotedSheet" "bound")) rfl) | .b => He.noat_ok (c.fact 91 (f := .fa (.noat "BoundedSheet" "bound")) rfl) | .nb => He.noat_ok (c.fact 92 (f := .fa (.noat "NotedBoundedSheet" "bound")) rfl)
  na_noted := fun k => match k with | .s => He.noat_ok (c.fact 93 (f := .fa (.noat "Sheet" "noted")) rfl) | .n => He.noat_ok (c.fact 94 (f := .fa (.noat "NotedSheet" "noted")) rfl) | .b => He.noat_ok (c.fact 95 (f := .fa (.noat "BoundedSheet" "noted")) rfl) | .nb => He.noat_ok (c.fact 96 (f := .fa (.noat "NotedBoundedSheet" "noted")) rfl)
  mk_Frame := mk_at (c.fact 97 (f := .mk "Frame" "Frame") rfl)
  mk_Block := mk_at (c.fact 98 (f := .mk "Block" "Block") rfl)
  mk_s := mk_at (c.fact 99 (f := .mk "Sheet" "Sheet") rfl)
  mk_n := mk_at (c.fact 100 (f := .mk "NotedSheet" "NotedSheet") rfl)
  mk_b := mk_at (c.fact 101 (f := .mk "BoundedSheet" "BoundedSheet") rfl)
  mk_nb := mk_at (c.fact 102 (f := .mk "NotedBoundedSheet" "NotedSheet") rfl)
  p_Frame_schema := prop_at (c.fact 103 (f := .prop "Frame" "schema" "Frame") rfl)
  p_Frame_rows := prop_at (c.fact 104 (f := .prop "Frame" "rows" "Frame") rfl)
  p_Frame_names := prop_at (c.fact 105 (f := .prop "Frame" "names" "Frame") rfl)
  p_schema := fun k => match k with | .s => prop_at (c.fact 106 (f := .prop "Sheet" "schema" "Sheet") rfl) | .n => prop_at (c.fact 107 (f := .prop "NotedSheet" "schema" "Sheet") rfl) | .b => prop_at (c.fact 108 (f := .prop "BoundedSheet" "schema" "Sheet") rfl) | .nb => prop_at (c.fact 109 (f := .prop "NotedBoundedSheet" "schema" "Sheet") rfl)
  m_Frame_column := meth_at (c.fact 110 (f := .meth "Frame" "column" "Frame") rfl)
  m_Frame___len__ := meth_at (c.fact 111 (f := .meth "Frame" "__len__" "Frame") rfl)
  m_check_open := fun k => match k with | .s => meth_at (c.fact 112 (f := .meth "Sheet" "check_open" "Sheet") rfl) | .n => meth_at (c.fact 113 (f := .meth "NotedSheet" "check_open" "Sheet") rfl) | .b => meth_at (c.fact 114 (f := .meth "BoundedSheet" "check_open" "Sheet") rfl) | .nb => meth_at (c.fact 115 (f := .meth "NotedBoundedSheet" "check_open" "Sheet") rfl)
  m_check_row := fun k => match k with | .s => meth_at (c.fact 116 (f := .meth "Sheet" "check_row" "Sheet") rfl) | .n => meth_at (c.fact 117 (f := .meth "NotedSheet" "check_row" "Sheet") rfl) | .b => meth_at (c.fact 118 (f := .meth "BoundedSheet" "check_row" "Sheet") rfl) | .nb => meth_at (c.fact 119 (f := .meth "NotedBoundedSheet" "check_row" "Sheet") rfl)
  m_place_of := fun k => match k with | .s => meth_at (c.fact 120 (f := .meth "Sheet" "place_of" "Sheet") rfl) | .n => meth_at (c.fact 121 (f := .meth "NotedSheet" "place_of" "Sheet") rfl) | .b => meth_at (c.fact 122 (f := .meth "BoundedSheet" "place_of" "Sheet") rfl) | .nb => meth_at (c.fact 123 (f := .meth "NotedBoundedSheet" "place_of" "Sheet") rfl)
  m_own_block := fun k => match k with | .s => meth_at (c.fact 124 (f := .meth "Sheet" "own_block" "Sheet") rfl) | .n => meth_at (c.fact 125 (f := .meth "NotedSheet" "own_block" "Sheet") rfl) | .b => meth_at (c.fact 126 (f := .meth "BoundedSheet" "own_block" "Sheet") rfl) | .nb => meth_at (c.fact 127 (f := .meth "NotedBoundedSheet" "own_block" "Sheet") rfl)
  m_to_frame := fun k => match k with | .s => meth_at (c.fact 128 (f := .meth "Sheet" "to_frame" "Sheet") rfl) | .n => meth_at (c.fact 129 (f := .meth "NotedSheet" "to_frame" "Sheet") rfl) | .b => meth_at (c.fact 130 (f := .meth "BoundedSheet" "to_frame" "Sheet") rfl) | .nb => meth_at (c.fact 131 (f := .meth "NotedBoundedSheet" "to_frame" "Sheet") rfl)
  m_twin := fun k => match k with | .s => meth_at (c.fact 132 (f := .meth "Sheet" "twin" "Sheet") rfl) | .n => meth_at (c.fact 133 (f := .meth "NotedSheet" "twin" "Sheet") rfl) | .b => meth_at (c.fact 134 (f := .meth "BoundedSheet" "twin" "Sheet") rfl) | .nb => meth_at (c.fact 135 (f := .meth "NotedBoundedSheet" "twin" "Sheet") rfl)
  m_close := fun k => match k with | .s => meth_at (c.fact 136 (f := .meth "Sheet" "close" "Sheet") rfl) | .n => meth_at (c.fact 137 (f := .meth "NotedSheet" "close" "Sheet") rfl) | .b => meth_at (c.fact 138 (f := .meth "BoundedSheet" "close" "Sheet") rfl) | .nb => meth_at (c.fact 139 (f := .meth "NotedBoundedSheet" "close" "Sheet") rfl)
  m_shared := fun k => match k with | .s => meth_at (c.fact 140 (f := .meth "Sheet" "shared" "Sheet") rfl) | .n => meth_at (c.fact 141 (f := .meth "NotedSheet" "shared" "Sheet") rfl) | .b => meth_at (c.fact 142 (f := .meth "BoundedSheet" "shared" "Sheet") rfl) | .nb => meth_at (c.fact 143 (f := .meth "NotedBoundedSheet" "shared" "Sheet") rfl)
  m___len__ := fun k => match k with | .s => meth_at (c.fact 144 (f := .meth "Sheet" "__len__" "Sheet") rfl) | .n => meth_at (c.fact 145 (f := .meth "NotedSheet" "__len__" "Sheet") rfl) | .b => meth_at (c.fact 146 (f := .meth "BoundedSheet" "__len__" "Sheet") rfl) | .nb => meth_at (c.fact 147 (f := .meth "NotedBoundedSheet" "__len__" "Sheet") rfl)
  m_put := fun k => match k with | .s => meth_at (c.fact 148 (f := .meth "Sheet" "put" "Sheet") rfl) | .n => meth_at (c.fact 149 (f := .meth "NotedSheet" "put" "NotedSheet") rfl) | .b => meth_at (c.fact 150 (f := .meth "BoundedSheet" "put" "Sheet") rfl) | .nb => meth_at (c.fact 151 (f := .meth "NotedBoundedSheet" "put" "NotedSheet") rfl)
  m_add_row := fun k => match k with | .s => meth_at (c.fact 152 (f := .meth "Sheet" "add_row" "Sheet") rfl) | .n => meth_at (c.fact 153 (f := .meth "NotedSheet" "add_row" "NotedSheet") rfl) | .b => meth_at (c.fact 154 (f := .meth "BoundedSheet" "add_row" "BoundedSheet") rfl) | .nb => meth_at (c.fact 155 (f := .meth "NotedBoundedSheet" "add_row" "NotedSheet") rfl)
  m_blank := fun k => match k with | .s => meth_at (c.fact 156 (f := .meth "Sheet" "blank" "Sheet") rfl) | .n => meth_at (c.fact 157 (f := .meth "NotedSheet" "blank" "NotedSheet") rfl) | .b => meth_at (c.fact 158 (f := .meth "BoundedSheet" "blank" "BoundedSheet") rfl) | .nb => meth_at (c.fact 159 (f := .meth "NotedBoundedSheet" "blank" "NotedBoundedSheet") rfl)
  m_hold := fun k => match k with | .s => meth_at (c.fact 160 (f := .meth "Sheet" "hold" "Sheet") rfl) | .n => meth_at (c.fact 161 (f := .meth "NotedSheet" "hold" "NotedSheet") rfl) | .b => meth_at (c.fact 162 (f := .meth "BoundedSheet" "hold" "BoundedSheet") rfl) | .nb => meth_at (c.fact 163 (f := .meth "NotedBoundedSheet" "hold" "NotedSheet") rfl)
  s_NotedSheet_NotedSheet___init__ := sup_at (c.fact 164 (f := .sup "NotedSheet" "NotedSheet" "__init__" "Sheet") rfl)
  s_NotedBoundedSheet_NotedSheet___init__ := sup_at (c.fact 165 (f := .sup "NotedBoundedSheet" "NotedSheet" "__init__" "BoundedSheet") rfl)
  s_BoundedSheet_BoundedSheet___init__ := sup_at (c.fact 166 (f := .sup "BoundedSheet" "BoundedSheet" "__init__" "Sheet") rfl)
  s_NotedBoundedSheet_BoundedSheet___init__ := sup_at (c.fact 167 (f := .sup "NotedBoundedSheet" "BoundedSheet" "__init__" "Sheet") rfl)
  s_NotedSheet_NotedSheet_put := sup_at (c.fact 168 (f := .sup "NotedSheet" "NotedSheet" "put" "Sheet") rfl)
  s_NotedBoundedSheet_NotedSheet_put := sup_at (c.fact 169 (f := .sup "NotedBoundedSheet" "NotedSheet" "put" "Sheet") rfl)
  s_NotedSheet_NotedSheet_add_row := sup_at (c.fact 170 (f := .sup "NotedSheet" "NotedSheet" "add_row" "Sheet") rfl)
  s_NotedBoundedSheet_NotedSheet_add_row := sup_at (c.fact 171 (f := .sup "NotedBoundedSheet" "NotedSheet" "add_row" "BoundedSheet") rfl)
  s_BoundedSheet_BoundedSheet_add_row := sup_at (c.fact 172 (f := .sup "BoundedSheet" "BoundedSheet" "add_row" "Sheet") rfl)
  s_NotedBoundedSheet_BoundedSheet_add_row := sup_at (c.fact 173 (f := .sup "NotedBoundedSheet" "BoundedSheet" "add_row" "Sheet") rfl)
  s_NotedSheet_NotedSheet_hold := sup_at (c.fact 174 (f := .sup "NotedSheet" "NotedSheet" "hold" "Sheet") rfl)
  s_NotedBoundedSheet_NotedSheet_hold := sup_at (c.fact 175 (f := .sup "NotedBoundedSheet" "NotedSheet" "hold" "BoundedSheet") rfl)
  s_BoundedSheet_BoundedSheet_hold := sup_at (c.fact 176 (f := .sup "BoundedSheet" "BoundedSheet" "hold" "Sheet") rfl)
  s_NotedBoundedSheet_BoundedSheet_hold := sup_at (c.fact 177 (f := .sup "NotedBoundedSheet" "BoundedSheet" "hold" "Sheet") rfl)
  stat := He.eqO_ok (c.fact 178 (f := .stat) rfl)
  topSuper := hT
  rdSheet := rd_at (c.fact 179 (f := .rd "Sheet") rfl)
  mostBlock := cval_at (c.fact 180 (f := .cval "Sheet" "MOST_BLOCK" 100) rfl)
  eqo := fun k => match k with | .s => eqo_at (c.fact 181 (f := .eqo "Sheet") rfl) | .n => eqo_at (c.fact 182 (f := .eqo "NotedSheet") rfl) | .b => eqo_at (c.fact 183 (f := .eqo "BoundedSheet") rfl) | .nb => eqo_at (c.fact 184 (f := .eqo "NotedBoundedSheet") rfl)
  mro := fun k k' => match k, k' with | .s, .s => mroS_at (c.fact 185 (f := .mroS "Sheet" "Sheet") rfl) | .s, .n => mroS_at (c.fact 186 (f := .mroS "Sheet" "NotedSheet") rfl) | .s, .b => mroS_at (c.fact 187 (f := .mroS "Sheet" "BoundedSheet") rfl) | .s, .nb => mroS_at (c.fact 188 (f := .mroS "Sheet" "NotedBoundedSheet") rfl) | .n, .s => mroS_at (c.fact 189 (f := .mroS "NotedSheet" "Sheet") rfl) | .n, .n => mroS_at (c.fact 190 (f := .mroS "NotedSheet" "NotedSheet") rfl) | .n, .b => mroS_at (c.fact 191 (f := .mroS "NotedSheet" "BoundedSheet") rfl) | .n, .nb => mroS_at (c.fact 192 (f := .mroS "NotedSheet" "NotedBoundedSheet") rfl) | .b, .s => mroS_at (c.fact 193 (f := .mroS "BoundedSheet" "Sheet") rfl) | .b, .n => mroS_at (c.fact 194 (f := .mroS "BoundedSheet" "NotedSheet") rfl) | .b, .b => mroS_at (c.fact 195 (f := .mroS "BoundedSheet" "BoundedSheet") rfl) | .b, .nb => mroS_at (c.fact 196 (f := .mroS "BoundedSheet" "NotedBoundedSheet") rfl) | .nb, .s => mroS_at (c.fact 197 (f := .mroS "NotedBoundedSheet" "Sheet") rfl) | .nb, .n => mroS_at (c.fact 198 (f := .mroS "NotedBoundedSheet" "NotedSheet") rfl) | .nb, .b => mroS_at (c.fact 199 (f := .mroS "NotedBoundedSheet" "BoundedSheet") rfl) | .nb, .nb => mroS_at (c.fact 200 (f := .mroS "NotedBoundedSheet" "NotedBoundedSheet") rfl)
  isFrame := kit_at (c.fact 201 (f := .kit "Frame" "Frame") rfl)
  isSheet := fun k => match k with | .s => kit_at (c.fact 202 (f := .kit "Sheet" "Sheet") rfl) | .n => kit_at (c.fact 203 (f := .kit "NotedSheet" "Sheet") rfl) | .b => kit_at (c.fact 204 (f := .kit "BoundedSheet" "Sheet") rfl) | .nb => kit_at (c.fact 205 (f := .kit "NotedBoundedSheet" "Sheet") rfl)
  o_Frame := find_at (c.fact 206 (f := .find "Frame" "__class__" (.builtin "object.__class__")) rfl)
  o_sheet := fun k => match k with | .s => find_at (c.fact 207 (f := .find "Sheet" "__class__" (.builtin "object.__class__")) rfl) | .n => find_at (c.fact 208 (f := .find "NotedSheet" "__class__" (.builtin "object.__class__")) rfl) | .b => find_at (c.fact 209 (f := .find "BoundedSheet" "__class__" (.builtin "object.__class__")) rfl) | .nb => find_at (c.fact 210 (f := .find "NotedBoundedSheet" "__class__" (.builtin "object.__class__")) rfl)
  o_get := He.eqO_ok (c.fact 211 (f := .oget) rfl)
  o_tak := of_decide_eq_true (c.fact 212 (f := .otak) rfl)
  o_mroF := mroO_at (c.fact 213 (f := .mroO "Frame") rfl)
  o_mroS := fun k => match k with | .s => mroO_at (c.fact 214 (f := .mroO "Sheet") rfl) | .n => mroO_at (c.fact 215 (f := .mroO "NotedSheet") rfl) | .b => mroO_at (c.fact 216 (f := .mroO "BoundedSheet") rfl) | .nb => mroO_at (c.fact 217 (f := .mroO "NotedBoundedSheet") rfl)
end LF
set_option Elab.async false
set_option linter.all false
set_option maxRecDepth 100000
set_option maxHeartbeats 0
/-! The run of the top. -/
namespace LF
open PySem PySem.Spec PyProof.Rows L2
abbrev R : PySem.W.OpenRow := PySem.W.OpenLaw.row PySem.Challenge.rw_labelframes_k70_whole_no_write_is_seen_e
abbrev hk : PySem.W.Hook := hookL roots fileZ fa fn
def ob (s : PySem.W.SharedT) : AlL := obsLG roots fileZ fa fn (HandSHeadRun.getT s)
theorem ob_eq (s : PySem.W.SharedT) : ob s = hk.obs s.abs := obsLG_eq (HandSHeadRun.getT_eq s)
def loose : List Str := (["_wall", "FrameError", "InvalidSchema", "InvalidRows", "InvalidRow", "InvalidValue", "InvalidNumber", "InvalidText", "NotAFrame", "NotASheet", "FindError", "UnknownColumn", "Closed", "LimitError", "TooMany", "KINDS", "LETTERS", "DIGITS", "MOST_LETTERS", "is_integer", "is_name", "is_kind", "is_value", "is_column", "fault_in_schema", "is_schema", "check_schema", "fault_in_row", "is_row"] : List Str)
  ++ (["check_rows", "check_number", "quoted", "unquoted", "is_decimal", "value_text", "value_of_word", "head_text", "row_text", "frame_text", "cells_of", "row_of_line", "frame_of_text", "cell_text", "Frame", "Block", "cut_blocks", "blank_frame", "Sheet", "NotedSheet", "BoundedSheet", "NotedBoundedSheet"] : List Str)
  ++ (["_law_cell", "_law_pool", "_law_draw", "_law_calls", "_law_worth", "_law_heads", "_law_lines", "_law_small", "_law_size", "_law_drawn_write", "_law_kind_of", "_law_write", "_law_step", "_law_right"] : List Str)
theorem run (w : World) : HandSHeadRun.RunEq R (PySem.W.view R.prog [70]) hk ob 20000 loose w := by
  intro os
  kernel_rfl
end LF
set_option Elab.async false
set_option linter.all false
set_option maxRecDepth 100000
set_option maxHeartbeats 0
/-! The end. -/
open PySem PySem.W PySem.Calls PyProof.Rows
theorem PySem.Challenge.cw_labelframes_k70_whole_no_write_is_seen_e_holds : PySem.Challenge.rw_labelframes_k70_whole_no_write_is_seen_e.Holds := by
  w_on; o_law
  refine HandSHeadRun.head_any (r := OpenLaw.row PySem.Challenge.rw_labelframes_k70_whole_no_write_is_seen_e) (q := view (OpenLaw.row PySem.Challenge.rw_labelframes_k70_whole_no_write_is_seen_e).prog [70]) (H := LF.hk) (ob := LF.ob) (M := 20000) (loose := LF.loose) (d := HandSHeadRun.topDef (OpenLaw.row PySem.Challenge.rw_labelframes_k70_whole_no_write_is_seen_e).prog 70) (kwd := []) LF.ob_eq
    (by kernel_rfl) (fun s => by kernel_rfl) LF.run (by kernel_rfl) (by kernel_rfl) (by kernel_rfl) (by rfl) (by first | assumption | decide +kernel) (by decide +kernel) ⟨rfl, rfl, rfl, rfl, rfl, by decide +kernel⟩ ?hw ?hc
  case hw => w_witness2
  case hc =>
    refine LF.walk_ofG (l := PySem.Challenge.rw_labelframes_k70_whole_no_write_is_seen_e) (n := 63) (k := 13) (x := "_law_script") rfl (by decide) (by kernel_rfl) ⟨rfl, by decide, by decide⟩ ?F
    intro w mg fa h Y G hmg0
    obtain ⟨K, KX, c⟩ := Y
    have hmg : mg ("law" : PySem.Str) = some (.ref fa) := by
      have e : (HandSHeadRun.topDef (OpenLaw.row PySem.Challenge.rw_labelframes_k70_whole_no_write_is_seen_e).prog 70).name = ("law" : PySem.Str) := by kernel_rfl
      rw [← e]
      exact hmg0
    have hga := hmg.symm.trans (He.glo_ok KX G (LF.SaysL.fact c LF.lawAt (f := .fa (.glo "law")) rfl))
    cases hga
    have T := LF.tx_of (P := (PySem.Challenge.rw_labelframes_k70_whole_no_write_is_seen_e).prog) KX G (by kernel_rfl) (by kernel_rfl) c
    obtain ⟨fd, F0⟩ := T.f_law
    have b := L2.FunD.bindsA (ps := ["_law_script"]) (LF.toD F0) fun _ _ _ _ _ _ us hl => match us, hl with | [_], _ => rfl
    exact ⟨K, fd, LF.spLawL K, KX, fun s v => b s [v] rfl, fun H a ns hl _ hS => ⟨a, ns, rfl, hS, by omega, fun _ => rfl⟩, fun base _ _ => LF.ok_law T F0⟩
