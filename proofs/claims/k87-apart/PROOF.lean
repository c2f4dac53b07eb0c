import PyProof.Rows.All
import Wide.All
import OpenK.AllK
import Wide.FinOn
import KE.KSuper
import KE.KExcSuper
import KE.KExcInit
import HandS.Base
import HandS.Call
import HandS.List
import HandS.Exc
import HandS.ExcInit
import HandS.ExcSuper
import HandS.More
import HandS.Star
import HandS.Words
import HandS.WordsExc
import HandS.Defaults
import HandS.MakeKwOnly
import HandS.Lambda
import HandS.Nested
import HandS.Text
import HandS.Iter
import HandS.Comp
import HandS.Dict
import HandS.IsInst
import HandS.Flow
import KE.KBytesNew
import PyProof.RulesMatch
import HandS.Sort
import HandS.SortOrd
import HandS.SortRule
import HandS.SortInts
import PyProof.Rows.SortShellAny
import PyProof.NeKinds
import HandS.Head0
import HandS.Head1
import HandS.Head2
import HandS.HeadEnd
import HandS.HeadHook1
import HandS.HeadHook2
import HandS.HeadHook3
import HandS.HeadHook4
import HandS.HeadWalk
import HandS.ExcField
import HandS.Codes
import HandS.Walk
import HandS.WordsDict
import HandS.Style
import PySem.Challenge.RW_tarhouse_k87_whole_members_apart
set_option Elab.async false
set_option linter.all false
set_option maxRecDepth 100000
set_option maxHeartbeats 0
namespace TarK
open PySem PySem.Spec PyProof.Rows L2 LamX NdefX

/-! ### defs that say super() -/
/-- statements ahead of which the running code is the def itself -/
structure PAts (X : Cx) (body : List Stmt) (l : List Stmt) (t : TS) : Prop where
  run : ∀ (pins : List (Addr × Obj)) (s : Shared) (σ : L2.St) (H : Hp) (D : Ends), Inv X pins σ H s → t D σ H →
    _root_.PySem.wpAt (model X.prog X.w) X.A (.func body X.env) (execs l X.env) (SP X pins D) X.xe s
theorem pas_of {X : Cx} {body l : List Stmt} {t : TS} (h : PSs X l t) : PAts X body l t := ⟨fun pins s σ H D I q => wpAt_of_wpAny (h.run pins s σ H D I q)⟩
theorem pas_cons {X : Cx} {body rest : List Stmt} {st : Stmt} {t u : TS} (h1 : PS X st t) (h2 : PAts X body rest u) : PAts X body (st :: rest) (tSeq t u) := by
  refine ⟨fun pins s σ H D I h => ?_⟩
  refine ks_wpAt_execs_cons (wpAt_of_wpAny (thn (h1.run pins s σ H { D with nx := u D } I h) fun f s1 q => ?_))
  cases f with
  | next =>
    obtain ⟨σ', H', I', q⟩ := q
    exact h2.run pins s1 σ' H' D I' q
  | ret v => exact q
  | brk => exact q
  | cont => exact q

/-- what the frozen part says of a def with super(): D its class -/
structure SupDef (K : PySem.W.Frag) (P : Program) (F : NF) (f cc D : Addr) : Prop where
  cl : F.cl = [(("__class__" : PySem.Str), cc)]
  lk : ∃ (oc : Value) (od : Option Addr) (kV doc pm : Value) (an : Option Addr) (ct : Value) (osl : Array (Option Value)),
    K.lookup f = some ⟨oc, od, .func (PySem.W.fnX F.name F.qual F.params F.body F.scope F.cl .none kV doc pm an (.ref F.c) ct), osl⟩
  hcd : PySem.W.codeIn K (.ref F.c) F.qual = true
  code : ∃ (oc : Obj) (vs : Array Value) (file : Str) (tf : Tok), K.lookup F.c = some oc ∧ oc.data = .fields vs ∧ vs[2]? = some (.str file tf) ∧ ((P.main.file : Str) == file) = true
  cell : ∃ o : Obj, K.lookup cc = some o ∧ o.data = .cell (some (.ref D))
  cls : ∃ cd, PySem.W.clsIn K D = some cd
  sub : PySem.W.mroIn K D (.ref D) = some true
  no : PySem.W.nsIn K cStatics "thirdparty.any" = some none

section
variable {CX : CXT} {P : Program} {w : World} {K : PySem.W.Frag} {mg : Str → Option Value} {base : Heap} {N ps : List Str} {F : NF} {f cc D : Addr} {k : Nat}
/-- a def with super() runs -/
theorem run_sup {A : Around} {outer : List Env} {s : Shared} {H : Hp} {args : Args} {Q : VK} {E : XK} {G : List V → Hp → Prop} (T : SupDef K P F f cc D) (S : NScope N ps ["__class__"] F.scope) (hr : Room (k + 1) A) (e0 : Env0 P w K mg base A outer s H)
    (hb : ∀ (kV doc pm : Value) (an : Option Addr) (ct : Value), StX.Bnd CX P w K mg base (PySem.W.fnX F.name F.qual F.params F.body F.scope F.cl .none kV doc pm an (.ref F.c) ct) args ps A outer s H E G)
    (hbody : ∀ (s2 : Shared) (H2 : Hp) (vs : List V), G vs H2 → Room k (A.deeper (envF F f s2.heap.objs.size)) →
      ∃ t, PAts (ncx CX P w K mg base N F f A outer s2 H2 E) F.body F.body t ∧ t { nx := fun _ H' => Q .non H', rt := Q } (startF N vs [none]) H2) : codeAny (model P w) A (.call (.ref f) args) (CR CX outer P w H s Q E) s := by
  obtain ⟨oc, od, kV, doc, pm, an, ct, osl, lk⟩ := T.lk
  obtain ⟨ocl, lc, dcl⟩ := T.cell
  have KX : K.In s.heap := e0.mod.kin.keeps fun b o e => (e0.bs b o e).1
  refine codeAny_call_function hr.depth (KX _ _ lk) rfl S.co S.gen rfl (PySem.W.codeRec_of KX T.hcd) ?_
  refine hb kV doc pm an ct _ _ _ fun s2 H2 vs us e2 un ho hx r hl g => ?_
  have lim : s2.heap.NoLimit := e0.mod.nolimit.keeps fun b o e => (e2.bs b o e).1
  have cA : CellsAt F.cl ["__class__"] [none] s2.heap H2 := by
    have hcc := e2.bs _ _ (e0.mod.kin _ _ lc)
    have look : ∀ y c, F.cl.lookup y = some c → y = ("__class__" : PySem.Str) ∧ c = cc := fun y c q => by
      rw [T.cl] at q
      have z := List.mem_singleton.mp (PySem.mem_of_lookup q)
      exact ⟨congrArg Prod.fst z, congrArg Prod.snd z⟩
    refine ⟨rfl, fun y c q => ?_, fun x y c q1 q2 => ?_, fun i y q => ?_⟩
    · obtain ⟨_, rfl⟩ := look y c q
      exact ⟨hcc.2, _, ocl, hcc.1, dcl⟩
    · rw [(look x c q1).1, (look y c q2).1]
    · have hi : i = 0 := by
        cases i with
        | zero => rfl
        | succ i => cases i <;> cases q
      subst hi
      cases q
      exact ⟨cc, by rw [T.cl] <;> rfl, fun v z => by cases z⟩
  refine wpAny_newFunctionEnv S.nocell (fun ⟨n, _⟩ hy => S.par n (List.of_mem_zip hy).1) (fun h₁ hns hsb => ⟨lim.fresh _ hsb, ?_⟩) S.kind
  show codeAny _ _ (.func F.body (envF F f s2.heap.objs.size)) _ _
  refine ks_codeAny_funcAt ?_
  have kp : ∀ b o, s2.heap.get? b = some o → h₁.get? b = some o := fun b o e => hsb.extBut b o (Nat.ne_of_lt (Heap.lt_size e)) (Heap.get?_push_of_some _ e)
  obtain ⟨t, ht, hq⟩ := hbody s2 H2 vs g (hr.deeper _)
  have I : Inv (ncx CX P w K mg base N F f A outer s2 H2 E) [] (startF N vs [none]) H2 { s2 with heap := h₁, toks := s2.toks + (ps.zip us).length } := inv_startN S hr.hd e2 hl r cA hns kp
  refine ks_wpAt_mono (ht.run [] _ _ _ _ I hq) (fun fl s' hs => ?_) fun e s' hs => ?_
  · have fin : ∀ {σ' : L2.St} {H' : Hp} {v' : V} {u' : Value}, Inv (ncx CX P w K mg base N F f A outer s2 H2 E) [] σ' H' s' → RelV v' u' → Q v' H' → CE outer P w H s Q u' s' :=
      fun {σ' H' v' u'} J rv' q => ⟨v', H', J.os.trans ho, J.bare, un.trans J.base, J.hok, rv', q⟩
    cases fl with
    | ret u' =>
      obtain ⟨v', σ', H', J, rv', q⟩ := hs
      exact fin J rv' q
    | next =>
      obtain ⟨σ', H', J, q⟩ := hs
      exact fin (v' := V.non) (u' := Value.none) J rfl q
    | brk =>
      obtain ⟨_, _, _, q⟩ := hs
      exact False.elim q
    | cont =>
      obtain ⟨_, _, _, q⟩ := hs
      exact False.elim q
  · exact wpAny_mono hs (fun _ s'' z => hx e s'' z) fun e' s'' z => hx e' s'' z
end

section
variable {CX : CXT} {P : Program} {w : World} {K : PySem.W.Frag} {mg : Str → Option Value} {base : Heap} {N ps : List Str} {F : NF} {f f2 cc D : Addr} {k j : Nat}
/-- the object super() makes, and the method that is found behind it -/
theorem sup_obj {A : Around} {outer : List Env} {s0 : Shared} {H0 H : Hp} {E0' : XK} {pins : List (Addr × Obj)} {s : Shared} {σ : L2.St} {x : Addr} {ox : Obj} {od : Option Obj} {p0 p1 : Pos} {attr : Str} {whole : Sem Value} {ar : Arg} {Q : Value → Shared → Prop} {Ex : Value → Shared → Prop} {body : List Stmt}
    (T : SupDef K P F f cc D) (I : Inv (ncx CX P w K mg base N F f A outer s0 H0 E0') pins σ H s) (hm : mg "super" = none) (hp : (F.params.posonlyargs ++ F.params.args).head? = some ar) (hN : N[0]? = some ar.arg) (hx : σ[0]? = some (some (.ref x)))
    (J : PySem.W.InstAt s.heap x ox D od) (hks : F.scope.names.lookup ("super" : Str) = some .globalImplicit) (hkc : F.scope.names.lookup ("__class__" : Str) = some .free) (hka : F.scope.names.lookup ar.arg = some .local) (hkf : F.scope.kind = .function)
    (hat : (attr == ("__class__" : Str)) = false) (htop : (P.main.scope.names.lookup ("super" : Str)).isSome = false)
    (h : ∀ so s', Inv (ncx CX P w K mg base N F f A outer s0 H0 E0') pins σ H s' → (∀ b o, s.heap.get? b = some o → s'.heap.get? b = some o) → s'.heap.get? so = some (PySem.W.ks_superObj D x D) → Q (.ref so) s') :
    _root_.PySem.wpAt (model P w) (A.deeper (envF F f s0.heap.objs.size)) (.func body (envF F f s0.heap.objs.size)) (attributeBase (.Call (.Name "super" p0) [] [] p1) attr (envF F f s0.heap.objs.size) whole) Q Ex s := by
  obtain ⟨oc, od', kV, doc, pm, an, ct, osl, lk⟩ := T.lk
  obtain ⟨ocd, vs, file, tf, lcd, dcd, hvs, hfile⟩ := T.code
  obtain ⟨ocl, lc, dcl⟩ := T.cell
  obtain ⟨cd, hD⟩ := T.cls
  have KX : K.In s.heap := I.kIn
  have hcl := T.cl
  obtain ⟨oD, hD1, hD2⟩ : ∃ oD, s.heap.get? D = some oD ∧ oD.data = .cls cd := by
    unfold PySem.W.clsIn at hD
    split at hD
    · rename_i c d cd' sl ho
      cases hD
      exact ⟨_, KX _ _ ho, rfl⟩
    · cases hD
  have gl : s.heap.Ns mainGlobals mg := I.mod.glob.keeps I.bk
  obtain ⟨mb, hb1, hb2⟩ := I.mod.blt
  have bl : s.heap.Ns builtinsNs mb := hb1.keeps I.bk
  obtain ⟨m, hns, hl⟩ := I.loc
  obtain ⟨u, ru, lu⟩ := hl 0 ar.arg (.ref x) hN hx (.inl hka)
  obtain rfl : u = Value.ref x := ru
  have hself : m ar.arg = some (.ref x) := by
    rcases lu with ⟨_, e⟩ | ⟨z, _⟩
    · exact e
    · have z' : F.scope.names.lookup ar.arg = some .cell ∨ F.scope.names.lookup ar.arg = some .free := z
      rw [hka] at z'
      rcases z' with z' | z' <;> cases z'
  refine ks_wpAt_super_base (env := envF F f s0.heap.objs.size) hks hkc hat rfl (KX _ _ lk) rfl hp rfl (KX _ _ lcd) dcd hvs hfile htop ?_
  refine PySem.W.ks_loadName_global hkf hks (Calls.loadGlobal_builtin (env := envF F f s0.heap.objs.size) gl hm bl ((hb2 _ (by decide)).trans (by decide +kernel)) ⟨rfl, ?_⟩)
  refine wpAny_loadName_free (c := cc) hkf hkc (by show F.cl.lookup _ = _; rw [hcl] <;> rfl) ⟨_, KX _ _ lc, dcl⟩ ?_
  refine wpAny_loadName_local hkf hka hns hself ?_
  obtain ⟨hh, g, d, t, os⟩ := s
  refine ks_wpAny_isType_cls hD1 hD2 ⟨rfl, ?_⟩
  refine ks_wpAny_call_super hD1 hD2 J.at_ J.cls (fun c e => ?_) (PySem.W.looks_mroIn KX T.sub) (fun h' e kk => ?_)
  · have n := J.no
    unfold PySem.W.notCls at n
    rw [e] at n
    exact Bool.noConfusion n
  · exact h _ _ (I.kept (t' := t) kk) kk e
end
end TarK

namespace TarK
open PySem PySem.Spec PyProof.Rows L2 LamX NdefX
abbrev stSup (p0 p1 apos pos pos' : Pos) (es : List Expr) : Stmt := .Expr (.Call (.Attribute (.Call (.Name "super" p0) [] [] p1) "__init__" apos) es [] pos) pos'
/-- super().__init__(e, ..) of an instance of the class itself; the base's __init__ is f2 -/
def tSup (D f2 : Addr) (sp : Sp) (E : XK) (ta : TA) : TS := fun W σ H => ∃ (x dx : Addr) (fs : List (Str × V)), σ[0]? = some (some (.ref x)) ∧ H x = some (.ins D dx fs) ∧ ∀ q, H q = none → ta σ (upd H q (.met f2 x)) fun vs H1 =>
  H1 q = some (.met f2 x) ∧ sp (.ref x :: vs) H1 (fun _ H2 => W.nx σ H2) E
/-- what the frozen part says of the base's __init__ -/
structure SupMeth (K : PySem.W.Frag) (D f2 : Addr) : Prop where
  meth : PySem.W.ks_superIn K D D "__init__" = some (some (.ref f2))
  ty : PySem.W.typeIn K (.ref f2) = some (.type "function")
  fi : PySem.W.fnIn K f2 = true
section
variable {CX CX' : CXT} {P : Program} {w : World} {K : PySem.W.Frag} {mg : Str → Option Value} {base : Heap} {N ps : List Str} {F : NF} {f f2 cc D : Addr} {k j : Nat} {A : Around} {outer : List Env} {s0 : Shared} {H0 : Hp} {E0' : XK}
  {body rest : List Stmt} {ta : TA} {u : TS} {sp : Sp} {E : XK} {p0 p1 apos pos pos' : Pos} {e : Expr} {es : List Expr}
theorem pas_sup {ar : Arg} {pl : Env → Sem Bool} (T : SupDef K P F f cc D) (T2 : SupMeth K D f2) (G : FnR P w K mg base CX' j f2 sp) (hr : Room j (A.deeper (envF F f s0.heap.objs.size))) (hx : Passes CX' (ncx CX P w K mg base N F f A outer s0 H0 E0') E) (hm : mg "super" = none)
    (hp : (F.params.posonlyargs ++ F.params.args).head? = some ar) (hN : N[0]? = some ar.arg) (hks : F.scope.names.lookup ("super" : Str) = some .globalImplicit) (hkc : F.scope.names.lookup ("__class__" : Str) = some .free) (hka : F.scope.names.lookup ar.arg = some .local)
    (hkf : F.scope.kind = .function) (htop : (P.main.scope.names.lookup ("super" : Str)).isSome = false)
    (ha : PA (ncx CX P w K mg base N F f A outer s0 H0 E0') (e :: es) ta) (hrest : PAts (ncx CX P w K mg base N F f A outer s0 H0 E0') body rest u)
    (hc : ∀ env : Env, eval (.Call (.Attribute (.Call (.Name "super" p0) [] [] p1) "__init__" apos) (e :: es) [] pos) env = (do
      let ov ← attributeBase (.Call (.Name "super" p0) [] [] p1) "__init__" env (eval (.Call (.Name "super" p0) [] [] p1) env)
      standAt apos.atName
      let (f, first) ← holding [ov] (getMethod ov "__init__" (pl env))
      callWith pos f first (backTo pos (starEach (e :: es) env)) []) := by intro _; rfl)
    (he : ∀ env : Env, starEach (e :: es) env = (false, eval e env) :: starEach es env := by intro _; rfl) (hpl : ∀ env : Env, (backTo pos (starEach es env)).any (·.1) = false := by intro _; rfl) :
    PAts (ncx CX P w K mg base N F f A outer s0 H0 E0') body (stSup p0 p1 apos pos pos' (e :: es) :: rest) (tSeq (tSup D f2 sp E ta) u) := by
  refine ⟨fun pins s σ H W I h => ?_⟩
  obtain ⟨x, dx, fs, hx0, ea, q⟩ := h
  obtain ⟨mA, O, rr, _, _, _⟩ := ins_get I.hok ea
  obtain ⟨od, J, _⟩ := O.look
  have hxD : x ≠ D := by
    obtain ⟨cd, hc⟩ := T.cls
    exact PySem.W.ks_ne I.kIn J hc
  refine ks_wpAt_execs_cons (ks_wpAt_Expr_any (ks_wpAt_MethodCall (sup_obj T I hm hp hN hx0 J hks hkc hka hkf (by decide) htop fun so s1 I1 kk hso => ?_) (hc _)) I.quiet rfl)
  obtain ⟨cd, hc⟩ := T.cls
  have meth := T2.meth
  unfold PySem.W.ks_superIn at meth
  rw [hc] at meth
  obtain ⟨of, hof, hofc⟩ : ∃ of, s1.heap.get? f2 = some of ∧ of.cls = .type "function" := by
    have ht' : (K.lookup f2).map (·.cls) = some (.type "function") := T2.ty
    cases z : K.lookup f2 with
    | none => rw [z] at ht'; cases ht'
    | some of => rw [z] at ht'; exact ⟨of, I1.kIn _ _ z, Option.some.inj ht'⟩
  obtain ⟨hh, g, d, t, os⟩ := s1
  refine ks_wpAny_getMethod_super hso (PySem.W.looks_opaque I1.kIn T.no) (l₀ := cd.mro) (fun A' Q' E' s' k' q' => wpAny_bind ((PySem.W.looks_clsIn I1.kIn hc) A' _ E' s' k' (wpAny_pure q'))) rfl I1.kIn meth hof hofc hxD (by decide) ?_
  have hq0 : H hh.objs.size = none := I1.hok.fresh (Nat.le_refl _)
  have I2 : Inv (ncx CX P w K mg base N F f A outer s0 H0 E0') pins σ (upd H hh.objs.size (.met f2 x)) ⟨hh.push (PySem.W.methodObj (.ref f2) (.ref x)), g, d, t + 1, os⟩ :=
    I1.laid (t' := t + 1) (a := hh.objs.size) (o := .met f2 x) (fun b u z => Heap.get?_push_of_some _ z) (Nat.le_refl _)
      (show (hh.push (PySem.W.methodObj (.ref f2) (.ref x))).get? hh.objs.size = some (PySem.W.methodObj (.ref f2) (.ref x)) from Heap.get?_push_size hh rfl)
  refine callwith_met (X := ncx CX P w K mg base N F f A outer s0 H0 E0') (g := f2) (a := x) ?_ T2.fi ?_
  · rw [he]
    show ((false || (backTo pos (starEach es _)).any (·.1)) || false) = false
    rw [hpl]
    rfl
  · have hrun := ha.run pos pins _ σ _ _ I2 (q hh.objs.size hq0)
    rw [show starEach (e :: es) (ncx CX P w K mg base N F f A outer s0 H0 E0').env = (false, eval e (ncx CX P w K mg base N F f A outer s0 H0 E0').env) :: starEach es (ncx CX P w K mg base N F f A outer s0 H0 E0').env from he _] at hrun
    show wpAny _ _ (evalArgs _ true (backTo pos (starEach (e :: es) (ncx CX P w K mg base N F f A outer s0 H0 E0').env)) []) _ _ _
    rw [show starEach (e :: es) (ncx CX P w K mg base N F f A outer s0 H0 E0').env = (false, eval e (ncx CX P w K mg base N F f A outer s0 H0 E0').env) :: starEach es (ncx CX P w K mg base N F f A outer s0 H0 E0').env from he _]
    refine Calls.evalArgs_plain (thn hrun fun us s3 ⟨vs, H3, I3, r, hmet, hsp⟩ => ⟨met_P I3 hmet, ?_⟩)
    refine wpAny_call (call_met I3 hmet (codeAny_mono (run_fnR (us := Value.ref x :: us) (vs := V.ref x :: vs) G hr hx I3 (.cons rfl r) hsp) fun r4 s4 h4 => ?_))
    cases r4 with
    | error e4 => exact h4
    | ok fl =>
      cases fl with
      | ret u4 =>
        obtain ⟨v4, H4, I4, _, q4⟩ := h4
        exact hrest.run pins s4 σ H4 W I4 q4
      | next => exact h4
      | brk => exact h4
      | cont => exact h4
end
end TarK

namespace TarK
open PySem PySem.Spec PyProof.Rows L2 LamX NdefX
/-- the promise of a function called with keywords ks: positional values, the keywords' values -/
abbrev SpK := List V → List V → Hp → VK → XK → Prop
def FnRK (P : Program) (w : World) (K : PySem.W.Frag) (mg : Str → Option Value) (base : Heap) (CX : CXT) (k : Nat) (f : Addr) (ks : List Str) (sp : SpK) : Prop :=
  ∀ (A : Around) (outer : List Env) (s : Shared) (H : Hp) (us ws : List Value) (vs zs : List V) (Q : VK) (E : XK), Room k A → Env0 P w K mg base A outer s H → Vals vs us → Vals zs ws → sp vs zs H Q E →
    codeAny (model P w) A (.call (.ref f) ⟨us, ks.zip ws⟩) (CR CX outer P w H s Q E) s
section
variable {CX : CXT} {P : Program} {w : World} {K : PySem.W.Frag} {mg : Str → Option Value} {base : Heap} {N ps ks : List Str} {F : NF} {f cc D : Addr} {k n : Nat} {sp : SpK}
theorem fnRK_plain (T : SupDef K P F f cc D) (S : NScope N ps ["__class__"] F.scope) (hlen : ps.length = n + ks.length)
    (hb : ∀ (kV doc pm : Value) (an : Option Addr) (ct : Value) (us ws : List Value), us.length = n → ws.length = ks.length →
      bindArgs (PySem.W.fnX F.name F.qual F.params F.body F.scope F.cl .none kV doc pm an (.ref F.c) ct) ⟨us, ks.zip ws⟩ = pure (ps.zip (us ++ ws)))
    (len : ∀ vs zs H Q E, sp vs zs H Q E → vs.length = n ∧ zs.length = ks.length)
    (hbody : ∀ (A : Around) (outer : List Env) (s : Shared) (H : Hp) (vs zs : List V) (Q : VK) (E : XK), Room k (A.deeper (envF F f s.heap.objs.size)) → sp vs zs H Q E →
      ∃ t, PAts (ncx CX P w K mg base N F f A outer s H E) F.body F.body t ∧ t { nx := fun _ H' => Q .non H', rt := Q } (startF N (vs ++ zs) [none]) H) : FnRK P w K mg base CX (k + 1) f ks sp := by
  intro A outer s H us ws vs zs Q E hr e0 r rz hsp
  obtain ⟨l1, l2⟩ := len _ _ _ _ _ hsp
  refine run_sup T S hr e0 (G := fun xs H2 => xs = vs ++ zs ∧ H2 = H) (fun kV doc pm an ct A' Ex Q' h => ?_) fun s2 H2 xs ⟨ex, eH⟩ hr' => ?_
  · rw [hb kV doc pm an ct us ws (by rw [← r.length]; exact l1) (by rw [← rz.length]; exact l2)]
    exact wpAny_pure (h s H (vs ++ zs) (us ++ ws) e0 Un.refl rfl (fun _ _ z => z) (r.append rz) (by rw [List.length_append, l1, l2, hlen]) ⟨rfl, rfl⟩)
  · subst ex eH
    exact hbody A outer s2 _ vs zs Q E hr' hsp
theorem fnRK_star {pv : Str} (T : SupDef K P F f cc D) (S : NScope N (ps ++ [pv]) ["__class__"] F.scope) (hlen : ps.length = n + ks.length) (hCX : StX.CXUp CX)
    (hb : ∀ (kV doc pm : Value) (an : Option Addr) (ct : Value) (us rest ws : List Value), us.length = n → ws.length = ks.length →
      bindArgs (PySem.W.fnX F.name F.qual F.params F.body F.scope F.cl .none kV doc pm an (.ref F.c) ct) ⟨us ++ rest, ks.zip ws⟩ = (newTuple rest >>= fun t => pure (ps.zip (us ++ ws) ++ [(pv, t)])))
    (hbody : ∀ (A : Around) (outer : List Env) (s : Shared) (H : Hp) (vs zs : List V) (p : Addr) (Q : VK) (E : XK), Room k (A.deeper (envF F f s.heap.objs.size)) → sp vs (zs ++ [.ref p]) H Q E →
      ∃ t, PAts (ncx CX P w K mg base N F f A outer s H E) F.body F.body t ∧ t { nx := fun _ H' => Q .non H', rt := Q } (startF N (vs ++ zs ++ [.ref p]) [none]) H) :
    FnRK P w K mg base CX (k + 1) f ks (fun vs zs H Q E => ∃ v1 rest, vs = v1 ++ rest ∧ v1.length = n ∧ zs.length = ks.length ∧ rest.length ≤ sizeLine ∧ ∀ p, H p = none → sp v1 (zs ++ [.ref p]) (upd H p (.tup rest)) Q E) := by
  intro A outer s H us ws vs zs Q E hr e0 r rz hsp
  obtain ⟨v1, rest, ev, l1, l2, hz, hq⟩ := hsp
  subst ev
  obtain ⟨u1, u2, eu, r1, r2⟩ := StX.vals_split r
  subst eu
  have hn : H s.heap.objs.size = none := e0.hok.fresh (Nat.le_refl _)
  have k1 : u1.length = n := by rw [← r1.length]; exact l1
  have k2 : ws.length = ks.length := by rw [← rz.length]; exact l2
  have k3 : u2.length ≤ sizeLine := by rw [← r2.length]; exact hz
  refine run_sup T S hr e0 (G := fun xs H2 => ∃ p, H p = none ∧ xs = v1 ++ zs ++ [.ref p] ∧ H2 = upd H p (.tup rest)) (fun kV doc pm an ct A' Ex Q' h => ?_) fun s2 H2 xs ⟨p, hp, ex, eH⟩ hr' => ?_
  · rw [hb kV doc pm an ct u1 u2 ws k1 k2]
    refine wpAny_bind (wpAny_newTuple (wpAny_pure ?_) k3)
    have new : ObjOk P w (upd H s.heap.objs.size (.tup rest)) (s.heap.push ({ cls := .type "tuple", data := .seq u2.toArray } : Obj)) s.heap.objs.size (.tup rest) := ⟨hz, u2, r2, ⟨_, Heap.get?_push_size _ rfl, rfl, _, rfl⟩⟩
    have un := StX.un_laid (fs := frs outer) (s := s) (o := ({ cls := .type "tuple", data := .seq u2.toArray } : Obj)) (u := .tup rest) hn
    have z := h _ _ (v1 ++ zs ++ [V.ref s.heap.objs.size]) (u1 ++ ws ++ [Value.ref s.heap.objs.size]) (StX.env0_laid e0 new) un rfl (fun e s' => hCX outer s H _ _ E e s' un (fun b o q => Heap.get?_push_of_some _ q) rfl) ((r1.append rz).append (.cons rfl .nil))
      (by simp only [List.length_append, List.length_cons, List.length_nil, l1, l2, hlen]) ⟨_, hn, rfl, rfl⟩
    rw [List.zip_append (by rw [List.length_append, k1, k2, hlen])] at z
    exact z
  · subst ex eH
    exact hbody A outer s2 _ v1 zs p Q E hr' (hq p hp)
end
/-- C(e, .., k = v, ..), C's __init__ keeping sp -/
def tMakeRK (C : Addr) (sp : SpK) (E : XK) (t tk : TA) : TE := fun σ H Q => t σ H fun vs H1 => tk σ H1 fun zs H2 => ∀ x dx, H2 x = none → H2 dx = none → dx ≠ x →
  sp (.ref x :: vs) zs (upd (upd H2 dx (.own x)) x (.ins C dx [])) (fun v H3 => v = .non ∧ Q (.ref x) H3) E
section
variable {X : Cx} {CX : CXT} {k : Nat} {f C : Addr} {ks : List Str} {sp : SpK} {E : XK} {x : Str} {p pos : Pos} {e : Expr} {es : List Expr} {kws : List Keyword} {t tk : TA}
theorem pe_makeRK (M : Mk X.K C f) (F : FnRK X.prog X.w X.K X.mg X.base CX k f ks sp) (hr : Room (k + 1) X.A) (hg : Gl X x) (hm : X.mg x = some (.ref C)) (hx : Passes CX X E) (ha : PA X (e :: es) t) (hkw : PK X kws tk)
    (hall : (backToKw pos (keywordEach kws X.env)).all (·.1.isSome) = true := by rfl) (hks : (backToKw pos (keywordEach kws X.env)).filterMap (·.1) = ks := by rfl) (hdb : (x == ("__debug__" : Str)) = false := by decide)
    (he : starEach (e :: es) X.env = (false, eval e X.env) :: starEach es X.env := by rfl) (hpl : ((backTo pos (starEach (e :: es) X.env)).any (·.1) || (backToKw pos (keywordEach kws X.env)).any (·.1.isNone)) = false := by rfl) :
    PE X (.Call (.Name x p) (e :: es) kws pos) (tMakeRK C sp E t tk) := by
  refine ⟨fun pins s σ H Q I h => ?_⟩
  refine wpAny_Call_Name_kw (ld_glob I hg hm ?_ hdb)
  refine PySem.W.callWith_KW (h₀ := X.base) I.ok.mod.kin M.kp hall (thn (ha.run pos pins s σ H _ I h) fun us s1 ⟨vs, H1, I1, r, q⟩ => ?_) hpl he
  refine thn (hkw.run pos pins s1 σ H1 _ I1 q) fun ws s2 ⟨zs, H2, I2, rz, q2⟩ => ⟨I2.kIn, ?_⟩
  rw [hks]
  have hq := q2 (s2.heap.objs.size + 1) s2.heap.objs.size (I2.hok.fresh (Nat.le_succ _)) (I2.hok.fresh (Nat.le_refl _)) (Nat.ne_of_lt (Nat.lt_succ_self _))
  have I3 := Inv.made (C := C) I2
  refine wpAny_call (make_map (f := f) I2.kIn M.makes M.init (beq_iff_eq.mp M.fn) (codeAny_mono (F _ X.stack _ _ (Value.ref (s2.heap.objs.size + 1) :: us) ws (V.ref (s2.heap.objs.size + 1) :: vs) zs _ E (hr.make C us (ks.zip ws))
    (I3.env0.make C us (ks.zip ws)) (.cons rfl r) rz hq) fun r4 s' hq' => ?_))
  cases r4 with
  | error e4 => exact hx pins σ _ _ e4 s' I3 hq'
  | ok fl =>
    cases fl with
    | ret u =>
      obtain ⟨v, H', I4, rv, ev, q3⟩ := I3.after hq'
      subst ev
      exact ⟨rv, ⟨V.ref (s2.heap.objs.size + 1), H', I4, rfl, q3⟩⟩
    | next => exact False.elim hq'
    | brk => exact False.elim hq'
    | cont => exact False.elim hq'
end

/-! ### the raising: Refused, over RuntimeError -/
abbrev rtTail : List Value := [.type "RuntimeError", .type "Exception", .type "BaseException", .type "object"]
/-- what the frozen part says of a class over RuntimeError -/
structure RtC (K : PySem.W.Frag) (C : Addr) : Prop where
  cls : ∃ nm q N bs bm sn sub ab col dd k0 k1 k2 k3 k5, K.lookup C = some (excClassObj nm q C N bs bm true sn sub ab col dd k0 k1 k2 k3 k5 "RuntimeError.__new__") ∧ bm = rtTail
  sa : PySem.W.findIn K (.ref C) "__setattr__" = some (some (.builtin "object.__setattr__"))
  exC : PySem.W.subIn K (.ref C) (.type "BaseException") = some true
  rtE : PySem.W.subIn K (.ref C) (.type "RuntimeError") = some true
  tyC : PySem.W.typeIn K (.ref C) = some (.type "type")
  kC : PySem.W.keepIn K (.ref C) = true
theorem RtC.clsIn {K : PySem.W.Frag} {C : Addr} (T : RtC K C) : ∃ cd, PySem.W.clsIn K C = some cd ∧ cd.mro = .ref C :: rtTail ∧ cd.hasDict = true := by
  obtain ⟨nm, q, N, bs, bm, sn, sub, ab, col, dd, k0, k1, k2, k3, k5, hC, rfl⟩ := T.cls
  refine ⟨{ name := nm, bases := bs, mro := .ref C :: rtTail, ns := N, qualname := q, hasDict := true, slotNames := sn, subclasses := sub, abstract := ab, collection := col, hasDel := false }, ?_, rfl, rfl⟩
  unfold PySem.W.clsIn
  rw [hC] <;> rfl
theorem RtC.over {K : PySem.W.Frag} {C : Addr} (T : RtC K C) : PySem.W.excOver K C rtTail = true := by
  obtain ⟨cd, h1, h2, _⟩ := T.clsIn
  unfold PySem.W.excOver
  rw [h1]
  show (match cd.mro with | .ref C' :: bm => C' == C && PySem.W.excTail rtTail bm | _ => false) = true
  rw [h2]
  show (C == C && PySem.W.excTail rtTail rtTail) = true
  rw [beq_self_eq_true]
  decide +kernel
section
open Builtin Builtin.ObjectAttr
variable {prog : Program} {w : World} {A : Around} {E : Value → Shared → Prop} {R : Result → Shared → Prop} {hp : Heap} {g : Array GenState} {d : Drawn} {t : Nat} {os : OsState}
theorem takerNone {K : PySem.W.Frag} {C : Addr} {name : Str} (h : PySem.W.findIn K (.ref C) name = some none) : PySem.W.takerIn K C name = some none := by
  unfold PySem.W.takerIn
  rw [h] <;> rfl
/-- the first field: a dict is laid -/
theorem rt_new {K : PySem.W.Frag} {name : Str} {tk : Tok} {v : Value} {x C : Addr} {fv : Array Value} (T : RtC K C)
    (X : K.In hp) (hx : hp.get? x = some { cls := .ref C, data := .fields fv }) (ha : PySem.W.findIn K (.ref C) name = some none)
    (hq : ∀ h' tk' dx, (∀ b o, b ≠ x → hp.get? b = some o → h'.get? b = some o) → hp.objs.size ≤ dx → dx ≠ x → h'.get? x = some { cls := .ref C, dict := some dx, data := .fields fv } →
      h'.Ns1 dx (fun y => if y = name then some v else none) → R (.ok (.ret .none)) ⟨h', g, d, tk', os⟩) :
    codeAny (model prog w) A (.call (.builtin "object.__setattr__") ⟨[.ref x, .str name tk, v], []⟩) R ⟨hp, g, d, t, os⟩ := by
  obtain ⟨cd, hcd, hm, hh⟩ := T.clsIn
  have I : PySem.W.InstAt hp x { cls := .ref C, data := .fields fv } C none := ⟨hx, rfl, rfl, trivial⟩
  have hxs : x ≠ hp.objs.size := Nat.ne_of_lt (Heap.lt_size hx)
  refine PySem.W.osa_openX (s := ⟨hp, g, d, t, os⟩) F.store_RuntimeError X I T.over (takerNone ha) fun b => ?_
  have hcls : PySem.W.Looks (model prog w) hp (classData C) cd := PySem.W.looks_clsIn X hcd
  obtain ⟨nm, bs, mro, ns, qn, hd, sn, sb, ab, col, del⟩ := cd
  dsimp only at hh
  subst hh
  dsimp only
  unfold storeInOwnDict ownDictForStores
  repeat (first | with_reducible refine HandSPX.store_in_new ?_ ?_ | with_reducible refine wpAny_loadPart_at hx ?_ | with_reducible refine hcls.at ?_ | wp_step)
  · exact ⟨_, #[], _, (Heap.get?_update_ne _ _ _ _ hxs.symm).trans (Heap.get?_push_at rfl rfl), rfl, fun e he => absurd he (by simp), fun _ => rfl⟩
  · intro h' tk' hn' hs
    have hx₁ : (hp.push { cls := .type "dict", data := .dict #[] }).get? x = some { cls := .ref C, data := .fields fv } := Heap.get?_push_of_some _ hx
    refine hq h' tk' hp.objs.size (fun b o hb ho => ?_) (Nat.le_refl _) hxs.symm ?_ hn'
    · exact (hs.2 b (Nat.ne_of_lt (Heap.lt_size ho))).trans ((Heap.get?_update_ne _ _ _ _ hb).trans (Heap.get?_push_of_some _ ho))
    · exact (hs.2 x hxs).trans (Heap.get?_update_self _ hx₁ rfl)
/-- a further field -/
theorem rt_old {K : PySem.W.Frag} {name : Str} {tk : Tok} {v : Value} {x C dx : Addr} {fv : Array Value} {m0 : Str → Option Value} {nl : List Str} (T : RtC K C)
    (X : K.In hp) (hx : hp.get? x = some { cls := .ref C, dict := some dx, data := .fields fv }) (hns : hp.Ns1 dx m0) (hw : Within m0 nl) (hz : nl.length ≤ 1000) (ha : PySem.W.findIn K (.ref C) name = some none)
    (hq : ∀ h' tk', (∀ b o, b ≠ dx → hp.get? b = some o → h'.get? b = some o) → h'.Ns1 dx (fun y => if y = name then some v else m0 y) → R (.ok (.ret .none)) ⟨h', g, d, tk', os⟩) :
    codeAny (model prog w) A (.call (.builtin "object.__setattr__") ⟨[.ref x, .str name tk, v], []⟩) R ⟨hp, g, d, t, os⟩ := by
  obtain ⟨oD, esD, epD, hoD, hdD, _⟩ := hns.count hw
  obtain ⟨cd, hcd, hm, hh⟩ := T.clsIn
  have I : PySem.W.InstAt hp x { cls := .ref C, dict := some dx, data := .fields fv } C (some oD) := ⟨hx, rfl, rfl, hoD⟩
  refine PySem.W.osa_openX (s := ⟨hp, g, d, t, os⟩) F.store_RuntimeError X I T.over (takerNone ha) fun b => ?_
  have hcls : PySem.W.Looks (model prog w) hp (classData C) cd := PySem.W.looks_clsIn X hcd
  obtain ⟨nm, bs, mro, ns, qn, hd, sn, sb, ab, col, del⟩ := cd
  dsimp only at hh
  subst hh
  dsimp only
  unfold storeInOwnDict ownDictForStores
  repeat (first | with_reducible refine OEX.store_in_old hns hw hz ?_ | with_reducible refine wpAny_loadPart_at hx ?_ | with_reducible refine hcls.at ?_ | wp_step)
  intro h' tk' hn' hs
  exact hq h' tk' (fun b o hb ho => (hs.2 b hb).trans ho) hn'
end
end TarK

namespace TarK
open PySem PySem.Spec PyProof.Rows L2 LamX NdefX
section
variable {prog : Program} {w : World} {A : Around} {E : Value → Shared → Prop} {h : Heap} {g : Array GenState} {d : Drawn} {t : Nat} {os : OsState}
variable {nm q : Str} {C N : Addr} {bs bm : List Value} {hdct : Bool} {sn : List Str} {sub : List Value} {ab : Bool} {col : Option Bool} {dd : Option Addr} {k0 k1 k2 k3 k5 : Option Value}
/-- RuntimeError.__init__ bound to e, called -/
theorem rt_bound {u e t0 : Addr} {rest : List Value} {Q : Value → Shared → Prop}
    (hC : h.get? C = some (excClassObj nm q C N bs bm hdct sn sub ab col dd k0 k1 k2 k3 k5 "RuntimeError.__new__")) (he : h.get? e = some (HandSPX.excO C t0)) (hu : h.get? u = some (PySem.W.kxs_mw "RuntimeError.__init__" e)) (hrest : rest.length ≤ sizeLine)
    (hq : ∀ h' t1, (∀ b o, b ≠ e → h.get? b = some o → h'.get? b = some o) → h'.get? e = some (HandSPX.excO C t1) → Q .none ⟨h', g, d, t, os⟩) :
    wpAny (model prog w) A (call (.ref u) rest) Q E ⟨h, g, d, t, os⟩ := by
  refine wpAny_call (codeAny_of_tree ?_)
  show wpAny _ A.in1 (callAny (.ref u) ⟨rest, []⟩) _ _ _
  simp only [callAny]
  refine wpAny_bind (wpAny_load hu ?_)
  simp only [PySem.W.kxs_mw, show (Value.type "method-wrapper" == Value.type "method" || Value.type "method-wrapper" == Value.type "builtin_function_or_method" || Value.type "method-wrapper" == Value.type "method-wrapper") = true by decide, if_true]
  refine W.KFB.if_so (by decide) ?_
  refine wpAny_bind (ESX.check_bound F.excBase_RuntimeError hC he rfl ?_)
  refine wpAny_bind (wpAny_pure (wpAny_pure ?_))
  refine ⟨Code.quiet_builtin _ (by decide +kernel), codeAny_builtin F.excBase_RuntimeError.initEntry ?_⟩
  rw [Around.under_plainId F.excBase_RuntimeError.init.plain _]
  wp_walk
  refine hq _ h.objs.size (fun b o hb ho => ?_) ?_
  · rw [Heap.get?_update_other _ _ (Ne.symm hb)]
    exact Heap.get?_push_of_some _ ho
  · rw [Heap.get?_update_self _ (Heap.get?_push_of_some _ he) rfl]
    rfl
end
/-- super().__init__(e, ..) in the __init__ of an exception over RuntimeError -/
def tSupX (D : Addr) (ta : TA) : TS := fun W σ H => ∃ x : Addr, σ[0]? = some (some (.ref x)) ∧ H x = some (exo x D none) ∧ ta σ H fun vs H1 => vs.length ≤ 1000 ∧ H1 x = some (exo x D none) ∧ W.nx σ H1
section
variable {CX : CXT} {P : Program} {w : World} {K : PySem.W.Frag} {mg : Str → Option Value} {base : Heap} {N ps : List Str} {F : NF} {f cc D : Addr} {k j : Nat} {A : Around} {outer : List Env} {s0 : Shared} {H0 : Hp} {E0' : XK}
  {body rest : List Stmt} {ta : TA} {u : TS} {p0 p1 apos pos pos' : Pos} {e : Expr} {es : List Expr}
theorem exo_upd {H : Hp} {a C : Addr} (e : H a = some (exo a C none)) : upd H a (exo a C none) = H := by
  funext b
  by_cases hb : b = a
  · rw [hb, upd_same, e]
  · rw [upd_ne hb]
theorem pas_supx {ar : Arg} {pl : Env → Sem Bool} (T : SupDef K P F f cc D) (R : RtC K D) (hm : mg "super" = none)
    (hp : (F.params.posonlyargs ++ F.params.args).head? = some ar) (hN : N[0]? = some ar.arg) (hks : F.scope.names.lookup ("super" : Str) = some .globalImplicit) (hkc : F.scope.names.lookup ("__class__" : Str) = some .free) (hka : F.scope.names.lookup ar.arg = some .local)
    (hkf : F.scope.kind = .function) (htop : (P.main.scope.names.lookup ("super" : Str)).isSome = false)
    (ha : PA (ncx CX P w K mg base N F f A outer s0 H0 E0') (e :: es) ta) (hrest : PAts (ncx CX P w K mg base N F f A outer s0 H0 E0') body rest u)
    (hc : ∀ env : Env, eval (.Call (.Attribute (.Call (.Name "super" p0) [] [] p1) "__init__" apos) (e :: es) [] pos) env = (do
      let ov ← attributeBase (.Call (.Name "super" p0) [] [] p1) "__init__" env (eval (.Call (.Name "super" p0) [] [] p1) env)
      standAt apos.atName
      let (f, first) ← holding [ov] (getMethod ov "__init__" (pl env))
      callWith pos f first (backTo pos (starEach (e :: es) env)) []) := by intro _; rfl)
    (he : ∀ env : Env, starEach (e :: es) env = (false, eval e env) :: starEach es env := by intro _; rfl) (hpl : ∀ env : Env, (backTo pos (starEach es env)).any (·.1) = false := by intro _; rfl) :
    PAts (ncx CX P w K mg base N F f A outer s0 H0 E0') body (stSup p0 p1 apos pos pos' (e :: es) :: rest) (tSeq (tSupX D ta) u) := by
  refine ⟨fun pins s σ H W I h => ?_⟩
  obtain ⟨x, hx0, ea, q⟩ := h
  obtain ⟨t1, ho⟩ := exo_at I.hok ea
  have J : PySem.W.InstAt s.heap x { cls := .ref D, dict := none, data := .fields #[.ref t1, .none, .none, .none, .bool false, .none] } D none := ⟨ho, rfl, rfl, trivial⟩
  obtain ⟨cd, hcd, hmro, _⟩ := R.clsIn
  have hxD : x ≠ D := PySem.W.ks_ne I.kIn J hcd
  refine ks_wpAt_execs_cons (ks_wpAt_Expr_any (ks_wpAt_MethodCall (sup_obj T I hm hp hN hx0 J hks hkc hka hkf (by decide) htop fun so s1 I1 kk hso => ?_) (hc _)) I.quiet rfl)
  obtain ⟨hh, g, d, t, os⟩ := s1
  have J1 : PySem.W.InstAt hh x { cls := .ref D, dict := none, data := .fields #[.ref t1, .none, .none, .none, .bool false, .none] } D none := ⟨kk _ _ ho, rfl, rfl, trivial⟩
  have hI : PySem.W.Looks (model P w) hh (isInstance (.ref x) (.type "RuntimeError")) true := J1.type.andThen (PySem.W.looks_subIn I1.kIn R.rtE)
  refine PySem.W.kxs_getMethod PySem.W.kxs_RuntimeError (K := K) (l₀ := Value.ref D :: rtTail) (l := rtTail) hso (PySem.W.looks_opaque I1.kIn T.no) (fun A' Q' E' s' k' q' => wpAny_bind ((PySem.W.looks_clsIn I1.kIn hcd) A' _ E' s' k' (wpAny_pure (by rw [hmro]; exact q'))))
    (ESX.drop_own D rtTail) I1.kIn (by kernel_rfl) hI hxD (by decide) ?_
  have kp2 : ∀ b o, hh.get? b = some o → (hh.push (PySem.W.kxs_mw "RuntimeError.__init__" x)).get? b = some o := fun b o z => Heap.get?_push_of_some _ z
  have I2 := I1.kept (t' := t + 1) kp2
  have hu2 : (hh.push (PySem.W.kxs_mw "RuntimeError.__init__" x)).get? hh.objs.size = some (PySem.W.kxs_mw "RuntimeError.__init__" x) := Heap.get?_push_size hh rfl
  have hnone : H hh.objs.size = none := I1.hok.fresh (Nat.le_refl _)
  have I3 : Inv (ncx CX P w K mg base N F f A outer s0 H0 E0') (pins ++ [(hh.objs.size, PySem.W.kxs_mw "RuntimeError.__init__" x)]) σ H ⟨hh.push (PySem.W.kxs_mw "RuntimeError.__init__" x), g, d, t + 1, os⟩ := by
    refine I2.pins_of fun p hp => ?_
    rcases List.mem_append.mp hp with hp | hp
    · exact I2.pin p (List.mem_append_right _ hp)
    · rw [List.mem_singleton.mp hp]
      exact ⟨hu2, hnone, Nat.ne_of_gt I1.lt, I1.nofs (Nat.le_refl _), fun v z => by cases z⟩
  refine PySem.W.kxs_callWith (i := "RuntimeError.__init__") (x := x) ?_ ?_
  · rw [he]
    show (false || (backTo pos (starEach es _)).any (·.1)) = false
    rw [hpl]
    rfl
  · have hrun := ha.run pos _ _ σ _ _ I3 q
    rw [show starEach (e :: es) (ncx CX P w K mg base N F f A outer s0 H0 E0').env = (false, eval e (ncx CX P w K mg base N F f A outer s0 H0 E0').env) :: starEach es (ncx CX P w K mg base N F f A outer s0 H0 E0').env from he _] at hrun
    rw [show starEach (e :: es) (ncx CX P w K mg base N F f A outer s0 H0 E0').env = (false, eval e (ncx CX P w K mg base N F f A outer s0 H0 E0').env) :: starEach es (ncx CX P w K mg base N F f A outer s0 H0 E0').env from he _]
    refine Calls.evalArgs_plain (thn hrun fun us s4 ⟨vs, H4, I4, r, hz, ea4, hnx⟩ => ?_)
    have hpin := I4.pin (hh.objs.size, PySem.W.kxs_mw "RuntimeError.__init__" x) (List.mem_append_right _ (List.mem_append_right _ (List.mem_singleton.mpr rfl)))
    refine ⟨hpin.1, ?_⟩
    obtain ⟨nm, q', N', bs, bm, sn, sub, ab, col, dd, k0, k1, k2, k3, k5, hC, _⟩ := R.cls
    obtain ⟨t4, ho4⟩ := exo_at I4.hok ea4
    have I5 : Inv (ncx CX P w K mg base N F f A outer s0 H0 E0') pins σ H4 s4 := I4.pins_of fun p hp => I4.pin p (List.mem_append_right _ (List.mem_append_left _ hp))
    obtain ⟨h4, g4, d4, tk4, os4⟩ := s4
    refine rt_bound (I4.kIn _ _ hC) ho4 hpin.1 (by rw [List.nil_append, ← r.length, sizeLine_eq]; omega) fun h' t2 k hx => ?_
    have J5 := I5.write (t' := tk4) (x := x) (e := x) (o := exo x D none) (by rw [ea4]; exact True.intro) (.inl rfl) k ⟨_, hx⟩ (exo_ok hx)
    rw [exo_upd ea4] at J5
    exact hrest.run pins _ σ H4 W J5 hnx
end
end TarK

namespace TarK
open PySem PySem.Spec PyProof.Rows L2 LamX NdefX
section
variable {X : Cx} {pins : List (Addr × Obj)} {σ : L2.St} {H : Hp} {s : Shared} {a C dx : Addr} {f : Str} {y : V} {u : Value} {fs : List (Str × V)} {Q : Unit → Shared → Prop} {E : Value → Shared → Prop} {A : Around}
theorem rst_new (T : RtC X.K C) (I : Inv X pins σ H s) (e : H a = some (exo a C none)) (hno : PySem.W.findIn X.K (.ref C) f = some none) (ry : RelV y u)
    (h : ∀ dx s', H dx = none → dx ≠ a → Inv X pins σ (upd (upd H dx (exd dx [(f, y)])) a (exo a C (some dx))) s' → Q () s') : wpAny (model X.prog X.w) A (setAttr (.ref a) f u) Q E s := by
  obtain ⟨t1, ho⟩ := exo_at I.hok e
  obtain ⟨hp, g, d, t, os⟩ := s
  refine PySem.W.set_plain I.kIn (ox := { cls := .ref C, dict := none, data := .fields #[.ref t1, .none, .none, .none, .bool false, .none] }) (od := none) ⟨ho, rfl, rfl, trivial⟩ T.sa ?_
  refine rt_new T I.kIn ho hno (fun h' tk' dx k dn dne hx hn => ?_)
  have hnd : H dx = none := I.hok.fresh dn
  have nd : ∀ {b : Addr} {o : Obj}, hp.get? b = some o → b ≠ dx := fun {b o} q => Nat.ne_of_lt (Nat.lt_of_lt_of_le (Heap.lt_size q) dn)
  have na : ∀ {b : Addr}, H b = none → b ≠ a := fun {b} n z => by
    rw [z, e] at n
    cases n
  have Un1 : Un X.fs [] H (upd (upd H dx (exd dx [(f, y)])) a (exo a C (some dx))) hp h' := by
    refine ⟨fun b o q n _ _ => k b o (na n) q, fun b o q n _ _ => ⟨o.slots, k b o (na n) q⟩, fun b o q n _ => ?_, fun b o q _ => ?_, fun b xs q => ?_, fun b o v q => ?_, fun b ps q => ⟨#[], ?_⟩⟩
    · rw [upd_ne (na n), upd_ne (nd q)]
      exact n
    · by_cases hb : b = a
      · exact ⟨_, by rw [hb]; exact hx⟩
      · exact ⟨o, k b o hb q⟩
    · rw [upd_ne (at_ne e q exo_tup), upd_ne (ne_of_none q hnd)]
      exact q
    · rw [upd_ne (at_ne e q exo_frz), upd_ne (ne_of_none q hnd)]
      exact q
    · rw [upd_ne (at_ne e q exo_tbl), upd_ne (ne_of_none q hnd), q]
      simp
  refine h dx _ hnd dne (I.un (t' := tk') Un1 fun b o q => ?_)
  by_cases hb : b = a
  · subst hb
    rw [upd_same] at q
    cases q
    exact exo_ok hx
  · rw [upd_ne hb] at q
    by_cases hd : b = dx
    · subst hd
      rw [upd_same] at q
      cases q
      exact exd_ok hn (relO_put (fs := []) ry fun g => True.intro)
    · rw [upd_ne hd] at q
      refine (I.hok b o q).stay (fun c v hc z => k c v ?_ z) (fun c hc => ?_) fun c xs hc => ?_
      · rcases hc with hc | hc
        · rw [hc]
          exact hb
        · exact at_ne e hc exo_own
      · rw [upd_ne (at_ne e hc exo_own), upd_ne (ne_of_none hc hnd)]
        exact hc
      · rw [upd_ne (at_ne e hc exo_tup), upd_ne (ne_of_none hc hnd)]
        exact hc
theorem rst_old (T : RtC X.K C) (I : Inv X pins σ H s) (e : H a = some (exo a C (some dx))) (ed : H dx = some (exd dx fs)) (hl : fs.length ≤ 900) (hno : PySem.W.findIn X.K (.ref C) f = some none) (ry : RelV y u)
    (h : ∀ s', Inv X pins σ (upd H dx (exd dx ((f, y) :: fs))) s' → Q () s') : wpAny (model X.prog X.w) A (setAttr (.ref a) f u) Q E s := by
  obtain ⟨t1, ho⟩ := exo_at I.hok e
  obtain ⟨mA, hns, rel⟩ := exd_at I.hok ed
  have hw := within_of rel
  obtain ⟨hp, g, d, t, os⟩ := s
  obtain ⟨oD, _, _, hoD, _, _⟩ := hns.count hw
  refine PySem.W.set_plain I.kIn (ox := { cls := .ref C, dict := some dx, data := .fields #[.ref t1, .none, .none, .none, .bool false, .none] }) (od := some oD) ⟨ho, rfl, rfl, hoD⟩ T.sa ?_
  refine rt_old T I.kIn ho hns hw (by rw [List.length_map]; omega) hno (fun h' tk' k hn => ?_)
  have hd : ∃ o, h'.get? dx = some o := let ⟨o, _, _, e', _⟩ := hn; ⟨o, e'⟩
  exact h _ (I.write (t' := tk') (x := dx) (e := dx) (o := exd dx ((f, y) :: fs)) (by rw [ed]; exact True.intro) (.inl rfl) k hd (exd_ok hn (relO_put ry rel)))
end
/-- self.f = e of an exception over RuntimeError -/
def tRst (K : PySem.W.Frag) (C : Addr) (f : Str) (to te : TE) : TS := fun D σ H => te σ H fun y H1 => to σ H1 fun x H2 => ∃ a : Addr, x = .ref a ∧
  ((H2 a = some (exo a C none) ∧ ∀ dx, H2 dx = none → dx ≠ a → D.nx σ (upd (upd H2 dx (exd dx [(f, y)])) a (exo a C (some dx)))) ∨
    ∃ (dx : Addr) (fs : List (Str × V)), H2 a = some (exo a C (some dx)) ∧ H2 dx = some (exd dx fs) ∧ fs.length ≤ 900 ∧ D.nx σ (upd H2 dx (exd dx ((f, y) :: fs))))
section
variable {X : Cx} {o e : Expr} {es : List Expr} {to te : TE} {ta : TA} {f : Str} {p p' pos : Pos} {C : Addr}
theorem ps_rst (T : RtC X.K C) (hno : PySem.W.findIn X.K (.ref C) f = some none) (ho : PE X o to) (he : PE X e te) (hs : swapsWith e (some (.Attribute o f p')) pos.line X.env = pure false := by rfl) : PS X (.Assign [.Attribute o f p'] e pos) (tRst X.K C f to te) := by
  refine ⟨fun pins s σ H D I h => ?_⟩
  refine plainObj_wpAny_Assign_Attribute (thn (he.run pins s σ H _ I h) fun v s1 ⟨y, H1, I1, r1, q1⟩ => thn (ho.run pins s1 σ H1 _ I1 q1) fun u s2 ⟨x, H2, I2, r2, a, ex, q⟩ => ?_) hs
  subst ex
  obtain rfl : u = Value.ref a := r2
  rcases q with ⟨ea, q⟩ | ⟨dx, fs, ea, ed, hl, q⟩
  · exact rst_new T I2 ea hno r1 fun dx s' n ne J => ⟨σ, _, J, q dx n ne⟩
  · exact rst_old T I2 ea ed hl hno r1 fun s' J => ⟨σ, _, J, q⟩
/-- C(e, ..) that is raised, C over RuntimeError, its own __init__ keeping sp -/
theorem pmk_rt {CX : CXT} {x : Str} {fI : Addr} {k : Nat} {sp : Sp} (T : RtC X.K C) (iC : PySem.W.findIn X.K (.ref C) "__init__" = some (some (.ref fI))) (tI : PySem.W.typeIn X.K (.ref fI) = some (.type "function"))
    (F1 : FnR X.prog X.w X.K X.mg X.base CX k fI sp) (hr : Room (k + 1) X.A) (hx : Passes CX X (fun _ _ _ => False)) (hg : Gl X x) (hm : X.mg x = some (.ref C)) (ha : PA X (e :: es) ta)
    (hdb : (x == ("__debug__" : Str)) = false := by decide) (he : starEach (e :: es) X.env = (false, eval e X.env) :: starEach es X.env := by rfl) (hpl : (backTo pos (starEach es X.env)).any (·.1) = false := by rfl) :
    PMk X (.Call (.Name x p) (e :: es) [] pos) (tMkO C sp [] ta) := by
  intro pins s σ H Q I h
  obtain ⟨nm, q, N, bs, bm, sn, sub, ab, col, dd, k0, k1, k2, k3, k5, hC, hbm⟩ := T.cls
  subst hbm
  refine wpAny_Call_Name_kw (ld_glob I hg hm ?_ hdb)
  refine PySem.W.callWith_K (h₀ := X.base) I.ok.mod.kin T.kC (thn (ha.run pos pins s σ H _ I h) fun us s1 ⟨vs, H1, I1, r1, hz, q1⟩ => ⟨I1.kIn, ?_⟩) he hpl
  show wpAny _ _ (call (.ref C) us) _ _ _
  obtain ⟨hp, g, dr, tk, os⟩ := s1
  have hsz : hp.objs.size ≤ hp.objs.size + 1 := Nat.le_succ _
  have hq := q1 (hp.objs.size + 1) (I1.hok.fresh hsz)
  have kk : ∀ b o, hp.get? b = some o → ((hp.push (PySem.W.kdv_tup us)).push (HandSPX.excO C hp.objs.size)).get? b = some o := fun b o e => Heap.get?_push_of_some _ (Heap.get?_push_of_some _ e)
  have hget : ((hp.push (PySem.W.kdv_tup us)).push (HandSPX.excO C hp.objs.size)).get? (hp.objs.size + 1) = some (HandSPX.excO C hp.objs.size) := by heap_get
  have I2 : Inv X pins σ (upd H1 (hp.objs.size + 1) (exo (hp.objs.size + 1) C none)) ⟨(hp.push (PySem.W.kdv_tup us)).push (HandSPX.excO C hp.objs.size), g, dr, tk, os⟩ :=
    I1.laid (t' := tk) (a := hp.objs.size + 1) (o := exo (hp.objs.size + 1) C none) kk hsz (exo_ok hget)
  rw [List.append_nil] at hq
  have hus : us.length ≤ sizeLine := by
    rw [← Paired.length r1, sizeLine_eq]
    omega
  refine wpAny_call (HandSPX.call_own F.excBase_RuntimeError (fun Y => rfl) (I1.kIn _ _ hC) (PySem.W.looks_findIn I1.kIn iC) (fun self => PySem.W.bind_fn I1.kIn self tI) hus
    (codeAny_mono (F1 _ X.stack _ _ (Value.ref (hp.objs.size + 1) :: us) (V.ref (hp.objs.size + 1) :: vs) _ (fun _ _ _ => False) (hr.make C us []) (I2.env0.make C us []) (.cons rfl r1) hq) fun r s' hq' => ?_))
  cases r with
  | error er => exact hx pins σ _ _ er s' I2 hq'
  | ok fl =>
    cases fl with
    | ret u =>
      obtain ⟨v, H2, os2, bare2, un2, hok2, rv, ev, d, fs, ea, ed, hd1, q2⟩ := hq'
      subst ev
      obtain ⟨h2, g2, d2, t2, os'⟩ := s'
      exact ⟨rv, mk_end (raises_own T.exC T.tyC) I1 hsz kk un2 hok2 os2 bare2 ea ed hd1 q2⟩
    | next => exact False.elim hq'
    | brk => exact False.elim hq'
    | cont => exact False.elim hq'
end
end TarK

namespace TarK
open PySem PySem.Spec PyProof.Rows L2 LamX NdefX
/-! ### match over texts -/
structure PMs (X : Cx) (cases : List MatchCase) (t : Str → TS) : Prop where
  run : ∀ (z : Str) (tk : Tok) (first : Bool) (pins : List (Addr × Obj)) (s : Shared) (σ : L2.St) (H : Hp) (D : Ends), Inv X pins σ H s → t z D σ H →
    wpAny (model X.prog X.w) X.A (matchCases cases X.env (.str z tk) first) (SP X pins D) X.xe s
def tMNil : Str → TS := fun _ D σ H => D.nx σ H
def tMCase (x : Str) (tb : TS) (tr : Str → TS) : Str → TS := fun z D σ H => if z = x then tb D σ H else tr z D σ H
def tMAny (tb : TS) : Str → TS := fun _ => tb
def tMatch (te : TE) (t : Str → TS) : TS := fun D σ H => te σ H fun v H1 => ∃ z, v = .str z ∧ t z D σ H1
section
variable {X : Cx} {x : Str} {j : Nat} {p1 p2 pos : Pos} {body : List Stmt} {rest : List MatchCase} {tb : TS} {tr : Str → TS} {e : Expr} {te : TE}
theorem pms_nil : PMs X [] tMNil := ⟨fun z tk first pins s σ H D I h => wpAny_matchCases_nil ⟨σ, H, I, h⟩⟩
theorem pms_case (hb : PSs X body tb) (hr : PMs X rest tr) : PMs X (⟨.MatchValue (.Constant (.str x) j p2) p1, none, body⟩ :: rest) (tMCase x tb tr) := by
  refine ⟨fun z tk first pins s σ H D I h => ?_⟩
  have h : (if z = x then tb D σ H else tr z D σ H) := h
  refine wpAny_matchCases_cons (wpAny_matchPattern_Value (thn ((pe_str (X := X) (x := x) (j := j) (pos := p2)).run pins s σ H (fun v H1 => v = .str x ∧ H1 = H) I ⟨rfl, rfl⟩) fun u s1 ⟨v, H1, I1, r1, ev, eH⟩ => ?_))
  subst ev eH
  refine thn (op_eq pins s1 σ H1 (.str z) (.str x) (.str z tk) u (fun v H2 => v = .bl (decide (V.str z = V.str x)) ∧ H2 = H1) I1 ⟨tk, rfl⟩ r1 ⟨rfl, rfl, rfl⟩) fun c s2 ⟨v2, H2, I2, r2, ev, eH⟩ => ?_
  subst ev eH
  obtain rfl : c = Value.bool (decide (V.str z = V.str x)) := r2
  refine wpAny_truthy_bool ?_
  by_cases hz : z = x
  · subst hz
    rw [if_pos rfl] at h
    rw [decide_eq_true rfl]
    exact wpAny_assignInOrder_none (hb.run pins s2 σ H2 D I2 h)
  · rw [if_neg hz] at h
    rw [decide_eq_false (fun q => hz (V.str.inj q))]
    exact hr.run z tk false pins s2 σ H2 D I2 h
theorem pms_any (hb : PSs X body tb) : PMs X (⟨.MatchAs none none p1, none, body⟩ :: rest) (tMAny tb) :=
  ⟨fun z tk first pins s σ H D I h => wpAny_matchCases_cons (wpAny_matchPattern_Capture (wpAny_assignInOrder_none (hb.run pins s σ H D I h)))⟩
theorem ps_match {cases : List MatchCase} {t : Str → TS} (he : PE X e te) (h : PMs X cases t) : PS X (.Match e cases pos) (tMatch te t) := by
  refine ⟨fun pins s σ H D I q => ?_⟩
  refine wpAny_Match (thn (he.run pins s σ H _ I q) fun u s1 ⟨v, H1, I1, r1, z, ev, q1⟩ => ?_)
  subst ev
  obtain ⟨tk, rfl⟩ := r1
  exact h.run z tk true pins s1 σ H1 D I1 q1
end
/-! ### bytes() and bytes(n) -/
section
variable {prog : Program} {w : World} {A : Around} {E : Value → Shared → Prop} {s : Shared}
theorem by0_check : checkTypeCall "bytes" ⟨[], []⟩ = pure () := by kernel_rfl
theorem by0_new : checkBuiltinCall "bytes.__new__" ⟨[.type "bytes"], []⟩ = pure () := by kernel_rfl
theorem by0_bind : Builtin.Bytes.bindOptional "bytes.__new__" "bytes" ["source", "encoding", "errors"] [] [] = pure [none, none, none] := by kernel_rfl
theorem by0_code {Q : Value → Shared → Prop} (hQ : ∀ t k, Q (.bytes #[] t) { s with toks := k }) :
    codeAny (model prog w) A (.call (.builtin "bytes.__new__") ⟨[.type "bytes"], []⟩) (wants Q E) s := by
  refine codeAny_of_tree ?_
  show wpAny _ A.in1 (do checkBuiltinCall "bytes.__new__" ⟨[.type "bytes"], []⟩; again (.builtin "bytes.__new__" ⟨[.type "bytes"], []⟩)) _ _ s
  refine wpAny_bind (wpAny_of_eq by0_new (wpAny_pure ⟨plainId_quiet F.bm_plain _, codeAny_builtin F.bm_entry ?_⟩))
  rw [Around.under_plainId F.bm_plain _]
  unfold Builtin.«bytes.__new__»
  refine wpAny_bind (wpAny_of_eq (a := true) rfl ?_)
  refine bm_if_false rfl ?_
  refine wpAny_bind (wpAny_of_eq F.bm_sub ?_)
  refine bm_if_false rfl ?_
  refine wpAny_bind (wpAny_of_eq by0_bind ?_)
  refine wpAny_bind (wpAny_of_eq (a := ()) rfl ?_)
  refine wpAny_bind (wpAny_of_eq (a := ()) rfl ?_)
  dsimp only
  refine bm_if_false rfl ?_
  refine wpAny_bind (wpAny_mkBytes ?_ (by show (0 : Nat) ≤ sizeLine; exact Nat.zero_le _))
  show wpAny _ _ (if (Value.type "bytes" == Value.type "bytes") = true then _ else _) _ _ _
  refine bm_if_true (by decide) ?_
  first
    | exact wpAny_pure (hQ _ _)
    | exact wpAny_bind (wpAny_pure (wpAny_pure (hQ _ _)))
theorem by0_call {Q : Value → Shared → Prop} (hQ : ∀ t k, Q (.bytes #[] t) { s with toks := k }) : wpAny (model prog w) A (call (.type "bytes") []) Q E s := by
  refine callType_codes (Q₁ := fun obj s₁ => s₁.TypeIs obj "bytes" ∧ Q obj s₁) F.bm_called by0_check F.entry_object_init
    (by0_code fun t k => ⟨PySem.W.typeIs_bytes _ _ _, hQ t k⟩) fun obj s₁ h₁ => ?_
  exact ⟨h₁.1, F.args_object_init_1 obj, object_init_meets F.bm_called.init.lookup F.bm_called.made (by decide) prog w A.in1 _ s₁ ⟨h₁.1, rfl, h₁.2⟩⟩
end
theorem cr_bytes0 {X : Cx} : CallR X (.type "bytes") (fun xs H Q => xs = [] ∧ Q (.byt #[]) H) := fun pins s σ H xs us Q I r h => by
  obtain ⟨rfl, q⟩ := h
  cases r
  exact by0_call fun t k => ⟨.byt #[], H, I.tok k, ⟨t, rfl⟩, q⟩
theorem cr_bytesN {X : Cx} : CallR X (.type "bytes") (fun xs H Q => ∃ n : Int, xs = [.int n] ∧ 0 ≤ n ∧ n ≤ 16777216 ∧ Q (.byt (Array.replicate n.toNat 0)) H) := fun pins s σ H xs us Q I r h => by
  obtain ⟨n, rfl, h0, hz, q⟩ := h
  obtain ⟨u, rfl, rx⟩ := vals1 r
  obtain ⟨t0, rfl⟩ := rx
  exact call_bytes_size h0 hz fun t k => ⟨.byt (Array.replicate n.toNat 0), H, I.tok k, ⟨t, rfl⟩, q⟩
/-! ### wider powers; a text repeated -/
theorem op_powN {X : Cx} : OpR X (binaryOp .Pow) (rI (fun i j => 0 ≤ j ∧ (Builtin.Int.intBits i : Int) * j ≤ 2 ^ 27) fun i j => .int (i ^ j.toNat)) := opI fun _ _ _ _ _ _ _ hc q => pow_int hc.1 hc.2 q
theorem op_mulS {X : Cx} : OpR X (binaryOp .Mult) (fun x y H Q => ∃ z n, x = .str z ∧ y = .int n ∧ MulOk z n ∧ Q (.str (Txt.mul z n)) H) := by
  intro pins s σ H x y v u Q I rx ry h
  obtain ⟨z, n, rfl, rfl, hok, q⟩ := h
  obtain ⟨t, rfl⟩ := rx
  obtain ⟨t', rfl⟩ := ry
  exact SB.mul hok fun t' k => ⟨.str (Txt.mul z n), H, I.tok k, ⟨t', rfl⟩, q⟩
end TarK

namespace TarK
open PySem PySem.Spec PyProof.Rows L2 LamX NdefX
/-! ### sorted(d), d a dict of any number of text keys -/
theorem cr_sortedK {X : Cx} (hcalm : X.calm = true) : CallR X (.builtin "sorted") (fun xs H Q => ∃ (a : Addr) (kvs : List (Key × V)) (ks : List Str), xs = [.ref a] ∧ Rd H a (.dK kvs) ∧ kvs.map (·.1) = ks.map Sum.inr ∧
    ∀ ys p, ys.Perm ks → sortedS ys = true → H p = none → Q (.ref p) (upd H p (.lst (ys.map V.str)))) := by
  intro pins s σ H xs us Q I r q
  obtain ⟨a, kvs, ks, ex, hd, hks, q⟩ := q
  subst ex
  obtain ⟨u, eu, rx⟩ := vals1 r
  subst eu
  cases rx
  obtain ⟨z, lo, vs, rel, dd⟩ := dk_rd I.hok hd
  obtain ⟨ep, hat⟩ := dd.dictAt
  have hkeys : vs.map (·.1) = ks.map Sum.inr := rel.keys.symm.trans hks
  have hl : vs.length = ks.length := by
    have e := congrArg List.length hkeys
    rw [List.length_map, List.length_map] at e
    exact e
  have h16 : vs.length ≤ sizeLine := by
    rw [← rel.length]
    exact z
  refine Calls.call_function_entry kind_sorted plain_sorted entry_sorted (args_sorted1 _) ?_
  unfold Builtin.«sorted»
  refine wpAny_bind (m := checkCount "sorted" 1 1 _) (wpAny_pure ?_)
  refine wpAny_bind (PySem.W.kdu_collect (A := X.A.in1) (PySem.W.kdl_dict (knd := mixKind X.prog X.w) (kvs := vs) (ep := ep) lo) (I.ok.hd hcalm) hat h16 fun h' tk acc hk hacc => ?_)
  have hal : acc.toList.length = ks.length := by rw [Array.length_toList, hacc.1, hl]
  have hS : StrsAre acc.toList ks := strs_at hal fun j v e => by
    obtain ⟨k, x, e1, e2⟩ := hacc.2 j v (by rw [← Array.getElem?_toList]; exact e)
    have e3 : (vs.map (·.1))[j]? = some k := by
      rw [List.getElem?_map, e1]
      rfl
    rw [hkeys, List.getElem?_map] at e3
    cases e4 : ks[j]? with
    | none => rw [e4] at e3; cases e3
    | some y =>
      rw [e4] at e3
      obtain rfl : Sum.inr y = k := Option.some.inj e3
      obtain ⟨t, ev⟩ := Value.isStrOf_shape (x := y) (v := v) e2
      exact ⟨y, t, rfl, ev⟩
  have I1 : Inv X pins σ H { s with heap := h', toks := tk } := I.kept hk
  have hz : acc.toList.length ≤ sizeLine := by rw [hal, ← hl]; exact h16
  refine wpAny_bind (wpAny_newList ?_ hz)
  have hoL : (h'.push (seqObj "list" acc.toList.toArray 0)).get? h'.objs.size = some (seqObj "list" acc.toList.toArray 0) := Heap.get?_push_size _ rfl
  show wpAny _ _ _ _ _ { s with heap := h'.push (seqObj "list" acc.toList.toArray 0), toks := tk }
  refine wpAny_bind (wpAny_holding (wpAny_call_entry slot_list_sort ⟨_, hoL, rfl⟩ entry_list_sort
    (list_sort_treeKAny strKind_oneLt (s := { s with heap := h'.push (seqObj "list" acc.toList.toArray 0), toks := tk }) hoL hS.keysOf (fun v₁ v₂ rest e => keyKind_strs (by rw [← e]; exact hS)) hz fun st' hp hs => ⟨_, rfl, ?_⟩)
    (args_list_sort _)))
  obtain ⟨ys, g1, g2, g3⟩ := sorted_out_str hS hp hs
  obtain ⟨e', he'⟩ := sortedHeap_at (vs := acc.toList) (out := (arrOf st').map (·.2)) hoL
  have hlen : (ys.map V.str).length ≤ sizeLine := by
    rw [List.length_map, g2.length_eq, ← hl]
    exact h16
  refine wpAny_pure ⟨_, rfl, .ref h'.objs.size, upd H h'.objs.size (.lst (ys.map V.str)), I1.laid (t' := tk) (fun b u e => ?_) (Nat.le_refl _)
    (show ObjOk X.prog X.w _ _ _ (.lst (ys.map V.str)) from ⟨hlen, ((arrOf st').map (·.2)).toList, e', vals_of_strs g1, by rw [Array.toArray_toList]; exact he'⟩), rfl, q ys _ g2 g3 (I1.hok.fresh (Nat.le_refl _))⟩
  have hb : b < h'.objs.size := Heap.lt_size e
  rw [sortedHeap_old (Nat.ne_of_lt hb) (by rw [size_push']; exact Nat.lt_succ_of_lt hb)]
  exact Heap.get?_push_of_some _ e
/-! ### sorted of pairs (a text of its own, anything) that are in order -/
def ltS (x y : Str) : Bool := decide (x.cps.toList < y.cps.toList)
theorem swo_S {α : Type} (k : α → Str) : SrtO.Swo fun v u => ltS (k v) (k u) := by
  refine ⟨fun x y h => ?_, fun x y z h1 h2 => ?_⟩
  · exact decide_eq_false (List.lt_asymm (of_decide_eq_true h))
  · have a := of_decide_eq_false h1
    have b := of_decide_eq_false h2
    exact decide_eq_false (List.le_trans (α := Nat) a b)
theorem ltS_irrefl (x : Str) : ltS x x = false := (swo_S (α := Str) id).refl x
/-- v is a tuple whose first is the text x -/
def STup (h : Heap) (v : Value) (x : Str) : Prop := ∃ (a : Addr) (o : Obj) (t : Tok) (u : Value) (n : Nat), v = .ref a ∧ h.get? a = some o ∧ o.cls = .type "tuple" ∧ o.data = .seq #[.str x t, u] n
theorem STup.keeps {h h' : Heap} {v : Value} {x : Str} (p : STup h v x) (k : ∀ b o, h.get? b = some o → o.cls = .type "tuple" → h'.get? b = some o) : STup h' v x := by
  obtain ⟨a, o, t, u, n, e, ho, hc, hd⟩ := p
  exact ⟨a, o, t, u, n, e, k _ _ ho hc, hc, hd⟩
theorem st_firsts {h : Heap} {k : Value → Str} : ∀ {vs : List Value}, (∀ v ∈ vs, STup h v (k v)) → ∃ fs : List Value, PySem.W.KatTups h vs fs ∧ fs.length = vs.length ∧ ∀ f ∈ fs, ∃ x t, f = Value.str x t
  | [], _ => ⟨[], PySem.W.KatTups.nil, rfl, fun _ hm => by simp at hm⟩
  | v :: vs, hp => by
    obtain ⟨fs, h1, h2, h3⟩ := st_firsts (vs := vs) fun v' hm => hp v' (List.mem_cons_of_mem _ hm)
    obtain ⟨a, o, t, u, n, e, ho, hc, hd⟩ := hp v (List.mem_cons_self ..)
    refine ⟨.str (k v) t :: fs, by rw [e]; exact PySem.W.KatTups.cons ho hc hd (by rw [← e] <;> rfl) h1, by rw [List.length_cons, List.length_cons, h2], fun f hm => ?_⟩
    rcases List.mem_cons.mp hm with rfl | hm
    · exact ⟨_, t, rfl⟩
    · exact h3 f hm
section
variable {prog : Program} {w : World} {A : Around} {E : Value → Shared → Prop} {s : Shared}
theorem st_cmp {vs : List Value} {k : Value → Str} (hp : ∀ v ∈ vs, STup s.heap v (k v)) (hu : ∀ v ∈ vs, ∀ u ∈ vs, k v = k u → v = u) : SrtO.Cmp prog w A s (tuples' true) (fun p => p.1 ∈ vs) (SrtO.lt2 fun v u => ltS (k v) (k u)) := by
  intro p q hm hm'
  have h1 := hp _ hm
  have h2 := hp _ hm'
  have h3 := hu _ hm _ hm'
  show wpAny (model prog w) A (keyLt' (tuples' true) p.1 q.1) (fun r s' => s' = s ∧ r = ltS (k p.1) (k q.1)) (fun _ _ => False) s
  generalize k p.1 = x at h1 h3 ⊢
  generalize k q.1 = x' at h2 h3 ⊢
  obtain ⟨a, o, t, u, n, e, ho, hc, hd⟩ := h1
  obtain ⟨a', o', t', u', n', e', ho', hc', hd'⟩ := h2
  rw [e, e'] at h3
  rw [e, e']
  refine PySem.W.kat_lt ho hd ho' hd' ?_
  show PySem.W.KatLex prog w A true (decide (2 < 2)) _ [(.str x t, .str x' t'), (u, u')] 0 s
  refine PySem.W.kat_cons (SeqAt.EqAt.str_str x t x' t' prog w _ _ ?_)
  refine PySem.W.kat_go (fun e1 => ?_) (fun e1 => ?_)
  · have ex : x = x' := by simpa using e1
    have ea : a = a' := Value.ref.inj (h3 ex)
    subst ea
    rw [ho] at ho'
    cases ho'
    rw [hd] at hd'
    injection hd' with hd1 _
    have hu' : u = u' := by
      have z := congrArg (fun l : Array Value => l[1]?) hd1
      exact Option.some.inj z
    subst hu'
    refine PySem.W.kat_yes (PySem.W.kat_cons (SeqAt.EqAt.same u prog w _ _ ?_))
    refine PySem.W.kat_go (fun _ => PySem.W.kat_yes (PySem.W.kat_nil ⟨rfl, ?_⟩)) (fun z => by cases z)
    rw [ex]
    exact ((swo_S (α := Str) id).refl x').symm
  · exact PySem.W.kat_no (oneLt_str ⟨rfl, rfl⟩)
theorem st_sortable {a : Addr} {vs : List Value} {k : Value → Str} (h0 : 0 < vs.length) (hp : ∀ v ∈ vs, STup s.heap v (k v)) (hu : ∀ v ∈ vs, ∀ u ∈ vs, k v = k u → v = u) (ha : ∀ o, s.heap.get? a = some o → o.cls ≠ .type "tuple") :
    SrtO.SortableO prog w A s a vs fun v u => ltS (k v) (k u) := by
  intro h' keep
  have hp' : ∀ v ∈ vs, STup h' v (k v) := fun v hm => (hp v hm).keeps fun b o e c => keep b o (fun z => by subst z; exact ha o e c) e
  obtain ⟨fs, h1, h2, h3⟩ := st_firsts hp'
  refine ⟨tuples' true, fun Q E hq => ?_, st_cmp hp' hu⟩
  refine PySem.W.kat_kind (T := .type "str") h1 (by omega) (fun f hm => ?_) (by rfl) ?_
  · obtain ⟨x, t, rfl⟩ := h3 f hm
    exact PySem.W.Looks.now
  · have e : (Value.type "str" != Value.type "tuple") = true := by decide
    rw [e]
    exact hq
end
def rSortedT (K : PySem.W.Frag) : List V → Hp → VK → Prop := fun vs H Q => ∃ (a : Addr) (xs : List V) (k : V → Str), vs = [V.ref a] ∧ SqL K H a xs ∧ (∀ x ∈ xs, ∃ t w, x = V.ref t ∧ SqT K H t [.str (k x), w]) ∧
  xs.Pairwise (fun x y => ltS (k x) (k y) = true) ∧ ∀ p, H p = none → Q (.ref p) (upd H p (.lst xs))
theorem cr_sortedT {X : Cx} : CallR X (.builtin "sorted") (rSortedT X.K) := by
  intro pins s σ H vs us Q I r h
  obtain ⟨a, xs, k, rfl, hs, hx, hord, q⟩ := h
  obtain ⟨its, rv, hl, hz⟩ := I.list hs
  obtain ⟨u, rfl, ru⟩ := vals1 r
  obtain rfl : u = Value.ref a := ru
  obtain ⟨e1, e2⟩ := refs_back rv fun x m => by
    obtain ⟨t, _, e, _⟩ := hx x m
    exact ⟨t, e⟩
  have hord' : its.Pairwise (fun v u => ltS (k (backV v)) (k (backV u)) = true) := by
    rw [e1] at hord
    exact List.pairwise_map.mp hord
  have O := swo_S (α := Value) fun u => k (backV u)
  have hT : ∀ v ∈ its, STup s.heap v (k (backV v)) := fun v hv => by
    obtain ⟨t, rfl⟩ := e2 v hv
    have hm : V.ref t ∈ xs := by rw [e1]; exact List.mem_map.mpr ⟨_, hv, rfl⟩
    obtain ⟨t', w', e, ht⟩ := hx _ hm
    cases e
    obtain ⟨its2, r2, ⟨o, ho, hc, n, hd⟩, _⟩ := I.tuple ht
    obtain ⟨u1, u2, rfl, ri, _⟩ := vals2 r2
    obtain ⟨t1, rfl⟩ := ri
    exact ⟨t, o, t1, u2, n, rfl, ho, hc, hd⟩
  have hu : ∀ v ∈ its, ∀ u ∈ its, k (backV v) = k (backV u) → v = u := fun v hv u hu' e => by
    obtain ⟨i, hi, ei⟩ := List.mem_iff_getElem.mp hv
    obtain ⟨j, hj, ej⟩ := List.mem_iff_getElem.mp hu'
    rw [List.pairwise_iff_getElem] at hord'
    rcases Nat.lt_trichotomy i j with l | l | l
    · have z := hord' i j hi hj l
      rw [ei, ej, e, ltS_irrefl] at z
      cases z
    · subst l
      rw [← ei, ← ej]
    · have z := hord' j i hj hi l
      rw [ei, ej, e, ltS_irrefl] at z
      cases z
  have srt : SrtO.Srtd (fun v u => ltS (k (backV v)) (k (backV u))) its := hord'.imp fun {x y} h => O.asym x y h
  refine SrtO.sorted_ord O hl.isList (by rw [← rv.length]; exact hz) (fun h2 h₁ a' ha kk => ?_) fun out hs' hb => ?_
  · refine st_sortable (s := { s with heap := h₁ }) (by omega) (fun v hm => (hT v hm).keeps fun b o e _ => (kk b o e).2) hu fun o e => ?_
    have e' : some o = some (seqObj "list" its.toArray 0) := e.symm.trans ha
    cases e'
    intro c
    exact absurd (Value.type.inj c) (by decide)
  · have eo : out = its := SrtO.stb_uniq O hs' srt hb
    subst eo
    obtain ⟨n, hn⟩ := sortedAll_at s.heap out out.toArray
    exact ⟨.ref (s.heap.objs.size + 1), upd H (s.heap.objs.size + 1) (.lst xs), I.laid (t' := s.toks) (fun b o e => sortedAll_old e) (Nat.le_succ _) ⟨hz, out, n, rv, hn⟩, rfl, q _ (I.hok.fresh (Nat.le_succ _))⟩
end TarK

namespace TarK
open PySem PySem.Spec PyProof.Rows L2 LamX NdefX
/-! ### xs != [], xs == [] -/
theorem op_neNil {X : Cx} (hu : X.A.units < cLine) : OpR X (compareOp .NotEq) (fun x y H Q => ∃ (a b : Addr) (xs : List V), x = .ref a ∧ y = .ref b ∧ SqL X.K H a xs ∧ SqL X.K H b [] ∧ Q (.bl (!decide (xs = []))) H) := by
  intro pins s σ H x y v u Q I rx ry h
  obtain ⟨a, b, xs, rfl, rfl, ha, hb, q⟩ := h
  obtain rfl : v = Value.ref a := rx
  obtain rfl : u = Value.ref b := ry
  obtain ⟨ia, ra, pa, _⟩ := I.list ha
  obtain ⟨ib, rb, pb, _⟩ := I.list hb
  cases rb
  cases xs with
  | nil =>
    cases ra
    exact SeqAt.RcNeAt.lists (e := fun _ => true) pa.isList pb.isList rfl hu (fun j h1 _ => absurd h1 (Nat.not_lt_zero j)) X.prog X.w _ _ ⟨.bl false, H, I, rfl, q⟩
  | cons x xs =>
    cases ra with
    | cons r1 r2 => exact SeqAt.RcNeAt.lists_lengths pa.isList pb.isList (by simp) hu X.prog X.w _ _ ⟨.bl true, H, I, rfl, q⟩
theorem op_eqNil {X : Cx} (hu : X.A.units < cLine) : OpR X (compareOp .Eq) (fun x y H Q => ∃ (a b : Addr) (xs : List V), x = .ref a ∧ y = .ref b ∧ SqL X.K H a xs ∧ SqL X.K H b [] ∧ Q (.bl (decide (xs = []))) H) := by
  intro pins s σ H x y v u Q I rx ry h
  obtain ⟨a, b, xs, rfl, rfl, ha, hb, q⟩ := h
  obtain rfl : v = Value.ref a := rx
  obtain rfl : u = Value.ref b := ry
  obtain ⟨ia, ra, pa, _⟩ := I.list ha
  obtain ⟨ib, rb, pb, _⟩ := I.list hb
  cases rb
  cases xs with
  | nil =>
    cases ra
    exact SeqAt.RcAt.lists (e := fun _ => true) pa.isList pb.isList rfl hu (fun j h1 _ => absurd h1 (Nat.not_lt_zero j)) X.prog X.w _ _ ⟨.bl true, H, I, rfl, q⟩
  | cons x xs =>
    cases ra with
    | cons r1 r2 => exact SeqAt.RcAt.lists_lengths pa.isList pb.isList (by simp) hu X.prog X.w _ _ ⟨.bl false, H, I, rfl, q⟩
/-! ### two lists of equal content -/
/-- equal, of nesting below n: flat values, tuples -/
def EqT (K : PySem.W.Frag) (H : Hp) : Nat → V → V → Prop
  | 0 => fun _ _ => False
  | n + 1 => fun x y => (x = y ∧ flatB x = true) ∨ (∃ a, x = .ref a ∧ y = .ref a) ∨ ∃ a b xs ys, x = .ref a ∧ y = .ref b ∧ SqT K H a xs ∧ SqT K H b ys ∧ Paired (EqT K H n) xs ys
theorem eqT_items {A : Around} {s : Shared} {F : V → V → Prop} (ih : ∀ x y v u, F x y → RelV x v → RelV y u → SeqAt.EqAt A s v u true) {xs ys : List V} (hp : Paired F xs ys) :
    ∀ {us ws : List Value}, Vals xs us → Vals ys ws → ∀ j (h1 : j < us.length) (h2 : j < ws.length), SeqAt.EqAt A s us[j] ws[j] true := by
  induction hp with
  | nil =>
    intro us ws r1 r2 j h1 h2
    cases r1
    exact absurd h1 (Nat.not_lt_zero j)
  | cons h _ k =>
    intro us ws r1 r2 j h1 h2
    cases r1 with
    | cons a1 b1 =>
      cases r2 with
      | cons a2 b2 =>
        cases j with
        | zero => exact ih _ _ _ _ h a1 a2
        | succ j => exact k b1 b2 j (Nat.lt_of_succ_lt_succ h1) (Nat.lt_of_succ_lt_succ h2)
section
variable {X : Cx} {pins : List (Addr × Obj)} {σ : L2.St} {H : Hp} {s : Shared}
theorem eqT_run (I : Inv X pins σ H s) : ∀ (n : Nat) (A : Around), A.units + n < cLine → ∀ (x y : V) (v u : Value), EqT X.K H n x y → RelV x v → RelV y u → SeqAt.EqAt A s v u true
  | 0, _, _, _, _, _, _, h, _, _ => (show False from h).elim
  | n + 1, A, hu, x, y, v, u, h, rx, ry => by
    rcases h with ⟨rfl, f⟩ | ⟨a, rfl, rfl⟩ | ⟨a, b, xs, ys, rfl, rfl, ha, hb, hp⟩
    · exact eqAt_same rx ry f
    · cases (show v = Value.ref a from rx)
      cases (show u = Value.ref a from ry)
      exact SeqAt.EqAt.same _
    · cases (show v = Value.ref a from rx)
      cases (show u = Value.ref b from ry)
      by_cases e : a = b
      · subst e
        exact SeqAt.EqAt.same _
      · obtain ⟨us, r1, p1, _⟩ := I.tuple ha
        obtain ⟨ws, r2, p2, _⟩ := I.tuple hb
        have hsz : us.length = ws.length := by
          rw [← r1.length, ← r2.length]
          exact Paired.length hp
        have q := SeqAt.RcAt.tuples (A := A) (e := fun _ => true) p1 p2 (by omega) fun j h1 h2 => by
          have k := eqT_items (eqT_run I n A.in1 (by show A.units + 1 + n < cLine; omega)) hp r1 r2 j (by simpa using h1) (by simpa using h2)
          simpa using k
        have e2 : ((List.range (min us.toArray.size ws.toArray.size)).all (fun _ => true) && us.toArray.size == ws.toArray.size) = true := by
          rw [List.size_toArray, List.size_toArray, hsz, beq_self_eq_true, Bool.and_true]
          exact List.all_eq_true.mpr fun _ _ => rfl
        rw [e2] at q
        exact SeqAt.EqAt.of_refs e q
end
/-- a != b, two lists that are equal -/
theorem op_neSame {X : Cx} (hu : X.A.units + 64 < cLine) : OpR X (compareOp .NotEq) (fun x y H Q => ∃ (a b : Addr) (xs ys : List V) (n : Nat), x = .ref a ∧ y = .ref b ∧ SqL X.K H a xs ∧ SqL X.K H b ys ∧ n ≤ 60 ∧ Paired (EqT X.K H n) xs ys ∧ Q (.bl false) H) := by
  intro pins s σ H x y v u Q I rx ry h
  obtain ⟨a, b, xs, ys, n, rfl, rfl, ha, hb, hn, hp, q⟩ := h
  obtain rfl : v = Value.ref a := rx
  obtain rfl : u = Value.ref b := ry
  obtain ⟨us, r1, p1, _⟩ := I.list ha
  obtain ⟨ws, r2, p2, _⟩ := I.list hb
  have hsz : us.toArray.size = ws.toArray.size := by
    rw [List.size_toArray, List.size_toArray, ← r1.length, ← r2.length]
    exact Paired.length hp
  have k := SeqAt.RcNeAt.lists (A := X.A) (e := fun _ => true) p1.isList p2.isList hsz (by omega) fun j h1 h2 => by
    have z := eqT_items (eqT_run I n X.A.in1 (by show X.A.units + 1 + n < cLine; omega)) hp r1 r2 j (by simpa using h1) (by simpa using h2)
    simpa using z
  rw [show (List.range us.toArray.size).all (fun _ => true) = true from List.all_eq_true.mpr fun _ _ => rfl] at k
  exact k X.prog X.w _ _ ⟨.bl false, H, I, rfl, q⟩
end TarK

namespace TarK
open PySem PySem.Spec PyProof.Rows L2 LamX NdefX
/-! ### the text -/
abbrev Pg : Program := PySem.Challenge.pw_tarhouse_k87_whole_members_apart
def top (i : Nat) : Stmt := Pg.main.body.getD i (.Pass ⟨0, 0, 0, 0⟩)
abbrev s_is_integer : Stmt := top 12
abbrev s_is_within : Stmt := top 13
abbrev s_blob : Stmt := top 14
abbrev s_is_name : Stmt := top 22
abbrev s_is_path : Stmt := top 23
abbrev s_look_name : Stmt := top 24
abbrev s_look_stamps : Stmt := top 25
abbrev s_is_piece : Stmt := top 26
abbrev s_are_spans : Stmt := top 27
abbrev s_are_pieces : Stmt := top 28
abbrev s_mem_init : Stmt := inClass (top 29) 1
abbrev s_file_content : Stmt := inClass (top 30) 2
abbrev s_sparse_content : Stmt := inClass (top 31) 2
abbrev s_above : Stmt := top 37
abbrev s_house_init : Stmt := inClass (top 42) 0
abbrev s_set_thing : Stmt := inClass (top 42) 2
abbrev s_share : Stmt := inClass (top 42) 3
abbrev s_settle : Stmt := inClass (top 42) 4
abbrev s_kind_at : Stmt := inClass (top 42) 5
abbrev s_copied : Stmt := inClass (top 42) 6
abbrev s_entries : Stmt := inClass (top 42) 7
abbrev s_has : Stmt := inClass (top 42) 10
abbrev s_refusal : Stmt := top 45
abbrev s_refusal_at : Stmt := top 46
abbrev s_put_at : Stmt := top 47
abbrev s_put_member : Stmt := top 48
abbrev s_unpack_one : Stmt := top 49
abbrev s_unpacked : Stmt := top 50
abbrev s_l_source : Stmt := top 52
abbrev s_l_draw : Stmt := top 53
abbrev s_l_path : Stmt := top 54
abbrev s_l_numbers : Stmt := top 55
abbrev s_l_stamps : Stmt := top 56
abbrev s_l_pieces : Stmt := top 57
abbrev s_l_spec : Stmt := top 58
abbrev s_l_made : Stmt := top 59
abbrev s_l_specs : Stmt := top 60
abbrev s_l_told : Stmt := top 61
abbrev s_l_below : Stmt := top 62
abbrev s_l_mixed : Stmt := top 63
abbrev s_law : Stmt := top 64
abbrev s_file_init : Stmt := inClass (top 30) 1
abbrev s_sparse_init : Stmt := inClass (top 31) 1
abbrev s_dir_init : Stmt := inClass (top 32) 1
abbrev s_sym_init : Stmt := inClass (top 33) 1
abbrev s_link_init : Stmt := inClass (top 34) 1
abbrev s_ref_init : Stmt := inClass (top 10) 0
/-! ### the facts of the head -/
def d_is_integer : He.DefD := ⟨("is_integer", none), "is_integer", "is_integer", defArgs s_is_integer, defBody s_is_integer, defScope s_is_integer, [], []⟩
def d_is_within : He.DefD := ⟨("is_within", none), "is_within", "is_within", defArgs s_is_within, defBody s_is_within, defScope s_is_within, [], []⟩
def d_blob : He.DefD := ⟨("blob", none), "blob", "blob", defArgs s_blob, defBody s_blob, defScope s_blob, [], []⟩
def d_is_name : He.DefD := ⟨("is_name", none), "is_name", "is_name", defArgs s_is_name, defBody s_is_name, defScope s_is_name, [], []⟩
def d_is_path : He.DefD := ⟨("is_path", none), "is_path", "is_path", defArgs s_is_path, defBody s_is_path, defScope s_is_path, [], []⟩
def d_look_name : He.DefD := ⟨("look_name", none), "look_name", "look_name", defArgs s_look_name, defBody s_look_name, defScope s_look_name, [], []⟩
def d_look_stamps : He.DefD := ⟨("look_stamps", none), "look_stamps", "look_stamps", defArgs s_look_stamps, defBody s_look_stamps, defScope s_look_stamps, [], []⟩
def d_is_piece : He.DefD := ⟨("is_piece", none), "is_piece", "is_piece", defArgs s_is_piece, defBody s_is_piece, defScope s_is_piece, [], []⟩
def d_are_spans : He.DefD := ⟨("are_spans", none), "are_spans", "are_spans", defArgs s_are_spans, defBody s_are_spans, defScope s_are_spans, [], []⟩
def d_are_pieces : He.DefD := ⟨("are_pieces", none), "are_pieces", "are_pieces", defArgs s_are_pieces, defBody s_are_pieces, defScope s_are_pieces, [], []⟩
def d_mem_init : He.DefD := ⟨("Member", some "__init__"), "__init__", "Member.__init__", defArgs s_mem_init, defBody s_mem_init, defScope s_mem_init, [], []⟩
def d_file_content : He.DefD := ⟨("File", some "content"), "content", "File.content", defArgs s_file_content, defBody s_file_content, defScope s_file_content, [], []⟩
def d_sparse_content : He.DefD := ⟨("Sparse", some "content"), "content", "Sparse.content", defArgs s_sparse_content, defBody s_sparse_content, defScope s_sparse_content, [], []⟩
def d_above : He.DefD := ⟨("above", none), "above", "above", defArgs s_above, defBody s_above, defScope s_above, [], []⟩
def d_house_init : He.DefD := ⟨("House", some "__init__"), "__init__", "House.__init__", defArgs s_house_init, defBody s_house_init, defScope s_house_init, [], []⟩
def d_set_thing : He.DefD := ⟨("House", some "set_thing"), "set_thing", "House.set_thing", defArgs s_set_thing, defBody s_set_thing, defScope s_set_thing, [], []⟩
def d_share : He.DefD := ⟨("House", some "share"), "share", "House.share", defArgs s_share, defBody s_share, defScope s_share, [], []⟩
def d_settle : He.DefD := ⟨("House", some "settle"), "settle", "House.settle", defArgs s_settle, defBody s_settle, defScope s_settle, [], []⟩
def d_kind_at : He.DefD := ⟨("House", some "kind_at"), "kind_at", "House.kind_at", defArgs s_kind_at, defBody s_kind_at, defScope s_kind_at, [], []⟩
def d_copied : He.DefD := ⟨("House", some "copied"), "copied", "House.copied", defArgs s_copied, defBody s_copied, defScope s_copied, [], []⟩
def d_entries : He.DefD := ⟨("House", some "entries"), "entries", "House.entries", defArgs s_entries, defBody s_entries, defScope s_entries, [], []⟩
def d_has : He.DefD := ⟨("House", some "has"), "has", "House.has", defArgs s_has, defBody s_has, defScope s_has, [], []⟩
def d_refusal : He.DefD := ⟨("refusal", none), "refusal", "refusal", defArgs s_refusal, defBody s_refusal, defScope s_refusal, [], []⟩
def d_refusal_at : He.DefD := ⟨("refusal_at", none), "refusal_at", "refusal_at", defArgs s_refusal_at, defBody s_refusal_at, defScope s_refusal_at, [], []⟩
def d_put_at : He.DefD := ⟨("put_at", none), "put_at", "put_at", defArgs s_put_at, defBody s_put_at, defScope s_put_at, [], []⟩
def d_put_member : He.DefD := ⟨("put_member", none), "put_member", "put_member", defArgs s_put_member, defBody s_put_member, defScope s_put_member, [], []⟩
def d_unpack_one : He.DefD := ⟨("unpack_one", none), "unpack_one", "unpack_one", defArgs s_unpack_one, defBody s_unpack_one, defScope s_unpack_one, [], []⟩
def d_unpacked : He.DefD := ⟨("unpacked", none), "unpacked", "unpacked", defArgs s_unpacked, defBody s_unpacked, defScope s_unpacked, [], []⟩
def d_l_source : He.DefD := ⟨("_law_source", none), "_law_source", "_law_source", defArgs s_l_source, defBody s_l_source, defScope s_l_source, [], []⟩
def d_l_draw : He.DefD := ⟨("_law_draw", none), "_law_draw", "_law_draw", defArgs s_l_draw, defBody s_l_draw, defScope s_l_draw, [], []⟩
def d_l_path : He.DefD := ⟨("_law_path", none), "_law_path", "_law_path", defArgs s_l_path, defBody s_l_path, defScope s_l_path, [], []⟩
def d_l_numbers : He.DefD := ⟨("_law_numbers", none), "_law_numbers", "_law_numbers", defArgs s_l_numbers, defBody s_l_numbers, defScope s_l_numbers, [], []⟩
def d_l_stamps : He.DefD := ⟨("_law_stamps", none), "_law_stamps", "_law_stamps", defArgs s_l_stamps, defBody s_l_stamps, defScope s_l_stamps, [], []⟩
def d_l_pieces : He.DefD := ⟨("_law_pieces", none), "_law_pieces", "_law_pieces", defArgs s_l_pieces, defBody s_l_pieces, defScope s_l_pieces, [], []⟩
def d_l_spec : He.DefD := ⟨("_law_spec", none), "_law_spec", "_law_spec", defArgs s_l_spec, defBody s_l_spec, defScope s_l_spec, [], []⟩
def d_l_made : He.DefD := ⟨("_law_made", none), "_law_made", "_law_made", defArgs s_l_made, defBody s_l_made, defScope s_l_made, [], []⟩
def d_l_specs : He.DefD := ⟨("_law_specs", none), "_law_specs", "_law_specs", defArgs s_l_specs, defBody s_l_specs, defScope s_l_specs, [], []⟩
def d_l_told : He.DefD := ⟨("_law_told", none), "_law_told", "_law_told", defArgs s_l_told, defBody s_l_told, defScope s_l_told, [], []⟩
def d_l_below : He.DefD := ⟨("_law_below", none), "_law_below", "_law_below", defArgs s_l_below, defBody s_l_below, defScope s_l_below, [], []⟩
def d_l_mixed : He.DefD := ⟨("_law_mixed", none), "_law_mixed", "_law_mixed", defArgs s_l_mixed, defBody s_l_mixed, defScope s_l_mixed, [], []⟩
def d_law : He.DefD := ⟨("law", none), "law", "law", defArgs s_law, defBody s_law, defScope s_law, [], []⟩
def fn : List He.DefD := [d_is_integer, d_is_within, d_blob, d_is_name, d_is_path, d_look_name, d_look_stamps, d_is_piece, d_are_spans, d_are_pieces, d_mem_init, d_file_content, d_sparse_content, d_above, d_house_init, d_set_thing, d_share, d_settle, d_kind_at, d_copied, d_entries, d_has, d_refusal, d_refusal_at, d_put_at, d_put_member, d_unpack_one, d_unpacked, d_l_source, d_l_draw] ++ [d_l_path, d_l_numbers, d_l_stamps, d_l_pieces, d_l_spec, d_l_made, d_l_specs, d_l_told, d_l_below, d_l_mixed, d_law]
def fa0 : List He.Fa := [.glo "File", .glo "House", .glo "Member", .glo "Sparse", .glo "_law_below", .glo "_law_draw", .glo "_law_made", .glo "_law_mixed", .glo "_law_numbers", .glo "_law_path", .glo "_law_pieces", .glo "_law_source", .glo "_law_spec", .glo "_law_specs", .glo "_law_stamps", .glo "_law_told", .glo "above", .glo "are_pieces", .glo "are_spans", .glo "blob", .glo "is_integer", .glo "is_name", .glo "is_path", .glo "is_piece", .glo "is_within"]
def fa1 : List He.Fa := [.glo "law", .glo "look_name", .glo "look_stamps", .glo "put_at", .glo "put_member", .glo "refusal", .glo "refusal_at", .glo "unpack_one", .glo "unpacked", .glo "Refused", .glo "Directory", .glo "Symlink", .glo "Link", .glo "MADE", .free "isinstance", .free "int", .free "bool", .free "all", .free "any", .free "bytes", .free "len", .free "super", .free "sorted", .free "dict", .free "abs"]
def fa2 : List He.Fa := [.free "range", .free "enumerate", .free "str", .free "tuple", .free "list", .free "max", .free "min", .int "MOST_NAME" 250, .int "MOST_DATA" 4096, .int "MOST_PIECES" 50, .int "MOST_MODE" 4095, .int "MOST_TIME" 8589934591, .str "LETTERS" "abcdefghijklmnopqrstuvwxyz0123456789._-/", .cls "File", .cls "Sparse", .cls "Directory", .cls "Symlink", .cls "Link", .cls "House", .noat "File" "name", .noat "File" "mode", .noat "File" "time", .noat "File" "key", .noat "File" "data", .noat "Sparse" "name"]
def fa3 : List He.Fa := [.noat "Sparse" "mode", .noat "Sparse" "time", .noat "Sparse" "key", .noat "Sparse" "size", .noat "Sparse" "pieces", .noat "Directory" "name", .noat "Directory" "mode", .noat "Directory" "time", .noat "Directory" "key", .noat "Symlink" "name", .noat "Symlink" "mode", .noat "Symlink" "time", .noat "Symlink" "key", .noat "Symlink" "target", .noat "Link" "name", .noat "Link" "mode", .noat "Link" "time", .noat "Link" "key", .noat "Link" "target", .noat "House" "standing", .noat "House" "files", .noat "House" "rows", .noat "Refused" "index", .noat "Refused" "word", .meth "House" "settle"]
def fa4 : List He.Fa := [.meth "House" "copied", .meth "House" "kind_at", .meth "House" "entries", .meth "House" "set_thing", .meth "House" "share", .meth "House" "has", .meth "File" "content", .meth "Sparse" "content", .mkr "File", .mkr "Sparse", .mkr "Directory", .mkr "Symlink", .mkr "Link", .mkr "House", .keep "File", .keep "House", .keep "Member", .keep "Sparse", .keep "_law_below", .keep "_law_draw", .keep "_law_made", .keep "_law_mixed", .keep "_law_numbers", .keep "_law_path", .keep "_law_pieces"]
def fa5 : List He.Fa := [.keep "_law_source", .keep "_law_spec", .keep "_law_specs", .keep "_law_stamps", .keep "_law_told", .keep "above", .keep "are_pieces", .keep "are_spans", .keep "blob", .keep "is_integer", .keep "is_name", .keep "is_path", .keep "is_piece", .keep "is_within", .keep "law", .keep "look_name", .keep "look_stamps", .keep "put_at", .keep "put_member", .keep "refusal", .keep "refusal_at", .keep "unpack_one", .keep "unpacked", .keep "Refused", .keep "Directory"]
def fa6 : List He.Fa := [.keep "Symlink", .keep "Link"]
def fa_x : List He.Fa := [.exm "Refused" "Refused" true]
def fa : List He.Fa := fa_x ++ fa0 ++ (fa1 ++ (fa2 ++ (fa3 ++ (fa4 ++ (fa5 ++ (fa6))))))
/-! ### defs with super(): what stands of them -/
structure SupD where
  cls : Str
  qual : Str
  st : Stmt
abbrev FnS : Type := Option (Str × Str × Arguments × FuncBody × Scope × Addr × Addr)
def fnS (K : PySem.W.Frag) (C : Str) : FnS := match K.lookup (He.ma K (He.ga K C) "__init__") with
  | some ⟨_, _, .func fd, _⟩ => some (fd.name, fd.qualname, fd.params, fd.body, fd.scope, fd.globals, fd.builtins)
  | _ => none
def SupD.val (d : SupD) : FnS := some ("__init__", d.qual, defArgs d.st, .stmts (defBody d.st), defScope d.st, mainGlobals, builtinsNs)
/-- the code object, the cell of __class__ -/
def supCode (K : PySem.W.Frag) (C : Str) : Addr := match K.lookup (He.ma K (He.ga K C) "__init__") with
  | some ⟨_, _, .func fd, _⟩ => (match fd.code with
    | .ref c => c
    | _ => 0)
  | _ => 0
def supCell (K : PySem.W.Frag) (C : Str) : Addr := match K.lookup (He.ma K (He.ga K C) "__init__") with
  | some ⟨_, _, .func fd, _⟩ => (match fd.closure with
    | [(_, c)] => c
    | _ => 0)
  | _ => 0
def cellB (K : PySem.W.Frag) (c D : Addr) : Bool := match K.lookup c with
  | some ⟨_, _, .cell (some (.ref E)), _⟩ => decide (E = D)
  | _ => false
def fileB (K : PySem.W.Frag) (c : Addr) (f : Str) : Bool := match K.lookup c with
  | some ⟨_, _, .fields vs, _⟩ => (match (vs[2]? : Option Value) with
    | some (.str g _) => decide (f = g)
    | _ => false)
  | _ => false
def supB (K : PySem.W.Frag) (d : SupD) : Bool := (match K.lookup (He.ma K (He.ga K d.cls) "__init__") with
  | some ⟨_, _, .func fd, _⟩ => decide (fd.closure = [(("__class__" : Str), supCell K d.cls)]) && (decide (fd.code = .ref (supCode K d.cls)) && decide (fd.defaults = .none))
  | _ => false) && (cellB K (supCell K d.cls) (He.ga K d.cls) && (fileB K (supCode K d.cls) Pg.main.file && (PySem.W.codeIn K (.ref (supCode K d.cls)) d.qual &&
    ((PySem.W.clsIn K (He.ga K d.cls)).isSome && (decide (PySem.W.mroIn K (He.ga K d.cls) (.ref (He.ga K d.cls)) = some true) && He.eqO (PySem.W.nsIn K cStatics "thirdparty.any") (some none))))))
def nf (K : PySem.W.Frag) (d : SupD) : NF := ⟨"__init__", d.qual, defArgs d.st, defBody d.st, defScope d.st, [(("__class__" : Str), supCell K d.cls)], supCode K d.cls⟩
theorem supB_ok {K : PySem.W.Frag} {d : SupD} (e : fnS K d.cls = d.val) (h : supB K d = true) : SupDef K Pg (nf K d) (He.ma K (He.ga K d.cls) "__init__") (supCell K d.cls) (He.ga K d.cls) := by
  obtain ⟨h1, h⟩ := He.ba h
  obtain ⟨h2, h⟩ := He.ba h
  obtain ⟨h3, h⟩ := He.ba h
  obtain ⟨h4, h⟩ := He.ba h
  obtain ⟨h5, h⟩ := He.ba h
  obtain ⟨h6, h7⟩ := He.ba h
  refine ⟨rfl, ?_, h4, ?_, ?_, Option.isSome_iff_exists.mp h5, of_decide_eq_true h6, He.eqO_ok h7⟩
  · unfold fnS at e
    cases q : K.lookup (He.ma K (He.ga K d.cls) "__init__") with
    | none =>
      rw [q] at h1
      cases h1
    | some o =>
      obtain ⟨oc, od, dt, osl⟩ := o
      rw [q] at h1 e
      cases dt with
      | func fd =>
        obtain ⟨n1, n2, n3, n4, n5, n6, n7, n8, n9, n10, n11, n12, n13, n14, n15⟩ := fd
        have e2 : (some (n1, n2, n3, n4, n5, n6, n15) : FnS) = (some (("__init__" : Str), d.qual, defArgs d.st, FuncBody.stmts (defBody d.st), defScope d.st, mainGlobals, builtinsNs) : FnS) := e
        simp only [Option.some.injEq, Prod.mk.injEq] at e2
        obtain ⟨k1, k2, k3, k4, k5, k6, k8⟩ := e2
        obtain ⟨c1, c2⟩ := He.ba (show (decide (n7 = [(("__class__" : Str), supCell K d.cls)]) && (decide (n13 = .ref (supCode K d.cls)) && decide (n8 = .none))) = true from h1)
        obtain ⟨c2, c5⟩ := He.ba c2
        have c6 := of_decide_eq_true c5
        have c3 := of_decide_eq_true c1
        have c4 := of_decide_eq_true c2
        subst k1 k2 k3 k4 k5 k6 k8 c3 c4 c6
        exact ⟨oc, od, n9, n10, n11, n12, n14, osl, rfl⟩
      | _ => cases h1
  · unfold fileB at h3
    show ∃ (oc : Obj) (vs : Array Value) (file : Str) (tf : Tok), K.lookup (supCode K d.cls) = some oc ∧ oc.data = .fields vs ∧ vs[2]? = some (.str file tf) ∧ ((Pg.main.file : Str) == file) = true
    cases q : K.lookup (supCode K d.cls) with
    | none =>
      rw [q] at h3
      cases h3
    | some o =>
      obtain ⟨oc, od, dt, osl⟩ := o
      rw [q] at h3
      cases dt with
      | fields vs =>
        have h4 : (match (vs[2]? : Option Value) with
          | some (.str g _) => decide (Pg.main.file = g)
          | _ => false) = true := h3
        cases q2 : vs[2]? with
        | none =>
          rw [q2] at h4
          cases h4
        | some v =>
          rw [q2] at h4
          cases v with
          | str g t =>
            have e5 : Pg.main.file = g := of_decide_eq_true h4
            exact ⟨_, vs, g, t, rfl, rfl, q2, by rw [e5]; exact beq_self_eq_true g⟩
          | _ => cases h4
      | _ => cases h3
  · unfold cellB at h2
    cases q : K.lookup (supCell K d.cls) with
    | none =>
      rw [q] at h2
      cases h2
    | some o =>
      obtain ⟨oc, od, dt, osl⟩ := o
      rw [q] at h2
      cases dt with
      | cell c =>
        cases c with
        | none => cases h2
        | some v =>
          cases v with
          | ref E =>
            have e5 : E = He.ga K d.cls := of_decide_eq_true h2
            exact ⟨_, rfl, by rw [e5]⟩
          | _ => cases h2
      | _ => cases h2
/-- the base's __init__ behind super() -/
def smB (K : PySem.W.Frag) (C : Str) : Bool := He.eqO (PySem.W.ks_superIn K (He.ga K C) (He.ga K C) "__init__") (some (some (.ref (He.ma K (He.ga K "Member") "__init__")))) &&
  (decide (PySem.W.typeIn K (.ref (He.ma K (He.ga K "Member") "__init__")) = some (.type "function")) && PySem.W.fnIn K (He.ma K (He.ga K "Member") "__init__"))
theorem smB_ok {K : PySem.W.Frag} {C : Str} (h : smB K C = true) : SupMeth K (He.ga K C) (He.ma K (He.ga K "Member") "__init__") := by
  obtain ⟨h1, h⟩ := He.ba h
  obtain ⟨h2, h3⟩ := He.ba h
  exact ⟨He.eqO_ok h1, of_decide_eq_true h2, h3⟩
/-- a class over RuntimeError -/
def rtB (K : PySem.W.Frag) (C : Addr) : Bool := (match K.lookup C with
  | some ⟨.type c, _, .cls cd, sl⟩ => (match sl.toList with
    | [_, _, _, _, some (.builtin n), _] => decide (c = "type") && (decide (n = "RuntimeError.__new__") && (decide (cd.mro = .ref C :: rtTail) && (cd.hasDict && !cd.hasDel)))
    | _ => false)
  | _ => false) && (He.eqO (PySem.W.findIn K (.ref C) "__setattr__") (some (some (.builtin "object.__setattr__"))) && (decide (PySem.W.subIn K (.ref C) (.type "BaseException") = some true) &&
    (decide (PySem.W.subIn K (.ref C) (.type "RuntimeError") = some true) && (decide (PySem.W.typeIn K (.ref C) = some (.type "type")) && PySem.W.keepIn K (.ref C)))))
theorem rtB_ok {K : PySem.W.Frag} {C : Addr} (h : rtB K C = true) : RtC K C := by
  obtain ⟨h1, h⟩ := He.ba h
  obtain ⟨h2, h⟩ := He.ba h
  obtain ⟨h3, h⟩ := He.ba h
  obtain ⟨h4, h⟩ := He.ba h
  obtain ⟨h5, h6⟩ := He.ba h
  refine ⟨?_, He.eqO_ok h2, of_decide_eq_true h3, of_decide_eq_true h4, of_decide_eq_true h5, h6⟩
  cases q : K.lookup C with
  | none =>
    rw [q] at h1
    cases h1
  | some o =>
    obtain ⟨oc, od, dt, sl⟩ := o
    rw [q] at h1
    cases oc with
    | type c =>
      cases dt with
      | cls cd =>
        have h1' : (match sl.toList with
          | [_, _, _, _, some (.builtin n), _] => decide (c = "type") && (decide (n = "RuntimeError.__new__") && (decide (cd.mro = .ref C :: rtTail) && (cd.hasDict && !cd.hasDel)))
          | _ => false) = true := h1
        split at h1'
        · rename_i k0 k1 k2 k3 n k5 hs
          obtain ⟨e1, z⟩ := He.ba h1'
          obtain ⟨e2, z⟩ := He.ba z
          obtain ⟨e3, z⟩ := He.ba z
          obtain ⟨e4, e5⟩ := He.ba z
          have e1' := of_decide_eq_true e1
          have e2' := of_decide_eq_true e2
          have e3' := of_decide_eq_true e3
          obtain ⟨nm, bs, mro, ns, qn, hd, sn, sub, ab, col, del⟩ := cd
          dsimp only at e3' e4 e5
          have e5' : del = false := by cases del <;> first | rfl | cases e5
          subst e1' e2' e3' e4 e5'
          have hsl : sl = #[k0, k1, k2, k3, some (.builtin "RuntimeError.__new__"), k5] := by
            obtain ⟨l⟩ := sl
            have hs' : l = _ := hs
            rw [hs']
          subst hsl
          exact ⟨nm, qn, ns, bs, rtTail, sn, sub, ab, col, od, k0, k1, k2, k3, k5, rfl, rfl⟩
        · cases h1'
      | _ => cases h1
    | _ => cases dt <;> cases h1
def refB (K : PySem.W.Frag) : Bool := He.eqO (PySem.W.findIn K (.ref (He.ga K "Refused")) "__init__") (some (some (.ref (He.ma K (He.ga K "Refused") "__init__")))) &&
  decide (PySem.W.typeIn K (.ref (He.ma K (He.ga K "Refused") "__init__")) = some (.type "function"))
def u_file_init : SupD := ⟨"File", "File.__init__", s_file_init⟩
def u_sparse_init : SupD := ⟨"Sparse", "Sparse.__init__", s_sparse_init⟩
def u_dir_init : SupD := ⟨"Directory", "Directory.__init__", s_dir_init⟩
def u_sym_init : SupD := ⟨"Symlink", "Symlink.__init__", s_sym_init⟩
def u_link_init : SupD := ⟨"Link", "Link.__init__", s_link_init⟩
def u_ref_init : SupD := ⟨"Refused", "Refused.__init__", s_ref_init⟩
def sd : List SupD := [u_file_init, u_sparse_init, u_dir_init, u_sym_init, u_link_init, u_ref_init]
def exL (K : PySem.W.Frag) : List Bool := [supB K u_file_init,
  supB K u_sparse_init,
  supB K u_dir_init,
  supB K u_sym_init,
  supB K u_link_init,
  supB K u_ref_init,
  smB K "File",
  smB K "Sparse",
  smB K "Directory",
  smB K "Symlink",
  smB K "Link",
  He.conB K "File" "KIND" (.str "file"),
  He.conB K "Sparse" "KIND" (.str "sparse"),
  He.conB K "Directory" "KIND" (.str "directory"),
  He.conB K "Symlink" "KIND" (.str "symlink"),
  He.conB K "Link" "KIND" (.str "link"),
  rtB K (He.ga K "Refused"),
  refB K,
  xfB K (He.ga K "Refused"),
  He.tupB K "MADE" [.str "directory", .int 493, .int 0]]
def exB (K : PySem.W.Frag) : Bool := (exL K).all id
def tfL : List He.Defn := [("law", none)]
/-- what is known of the head -/
structure TF (K : PySem.W.Frag) (mg : Str → Option Value) : Prop where
  d : He.SaysD fa fn K
  e : exB K = true
  s : sd.map (fun d => fnS K d.cls) = sd.map SupD.val
  x : ∃ h : Heap, K.In h ∧ h.Ns mainGlobals mg
section
variable {K : PySem.W.Frag} {mg : Str → Option Value}
theorem TF.ex (T : TF K mg) (i : Nat) {b : Bool} (h : (exL K)[i]? = some b) : b = true := List.all_eq_true.mp T.e b (List.mem_of_getElem? h)
theorem TF.sup (T : TF K mg) (i : Nat) {d : SupD} (h : sd[i]? = some d) (hb : supB K d = true) : SupDef K Pg (nf K d) (He.ma K (He.ga K d.cls) "__init__") (supCell K d.cls) (He.ga K d.cls) := by
  have e2 : (sd.map fun d => fnS K d.cls)[i]? = (sd.map SupD.val)[i]? := by rw [T.s]
  rw [List.getElem?_map, List.getElem?_map, h] at e2
  exact supB_ok (Option.some.inj e2) hb
theorem TF.glo (T : TF K mg) {x : Str} (h : (He.Fa.glo x) ∈ fa) : mg x = some (.ref (He.ga K x)) := by
  obtain ⟨h', X, G⟩ := T.x
  exact He.glo_ok X G (He.SaysD.facts T.d h)
theorem TF.free (T : TF K mg) {x : Str} (h : (He.Fa.free x) ∈ fa) : mg x = none := by
  obtain ⟨h', X, G⟩ := T.x
  exact He.free_ok X G (He.SaysD.facts T.d h)
theorem TF.int (T : TF K mg) {x : Str} {i : Int} (h : (He.Fa.int x i) ∈ fa) : ∃ t, mg x = some (.int i t) := by
  obtain ⟨h', X, G⟩ := T.x
  exact He.int_ok X G (He.SaysD.facts T.d h)
theorem TF.str (T : TF K mg) {x z : Str} (h : (He.Fa.str x z) ∈ fa) : ∃ t, mg x = some (.str z t) := by
  obtain ⟨h', X, G⟩ := T.x
  exact He.str_ok X G (He.SaysD.facts T.d h)
theorem TF.g_File (T : TF K mg) : mg "File" = some (.ref (He.ga K "File")) := T.glo (List.mem_of_getElem? (i := 1) (by rfl))
theorem TF.g_House (T : TF K mg) : mg "House" = some (.ref (He.ga K "House")) := T.glo (List.mem_of_getElem? (i := 2) (by rfl))
theorem TF.g_Member (T : TF K mg) : mg "Member" = some (.ref (He.ga K "Member")) := T.glo (List.mem_of_getElem? (i := 3) (by rfl))
theorem TF.g_Sparse (T : TF K mg) : mg "Sparse" = some (.ref (He.ga K "Sparse")) := T.glo (List.mem_of_getElem? (i := 4) (by rfl))
theorem TF.g__law_below (T : TF K mg) : mg "_law_below" = some (.ref (He.ga K "_law_below")) := T.glo (List.mem_of_getElem? (i := 5) (by rfl))
theorem TF.g__law_draw (T : TF K mg) : mg "_law_draw" = some (.ref (He.ga K "_law_draw")) := T.glo (List.mem_of_getElem? (i := 6) (by rfl))
theorem TF.g__law_made (T : TF K mg) : mg "_law_made" = some (.ref (He.ga K "_law_made")) := T.glo (List.mem_of_getElem? (i := 7) (by rfl))
theorem TF.g__law_mixed (T : TF K mg) : mg "_law_mixed" = some (.ref (He.ga K "_law_mixed")) := T.glo (List.mem_of_getElem? (i := 8) (by rfl))
theorem TF.g__law_numbers (T : TF K mg) : mg "_law_numbers" = some (.ref (He.ga K "_law_numbers")) := T.glo (List.mem_of_getElem? (i := 9) (by rfl))
theorem TF.g__law_path (T : TF K mg) : mg "_law_path" = some (.ref (He.ga K "_law_path")) := T.glo (List.mem_of_getElem? (i := 10) (by rfl))
theorem TF.g__law_pieces (T : TF K mg) : mg "_law_pieces" = some (.ref (He.ga K "_law_pieces")) := T.glo (List.mem_of_getElem? (i := 11) (by rfl))
theorem TF.g__law_source (T : TF K mg) : mg "_law_source" = some (.ref (He.ga K "_law_source")) := T.glo (List.mem_of_getElem? (i := 12) (by rfl))
theorem TF.g__law_spec (T : TF K mg) : mg "_law_spec" = some (.ref (He.ga K "_law_spec")) := T.glo (List.mem_of_getElem? (i := 13) (by rfl))
theorem TF.g__law_specs (T : TF K mg) : mg "_law_specs" = some (.ref (He.ga K "_law_specs")) := T.glo (List.mem_of_getElem? (i := 14) (by rfl))
theorem TF.g__law_stamps (T : TF K mg) : mg "_law_stamps" = some (.ref (He.ga K "_law_stamps")) := T.glo (List.mem_of_getElem? (i := 15) (by rfl))
theorem TF.g__law_told (T : TF K mg) : mg "_law_told" = some (.ref (He.ga K "_law_told")) := T.glo (List.mem_of_getElem? (i := 16) (by rfl))
theorem TF.g_above (T : TF K mg) : mg "above" = some (.ref (He.ga K "above")) := T.glo (List.mem_of_getElem? (i := 17) (by rfl))
theorem TF.g_are_pieces (T : TF K mg) : mg "are_pieces" = some (.ref (He.ga K "are_pieces")) := T.glo (List.mem_of_getElem? (i := 18) (by rfl))
theorem TF.g_are_spans (T : TF K mg) : mg "are_spans" = some (.ref (He.ga K "are_spans")) := T.glo (List.mem_of_getElem? (i := 19) (by rfl))
theorem TF.g_blob (T : TF K mg) : mg "blob" = some (.ref (He.ga K "blob")) := T.glo (List.mem_of_getElem? (i := 20) (by rfl))
theorem TF.g_is_integer (T : TF K mg) : mg "is_integer" = some (.ref (He.ga K "is_integer")) := T.glo (List.mem_of_getElem? (i := 21) (by rfl))
theorem TF.g_is_name (T : TF K mg) : mg "is_name" = some (.ref (He.ga K "is_name")) := T.glo (List.mem_of_getElem? (i := 22) (by rfl))
theorem TF.g_is_path (T : TF K mg) : mg "is_path" = some (.ref (He.ga K "is_path")) := T.glo (List.mem_of_getElem? (i := 23) (by rfl))
theorem TF.g_is_piece (T : TF K mg) : mg "is_piece" = some (.ref (He.ga K "is_piece")) := T.glo (List.mem_of_getElem? (i := 24) (by rfl))
theorem TF.g_is_within (T : TF K mg) : mg "is_within" = some (.ref (He.ga K "is_within")) := T.glo (List.mem_of_getElem? (i := 25) (by rfl))
theorem TF.g_law (T : TF K mg) : mg "law" = some (.ref (He.ga K "law")) := T.glo (List.mem_of_getElem? (i := 26) (by rfl))
theorem TF.g_look_name (T : TF K mg) : mg "look_name" = some (.ref (He.ga K "look_name")) := T.glo (List.mem_of_getElem? (i := 27) (by rfl))
theorem TF.g_look_stamps (T : TF K mg) : mg "look_stamps" = some (.ref (He.ga K "look_stamps")) := T.glo (List.mem_of_getElem? (i := 28) (by rfl))
theorem TF.g_put_at (T : TF K mg) : mg "put_at" = some (.ref (He.ga K "put_at")) := T.glo (List.mem_of_getElem? (i := 29) (by rfl))
theorem TF.g_put_member (T : TF K mg) : mg "put_member" = some (.ref (He.ga K "put_member")) := T.glo (List.mem_of_getElem? (i := 30) (by rfl))
theorem TF.g_refusal (T : TF K mg) : mg "refusal" = some (.ref (He.ga K "refusal")) := T.glo (List.mem_of_getElem? (i := 31) (by rfl))
theorem TF.g_refusal_at (T : TF K mg) : mg "refusal_at" = some (.ref (He.ga K "refusal_at")) := T.glo (List.mem_of_getElem? (i := 32) (by rfl))
theorem TF.g_unpack_one (T : TF K mg) : mg "unpack_one" = some (.ref (He.ga K "unpack_one")) := T.glo (List.mem_of_getElem? (i := 33) (by rfl))
theorem TF.g_unpacked (T : TF K mg) : mg "unpacked" = some (.ref (He.ga K "unpacked")) := T.glo (List.mem_of_getElem? (i := 34) (by rfl))
theorem TF.g_Refused (T : TF K mg) : mg "Refused" = some (.ref (He.ga K "Refused")) := T.glo (List.mem_of_getElem? (i := 35) (by rfl))
theorem TF.g_Directory (T : TF K mg) : mg "Directory" = some (.ref (He.ga K "Directory")) := T.glo (List.mem_of_getElem? (i := 36) (by rfl))
theorem TF.g_Symlink (T : TF K mg) : mg "Symlink" = some (.ref (He.ga K "Symlink")) := T.glo (List.mem_of_getElem? (i := 37) (by rfl))
theorem TF.g_Link (T : TF K mg) : mg "Link" = some (.ref (He.ga K "Link")) := T.glo (List.mem_of_getElem? (i := 38) (by rfl))
theorem TF.g_MADE (T : TF K mg) : mg "MADE" = some (.ref (He.ga K "MADE")) := T.glo (List.mem_of_getElem? (i := 39) (by rfl))
theorem TF.k_File (T : TF K mg) : PySem.W.keepIn K (.ref (He.ga K "File")) = true := He.keep_ok (He.SaysD.facts T.d (List.mem_of_getElem? (i := 115) (by rfl)))
theorem TF.k_House (T : TF K mg) : PySem.W.keepIn K (.ref (He.ga K "House")) = true := He.keep_ok (He.SaysD.facts T.d (List.mem_of_getElem? (i := 116) (by rfl)))
theorem TF.k_Member (T : TF K mg) : PySem.W.keepIn K (.ref (He.ga K "Member")) = true := He.keep_ok (He.SaysD.facts T.d (List.mem_of_getElem? (i := 117) (by rfl)))
theorem TF.k_Sparse (T : TF K mg) : PySem.W.keepIn K (.ref (He.ga K "Sparse")) = true := He.keep_ok (He.SaysD.facts T.d (List.mem_of_getElem? (i := 118) (by rfl)))
theorem TF.k__law_below (T : TF K mg) : PySem.W.keepIn K (.ref (He.ga K "_law_below")) = true := He.keep_ok (He.SaysD.facts T.d (List.mem_of_getElem? (i := 119) (by rfl)))
theorem TF.k__law_draw (T : TF K mg) : PySem.W.keepIn K (.ref (He.ga K "_law_draw")) = true := He.keep_ok (He.SaysD.facts T.d (List.mem_of_getElem? (i := 120) (by rfl)))
theorem TF.k__law_made (T : TF K mg) : PySem.W.keepIn K (.ref (He.ga K "_law_made")) = true := He.keep_ok (He.SaysD.facts T.d (List.mem_of_getElem? (i := 121) (by rfl)))
theorem TF.k__law_mixed (T : TF K mg) : PySem.W.keepIn K (.ref (He.ga K "_law_mixed")) = true := He.keep_ok (He.SaysD.facts T.d (List.mem_of_getElem? (i := 122) (by rfl)))
theorem TF.k__law_numbers (T : TF K mg) : PySem.W.keepIn K (.ref (He.ga K "_law_numbers")) = true := He.keep_ok (He.SaysD.facts T.d (List.mem_of_getElem? (i := 123) (by rfl)))
theorem TF.k__law_path (T : TF K mg) : PySem.W.keepIn K (.ref (He.ga K "_law_path")) = true := He.keep_ok (He.SaysD.facts T.d (List.mem_of_getElem? (i := 124) (by rfl)))
theorem TF.k__law_pieces (T : TF K mg) : PySem.W.keepIn K (.ref (He.ga K "_law_pieces")) = true := He.keep_ok (He.SaysD.facts T.d (List.mem_of_getElem? (i := 125) (by rfl)))
theorem TF.k__law_source (T : TF K mg) : PySem.W.keepIn K (.ref (He.ga K "_law_source")) = true := He.keep_ok (He.SaysD.facts T.d (List.mem_of_getElem? (i := 126) (by rfl)))
theorem TF.k__law_spec (T : TF K mg) : PySem.W.keepIn K (.ref (He.ga K "_law_spec")) = true := He.keep_ok (He.SaysD.facts T.d (List.mem_of_getElem? (i := 127) (by rfl)))
theorem TF.k__law_specs (T : TF K mg) : PySem.W.keepIn K (.ref (He.ga K "_law_specs")) = true := He.keep_ok (He.SaysD.facts T.d (List.mem_of_getElem? (i := 128) (by rfl)))
theorem TF.k__law_stamps (T : TF K mg) : PySem.W.keepIn K (.ref (He.ga K "_law_stamps")) = true := He.keep_ok (He.SaysD.facts T.d (List.mem_of_getElem? (i := 129) (by rfl)))
theorem TF.k__law_told (T : TF K mg) : PySem.W.keepIn K (.ref (He.ga K "_law_told")) = true := He.keep_ok (He.SaysD.facts T.d (List.mem_of_getElem? (i := 130) (by rfl)))
theorem TF.k_above (T : TF K mg) : PySem.W.keepIn K (.ref (He.ga K "above")) = true := He.keep_ok (He.SaysD.facts T.d (List.mem_of_getElem? (i := 131) (by rfl)))
theorem TF.k_are_pieces (T : TF K mg) : PySem.W.keepIn K (.ref (He.ga K "are_pieces")) = true := He.keep_ok (He.SaysD.facts T.d (List.mem_of_getElem? (i := 132) (by rfl)))
theorem TF.k_are_spans (T : TF K mg) : PySem.W.keepIn K (.ref (He.ga K "are_spans")) = true := He.keep_ok (He.SaysD.facts T.d (List.mem_of_getElem? (i := 133) (by rfl)))
theorem TF.k_blob (T : TF K mg) : PySem.W.keepIn K (.ref (He.ga K "blob")) = true := He.keep_ok (He.SaysD.facts T.d (List.mem_of_getElem? (i := 134) (by rfl)))
theorem TF.k_is_integer (T : TF K mg) : PySem.W.keepIn K (.ref (He.ga K "is_integer")) = true := He.keep_ok (He.SaysD.facts T.d (List.mem_of_getElem? (i := 135) (by rfl)))
theorem TF.k_is_name (T : TF K mg) : PySem.W.keepIn K (.ref (He.ga K "is_name")) = true := He.keep_ok (He.SaysD.facts T.d (List.mem_of_getElem? (i := 136) (by rfl)))
theorem TF.k_is_path (T : TF K mg) : PySem.W.keepIn K (.ref (He.ga K "is_path")) = true := He.keep_ok (He.SaysD.facts T.d (List.mem_of_getElem? (i := 137) (by rfl)))
theorem TF.k_is_piece (T : TF K mg) : PySem.W.keepIn K (.ref (He.ga K "is_piece")) = true := He.keep_ok (He.SaysD.facts T.d (List.mem_of_getElem? (i := 138) (by rfl)))
theorem TF.k_is_within (T : TF K mg) : PySem.W.keepIn K (.ref (He.ga K "is_within")) = true := He.keep_ok (He.SaysD.facts T.d (List.mem_of_getElem? (i := 139) (by rfl)))
theorem TF.k_law (T : TF K mg) : PySem.W.keepIn K (.ref (He.ga K "law")) = true := He.keep_ok (He.SaysD.facts T.d (List.mem_of_getElem? (i := 140) (by rfl)))
theorem TF.k_look_name (T : TF K mg) : PySem.W.keepIn K (.ref (He.ga K "look_name")) = true := He.keep_ok (He.SaysD.facts T.d (List.mem_of_getElem? (i := 141) (by rfl)))
theorem TF.k_look_stamps (T : TF K mg) : PySem.W.keepIn K (.ref (He.ga K "look_stamps")) = true := He.keep_ok (He.SaysD.facts T.d (List.mem_of_getElem? (i := 142) (by rfl)))
theorem TF.k_put_at (T : TF K mg) : PySem.W.keepIn K (.ref (He.ga K "put_at")) = true := He.keep_ok (He.SaysD.facts T.d (List.mem_of_getElem? (i := 143) (by rfl)))
theorem TF.k_put_member (T : TF K mg) : PySem.W.keepIn K (.ref (He.ga K "put_member")) = true := He.keep_ok (He.SaysD.facts T.d (List.mem_of_getElem? (i := 144) (by rfl)))
theorem TF.k_refusal (T : TF K mg) : PySem.W.keepIn K (.ref (He.ga K "refusal")) = true := He.keep_ok (He.SaysD.facts T.d (List.mem_of_getElem? (i := 145) (by rfl)))
theorem TF.k_refusal_at (T : TF K mg) : PySem.W.keepIn K (.ref (He.ga K "refusal_at")) = true := He.keep_ok (He.SaysD.facts T.d (List.mem_of_getElem? (i := 146) (by rfl)))
theorem TF.k_unpack_one (T : TF K mg) : PySem.W.keepIn K (.ref (He.ga K "unpack_one")) = true := He.keep_ok (He.SaysD.facts T.d (List.mem_of_getElem? (i := 147) (by rfl)))
theorem TF.k_unpacked (T : TF K mg) : PySem.W.keepIn K (.ref (He.ga K "unpacked")) = true := He.keep_ok (He.SaysD.facts T.d (List.mem_of_getElem? (i := 148) (by rfl)))
theorem TF.k_Refused (T : TF K mg) : PySem.W.keepIn K (.ref (He.ga K "Refused")) = true := He.keep_ok (He.SaysD.facts T.d (List.mem_of_getElem? (i := 149) (by rfl)))
theorem TF.k_Directory (T : TF K mg) : PySem.W.keepIn K (.ref (He.ga K "Directory")) = true := He.keep_ok (He.SaysD.facts T.d (List.mem_of_getElem? (i := 150) (by rfl)))
theorem TF.k_Symlink (T : TF K mg) : PySem.W.keepIn K (.ref (He.ga K "Symlink")) = true := He.keep_ok (He.SaysD.facts T.d (List.mem_of_getElem? (i := 151) (by rfl)))
theorem TF.k_Link (T : TF K mg) : PySem.W.keepIn K (.ref (He.ga K "Link")) = true := He.keep_ok (He.SaysD.facts T.d (List.mem_of_getElem? (i := 152) (by rfl)))
theorem TF.f_isinstance (T : TF K mg) : mg "isinstance" = none := T.free (List.mem_of_getElem? (i := 40) (by rfl))
theorem TF.f_int (T : TF K mg) : mg "int" = none := T.free (List.mem_of_getElem? (i := 41) (by rfl))
theorem TF.f_bool (T : TF K mg) : mg "bool" = none := T.free (List.mem_of_getElem? (i := 42) (by rfl))
theorem TF.f_all (T : TF K mg) : mg "all" = none := T.free (List.mem_of_getElem? (i := 43) (by rfl))
theorem TF.f_any (T : TF K mg) : mg "any" = none := T.free (List.mem_of_getElem? (i := 44) (by rfl))
theorem TF.f_bytes (T : TF K mg) : mg "bytes" = none := T.free (List.mem_of_getElem? (i := 45) (by rfl))
theorem TF.f_len (T : TF K mg) : mg "len" = none := T.free (List.mem_of_getElem? (i := 46) (by rfl))
theorem TF.f_super (T : TF K mg) : mg "super" = none := T.free (List.mem_of_getElem? (i := 47) (by rfl))
theorem TF.f_sorted (T : TF K mg) : mg "sorted" = none := T.free (List.mem_of_getElem? (i := 48) (by rfl))
theorem TF.f_dict (T : TF K mg) : mg "dict" = none := T.free (List.mem_of_getElem? (i := 49) (by rfl))
theorem TF.f_abs (T : TF K mg) : mg "abs" = none := T.free (List.mem_of_getElem? (i := 50) (by rfl))
theorem TF.f_range (T : TF K mg) : mg "range" = none := T.free (List.mem_of_getElem? (i := 51) (by rfl))
theorem TF.f_enumerate (T : TF K mg) : mg "enumerate" = none := T.free (List.mem_of_getElem? (i := 52) (by rfl))
theorem TF.f_str (T : TF K mg) : mg "str" = none := T.free (List.mem_of_getElem? (i := 53) (by rfl))
theorem TF.f_tuple (T : TF K mg) : mg "tuple" = none := T.free (List.mem_of_getElem? (i := 54) (by rfl))
theorem TF.f_list (T : TF K mg) : mg "list" = none := T.free (List.mem_of_getElem? (i := 55) (by rfl))
theorem TF.f_max (T : TF K mg) : mg "max" = none := T.free (List.mem_of_getElem? (i := 56) (by rfl))
theorem TF.f_min (T : TF K mg) : mg "min" = none := T.free (List.mem_of_getElem? (i := 57) (by rfl))
theorem TF.i_MOST_NAME (T : TF K mg) : ∃ t, mg "MOST_NAME" = some (.int 250 t) := T.int (List.mem_of_getElem? (i := 58) (by rfl))
theorem TF.i_MOST_DATA (T : TF K mg) : ∃ t, mg "MOST_DATA" = some (.int 4096 t) := T.int (List.mem_of_getElem? (i := 59) (by rfl))
theorem TF.i_MOST_PIECES (T : TF K mg) : ∃ t, mg "MOST_PIECES" = some (.int 50 t) := T.int (List.mem_of_getElem? (i := 60) (by rfl))
theorem TF.i_MOST_MODE (T : TF K mg) : ∃ t, mg "MOST_MODE" = some (.int 4095 t) := T.int (List.mem_of_getElem? (i := 61) (by rfl))
theorem TF.i_MOST_TIME (T : TF K mg) : ∃ t, mg "MOST_TIME" = some (.int 8589934591 t) := T.int (List.mem_of_getElem? (i := 62) (by rfl))
theorem TF.letters (T : TF K mg) : ∃ t, mg "LETTERS" = some (.str "abcdefghijklmnopqrstuvwxyz0123456789._-/" t) := T.str (List.mem_of_getElem? (i := 63) (by rfl))
theorem TF.c_File (T : TF K mg) : Cls K (He.ga K "File") := He.cls_ok (He.SaysD.facts T.d (List.mem_of_getElem? (i := 64) (by rfl)))
theorem TF.m_File (T : TF K mg) : Mk K (He.ga K "File") (He.ma K (He.ga K "File") "__init__") := He.mkr_ok (He.SaysD.facts T.d (List.mem_of_getElem? (i := 109) (by rfl)))
theorem TF.n_File_name (T : TF K mg) : NoAttr K (He.ga K "File") "name" := He.noat_ok (He.SaysD.facts T.d (List.mem_of_getElem? (i := 70) (by rfl)))
theorem TF.n_File_mode (T : TF K mg) : NoAttr K (He.ga K "File") "mode" := He.noat_ok (He.SaysD.facts T.d (List.mem_of_getElem? (i := 71) (by rfl)))
theorem TF.n_File_time (T : TF K mg) : NoAttr K (He.ga K "File") "time" := He.noat_ok (He.SaysD.facts T.d (List.mem_of_getElem? (i := 72) (by rfl)))
theorem TF.n_File_key (T : TF K mg) : NoAttr K (He.ga K "File") "key" := He.noat_ok (He.SaysD.facts T.d (List.mem_of_getElem? (i := 73) (by rfl)))
theorem TF.n_File_data (T : TF K mg) : NoAttr K (He.ga K "File") "data" := He.noat_ok (He.SaysD.facts T.d (List.mem_of_getElem? (i := 74) (by rfl)))
theorem TF.c_Sparse (T : TF K mg) : Cls K (He.ga K "Sparse") := He.cls_ok (He.SaysD.facts T.d (List.mem_of_getElem? (i := 65) (by rfl)))
theorem TF.m_Sparse (T : TF K mg) : Mk K (He.ga K "Sparse") (He.ma K (He.ga K "Sparse") "__init__") := He.mkr_ok (He.SaysD.facts T.d (List.mem_of_getElem? (i := 110) (by rfl)))
theorem TF.n_Sparse_name (T : TF K mg) : NoAttr K (He.ga K "Sparse") "name" := He.noat_ok (He.SaysD.facts T.d (List.mem_of_getElem? (i := 75) (by rfl)))
theorem TF.n_Sparse_mode (T : TF K mg) : NoAttr K (He.ga K "Sparse") "mode" := He.noat_ok (He.SaysD.facts T.d (List.mem_of_getElem? (i := 76) (by rfl)))
theorem TF.n_Sparse_time (T : TF K mg) : NoAttr K (He.ga K "Sparse") "time" := He.noat_ok (He.SaysD.facts T.d (List.mem_of_getElem? (i := 77) (by rfl)))
theorem TF.n_Sparse_key (T : TF K mg) : NoAttr K (He.ga K "Sparse") "key" := He.noat_ok (He.SaysD.facts T.d (List.mem_of_getElem? (i := 78) (by rfl)))
theorem TF.n_Sparse_size (T : TF K mg) : NoAttr K (He.ga K "Sparse") "size" := He.noat_ok (He.SaysD.facts T.d (List.mem_of_getElem? (i := 79) (by rfl)))
theorem TF.n_Sparse_pieces (T : TF K mg) : NoAttr K (He.ga K "Sparse") "pieces" := He.noat_ok (He.SaysD.facts T.d (List.mem_of_getElem? (i := 80) (by rfl)))
theorem TF.c_Directory (T : TF K mg) : Cls K (He.ga K "Directory") := He.cls_ok (He.SaysD.facts T.d (List.mem_of_getElem? (i := 66) (by rfl)))
theorem TF.m_Directory (T : TF K mg) : Mk K (He.ga K "Directory") (He.ma K (He.ga K "Directory") "__init__") := He.mkr_ok (He.SaysD.facts T.d (List.mem_of_getElem? (i := 111) (by rfl)))
theorem TF.n_Directory_name (T : TF K mg) : NoAttr K (He.ga K "Directory") "name" := He.noat_ok (He.SaysD.facts T.d (List.mem_of_getElem? (i := 81) (by rfl)))
theorem TF.n_Directory_mode (T : TF K mg) : NoAttr K (He.ga K "Directory") "mode" := He.noat_ok (He.SaysD.facts T.d (List.mem_of_getElem? (i := 82) (by rfl)))
theorem TF.n_Directory_time (T : TF K mg) : NoAttr K (He.ga K "Directory") "time" := He.noat_ok (He.SaysD.facts T.d (List.mem_of_getElem? (i := 83) (by rfl)))
theorem TF.n_Directory_key (T : TF K mg) : NoAttr K (He.ga K "Directory") "key" := He.noat_ok (He.SaysD.facts T.d (List.mem_of_getElem? (i := 84) (by rfl)))
theorem TF.c_Symlink (T : TF K mg) : Cls K (He.ga K "Symlink") := He.cls_ok (He.SaysD.facts T.d (List.mem_of_getElem? (i := 67) (by rfl)))
theorem TF.m_Symlink (T : TF K mg) : Mk K (He.ga K "Symlink") (He.ma K (He.ga K "Symlink") "__init__") := He.mkr_ok (He.SaysD.facts T.d (List.mem_of_getElem? (i := 112) (by rfl)))
theorem TF.n_Symlink_name (T : TF K mg) : NoAttr K (He.ga K "Symlink") "name" := He.noat_ok (He.SaysD.facts T.d (List.mem_of_getElem? (i := 85) (by rfl)))
theorem TF.n_Symlink_mode (T : TF K mg) : NoAttr K (He.ga K "Symlink") "mode" := He.noat_ok (He.SaysD.facts T.d (List.mem_of_getElem? (i := 86) (by rfl)))
theorem TF.n_Symlink_time (T : TF K mg) : NoAttr K (He.ga K "Symlink") "time" := He.noat_ok (He.SaysD.facts T.d (List.mem_of_getElem? (i := 87) (by rfl)))
theorem TF.n_Symlink_key (T : TF K mg) : NoAttr K (He.ga K "Symlink") "key" := He.noat_ok (He.SaysD.facts T.d (List.mem_of_getElem? (i := 88) (by rfl)))
theorem TF.n_Symlink_target (T : TF K mg) : NoAttr K (He.ga K "Symlink") "target" := He.noat_ok (He.SaysD.facts T.d (List.mem_of_getElem? (i := 89) (by rfl)))
theorem TF.c_Link (T : TF K mg) : Cls K (He.ga K "Link") := He.cls_ok (He.SaysD.facts T.d (List.mem_of_getElem? (i := 68) (by rfl)))
theorem TF.m_Link (T : TF K mg) : Mk K (He.ga K "Link") (He.ma K (He.ga K "Link") "__init__") := He.mkr_ok (He.SaysD.facts T.d (List.mem_of_getElem? (i := 113) (by rfl)))
theorem TF.n_Link_name (T : TF K mg) : NoAttr K (He.ga K "Link") "name" := He.noat_ok (He.SaysD.facts T.d (List.mem_of_getElem? (i := 90) (by rfl)))
theorem TF.n_Link_mode (T : TF K mg) : NoAttr K (He.ga K "Link") "mode" := He.noat_ok (He.SaysD.facts T.d (List.mem_of_getElem? (i := 91) (by rfl)))
theorem TF.n_Link_time (T : TF K mg) : NoAttr K (He.ga K "Link") "time" := He.noat_ok (He.SaysD.facts T.d (List.mem_of_getElem? (i := 92) (by rfl)))
theorem TF.n_Link_key (T : TF K mg) : NoAttr K (He.ga K "Link") "key" := He.noat_ok (He.SaysD.facts T.d (List.mem_of_getElem? (i := 93) (by rfl)))
theorem TF.n_Link_target (T : TF K mg) : NoAttr K (He.ga K "Link") "target" := He.noat_ok (He.SaysD.facts T.d (List.mem_of_getElem? (i := 94) (by rfl)))
theorem TF.c_House (T : TF K mg) : Cls K (He.ga K "House") := He.cls_ok (He.SaysD.facts T.d (List.mem_of_getElem? (i := 69) (by rfl)))
theorem TF.m_House (T : TF K mg) : Mk K (He.ga K "House") (He.ma K (He.ga K "House") "__init__") := He.mkr_ok (He.SaysD.facts T.d (List.mem_of_getElem? (i := 114) (by rfl)))
theorem TF.n_House_standing (T : TF K mg) : NoAttr K (He.ga K "House") "standing" := He.noat_ok (He.SaysD.facts T.d (List.mem_of_getElem? (i := 95) (by rfl)))
theorem TF.n_House_files (T : TF K mg) : NoAttr K (He.ga K "House") "files" := He.noat_ok (He.SaysD.facts T.d (List.mem_of_getElem? (i := 96) (by rfl)))
theorem TF.n_House_rows (T : TF K mg) : NoAttr K (He.ga K "House") "rows" := He.noat_ok (He.SaysD.facts T.d (List.mem_of_getElem? (i := 97) (by rfl)))
theorem TF.n_Refused_index (T : TF K mg) : NoAttr K (He.ga K "Refused") "index" := He.noat_ok (He.SaysD.facts T.d (List.mem_of_getElem? (i := 98) (by rfl)))
theorem TF.n_Refused_word (T : TF K mg) : NoAttr K (He.ga K "Refused") "word" := He.noat_ok (He.SaysD.facts T.d (List.mem_of_getElem? (i := 99) (by rfl)))
theorem TF.h_House_settle (T : TF K mg) : Meth K (He.ga K "House") "settle" (He.ma K (He.ga K "House") "settle") := He.meth_ok (He.SaysD.facts T.d (List.mem_of_getElem? (i := 100) (by rfl)))
theorem TF.h_House_copied (T : TF K mg) : Meth K (He.ga K "House") "copied" (He.ma K (He.ga K "House") "copied") := He.meth_ok (He.SaysD.facts T.d (List.mem_of_getElem? (i := 101) (by rfl)))
theorem TF.h_House_kind_at (T : TF K mg) : Meth K (He.ga K "House") "kind_at" (He.ma K (He.ga K "House") "kind_at") := He.meth_ok (He.SaysD.facts T.d (List.mem_of_getElem? (i := 102) (by rfl)))
theorem TF.h_House_entries (T : TF K mg) : Meth K (He.ga K "House") "entries" (He.ma K (He.ga K "House") "entries") := He.meth_ok (He.SaysD.facts T.d (List.mem_of_getElem? (i := 103) (by rfl)))
theorem TF.h_House_set_thing (T : TF K mg) : Meth K (He.ga K "House") "set_thing" (He.ma K (He.ga K "House") "set_thing") := He.meth_ok (He.SaysD.facts T.d (List.mem_of_getElem? (i := 104) (by rfl)))
theorem TF.h_House_share (T : TF K mg) : Meth K (He.ga K "House") "share" (He.ma K (He.ga K "House") "share") := He.meth_ok (He.SaysD.facts T.d (List.mem_of_getElem? (i := 105) (by rfl)))
theorem TF.h_House_has (T : TF K mg) : Meth K (He.ga K "House") "has" (He.ma K (He.ga K "House") "has") := He.meth_ok (He.SaysD.facts T.d (List.mem_of_getElem? (i := 106) (by rfl)))
theorem TF.h_File_content (T : TF K mg) : Meth K (He.ga K "File") "content" (He.ma K (He.ga K "File") "content") := He.meth_ok (He.SaysD.facts T.d (List.mem_of_getElem? (i := 107) (by rfl)))
theorem TF.h_Sparse_content (T : TF K mg) : Meth K (He.ga K "Sparse") "content" (He.ma K (He.ga K "Sparse") "content") := He.meth_ok (He.SaysD.facts T.d (List.mem_of_getElem? (i := 108) (by rfl)))
theorem TF.fd_is_integer (T : TF K mg) : ∃ fd, FunD K "is_integer" "is_integer" (defArgs s_is_integer) (defBody s_is_integer) (defScope s_is_integer) [] [] (He.ga K "is_integer") fd := He.SaysD.def_ T.d 0 (d := d_is_integer)
theorem TF.fd_is_within (T : TF K mg) : ∃ fd, FunD K "is_within" "is_within" (defArgs s_is_within) (defBody s_is_within) (defScope s_is_within) [] [] (He.ga K "is_within") fd := He.SaysD.def_ T.d 1 (d := d_is_within)
theorem TF.fd_blob (T : TF K mg) : ∃ fd, FunD K "blob" "blob" (defArgs s_blob) (defBody s_blob) (defScope s_blob) [] [] (He.ga K "blob") fd := He.SaysD.def_ T.d 2 (d := d_blob)
theorem TF.fd_is_name (T : TF K mg) : ∃ fd, FunD K "is_name" "is_name" (defArgs s_is_name) (defBody s_is_name) (defScope s_is_name) [] [] (He.ga K "is_name") fd := He.SaysD.def_ T.d 3 (d := d_is_name)
theorem TF.fd_is_path (T : TF K mg) : ∃ fd, FunD K "is_path" "is_path" (defArgs s_is_path) (defBody s_is_path) (defScope s_is_path) [] [] (He.ga K "is_path") fd := He.SaysD.def_ T.d 4 (d := d_is_path)
theorem TF.fd_look_name (T : TF K mg) : ∃ fd, FunD K "look_name" "look_name" (defArgs s_look_name) (defBody s_look_name) (defScope s_look_name) [] [] (He.ga K "look_name") fd := He.SaysD.def_ T.d 5 (d := d_look_name)
theorem TF.fd_look_stamps (T : TF K mg) : ∃ fd, FunD K "look_stamps" "look_stamps" (defArgs s_look_stamps) (defBody s_look_stamps) (defScope s_look_stamps) [] [] (He.ga K "look_stamps") fd := He.SaysD.def_ T.d 6 (d := d_look_stamps)
theorem TF.fd_is_piece (T : TF K mg) : ∃ fd, FunD K "is_piece" "is_piece" (defArgs s_is_piece) (defBody s_is_piece) (defScope s_is_piece) [] [] (He.ga K "is_piece") fd := He.SaysD.def_ T.d 7 (d := d_is_piece)
theorem TF.fd_are_spans (T : TF K mg) : ∃ fd, FunD K "are_spans" "are_spans" (defArgs s_are_spans) (defBody s_are_spans) (defScope s_are_spans) [] [] (He.ga K "are_spans") fd := He.SaysD.def_ T.d 8 (d := d_are_spans)
theorem TF.fd_are_pieces (T : TF K mg) : ∃ fd, FunD K "are_pieces" "are_pieces" (defArgs s_are_pieces) (defBody s_are_pieces) (defScope s_are_pieces) [] [] (He.ga K "are_pieces") fd := He.SaysD.def_ T.d 9 (d := d_are_pieces)
theorem TF.fd_mem_init (T : TF K mg) : ∃ fd, FunD K "__init__" "Member.__init__" (defArgs s_mem_init) (defBody s_mem_init) (defScope s_mem_init) [] [] (He.ma K (He.ga K "Member") "__init__") fd := He.SaysD.def_ T.d 10 (d := d_mem_init)
theorem TF.fd_file_content (T : TF K mg) : ∃ fd, FunD K "content" "File.content" (defArgs s_file_content) (defBody s_file_content) (defScope s_file_content) [] [] (He.ma K (He.ga K "File") "content") fd := He.SaysD.def_ T.d 11 (d := d_file_content)
theorem TF.fd_sparse_content (T : TF K mg) : ∃ fd, FunD K "content" "Sparse.content" (defArgs s_sparse_content) (defBody s_sparse_content) (defScope s_sparse_content) [] [] (He.ma K (He.ga K "Sparse") "content") fd := He.SaysD.def_ T.d 12 (d := d_sparse_content)
theorem TF.fd_above (T : TF K mg) : ∃ fd, FunD K "above" "above" (defArgs s_above) (defBody s_above) (defScope s_above) [] [] (He.ga K "above") fd := He.SaysD.def_ T.d 13 (d := d_above)
theorem TF.fd_house_init (T : TF K mg) : ∃ fd, FunD K "__init__" "House.__init__" (defArgs s_house_init) (defBody s_house_init) (defScope s_house_init) [] [] (He.ma K (He.ga K "House") "__init__") fd := He.SaysD.def_ T.d 14 (d := d_house_init)
theorem TF.fd_set_thing (T : TF K mg) : ∃ fd, FunD K "set_thing" "House.set_thing" (defArgs s_set_thing) (defBody s_set_thing) (defScope s_set_thing) [] [] (He.ma K (He.ga K "House") "set_thing") fd := He.SaysD.def_ T.d 15 (d := d_set_thing)
theorem TF.fd_share (T : TF K mg) : ∃ fd, FunD K "share" "House.share" (defArgs s_share) (defBody s_share) (defScope s_share) [] [] (He.ma K (He.ga K "House") "share") fd := He.SaysD.def_ T.d 16 (d := d_share)
theorem TF.fd_settle (T : TF K mg) : ∃ fd, FunD K "settle" "House.settle" (defArgs s_settle) (defBody s_settle) (defScope s_settle) [] [] (He.ma K (He.ga K "House") "settle") fd := He.SaysD.def_ T.d 17 (d := d_settle)
theorem TF.fd_kind_at (T : TF K mg) : ∃ fd, FunD K "kind_at" "House.kind_at" (defArgs s_kind_at) (defBody s_kind_at) (defScope s_kind_at) [] [] (He.ma K (He.ga K "House") "kind_at") fd := He.SaysD.def_ T.d 18 (d := d_kind_at)
theorem TF.fd_copied (T : TF K mg) : ∃ fd, FunD K "copied" "House.copied" (defArgs s_copied) (defBody s_copied) (defScope s_copied) [] [] (He.ma K (He.ga K "House") "copied") fd := He.SaysD.def_ T.d 19 (d := d_copied)
theorem TF.fd_entries (T : TF K mg) : ∃ fd, FunD K "entries" "House.entries" (defArgs s_entries) (defBody s_entries) (defScope s_entries) [] [] (He.ma K (He.ga K "House") "entries") fd := He.SaysD.def_ T.d 20 (d := d_entries)
theorem TF.fd_has (T : TF K mg) : ∃ fd, FunD K "has" "House.has" (defArgs s_has) (defBody s_has) (defScope s_has) [] [] (He.ma K (He.ga K "House") "has") fd := He.SaysD.def_ T.d 21 (d := d_has)
theorem TF.fd_refusal (T : TF K mg) : ∃ fd, FunD K "refusal" "refusal" (defArgs s_refusal) (defBody s_refusal) (defScope s_refusal) [] [] (He.ga K "refusal") fd := He.SaysD.def_ T.d 22 (d := d_refusal)
theorem TF.fd_refusal_at (T : TF K mg) : ∃ fd, FunD K "refusal_at" "refusal_at" (defArgs s_refusal_at) (defBody s_refusal_at) (defScope s_refusal_at) [] [] (He.ga K "refusal_at") fd := He.SaysD.def_ T.d 23 (d := d_refusal_at)
theorem TF.fd_put_at (T : TF K mg) : ∃ fd, FunD K "put_at" "put_at" (defArgs s_put_at) (defBody s_put_at) (defScope s_put_at) [] [] (He.ga K "put_at") fd := He.SaysD.def_ T.d 24 (d := d_put_at)
theorem TF.fd_put_member (T : TF K mg) : ∃ fd, FunD K "put_member" "put_member" (defArgs s_put_member) (defBody s_put_member) (defScope s_put_member) [] [] (He.ga K "put_member") fd := He.SaysD.def_ T.d 25 (d := d_put_member)
theorem TF.fd_unpack_one (T : TF K mg) : ∃ fd, FunD K "unpack_one" "unpack_one" (defArgs s_unpack_one) (defBody s_unpack_one) (defScope s_unpack_one) [] [] (He.ga K "unpack_one") fd := He.SaysD.def_ T.d 26 (d := d_unpack_one)
theorem TF.fd_unpacked (T : TF K mg) : ∃ fd, FunD K "unpacked" "unpacked" (defArgs s_unpacked) (defBody s_unpacked) (defScope s_unpacked) [] [] (He.ga K "unpacked") fd := He.SaysD.def_ T.d 27 (d := d_unpacked)
theorem TF.fd_l_source (T : TF K mg) : ∃ fd, FunD K "_law_source" "_law_source" (defArgs s_l_source) (defBody s_l_source) (defScope s_l_source) [] [] (He.ga K "_law_source") fd := He.SaysD.def_ T.d 28 (d := d_l_source)
theorem TF.fd_l_draw (T : TF K mg) : ∃ fd, FunD K "_law_draw" "_law_draw" (defArgs s_l_draw) (defBody s_l_draw) (defScope s_l_draw) [] [] (He.ga K "_law_draw") fd := He.SaysD.def_ T.d 29 (d := d_l_draw)
theorem TF.fd_l_path (T : TF K mg) : ∃ fd, FunD K "_law_path" "_law_path" (defArgs s_l_path) (defBody s_l_path) (defScope s_l_path) [] [] (He.ga K "_law_path") fd := He.SaysD.def_ T.d 30 (d := d_l_path)
theorem TF.fd_l_numbers (T : TF K mg) : ∃ fd, FunD K "_law_numbers" "_law_numbers" (defArgs s_l_numbers) (defBody s_l_numbers) (defScope s_l_numbers) [] [] (He.ga K "_law_numbers") fd := He.SaysD.def_ T.d 31 (d := d_l_numbers)
theorem TF.fd_l_stamps (T : TF K mg) : ∃ fd, FunD K "_law_stamps" "_law_stamps" (defArgs s_l_stamps) (defBody s_l_stamps) (defScope s_l_stamps) [] [] (He.ga K "_law_stamps") fd := He.SaysD.def_ T.d 32 (d := d_l_stamps)
theorem TF.fd_l_pieces (T : TF K mg) : ∃ fd, FunD K "_law_pieces" "_law_pieces" (defArgs s_l_pieces) (defBody s_l_pieces) (defScope s_l_pieces) [] [] (He.ga K "_law_pieces") fd := He.SaysD.def_ T.d 33 (d := d_l_pieces)
theorem TF.fd_l_spec (T : TF K mg) : ∃ fd, FunD K "_law_spec" "_law_spec" (defArgs s_l_spec) (defBody s_l_spec) (defScope s_l_spec) [] [] (He.ga K "_law_spec") fd := He.SaysD.def_ T.d 34 (d := d_l_spec)
theorem TF.fd_l_made (T : TF K mg) : ∃ fd, FunD K "_law_made" "_law_made" (defArgs s_l_made) (defBody s_l_made) (defScope s_l_made) [] [] (He.ga K "_law_made") fd := He.SaysD.def_ T.d 35 (d := d_l_made)
theorem TF.fd_l_specs (T : TF K mg) : ∃ fd, FunD K "_law_specs" "_law_specs" (defArgs s_l_specs) (defBody s_l_specs) (defScope s_l_specs) [] [] (He.ga K "_law_specs") fd := He.SaysD.def_ T.d 36 (d := d_l_specs)
theorem TF.fd_l_told (T : TF K mg) : ∃ fd, FunD K "_law_told" "_law_told" (defArgs s_l_told) (defBody s_l_told) (defScope s_l_told) [] [] (He.ga K "_law_told") fd := He.SaysD.def_ T.d 37 (d := d_l_told)
theorem TF.fd_l_below (T : TF K mg) : ∃ fd, FunD K "_law_below" "_law_below" (defArgs s_l_below) (defBody s_l_below) (defScope s_l_below) [] [] (He.ga K "_law_below") fd := He.SaysD.def_ T.d 38 (d := d_l_below)
theorem TF.fd_l_mixed (T : TF K mg) : ∃ fd, FunD K "_law_mixed" "_law_mixed" (defArgs s_l_mixed) (defBody s_l_mixed) (defScope s_l_mixed) [] [] (He.ga K "_law_mixed") fd := He.SaysD.def_ T.d 39 (d := d_l_mixed)
theorem TF.fd_law (T : TF K mg) : ∃ fd, FunD K "law" "law" (defArgs s_law) (defBody s_law) (defScope s_law) [] [] (He.ga K "law") fd := He.SaysD.def_ T.d 40 (d := d_law)
theorem TF.s_file_init (T : TF K mg) : SupDef K Pg (nf K u_file_init) (He.ma K (He.ga K "File") "__init__") (supCell K "File") (He.ga K "File") := T.sup 0 (d := u_file_init) (by rfl) (T.ex 0 (by rfl))
theorem TF.s_sparse_init (T : TF K mg) : SupDef K Pg (nf K u_sparse_init) (He.ma K (He.ga K "Sparse") "__init__") (supCell K "Sparse") (He.ga K "Sparse") := T.sup 1 (d := u_sparse_init) (by rfl) (T.ex 1 (by rfl))
theorem TF.s_dir_init (T : TF K mg) : SupDef K Pg (nf K u_dir_init) (He.ma K (He.ga K "Directory") "__init__") (supCell K "Directory") (He.ga K "Directory") := T.sup 2 (d := u_dir_init) (by rfl) (T.ex 2 (by rfl))
theorem TF.s_sym_init (T : TF K mg) : SupDef K Pg (nf K u_sym_init) (He.ma K (He.ga K "Symlink") "__init__") (supCell K "Symlink") (He.ga K "Symlink") := T.sup 3 (d := u_sym_init) (by rfl) (T.ex 3 (by rfl))
theorem TF.s_link_init (T : TF K mg) : SupDef K Pg (nf K u_link_init) (He.ma K (He.ga K "Link") "__init__") (supCell K "Link") (He.ga K "Link") := T.sup 4 (d := u_link_init) (by rfl) (T.ex 4 (by rfl))
theorem TF.s_ref_init (T : TF K mg) : SupDef K Pg (nf K u_ref_init) (He.ma K (He.ga K "Refused") "__init__") (supCell K "Refused") (He.ga K "Refused") := T.sup 5 (d := u_ref_init) (by rfl) (T.ex 5 (by rfl))
theorem TF.sm_File (T : TF K mg) : SupMeth K (He.ga K "File") (He.ma K (He.ga K "Member") "__init__") := smB_ok (T.ex 6 (by rfl))
theorem TF.sm_Sparse (T : TF K mg) : SupMeth K (He.ga K "Sparse") (He.ma K (He.ga K "Member") "__init__") := smB_ok (T.ex 7 (by rfl))
theorem TF.sm_Directory (T : TF K mg) : SupMeth K (He.ga K "Directory") (He.ma K (He.ga K "Member") "__init__") := smB_ok (T.ex 8 (by rfl))
theorem TF.sm_Symlink (T : TF K mg) : SupMeth K (He.ga K "Symlink") (He.ma K (He.ga K "Member") "__init__") := smB_ok (T.ex 9 (by rfl))
theorem TF.sm_Link (T : TF K mg) : SupMeth K (He.ga K "Link") (He.ma K (He.ga K "Member") "__init__") := smB_ok (T.ex 10 (by rfl))
theorem TF.kind_File (T : TF K mg) : ∃ u, Con K (He.ga K "File") "KIND" (.str "file") u := He.conB_ok (v := .str "file") (T.ex 11 (by rfl))
theorem TF.kind_Sparse (T : TF K mg) : ∃ u, Con K (He.ga K "Sparse") "KIND" (.str "sparse") u := He.conB_ok (v := .str "sparse") (T.ex 12 (by rfl))
theorem TF.kind_Directory (T : TF K mg) : ∃ u, Con K (He.ga K "Directory") "KIND" (.str "directory") u := He.conB_ok (v := .str "directory") (T.ex 13 (by rfl))
theorem TF.kind_Symlink (T : TF K mg) : ∃ u, Con K (He.ga K "Symlink") "KIND" (.str "symlink") u := He.conB_ok (v := .str "symlink") (T.ex 14 (by rfl))
theorem TF.kind_Link (T : TF K mg) : ∃ u, Con K (He.ga K "Link") "KIND" (.str "link") u := He.conB_ok (v := .str "link") (T.ex 15 (by rfl))
theorem TF.rt (T : TF K mg) : RtC K (He.ga K "Refused") := rtB_ok (T.ex 16 (by rfl))
theorem TF.ref (T : TF K mg) : PySem.W.findIn K (.ref (He.ga K "Refused")) "__init__" = some (some (.ref (He.ma K (He.ga K "Refused") "__init__"))) ∧ PySem.W.typeIn K (.ref (He.ma K (He.ga K "Refused") "__init__")) = some (.type "function") := by
  obtain ⟨h1, h2⟩ := He.ba (T.ex 17 (b := refB K) (by rfl))
  exact ⟨He.eqO_ok h1, of_decide_eq_true h2⟩
theorem TF.xf (T : TF K mg) : XfC K (He.ga K "Refused") := xfB_ok (T.ex 18 (by rfl))
theorem TF.made (T : TF K mg) (H : Hp) : SqT K H (He.ga K "MADE") [.str "directory", .int 493, .int 0] := He.tupB_ok (vs := [.str "directory", .int 493, .int 0]) (T.ex 19 (by rfl)) H
theorem TF.exm (T : TF K mg) : PySem.W.exmOne K (.ref (He.ga K "Refused")) (.ref (He.ga K "Refused")) = some true := of_decide_eq_true (p := PySem.W.exmOne K (.ref (He.ga K "Refused")) (.ref (He.ga K "Refused")) = some true) (show (He.Fa.exm "Refused" "Refused" true).ok K = true from He.SaysD.facts T.d (List.mem_of_getElem? (i := 0) (by rfl)))
end
end TarK

namespace TarK
open PySem PySem.Spec PyProof.Rows L2 LamX NdefX
/-! ### calls by positional promises -/
def tCR (sp : Sp) (E : XK) (t : TA) : TE := fun σ H Q => t σ H fun vs H1 => sp vs H1 Q E
def tMR0 (C : Addr) (m : Str) (sp : Sp) (E : XK) (ta : TE) : TE := fun σ H Q => ta σ H fun x H1 => ∃ a dx fs, x = .ref a ∧ H1 a = some (.ins C dx fs) ∧ fs.lookup m = none ∧ sp [x] H1 Q E
def tMV0 (m : Str) (R : Addr → Addr → Sp → Prop) (E : XK) (ta : TE) : TE := fun σ H Q => ta σ H fun x H1 => ∃ a C dx fs f sp, x = .ref a ∧ H1 a = some (.ins C dx fs) ∧ fs.lookup m = none ∧ R C f sp ∧ sp [x] H1 Q E
section
variable {X : Cx} {CX : CXT} {k : Nat} {f C : Addr} {sp : Sp} {E : XK} {x m : Str} {p pos apos : Pos} {e o : Expr} {es : List Expr} {ta : TE} {t : TA}
theorem pe_callR (F : FnR X.prog X.w X.K X.mg X.base CX k f sp) (hr : Room k X.A) (hm : X.mg x = some (.ref f)) (hk : PySem.W.keepIn X.K (.ref f) = true) (hg : Gl X x) (hx : Passes CX X E) (ha : PA X (e :: es) t) (hd : (x == ("__debug__" : Str)) = false := by decide)
    (he : starEach (e :: es) X.env = (false, eval e X.env) :: starEach es X.env := by rfl) (hpl : (backTo pos (starEach es X.env)).any (·.1) = false := by rfl) :
    PE X (.Call (.Name x p) (e :: es) [] pos) (tCR sp E t) := by
  refine ⟨fun pins s σ H Q I h => ?_⟩
  refine wpAny_Call_Name_kw (ld_glob I hg hm ?_ hd)
  refine PySem.W.callWith_K (h₀ := X.base) I.ok.mod.kin hk (thn (ha.run pos pins s σ H _ I h) fun us s1 ⟨vs, H1, I1, r, q⟩ => ⟨I1.kIn, ?_⟩) he hpl
  exact wpAny_call (run_fnR F hr hx I1 r q)
theorem pe_methR0 {pl : Sem Bool} (he : PE X o ta) (c : Cls X.K C) (hm : Meth X.K C m f) (F : FnR X.prog X.w X.K X.mg X.base CX k f sp) (hr : Room k X.A) (hx : Passes CX X E)
    (ht : eval (.Call (.Attribute o m apos) [] [] pos) X.env = (do
      let ov ← eval o X.env
      standAt apos.atName
      let (f, first) ← holding [ov] (getMethod ov m pl)
      callWith pos f first (backTo pos (starEach [] X.env)) (backToKw pos (keywordEach [] X.env))) := by rfl) :
    PE X (.Call (.Attribute o m apos) [] [] pos) (tMR0 C m sp E ta) := by
  refine ⟨fun pins s σ H Q I h => ?_⟩
  refine PySem.W.methodCall_KW (pl := pl) (thn (he.run pins s σ H _ I h) fun u s1 ⟨x, H1, I1, rx, a, dx, fs, ex, ea, l, q⟩ => ?_) ht
  subst ex
  obtain rfl : u = Value.ref a := rx
  refine getmeth_ok I1 ea c hm l ?_
  exact PySem.W.callWith_K0 (first := [.ref a]) I1.kIn hm.kp (wpAny_call (run_fnR (us := [.ref a]) (vs := [.ref a]) F hr hx I1 (.cons rfl .nil) q))
/-- o.m(), by what the object's class is -/
theorem pe_methV0 {pl : Sem Bool} {R : Addr → Addr → Sp → Prop} (he : PE X o ta) (hR : ∀ C f sp, R C f sp → Cls X.K C ∧ Meth X.K C m f ∧ FnR X.prog X.w X.K X.mg X.base CX k f sp) (hr : Room k X.A) (hx : Passes CX X E)
    (ht : eval (.Call (.Attribute o m apos) [] [] pos) X.env = (do
      let ov ← eval o X.env
      standAt apos.atName
      let (f, first) ← holding [ov] (getMethod ov m pl)
      callWith pos f first (backTo pos (starEach [] X.env)) (backToKw pos (keywordEach [] X.env))) := by rfl) :
    PE X (.Call (.Attribute o m apos) [] [] pos) (tMV0 m R E ta) := by
  refine ⟨fun pins s σ H Q I h => ?_⟩
  refine PySem.W.methodCall_KW (pl := pl) (thn (he.run pins s σ H _ I h) fun u s1 ⟨x, H1, I1, rx, a, C, dx, fs, f, sp, ex, ea, l, hRR, q⟩ => ?_) ht
  subst ex
  obtain rfl : u = Value.ref a := rx
  obtain ⟨c, hm, F⟩ := hR _ _ _ hRR
  refine getmeth_ok I1 ea c hm l ?_
  exact PySem.W.callWith_K0 (first := [.ref a]) I1.kIn hm.kp (wpAny_call (run_fnR (us := [.ref a]) (vs := [.ref a]) F hr hx I1 (.cons rfl .nil) q))
theorem pe_makeR0 (M : Mk X.K C f) (F : FnR X.prog X.w X.K X.mg X.base CX k f sp) (hr : Room (k + 1) X.A) (hg : Gl X x) (hm : X.mg x = some (.ref C)) (hx : Passes CX X E) (hdb : (x == ("__debug__" : Str)) = false := by decide) :
    PE X (.Call (.Name x p) [] [] pos) (StX.tMakeR C sp E tNil) := by
  refine ⟨fun pins s σ H Q I h => ?_⟩
  refine wpAny_Call_Name_kw (ld_glob I hg hm ?_ hdb)
  exact PySem.W.callWith_K0 I.kIn M.kp (StX.run_makeR (us := []) M F hr hx I .nil h)
end
/-- a def of the text by its body, positionally -/
theorem okR {P : Program} {w : World} {K : PySem.W.Frag} {mg : Str → Option Value} {base : Heap} {x qual : Str} {pa : Arguments} {bd : List Stmt} {sc : Scope} {f : Addr} {N ps : List Str} {k : Nat} {sp : Sp} (F : ∃ fd, FunD K x qual pa bd sc [] [] f fd) (S : FnScope N ps sc)
    (hb : ∀ (dV kV doc pm : Value) (an : Option Addr) (cdv ct : Value) (us : List Value), us.length = ps.length → bindArgs (PySem.W.fnOf x qual pa bd sc .none kV doc pm an cdv ct) ⟨us, []⟩ = pure (ps.zip us))
    (len : ∀ vs H Q E, sp vs H Q E → vs.length = ps.length)
    (hbody : ∀ (cdv : Value) (A : Around) (outer : List Env) (s : Shared) (H : Hp) (vs : List V) (Q : VK) (E : XK), Room k (A.deeper (envOfC qual sc s.heap.objs.size f cdv)) → sp vs H Q E →
      ∃ t, PSs (cxOf (L2.CX P w) P w K mg base N qual sc f cdv A outer s H E) bd t ∧ t { nx := fun _ H' => Q .non H', rt := Q } (start N vs) H) : FnR P w K mg base (L2.CX P w) (k + 1) f sp := by
  obtain ⟨fd, F⟩ := F
  obtain ⟨oc, od, dV, kV, doc, pm, an, cdv, ct, osl, rfl, lk, hcd, hd, _⟩ := F.ex
  have ed : dV = .none := by
    rcases hd with ⟨_, e⟩ | ⟨e, _⟩
    · exact e
    · exact absurd rfl e
  subst ed
  have G := fn_of (CX := L2.CX P w) (mg := mg) (base := base) lk hcd S len fun A outer s H vs Q E hr hsp => hbody cdv A outer s H vs Q E hr hsp
  have R := G.raw (ds := []) (dvs := []) (Binds.all fun us hl => hb .none kV doc pm an cdv ct us hl) .nil
  exact R.imp fun vs H Q E q => by rw [List.append_nil]; exact q
abbrev FR (P : Program) (w : World) (K : PySem.W.Frag) (mg : Str → Option Value) (base : Heap) (k : Nat) (f : Addr) (sp : Sp) : Prop := FnR P w K mg base (L2.CX P w) k f sp
/-- what stands still stands, but at these -/
def Kp (l : List Addr) (H H' : Hp) : Prop := ∀ b o, H b = some o → b ∉ l → H' b = some o
theorem Kp.refl (l : List Addr) (H : Hp) : Kp l H H := fun _ _ h _ => h
theorem Kp.trans {l : List Addr} {H H1 H2 : Hp} (a : Kp l H H1) (b : Kp l H1 H2) : Kp l H H2 := fun c o h n => b c o (a c o h n) n
theorem Kp.of {H H' : Hp} (s : Kp [] H H') (l : List Addr) : Kp l H H' := fun b o h _ => s b o h (by simp)
theorem Kp.new {l : List Addr} {H : Hp} {p : Addr} {o : HO} (h : H p = none) : Kp l H (upd H p o) := fun b u e _ => by
  rw [upd_ne (ne_of_none e h)]
  exact e
theorem Kp.put {l : List Addr} {H : Hp} {p : Addr} {o : HO} (h : p ∈ l) : Kp l H (upd H p o) := fun b u e n => by
  rw [upd_ne (fun z => n (by rw [z]; exact h))]
  exact e
theorem Kp.more {l m : List Addr} {H H' : Hp} (a : Kp l H H') (h : ∀ x ∈ l, x ∈ m) : Kp m H H' := fun b o e n => a b o e fun z => n (h b z)
theorem Kp.isNone {l : List Addr} {H H' : Hp} (a : Kp l H H') {p : Addr} (h : H' p = none) (hn : p ∉ l) : H p = none := by
  cases e : H p with
  | none => rfl
  | some o =>
    have z := a p o e hn
    rw [h] at z
    cases z
theorem Kp.rd {l : List Addr} {H H' : Hp} (a : Kp l H H') {p : Addr} {u : HO} (h : Rd H p u) (hn : p ∉ l) : Rd H' p u := by
  rcases h with h | ⟨o, h⟩
  · exact .inl (a _ _ h hn)
  · exact .inr ⟨o, a _ _ h hn⟩
theorem Kp.sqL {l : List Addr} {H H' : Hp} (a : Kp l H H') {K : PySem.W.Frag} {p : Addr} {xs : List V} (h : SqL K H p xs) (hn : p ∉ l) : SqL K H' p xs := by
  rcases h with h | h
  · exact .inl (a.rd h hn)
  · exact .inr h
theorem Kp.sqT {l : List Addr} {H H' : Hp} (a : Kp l H H') {K : PySem.W.Frag} {p : Addr} {xs : List V} (h : SqT K H p xs) (hn : p ∉ l) : SqT K H' p xs := by
  rcases h with h | h
  · exact .inl (a.rd h hn)
  · exact .inr h
end TarK

namespace TarK
open PySem PySem.Spec PyProof.Rows L2 LamX NdefX
def tNo : TS := fun _ _ _ => False
theorem ps_no {X : Cx} {st : Stmt} : PS X st tNo := ⟨fun _ _ _ _ _ _ h => (show False from h).elim⟩
theorem pss_no {X : Cx} {st : List Stmt} : PSs X st tNo := ⟨fun _ _ _ _ _ _ h => (show False from h).elim⟩
theorem pe_ty {X : Cx} {x : Str} {T : String} {pos : Pos} (hg : Gl X x) (hm : X.mg x = none) (hv : bootBuiltins x = some (.type T)) (hn : x ≠ "__name__" := by decide) (hd : (x == ("__debug__" : Str)) = false := by decide) : PE X (.Name x pos) (tC (.ty T)) := pe_bltn (v := .ty T) hg hm hv rfl hn hd
theorem boot_isi : bootBuiltins "isinstance" = some (.builtin "isinstance") := by decide +kernel
theorem boot_all : bootBuiltins "all" = some (.builtin "all") := by decide +kernel
theorem boot_any : bootBuiltins "any" = some (.builtin "any") := by decide +kernel
theorem boot_int : bootBuiltins "int" = some (.type "int") := by decide +kernel
theorem boot_bool : bootBuiltins "bool" = some (.type "bool") := by decide +kernel
theorem boot_str : bootBuiltins "str" = some (.type "str") := by decide +kernel
theorem boot_bytes : bootBuiltins "bytes" = some (.type "bytes") := by decide +kernel
theorem boot_list : bootBuiltins "list" = some (.type "list") := by decide +kernel
theorem boot_tuple : bootBuiltins "tuple" = some (.type "tuple") := by decide +kernel
theorem boot_dict : bootBuiltins "dict" = some (.type "dict") := by decide +kernel
/-! ### numbers -/
def spIsInt : Sp := fun vs H Q _ => ∃ i : Int, vs = [.int i] ∧ Q (.bl true) H
def spWithin : Sp := fun vs H Q _ => ∃ i lo hi : Int, vs = [.int i, .int lo, .int hi] ∧ Q (.bl (decide (lo ≤ i) && decide (i ≤ hi))) H
theorem sc_is_integer : FnScope ["thing"] ["thing"] (defScope s_is_integer) := ⟨rfl, rfl, rfl, by decide +kernel, rfl, by decide +kernel, by decide +kernel⟩
theorem sc_is_within : FnScope ["thing", "low", "high"] ["thing", "low", "high"] (defScope s_is_within) := ⟨rfl, rfl, rfl, by decide +kernel, rfl, by decide +kernel, by decide +kernel⟩
section
variable {P : Program} {w : World} {K : PySem.W.Frag} {mg : Str → Option Value} {base : Heap}
theorem ok_is_integer (T : TF K mg) : FR P w K mg base 1 (He.ga K "is_integer") spIsInt := by
  refine okR T.fd_is_integer sc_is_integer (fun _ _ _ _ _ _ _ us hl => match us, hl with | [_], _ => rfl) (fun vs H Q E h => ?_) (fun cdv A outer s H vs Q E hr h => ?_)
  · obtain ⟨i, rfl, _⟩ := h
    rfl
  · obtain ⟨i, rfl, q⟩ := h
    refine ⟨_, pss_one (ps_ret (pe_and (pe_callB call_isi rfl T.f_isinstance boot_isi (pa_cons (pv 0) (pa_cons (pe_ty rfl T.f_int boot_int) pa_nil)))
      (pe_one (pe_not (pe_callB call_isi rfl T.f_isinstance boot_isi (pa_cons (pv 0) (pa_cons (pe_ty rfl T.f_bool boot_bool) pa_nil))))))), ?_⟩
    refine ⟨_, rfl, _, _, _, _, true, rfl, .ty _, .base (.int _), kit_ty (by decide +kernel), true, rfl, ?_⟩
    exact ⟨_, rfl, _, _, _, _, false, rfl, .ty _, .base (.int _), kit_ty (by decide +kernel), false, rfl, q⟩
theorem ok_is_within (T : TF K mg) : FR P w K mg base 2 (He.ga K "is_within") spWithin := by
  have G := ok_is_integer (P := P) (w := w) (base := base) T
  refine okR T.fd_is_within sc_is_within (fun _ _ _ _ _ _ _ us hl => match us, hl with | [_, _, _], _ => rfl) (fun vs H Q E h => ?_) (fun cdv A outer s H vs Q E hr h => ?_)
  · obtain ⟨i, lo, hi, rfl, _⟩ := h
    rfl
  · obtain ⟨i, lo, hi, rfl, q⟩ := h
    refine ⟨_, pss_one (ps_ret (pe_and (pe_callR G hr T.g_is_integer T.k_is_integer rfl passL (pa_cons (pv 0) pa_nil)) (pe_one (pe_chain op_le op_le (pv 1) (pv 0) (pv 2))))), ?_⟩
    refine ⟨_, rfl, i, rfl, true, rfl, ?_⟩
    refine ⟨_, rfl, _, rfl, lo, i, rfl, rfl, _, rfl, ?_⟩
    by_cases h1 : lo ≤ i
    · rw [decide_eq_true h1]
      rw [decide_eq_true h1] at q
      exact ⟨_, rfl, i, hi, rfl, rfl, q⟩
    · rw [decide_eq_false h1]
      rw [decide_eq_false h1] at q
      exact q
end
end TarK

/-! The plain law: two lists of members over paths that begin with different signs, mixed. -/
namespace TKP
open PySem

/-- what stands at a path: a file by its number, a directory, a symlink -/
inductive Th where
  | fil (i : Nat)
  | dir (m t : Int)
  | sym (g : Str) (m t : Int)
  deriving DecidableEq
/-- a house: what stands where, in the order of the dict; the files by number -/
structure Hs where
  st : List (Str × Th)
  fl : List (Array UInt8 × Int × Int)
inductive Mem where
  | file (n : Str) (d : Array UInt8) (m t : Int)
  | dir (n : Str) (m t : Int)
  | sym (n g : Str) (m t : Int)
  | link (n g : Str)
def Mem.name : Mem → Str
  | .file n _ _ _ => n
  | .dir n _ _ => n
  | .sym n _ _ _ => n
  | .link n _ => n

section
variable {α : Type}
def look : List (Str × α) → Str → Option α
  | [], _ => none
  | e :: r, p => if e.1 = p then some e.2 else look r p
/-- a dict's store -/
def putS : List (Str × α) → Str → α → List (Str × α)
  | [], p, x => [(p, x)]
  | e :: r, p, x => if e.1 = p then (e.1, x) :: r else e :: putS r p x
theorem look_put (p q : Str) (x : α) : ∀ l : List (Str × α), look (putS l p x) q = if q = p then some x else look l q
  | [] => by
    show (if p = q then some x else none) = _
    by_cases h : q = p
    · rw [if_pos h.symm, if_pos h]
    · rw [if_neg (fun e => h e.symm), if_neg h] <;> rfl
  | e :: r => by
    have ih := look_put p q x r
    show look (if e.1 = p then (e.1, x) :: r else e :: putS r p x) q = _
    by_cases he : e.1 = p
    · rw [if_pos he]
      show (if e.1 = q then some x else look r q) = if q = p then some x else (if e.1 = q then some e.2 else look r q)
      by_cases h : q = p
      · rw [if_pos (he.trans h.symm), if_pos h]
      · rw [if_neg (fun z => h (z.symm.trans he)), if_neg h, if_neg (fun z => h (z.symm.trans he))]
    · rw [if_neg he]
      show (if e.1 = q then some e.2 else look (putS r p x) q) = if q = p then some x else (if e.1 = q then some e.2 else look r q)
      rw [ih]
      by_cases h : q = p
      · rw [if_pos h, if_pos h, if_neg (fun z => he (z.trans h))]
      · rw [if_neg h, if_neg h]
theorem keys_put (p : Str) (x : α) : ∀ l : List (Str × α), (putS l p x).map (·.1) = if look l p = none then l.map (·.1) ++ [p] else l.map (·.1)
  | [] => rfl
  | e :: r => by
    have ih := keys_put p x r
    show (if e.1 = p then (e.1, x) :: r else e :: putS r p x).map (·.1) = if (if e.1 = p then some e.2 else look r p) = none then _ else _
    by_cases he : e.1 = p
    · rw [if_pos he, if_pos he, if_neg (by simp)]
      rfl
    · rw [if_neg he, if_neg he, List.map_cons, List.map_cons, ih]
      by_cases h : look r p = none
      · rw [if_pos h, if_pos h] <;> rfl
      · rw [if_neg h, if_neg h]
theorem look_none {p : Str} : ∀ {l : List (Str × α)}, look l p = none ↔ p ∉ l.map (·.1)
  | [] => by simp [look]
  | e :: r => by
    have ih := look_none (p := p) (l := r)
    show (if e.1 = p then some e.2 else look r p) = none ↔ _
    by_cases he : e.1 = p
    · rw [if_pos he]
      simp [he]
    · rw [if_neg he, ih, List.map_cons, List.mem_cons]
      constructor
      · intro h z
        rcases z with z | z
        · exact he z.symm
        · exact h z
      · intro h z
        exact h (Or.inr z)
theorem look_mem {p : Str} {x : α} : ∀ {l : List (Str × α)}, look l p = some x → (p, x) ∈ l
  | [], h => by cases h
  | e :: r, h => by
    have h' : (if e.1 = p then some e.2 else look r p) = some x := h
    by_cases he : e.1 = p
    · rw [if_pos he] at h'
      have := Option.some.inj h'
      rw [← he, ← this]
      exact List.mem_cons_self
    · rw [if_neg he] at h'
      exact List.mem_cons_of_mem _ (look_mem h')
theorem nodup_put {p : Str} {x : α} {l : List (Str × α)} (h : (l.map (·.1)).Nodup) : ((putS l p x).map (·.1)).Nodup := by
  rw [keys_put]
  by_cases hn : look l p = none
  · rw [if_pos hn]
    refine List.nodup_append.mpr ⟨h, by simp, fun a ha b hb => ?_⟩
    rw [List.mem_singleton.mp hb]
    exact fun e => look_none.mp hn (e ▸ ha)
  · rw [if_neg hn]
    exact h
theorem mem_put {p q : Str} {x : α} {l : List (Str × α)} (h : q ∈ (putS l p x).map (·.1)) : q = p ∨ q ∈ l.map (·.1) := by
  rw [keys_put] at h
  by_cases hn : look l p = none
  · rw [if_pos hn] at h
    rcases List.mem_append.mp h with h | h
    · exact Or.inr h
    · exact Or.inl (List.mem_singleton.mp h)
  · rw [if_neg hn] at h
    exact Or.inr h
theorem len_put (p : Str) (x : α) (l : List (Str × α)) : (putS l p x).length ≤ l.length + 1 := by
  have e := congrArg List.length (keys_put p x l)
  rw [List.length_map] at e
  by_cases hn : look l p = none
  · rw [if_pos hn, List.length_append, List.length_map] at e
    rw [e]
    exact Nat.le_refl _
  · rw [if_neg hn, List.length_map] at e
    omega
end

def Th.kd : Th → Str
  | .fil _ => "file"
  | .dir _ _ => "directory"
  | .sym _ _ _ => "symlink"
def kdO : Option Th → Str
  | some x => x.kd
  | none => "absent"
def kindAt (h : Hs) (p : Str) : Str := kdO (look h.st p)
/-- is a text a path; the paths above it -/
structure Tx where
  isP : Str → Bool
  abv : Str → List Str
def upOk (h : Hs) (ps : List Str) : Bool := ps.all fun q => decide (kindAt h q = "absent") || decide (kindAt h q = "directory")
def refusalAt (h : Hs) : Mem → Str
  | .dir n _ _ => if kindAt h n = "file" ∨ kindAt h n = "symlink" then "occupied" else ""
  | .link n g => if kindAt h n = "directory" then "directory" else if kindAt h g = "file" then "" else "target"
  | m => if kindAt h m.name = "directory" then "directory" else ""
def refusal (T : Tx) (h : Hs) (m : Mem) : Str :=
  if T.isP m.name = false then "name" else if upOk h (T.abv m.name) = false then "parent" else refusalAt h m
def upOne (h : Hs) (q : Str) : Hs := if kindAt h q = "absent" then ⟨putS h.st q (.dir 493 0), h.fl⟩ else h
def putUp (h : Hs) (ps : List Str) : Hs := ps.foldl upOne h
def putIn (h : Hs) : Mem → Hs
  | .dir n m t => ⟨putS h.st n (.dir m t), h.fl⟩
  | .sym n g m t => ⟨putS h.st n (.sym g m t), h.fl⟩
  | .link n g => (match look h.st g with
    | some x => ⟨putS h.st n x, h.fl⟩
    | none => h)
  | .file n d m t => ⟨putS h.st n (.fil h.fl.length), h.fl ++ [(d, m, t)]⟩
def putAt (T : Tx) (h : Hs) (m : Mem) : Hs := putIn (putUp h (T.abv m.name)) m
def step (T : Tx) (h : Hs) (m : Mem) : Except Str Hs := if refusal T h m = "" then .ok (putAt T h m) else .error (refusal T h m)
def run (T : Tx) : Hs → List Mem → Except Str Hs
  | h, [] => .ok h
  | h, m :: ms => match step T h m with
    | .ok h' => run T h' ms
    | .error w => .error w

/-! ### one house within another -/
def Th.map (φ : Nat → Nat) : Th → Th
  | .fil i => .fil (φ i)
  | .dir m t => .dir m t
  | .sym g m t => .sym g m t
theorem kd_map (φ : Nat → Nat) (o : Option Th) : kdO (o.map (Th.map φ)) = kdO o := by
  cases o with
  | none => rfl
  | some x => cases x <;> rfl
def Hd (c : Nat) (p : Str) : Prop := p.cps.toList.head? = some c
structure Sim (c : Nat) (φ : Nat → Nat) (A M : Hs) : Prop where
  lk : ∀ p, Hd c p → look M.st p = (look A.st p).map (Th.map φ)
  fl : ∀ i d, A.fl[i]? = some d → M.fl[φ i]? = some d
  lt : ∀ i, i < A.fl.length → φ i < M.fl.length
  inj : ∀ i j, i < A.fl.length → j < A.fl.length → φ i = φ j → i = j
  ids : ∀ p i, look A.st p = some (.fil i) → i < A.fl.length
  own : ∀ p ∈ A.st.map (·.1), Hd c p
  nd : (A.st.map (·.1)).Nodup
section
variable {c : Nat} {φ : Nat → Nat} {A M : Hs}
theorem Sim.kind (s : Sim c φ A M) {p : Str} (h : Hd c p) : kindAt M p = kindAt A p := by
  unfold kindAt
  rw [s.lk p h, kd_map]
theorem upOk_sim (s : Sim c φ A M) : ∀ {ps : List Str}, (∀ q ∈ ps, Hd c q) → upOk M ps = upOk A ps
  | [], _ => rfl
  | q :: ps, h => by
    have ih := upOk_sim s (ps := ps) fun r hr => h r (List.mem_cons_of_mem _ hr)
    unfold upOk at ih ⊢
    rw [List.all_cons, List.all_cons, ih, s.kind (h q List.mem_cons_self)]
/-- what a member speaks of begins with c -/
def MemHd (T : Tx) (c : Nat) (m : Mem) : Prop := Hd c m.name ∧ (∀ q ∈ T.abv m.name, Hd c q) ∧ ∀ n g, m = .link n g → Hd c g
theorem refusal_sim {T : Tx} (s : Sim c φ A M) {m : Mem} (h : MemHd T c m) : refusal T M m = refusal T A m := by
  obtain ⟨h1, h2, h3⟩ := h
  have e : refusalAt M m = refusalAt A m := by
    cases m with
    | file n d m t =>
      show (if kindAt M n = "directory" then _ else _) = if kindAt A n = "directory" then _ else _
      rw [s.kind (show Hd c n from h1)]
    | dir n m t =>
      show (if kindAt M n = "file" ∨ kindAt M n = "symlink" then _ else _) = if kindAt A n = "file" ∨ kindAt A n = "symlink" then _ else _
      rw [s.kind (show Hd c n from h1)]
    | sym n g m t =>
      show (if kindAt M n = "directory" then _ else _) = if kindAt A n = "directory" then _ else _
      rw [s.kind (show Hd c n from h1)]
    | link n g =>
      show (if kindAt M n = "directory" then _ else if kindAt M g = "file" then _ else _) = if kindAt A n = "directory" then _ else if kindAt A g = "file" then _ else _
      rw [s.kind (show Hd c n from h1), s.kind (h3 n g rfl)]
  unfold refusal
  rw [upOk_sim s h2, e]
/-- a store of one thing at the same path in both -/
theorem Sim.put (s : Sim c φ A M) {p : Str} {x : Th} (hp : Hd c p) (hx : ∀ i, x = .fil i → i < A.fl.length) : Sim c φ ⟨putS A.st p x, A.fl⟩ ⟨putS M.st p (x.map φ), M.fl⟩ where
  lk := fun q hq => by
    show look (putS M.st p (x.map φ)) q = (look (putS A.st p x) q).map (Th.map φ)
    rw [look_put, look_put]
    by_cases h : q = p
    · rw [if_pos h, if_pos h] <;> rfl
    · rw [if_neg h, if_neg h]
      exact s.lk q hq
  fl := s.fl
  lt := s.lt
  inj := s.inj
  ids := fun q i h => by
    have h' : look (putS A.st p x) q = some (.fil i) := h
    rw [look_put] at h'
    by_cases e : q = p
    · rw [if_pos e] at h'
      exact hx i (Option.some.inj h')
    · rw [if_neg e] at h'
      exact s.ids q i h'
  own := fun q hq => by
    rcases mem_put hq with e | e
    · rw [e]
      exact hp
    · exact s.own q e
  nd := nodup_put s.nd
/-- a store of another's -/
theorem Sim.other (s : Sim c φ A M) {p : Str} {x : Th} (hp : ¬ Hd c p) : Sim c φ A ⟨putS M.st p x, M.fl⟩ where
  lk := fun q hq => by
    show look (putS M.st p x) q = _
    rw [look_put, if_neg (fun (e : q = p) => hp (by rw [← e]; exact hq))]
    exact s.lk q hq
  fl := s.fl
  lt := s.lt
  inj := s.inj
  ids := s.ids
  own := s.own
  nd := s.nd
theorem Sim.grow (s : Sim c φ A M) (d : Array UInt8 × Int × Int) : Sim c φ A ⟨M.st, M.fl ++ [d]⟩ where
  lk := s.lk
  fl := fun i e h => by
    have h' := s.fl i e h
    show (M.fl ++ [d])[φ i]? = some e
    rw [List.getElem?_append_left (List.getElem?_eq_some_iff.mp h').1]
    exact h'
  lt := fun i h => by
    show φ i < (M.fl ++ [d]).length
    rw [List.length_append]
    exact Nat.lt_of_lt_of_le (s.lt i h) (Nat.le_add_right _ _)
  inj := s.inj
  ids := s.ids
  own := s.own
  nd := s.nd
end
/-- both houses within the one -/
structure Two (c1 c2 : Nat) (φ ψ : Nat → Nat) (A B M : Hs) : Prop where
  a : Sim c1 φ A M
  b : Sim c2 ψ B M
  dis : ∀ i j, i < A.fl.length → j < B.fl.length → φ i ≠ ψ j
  all : ∀ p ∈ M.st.map (·.1), Hd c1 p ∨ Hd c2 p
  nd : (M.st.map (·.1)).Nodup
section
variable {c1 c2 : Nat} {φ ψ : Nat → Nat} {A B M : Hs}
theorem Two.swap (t : Two c1 c2 φ ψ A B M) : Two c2 c1 ψ φ B A M := ⟨t.b, t.a, fun i j hi hj e => t.dis j i hj hi e.symm, fun p hp => (t.all p hp).symm, t.nd⟩
theorem hd_ne {c1 c2 : Nat} {p : Str} (hc : c1 ≠ c2) (h : Hd c1 p) : ¬ Hd c2 p := fun h2 => hc (Option.some.inj ((show p.cps.toList.head? = some c1 from h).symm.trans h2))
theorem Two.put (t : Two c1 c2 φ ψ A B M) (hc : c1 ≠ c2) {p : Str} {x : Th} (hp : Hd c1 p) (hx : ∀ i, x = .fil i → i < A.fl.length) : Two c1 c2 φ ψ ⟨putS A.st p x, A.fl⟩ B ⟨putS M.st p (x.map φ), M.fl⟩ :=
  ⟨t.a.put hp hx, t.b.other (hd_ne hc hp), t.dis, fun q hq => (mem_put hq).elim (fun e => .inl (e ▸ hp)) (t.all q), nodup_put t.nd⟩
theorem Two.up (hc : c1 ≠ c2) : ∀ {ps : List Str} {A M : Hs}, Two c1 c2 φ ψ A B M → (∀ q ∈ ps, Hd c1 q) → Two c1 c2 φ ψ (putUp A ps) B (putUp M ps)
  | [], _, _, t, _ => t
  | q :: ps, A, M, t, h => by
    have hq := h q List.mem_cons_self
    show Two c1 c2 φ ψ (putUp (upOne A q) ps) B (putUp (upOne M q) ps)
    refine Two.up hc (ps := ps) ?_ fun r hr => h r (List.mem_cons_of_mem _ hr)
    unfold upOne
    rw [t.a.kind hq]
    by_cases e : kindAt A q = "absent"
    · rw [if_pos e, if_pos e]
      exact t.put hc hq (x := .dir 493 0) fun i z => by cases z
    · rw [if_neg e, if_neg e]
      exact t
/-- a member of the first list is put into both -/
theorem Two.putAt {T : Tx} (t : Two c1 c2 φ ψ A B M) (hc : c1 ≠ c2) {m : Mem} (h : MemHd T c1 m) : ∃ φ', Two c1 c2 φ' ψ (putAt T A m) B (putAt T M m) := by
  obtain ⟨h1, h2, h3⟩ := h
  have t1 := t.up hc h2
  unfold TKP.putAt
  generalize hA : putUp A (T.abv m.name) = A1 at t1 ⊢
  generalize hM : putUp M (T.abv m.name) = M1 at t1 ⊢
  cases m with
  | dir n m t => exact ⟨φ, t1.put hc (x := .dir m t) h1 fun i z => by cases z⟩
  | sym n g m t => exact ⟨φ, t1.put hc (x := .sym g m t) h1 fun i z => by cases z⟩
  | link n g =>
    refine ⟨φ, ?_⟩
    have hg := h3 n g rfl
    have e := t1.a.lk g hg
    cases q : look A1.st g with
    | none =>
      rw [q] at e
      show Two c1 c2 φ ψ (match look A1.st g with | some x => ⟨putS A1.st n x, A1.fl⟩ | none => A1) B (match look M1.st g with | some x => ⟨putS M1.st n x, M1.fl⟩ | none => M1)
      rw [q, e]
      exact t1
    | some x =>
      rw [q] at e
      show Two c1 c2 φ ψ (match look A1.st g with | some x => ⟨putS A1.st n x, A1.fl⟩ | none => A1) B (match look M1.st g with | some x => ⟨putS M1.st n x, M1.fl⟩ | none => M1)
      rw [q, e]
      exact t1.put hc h1 fun i z => t1.a.ids g i (by rw [q, z])
  | file n d m t =>
    -- the new file's number: the old length in each
    refine ⟨fun i => if i = A1.fl.length then M1.fl.length else φ i, ?_⟩
    have hlt : ∀ i, i < A1.fl.length → (if i = A1.fl.length then M1.fl.length else φ i) = φ i := fun i hi => if_neg (Nat.ne_of_lt hi)
    have hnew : (if A1.fl.length = A1.fl.length then M1.fl.length else φ A1.fl.length) = M1.fl.length := if_pos rfl
    have lenA : (A1.fl ++ [(d, m, t)]).length = A1.fl.length + 1 := by rw [List.length_append] <;> rfl
    have lenM : (M1.fl ++ [(d, m, t)]).length = M1.fl.length + 1 := by rw [List.length_append] <;> rfl
    show Two c1 c2 _ ψ ⟨putS A1.st n (.fil A1.fl.length), A1.fl ++ [(d, m, t)]⟩ B ⟨putS M1.st n (.fil M1.fl.length), M1.fl ++ [(d, m, t)]⟩
    refine ⟨⟨fun q hq => ?_, fun i e hi => ?_, fun i hi => ?_, fun i j hi hj e => ?_, fun q i hi => ?_, fun q hq => ?_, nodup_put t1.a.nd⟩, (t1.b.grow (d, m, t)).other (hd_ne hc h1), fun i j hi hj => ?_, fun q hq => (mem_put hq).elim (fun e => .inl (e ▸ h1)) (t1.all q), nodup_put t1.nd⟩
    · show look (putS M1.st n (.fil M1.fl.length)) q = (look (putS A1.st n (.fil A1.fl.length)) q).map _
      rw [look_put, look_put]
      by_cases e : q = n
      · rw [if_pos e, if_pos e]
        show some (Th.fil M1.fl.length) = some (Th.fil (if A1.fl.length = A1.fl.length then M1.fl.length else φ A1.fl.length))
        rw [hnew]
      · rw [if_neg e, if_neg e, t1.a.lk q hq]
        cases z : look A1.st q with
        | none => rfl
        | some x =>
          cases x with
          | fil i =>
            show some (Th.fil (φ i)) = some (Th.fil (if i = A1.fl.length then M1.fl.length else φ i))
            rw [hlt i (t1.a.ids q i z)]
          | dir _ _ => rfl
          | sym _ _ _ => rfl
    · have hi' : (A1.fl ++ [(d, m, t)])[i]? = some e := hi
      show (M1.fl ++ [(d, m, t)])[if i = A1.fl.length then M1.fl.length else φ i]? = some e
      by_cases z : i = A1.fl.length
      · rw [z, List.getElem?_append_right (Nat.le_refl _), Nat.sub_self] at hi'
        rw [z, hnew, List.getElem?_append_right (Nat.le_refl _), Nat.sub_self]
        exact hi'
      · have hl : i < A1.fl.length := by
          have q := (List.getElem?_eq_some_iff.mp hi').1
          rw [lenA] at q
          omega
        rw [List.getElem?_append_left hl] at hi'
        rw [hlt i hl, List.getElem?_append_left (t1.a.lt i hl)]
        exact t1.a.fl i e hi'
    · have hi' : i < A1.fl.length + 1 := by rw [← lenA]; exact hi
      show (if i = A1.fl.length then M1.fl.length else φ i) < (M1.fl ++ [(d, m, t)]).length
      rw [lenM]
      by_cases z : i = A1.fl.length
      · rw [if_pos z]
        exact Nat.lt_succ_self _
      · rw [if_neg z]
        exact Nat.lt_succ_of_lt (t1.a.lt i (by omega))
    · have hi' : i < A1.fl.length + 1 := by rw [← lenA]; exact hi
      have hj' : j < A1.fl.length + 1 := by rw [← lenA]; exact hj
      have e' : (if i = A1.fl.length then M1.fl.length else φ i) = (if j = A1.fl.length then M1.fl.length else φ j) := e
      by_cases z : i = A1.fl.length
      · by_cases y : j = A1.fl.length
        · exact z.trans y.symm
        · rw [if_pos z, if_neg y] at e'
          have := t1.a.lt j (by omega)
          omega
      · by_cases y : j = A1.fl.length
        · rw [if_neg z, if_pos y] at e'
          have := t1.a.lt i (by omega)
          omega
        · rw [if_neg z, if_neg y] at e'
          exact t1.a.inj i j (by omega) (by omega) e'
    · have hi' : look (putS A1.st n (.fil A1.fl.length)) q = some (.fil i) := hi
      rw [look_put] at hi'
      show i < (A1.fl ++ [(d, m, t)]).length
      rw [lenA]
      by_cases e : q = n
      · rw [if_pos e] at hi'
        have : Th.fil A1.fl.length = Th.fil i := Option.some.inj hi'
        injection this with this
        omega
      · rw [if_neg e] at hi'
        exact Nat.lt_succ_of_lt (t1.a.ids q i hi')
    · rcases mem_put hq with e | e
      · rw [e]
        exact h1
      · exact t1.a.own q e
    · have hi' : i < A1.fl.length + 1 := by rw [← lenA]; exact hi
      show (if i = A1.fl.length then M1.fl.length else φ i) ≠ ψ j
      by_cases z : i = A1.fl.length
      · rw [if_pos z]
        have := t1.b.lt j hj
        omega
      · rw [if_neg z]
        exact t1.dis i j (by omega) hj
/-! ### mixing -/
inductive Mix {α : Type} : List α → List α → List α → Prop where
  | nil : Mix [] [] []
  | left {a b m : List α} {x : α} (h : Mix a b m) : Mix (x :: a) b (x :: m)
  | right {a b m : List α} {x : α} (h : Mix a b m) : Mix a (x :: b) (x :: m)
/-- what the mixture does, by what each list does -/
def MixEnd (c1 c2 : Nat) (ra rb rm : Except Str Hs) : Prop :=
  match ra, rb with
  | .ok A, .ok B => ∃ M φ ψ, rm = .ok M ∧ Two c1 c2 φ ψ A B M
  | .error w, .ok _ => rm = .error w
  | .ok _, .error w => rm = .error w
  | .error w, .error w' => rm = .error w ∨ rm = .error w'
theorem step_sim {T : Tx} (hc : c1 ≠ c2) (t : Two c1 c2 φ ψ A B M) {m : Mem} (h : MemHd T c1 m) :
    (∃ A' M' φ', step T A m = .ok A' ∧ step T M m = .ok M' ∧ Two c1 c2 φ' ψ A' B M') ∨ (∃ w, step T A m = .error w ∧ step T M m = .error w) := by
  unfold step
  rw [refusal_sim t.a h]
  by_cases e : refusal T A m = ""
  · obtain ⟨φ', t'⟩ := t.putAt hc h
    exact .inl ⟨_, _, φ', if_pos e, if_pos e, t'⟩
  · exact .inr ⟨_, if_neg e, if_neg e⟩
theorem run_cons (T : Tx) (h : Hs) (q : Mem) (l : List Mem) : run T h (q :: l) = match step T h q with
    | .ok h' => run T h' l
    | .error w => .error w := rfl
theorem mix_run {T : Tx} (hc : c1 ≠ c2) {a b m : List Mem} (x : Mix a b m) : ∀ {φ ψ : Nat → Nat} {A B M : Hs}, Two c1 c2 φ ψ A B M → (∀ q ∈ a, MemHd T c1 q) → (∀ q ∈ b, MemHd T c2 q) →
    MixEnd c1 c2 (run T A a) (run T B b) (run T M m) := by
  induction x with
  | nil =>
    intro φ ψ A B M t _ _
    exact ⟨M, φ, ψ, rfl, t⟩
  | @left a b m q h ih =>
    intro φ ψ A B M t ha hb
    rcases step_sim hc t (ha q List.mem_cons_self) with ⟨A', M', φ', e1, e2, t'⟩ | ⟨w, e1, e2⟩
    · have k := ih t' (fun r hr => ha r (List.mem_cons_of_mem _ hr)) hb
      rw [run_cons, run_cons, e1, e2]
      exact k
    · rw [run_cons, run_cons, e1, e2]
      show MixEnd c1 c2 (.error w) (run T B b) (.error w)
      cases run T B b with
      | ok _ => rfl
      | error _ => exact .inl rfl
  | @right a b m q h ih =>
    intro φ ψ A B M t ha hb
    rcases step_sim hc.symm t.swap (hb q List.mem_cons_self) with ⟨B', M', ψ', e1, e2, t'⟩ | ⟨w, e1, e2⟩
    · have k := ih t'.swap ha (fun r hr => hb r (List.mem_cons_of_mem _ hr))
      have e3 : run T B (q :: b) = run T B' b := by
        show (match step T B q with | .ok h' => run T h' b | .error w => .error w) = _
        rw [e1]
      have e4 : run T M (q :: m) = run T M' m := by
        show (match step T M q with | .ok h' => run T h' m | .error w => .error w) = _
        rw [e2]
      rw [e3, e4]
      exact k
    · have e3 : run T B (q :: b) = .error w := by
        show (match step T B q with | .ok h' => run T h' b | .error w => .error w) = _
        rw [e1]
      have e4 : run T M (q :: m) = .error w := by
        show (match step T M q with | .ok h' => run T h' m | .error w => .error w) = _
        rw [e2]
      rw [e3, e4]
      cases run T A a with
      | ok _ => rfl
      | error _ => exact .inr rfl
end
/-! ### the entries -/
inductive Row where
  | fil (d : Array UInt8) (m t : Int)
  | dir (m t : Int)
  | sym (g : Str) (m t : Int)
  | link (o : Str)
def firstOf (h : Hs) (ys : List Str) (i : Nat) : Option Str := ys.find? fun q => decide (look h.st q = some (.fil i))
def rowFile : Option (Array UInt8 × Int × Int) → Row
  | some d => .fil d.1 d.2.1 d.2.2
  | none => .dir 0 0
def rowLink (p : Str) (d : Option (Array UInt8 × Int × Int)) : Option Str → Row
  | some q => if q = p then rowFile d else .link q
  | none => .dir 0 0
def rowOf (h : Hs) (ys : List Str) (p : Str) : Row := match look h.st p with
  | some (.fil i) => rowLink p h.fl[i]? (firstOf h ys i)
  | some (.dir m t) => .dir m t
  | some (.sym g m t) => .sym g m t
  | none => .dir 0 0
def rowsOf (h : Hs) (ys : List Str) : List (Str × Row) := ys.map fun p => (p, rowOf h ys p)
theorem find_congr {α : Type} {p q : α → Bool} : ∀ {l : List α}, (∀ x ∈ l, p x = q x) → l.find? p = l.find? q
  | [], _ => rfl
  | x :: l, h => by
    rw [List.find?_cons, List.find?_cons, h x List.mem_cons_self, find_congr fun y hy => h y (List.mem_cons_of_mem _ hy)]
section
variable {c1 c2 : Nat} {φ ψ : Nat → Nat} {A B M : Hs}
/-- in the whole the first path of a file of A's is that in A -/
theorem first_sim (t : Two c1 c2 φ ψ A B M) {ya yb : List Str} (ha : ∀ p ∈ ya, Hd c1 p) (hb : ∀ p ∈ yb, Hd c2 p) {i : Nat} {p : Str} (hp : p ∈ ya) (hi : look A.st p = some (.fil i)) :
    firstOf M (ya ++ yb) (φ i) = firstOf A ya i ∧ (firstOf A ya i).isSome = true := by
  have key : ∀ q ∈ ya, decide (look M.st q = some (.fil (φ i))) = decide (look A.st q = some (.fil i)) := fun q hq => by
    have e := t.a.lk q (ha q hq)
    rw [e]
    cases z : look A.st q with
    | none => rfl
    | some x =>
      cases x with
      | fil j =>
        show decide (some (Th.fil (φ j)) = some (Th.fil (φ i))) = decide (some (Th.fil j) = some (Th.fil i))
        by_cases h : j = i
        · rw [h, decide_eq_true rfl, decide_eq_true rfl]
        · rw [decide_eq_false, decide_eq_false]
          · intro z'
            injection z' with z'
            injection z' with z'
            exact h z'
          · intro z'
            injection z' with z'
            injection z' with z'
            exact h (t.a.inj j i (t.a.ids q j z) (t.a.ids p i hi) z')
      | dir m' t' =>
        show decide (some (Th.dir m' t') = some (Th.fil (φ i))) = decide (some (Th.dir m' t') = some (Th.fil i))
        rw [decide_eq_false (by intro z'; cases z'), decide_eq_false (by intro z'; cases z')]
      | sym g' m' t' =>
        show decide (some (Th.sym g' m' t') = some (Th.fil (φ i))) = decide (some (Th.sym g' m' t') = some (Th.fil i))
        rw [decide_eq_false (by intro z'; cases z'), decide_eq_false (by intro z'; cases z')]
  have hsome : (firstOf A ya i).isSome = true := by
    unfold firstOf
    rw [List.find?_isSome]
    exact ⟨p, hp, decide_eq_true hi⟩
  refine ⟨?_, hsome⟩
  unfold firstOf at hsome ⊢
  rw [List.find?_append, find_congr key]
  cases z : ya.find? fun q => decide (look A.st q = some (.fil i)) with
  | none =>
    rw [z] at hsome
    cases hsome
  | some q => rfl
theorem first_sim2 (t : Two c1 c2 φ ψ A B M) {ya yb : List Str} (ha : ∀ p ∈ ya, Hd c1 p) (hb : ∀ p ∈ yb, Hd c2 p) {i : Nat} {p : Str} (hp : p ∈ yb) (hi : look B.st p = some (.fil i)) :
    firstOf M (ya ++ yb) (ψ i) = firstOf B yb i ∧ (firstOf B yb i).isSome = true := by
  obtain ⟨e1, e2⟩ := first_sim t.swap hb ha hp hi
  refine ⟨?_, e2⟩
  have none1 : ya.find? (fun q => decide (look M.st q = some (.fil (ψ i)))) = none := by
    rw [List.find?_eq_none]
    intro q hq hd
    have z := of_decide_eq_true hd
    rw [t.a.lk q (ha q hq)] at z
    cases y : look A.st q with
    | none =>
      rw [y] at z
      cases z
    | some x =>
      rw [y] at z
      cases x with
      | fil j =>
        have z' : some (Th.fil (φ j)) = some (Th.fil (ψ i)) := z
        injection z' with z'
        injection z' with z'
        exact t.dis j i (t.a.ids q j y) (t.b.ids p i hi) z'
      | dir _ _ => cases z
      | sym _ _ _ => cases z
  rw [← e1]
  unfold firstOf
  rw [List.find?_append, List.find?_append, none1]
  show List.find? _ yb = _
  cases y : yb.find? (fun q => decide (look M.st q = some (.fil (ψ i)))) with
  | some q => rfl
  | none =>
    unfold firstOf at e1 e2
    rw [List.find?_append, y, none1] at e1
    rw [← e1] at e2
    cases e2
theorem row_sim (t : Two c1 c2 φ ψ A B M) {ya yb : List Str} (ha : ∀ p ∈ ya, Hd c1 p) (hb : ∀ p ∈ yb, Hd c2 p) {p : Str} (hp : p ∈ ya) : rowOf M (ya ++ yb) p = rowOf A ya p := by
  unfold rowOf
  rw [t.a.lk p (ha p hp)]
  cases z : look A.st p with
  | none => rfl
  | some x =>
    cases x with
    | dir m' t' => rfl
    | sym g m' t' => rfl
    | fil i =>
      obtain ⟨e1, e2⟩ := first_sim t ha hb hp z
      show rowLink p M.fl[φ i]? (firstOf M (ya ++ yb) (φ i)) = rowLink p A.fl[i]? (firstOf A ya i)
      have hl := t.a.ids p i z
      have g : A.fl[i]? = some A.fl[i] := List.getElem?_eq_getElem hl
      rw [e1, g, t.a.fl i _ g]
theorem row_sim2 (t : Two c1 c2 φ ψ A B M) {ya yb : List Str} (ha : ∀ p ∈ ya, Hd c1 p) (hb : ∀ p ∈ yb, Hd c2 p) {p : Str} (hp : p ∈ yb) : rowOf M (ya ++ yb) p = rowOf B yb p := by
  unfold rowOf
  rw [t.b.lk p (hb p hp)]
  cases z : look B.st p with
  | none => rfl
  | some x =>
    cases x with
    | dir m' t' => rfl
    | sym g m' t' => rfl
    | fil i =>
      obtain ⟨e1, e2⟩ := first_sim2 t ha hb hp z
      show rowLink p M.fl[ψ i]? (firstOf M (ya ++ yb) (ψ i)) = rowLink p B.fl[i]? (firstOf B yb i)
      have hl := t.b.ids p i z
      have g : B.fl[i]? = some B.fl[i] := List.getElem?_eq_getElem hl
      rw [e1, g, t.b.fl i _ g]
theorem rows_mix (t : Two c1 c2 φ ψ A B M) {ya yb : List Str} (ha : ∀ p ∈ ya, Hd c1 p) (hb : ∀ p ∈ yb, Hd c2 p) : rowsOf M (ya ++ yb) = rowsOf A ya ++ rowsOf B yb := by
  unfold rowsOf
  rw [List.map_append]
  congr 1
  · exact List.map_congr_left fun p hp => by rw [row_sim t ha hb hp]
  · exact List.map_congr_left fun p hp => by rw [row_sim2 t ha hb hp]
/-- the whole's paths are those of both -/
theorem keys_mix (t : Two c1 c2 φ ψ A B M) (hc : c1 ≠ c2) (p : Str) : p ∈ M.st.map (·.1) ↔ p ∈ A.st.map (·.1) ++ B.st.map (·.1) := by
  have inL : ∀ {l : List (Str × Th)} {p : Str}, p ∈ l.map (·.1) ↔ look l p ≠ none := fun {l p} => ⟨fun h e => look_none.mp e h, fun h => Classical.byContradiction fun n => h (look_none.mpr n)⟩
  rw [List.mem_append]
  constructor
  · intro h
    rcases t.all p h with z | z
    · left
      rw [inL] at h ⊢
      intro e
      rw [t.a.lk p z, e] at h
      exact h rfl
    · right
      rw [inL] at h ⊢
      intro e
      rw [t.b.lk p z, e] at h
      exact h rfl
  · intro h
    rcases h with h | h
    · have z := t.a.own p h
      rw [inL] at h ⊢
      rw [t.a.lk p z]
      intro e
      cases q : look A.st p with
      | none => exact h q
      | some x =>
        rw [q] at e
        cases e
    · have z := t.b.own p h
      rw [inL] at h ⊢
      rw [t.b.lk p z]
      intro e
      cases q : look B.st p with
      | none => exact h q
      | some x =>
        rw [q] at e
        cases e
end
/-- the empty house -/
def nil : Hs := ⟨[], []⟩
theorem sim_nil (c : Nat) : Sim c id nil nil where
  lk := fun _ _ => rfl
  fl := fun i d h => by
    have h' : ([] : List (Array UInt8 × Int × Int))[i]? = some d := h
    rw [List.getElem?_nil] at h'
    cases h'
  lt := fun i h => absurd h (Nat.not_lt_zero i)
  inj := fun i j h => absurd h (Nat.not_lt_zero i)
  ids := fun p i h => by cases (show (none : Option Th) = some (.fil i) from h)
  own := fun p h => absurd (show p ∈ ([] : List Str) from h) (by simp)
  nd := List.nodup_nil
theorem two_nil (c1 c2 : Nat) : Two c1 c2 id id nil nil nil where
  a := sim_nil c1
  b := sim_nil c2
  dis := fun i j h => absurd h (Nat.not_lt_zero i)
  all := fun p h => absurd (show p ∈ ([] : List Str) from h) (by simp)
  nd := List.nodup_nil
end TKP

namespace TarK
open PySem
/-! ### paths as lists of code lists -/
def LETS : Str := "abcdefghijklmnopqrstuvwxyz0123456789._-/"
def splB (z : Str) : List (List Nat) := TL.spl [47] 0 [] z.cps.toList
def isPB (z : Str) : Bool := (splB z).all fun p => !(decide (p = []) || (decide (p = [46]) || decide (p = [46, 46])))
def joinT (ps : List (List Nat)) : Str := SX.S (TL.joinL [47] ps)
def abvB (z : Str) : List Str := (List.range ((splB z).length - 1)).map fun k => joinT ((splB z).take (k + 1))
def TX : TKP.Tx := ⟨isPB, abvB⟩
structure PsOk (ps : List (List Nat)) : Prop where
  ne : ps ≠ []
  ok : ∀ p ∈ ps, ∀ c ∈ p, c ≠ 47 ∧ c ∈ LETS.cps.toList
theorem splB_join {ps : List (List Nat)} (h : PsOk ps) : splB (joinT ps) = ps := TL.spl_join (S := []) h.ne fun p hp hc => (h.ok p hp 47 hc).1 rfl
theorem mem_join {c : Nat} : ∀ {ps : List (List Nat)}, c ∈ TL.joinL [47] ps → c = 47 ∨ ∃ p ∈ ps, c ∈ p
  | [], h => absurd (show c ∈ ([] : List Nat) from h) (by simp)
  | [p], h => .inr ⟨p, List.mem_cons_self, h⟩
  | p :: q :: r, h => by
    have h' : c ∈ p ++ ([47] ++ TL.joinL [47] (q :: r)) := h
    rcases List.mem_append.mp h' with h | h
    · exact .inr ⟨p, List.mem_cons_self, h⟩
    · rcases List.mem_append.mp h with h | h
      · exact .inl (List.mem_singleton.mp h)
      · rcases mem_join h with e | ⟨s, hs, hc⟩
        · exact .inl e
        · exact .inr ⟨s, List.mem_cons_of_mem _ hs, hc⟩
/-- a name that the program takes -/
def NmOk (z : Str) : Prop := 1 ≤ z.length ∧ z.length ≤ 250 ∧ ∀ c ∈ z.cps.toList, c ∈ LETS.cps.toList
theorem let47 : 47 ∈ LETS.cps.toList := by decide +kernel
/-- a path of at most n signs -/
def WOk (n : Nat) (z : Str) : Prop := ∃ ps, PsOk ps ∧ (TL.joinL [47] ps).length ≤ n ∧ z = joinT ps
/-- a path below the folder c -/
def NmC (c : Nat) (z : Str) : Prop := ∃ ps, ps ≠ [] ∧ PsOk ([c] :: ps) ∧ (TL.joinL [47] ([c] :: ps)).length ≤ 200 ∧ z = joinT ([c] :: ps)
theorem NmC.nmOk {c : Nat} {z : Str} (h : NmC c z) : NmOk z := by
  obtain ⟨ps, hne, ok, hl, rfl⟩ := h
  refine ⟨?_, ?_, fun d hd => ?_⟩
  · show 1 ≤ (SX.S _).length
    rw [SX.S_len]
    cases ps with
    | nil => exact absurd rfl hne
    | cons p ps =>
      show 1 ≤ ([c] ++ ([47] ++ TL.joinL [47] (p :: ps))).length
      rw [List.length_append]
      exact Nat.le_add_right 1 _
  · show (SX.S _).length ≤ 250
    rw [SX.S_len]
    omega
  · have hd' : d ∈ TL.joinL [47] ([c] :: ps) := hd
    rcases mem_join hd' with e | ⟨p, hp, hc⟩
    · rw [e]
      exact let47
    · exact (ok.ok p hp d hc).2
theorem head_join {c : Nat} {ps : List (List Nat)} : (TL.joinL [47] ([c] :: ps)).head? = some c := by
  cases ps <;> rfl
theorem NmC.hd {c : Nat} {z : Str} (h : NmC c z) : TKP.Hd c z := by
  obtain ⟨ps, _, _, _, rfl⟩ := h
  exact head_join
theorem NmC.abv {c : Nat} {z : Str} (h : NmC c z) : ∀ q ∈ abvB z, TKP.Hd c q := by
  obtain ⟨ps, _, ok, _, rfl⟩ := h
  intro q hq
  unfold abvB at hq
  rw [splB_join ok] at hq
  obtain ⟨k, _, rfl⟩ := List.mem_map.mp hq
  exact head_join
theorem cat_join {c : Nat} {ps : List (List Nat)} (h : ps ≠ []) : SX.S [c, 47] ++ joinT ps = joinT ([c] :: ps) := by
  unfold joinT
  rw [SX.S_cat]
  cases ps with
  | nil => exact absurd rfl h
  | cons p ps => rfl
theorem WOk.below {n c : Nat} {z : Str} (h : WOk n z) (hn : n ≤ 190) (hc : c ≠ 47 ∧ c ∈ LETS.cps.toList) : NmC c (SX.S [c, 47] ++ z) := by
  obtain ⟨ps, ok, hl, rfl⟩ := h
  refine ⟨ps, ok.ne, ⟨List.cons_ne_nil _ _, fun p hp d hd => ?_⟩, ?_, cat_join ok.ne⟩
  · rcases List.mem_cons.mp hp with e | hp
    · rw [e] at hd
      rw [List.mem_singleton.mp hd]
      exact hc
    · exact ok.ok p hp d hd
  · obtain ⟨p, r, e⟩ : ∃ p r, ps = p :: r := by
      cases ps with
      | nil => exact absurd rfl ok.ne
      | cons p r => exact ⟨p, r, rfl⟩
    subst e
    show ([c] ++ ([47] ++ TL.joinL [47] (p :: r))).length ≤ 200
    rw [List.length_append, List.length_append]
    simp only [List.length_cons, List.length_nil]
    omega
theorem len_part {p : List Nat} : ∀ {ps : List (List Nat)}, p ∈ ps → p.length ≤ (TL.joinL [47] ps).length
  | [], h => absurd h (by simp)
  | [q], h => by
    rw [List.mem_singleton.mp h]
    exact Nat.le_refl _
  | q :: r :: s, h => by
    show p.length ≤ (q ++ ([47] ++ TL.joinL [47] (r :: s))).length
    rw [List.length_append, List.length_append]
    rcases List.mem_cons.mp h with e | h
    · rw [e]
      omega
    · have := len_part h
      omega
theorem WOk.part {n : Nat} {z : Str} (h : WOk n z) {p : List Nat} (hp : p ∈ splB z) : WOk n (SX.S p) := by
  obtain ⟨ps, ok, hl, rfl⟩ := h
  rw [splB_join ok] at hp
  exact ⟨[p], ⟨List.cons_ne_nil _ _, fun q hq => by rw [List.mem_singleton.mp hq]; exact ok.ok p hp⟩, Nat.le_trans (len_part hp) hl, rfl⟩
theorem WOk.split {n : Nat} {z : Str} (h : WOk n z) : ∃ p r, splB z = p :: r := by
  obtain ⟨ps, ok, hl, rfl⟩ := h
  rw [splB_join ok]
  cases ps with
  | nil => exact absurd rfl ok.ne
  | cons p r => exact ⟨p, r, rfl⟩
theorem split_eq (z : Str) : Txt.split z "/" = (splB z).map SX.S := by
  have e := SX.split_S (a := z.cps.toList) (b := [47]) (by decide) (by decide)
  rw [SX.S_tl] at e
  exact e
theorem join_eq (ps : List (List Nat)) : Txt.join "/" (ps.map SX.S) = joinT ps := SX.join_S [47] ps
theorem spl_len : ∀ (l acc : List Nat), (TL.spl [47] 0 acc l).length ≤ l.length + 1
  | [], acc => by
    rw [TL.spl_nil]
    exact Nat.le_refl _
  | c :: l, acc => by
    cases h : TL.pre [47] (c :: l) with
    | true =>
      rw [TL.spl_hit h, List.length_cons, List.length_cons]
      exact Nat.succ_le_succ (spl_len l [])
    | false =>
      rw [TL.spl_miss h, List.length_cons]
      exact Nat.le_succ_of_le (spl_len l (acc ++ [c]))
theorem splB_len (z : Str) : (splB z).length ≤ z.length + 1 := by
  have h := spl_len z.cps.toList []
  have e : z.cps.toList.length = z.length := rfl
  rw [e] at h
  exact h
theorem spl_sum : ∀ (l acc : List Nat), ((TL.spl [47] 0 acc l).map (·.length)).sum ≤ acc.length + l.length
  | [], acc => by
    rw [TL.spl_nil]
    show acc.length + 0 ≤ acc.length + 0
    exact Nat.le_refl _
  | c :: l, acc => by
    cases h : TL.pre [47] (c :: l) with
    | true =>
      rw [TL.spl_hit h, List.map_cons, List.sum_cons]
      have q : ((TL.spl [47] ([47].length - 1) [] l).map (·.length)).sum ≤ 0 + l.length := spl_sum l []
      have e : (c :: l).length = l.length + 1 := rfl
      rw [e]
      omega
    | false =>
      rw [TL.spl_miss h, List.length_cons]
      have q := spl_sum l (acc ++ [c])
      rw [List.length_append, List.length_singleton] at q
      omega
theorem sum_take : ∀ (l : List Nat) (k : Nat), (l.take k).sum ≤ l.sum
  | [], k => by rw [List.take_nil]; exact Nat.le_refl _
  | a :: l, 0 => Nat.zero_le _
  | a :: l, k + 1 => by
    rw [List.take_succ_cons, List.sum_cons, List.sum_cons]
    exact Nat.add_le_add_left (sum_take l k) a
theorem splB_sum (z : Str) (k : Nat) : ((((splB z).take k).map SX.S).map (·.length)).sum ≤ z.length := by
  rw [List.map_map]
  have e : ((splB z).take k).map ((·.length) ∘ SX.S) = ((splB z).map (·.length)).take k := by
    rw [List.map_take]
    have e2 : (splB z).map ((·.length) ∘ SX.S) = (splB z).map (·.length) := List.map_congr_left fun p _ => SX.S_len p
    rw [e2]
  rw [e]
  have h := spl_sum z.cps.toList []
  have h' : ((splB z).map (·.length)).sum ≤ 0 + z.length := h
  exact Nat.le_trans (sum_take _ k) (by omega)
theorem memHd {c : Nat} {m : TKP.Mem} (h : NmC c m.name) (hl : ∀ n g, m = .link n g → NmC c g) : TKP.MemHd TX c m := ⟨h.hd, h.abv, fun n g e => (hl n g e).hd⟩
end TarK

namespace TarK
open PySem PySem.Spec PyProof.Rows L2 LamX NdefX
/-- a comprehension whose elements are told by their items, the heap left as it is -/
theorem lc_map {α : Type} {J : It} {G : Hp → Prop} {Y : Nat → Hp → V → Hp → Prop} {xs : List α} {g : TG} {te : TE} {vs : List Nat} {σ : L2.St} {H1 : Hp} {D : Addr} {Qd : Hp → Prop} {n : Nat} (w : Walk J n G Y) (hn : n = xs.length) (emb f : α → V)
    (hY : ∀ i H v H', Y i H v H' → H' = H ∧ ∃ x, xs[i]? = some x ∧ v = emb x) (hz : xs.length ≤ sizeLine) (hG : ∀ i, i ≤ xs.length → G (upd H1 D (.lst ((xs.take i).map f))))
    (hs : ∀ x ∈ xs, ∀ (l : List V) (k : V → Hp → Prop), k (f x) (upd H1 D (.lst l)) → g (emb x) (wipe σ vs) (upd H1 D (.lst l)) fun σ2 H2 => wipe σ2 vs = wipe σ vs ∧ te σ2 H2 k) (hd : Qd (upd H1 D (.lst (xs.map f)))) :
    ∃ W : Nat → Nat → Hp → Prop, (∃ m, W 0 m (upd H1 D (.lst []))) ∧ ∀ i m H, W i m H →
      (J.stop i H ∧ Qd H) ∨ (J.go i H ∧ ∃ Nx : Hp → Prop, (∀ H', Nx H' → ∃ m', m' < m ∧ W (i + 1) m' H') ∧ ∀ x H', J.yld i H x H' → g x (wipe σ vs) H' fun σ2 H2 => wipe σ2 vs = wipe σ vs ∧ tYes σ2 H2 fun b H3 =>
        if b = true then te σ2 H3 fun y H4 => ∃ acc, H4 D = some (.lst acc) ∧ acc.length < sizeLine ∧ Nx (upd H4 D (.lst (acc ++ [y]))) else Nx H3) := by
  subst hn
  refine lc_it w (fun i H => H = upd H1 D (.lst ((xs.take i).map f))) (by rw [List.take_zero] <;> rfl) (fun i H hi e => by rw [e]; exact hG i hi) (fun i v H H' hi e hy => ?_) (fun H e => by rw [e, List.take_length]; exact hd)
  obtain ⟨e1, x, hx, ev⟩ := hY i H v H' hy
  subst e e1 ev
  have hl : ((xs.take i).map f).length < sizeLine := by
    rw [List.length_map, List.length_take]
    omega
  have ht : (xs.take (i + 1)).map f = (xs.take i).map f ++ [f x] := by
    rw [List.take_add_one, hx, List.map_append]
    rfl
  have key := hs x (List.mem_of_getElem? hx) ((xs.take i).map f) (fun y H4 => ∃ acc, H4 D = some (.lst acc) ∧ acc.length < sizeLine ∧ upd H4 D (.lst (acc ++ [y])) = upd H1 D (.lst ((xs.take (i + 1)).map f)))
    ⟨_, upd_same, hl, by rw [upd_upd, ht]⟩
  exact key
theorem rd_upd {H : Hp} {a D : Addr} {o u : HO} (h : Rd H a u) (hn : H D = none) : Rd (upd H D o) a u := by
  rcases h with h | ⟨b, h⟩
  · exact .inl (by rw [upd_ne (ne_of_none h hn)]; exact h)
  · exact .inr ⟨b, by rw [upd_ne (ne_of_none h hn)]; exact h⟩
theorem sqL_upd {K : PySem.W.Frag} {H : Hp} {a D : Addr} {o : HO} {xs : List V} (h : SqL K H a xs) (hn : H D = none) : SqL K (upd H D o) a xs := by
  rcases h with h | h
  · exact .inl (rd_upd h hn)
  · exact .inr h
theorem sqT_upd {K : PySem.W.Frag} {H : Hp} {a D : Addr} {o : HO} {xs : List V} (h : SqT K H a xs) (hn : H D = none) : SqT K (upd H D o) a xs := by
  rcases h with h | h
  · exact .inl (rd_upd h hn)
  · exact .inr h
theorem yl {K : PySem.W.Frag} {α : Type} {xs : List α} {emb : α → V} : ∀ i H v H', YAt (xs.map emb) i H v H' → H' = H ∧ ∃ x, xs[i]? = some x ∧ v = emb x := fun i H v H' h => by
  obtain ⟨e, h⟩ := h
  rw [List.getElem?_map] at h
  cases q : xs[i]? with
  | none => rw [q] at h; cases h
  | some x =>
    rw [q] at h
    exact ⟨e, x, rfl, (Option.some.inj h).symm⟩
theorem all_bl {α : Type} {xs : List α} {f : α → Bool} : (xs.map fun x => V.bl (f x)) = (xs.map f).map V.bl := by
  rw [List.map_map]
  rfl
theorem TyX.sqL {K : PySem.W.Frag} {H : Hp} {a : Addr} {xs : List V} (h : SqL K H a xs) : TyX K H (.ref a) (.type "list") := by
  rcases h with (h | ⟨o, h⟩) | ⟨o, its, n, hk, hc, _⟩
  · exact .base (.lst h)
  · exact .base (.frz h)
  · exact .kList hk hc
theorem TyX.sqT {K : PySem.W.Frag} {H : Hp} {a : Addr} {xs : List V} (h : SqT K H a xs) : TyX K H (.ref a) (.type "tuple") := by
  rcases h with (h | ⟨o, h⟩) | ⟨o, its, n, hk, hc, _⟩
  · exact .base (.tup h)
  · exact .fTuple h
  · exact .kTuple hk hc
/-! ### blob -/
def spBlob (K : PySem.W.Frag) : Sp := fun vs H Q _ => ∃ (a : Addr) (ns : List Int), vs = [.ref a] ∧ SqL K H a (ns.map V.int) ∧ ns.length ≤ sizeLine ∧ (∀ n ∈ ns, 0 ≤ n ∧ n < 256) ∧ ∀ H', Kp [] H H' → Q (.byt (byteArr ns)) H'
theorem sc_blob : FnScope ["numbers", "number"] ["numbers"] (defScope s_blob) := ⟨rfl, rfl, rfl, by decide +kernel, rfl, by decide +kernel, by decide +kernel⟩
section
variable {P : Program} {w : World} {K : PySem.W.Frag} {mg : Str → Option Value} {base : Heap}
theorem ok_blob (T : TF K mg) : FR P w K mg base 3 (He.ga K "blob") (spBlob K) := by
  have G := ok_is_within (P := P) (w := w) (base := base) T
  refine okR T.fd_blob sc_blob (fun _ _ _ _ _ _ _ us hl => match us, hl with | [_], _ => rfl) (fun vs H Q E h => ?_) (fun cdv A outer s H vs Q E hr h => ?_)
  · obtain ⟨a, ns, rfl, _⟩ := h
    rfl
  · obtain ⟨a, ns, rfl, ha, hz, hb, q⟩ := h
    refine ⟨_, pss_cons (ps_if (pw_or (pt_not (pt_val (pe_callB call_isiT (by rfl) T.f_isinstance boot_isi (pa_cons (pv 0) (pa_cons (pe_tup (pa_cons (pe_ty (by rfl) T.f_list boot_list) (pa_cons (pe_ty (by rfl) T.f_tuple boot_tuple) pa_nil))) pa_nil)))))
        (pw_or1 (pt_not (pt_val (pe_callB (cr_all rfl) (by rfl) T.f_all boot_all (pa_cons
          (pe_lc (own := [("number", 1)]) (g := gName 1) (tt := tYes) rfl sc_blob.nd (pi_list (pv 0)) (blkOk_by (N := ["numbers", "number"]) (sc := defScope s_blob) (by decide +kernel)) (fun _ _ _ _ _ => pg_name (i := 1) sc_blob.nd rfl (.inl rfl)) (fun _ _ _ _ _ => pts_nil)
            (fun _ _ _ _ _ => pe_callR G hr T.g_is_within T.k_is_within (by rfl) passL (pa_cons (pv 1) (pa_cons pe_int (pa_cons pe_int pa_nil))))) pa_nil)))))).pt pss_no pss_nil)
      (pss_one (ps_ret (pe_callTy (call_bytes_list rfl) (by rfl) T.f_bytes boot_bytes (pa_cons (pv 0) pa_nil)))), ?_⟩
    refine ⟨_, rfl, by show 2 ≤ sizeLine; decide, fun t ht => ?_⟩
    have ha1 : SqL K (upd H t (.tup [.ty "list", .ty "tuple"])) a (ns.map V.int) := sqL_upd ha ht
    refine ⟨_, t, _, _, [.type "list", .type "tuple"], true, rfl, upd_same, .cons (.ty _) (.cons (.ty _) .nil), TyX.sqL ha1, kitAny_cons (b := true) (kit_ty (by decide +kernel)) (fun z => by cases z) (fun _ => rfl), ?_⟩
    refine ⟨true, rfl, ?_⟩
    refine ⟨_, rfl, a, rfl, ⟨_, ha1⟩, fun D hD => ?_⟩
    refine lc_map (xs := ns) (walk_list (K := K) (a := a) (xs := ns.map V.int)) (List.length_map _) (fun n => V.int n) (fun n => V.bl (decide (0 ≤ n) && decide (n ≤ 255))) (yl (K := K)) hz (fun i _ => sqL_upd ha1 hD) (fun n hn l k hk => ?_) ?_
    · exact ⟨rfl, _, rfl, n, 0, 255, rfl, hk⟩
    · rw [all_bl]
      refine ⟨D, _, rfl, .of upd_same, ?_⟩
      have e : (ns.map fun n => decide (0 ≤ n) && decide (n ≤ 255)).all id = true := by
        rw [List.all_map]
        refine List.all_eq_true.mpr fun n hn => ?_
        obtain ⟨h1, h2⟩ := hb n hn
        show (decide (0 ≤ n) && decide (n ≤ 255)) = true
        rw [decide_eq_true h1, decide_eq_true (by omega : n ≤ 255)]
        rfl
      rw [e]
      refine ⟨true, rfl, ?_⟩
      refine ⟨_, rfl, a, ns, rfl, sqL_upd ha1 hD, fun n hn => hb n hn, q _ ?_⟩
      exact (Kp.new ht).trans (Kp.new hD)
end
end TarK

namespace TarK
open PySem PySem.Spec PyProof.Rows L2 LamX NdefX
theorem Kp.drop {l : List Addr} {H H1 : Hp} {D : Addr} {o : HO} (k : Kp (D :: l) (upd H D o) H1) (hn : H D = none) : Kp l H H1 := fun b u e n => by
  have hb : b ≠ D := ne_of_none e hn
  exact k b u (by rw [upd_ne hb]; exact e) fun z => (List.mem_cons.mp z).elim hb n
/-- .. the elements may make objects -/
theorem lc_mapK {α : Type} {J : It} {G : Hp → Prop} {Y : Nat → Hp → V → Hp → Prop} {xs : List α} {g : TG} {te : TE} {vs : List Nat} {σ : L2.St} {H1 : Hp} {D : Addr} {Qd : Hp → Prop} {n : Nat} (w : Walk J n G Y) (hn : n = xs.length) (emb f : α → V)
    (hY : ∀ i H v H', Y i H v H' → H' = H ∧ ∃ x, xs[i]? = some x ∧ v = emb x) (hz : xs.length ≤ sizeLine) (hD : H1 D = none) (hG : ∀ H, Kp [] H1 H → G H)
    (hs : ∀ x ∈ xs, ∀ (H : Hp), Kp [] H1 H → ∀ (k : V → Hp → Prop), (∀ H', Kp [] H H' → k (f x) H') → g (emb x) (wipe σ vs) H fun σ2 H2 => wipe σ2 vs = wipe σ vs ∧ te σ2 H2 k)
    (hd : ∀ H, Kp [] H1 H → H D = some (.lst (xs.map f)) → Qd H) :
    ∃ W : Nat → Nat → Hp → Prop, (∃ m, W 0 m (upd H1 D (.lst []))) ∧ ∀ i m H, W i m H →
      (J.stop i H ∧ Qd H) ∨ (J.go i H ∧ ∃ Nx : Hp → Prop, (∀ H', Nx H' → ∃ m', m' < m ∧ W (i + 1) m' H') ∧ ∀ x H', J.yld i H x H' → g x (wipe σ vs) H' fun σ2 H2 => wipe σ2 vs = wipe σ vs ∧ tYes σ2 H2 fun b H3 =>
        if b = true then te σ2 H3 fun y H4 => ∃ acc, H4 D = some (.lst acc) ∧ acc.length < sizeLine ∧ Nx (upd H4 D (.lst (acc ++ [y]))) else Nx H3) := by
  subst hn
  refine lc_it w (fun i H => H D = some (.lst ((xs.take i).map f)) ∧ Kp [D] (upd H1 D (.lst [])) H) ⟨by rw [upd_same, List.take_zero] <;> rfl, Kp.refl _ _⟩ (fun i H hi e => hG H (Kp.drop e.2 hD)) (fun i v H H' hi e hy => ?_) (fun H e => hd H (Kp.drop e.2 hD) (by rw [e.1, List.take_length]))
  obtain ⟨e1, x, hx, ev⟩ := hY i H v H' hy
  obtain ⟨eD, kp⟩ := e
  subst e1 ev
  have hl : ((xs.take i).map f).length < sizeLine := by
    rw [List.length_map, List.length_take]
    omega
  have ht : (xs.take (i + 1)).map f = (xs.take i).map f ++ [f x] := by
    rw [List.take_add_one, hx, List.map_append]
    rfl
  have key := hs x (List.mem_of_getElem? hx) H' (Kp.drop kp hD) (fun y H4 => ∃ acc, H4 D = some (.lst acc) ∧ acc.length < sizeLine ∧ (upd H4 D (.lst (acc ++ [y])) D = some (.lst ((xs.take (i + 1)).map f)) ∧ Kp [D] (upd H1 D (.lst [])) (upd H4 D (.lst (acc ++ [y])))))
    (fun H4 k4 => ⟨_, k4 _ _ eD (by simp), hl, by rw [upd_same, ht], (kp.trans (Kp.of k4 _)).trans (Kp.put (List.mem_singleton.mpr rfl))⟩)
  exact key
theorem op_inK {X : Cx} {K : PySem.W.Frag} (h : X.K = K) : OpR X (compareOp .In) (rIn K false) := by
  subst h
  exact op_in_seq
/-! ### names -/
theorem Kp.new2 {H : Hp} {p q : Addr} {o u : HO} (h : H p = none) (h2 : upd H p o q = none) : Kp [] H (upd (upd H p o) q u) := (Kp.new h).trans (Kp.new h2)
def spName : Sp := fun vs H Q _ => ∃ z : Str, vs = [.str z] ∧ NmOk z ∧ ∀ H', Kp [] H H' → Q (.bl true) H'
def spPath : Sp := fun vs H Q _ => ∃ z : Str, vs = [.str z] ∧ NmOk z ∧ ∀ H', Kp [] H H' → Q (.bl (isPB z)) H'
def spLook : Sp := fun vs H Q _ => ∃ z : Str, vs = [.str z] ∧ NmOk z ∧ ∀ H', Kp [] H H' → Q .non H'
def StOk (m t : Int) : Prop := (0 ≤ m ∧ m ≤ 4095) ∧ 0 ≤ t ∧ t ≤ 8589934591
def spStamps : Sp := fun vs H Q _ => ∃ m t : Int, vs = [.int m, .int t] ∧ StOk m t ∧ Q .non H
theorem sc_is_name : FnScope ["thing", "sign"] ["thing"] (defScope s_is_name) := ⟨rfl, rfl, rfl, by decide +kernel, rfl, by decide +kernel, by decide +kernel⟩
theorem sc_is_path : FnScope ["thing", "part"] ["thing"] (defScope s_is_path) := ⟨rfl, rfl, rfl, by decide +kernel, rfl, by decide +kernel, by decide +kernel⟩
theorem sc_look_name : FnScope ["name"] ["name"] (defScope s_look_name) := ⟨rfl, rfl, rfl, by decide +kernel, rfl, by decide +kernel, by decide +kernel⟩
theorem sc_look_stamps : FnScope ["mode", "time"] ["mode", "time"] (defScope s_look_stamps) := ⟨rfl, rfl, rfl, by decide +kernel, rfl, by decide +kernel, by decide +kernel⟩
theorem fits_len {z : Str} (h : z.length ≤ 250) : z.length ≤ sizeLine := Nat.le_trans h (by decide)
section
variable {P : Program} {w : World} {K : PySem.W.Frag} {mg : Str → Option Value} {base : Heap}
theorem ok_is_name (T : TF K mg) : FR P w K mg base 1 (He.ga K "is_name") spName := by
  obtain ⟨tN, gN⟩ := T.i_MOST_NAME
  obtain ⟨tL, gL⟩ := T.letters
  refine okR T.fd_is_name sc_is_name (fun _ _ _ _ _ _ _ us hl => match us, hl with | [_], _ => rfl) (fun vs H Q E h => ?_) (fun cdv A outer s H vs Q E hr h => ?_)
  · obtain ⟨z, rfl, _⟩ := h
    rfl
  · obtain ⟨z, rfl, ⟨h1, h2, h3⟩, q⟩ := h
    refine ⟨_, pss_cons (ps_if (pw_or (pt_not (pt_val (pe_callB call_isi (by rfl) T.f_isinstance boot_isi (pa_cons (pv 0) (pa_cons (pe_ty (by rfl) T.f_str boot_str) pa_nil)))))
        (pw_or1 (pt_not (pt_chain op_le op_le pe_int (pe_callB call_len (by rfl) T.f_len boot_len (pa_cons (pv 0) pa_nil)) (pe_glob (v := .int 250) (by rfl) gN ⟨_, rfl⟩))))).pt pss_no pss_nil)
      (pss_one (ps_ret (pe_callB (cr_all rfl) (by rfl) T.f_all boot_all (pa_cons
          (pe_lc (own := [("sign", 1)]) (g := gName 1) (tt := tYes) rfl sc_is_name.nd (pi_str (pv 0)) (blkOk_by (N := ["thing", "sign"]) (sc := defScope s_is_name) (by decide +kernel)) (fun _ _ _ _ _ => pg_name (i := 1) sc_is_name.nd rfl (.inl rfl)) (fun _ _ _ _ _ => pts_nil)
            (fun _ _ _ _ _ => pe_cmpR op_in_sign (pv 1) (pe_glob (v := .str LETS) (by rfl) gL ⟨_, rfl⟩) (by rfl))) pa_nil)))), ?_⟩
    refine ⟨_, rfl, _, _, _, _, true, rfl, .ty _, .base (.str _), kit_ty (by decide +kernel), true, rfl, ?_⟩
    refine ⟨_, rfl, _, _, rfl, ⟨fits_len h2, rfl⟩, _, _, rfl, rfl, true, ?_, ?_⟩
    · exact congrArg V.bl (decide_eq_true (show (1 : Int) ≤ (z.length : Int) by omega))
    · refine ⟨_, _, rfl, rfl, true, ?_, ?_⟩
      · exact congrArg V.bl (decide_eq_true (show (z.length : Int) ≤ 250 by omega))
      · refine ⟨_, rfl, _, rfl, fun D hD => ?_⟩
        refine lc_map (xs := z.cps.toList) (walk_str (z := z)) rfl (fun c => V.str ⟨#[c]⟩) (fun c => V.bl (decide (c ∈ LETS.cps.toList))) (fun i H v H' hy => ?_) (fits_len h2) (fun _ _ => trivial) (fun c hc l k hk => ?_) ?_
        · obtain ⟨e, c, hc, ev⟩ := hy
          exact ⟨e, c, by rw [Array.getElem?_toList]; exact hc, ev⟩
        · exact ⟨rfl, _, rfl, c, LETS, rfl, rfl, hk⟩
        · rw [all_bl]
          refine ⟨D, _, rfl, .of upd_same, ?_⟩
          have e : (z.cps.toList.map fun c => decide (c ∈ LETS.cps.toList)).all id = true := by
            rw [List.all_map]
            exact List.all_eq_true.mpr fun c hc => decide_eq_true (h3 c hc)
          rw [e]
          exact q _ (Kp.new hD)
theorem ok_is_path (T : TF K mg) : FR P w K mg base 2 (He.ga K "is_path") spPath := by
  have G := ok_is_name (P := P) (w := w) (base := base) T
  refine okR T.fd_is_path sc_is_path (fun _ _ _ _ _ _ _ us hl => match us, hl with | [_], _ => rfl) (fun vs H Q E h => ?_) (fun cdv A outer s H vs Q E hr h => ?_)
  · obtain ⟨z, rfl, _⟩ := h
    rfl
  · obtain ⟨z, rfl, hz, q⟩ := h
    refine ⟨_, pss_one (ps_ret (pe_and (pe_callR G hr T.g_is_name T.k_is_name (by rfl) passL (pa_cons (pv 0) pa_nil)) (pe_one (pe_not (pe_callB (cr_any rfl) (by rfl) T.f_any boot_any (pa_cons
          (pe_lc (own := [("part", 1)]) (g := gName 1) (tt := tYes) rfl sc_is_path.nd (pi_list (pe_split (pv 0) pe_str)) (blkOk_by (N := ["thing", "part"]) (sc := defScope s_is_path) (by decide +kernel)) (fun _ _ _ _ _ => pg_name (i := 1) sc_is_path.nd rfl (.inl rfl)) (fun _ _ _ _ _ => pts_nil)
            (fun _ _ _ _ _ => pe_cmpR (op_inK (K := K) rfl) (pv 1) (pe_tup (pa_cons pe_str (pa_cons pe_str (pa_cons pe_str pa_nil)))) (by rfl))) pa_nil)))))), ?_⟩
    refine ⟨_, rfl, z, rfl, hz, fun H1 k1 => ⟨true, rfl, ?_⟩⟩
    refine ⟨_, rfl, ⟨_, rfl⟩, _, _, rfl, rfl, by decide, Nat.le_trans (Nat.add_le_add_right hz.2.1 2) (by decide), fun p hp => ?_⟩
    have hlen : (splB z).length ≤ sizeLine := Nat.le_trans (splB_len z) (Nat.le_trans (Nat.add_le_add_right hz.2.1 1) (by decide))
    rw [split_eq]
    refine ⟨p, rfl, ⟨_, .of upd_same⟩, fun D hD => ?_⟩
    have hDp : D ≠ p := fun e => by
      rw [e, upd_same] at hD
      cases hD
    refine lc_mapK (xs := splB z) (walk_list (K := K) (a := p) (xs := (splB z).map fun c => V.str (SX.S c))) (List.length_map _) (fun c => V.str (SX.S c)) (fun c => V.bl (decide (c = []) || (decide (c = [46]) || decide (c = [46, 46])))) (yl (K := K)) hlen hD
      (fun H2 k2 => .of (k2 _ _ (by rw [upd_same, List.map_map] <;> rfl) (by simp))) (fun c hc H2 k2 k hk => ?_) (fun H2 k2 e2 => ?_)
    · refine ⟨rfl, _, rfl, by show 3 ≤ sizeLine; decide, fun t ht => ?_⟩
      refine ⟨t, _, rfl, .inr (.of upd_same), rfl, rfl, ?_⟩
      have e : inV (V.str (SX.S c)) [.str "", .str ".", .str ".."] = (decide (c = []) || (decide (c = [46]) || decide (c = [46, 46]))) := by
        show (((("" : Str) == SX.S c)) || ((("." : Str) == SX.S c) || (((".." : Str) == SX.S c) || false))) = _
        rw [Bool.or_false, show ("" : Str) = SX.S [] from rfl, show ("." : Str) = SX.S [46] from rfl, show (".." : Str) = SX.S [46, 46] from rfl, SX.S_beq_eq, SX.S_beq_eq, SX.S_beq_eq]
        have sw : ∀ a : List Nat, decide (a = c) = decide (c = a) := fun a => by
          by_cases h : a = c
          · rw [decide_eq_true h, decide_eq_true h.symm]
          · rw [decide_eq_false h, decide_eq_false fun z => h z.symm]
        rw [sw, sw, sw]
      show k (.bl (if false = true then !_ else _)) _
      rw [e]
      exact hk _ (Kp.new ht)
    · rw [all_bl] at e2
      refine ⟨D, _, rfl, .of e2, _, rfl, ?_⟩
      have e : (!((splB z).map fun c => decide (c = []) || (decide (c = [46]) || decide (c = [46, 46]))).any id) = isPB z := by
        rw [List.any_map, List.not_any_eq_all_not]
        rfl
      rw [e]
      exact q _ ((k1.trans (Kp.new hp)).trans k2)
theorem ok_look_name (T : TF K mg) : FR P w K mg base 2 (He.ga K "look_name") spLook := by
  have G := ok_is_name (P := P) (w := w) (base := base) T
  refine okR T.fd_look_name sc_look_name (fun _ _ _ _ _ _ _ us hl => match us, hl with | [_], _ => rfl) (fun vs H Q E h => ?_) (fun cdv A outer s H vs Q E hr h => ?_)
  · obtain ⟨z, rfl, _⟩ := h
    rfl
  · obtain ⟨z, rfl, hz, q⟩ := h
    refine ⟨_, pss_one (ps_if (pt_not (pt_val (pe_callR G hr T.g_is_name T.k_is_name (by rfl) passL (pa_cons (pv 0) pa_nil)))) pss_no pss_nil), ?_⟩
    exact ⟨_, rfl, z, rfl, hz, fun H1 k1 => ⟨true, rfl, q _ k1⟩⟩
theorem ok_look_stamps (T : TF K mg) : FR P w K mg base 3 (He.ga K "look_stamps") spStamps := by
  have G := ok_is_within (P := P) (w := w) (base := base) T
  obtain ⟨tM, gM⟩ := T.i_MOST_MODE
  obtain ⟨tT, gT⟩ := T.i_MOST_TIME
  refine okR T.fd_look_stamps sc_look_stamps (fun _ _ _ _ _ _ _ us hl => match us, hl with | [_, _], _ => rfl) (fun vs H Q E h => ?_) (fun cdv A outer s H vs Q E hr h => ?_)
  · obtain ⟨m, t, rfl, _⟩ := h
    rfl
  · obtain ⟨m, t, rfl, ⟨⟨m1, m2⟩, t1, t2⟩, q⟩ := h
    refine ⟨_, pss_cons (ps_if (pt_not (pt_val (pe_callR G hr T.g_is_within T.k_is_within (by rfl) passL (pa_cons (pv 0) (pa_cons pe_int (pa_cons (pe_glob (v := .int 4095) (by rfl) gM ⟨_, rfl⟩) pa_nil)))))) pss_no pss_nil)
      (pss_one (ps_if (pt_not (pt_val (pe_callR G hr T.g_is_within T.k_is_within (by rfl) passL (pa_cons (pv 1) (pa_cons pe_int (pa_cons (pe_glob (v := .int 8589934591) (by rfl) gT ⟨_, rfl⟩) pa_nil)))))) pss_no pss_nil)), ?_⟩
    refine ⟨_, rfl, m, 0, 4095, rfl, _, rfl, ?_⟩
    rw [decide_eq_true m1, decide_eq_true m2]
    refine ⟨_, rfl, t, 0, 8589934591, rfl, _, rfl, ?_⟩
    rw [decide_eq_true t1, decide_eq_true t2]
    exact q
end
end TarK

namespace TarK
open PySem PySem.Spec PyProof.Rows L2 LamX NdefX
theorem rd_kp {H H' : Hp} {t : Addr} {u : HO} {l : List Addr} (h : Rd H t u) (k : Kp l H H') (m : ∀ b ∈ l, Mut (H b)) (hu : ¬ Mut (some u)) : Rd H' t u := by
  rcases h with h | ⟨o, h⟩
  · exact .inl (k _ _ h fun z => hu (by have y := m t z; rw [h] at y; exact y))
  · exact .inr ⟨o, k _ _ h fun z => by
      have y := m t z
      rw [h] at y
      exact y⟩
theorem sqT_kp {K : PySem.W.Frag} {H H' : Hp} {t : Addr} {xs : List V} {l : List Addr} (h : SqT K H t xs) (k : Kp l H H') (m : ∀ b ∈ l, Mut (H b)) : SqT K H' t xs := by
  rcases h with h | h
  · exact .inl (rd_kp h k m fun z => z)
  · exact .inr h
theorem sqT_ext {K : PySem.W.Frag} {H H' : Hp} {t : Addr} {xs : List V} (h : SqT K H t xs) (k : Kp [] H H') : SqT K H' t xs := sqT_kp h k fun b hb => absurd hb (by simp)
theorem sqL_ext {K : PySem.W.Frag} {H H' : Hp} {t : Addr} {xs : List V} (h : SqL K H t xs) (k : Kp [] H H') : SqL K H' t xs := k.sqL h (by simp)
theorem call_lenK {X : Cx} {K : PySem.W.Frag} (h : X.K = K) : CallR X (.builtin "len") (fun xs H Q => ∃ x n, xs = [x] ∧ LenV K x H n ∧ Q (.int n) H) := by
  subst h
  exact call_len
/-! ### pieces -/
def endA : List (Int × Int) → Nat → Int
  | _, 0 => -1
  | os, j + 1 => match os[j]? with
    | some p => p.1 + p.2
    | none => -1
theorem endA_at {os : List (Int × Int)} {j : Nat} {o n : Int} (h : os[j]? = some (o, n)) : endA os (j + 1) = o + n := by
  show (match os[j]? with | some p => p.1 + p.2 | none => -1) = o + n
  rw [h]
structure SpansOk (size : Int) (os : List (Int × Int)) : Prop where
  rise : ∀ (i : Nat) (o n : Int), os[i]? = some (o, n) → endA os i < o ∧ 1 ≤ n
  fin : endA os os.length ≤ size
  few : os.length ≤ 50
def PairAt (K : PySem.W.Frag) (H : Hp) (p : Int × Int) (v : V) : Prop := ∃ t, v = .ref t ∧ SqT K H t [.int p.1, .int p.2]
def PieceAt (K : PySem.W.Frag) (H : Hp) (p : Int × Array UInt8) (v : V) : Prop := ∃ t, v = .ref t ∧ SqT K H t [.int p.1, .byt p.2]
theorem Paired.at {α β : Type} {F : α → β → Prop} : ∀ {l : List α} {m : List β} {i : Nat} {b : β}, Paired F l m → m[i]? = some b → ∃ a, l[i]? = some a ∧ F a b
  | _, _, i, _, .nil, h => by simp at h
  | _, _, 0, _, .cons r _, h => ⟨_, rfl, by cases h; exact r⟩
  | _, _, i + 1, b, .cons _ t, h => Paired.at (i := i) (b := b) t (by simpa using h)
theorem Paired.at2 {α β : Type} {F : α → β → Prop} : ∀ {l : List α} {m : List β} {i : Nat} {a : α}, Paired F l m → l[i]? = some a → ∃ b, m[i]? = some b ∧ F a b
  | _, _, i, _, .nil, h => by simp at h
  | _, _, 0, _, .cons r _, h => ⟨_, rfl, by cases h; exact r⟩
  | _, _, i + 1, b, .cons _ t, h => Paired.at2 (i := i) t (by simpa using h)
theorem Paired.snoc {α β : Type} {F : α → β → Prop} : ∀ {l : List α} {m : List β} {a : α} {b : β}, Paired F l m → F a b → Paired F (l ++ [a]) (m ++ [b])
  | _, _, _, _, .nil, h => .cons h .nil
  | _, _, _, _, .cons r t, h => .cons r (Paired.snoc t h)
def spPiece (K : PySem.W.Frag) : Sp := fun vs H Q _ => ∃ (t : Addr) (o : Int) (b : Array UInt8), vs = [.ref t] ∧ SqT K H t [.int o, .byt b] ∧ 0 < b.size ∧ b.size ≤ 4096 ∧ Q (.bl true) H
def spSpans (K : PySem.W.Frag) : Sp := fun vs H Q _ => ∃ (size : Int) (l : Addr) (os : List (Int × Int)) (ts : List V), vs = [.int size, .ref l] ∧ SqL K H l ts ∧ Paired (PairAt K H) os ts ∧ SpansOk size os ∧ Q (.bl true) H
def osOf (ps : List (Int × Array UInt8)) : List (Int × Int) := ps.map fun p => (p.1, (p.2.size : Int))
structure PcOk (size : Int) (ps : List (Int × Array UInt8)) : Prop where
  sp : SpansOk size (osOf ps)
  s0 : 0 ≤ size
  s1 : size ≤ 4096
  small : ∀ p ∈ ps, p.2.size ≤ 4096
def spPieces (K : PySem.W.Frag) : Sp := fun vs H Q _ => ∃ (size : Int) (t : Addr) (ps : List (Int × Array UInt8)) (ts : List V), vs = [.int size, .ref t] ∧ SqT K H t ts ∧ Paired (PieceAt K H) ps ts ∧ PcOk size ps ∧ ∀ H', Kp [] H H' → Q (.bl true) H'
theorem sc_is_piece : FnScope ["thing"] ["thing"] (defScope s_is_piece) := ⟨rfl, rfl, rfl, by decide +kernel, rfl, by decide +kernel, by decide +kernel⟩
theorem sc_are_spans : FnScope ["size", "spans", "end", "offset", "length"] ["size", "spans"] (defScope s_are_spans) := ⟨rfl, rfl, rfl, by decide +kernel, rfl, by decide +kernel, by decide +kernel⟩
theorem sc_are_pieces : FnScope ["size", "pieces", "piece", "offset", "data"] ["size", "pieces"] (defScope s_are_pieces) := ⟨rfl, rfl, rfl, by decide +kernel, rfl, by decide +kernel, by decide +kernel⟩
section
variable {P : Program} {w : World} {K : PySem.W.Frag} {mg : Str → Option Value} {base : Heap}
theorem ok_is_piece (T : TF K mg) : FR P w K mg base 2 (He.ga K "is_piece") (spPiece K) := by
  have G := ok_is_integer (P := P) (w := w) (base := base) T
  refine okR T.fd_is_piece sc_is_piece (fun _ _ _ _ _ _ _ us hl => match us, hl with | [_], _ => rfl) (fun vs H Q E h => ?_) (fun cdv A outer s H vs Q E hr h => ?_)
  · obtain ⟨t, o, b, rfl, _⟩ := h
    rfl
  · obtain ⟨t, o, b, rfl, ht, b0, b1, q⟩ := h
    refine ⟨_, pss_cons (ps_if (pw_or (pt_not (pt_val (pe_callB call_isi (by rfl) T.f_isinstance boot_isi (pa_cons (pv 0) (pa_cons (pe_ty (by rfl) T.f_tuple boot_tuple) pa_nil)))))
        (pw_or1 (pt_cmpR op_ne (pe_callB call_len (by rfl) T.f_len boot_len (pa_cons (pv 0) pa_nil)) pe_int (nomark _)))).pt pss_no pss_nil)
      (pss_one (ps_ret (pe_and (pe_callR G hr T.g_is_integer T.k_is_integer (by rfl) passL (pa_cons (pe_ix ix_tup (pv 0) pe_int (fun _ _ => rfl)) pa_nil))
        (pe_and (pe_callB call_isi (by rfl) T.f_isinstance boot_isi (pa_cons (pe_ix ix_tup (pv 0) pe_int (fun _ _ => rfl)) (pa_cons (pe_ty (by rfl) T.f_bytes boot_bytes) pa_nil)))
          (pe_one (pe_cmpR op_gt (pe_callB call_len (by rfl) T.f_len boot_len (pa_cons (pe_ix ix_tup (pv 0) pe_int (fun _ _ => rfl)) pa_nil)) pe_int (nomark _))))))), ?_⟩
    refine ⟨_, rfl, _, _, _, _, true, rfl, .ty _, TyX.sqT ht, kit_ty (by decide +kernel), true, rfl, ?_⟩
    refine ⟨_, rfl, _, 2, rfl, .inr ⟨_, ht, rfl⟩, rfl, _, rfl, ?_⟩
    refine ⟨_, rfl, t, _, 0, .int o, rfl, rfl, ht, rfl, o, rfl, true, rfl, ?_⟩
    refine ⟨_, rfl, t, _, 1, .byt b, rfl, rfl, ht, rfl, _, _, _, _, true, rfl, .ty _, .byt _, kit_ty (by decide +kernel), true, rfl, ?_⟩
    refine ⟨_, rfl, t, _, 1, .byt b, rfl, rfl, ht, rfl, _, _, rfl, ⟨Nat.le_trans b1 (by decide), rfl⟩, _, _, rfl, rfl, ?_⟩
    have e : decide ((0 : Int) < (b.size : Int)) = true := decide_eq_true (by omega)
    show Q (.bl (decide ((0 : Int) < (b.size : Int)))) H
    rw [e]
    exact q
theorem ok_are_spans (T : TF K mg) : FR P w K mg base 1 (He.ga K "are_spans") (spSpans K) := by
  obtain ⟨tM, gM⟩ := T.i_MOST_PIECES
  refine okR T.fd_are_spans sc_are_spans (fun _ _ _ _ _ _ _ us hl => match us, hl with | [_, _], _ => rfl) (fun vs H Q E h => ?_) (fun cdv A outer s H vs Q E hr h => ?_)
  · obtain ⟨size, l, os, ts, rfl, _⟩ := h
    rfl
  · obtain ⟨size, l, os, ts, rfl, hl, hp, ok, q⟩ := h
    refine ⟨_, PSs.nox <| pss_cons (ps_set (i := 2) sc_are_spans.nd rfl (.inl rfl) (pe_un un_neg pe_int))
      (pss_cons (ps_for PassesOwn.never rfl (pi_list (pv 1)) (pg_tup rfl (pgs_cons (pg_name (i := 3) sc_are_spans.nd rfl (.inl rfl)) (pgs_cons (pg_name (i := 4) sc_are_spans.nd rfl (.inl rfl)) pgs_nil)))
        (pss_cons (ps_if (pw_or (pt_cmpR op_le (pv 3) (pv 2) (nomark _)) (pw_or1 (pt_cmpR op_lt (pv 4) pe_int (nomark _)))).pt pss_no pss_nil)
          (pss_one (ps_set (i := 2) sc_are_spans.nd rfl (.inl rfl) (pe_op op_add (pv 3) (pv 4))))))
      (pss_one (ps_ret (pe_and (pe_cmpR op_le (pv 2) (pv 0) (nomark _)) (pe_one (pe_cmpR op_le (pe_callB call_len (by rfl) T.f_len boot_len (pa_cons (pv 1) pa_nil)) (pe_glob (v := .int 50) (by rfl) gM ⟨_, rfl⟩) (nomark _))))))), ?_⟩
    refine ⟨1, rfl, ?_⟩
    refine ⟨_, rfl, l, rfl, ⟨_, hl⟩, ?_⟩
    have hlen : os.length = ts.length := Paired.length hp
    refine for_list (xs := ts) (fun i σ H' => H' = H ∧ ∃ x y, σ = [some (.int size), some (.ref l), some (.int (endA os i)), x, y]) ⟨rfl, none, none, rfl⟩ (fun i σ H' _ p => by rw [p.1]; exact hl) (fun i v σ H' hv p => ?_) (fun σ H' p => ?_)
    · obtain ⟨rfl, x, y, rfl⟩ := p
      obtain ⟨⟨o, n⟩, ho, t, rfl, ht⟩ := Paired.at hp hv
      obtain ⟨h1, h2⟩ := ok.rise i o n ho
      refine ⟨t, _, rfl, ht, rfl, _, _, rfl, _, _, rfl, rfl, ?_⟩
      refine ⟨_, rfl, _, rfl, o, endA os i, rfl, rfl, false, congrArg V.bl (decide_eq_false (by omega)), ?_⟩
      refine ⟨_, rfl, n, 1, rfl, rfl, false, congrArg V.bl (decide_eq_false (by omega)), ?_⟩
      refine ⟨_, rfl, _, rfl, o, n, rfl, rfl, ?_⟩
      refine ⟨rfl, some (.int o), some (.int n), ?_⟩
      rw [endA_at ho]
      rfl
    · obtain ⟨rfl, x, y, rfl⟩ := p
      have hf := ok.fin
      rw [hlen] at hf
      refine ⟨_, rfl, _, rfl, endA os ts.length, size, rfl, rfl, true, congrArg V.bl (decide_eq_true hf), ?_⟩
      refine ⟨_, rfl, _, _, rfl, .inl ⟨_, hl, rfl⟩, _, _, rfl, rfl, ?_⟩
      have few := ok.few
      have e : decide ((ts.length : Int) ≤ 50) = true := decide_eq_true (by omega)
      show Q (.bl (decide ((ts.length : Int) ≤ 50))) H'
      rw [e]
      exact q
end
end TarK

namespace TarK
open PySem PySem.Spec PyProof.Rows L2 LamX NdefX
theorem mut_lst {H : Hp} {D : Addr} {xs : List V} (h : H D = some (.lst xs)) : ∀ b ∈ [D], Mut (H b) := fun b hb => by
  rw [List.mem_singleton.mp hb, h]
  trivial
theorem take_snoc {α : Type} {xs : List α} {i : Nat} {x : α} (h : xs[i]? = some x) : xs.take (i + 1) = xs.take i ++ [x] := by
  rw [List.take_add_one, h]
  rfl
section
variable {P : Program} {w : World} {K : PySem.W.Frag} {mg : Str → Option Value} {base : Heap}
theorem ok_are_pieces (T : TF K mg) : FR P w K mg base 3 (He.ga K "are_pieces") (spPieces K) := by
  have G := ok_is_piece (P := P) (w := w) (base := base) T
  have G2 := ok_are_spans (P := P) (w := w) (base := base) T
  refine okR T.fd_are_pieces sc_are_pieces (fun _ _ _ _ _ _ _ us hl => match us, hl with | [_, _], _ => rfl) (fun vs H Q E h => ?_) (fun cdv A outer s H vs Q E hr h => ?_)
  · obtain ⟨size, t, ps, ts, rfl, _⟩ := h
    rfl
  · obtain ⟨size, t, ps, ts, rfl, ht, hp, ok, q⟩ := h
    have hlen : ps.length = ts.length := Paired.length hp
    have few : ps.length ≤ 50 := by
      have f := ok.sp.few
      unfold osOf at f
      rw [List.length_map] at f
      exact f
    have small50 : ∀ {n : Nat}, n ≤ 50 → n ≤ sizeLine := fun h => Nat.le_trans h (by decide)
    refine ⟨_, PSs.nox <| pss_cons (ps_if (pt_not (pt_val (pe_callB (cr_all rfl) (by rfl) T.f_all boot_all (pa_cons
          (pe_lc (own := [("piece", 2)]) (g := gName 2) (tt := tYes) rfl sc_are_pieces.nd (pi_tup (pv 1)) (blkOk_by (N := ["size", "pieces", "piece", "offset", "data"]) (sc := defScope s_are_pieces) (by decide +kernel)) (fun _ _ _ _ _ => pg_name (i := 2) sc_are_pieces.nd rfl (.inl rfl)) (fun _ _ _ _ _ => pts_nil)
            (fun _ _ _ _ _ => pe_callR G hr T.g_is_piece T.k_is_piece (by rfl) passL (pa_cons (pv 2) pa_nil))) pa_nil)))) pss_no pss_nil)
      (pss_one (ps_ret (pe_callR (G2.mono (by decide)) hr T.g_are_spans T.k_are_spans (by rfl) passL (pa_cons (pv 0) (pa_cons
          (pe_lc (own := [("offset", 3), ("data", 4)]) (g := gTup K 2 (gCons (gName 3) (gCons (gName 4) gNil))) (tt := tYes) rfl sc_are_pieces.nd (pi_tup (pv 1)) (blkOk_by (N := ["size", "pieces", "piece", "offset", "data"]) (sc := defScope s_are_pieces) (by decide +kernel))
            (fun _ _ _ _ _ => pg_tup rfl (pgs_cons (pg_name (i := 3) sc_are_pieces.nd rfl (.inl rfl)) (pgs_cons (pg_name (i := 4) sc_are_pieces.nd rfl (.inl rfl)) pgs_nil))) (fun _ _ _ _ _ => pts_nil)
            (fun _ _ _ _ _ => pe_tup (pa_cons (pv 3) (pa_cons (pe_callB (call_lenK (K := K) rfl) (by rfl) T.f_len boot_len (pa_cons (pv 4) pa_nil)) pa_nil)))) pa_nil))))), ?_⟩
    refine ⟨_, rfl, t, rfl, ⟨_, ht⟩, fun D hD => ?_⟩
    refine lc_map (xs := ts) (walk_tup (K := K) (a := t) (xs := ts)) rfl id (fun _ => V.bl true) (fun i H v H' hy => ⟨hy.1, v, hy.2, rfl⟩) (by rw [← hlen]; exact small50 few) (fun i _ => sqT_upd ht hD) (fun v hv l k hk => ?_) ?_
    · obtain ⟨i, hi⟩ := List.mem_iff_getElem?.mp hv
      obtain ⟨⟨o, b⟩, ho, t', rfl, ht'⟩ := Paired.at hp hi
      have hos : (osOf ps)[i]? = some (o, (b.size : Int)) := by
        unfold osOf
        rw [List.getElem?_map, ho]
        rfl
      have hb := ok.small _ (List.mem_of_getElem? ho)
      have hr' := (ok.sp.rise i o _ hos).2
      exact ⟨rfl, _, rfl, t', o, b, rfl, sqT_upd ht' hD, by omega, hb, hk⟩
    · have e : (ts.map fun _ => V.bl true) = (ts.map fun _ => true).map V.bl := by rw [List.map_map] <;> rfl
      rw [e]
      refine ⟨D, _, rfl, .of upd_same, _, rfl, ?_⟩
      have e2 : (ts.map fun _ => true).all id = true := by
        rw [List.all_map]
        exact List.all_eq_true.mpr fun _ _ => rfl
      rw [e2]
      have k1 : Kp [] H (upd H D (.lst ((ts.map fun _ => true).map V.bl))) := Kp.new hD
      generalize upd H D (.lst ((ts.map fun _ => true).map V.bl)) = H1 at k1
      refine ⟨_, rfl, _, rfl, t, rfl, ⟨_, sqT_ext ht k1⟩, fun D2 hD2 => ?_⟩
      have k2 : Kp [] H1 (upd H1 D2 (.lst [])) := Kp.new hD2
      refine lc_it (walk_tup (K := K) (a := t) (xs := ts)) (fun i H2 => Kp [D2] (upd H1 D2 (.lst [])) H2 ∧ ∃ acc, H2 D2 = some (.lst acc) ∧ Paired (PairAt K H2) ((osOf ps).take i) acc) ⟨Kp.refl _ _, [], upd_same, by rw [List.take_zero]; exact .nil⟩
        (fun i H2 _ p => sqT_ext ht (k1.trans (Kp.drop p.1 hD2))) (fun i v H2 H3 hi p hy => ?_) (fun H2 p => ?_)
      · obtain ⟨rfl, hv⟩ := hy
        obtain ⟨kp, acc, hacc, pr⟩ := p
        obtain ⟨⟨o, b⟩, ho, t', rfl, ht'⟩ := Paired.at hp hv
        have hos : (osOf ps)[i]? = some (o, (b.size : Int)) := by
          unfold osOf
          rw [List.getElem?_map, ho]
          rfl
        have hb := ok.small _ (List.mem_of_getElem? ho)
        have kH := k1.trans (Kp.drop kp hD2)
        refine ⟨t', _, rfl, sqT_ext ht' kH, rfl, _, _, rfl, _, _, rfl, rfl, rfl, ?_⟩
        refine ⟨_, rfl, _, rfl, _, _, rfl, ⟨Nat.le_trans hb (by decide), rfl⟩, by show 2 ≤ sizeLine; decide, fun p2 hp2 => ?_⟩
        have hDp : D2 ≠ p2 := ne_of_none hacc hp2
        have hl : acc.length < sizeLine := by
          rw [← Paired.length pr, List.length_take]
          have : i ≤ 50 := by omega
          exact Nat.lt_of_le_of_lt (Nat.min_le_left _ _) (Nat.lt_of_le_of_lt this (by decide))
        have hacc2 : upd H3 p2 (.tup [.int o, .int (b.size : Int)]) D2 = some (.lst acc) := by
          rw [upd_ne hDp]
          exact hacc
        refine ⟨acc, hacc2, hl, ?_, acc ++ [.ref p2], upd_same, ?_⟩
        · exact (kp.trans (Kp.new hp2)).trans (Kp.put (List.mem_singleton.mpr rfl))
        · rw [take_snoc hos]
          have kk : Kp [D2] H3 (upd (upd H3 p2 (.tup [.int o, .int (b.size : Int)])) D2 (.lst (acc ++ [.ref p2]))) := (Kp.new hp2).trans (Kp.put (List.mem_singleton.mpr rfl))
          refine Paired.snoc (Paired.mapP pr fun a b z => ?_) ?_
          · obtain ⟨t3, e3, h3⟩ := z
            exact ⟨t3, e3, sqT_kp h3 kk (mut_lst hacc)⟩
          · exact ⟨p2, rfl, .of (by rw [upd_ne (Ne.symm hDp), upd_same])⟩
      · obtain ⟨kp, acc, hacc, pr⟩ := p
        have hfull : (osOf ps).take ts.length = osOf ps := by
          rw [← hlen]
          unfold osOf
          rw [← List.length_map (f := fun p : Int × Array UInt8 => (p.1, (p.2.size : Int))) (as := ps), List.take_length]
        rw [hfull] at pr
        exact ⟨size, D2, osOf ps, acc, rfl, .of hacc, pr, ok.sp, q _ (k1.trans (Kp.drop kp hD2))⟩
end
end TarK

namespace TarK
open PySem PySem.Spec PyProof.Rows L2 LamX NdefX
theorem sl_listK {X : Cx} {K : PySem.W.Frag} (h : X.K = K) : SlR X (rSlL K) := by
  subst h
  exact sl_list
def rJoin (K : PySem.W.Frag) : V → List V → Hp → VK → Prop := fun x xs H Q => ∃ a p, ∃ ys : List Str, x = .str a ∧ xs = [.ref p] ∧ (SqL K H p (ys.map V.str) ∨ SqT K H p (ys.map V.str)) ∧ (ys.map (·.length)).sum + ys.length * a.length ≤ 16777216 ∧ Q (.str (Txt.join a ys)) H
theorem pe_joinK {X : Cx} {K : PySem.W.Frag} (h : X.K = K) {o e : Expr} {to te : TE} {apos pos : Pos} (ho : PE X o to) (he : PE X e te) (hs : starEach [e] X.env = [(false, eval e X.env)] := by rfl) (hbase : attributeBase o "join" X.env (eval o X.env) = eval o X.env := by rfl) (hline : (apos.endLine == pos.line) = true := by rfl) :
    PE X (.Call (.Attribute o "join" apos) [e] [] pos) (tM1 (rJoin K) to te) := by
  subst h
  exact pe_join ho he hs hbase hline
theorem cut_to {xs : List V} {k : Nat} : cutV xs none (some (k : Int)) = xs.take k := by
  unfold cutV
  rw [HT.sIx_none, HT.sIx_nat, List.drop_zero, Nat.sub_zero]
  by_cases h : k ≤ xs.length
  · rw [Nat.min_eq_left h]
  · rw [Nat.min_eq_right (by omega), List.take_of_length_le (Nat.le_refl _), List.take_of_length_le (by omega)]
def spAbove : Sp := fun vs H Q _ => ∃ z : Str, vs = [.str z] ∧ z.length ≤ 250 ∧ ∀ p H', Kp [] H H' → H p = none → H' p = some (.lst ((abvB z).map V.str)) → Q (.ref p) H'
theorem sc_above : FnScope ["path", "parts", "many"] ["path"] (defScope s_above) := ⟨rfl, rfl, rfl, by decide +kernel, rfl, by decide +kernel, by decide +kernel⟩
theorem abv_map (z : Str) : (abvB z).map V.str = (List.range ((splB z).length - 1)).map fun k => V.str (joinT ((splB z).take (k + 1))) := by
  unfold abvB
  rw [List.map_map]
  rfl
section
variable {P : Program} {w : World} {K : PySem.W.Frag} {mg : Str → Option Value} {base : Heap}
theorem ok_above (T : TF K mg) : FR P w K mg base 1 (He.ga K "above") spAbove := by
  refine okR T.fd_above sc_above (fun _ _ _ _ _ _ _ us hl => match us, hl with | [_], _ => rfl) (fun vs H Q E h => ?_) (fun cdv A outer s H vs Q E hr h => ?_)
  · obtain ⟨z, rfl, _⟩ := h
    rfl
  · obtain ⟨z, rfl, hz, q⟩ := h
    have hn := splB_len z
    refine ⟨_, PSs.nox <| pss_cons (ps_set (i := 1) sc_above.nd rfl (.inr rfl) (pe_split (pv 0) pe_str))
      (pss_one (ps_ret (pe_lc (own := [("many", 2)]) (g := gName 2) (tt := tYes) rfl sc_above.nd (pi_range2 (by rfl) T.f_range (pa_cons pe_int (pa_cons (pe_callB call_len (by rfl) T.f_len boot_len (pa_cons (pv 1) pa_nil)) pa_nil)))
        (blkOk_by (N := ["path", "parts", "many"]) (sc := defScope s_above) (by decide +kernel)) (fun _ _ _ _ _ => pg_name (i := 2) sc_above.nd rfl (.inl rfl)) (fun _ _ _ _ _ => pts_nil)
        (fun _ _ _ _ _ => pe_joinK (K := K) rfl pe_str (pe_slice (sl_listK (K := K) rfl) (pv 1) po_none (po_some (pv 2))))))), ?_⟩
    refine ⟨_, rfl, ⟨_, rfl⟩, _, _, rfl, rfl, by decide, Nat.le_trans (Nat.add_le_add_right hz 2) (by decide), fun p hp => ?_⟩
    have e0 : (Txt.split z "/").map V.str = (splB z).map fun c => V.str (SX.S c) := by
      rw [split_eq, List.map_map]
      rfl
    rw [e0]
    have k1 : Kp [] H (upd H p (.lst ((splB z).map fun c => V.str (SX.S c)))) := Kp.new hp
    have hp1 : upd H p (.lst ((splB z).map fun c => V.str (SX.S c))) p = some (.lst ((splB z).map fun c => V.str (SX.S c))) := upd_same
    generalize upd H p (.lst ((splB z).map fun c => V.str (SX.S c))) = H1 at k1 hp1
    have hl : ((splB z).map fun c => V.str (SX.S c)).length = (splB z).length := List.length_map _
    refine ⟨_, rfl, _, _, rfl, .inl ⟨_, .of hp1, rfl⟩, ?_⟩
    rw [hl]
    have e1 : ((((splB z).length : Nat) : Int) - 1).toNat = (splB z).length - 1 := by omega
    refine ⟨1, _, rfl, ⟨by omega, by omega, by omega, by omega⟩, fun D hD => ?_⟩
    rw [e1]
    refine lc_mapK (xs := List.range ((splB z).length - 1)) (Y := fun i H v H' => H' = H ∧ ∃ x, (List.range ((splB z).length - 1))[i]? = some x ∧ v = .int (1 + (x : Int))) ((walk_range (lo := 1) (n := (splB z).length - 1)).mono (fun _ h => h) fun i H v H' hi _ y => ⟨y.1, i, by rw [List.getElem?_range hi], y.2⟩)
      (List.length_range).symm (fun k => V.int (1 + (k : Int))) (fun k => V.str (joinT ((splB z).take (k + 1)))) (fun _ _ _ _ h => h) (by rw [List.length_range]; exact Nat.le_trans (show (splB z).length - 1 ≤ 251 by omega) (by decide)) hD (fun _ _ => trivial) (fun k hk H2 k2 kk hkk => ?_) (fun H2 k2 e2 => ?_)
    · have hk' : k < (splB z).length - 1 := List.mem_range.mp hk
      have hp2 : H2 p = some (.lst ((splB z).map fun c => V.str (SX.S c))) := k2 _ _ hp1 (by simp)
      refine ⟨rfl, ⟨_, rfl⟩, ?_⟩
      refine ⟨_, rfl, _, rfl, _, rfl, p, _, rfl, .of hp2, fun p3 hp3 => ?_⟩
      have ek : (1 : Int) + (k : Int) = ((k + 1 : Nat) : Int) := by omega
      rw [ek, cut_to]
      have em : ((splB z).map fun c => V.str (SX.S c)).take (k + 1) = (((splB z).take (k + 1)).map SX.S).map V.str := by
        rw [List.map_map, List.map_take]
        rfl
      refine ⟨_, p3, ((splB z).take (k + 1)).map SX.S, rfl, rfl, .inl (.of (by rw [upd_same, em])), ?_, ?_⟩
      · have hs := splB_sum z (k + 1)
        have hc : (((splB z).take (k + 1)).map SX.S).length ≤ 251 := by
          rw [List.length_map, List.length_take]
          omega
        have h1 : ("/" : Str).length = 1 := rfl
        rw [h1]
        omega
      · rw [join_eq]
        exact hkk _ (Kp.new hp3)
    · rw [← abv_map] at e2
      exact q D H2 (k1.trans k2) (k1.isNone hD (by simp)) e2
end
end TarK

namespace TarK
open PySem PySem.Spec PyProof.Rows L2 LamX NdefX
theorem putF_new {f : Str} {v : V} : ∀ {fs : List (Str × V)}, fs.lookup f = none → putF f v fs = fs ++ [(f, v)]
  | [], _ => rfl
  | (g, x) :: r, h => by
    rw [lookup_put] at h
    by_cases e : f = g
    · rw [if_pos e] at h
      cases h
    · rw [if_neg e] at h
      show (if g = f then (g, v) :: r else (g, x) :: putF f v r) = _
      rw [if_neg (fun z => e z.symm), putF_new h]
      rfl
theorem putF_lt {f : Str} {v : V} {fs : List (Str × V)} {n : Nat} (h : fs.length < n) : (putF f v fs).length < n + 1 := by
  have := length_putF f v fs
  omega
/-! ### members -/
structure MemC (K : PySem.W.Frag) (C : Addr) (kind : Str) : Prop where
  c : Cls K C
  n1 : NoAttr K C "name"
  n2 : NoAttr K C "mode"
  n3 : NoAttr K C "time"
  n4 : NoAttr K C "key"
  k : ∃ u, Con K C "KIND" (.str kind) u
def mem3 (n : Str) (m t : Int) : List (Str × V) := [("name", .str n), ("mode", .int m), ("time", .int t)]
def memF (n : Str) (m t : Int) (k : Addr) : List (Str × V) := [("name", .str n), ("mode", .int m), ("time", .int t), ("key", .ref k)]
def spMemIn (K : PySem.W.Frag) : Sp := fun vs H Q _ => ∃ (x : Addr) (n : Str) (m t : Int) (p C dx : Addr) (kind : Str) (rest : List V), vs = [.ref x, .str n, .int m, .int t, .ref p] ∧ MemC K C kind ∧ H x = some (.ins C dx []) ∧ SqT K H p rest ∧ rest.length ≤ 5 ∧
  ∀ H' k, Kp [x] H H' → H' x = some (.ins C dx (memF n m t k)) → Q .non H'
def spMem (K : PySem.W.Frag) : Sp := fun vs H Q _ => ∃ (x : Addr) (n : Str) (m t : Int) (C dx : Addr) (kind : Str) (rest : List V), vs = [.ref x, .str n, .int m, .int t] ++ rest ∧ MemC K C kind ∧ H x = some (.ins C dx []) ∧ rest.length ≤ 5 ∧
  ∀ H' k, Kp [x] H H' → H' x = some (.ins C dx (memF n m t k)) → Q .non H'
abbrev psM : List Str := ["self", "name", "mode", "time"]
theorem sc_mem_init : FnScope (psM ++ [("more" : PySem.Str)]) (psM ++ [("more" : PySem.Str)]) (defScope s_mem_init) := ⟨rfl, rfl, rfl, by decide +kernel, rfl, by decide +kernel, by decide +kernel⟩
section
variable {P : Program} {w : World} {K : PySem.W.Frag} {mg : Str → Option Value} {base : Heap}
theorem ok_mem_init (T : TF K mg) : FR P w K mg base 1 (He.ma K (He.ga K "Member") "__init__") (spMem K) := by
  obtain ⟨fd, F⟩ := T.fd_mem_init
  obtain ⟨oc, od, dV, kV, doc, pm, an, cdv, ct, osl, rfl, lk, hcd, hd, _⟩ := F.ex
  have ed : dV = .none := by
    rcases hd with ⟨_, e⟩ | ⟨e, _⟩
    · exact e
    · exact absurd rfl e
  subst ed
  have R := StX.fn_star (CX := L2.CX P w) (P := P) (w := w) (mg := mg) (base := base) (k := 0) (ps := psM) (pv := "more") (sp := spMemIn K) lk hcd sc_mem_init StX.cxUp
    (fun us rest hl => match us, hl, rest with
      | [_, _, _, _], _, [] => rfl
      | [_, _, _, _], _, _ :: _ => rfl) (fun A outer s H vs Q E hr h => ?_)
  · refine R.imp fun vs H Q E h => ?_
    obtain ⟨x, n, m, t, C, dx, kind, rest, rfl, c, hx, hl, q⟩ := h
    refine ⟨[.ref x, .str n, .int m, .int t], rest, rfl, rfl, Nat.le_trans hl (by decide), fun p hp => ?_⟩
    have hxp : x ≠ p := ne_of_none hx hp
    exact ⟨x, n, m, t, p, C, dx, kind, rest, rfl, c, by rw [upd_ne hxp]; exact hx, .of upd_same, hl, fun H' k kp e => q H' k ((Kp.new hp).trans kp) e⟩
  · obtain ⟨x, n, m, t, p, C, dx, kind, rest, rfl, c, hx, hp, hl, q⟩ := h
    obtain ⟨uk, ck⟩ := c.k
    refine ⟨_, pss_cons (ps_fld (pv 0) (pv 1) rfl) (pss_cons (ps_fld (pv 0) (pv 2) rfl) (pss_cons (ps_fld (pv 0) (pv 3) rfl)
      (pss_one (ps_fld (pv 0) (pe_tup (pa_cons (pe_con (pv 0) rfl) (pa_cons (pv 1) (pa_cons (pv 2) (pa_cons (pv 3) (StX.pa_star (pv 4) pa_nil)))))) rfl)))), ?_⟩
    refine ⟨_, rfl, _, rfl, x, C, dx, _, rfl, hx, c.c, c.n1, by decide, ?_⟩
    refine ⟨_, rfl, _, rfl, x, C, dx, _, rfl, upd_same, c.c, c.n2, putF_lt (n := 999) (by decide), ?_⟩
    refine ⟨_, rfl, _, rfl, x, C, dx, _, rfl, upd_same, c.c, c.n3, putF_lt (n := 999) (putF_lt (n := 998) (by decide)), ?_⟩
    rw [upd_upd, upd_upd]
    have e3 : putF "time" (.int t) (putF "mode" (.int m) (putF "name" (.str n) [])) = mem3 n m t := by
      rw [putF_new (fs := []) rfl, putF_new (by rfl), putF_new (by rfl)]
      rfl
    have k1 : Kp [x] H (upd H x (.ins C dx (putF "time" (.int t) (putF "mode" (.int m) (putF "name" (.str n) []))))) := Kp.put (List.mem_singleton.mpr rfl)
    have hx1 : upd H x (.ins C dx (putF "time" (.int t) (putF "mode" (.int m) (putF "name" (.str n) [])))) x = some (.ins C dx (putF "time" (.int t) (putF "mode" (.int m) (putF "name" (.str n) [])))) := upd_same
    rw [e3] at hx1 k1 ⊢
    have hp1 : SqT K (upd H x (.ins C dx (mem3 n m t))) p rest := sqT_kp hp k1 fun b hb => by
      rw [List.mem_singleton.mp hb, hx]
      trivial
    generalize upd H x (.ins C dx (mem3 n m t)) = H1 at k1 hx1 hp1 ⊢
    refine ⟨_, rfl, x, C, dx, _, _, uk, rfl, hx1, c.c, ck, by rfl, ?_⟩
    refine ⟨_, rfl, _, rfl, _, rfl, _, rfl, p, rest, rfl, .inl hp1, ?_⟩
    refine ⟨?_, fun k hk => ?_⟩
    · show (V.str kind :: V.str n :: V.int m :: V.int t :: (rest ++ [])).length ≤ sizeLine
      simp only [List.length_cons, List.append_nil]
      exact Nat.le_trans (show rest.length + 1 + 1 + 1 + 1 ≤ 9 by omega) (by decide)
    · have hxk : x ≠ k := ne_of_none hx1 hk
      refine ⟨_, rfl, x, C, dx, _, rfl, by rw [upd_ne hxk]; exact hx1, c.c, c.n4, (by show (3 : Nat) < 1000; decide), ?_⟩
      refine q _ k ((k1.trans (Kp.new hk)).trans (Kp.put (List.mem_singleton.mpr rfl))) ?_
      rw [upd_same, putF_new (by rfl)]
      rfl
end
end TarK

namespace TarK
open PySem PySem.Spec PyProof.Rows L2 LamX NdefX
abbrev ksMT : List Str := ["mode", "time"]
def fileF (n : Str) (m t : Int) (k : Addr) (b : Array UInt8) : List (Str × V) := memF n m t k ++ [(("data" : PySem.Str), V.byt b)]
def tgtF (n : Str) (m t : Int) (k : Addr) (g : Str) : List (Str × V) := memF n m t k ++ [(("target" : PySem.Str), V.str g)]
def spFile (K : PySem.W.Frag) : SpK := fun vs zs H Q _ => ∃ (x : Addr) (n : Str) (b : Array UInt8) (m t : Int) (dx : Addr), vs = [.ref x, .str n, .byt b] ∧ zs = [.int m, .int t] ∧ NmOk n ∧ b.size ≤ 4096 ∧ StOk m t ∧ H x = some (.ins (He.ga K "File") dx []) ∧
  ∀ H' k, Kp [x] H H' → H' x = some (.ins (He.ga K "File") dx (fileF n m t k b)) → Q .non H'
def spDir (K : PySem.W.Frag) : SpK := fun vs zs H Q _ => ∃ (x : Addr) (n : Str) (m t : Int) (dx : Addr), vs = [.ref x, .str n] ∧ zs = [.int m, .int t] ∧ NmOk n ∧ StOk m t ∧ H x = some (.ins (He.ga K "Directory") dx []) ∧
  ∀ H' k, Kp [x] H H' → H' x = some (.ins (He.ga K "Directory") dx (memF n m t k)) → Q .non H'
def spTgt (K : PySem.W.Frag) (C : Str) : SpK := fun vs zs H Q _ => ∃ (x : Addr) (n g : Str) (m t : Int) (dx : Addr), vs = [.ref x, .str n, .str g] ∧ zs = [.int m, .int t] ∧ NmOk n ∧ NmOk g ∧ StOk m t ∧ H x = some (.ins (He.ga K C) dx []) ∧
  ∀ H' k, Kp [x] H H' → H' x = some (.ins (He.ga K C) dx (tgtF n m t k g)) → Q .non H'
abbrev psFile : List Str := ["self", "name", "data", "mode", "time"]
abbrev nFile : List Str := ["self", "name", "data", "mode", "time", "__class__"]
abbrev psDir : List Str := ["self", "name", "mode", "time"]
abbrev nDir : List Str := ["self", "name", "mode", "time", "__class__"]
abbrev psTgt : List Str := ["self", "name", "target", "mode", "time"]
abbrev nTgt : List Str := ["self", "name", "target", "mode", "time", "__class__"]
theorem sn_file : NScope nFile psFile ["__class__"] (defScope s_file_init) := nscope_by (by decide +kernel)
theorem sn_dir : NScope nDir psDir ["__class__"] (defScope s_dir_init) := nscope_by (by decide +kernel)
theorem sn_sym : NScope nTgt psTgt ["__class__"] (defScope s_sym_init) := nscope_by (by decide +kernel)
theorem sn_link : NScope nTgt psTgt ["__class__"] (defScope s_link_init) := nscope_by (by decide +kernel)
section
variable {w : World} {K : PySem.W.Frag} {mg : Str → Option Value} {base : Heap}
theorem memC_File (T : TF K mg) : MemC K (He.ga K "File") "file" := ⟨T.c_File, T.n_File_name, T.n_File_mode, T.n_File_time, T.n_File_key, T.kind_File⟩
theorem memC_Sparse (T : TF K mg) : MemC K (He.ga K "Sparse") "sparse" := ⟨T.c_Sparse, T.n_Sparse_name, T.n_Sparse_mode, T.n_Sparse_time, T.n_Sparse_key, T.kind_Sparse⟩
theorem memC_Directory (T : TF K mg) : MemC K (He.ga K "Directory") "directory" := ⟨T.c_Directory, T.n_Directory_name, T.n_Directory_mode, T.n_Directory_time, T.n_Directory_key, T.kind_Directory⟩
theorem memC_Symlink (T : TF K mg) : MemC K (He.ga K "Symlink") "symlink" := ⟨T.c_Symlink, T.n_Symlink_name, T.n_Symlink_mode, T.n_Symlink_time, T.n_Symlink_key, T.kind_Symlink⟩
theorem memC_Link (T : TF K mg) : MemC K (He.ga K "Link") "link" := ⟨T.c_Link, T.n_Link_name, T.n_Link_mode, T.n_Link_time, T.n_Link_key, T.kind_Link⟩
theorem top_super : (Pg.main.scope.names.lookup ("super" : Str)).isSome = false := by decide +kernel
theorem ok_file_init (T : TF K mg) : FnRK Pg w K mg base (L2.CX Pg w) 4 (He.ma K (He.ga K "File") "__init__") ksMT (spFile K) := by
  have G1 := ok_look_name (P := Pg) (w := w) (base := base) T
  have G2 := ok_look_stamps (P := Pg) (w := w) (base := base) T
  have G3 := ok_mem_init (P := Pg) (w := w) (base := base) T
  obtain ⟨tD, gD⟩ := T.i_MOST_DATA
  refine fnRK_plain (n := 3) (ps := psFile) T.s_file_init sn_file rfl (fun kV doc pm an ct us ws h1 h2 => match us, ws, h1, h2 with | [_, _, _], [_, _], _, _ => rfl) (fun vs zs H Q E h => ?_) (fun A outer s H vs zs Q E hr h => ?_)
  · obtain ⟨x, n, b, m, t, dx, rfl, rfl, _⟩ := h
    exact ⟨rfl, rfl⟩
  · obtain ⟨x, n, b, m, t, dx, rfl, rfl, hn, hb, hs, hx, q⟩ := h
    refine ⟨_, pas_cons (ps_expr (pe_callR (G1.mono (by decide)) hr T.g_look_name T.k_look_name (by rfl) passL (pa_cons (pv 1) pa_nil)))
      (pas_cons (ps_if (pw_or (pt_not (pt_val (pe_callB call_isi (by rfl) T.f_isinstance boot_isi (pa_cons (pv 2) (pa_cons (pe_ty (by rfl) T.f_bytes boot_bytes) pa_nil)))))
          (pw_or1 (pt_cmpR op_gt (pe_callB call_len (by rfl) T.f_len boot_len (pa_cons (pv 2) pa_nil)) (pe_glob (v := .int 4096) (by rfl) gD ⟨_, rfl⟩) (nomark _)))).pt pss_no pss_nil)
      (pas_cons (ps_expr (pe_callR G2 hr T.g_look_stamps T.k_look_stamps (by rfl) passL (pa_cons (pv 3) (pa_cons (pv 4) pa_nil))))
        (pas_sup T.s_file_init T.sm_File (G3.mono (by decide)) hr passL T.f_super rfl rfl rfl rfl rfl rfl top_super (pa_cons (pv 1) (pa_cons (pv 3) (pa_cons (pv 4) (pa_cons (pv 2) pa_nil))))
          (pas_of (pss_one (ps_fld (pv 0) (pv 2) rfl)))))), ?_⟩
    refine ⟨_, rfl, n, rfl, hn, fun H1 k1 => ?_⟩
    refine ⟨_, rfl, _, _, _, _, true, rfl, .ty _, .byt _, kit_ty (by decide +kernel), true, rfl, ?_⟩
    refine ⟨_, rfl, _, _, rfl, ⟨Nat.le_trans hb (by decide), rfl⟩, _, _, rfl, rfl, false, congrArg V.bl (decide_eq_false (by omega)), ?_⟩
    refine ⟨_, rfl, _, rfl, m, t, rfl, hs, ?_⟩
    have hx1 : H1 x = some (.ins (He.ga K "File") dx []) := k1 _ _ hx (by simp)
    refine ⟨x, dx, [], rfl, hx1, fun p hp => ?_⟩
    have hxp : x ≠ p := ne_of_none hx1 hp
    refine ⟨_, rfl, _, rfl, _, rfl, _, rfl, upd_same, x, n, m, t, _, dx, "file", [.byt b], rfl, memC_File T, by rw [upd_ne hxp]; exact hx1, (by show (1 : Nat) ≤ 5; decide), fun H2 k k2 hx2 => ?_⟩
    refine ⟨_, rfl, _, rfl, x, _, dx, _, rfl, hx2, T.c_File, T.n_File_data, (by show (4 : Nat) < 1000; decide), ?_⟩
    refine q _ k ((((Kp.of k1 [x]).trans (Kp.new hp)).trans k2).trans (Kp.put (List.mem_singleton.mpr rfl))) ?_
    rw [upd_same, putF_new (by rfl)]
    rfl
theorem ok_dir_init (T : TF K mg) : FnRK Pg w K mg base (L2.CX Pg w) 4 (He.ma K (He.ga K "Directory") "__init__") ksMT (spDir K) := by
  have G1 := ok_look_name (P := Pg) (w := w) (base := base) T
  have G2 := ok_look_stamps (P := Pg) (w := w) (base := base) T
  have G3 := ok_mem_init (P := Pg) (w := w) (base := base) T
  refine fnRK_plain (n := 2) (ps := psDir) T.s_dir_init sn_dir rfl (fun kV doc pm an ct us ws h1 h2 => match us, ws, h1, h2 with | [_, _], [_, _], _, _ => rfl) (fun vs zs H Q E h => ?_) (fun A outer s H vs zs Q E hr h => ?_)
  · obtain ⟨x, n, m, t, dx, rfl, rfl, _⟩ := h
    exact ⟨rfl, rfl⟩
  · obtain ⟨x, n, m, t, dx, rfl, rfl, hn, hs, hx, q⟩ := h
    refine ⟨_, pas_cons (ps_expr (pe_callR (G1.mono (by decide)) hr T.g_look_name T.k_look_name (by rfl) passL (pa_cons (pv 1) pa_nil)))
      (pas_cons (ps_expr (pe_callR G2 hr T.g_look_stamps T.k_look_stamps (by rfl) passL (pa_cons (pv 2) (pa_cons (pv 3) pa_nil))))
        (pas_sup T.s_dir_init T.sm_Directory (G3.mono (by decide)) hr passL T.f_super rfl rfl rfl rfl rfl rfl top_super (pa_cons (pv 1) (pa_cons (pv 2) (pa_cons (pv 3) pa_nil)))
          (pas_of pss_nil))), ?_⟩
    refine ⟨_, rfl, n, rfl, hn, fun H1 k1 => ?_⟩
    refine ⟨_, rfl, _, rfl, m, t, rfl, hs, ?_⟩
    have hx1 : H1 x = some (.ins (He.ga K "Directory") dx []) := k1 _ _ hx (by simp)
    refine ⟨x, dx, [], rfl, hx1, fun p hp => ?_⟩
    have hxp : x ≠ p := ne_of_none hx1 hp
    refine ⟨_, rfl, _, rfl, _, rfl, upd_same, x, n, m, t, _, dx, "directory", [], rfl, memC_Directory T, by rw [upd_ne hxp]; exact hx1, (by show (0 : Nat) ≤ 5; decide), fun H2 k k2 hx2 => ?_⟩
    exact q _ k (((Kp.of k1 [x]).trans (Kp.new hp)).trans k2) hx2
theorem ok_sym_init (T : TF K mg) : FnRK Pg w K mg base (L2.CX Pg w) 4 (He.ma K (He.ga K "Symlink") "__init__") ksMT (spTgt K "Symlink") := by
  have G1 := ok_look_name (P := Pg) (w := w) (base := base) T
  have G2 := ok_look_stamps (P := Pg) (w := w) (base := base) T
  have G3 := ok_mem_init (P := Pg) (w := w) (base := base) T
  refine fnRK_plain (n := 3) (ps := psTgt) T.s_sym_init sn_sym rfl (fun kV doc pm an ct us ws h1 h2 => match us, ws, h1, h2 with | [_, _, _], [_, _], _, _ => rfl) (fun vs zs H Q E h => ?_) (fun A outer s H vs zs Q E hr h => ?_)
  · obtain ⟨x, n, g, m, t, dx, rfl, rfl, _⟩ := h
    exact ⟨rfl, rfl⟩
  · obtain ⟨x, n, g, m, t, dx, rfl, rfl, hn, hg, hs, hx, q⟩ := h
    refine ⟨_, pas_cons (ps_expr (pe_callR (G1.mono (by decide)) hr T.g_look_name T.k_look_name (by rfl) passL (pa_cons (pv 1) pa_nil)))
      (pas_cons (ps_expr (pe_callR (G1.mono (by decide)) hr T.g_look_name T.k_look_name (by rfl) passL (pa_cons (pv 2) pa_nil)))
      (pas_cons (ps_expr (pe_callR G2 hr T.g_look_stamps T.k_look_stamps (by rfl) passL (pa_cons (pv 3) (pa_cons (pv 4) pa_nil))))
        (pas_sup T.s_sym_init T.sm_Symlink (G3.mono (by decide)) hr passL T.f_super rfl rfl rfl rfl rfl rfl top_super (pa_cons (pv 1) (pa_cons (pv 3) (pa_cons (pv 4) (pa_cons (pv 2) pa_nil))))
          (pas_of (pss_one (ps_fld (pv 0) (pv 2) rfl)))))), ?_⟩
    refine ⟨_, rfl, n, rfl, hn, fun H0 k0 => ?_⟩
    refine ⟨_, rfl, g, rfl, hg, fun H1 k1 => ?_⟩
    refine ⟨_, rfl, _, rfl, m, t, rfl, hs, ?_⟩
    have k01 := k0.trans k1
    have hx1 : H1 x = some (.ins (He.ga K "Symlink") dx []) := k01 _ _ hx (by simp)
    refine ⟨x, dx, [], rfl, hx1, fun p hp => ?_⟩
    have hxp : x ≠ p := ne_of_none hx1 hp
    refine ⟨_, rfl, _, rfl, _, rfl, _, rfl, upd_same, x, n, m, t, _, dx, "symlink", [.str g], rfl, memC_Symlink T, by rw [upd_ne hxp]; exact hx1, (by show (1 : Nat) ≤ 5; decide), fun H2 k k2 hx2 => ?_⟩
    refine ⟨_, rfl, _, rfl, x, _, dx, _, rfl, hx2, T.c_Symlink, T.n_Symlink_target, (by show (4 : Nat) < 1000; decide), ?_⟩
    refine q _ k ((((Kp.of k01 [x]).trans (Kp.new hp)).trans k2).trans (Kp.put (List.mem_singleton.mpr rfl))) ?_
    rw [upd_same, putF_new (by rfl)]
    rfl
theorem ok_link_init (T : TF K mg) : FnRK Pg w K mg base (L2.CX Pg w) 4 (He.ma K (He.ga K "Link") "__init__") ksMT (spTgt K "Link") := by
  have G1 := ok_look_name (P := Pg) (w := w) (base := base) T
  have G2 := ok_look_stamps (P := Pg) (w := w) (base := base) T
  have G3 := ok_mem_init (P := Pg) (w := w) (base := base) T
  refine fnRK_plain (n := 3) (ps := psTgt) T.s_link_init sn_link rfl (fun kV doc pm an ct us ws h1 h2 => match us, ws, h1, h2 with | [_, _, _], [_, _], _, _ => rfl) (fun vs zs H Q E h => ?_) (fun A outer s H vs zs Q E hr h => ?_)
  · obtain ⟨x, n, g, m, t, dx, rfl, rfl, _⟩ := h
    exact ⟨rfl, rfl⟩
  · obtain ⟨x, n, g, m, t, dx, rfl, rfl, hn, hg, hs, hx, q⟩ := h
    refine ⟨_, pas_cons (ps_expr (pe_callR (G1.mono (by decide)) hr T.g_look_name T.k_look_name (by rfl) passL (pa_cons (pv 1) pa_nil)))
      (pas_cons (ps_expr (pe_callR (G1.mono (by decide)) hr T.g_look_name T.k_look_name (by rfl) passL (pa_cons (pv 2) pa_nil)))
      (pas_cons (ps_expr (pe_callR G2 hr T.g_look_stamps T.k_look_stamps (by rfl) passL (pa_cons (pv 3) (pa_cons (pv 4) pa_nil))))
        (pas_sup T.s_link_init T.sm_Link (G3.mono (by decide)) hr passL T.f_super rfl rfl rfl rfl rfl rfl top_super (pa_cons (pv 1) (pa_cons (pv 3) (pa_cons (pv 4) (pa_cons (pv 2) pa_nil))))
          (pas_of (pss_one (ps_fld (pv 0) (pv 2) rfl)))))), ?_⟩
    refine ⟨_, rfl, n, rfl, hn, fun H0 k0 => ?_⟩
    refine ⟨_, rfl, g, rfl, hg, fun H1 k1 => ?_⟩
    refine ⟨_, rfl, _, rfl, m, t, rfl, hs, ?_⟩
    have k01 := k0.trans k1
    have hx1 : H1 x = some (.ins (He.ga K "Link") dx []) := k01 _ _ hx (by simp)
    refine ⟨x, dx, [], rfl, hx1, fun p hp => ?_⟩
    have hxp : x ≠ p := ne_of_none hx1 hp
    refine ⟨_, rfl, _, rfl, _, rfl, _, rfl, upd_same, x, n, m, t, _, dx, "link", [.str g], rfl, memC_Link T, by rw [upd_ne hxp]; exact hx1, (by show (1 : Nat) ≤ 5; decide), fun H2 k k2 hx2 => ?_⟩
    refine ⟨_, rfl, _, rfl, x, _, dx, _, rfl, hx2, T.c_Link, T.n_Link_target, (by show (4 : Nat) < 1000; decide), ?_⟩
    refine q _ k ((((Kp.of k01 [x]).trans (Kp.new hp)).trans k2).trans (Kp.put (List.mem_singleton.mpr rfl))) ?_
    rw [upd_same, putF_new (by rfl)]
    rfl
end
end TarK

namespace TarK
open PySem PySem.Spec PyProof.Rows L2 LamX NdefX
/-! ### a sparse file's content -/
def catP (acc : Array UInt8) (p : Int × Array UInt8) : Array UInt8 := acc ++ Array.replicate (p.1 - (acc.size : Int)).toNat 0 ++ p.2
def accP (ps : List (Int × Array UInt8)) (i : Nat) : Array UInt8 := (ps.take i).foldl catP #[]
def sparseC (size : Int) (ps : List (Int × Array UInt8)) : Array UInt8 := accP ps ps.length ++ Array.replicate (size - ((accP ps ps.length).size : Int)).toNat 0
theorem osOf_at {ps : List (Int × Array UInt8)} {i : Nat} {o : Int} {b : Array UInt8} (h : ps[i]? = some (o, b)) : (osOf ps)[i]? = some (o, (b.size : Int)) := by
  unfold osOf
  rw [List.getElem?_map, h]
  rfl
theorem accP_succ {ps : List (Int × Array UInt8)} {i : Nat} {p : Int × Array UInt8} (h : ps[i]? = some p) : accP ps (i + 1) = catP (accP ps i) p := by
  unfold accP
  rw [take_snoc h, List.foldl_append]
  rfl
theorem endA_le {size : Int} {os : List (Int × Int)} (ok : SpansOk size os) : ∀ (k i : Nat), i + k = os.length → endA os i ≤ size
  | 0, i, h => by
    have e : i = os.length := h
    rw [e]
    exact ok.fin
  | k + 1, i, h => by
    have hi : i < os.length := by omega
    have e : os[i]? = some (os[i].1, os[i].2) := List.getElem?_eq_getElem hi
    obtain ⟨h1, h2⟩ := ok.rise i _ _ e
    have h3 := endA_le ok k (i + 1) (by omega)
    rw [endA_at e] at h3
    omega
/-- the size of what is laid by the first i pieces -/
theorem accP_size {size : Int} {ps : List (Int × Array UInt8)} (ok : SpansOk size (osOf ps)) : ∀ i, i ≤ ps.length → ((accP ps i).size : Int) = if i = 0 then 0 else endA (osOf ps) i
  | 0, _ => rfl
  | i + 1, h => by
    have hi : i < ps.length := by omega
    have e : ps[i]? = some (ps[i].1, ps[i].2) := List.getElem?_eq_getElem hi
    have ih := accP_size ok i (by omega)
    obtain ⟨h1, h2⟩ := ok.rise i _ _ (osOf_at e)
    rw [if_neg (Nat.succ_ne_zero i), endA_at (osOf_at e), accP_succ e]
    unfold catP
    rw [Array.size_append, Array.size_append, Array.size_replicate]
    have hb : ((accP ps i).size : Int) ≤ ps[i].1 := by
      rw [ih]
      by_cases z : i = 0
      · rw [if_pos z]
        subst z
        have e0 : endA (osOf ps) 0 = -1 := rfl
        omega
      · rw [if_neg z]
        omega
    have q : ((ps[i].1 - ((accP ps i).size : Int)).toNat : Int) = ps[i].1 - ((accP ps i).size : Int) := Int.toNat_of_nonneg (by omega)
    show ((((accP ps i).size + (ps[i].1 - ((accP ps i).size : Int)).toNat + ps[i].2.size : Nat)) : Int) = ps[i].1 + (ps[i].2.size : Int)
    omega
theorem accP_lt {size : Int} {ps : List (Int × Array UInt8)} (ok : SpansOk size (osOf ps)) {i : Nat} {o : Int} {b : Array UInt8} (h : ps[i]? = some (o, b)) : ((accP ps i).size : Int) ≤ o ∧ o + b.size ≤ size := by
  have hi : i < ps.length := (List.getElem?_eq_some_iff.mp h).1
  obtain ⟨h1, h2⟩ := ok.rise i _ _ (osOf_at h)
  have hl : (osOf ps).length = ps.length := by unfold osOf; rw [List.length_map]
  have h3 := endA_le ok (ps.length - (i + 1)) (i + 1) (by omega)
  rw [endA_at (osOf_at h)] at h3
  have ih := accP_size ok i (by omega)
  by_cases z : i = 0
  · rw [if_pos z] at ih
    subst z
    have e0 : endA (osOf ps) 0 = -1 := rfl
    omega
  · rw [if_neg z] at ih
    omega
theorem accP_fin {size : Int} {ps : List (Int × Array UInt8)} (ok : PcOk size ps) : ((accP ps ps.length).size : Int) ≤ size := by
  have hl : (osOf ps).length = ps.length := by unfold osOf; rw [List.length_map]
  rw [accP_size ok.sp ps.length (Nat.le_refl _)]
  have s0 := ok.s0
  by_cases z : ps.length = 0
  · rw [if_pos z]
    exact s0
  · rw [if_neg z]
    exact endA_le ok.sp 0 ps.length (by omega)
def spF (n : Str) (m t : Int) (k : Addr) (size : Int) (p : Addr) : List (Str × V) := memF n m t k ++ [(("size" : PySem.Str), V.int size), (("pieces" : PySem.Str), V.ref p)]
def spSparseIn (K : PySem.W.Frag) : SpK := fun vs zs H Q _ => ∃ (x : Addr) (n : Str) (size m t : Int) (dx p : Addr) (ps : List (Int × Array UInt8)) (ts : List V), vs = [.ref x, .str n, .int size] ∧ zs = [.int m, .int t, .ref p] ∧ NmOk n ∧ PcOk size ps ∧ SqT K H p ts ∧ Paired (PieceAt K H) ps ts ∧ StOk m t ∧
  H x = some (.ins (He.ga K "Sparse") dx []) ∧ ∀ H' k, Kp [x] H H' → H' x = some (.ins (He.ga K "Sparse") dx (spF n m t k size p)) → Q .non H'
def spSparse (K : PySem.W.Frag) : SpK := fun vs zs H Q _ => ∃ (x : Addr) (n : Str) (size m t : Int) (dx : Addr) (ps : List (Int × Array UInt8)) (ts : List V), vs = [.ref x, .str n, .int size] ++ ts ∧ zs = [.int m, .int t] ∧ NmOk n ∧ PcOk size ps ∧ Paired (PieceAt K H) ps ts ∧ StOk m t ∧
  H x = some (.ins (He.ga K "Sparse") dx []) ∧ ∀ H' k p, Kp [x] H H' → H' x = some (.ins (He.ga K "Sparse") dx (spF n m t k size p)) → SqT K H' p ts → Q .non H'
abbrev psSp : List Str := ["self", "name", "size", "mode", "time"]
abbrev nSp : List Str := ["self", "name", "size", "mode", "time", "pieces", "__class__"]
theorem sn_sparse : NScope nSp (psSp ++ [("pieces" : PySem.Str)]) ["__class__"] (defScope s_sparse_init) := nscope_by (by decide +kernel)
theorem piece_kp {K : PySem.W.Frag} {H H' : Hp} {l : List Addr} {ps : List (Int × Array UInt8)} {ts : List V} (h : Paired (PieceAt K H) ps ts) (k : Kp l H H') (m : ∀ b ∈ l, Mut (H b)) : Paired (PieceAt K H') ps ts :=
  Paired.mapP h fun a b z => let ⟨t, e, q⟩ := z; ⟨t, e, sqT_kp q k m⟩
section
variable {w : World} {K : PySem.W.Frag} {mg : Str → Option Value} {base : Heap}
theorem ok_sparse_init (T : TF K mg) : FnRK Pg w K mg base (L2.CX Pg w) 4 (He.ma K (He.ga K "Sparse") "__init__") ksMT (spSparse K) := by
  have G1 := ok_look_name (P := Pg) (w := w) (base := base) T
  have G2 := ok_look_stamps (P := Pg) (w := w) (base := base) T
  have G3 := ok_mem_init (P := Pg) (w := w) (base := base) T
  have G4 := ok_is_within (P := Pg) (w := w) (base := base) T
  have G5 := ok_are_pieces (P := Pg) (w := w) (base := base) T
  obtain ⟨tD, gD⟩ := T.i_MOST_DATA
  have R := fnRK_star (CX := L2.CX Pg w) (P := Pg) (w := w) (mg := mg) (base := base) (k := 3) (n := 3) (ks := ksMT) (ps := psSp) (pv := "pieces") (sp := spSparseIn K) T.s_sparse_init sn_sparse rfl (StX.cxUp (P := Pg) (w := w)) (fun kV doc pm an ct us rest ws h1 h2 => match us, ws, h1, h2, rest with
    | [_, _, _], [_, _], _, _, [] => rfl
    | [_, _, _], [_, _], _, _, _ :: _ => rfl) (fun A outer s H vs zs p0 Q E hr h => ?_)
  · intro A outer s H us ws vs zs Q E hr e0 r rz h
    refine R A outer s H us ws vs zs Q E hr e0 r rz ?_
    obtain ⟨x, n, size, m, t, dx, ps, ts, rfl, rfl, hn, ok, hp, hs, hx, q⟩ := h
    have hlen : ps.length = ts.length := Paired.length hp
    have few : ts.length ≤ 50 := by
      have f := ok.sp.few
      unfold osOf at f
      rw [List.length_map] at f
      omega
    refine ⟨[.ref x, .str n, .int size], ts, rfl, rfl, rfl, Nat.le_trans few (by decide), fun p hpn => ?_⟩
    have k1 : Kp [] H (upd H p (.tup ts)) := Kp.new hpn
    refine ⟨x, n, size, m, t, dx, p, ps, ts, rfl, rfl, hn, ok, .of upd_same, piece_kp hp k1 (fun b hb => absurd hb (by simp)), hs, k1 _ _ hx (by simp), fun H' k kp e => ?_⟩
    refine q H' k p ((Kp.of k1 [x]).trans kp) e (sqT_kp (.of upd_same) kp fun b hb => ?_)
    rw [List.mem_singleton.mp hb, k1 _ _ hx (by simp)]
    trivial
  · obtain ⟨x, n, size, m, t, dx, p, ps, ts, rfl, ez, hn, ok, hpt, hp, hs, hx, q⟩ := h
    obtain ⟨rfl, e2⟩ := List.append_inj' (show zs ++ [V.ref p0] = [.int m, .int t] ++ [.ref p] from ez) rfl
    obtain rfl : p0 = p := V.ref.inj (List.cons.inj e2).1
    refine ⟨_, pas_cons (ps_expr (pe_callR (G1.mono (by decide)) hr T.g_look_name T.k_look_name (by rfl) passL (pa_cons (pv 1) pa_nil)))
      (pas_cons (ps_if (pt_not (pt_val (pe_callR (G4.mono (by decide)) hr T.g_is_within T.k_is_within (by rfl) passL (pa_cons (pv 2) (pa_cons pe_int (pa_cons (pe_glob (v := .int 4096) (by rfl) gD ⟨_, rfl⟩) pa_nil)))))) pss_no pss_nil)
      (pas_cons (ps_if (pt_not (pt_val (pe_callR G5 hr T.g_are_pieces T.k_are_pieces (by rfl) passL (pa_cons (pv 2) (pa_cons (pv 5) pa_nil))))) pss_no pss_nil)
      (pas_cons (ps_expr (pe_callR G2 hr T.g_look_stamps T.k_look_stamps (by rfl) passL (pa_cons (pv 3) (pa_cons (pv 4) pa_nil))))
        (pas_sup T.s_sparse_init T.sm_Sparse (G3.mono (by decide)) hr passL T.f_super rfl rfl rfl rfl rfl rfl top_super (pa_cons (pv 1) (pa_cons (pv 3) (pa_cons (pv 4) (pa_cons (pv 2) (pa_cons (pv 5) pa_nil)))))
          (pas_of (pss_cons (ps_fld (pv 0) (pv 2) rfl) (pss_one (ps_fld (pv 0) (pv 5) rfl)))))))), ?_⟩
    refine ⟨_, rfl, n, rfl, hn, fun H0 k0 => ?_⟩
    refine ⟨_, rfl, size, 0, 4096, rfl, _, rfl, ?_⟩
    rw [decide_eq_true ok.s0, decide_eq_true ok.s1]
    refine ⟨_, rfl, _, rfl, size, p0, ps, ts, rfl, sqT_ext hpt k0, piece_kp hp k0 (fun b hb => absurd hb (by simp)), ok, fun H1 k1 => ?_⟩
    refine ⟨true, rfl, ?_⟩
    refine ⟨_, rfl, _, rfl, m, t, rfl, hs, ?_⟩
    have k01 := k0.trans k1
    have hx1 : H1 x = some (.ins (He.ga K "Sparse") dx []) := k01 _ _ hx (by simp)
    refine ⟨x, dx, [], rfl, hx1, fun q1 hq1 => ?_⟩
    have hxp : x ≠ q1 := ne_of_none hx1 hq1
    refine ⟨_, rfl, _, rfl, _, rfl, _, rfl, _, rfl, upd_same, x, n, m, t, _, dx, "sparse", [.int size, .ref p0], rfl, memC_Sparse T, by rw [upd_ne hxp]; exact hx1, (by show (2 : Nat) ≤ 5; decide), fun H2 k k2 hx2 => ?_⟩
    refine ⟨_, rfl, _, rfl, x, _, dx, _, rfl, hx2, T.c_Sparse, T.n_Sparse_size, (by show (4 : Nat) < 1000; decide), ?_⟩
    refine ⟨_, rfl, _, rfl, x, _, dx, _, rfl, upd_same, T.c_Sparse, T.n_Sparse_pieces, putF_lt (n := 999) (by show (4 : Nat) < 999; decide), ?_⟩
    refine q _ k (((((Kp.of k01 [x]).trans (Kp.new hq1)).trans k2).trans (Kp.put (List.mem_singleton.mpr rfl))).trans (Kp.put (List.mem_singleton.mpr rfl))) ?_
    rw [upd_same, putF_new (f := "size") (by rfl), putF_new (f := "pieces") (by rfl)]
    rfl
end
end TarK

namespace TarK
open PySem PySem.Spec PyProof.Rows L2 LamX NdefX
theorem u1 {k : Nat} {A : Around} (r : Room k A) : A.units + 1 < cLine := by have := r.units; omega
theorem Kp.base {H0 H H' : Hp} {l : List Addr} (a : Kp [] H0 H) (b : Kp l H H') (n : ∀ x ∈ l, H0 x = none) : Kp [] H0 H' := fun c o h _ => b c o (a c o h (by simp)) (fun m => by rw [n c m] at h; cases h)
/-! ### what a file holds -/
def spFileC (K : PySem.W.Frag) : Sp := fun vs H Q _ => ∃ (x : Addr) (n : Str) (m t : Int) (k dx : Addr) (d : Array UInt8), vs = [.ref x] ∧ H x = some (.ins (He.ga K "File") dx (fileF n m t k d)) ∧ Q (.byt d) H
def spSparseC (K : PySem.W.Frag) : Sp := fun vs H Q _ => ∃ (x : Addr) (n : Str) (m t size : Int) (k dx p : Addr) (ps : List (Int × Array UInt8)) (ts : List V), vs = [.ref x] ∧ H x = some (.ins (He.ga K "Sparse") dx (spF n m t k size p)) ∧ SqT K H p ts ∧
  Paired (PieceAt K H) ps ts ∧ PcOk size ps ∧ Q (.byt (sparseC size ps)) H
theorem sc_file_content : FnScope ["self"] ["self"] (defScope s_file_content) := ⟨rfl, rfl, rfl, by decide +kernel, rfl, by decide +kernel, by decide +kernel⟩
theorem sc_sparse_content : FnScope ["self", "found", "offset", "data"] ["self"] (defScope s_sparse_content) := ⟨rfl, rfl, rfl, by decide +kernel, rfl, by decide +kernel, by decide +kernel⟩
theorem accP_small {size : Int} {ps : List (Int × Array UInt8)} (ok : PcOk size ps) {i : Nat} (h : i ≤ ps.length) : ((accP ps i).size : Int) ≤ 4096 := by
  have h1 := ok.s1
  have h0 := ok.s0
  rw [accP_size ok.sp i h]
  by_cases z : i = 0
  · rw [if_pos z]
    omega
  · rw [if_neg z]
    have hl : (osOf ps).length = ps.length := by unfold osOf; rw [List.length_map]
    have := endA_le ok.sp (ps.length - i) i (by omega)
    omega
section
variable {P : Program} {w : World} {K : PySem.W.Frag} {mg : Str → Option Value} {base : Heap}
theorem ok_file_content (T : TF K mg) : FR P w K mg base 1 (He.ma K (He.ga K "File") "content") (spFileC K) := by
  refine okR T.fd_file_content sc_file_content (fun _ _ _ _ _ _ _ us hl => match us, hl with | [_], _ => rfl) (fun vs H Q E h => ?_) (fun cdv A outer s H vs Q E hr h => ?_)
  · obtain ⟨x, n, m, t, k, dx, d, rfl, _⟩ := h
    rfl
  · obtain ⟨x, n, m, t, k, dx, d, rfl, hx, q⟩ := h
    exact ⟨_, pss_one (ps_ret (pe_fld (pv 0) rfl)), _, rfl, x, _, dx, _, _, rfl, hx, T.c_File, T.n_File_data, rfl, q⟩
theorem ok_sparse_content (T : TF K mg) : FR P w K mg base 1 (He.ma K (He.ga K "Sparse") "content") (spSparseC K) := by
  refine okR T.fd_sparse_content sc_sparse_content (fun _ _ _ _ _ _ _ us hl => match us, hl with | [_], _ => rfl) (fun vs H Q E h => ?_) (fun cdv A outer s H vs Q E hr h => ?_)
  · obtain ⟨x, n, m, t, size, k, dx, p, ps, ts, rfl, _⟩ := h
    rfl
  · obtain ⟨x, n, m, t, size, k, dx, p, ps, ts, rfl, hx, hp, pr, ok, q⟩ := h
    have hlen : ps.length = ts.length := Paired.length pr
    have s1 := ok.s1
    refine ⟨_, PSs.nox <| pss_cons (ps_set (i := 1) sc_sparse_content.nd rfl (.inl rfl) (pe_callTy0 cr_bytes0 (by rfl) T.f_bytes boot_bytes))
      (pss_cons (ps_for PassesOwn.never rfl (pi_tup (pe_fld (pv 0) rfl)) (pg_tup rfl (pgs_cons (pg_name (i := 2) sc_sparse_content.nd rfl (.inl rfl)) (pgs_cons (pg_name (i := 3) sc_sparse_content.nd rfl (.inl rfl)) pgs_nil)))
        (pss_one (ps_set (i := 1) sc_sparse_content.nd rfl (.inl rfl) (pe_op op_add_byt (pe_op op_add_byt (pv 1) (pe_callTy cr_bytesN (by rfl) T.f_bytes boot_bytes (pa_cons (pe_op op_sub (pv 2) (pe_callB call_len (by rfl) T.f_len boot_len (pa_cons (pv 1) pa_nil))) pa_nil))) (pv 3)))))
      (pss_one (ps_ret (pe_op op_add_byt (pv 1) (pe_callTy cr_bytesN (by rfl) T.f_bytes boot_bytes (pa_cons (pe_op op_sub (pe_fld (pv 0) rfl) (pe_callB call_len (by rfl) T.f_len boot_len (pa_cons (pv 1) pa_nil))) pa_nil)))))), ?_⟩
    refine ⟨rfl, ?_⟩
    refine ⟨_, rfl, x, _, dx, _, _, rfl, hx, T.c_Sparse, T.n_Sparse_pieces, rfl, p, rfl, ⟨_, hp⟩, ?_⟩
    refine for_tup (xs := ts) (fun i σ H' => H' = H ∧ ∃ a b, σ = [some (.ref x), some (.byt (accP ps i)), a, b]) ⟨rfl, none, none, rfl⟩ (fun i σ H' _ e => by rw [e.1]; exact hp) (fun i v σ H' hv e => ?_) (fun σ H' e => ?_)
    · obtain ⟨rfl, a, b, rfl⟩ := e
      obtain ⟨⟨o, d⟩, ho, t', rfl, ht'⟩ := Paired.at pr hv
      obtain ⟨l1, l2⟩ := accP_lt ok.sp ho
      refine ⟨t', _, rfl, ht', rfl, _, _, rfl, _, _, rfl, rfl, ?_⟩
      have z1 : (accP ps i).size ≤ 16777216 := by omega
      refine ⟨_, rfl, _, rfl, _, rfl, _, _, rfl, ⟨z1, rfl⟩, _, _, rfl, rfl, ?_⟩
      refine ⟨_, rfl, by omega, by omega, ?_⟩
      refine ⟨_, _, rfl, rfl, ?_, ?_⟩
      · rw [Array.size_replicate]
        omega
      refine ⟨_, rfl, _, _, rfl, rfl, ?_, ?_⟩
      · rw [Array.size_append, Array.size_replicate]
        show (accP ps i).size + (o - ((accP ps i).size : Int)).toNat + d.size ≤ 16777216
        omega
      · refine ⟨rfl, some (.int o), some (.byt d), ?_⟩
        rw [accP_succ ho]
        rfl
    · obtain ⟨rfl, a, b, rfl⟩ := e
      rw [← hlen]
      have l1 := accP_fin ok
      have z1 : (accP ps ps.length).size ≤ 16777216 := by omega
      refine ⟨_, rfl, _, rfl, x, _, dx, _, _, rfl, hx, T.c_Sparse, T.n_Sparse_size, rfl, ?_⟩
      refine ⟨_, rfl, _, _, rfl, ⟨z1, rfl⟩, _, _, rfl, rfl, ?_⟩
      refine ⟨_, rfl, by omega, by omega, ?_⟩
      refine ⟨_, _, rfl, rfl, ?_, q⟩
      rw [Array.size_replicate]
      omega
end
end TarK

namespace TarK
open PySem PySem.Spec PyProof.Rows L2 LamX NdefX
/-! ### houses -/
def thL : TKP.Th → List V
  | .fil i => [.str "file", .int (i : Nat)]
  | .dir m t => [.str "directory", .int m, .int t]
  | .sym g m t => [.str "symlink", .str g, .int m, .int t]
def flL (d : Array UInt8 × Int × Int) : List V := [.str "file", .byt d.1, .int d.2.1, .int d.2.2]
def TupAt (K : PySem.W.Frag) (H : Hp) (v : V) (xs : List V) : Prop := ∃ a, v = .ref a ∧ SqT K H a xs
/-- a dict of what stands -/
abbrev StAt (K : PySem.W.Frag) (H : Hp) (st : List (Str × TKP.Th)) (kvs : List (Key × V)) : Prop := Paired (fun (e : Str × TKP.Th) (kv : Key × V) => kv.1 = .inr e.1 ∧ TupAt K H kv.2 (thL e.2)) st kvs
structure FlAt (K : PySem.W.Frag) (H : Hp) (fl : List (Array UInt8 × Int × Int)) (fvs : List (Key × V)) : Prop where
  len : fvs.length = fl.length
  at_ : ∀ (i : Nat) d, fl[i]? = some d → ∃ v, fvs[i]? = some ((Sum.inl (i : Int) : Key), v) ∧ TupAt K H v (flL d)
def hsF (d1 d2 r : Addr) : List (Str × V) := [("standing", .ref d1), ("files", .ref d2), ("rows", .ref r)]
/-- a house's own law -/
structure HsOk (h : TKP.Hs) : Prop where
  nd : (h.st.map (·.1)).Nodup
  ids : ∀ p i, TKP.look h.st p = some (.fil i) → i < h.fl.length
structure HouseAt (K : PySem.W.Frag) (H : Hp) (p d1 d2 : Addr) (h : TKP.Hs) : Prop where
  ob : ∃ dx r, H p = some (.ins (He.ga K "House") dx (hsF d1 d2 r))
  s : ∃ kvs, H d1 = some (.dK kvs) ∧ StAt K H h.st kvs
  f : ∃ fvs, H d2 = some (.dK fvs) ∧ FlAt K H h.fl fvs
  ne : d1 ≠ d2
  ok : HsOk h
theorem TupAt.kp {K : PySem.W.Frag} {H H' : Hp} {v : V} {xs : List V} {l : List Addr} (h : TupAt K H v xs) (k : Kp l H H') (m : ∀ b ∈ l, Mut (H b)) : TupAt K H' v xs := let ⟨a, e, q⟩ := h; ⟨a, e, sqT_kp q k m⟩
theorem StAt.kp {K : PySem.W.Frag} {H H' : Hp} {st : List (Str × TKP.Th)} {kvs : List (Key × V)} {l : List Addr} (h : StAt K H st kvs) (k : Kp l H H') (m : ∀ b ∈ l, Mut (H b)) : StAt K H' st kvs := Paired.mapP h fun _ _ z => ⟨z.1, z.2.kp k m⟩
theorem FlAt.kp {K : PySem.W.Frag} {H H' : Hp} {fl : List (Array UInt8 × Int × Int)} {kvs : List (Key × V)} {l : List Addr} (h : FlAt K H fl kvs) (k : Kp l H H') (m : ∀ b ∈ l, Mut (H b)) : FlAt K H' fl kvs := ⟨h.len, fun i d e => let ⟨v, a, b⟩ := h.at_ i d e; ⟨v, a, b.kp k m⟩⟩
theorem mut_dK {H : Hp} {D : Addr} {kvs : List (Key × V)} (h : H D = some (.dK kvs)) : Mut (H D) := by
  rw [h]
  trivial
theorem HouseAt.ext {K : PySem.W.Frag} {H H' : Hp} {p d1 d2 : Addr} {h : TKP.Hs} (a : HouseAt K H p d1 d2 h) (k : Kp [] H H') : HouseAt K H' p d1 d2 h := by
  have m : ∀ b ∈ ([] : List Addr), Mut (H b) := fun b hb => absurd hb (by simp)
  obtain ⟨⟨dx, r, e1⟩, ⟨kvs, e2, s⟩, ⟨fvs, e3, f⟩, n, o⟩ := a
  exact ⟨⟨dx, r, k _ _ e1 (by simp)⟩, ⟨kvs, k _ _ e2 (by simp), s.kp k m⟩, ⟨fvs, k _ _ e3 (by simp), f.kp k m⟩, n, o⟩
/-! the dicts, in plain -/
section
variable {K : PySem.W.Frag} {H : Hp}
theorem StAt.get {st : List (Str × TKP.Th)} {kvs : List (Key × V)} (s : StAt K H st kvs) (q : Str) : (∀ x, TKP.look st q = some x → ∃ v, valV kvs (Sum.inr q) = some v ∧ TupAt K H v (thL x)) ∧ (TKP.look st q = none → valV kvs (Sum.inr q) = none) := by
  induction s with
  | nil => exact ⟨fun x h => (by cases h), fun _ => rfl⟩
  | @cons e kv l m h t ih =>
    obtain ⟨k, v⟩ := kv
    obtain ⟨rfl, hv⟩ := h
    show (∀ x, (if e.1 = q then some e.2 else TKP.look l q) = some x → _) ∧ ((if e.1 = q then some e.2 else TKP.look l q) = none → _)
    by_cases he : e.1 = q
    · rw [if_pos he, valV_pos (p := (Sum.inr e.1, v)) (by rw [he])]
      exact ⟨fun x hx => ⟨v, rfl, by rw [← Option.some.inj hx]; exact hv⟩, fun hx => (by cases hx)⟩
    · rw [if_neg he, valV_neg (p := (Sum.inr e.1, v)) (fun z => he (Sum.inr.inj z))]
      exact ih
theorem StAt.gone {st : List (Str × TKP.Th)} {kvs : List (Key × V)} (s : StAt K H st kvs) {q : Str} (h : valV kvs (Sum.inr q) = none) : TKP.look st q = none := by
  cases e : TKP.look st q with
  | none => rfl
  | some x =>
    obtain ⟨v, e2, _⟩ := (s.get q).1 x e
    rw [h] at e2
    cases e2
theorem StAt.keys {st : List (Str × TKP.Th)} {kvs : List (Key × V)} (s : StAt K H st kvs) : kvs.map (·.1) = (st.map (·.1)).map Sum.inr := by
  induction s with
  | nil => rfl
  | cons h t ih => rw [List.map_cons, List.map_cons, List.map_cons, ih, h.1]
theorem map_off {kvs : List (Key × V)} {k : Key} {v : V} (h : valV kvs k = none) : (kvs.map fun kv => if kv.1 = k then (kv.1, v) else kv) = kvs := by
  induction kvs with
  | nil => rfl
  | cons e r ih =>
    by_cases he : e.1 = k
    · rw [valV_pos he] at h
      cases h
    · rw [valV_neg he] at h
      rw [List.map_cons, if_neg he, ih h]
theorem StAt.put {st : List (Str × TKP.Th)} {kvs : List (Key × V)} {q : Str} {x : TKP.Th} {v : V} (s : StAt K H st kvs) (nd : (st.map (·.1)).Nodup) (hv : TupAt K H v (thL x)) : StAt K H (TKP.putS st q x) (putK kvs (Sum.inr q) v) := by
  unfold putK
  rw [valV_any]
  induction s with
  | nil => exact .cons ⟨rfl, hv⟩ .nil
  | @cons e kv l m h t ih =>
    obtain ⟨k, u⟩ := kv
    obtain ⟨rfl, hu⟩ := h
    rw [List.map_cons, List.nodup_cons] at nd
    show StAt K H (if e.1 = q then (e.1, x) :: l else e :: TKP.putS l q x) _
    by_cases he : e.1 = q
    · rw [if_pos he, valV_pos (p := (Sum.inr e.1, u)) (by rw [he]), List.map_cons, if_pos (show (Sum.inr e.1 : Key) = Sum.inr q by rw [he])]
      have hn : valV m (Sum.inr q) = none := (StAt.get t q).2 (TKP.look_none.mpr (he ▸ nd.1))
      rw [map_off hn]
      exact .cons ⟨rfl, hv⟩ t
    · rw [if_neg he, valV_neg (p := (Sum.inr e.1, u)) (fun z => he (Sum.inr.inj z)), List.map_cons, if_neg (fun z => he (Sum.inr.inj z))]
      have k := ih nd.2
      by_cases hs : (valV m (Sum.inr q)).isSome = true
      · rw [if_pos hs] at k ⊢
        exact .cons ⟨rfl, hu⟩ k
      · rw [if_neg hs] at k ⊢
        exact .cons ⟨rfl, hu⟩ k
theorem FlAt.get {fl : List (Array UInt8 × Int × Int)} {fvs : List (Key × V)} (f : FlAt K H fl fvs) {i : Nat} {d : Array UInt8 × Int × Int} (h : fl[i]? = some d) : ∃ v, valV fvs (Sum.inl (i : Int)) = some v ∧ TupAt K H v (flL d) := by
  obtain ⟨v, e, hv⟩ := f.at_ i d h
  refine ⟨v, ?_, hv⟩
  have key : ∀ (l : List (Key × V)) (j n : Nat), (∀ (m : Nat) (kv : Key × V), l[m]? = some kv → kv.1 = Sum.inl ((n + m : Nat) : Int)) → l[j]? = some ((Sum.inl ((n + j : Nat) : Int) : Key), v) → valV l (Sum.inl ((n + j : Nat) : Int) : Key) = some v := by
    intro l
    induction l with
    | nil => intro j n _ h; cases h
    | cons a r ih =>
      intro j n hk hj
      cases j with
      | zero =>
        cases hj
        exact valV_pos rfl
      | succ j =>
        have h0 := hk 0 a rfl
        rw [valV_neg (by rw [h0]; intro z; have := Int.ofNat.inj (Sum.inl.inj z); omega)]
        have k := ih j (n + 1) (fun m kv hm => by
          have := hk (m + 1) kv hm
          rw [this]
          congr 2
          omega) (by
          rw [show n + 1 + j = n + (j + 1) by omega]
          exact hj)
        rw [show n + 1 + j = n + (j + 1) by omega] at k
        exact k
  have k := key fvs i 0 (fun m kv hm => by
    have hl : m < fl.length := by
      rw [← f.len]
      exact (List.getElem?_eq_some_iff.mp hm).1
    obtain ⟨v2, e2, _⟩ := f.at_ m fl[m] (List.getElem?_eq_getElem hl)
    rw [hm] at e2
    rw [Option.some.inj e2, Nat.zero_add]) (by rw [Nat.zero_add]; exact e)
  rw [Nat.zero_add] at k
  exact k
theorem FlAt.fresh {fl : List (Array UInt8 × Int × Int)} {fvs : List (Key × V)} (f : FlAt K H fl fvs) : valV fvs (Sum.inl (fl.length : Int)) = none := by
  have key : ∀ (l : List (Key × V)) (k : Key), (∀ kv ∈ l, kv.1 ≠ k) → valV l k = none := by
    intro l k
    induction l with
    | nil => intro _; rfl
    | cons a r ih =>
      intro h
      rw [valV_neg (h a List.mem_cons_self)]
      exact ih fun kv m => h kv (List.mem_cons_of_mem _ m)
  refine key _ _ fun kv hm => ?_
  obtain ⟨m, hm⟩ := List.mem_iff_getElem?.mp hm
  have hl : m < fl.length := by
    rw [← f.len]
    exact (List.getElem?_eq_some_iff.mp hm).1
  obtain ⟨v2, e2, _⟩ := f.at_ m fl[m] (List.getElem?_eq_getElem hl)
  rw [hm] at e2
  rw [Option.some.inj e2]
  intro z
  have := Int.ofNat.inj (Sum.inl.inj z)
  omega
theorem FlAt.snoc {fl : List (Array UInt8 × Int × Int)} {fvs : List (Key × V)} {v : V} {d : Array UInt8 × Int × Int} (f : FlAt K H fl fvs) (hv : TupAt K H v (flL d)) : FlAt K H (fl ++ [d]) (putK fvs (Sum.inl (fl.length : Int)) v) := by
  rw [putK_new v f.fresh]
  refine ⟨by rw [List.length_append, List.length_append, f.len] <;> rfl, fun i e h => ?_⟩
  by_cases hi : i < fl.length
  · rw [List.getElem?_append_left hi] at h
    obtain ⟨u, e1, e2⟩ := f.at_ i e h
    exact ⟨u, by rw [List.getElem?_append_left (by rw [f.len]; exact hi)]; exact e1, e2⟩
  · have hi2 : i = fl.length := by
      have := (List.getElem?_eq_some_iff.mp h).1
      rw [List.length_append, List.length_singleton] at this
      omega
    subst hi2
    rw [List.getElem?_append_right (Nat.le_refl _), Nat.sub_self] at h
    cases h
    exact ⟨v, by rw [List.getElem?_append_right (by rw [f.len]; exact Nat.le_refl _), f.len, Nat.sub_self] <;> rfl, hv⟩
end
theorem HsOk.put {h : TKP.Hs} (o : HsOk h) {q : Str} {x : TKP.Th} {fl : List (Array UInt8 × Int × Int)} (hx : ∀ i, x = .fil i → i < fl.length) (hl : h.fl.length ≤ fl.length) : HsOk ⟨TKP.putS h.st q x, fl⟩ := by
  refine ⟨TKP.nodup_put o.nd, fun p i e => ?_⟩
  have e' : TKP.look (TKP.putS h.st q x) p = some (.fil i) := e
  rw [TKP.look_put] at e'
  by_cases hp : p = q
  · rw [if_pos hp] at e'
    exact hx i (Option.some.inj e')
  · rw [if_neg hp] at e'
    exact Nat.lt_of_lt_of_le (o.ids p i e') hl
end TarK

namespace TarK
open PySem PySem.Spec PyProof.Rows L2 LamX NdefX
def spHInit (K : PySem.W.Frag) : Sp := fun vs H Q _ => ∃ (p dx : Addr), vs = [.ref p] ∧ H p = some (.ins (He.ga K "House") dx []) ∧
  ∀ H' d1 d2 r, Kp [p] H H' → H' p = some (.ins (He.ga K "House") dx (hsF d1 d2 r)) → H' d1 = some (.dK []) → H' d2 = some (.dK []) → d1 ≠ d2 → H d1 = none → H d2 = none → Q .non H'
def spHas (K : PySem.W.Frag) : Sp := fun vs H Q _ => ∃ (p dx d1 d2 r : Addr) (kvs : List (Key × V)) (q : Str), vs = [.ref p, .str q] ∧ H p = some (.ins (He.ga K "House") dx (hsF d1 d2 r)) ∧ H d1 = some (.dK kvs) ∧ Q (.bl (valV kvs (.inr q)).isSome) H
def spKind (K : PySem.W.Frag) : Sp := fun vs H Q _ => ∃ (p d1 d2 : Addr) (h : TKP.Hs) (q : Str), vs = [.ref p, .str q] ∧ HouseAt K H p d1 d2 h ∧ Q (.str (TKP.kindAt h q)) H
def spSet (K : PySem.W.Frag) : Sp := fun vs H Q _ => ∃ (p d1 d2 a : Addr) (h : TKP.Hs) (q : Str), vs = [.ref p, .str q, .ref a] ∧ HouseAt K H p d1 d2 h ∧ h.st.length < 10000 ∧ h.fl.length < 10000 ∧
  ((∃ x, SqT K H a (thL x) ∧ (∀ i, x ≠ .fil i) ∧ ∀ H', Kp [d1, d2] H H' → HouseAt K H' p d1 d2 ⟨TKP.putS h.st q x, h.fl⟩ → Q .non H') ∨
   ∃ d, SqT K H a (flL d) ∧ ∀ H', Kp [d1, d2] H H' → HouseAt K H' p d1 d2 ⟨TKP.putS h.st q (.fil h.fl.length), h.fl ++ [d]⟩ → Q .non H')
def spShare (K : PySem.W.Frag) : Sp := fun vs H Q _ => ∃ (p d1 d2 : Addr) (h : TKP.Hs) (q g : Str) (x : TKP.Th), vs = [.ref p, .str q, .str g] ∧ HouseAt K H p d1 d2 h ∧ h.st.length < 10000 ∧ TKP.look h.st g = some x ∧
  ∀ H', Kp [d1, d2] H H' → HouseAt K H' p d1 d2 ⟨TKP.putS h.st q x, h.fl⟩ → Q .non H'
def spEntries (K : PySem.W.Frag) : Sp := fun vs H Q _ => ∃ (p dx d1 d2 r : Addr) (xs : List V), vs = [.ref p] ∧ H p = some (.ins (He.ga K "House") dx (hsF d1 d2 r)) ∧ SqL K H r xs ∧ ∀ H' b, Kp [] H H' → H b = none → H' b = some (.lst xs) → Q (.ref b) H'
theorem sc_house_init : FnScope ["self"] ["self"] (defScope s_house_init) := ⟨rfl, rfl, rfl, by decide +kernel, rfl, by decide +kernel, by decide +kernel⟩
theorem sc_has : FnScope ["self", "path"] ["self", "path"] (defScope s_has) := ⟨rfl, rfl, rfl, by decide +kernel, rfl, by decide +kernel, by decide +kernel⟩
theorem sc_kind_at : FnScope ["self", "path"] ["self", "path"] (defScope s_kind_at) := ⟨rfl, rfl, rfl, by decide +kernel, rfl, by decide +kernel, by decide +kernel⟩
theorem sc_set_thing : FnScope ["self", "path", "thing"] ["self", "path", "thing"] (defScope s_set_thing) := ⟨rfl, rfl, rfl, by decide +kernel, rfl, by decide +kernel, by decide +kernel⟩
theorem sc_share : FnScope ["self", "path", "target"] ["self", "path", "target"] (defScope s_share) := ⟨rfl, rfl, rfl, by decide +kernel, rfl, by decide +kernel, by decide +kernel⟩
theorem sc_entries : FnScope ["self"] ["self"] (defScope s_entries) := ⟨rfl, rfl, rfl, by decide +kernel, rfl, by decide +kernel, by decide +kernel⟩
theorem small_lt {n : Nat} (h : n < 10000) : n < sizeLine := Nat.lt_trans h (by decide)
section
variable {K : PySem.W.Frag} {H : Hp}
theorem thL_kd (x : TKP.Th) : atI (thL x) 0 = some (.str x.kd) := by cases x <;> rfl
theorem tup_mut {H : Hp} {d1 d2 : Addr} (h1 : Mut (H d1)) (h2 : Mut (H d2)) : ∀ b ∈ [d1, d2], Mut (H b) := fun b hb => by
  rcases List.mem_cons.mp hb with rfl | hb
  · exact h1
  · rw [List.mem_singleton.mp hb]
    exact h2
theorem HouseAt.put {p d1 d2 : Addr} {h : TKP.Hs} {q : Str} {x : TKP.Th} {v : V} {kvs : List (Key × V)} (a : HouseAt K H p d1 d2 h) (e : H d1 = some (.dK kvs)) (hv : TupAt K H v (thL x)) (hx : ∀ i, x = .fil i → i < h.fl.length) :
    HouseAt K (upd H d1 (.dK (putK kvs (.inr q) v))) p d1 d2 ⟨TKP.putS h.st q x, h.fl⟩ := by
  obtain ⟨⟨dx, r, e1⟩, ⟨kvs', e2, s⟩, ⟨fvs, e3, f⟩, n, o⟩ := a
  rw [e] at e2
  cases e2
  have k : Kp [d1] H (upd H d1 (.dK (putK kvs (.inr q) v))) := Kp.put (List.mem_singleton.mpr rfl)
  have m : ∀ b ∈ [d1], Mut (H b) := fun b hb => by rw [List.mem_singleton.mp hb]; exact mut_dK e
  have np : p ≠ d1 := fun z => by rw [z, e] at e1; cases e1
  refine ⟨⟨dx, r, by rw [upd_ne np]; exact e1⟩, ⟨_, upd_same, (s.put o.nd hv).kp k m⟩, ⟨fvs, by rw [upd_ne (Ne.symm n)]; exact e3, f.kp k m⟩, n, o.put hx (Nat.le_refl _)⟩
theorem HouseAt.grow {p d1 d2 : Addr} {h : TKP.Hs} {v : V} {fvs : List (Key × V)} {d : Array UInt8 × Int × Int} (a : HouseAt K H p d1 d2 h) (e : H d2 = some (.dK fvs)) (hv : TupAt K H v (flL d)) :
    HouseAt K (upd H d2 (.dK (putK fvs (.inl (h.fl.length : Int)) v))) p d1 d2 ⟨h.st, h.fl ++ [d]⟩ := by
  obtain ⟨⟨dx, r, e1⟩, ⟨kvs, e2, s⟩, ⟨fvs', e3, f⟩, n, o⟩ := a
  rw [e] at e3
  cases e3
  have k : Kp [d2] H (upd H d2 (.dK (putK fvs (.inl (h.fl.length : Int)) v))) := Kp.put (List.mem_singleton.mpr rfl)
  have m : ∀ b ∈ [d2], Mut (H b) := fun b hb => by rw [List.mem_singleton.mp hb]; exact mut_dK e
  have np : p ≠ d2 := fun z => by rw [z, e] at e1; cases e1
  refine ⟨⟨dx, r, by rw [upd_ne np]; exact e1⟩, ⟨_, by rw [upd_ne n]; exact e2, s.kp k m⟩, ⟨_, upd_same, (f.snoc hv).kp k m⟩, n, o.nd, fun q i hq => ?_⟩
  have := o.ids q i hq
  show i < (h.fl ++ [d]).length
  rw [List.length_append]
  omega
theorem StAt.length {st : List (Str × TKP.Th)} {kvs : List (Key × V)} (s : StAt K H st kvs) : kvs.length = st.length := (Paired.length s).symm
end
section
variable {P : Program} {w : World} {K : PySem.W.Frag} {mg : Str → Option Value} {base : Heap}
theorem ok_house_init (T : TF K mg) : FR P w K mg base 1 (He.ma K (He.ga K "House") "__init__") (spHInit K) := by
  refine okR T.fd_house_init sc_house_init (fun _ _ _ _ _ _ _ us hl => match us, hl with | [_], _ => rfl) (fun vs H Q E h => ?_) (fun cdv A outer s H vs Q E hr h => ?_)
  · obtain ⟨p, dx, rfl, _⟩ := h
    rfl
  · obtain ⟨p, dx, rfl, hp, q⟩ := h
    refine ⟨_, pss_cons (ps_fld (pv 0) pe_dnewK rfl) (pss_cons (ps_fld (pv 0) pe_dnewK rfl) (pss_one (ps_fld (pv 0) (pe_lst pa_nil) rfl))), ?_⟩
    refine fun d1 hd1 => ?_
    have n1 : p ≠ d1 := ne_of_none hp hd1
    refine ⟨_, rfl, p, _, dx, _, rfl, by rw [upd_ne n1]; exact hp, T.c_House, T.n_House_standing, by decide, fun d2 hd2 => ?_⟩
    have a1 : upd (upd H d1 (.dK [])) p (.ins (He.ga K "House") dx (putF "standing" (.ref d1) [])) p = some (.ins (He.ga K "House") dx [("standing", .ref d1)]) := by rw [upd_same, putF_new (by rfl)] <;> rfl
    have a2 : upd (upd H d1 (.dK [])) p (.ins (He.ga K "House") dx (putF "standing" (.ref d1) [])) d1 = some (.dK []) := by rw [upd_ne (Ne.symm n1), upd_same]
    have k1 : Kp [p] H (upd (upd H d1 (.dK [])) p (.ins (He.ga K "House") dx (putF "standing" (.ref d1) []))) := (Kp.new hd1).trans (Kp.put (List.mem_singleton.mpr rfl))
    have hd2' : H d2 = none := by
      cases e : H d2 with
      | none => rfl
      | some o =>
        by_cases z : d2 ∈ [p]
        · rw [List.mem_singleton.mp z, a1] at hd2
          cases hd2
        · rw [k1 _ _ e z] at hd2
          cases hd2
    generalize upd (upd H d1 (.dK [])) p (.ins (He.ga K "House") dx (putF "standing" (.ref d1) [])) = H1 at a1 a2 k1 hd2 ⊢
    have n2 : p ≠ d2 := ne_of_none a1 hd2
    have n3 : d1 ≠ d2 := ne_of_none a2 hd2
    refine ⟨_, rfl, p, _, dx, _, rfl, by rw [upd_ne n2]; exact a1, T.c_House, T.n_House_files, (by show (1 : Nat) < 1000; decide), ?_⟩
    refine ⟨by decide, fun r hr' => ?_⟩
    have b1 : upd (upd H1 d2 (.dK [])) p (.ins (He.ga K "House") dx (putF "files" (.ref d2) [("standing", .ref d1)])) p = some (.ins (He.ga K "House") dx [("standing", .ref d1), ("files", .ref d2)]) := by rw [upd_same, putF_new (by rfl)] <;> rfl
    have b2 : upd (upd H1 d2 (.dK [])) p (.ins (He.ga K "House") dx (putF "files" (.ref d2) [("standing", .ref d1)])) d1 = some (.dK []) := by rw [upd_ne (Ne.symm n1), upd_ne n3]; exact a2
    have b3 : upd (upd H1 d2 (.dK [])) p (.ins (He.ga K "House") dx (putF "files" (.ref d2) [("standing", .ref d1)])) d2 = some (.dK []) := by rw [upd_ne (Ne.symm n2), upd_same]
    have k2 : Kp [p] H1 (upd (upd H1 d2 (.dK [])) p (.ins (He.ga K "House") dx (putF "files" (.ref d2) [("standing", .ref d1)]))) := (Kp.new hd2).trans (Kp.put (List.mem_singleton.mpr rfl))
    generalize upd (upd H1 d2 (.dK [])) p (.ins (He.ga K "House") dx (putF "files" (.ref d2) [("standing", .ref d1)])) = H2 at b1 b2 b3 k2 hr' ⊢
    have m1 : p ≠ r := ne_of_none b1 hr'
    have m2 : d1 ≠ r := ne_of_none b2 hr'
    have m3 : d2 ≠ r := ne_of_none b3 hr'
    refine ⟨_, rfl, p, _, dx, _, rfl, by rw [upd_ne m1]; exact b1, T.c_House, T.n_House_rows, (by show (2 : Nat) < 1000; decide), ?_⟩
    refine q _ d1 d2 r (((k1.trans k2).trans (Kp.new hr')).trans (Kp.put (List.mem_singleton.mpr rfl))) ?_ ?_ ?_ n3 hd1 hd2'
    · rw [upd_same, putF_new (by rfl)]
      rfl
    · rw [upd_ne (Ne.symm n1), upd_ne m2]
      exact b2
    · rw [upd_ne (Ne.symm n2), upd_ne m3]
      exact b3
theorem ok_has (T : TF K mg) : FR P w K mg base 1 (He.ma K (He.ga K "House") "has") (spHas K) := by
  refine okR T.fd_has sc_has (fun _ _ _ _ _ _ _ us hl => match us, hl with | [_, _], _ => rfl) (fun vs H Q E h => ?_) (fun cdv A outer s H vs Q E hr h => ?_)
  · obtain ⟨p, dx, d1, d2, r, kvs, q, rfl, _⟩ := h
    rfl
  · obtain ⟨p, dx, d1, d2, r, kvs, z, rfl, hp, hd, q⟩ := h
    refine ⟨_, pss_one (ps_ret (pe_and (pe_callB call_isi (by rfl) T.f_isinstance boot_isi (pa_cons (pv 1) (pa_cons (pe_ty (by rfl) T.f_str boot_str) pa_nil)))
      (pe_one (pe_cmp (pc_din (u1 hr) (pv 1) (pe_fld (pv 0) rfl)))))), ?_⟩
    refine ⟨_, rfl, _, _, _, _, true, rfl, .ty _, .base (.str _), kit_ty (by decide +kernel), true, rfl, ?_⟩
    exact ⟨_, rfl, _, rfl, p, _, dx, _, _, rfl, hp, T.c_House, T.n_House_standing, rfl, d1, _, rfl, DGet.k (k := .inr z) hd, q⟩
theorem ok_kind_at (T : TF K mg) : FR P w K mg base 2 (He.ma K (He.ga K "House") "kind_at") (spKind K) := by
  have G := ok_has (P := P) (w := w) (base := base) T
  refine okR T.fd_kind_at sc_kind_at (fun _ _ _ _ _ _ _ us hl => match us, hl with | [_, _], _ => rfl) (fun vs H Q E h => ?_) (fun cdv A outer s H vs Q E hr h => ?_)
  · obtain ⟨p, d1, d2, h, q, rfl, _⟩ := h
    rfl
  · obtain ⟨p, d1, d2, h, z, rfl, a, q⟩ := h
    obtain ⟨⟨dx, r, e1⟩, ⟨kvs, e2, s⟩, ⟨fvs, e3, f⟩, n, o⟩ := a
    refine ⟨_, pss_one (ps_ret (pe_ifExp (pt_val (pe_methR (pv 0) T.c_House T.h_House_has G hr passL (pa_cons (pv 1) pa_nil)))
      (pe_ix ix_tup (pe_dget (u1 hr) (pe_fld (pv 0) rfl) (pv 1) (fun _ _ => rfl)) pe_int (fun _ _ => rfl)) pe_str)), ?_⟩
    refine ⟨_, rfl, p, dx, _, rfl, e1, rfl, _, rfl, p, dx, d1, d2, r, kvs, z, rfl, e1, e2, ?_⟩
    refine ⟨_, rfl, ?_⟩
    cases e : TKP.look h.st z with
    | none =>
      rw [(StAt.get s z).2 e]
      show Q (.str "absent") H
      have e3 : TKP.kindAt h z = "absent" := by unfold TKP.kindAt; rw [e] <;> rfl
      rw [e3] at q
      exact q
    | some x =>
      obtain ⟨v, hv, t, rfl, ht⟩ := (StAt.get s z).1 x e
      have e3 : TKP.kindAt h z = x.kd := by unfold TKP.kindAt; rw [e] <;> rfl
      rw [hv]
      rw [e3] at q
      refine ⟨_, rfl, p, _, dx, _, _, rfl, e1, T.c_House, T.n_House_standing, rfl, ?_⟩
      exact ⟨_, rfl, d1, _, rfl, hv ▸ DGet.k (k := .inr z) e2, t, _, 0, _, rfl, rfl, ht, thL_kd x, q⟩
theorem ok_share (T : TF K mg) : FR P w K mg base 1 (He.ma K (He.ga K "House") "share") (spShare K) := by
  refine okR T.fd_share sc_share (fun _ _ _ _ _ _ _ us hl => match us, hl with | [_, _, _], _ => rfl) (fun vs H Q E h => ?_) (fun cdv A outer s H vs Q E hr h => ?_)
  · obtain ⟨p, d1, d2, h, q, g, x, rfl, _⟩ := h
    rfl
  · obtain ⟨p, d1, d2, h, z, g, x, rfl, a, hl, hx, q⟩ := h
    have a0 := a
    obtain ⟨⟨dx, r, e1⟩, ⟨kvs, e2, s⟩, ⟨fvs, e3, f⟩, n, o⟩ := a
    obtain ⟨v, hv, hvt⟩ := (StAt.get s g).1 x hx
    refine ⟨_, pss_one (ps_dput (u1 hr) (pe_fld (pv 0) rfl) (pv 1) (pe_dget (u1 hr) (pe_fld (pv 0) rfl) (pv 2) (fun _ _ => rfl)) rfl), ?_⟩
    refine ⟨_, rfl, p, _, dx, _, _, rfl, e1, T.c_House, T.n_House_standing, rfl, ?_⟩
    refine ⟨_, rfl, d1, v, rfl, hv ▸ DGet.k (k := .inr g) e2, ?_⟩
    refine ⟨_, rfl, p, _, dx, _, _, rfl, e1, T.c_House, T.n_House_standing, rfl, ?_⟩
    refine ⟨_, rfl, d1, _, rfl, DPut.k (k := .inr z) e2 (by rw [StAt.length s]; exact small_lt hl), ?_⟩
    exact q _ (Kp.put (by simp)) (a0.put e2 hvt fun i e => o.ids g i (by rw [hx, e]))
theorem ok_entries (T : TF K mg) : FR P w K mg base 1 (He.ma K (He.ga K "House") "entries") (spEntries K) := by
  refine okR T.fd_entries sc_entries (fun _ _ _ _ _ _ _ us hl => match us, hl with | [_], _ => rfl) (fun vs H Q E h => ?_) (fun cdv A outer s H vs Q E hr h => ?_)
  · obtain ⟨p, dx, d1, d2, r, xs, rfl, _⟩ := h
    rfl
  · obtain ⟨p, dx, d1, d2, r, xs, rfl, e1, hx, q⟩ := h
    refine ⟨_, pss_one (ps_ret (pe_callTy call_list_of (by rfl) T.f_list boot_list (pa_cons (pe_fld (pv 0) rfl) pa_nil))), ?_⟩
    refine ⟨_, rfl, p, _, dx, _, _, rfl, e1, T.c_House, T.n_House_rows, rfl, ?_⟩
    exact ⟨r, xs, rfl, .inl hx, fun l hl => q _ l (Kp.new hl) hl upd_same⟩
theorem ok_set_thing (T : TF K mg) : FR P w K mg base 1 (He.ma K (He.ga K "House") "set_thing") (spSet K) := by
  refine okR T.fd_set_thing sc_set_thing (fun _ _ _ _ _ _ _ us hl => match us, hl with | [_, _, _], _ => rfl) (fun vs H Q E h => ?_) (fun cdv A outer s H vs Q E hr h => ?_)
  · obtain ⟨p, d1, d2, a, h, q, rfl, _⟩ := h
    rfl
  · obtain ⟨p, d1, d2, a, h, z, rfl, ha, hl, hf, q⟩ := h
    have ha0 := ha
    obtain ⟨⟨dx, r, e1⟩, ⟨kvs, e2, s⟩, ⟨fvs, e3, f⟩, n, o⟩ := ha
    refine ⟨_, pss_cons (ps_if (pt_cmpR op_eq (pe_ix ix_tup (pv 2) pe_int (fun _ _ => rfl)) pe_str (nomark _))
        (pss_cons (ps_dput (u1 hr) (pe_fld (pv 0) rfl) (pe_callB call_lenD (by rfl) T.f_len boot_len (pa_cons (pe_fld (pv 0) rfl) pa_nil)) (pv 2) rfl)
          (pss_one (ps_set (i := 2) sc_set_thing.nd rfl (.inl rfl) (pe_tup (pa_cons pe_str (pa_cons (pe_op op_sub (pe_callB call_lenD (by rfl) T.f_len boot_len (pa_cons (pe_fld (pv 0) rfl) pa_nil)) pe_int) pa_nil)))))) pss_nil)
      (pss_one (ps_dput (u1 hr) (pe_fld (pv 0) rfl) (pv 1) (pv 2) rfl)), ?_⟩
    rcases q with ⟨x, hx, hnf, q⟩ | ⟨d, hd, q⟩
    · refine ⟨_, rfl, a, _, 0, _, rfl, rfl, hx, thL_kd x, rfl, false, ?_, ?_⟩
      · cases x with
        | fil i => exact absurd rfl (hnf i)
        | dir m t => exact congrArg V.bl (decide_eq_false (fun z => absurd (show ("directory" : Str) = "file" from V.str.inj z) (by decide)))
        | sym g m t => exact congrArg V.bl (decide_eq_false (fun z => absurd (show ("symlink" : Str) = "file" from V.str.inj z) (by decide)))
      · refine ⟨_, rfl, _, rfl, ?_⟩
        refine ⟨p, _, dx, _, _, rfl, e1, T.c_House, T.n_House_standing, rfl, ?_⟩
        refine ⟨_, rfl, d1, _, rfl, DPut.k (k := .inr z) e2 (by rw [StAt.length s]; exact small_lt hl), ?_⟩
        exact q _ (Kp.put (by simp)) (ha0.put e2 ⟨a, rfl, hx⟩ fun i e => absurd e (hnf i))
    · refine ⟨_, rfl, a, _, 0, _, rfl, rfl, hd, rfl, rfl, true, rfl, ?_⟩
      refine ⟨_, rfl, _, rfl, ?_⟩
      refine ⟨p, _, dx, _, _, rfl, e1, T.c_House, T.n_House_files, rfl, ?_⟩
      refine ⟨_, rfl, p, _, dx, _, _, rfl, e1, T.c_House, T.n_House_files, rfl, d2, fvs, rfl, e3, ?_⟩
      refine ⟨d2, _, rfl, DPut.k (k := .inl (fvs.length : Int)) e3 (by rw [f.len]; exact small_lt hf), ?_⟩
      have g1 := ha0.grow e3 ⟨a, rfl, hd⟩
      rw [← f.len] at g1
      have k1 : Kp [d1, d2] H (upd H d2 (.dK (putK fvs (.inl (fvs.length : Int)) (.ref a)))) := Kp.put (by simp)
      generalize upd H d2 (.dK (putK fvs (.inl (fvs.length : Int)) (.ref a))) = H1 at g1 k1 ⊢
      obtain ⟨⟨dx', r', e1'⟩, ⟨kvs', e2', s'⟩, ⟨fvs', e3', f'⟩, n', o'⟩ := id g1
      refine ⟨_, rfl, p, _, dx', _, _, rfl, e1', T.c_House, T.n_House_files, rfl, d2, fvs', rfl, e3', ?_⟩
      refine ⟨_, _, rfl, rfl, by show 2 ≤ sizeLine; decide, fun t ht => ?_⟩
      have hlen : fvs'.length = h.fl.length + 1 := by rw [f'.len, List.length_append] <;> rfl
      have ei : ((fvs'.length : Nat) : Int) - 1 = (h.fl.length : Int) := by rw [hlen]; omega
      dsimp only
      rw [ei]
      have g2 := g1.ext (Kp.new (p := t) (o := .tup [.str "file", .int (h.fl.length : Int)]) ht)
      have k2 : Kp [d1, d2] H (upd H1 t (.tup [.str "file", .int (h.fl.length : Int)])) := k1.trans (Kp.new ht)
      have ht2 : SqT K (upd H1 t (.tup [.str "file", .int (h.fl.length : Int)])) t (thL (.fil h.fl.length)) := .of upd_same
      generalize upd H1 t (.tup [.str "file", .int (h.fl.length : Int)]) = H2 at g2 k2 ht2 ⊢
      obtain ⟨⟨dx2, r2, e12⟩, ⟨kvs2, e22, s2⟩, ⟨fvs2, e32, f2⟩, n2, o2⟩ := id g2
      refine ⟨_, rfl, _, rfl, p, _, dx2, _, _, rfl, e12, T.c_House, T.n_House_standing, rfl, ?_⟩
      refine ⟨_, rfl, d1, _, rfl, DPut.k (k := .inr z) e22 (by rw [StAt.length s2]; exact small_lt hl), ?_⟩
      refine q _ (k2.trans (Kp.put (by simp))) (g2.put (x := .fil h.fl.length) e22 ⟨t, rfl, ht2⟩ fun i e => ?_)
      cases e
      show h.fl.length < (h.fl ++ [d]).length
      rw [List.length_append]
      exact Nat.lt_succ_self _
end
end TarK

namespace TarK
open PySem PySem.Spec PyProof.Rows L2 LamX NdefX
/-! ### the entries -/
def rowL : TKP.Row → List V
  | .fil d m t => [.str "file", .byt d, .int m, .int t]
  | .dir m t => [.str "directory", .int m, .int t]
  | .sym g m t => [.str "symlink", .str g, .int m, .int t]
  | .link o => [.str "link", .str o]
def RowAt (K : PySem.W.Frag) (H : Hp) (e : Str × TKP.Row) (v : V) : Prop := ∃ t a, v = .ref t ∧ H t = some (.tup [.str e.1, .ref a]) ∧ SqT K H a (rowL e.2)
theorem RowAt.kp {K : PySem.W.Frag} {H H' : Hp} {e : Str × TKP.Row} {v : V} {l : List Addr} (h : RowAt K H e v) (k : Kp l H H') (m : ∀ b ∈ l, Mut (H b)) : RowAt K H' e v := let ⟨t, a, e, q, r⟩ := h; ⟨t, a, e, k _ _ q (fun z => by have y := m t z; rw [q] at y; exact y), sqT_kp r k m⟩
theorem rows_kp {K : PySem.W.Frag} {H H' : Hp} {es : List (Str × TKP.Row)} {vs : List V} {l : List Addr} (h : Paired (RowAt K H) es vs) (k : Kp l H H') (m : ∀ b ∈ l, Mut (H b)) : Paired (RowAt K H') es vs := Paired.mapP h fun _ _ z => z.kp k m
theorem add_row {K : PySem.W.Frag} {H : Hp} {t fA a : Addr} {acc : List V} {rows : List (Str × TKP.Row)} {y : Str} {rw : TKP.Row} (hacc : H fA = some (.lst acc)) (pr : Paired (RowAt K H) rows acc) (ht : H t = none) (ha : SqT K H a (rowL rw)) :
    Paired (RowAt K (upd (upd H t (.tup [.str y, .ref a])) fA (.lst (acc ++ [.ref t])))) (rows ++ [(y, rw)]) (acc ++ [.ref t]) := by
  have n : fA ≠ t := ne_of_none hacc ht
  have k : Kp [fA] H (upd (upd H t (.tup [.str y, .ref a])) fA (.lst (acc ++ [.ref t]))) := (Kp.new ht).trans (Kp.put (List.mem_singleton.mpr rfl))
  refine Paired.snoc (rows_kp pr k (mut_lst hacc)) ⟨t, a, rfl, ?_, sqT_kp ha k (mut_lst hacc)⟩
  rw [upd_ne (Ne.symm n), upd_same]
section
variable {h : TKP.Hs} {ys : List Str} {i n : Nat} {y q : Str}
theorem first_snoc (hy : ys[i]? = some y) : TKP.firstOf h (ys.take (i + 1)) n = (TKP.firstOf h (ys.take i) n).or (if TKP.look h.st y = some (.fil n) then some y else none) := by
  unfold TKP.firstOf
  rw [take_snoc hy, List.find?_append, List.find?_cons]
  by_cases e : TKP.look h.st y = some (.fil n)
  · rw [decide_eq_true e, if_pos e]
  · rw [decide_eq_false e, if_neg e]
    rfl
theorem first_take (e : TKP.firstOf h (ys.take i) n = some q) : TKP.firstOf h ys n = some q := by
  have z : TKP.firstOf h (ys.take i ++ ys.drop i) n = some q := by
    unfold TKP.firstOf at e ⊢
    rw [List.find?_append, e]
    rfl
  rwa [List.take_append_drop] at z
theorem first_in (e : TKP.firstOf h (ys.take i) n = some q) : q ∈ ys.take i := List.mem_of_find?_eq_some e
theorem first_ne (nd : ys.Nodup) (hy : ys[i]? = some y) (e : TKP.firstOf h (ys.take i) n = some q) : q ≠ y := fun z => by
  subst z
  have hi := (List.getElem?_eq_some_iff.mp hy).1
  have m := first_in e
  obtain ⟨j, hj⟩ := List.mem_iff_getElem?.mp m
  rw [List.getElem?_take] at hj
  by_cases hji : j < i
  · rw [if_pos hji] at hj
    have hjl := (List.getElem?_eq_some_iff.mp hj)
    have hyl := (List.getElem?_eq_some_iff.mp hy)
    have := (List.getElem_inj nd).mp (hjl.2.trans hyl.2.symm)
    omega
  · rw [if_neg hji] at hj
    cases hj
theorem rowOf_link (nd : ys.Nodup) (hy : ys[i]? = some y) (hx : TKP.look h.st y = some (.fil n)) (e : TKP.firstOf h (ys.take i) n = some q) : TKP.rowOf h ys y = .link q := by
  unfold TKP.rowOf
  rw [hx]
  show TKP.rowLink y _ (TKP.firstOf h ys n) = _
  rw [first_take e]
  show (if q = y then _ else _) = _
  rw [if_neg (first_ne nd hy e)]
theorem rowOf_file {d : Array UInt8 × Int × Int} (hy : ys[i]? = some y) (hx : TKP.look h.st y = some (.fil n)) (e : TKP.firstOf h (ys.take i) n = none) (hd : h.fl[n]? = some d) : TKP.rowOf h ys y = .fil d.1 d.2.1 d.2.2 := by
  have e2 : TKP.firstOf h (ys.take (i + 1)) n = some y := by
    rw [first_snoc hy, e, if_pos hx]
    rfl
  unfold TKP.rowOf
  rw [hx]
  show TKP.rowLink y _ (TKP.firstOf h ys n) = _
  rw [first_take e2]
  show (if y = y then _ else _) = _
  rw [if_pos rfl, hd]
  rfl
theorem rows_snoc (hy : ys[i]? = some y) : (TKP.rowsOf h ys).take (i + 1) = (TKP.rowsOf h ys).take i ++ [(y, TKP.rowOf h ys y)] := by
  refine take_snoc ?_
  unfold TKP.rowsOf
  rw [List.getElem?_map, hy]
  rfl
end
def spSettle (K : PySem.W.Frag) : Sp := fun vs H Q _ => ∃ (p d1 d2 : Addr) (h : TKP.Hs), vs = [.ref p] ∧ HouseAt K H p d1 d2 h ∧ h.st.length < 10000 ∧
  ∀ H' dx r ys xs, Kp [p] H H' → H' p = some (.ins (He.ga K "House") dx (hsF d1 d2 r)) → ys.Perm (h.st.map (·.1)) → sortedS ys = true → H' r = some (.lst xs) → H r = none → Paired (RowAt K H') (TKP.rowsOf h ys) xs → Q .non H'
theorem sc_settle : FnScope ["self", "found", "first", "path", "thing"] ["self"] (defScope s_settle) := ⟨rfl, rfl, rfl, by decide +kernel, rfl, by decide +kernel, by decide +kernel⟩
/-- what the dict of the first paths holds -/
def FirstAt (h : TKP.Hs) (ys : List Str) (fk : List (Key × V)) : Prop := ∀ n : Nat, valV fk (Sum.inl (n : Int)) = (TKP.firstOf h ys n).map V.str
section
variable {P : Program} {w : World} {K : PySem.W.Frag} {mg : Str → Option Value} {base : Heap}
theorem ok_settle (T : TF K mg) : FR P w K mg base 1 (He.ma K (He.ga K "House") "settle") (spSettle K) := by
  refine okR T.fd_settle sc_settle (fun _ _ _ _ _ _ _ us hl => match us, hl with | [_], _ => rfl) (fun vs H Q E h => ?_) (fun cdv A outer s H vs Q E hr h => ?_)
  · obtain ⟨p, d1, d2, h, rfl, _⟩ := h
    rfl
  · obtain ⟨p, d1, d2, h, rfl, ha, hl, q⟩ := h
    obtain ⟨⟨dx, r, e1⟩, ⟨kvs, e2, st⟩, ⟨fvs, e3, f⟩, n, o⟩ := ha
    refine ⟨_, PSs.nox <| pss_cons (ps_par (i := 1) (j := 2) rfl sc_settle.nd rfl rfl (by decide) rfl rfl (pa_cons (pe_lst pa_nil) (pa_cons pe_dnewK pa_nil)) rfl)
      (pss_cons (ps_for PassesOwn.never rfl (pi_list (pe_callB (cr_sortedK rfl) (by rfl) T.f_sorted boot_sorted (pa_cons (pe_fld (pv 0) rfl) pa_nil))) (pg_name (i := 3) sc_settle.nd rfl (.inl rfl))
        (pss_cons (ps_set (i := 4) sc_settle.nd rfl (.inl rfl) (pe_dget (u1 hr) (pe_fld (pv 0) rfl) (pv 3) (fun _ _ => rfl)))
          (pss_one (ps_if (pt_cmpR op_ne (pe_ix ix_tup (pv 4) pe_int (fun _ _ => rfl)) pe_str (nomark _))
            (pss_one (ps_expr (pe_bm PySem.F.plainAttrs_list PySem.F.slot_list_append PySem.F.type_list_append mt_append (pv 1) (pa_cons (pe_tup (pa_cons (pv 3) (pa_cons (pv 4) pa_nil))) pa_nil))))
            (pss_one (ps_if (pt_cmp (pc_din (u1 hr) (pe_ix ix_tup (pv 4) pe_int (fun _ _ => rfl)) (pv 2)))
              (pss_one (ps_expr (pe_bm PySem.F.plainAttrs_list PySem.F.slot_list_append PySem.F.type_list_append mt_append (pv 1) (pa_cons (pe_tup (pa_cons (pv 3) (pa_cons (pe_tup (pa_cons pe_str (pa_cons (pe_dget (u1 hr) (pv 2) (pe_ix ix_tup (pv 4) pe_int (fun _ _ => rfl)) (fun _ _ => rfl)) pa_nil))) pa_nil))) pa_nil))))
              (pss_cons (ps_dput (u1 hr) (pv 2) (pe_ix ix_tup (pv 4) pe_int (fun _ _ => rfl)) (pv 3) rfl)
                (pss_one (ps_expr (pe_bm PySem.F.plainAttrs_list PySem.F.slot_list_append PySem.F.type_list_append mt_append (pv 1) (pa_cons (pe_tup (pa_cons (pv 3) (pa_cons (pe_dget (u1 hr) (pe_fld (pv 0) rfl) (pe_ix ix_tup (pv 4) pe_int (fun _ _ => rfl)) (fun _ _ => rfl)) pa_nil))) pa_nil)))))))))))
      (pss_one (ps_fld (pv 0) (pv 1) rfl))), ?_⟩
    refine ⟨by decide, fun fA hA => fun fB hB => ⟨_, _, rfl, ?_⟩⟩
    have nAB : fA ≠ fB := ne_of_none upd_same hB
    have kA : Kp [] H (upd H fA (.lst [])) := Kp.new hA
    have hBH : H fB = none := by
      rw [upd_ne (Ne.symm nAB)] at hB
      exact hB
    have kB : Kp [] H (upd (upd H fA (.lst [])) fB (.dK [])) := kA.trans (Kp.new hB)
    have a1 : upd (upd H fA (.lst [])) fB (.dK []) fA = some (.lst []) := by rw [upd_ne nAB, upd_same]
    have b1 : upd (upd H fA (.lst [])) fB (.dK []) fB = some (.dK []) := upd_same
    generalize upd (upd H fA (.lst [])) fB (.dK []) = H0 at kB a1 b1
    refine ⟨_, rfl, p, _, dx, _, _, rfl, kB _ _ e1 (by simp), T.c_House, T.n_House_standing, rfl, ?_⟩
    refine ⟨d1, kvs, h.st.map (·.1), rfl, .inl (kB _ _ e2 (by simp)), StAt.keys st, fun ys p0 hys hso hp0 => ?_⟩
    have nA0 : fA ≠ p0 := ne_of_none a1 hp0
    have nB0 : fB ≠ p0 := ne_of_none b1 hp0
    have kS : Kp [] H0 (upd H0 p0 (.lst (ys.map V.str))) := Kp.new hp0
    have pS : upd H0 p0 (.lst (ys.map V.str)) p0 = some (.lst (ys.map V.str)) := upd_same
    have aS : upd H0 p0 (.lst (ys.map V.str)) fA = some (.lst []) := kS _ _ a1 (by simp)
    have bS : upd H0 p0 (.lst (ys.map V.str)) fB = some (.dK []) := kS _ _ b1 (by simp)
    generalize upd H0 p0 (.lst (ys.map V.str)) = Hs at kS pS aS bS
    have kHs : Kp [] H Hs := kB.trans kS
    have nd : ys.Nodup := hys.nodup_iff.mpr o.nd
    have yl : ys.length < 10000 := by
      rw [hys.length_eq, List.length_map]
      exact hl
    have pA : p0 ∉ [fA, fB] := fun m => by
      rcases List.mem_cons.mp m with z | z
      · exact nA0 z.symm
      · exact nB0 (List.mem_singleton.mp z).symm
    have freshAB : ∀ x ∈ [fA, fB], H x = none := fun x hx => by
      rcases List.mem_cons.mp hx with z | z
      · rw [z]; exact hA
      · rw [List.mem_singleton.mp z]; exact hBH
    refine ⟨p0, rfl, ⟨_, .of pS⟩, ?_⟩
    refine for_list (xs := ys.map V.str) (fun i σ H' => Kp [fA, fB] Hs H' ∧ ∃ acc fk a b, σ = [some (.ref p), some (.ref fA), some (.ref fB), a, b] ∧ H' fA = some (.lst acc) ∧ H' fB = some (.dK fk) ∧ Paired (RowAt K H') ((TKP.rowsOf h ys).take i) acc ∧ FirstAt h (ys.take i) fk ∧ fk.length ≤ i)
      ⟨Kp.refl _ _, [], [], none, none, rfl, aS, bS, by rw [List.take_zero]; exact .nil, fun n => by rw [List.take_zero] <;> rfl, Nat.le_refl _⟩ (fun i σ H' _ e => .of (e.1 _ _ pS pA)) (fun i v σ H' hv e => ?_) (fun σ H' e => ?_)
    · obtain ⟨kp, acc, fk, a, b, rfl, hacc, hfk, pr, fi, fkl⟩ := e
      rw [List.getElem?_map] at hv
      obtain ⟨y, hy, rfl⟩ := Option.map_eq_some_iff.mp hv
      have hi : i < ys.length := (List.getElem?_eq_some_iff.mp hy).1
      have kH : Kp [] H H' := kHs.base kp freshAB
      have hym : y ∈ h.st.map (·.1) := hys.mem_iff.mp (List.mem_of_getElem? hy)
      obtain ⟨x, hx⟩ : ∃ x, TKP.look h.st y = some x := by
        cases e : TKP.look h.st y with
        | none => exact absurd hym (TKP.look_none.mp e)
        | some x => exact ⟨x, rfl⟩
      obtain ⟨v, hv2, t, rfl, ht⟩ := (StAt.get st y).1 x hx
      have ht' : SqT K H' t (thL x) := sqT_ext ht kH
      have accl : acc.length < sizeLine := by
        rw [← Paired.length pr, List.length_take]
        exact Nat.lt_of_le_of_lt (Nat.min_le_left _ _) (small_lt (by omega))
      refine ⟨_, rfl, p, _, dx, _, _, rfl, kH _ _ e1 (by simp), T.c_House, T.n_House_standing, rfl, ?_⟩
      refine ⟨_, rfl, d1, _, rfl, hv2 ▸ DGet.k (k := .inr y) (kH _ _ e2 (by simp)), ?_⟩
      refine ⟨_, rfl, t, _, 0, _, rfl, rfl, ht', thL_kd x, rfl, ?_⟩
      have hrow : ∀ (rw' : TKP.Row) (a : Addr) (H2 : Hp), TKP.rowOf h ys y = rw' → H2 fA = some (.lst acc) → Kp [fA, fB] H' H2 → Paired (RowAt K H2) ((TKP.rowsOf h ys).take i) acc → SqT K H2 a (rowL rw') → ∀ fk2, H2 fB = some (.dK fk2) → FirstAt h (ys.take (i + 1)) fk2 → fk2.length ≤ i + 1 → ∀ t2, H2 t2 = none →
          ∀ (a' b' : Option V), (fun σ H' => Kp [fA, fB] Hs H' ∧ ∃ acc fk a b, σ = [some (V.ref p), some (V.ref fA), some (V.ref fB), a, b] ∧ H' fA = some (.lst acc) ∧ H' fB = some (.dK fk) ∧ Paired (RowAt K H') ((TKP.rowsOf h ys).take (i + 1)) acc ∧ FirstAt h (ys.take (i + 1)) fk ∧ fk.length ≤ i + 1)
            ([some (V.ref p), some (V.ref fA), some (V.ref fB), a', b'] : L2.St) (upd (upd H2 t2 (.tup [.str y, .ref a])) fA (.lst (acc ++ [.ref t2]))) := by
        intro rw' a H2 er hA2 k2 pr2 ha2 fk2 hB2 fi2 fl2 t2 ht2 a' b'
        have nB : fB ≠ t2 := ne_of_none hB2 ht2
        refine ⟨(kp.trans k2).trans ((Kp.new ht2).trans (Kp.put (by simp))), acc ++ [.ref t2], fk2, a', b', rfl, upd_same, by rw [upd_ne (Ne.symm nAB), upd_ne nB]; exact hB2, ?_, fi2, fl2⟩
        rw [rows_snoc hy, er]
        exact add_row hA2 pr2 ht2 ha2
      have hsame : (∀ n, x ≠ .fil n) → FirstAt h (ys.take (i + 1)) fk := fun hn m => by
        rw [fi m, first_snoc hy, hx, if_neg (fun z => hn m (Option.some.inj z)), Option.or_none]
      cases x with
      | dir m' t' =>
        refine ⟨true, congrArg V.bl (show (!decide (V.str ("directory" : Str) = V.str "file")) = true from by rw [decide_eq_false (fun z => absurd (show ("directory" : Str) = "file" from V.str.inj z) (by decide))]; rfl), ?_⟩
        refine ⟨_, rfl, .inl ⟨rfl, acc, .of hacc⟩, _, rfl, _, rfl, by show 2 ≤ sizeLine; decide, fun t2 ht2 => ?_⟩
        refine ⟨fA, acc, .ref t2, rfl, rfl, by rw [upd_ne (ne_of_none hacc ht2)]; exact hacc, accl, ?_⟩
        exact hrow (.dir m' t') t H' (by unfold TKP.rowOf; rw [hx]) hacc (Kp.refl _ _) pr ht' fk hfk (hsame (fun n z => by cases z)) (by omega) t2 ht2 _ _
      | sym g m' t' =>
        refine ⟨true, congrArg V.bl (show (!decide (V.str ("symlink" : Str) = V.str "file")) = true from by rw [decide_eq_false (fun z => absurd (show ("symlink" : Str) = "file" from V.str.inj z) (by decide))]; rfl), ?_⟩
        refine ⟨_, rfl, .inl ⟨rfl, acc, .of hacc⟩, _, rfl, _, rfl, by show 2 ≤ sizeLine; decide, fun t2 ht2 => ?_⟩
        refine ⟨fA, acc, .ref t2, rfl, rfl, by rw [upd_ne (ne_of_none hacc ht2)]; exact hacc, accl, ?_⟩
        exact hrow (.sym g m' t') t H' (by unfold TKP.rowOf; rw [hx]) hacc (Kp.refl _ _) pr ht' fk hfk (hsame (fun n z => by cases z)) (by omega) t2 ht2 _ _
      | fil m =>
        refine ⟨false, rfl, ?_⟩
        refine ⟨_, rfl, t, _, 1, .int m, rfl, rfl, ht', rfl, ?_⟩
        refine ⟨_, rfl, fB, _, rfl, DGet.k (k := .inl (m : Int)) hfk, ?_⟩
        refine ⟨_, rfl, ?_⟩
        rw [fi m]
        cases e : TKP.firstOf h (ys.take i) m with
        | some z =>
          have hg : valV fk (Sum.inl (m : Int)) = some (.str z) := by rw [fi m, e] <;> rfl
          refine ⟨_, rfl, .inl ⟨rfl, acc, .of hacc⟩, _, rfl, _, rfl, _, rfl, t, _, 1, .int m, rfl, rfl, ht', rfl, fB, .str z, rfl, hg ▸ DGet.k (k := .inl (m : Int)) hfk, by show 2 ≤ sizeLine; decide, fun a2 ha2 => ?_⟩
          have k2 : Kp [fA, fB] H' (upd H' a2 (.tup [.str "link", .str z])) := Kp.new ha2
          have k2' : Kp [] H' (upd H' a2 (.tup [.str "link", .str z])) := Kp.new ha2
          have s2 : SqT K (upd H' a2 (.tup [.str "link", .str z])) a2 (rowL (.link z)) := .of upd_same
          generalize upd H' a2 (.tup [.str "link", .str z]) = H2 at k2 k2' s2 ⊢
          refine ⟨by show 2 ≤ sizeLine; decide, fun t2 ht2 => ?_⟩
          have hA2 := k2' _ _ hacc (by simp)
          refine ⟨fA, acc, .ref t2, rfl, rfl, by rw [upd_ne (ne_of_none hA2 ht2)]; exact hA2, accl, ?_⟩
          refine hrow (.link z) a2 H2 (rowOf_link nd hy hx e) hA2 k2 (rows_kp pr k2' fun b hb => absurd hb (by simp)) s2 fk (k2' _ _ hfk (by simp)) (fun n => ?_) (by omega) t2 ht2 _ _
          rw [fi n, first_snoc hy, hx]
          by_cases hnm : m = n
          · subst hnm
            rw [e]
            rfl
          · rw [if_neg (fun z => hnm (by cases Option.some.inj z; rfl)), Option.or_none]
        | none =>
          obtain ⟨d, hd⟩ : ∃ d, h.fl[m]? = some d := ⟨_, List.getElem?_eq_getElem (o.ids y m hx)⟩
          obtain ⟨v, hv3, u, rfl, hu⟩ := f.get hd
          refine ⟨_, rfl, _, rfl, _, rfl, t, _, 1, .int m, rfl, rfl, ht', rfl, fB, _, rfl, DPut.k (k := .inl (m : Int)) hfk (small_lt (by omega)), ?_⟩
          have k2 : Kp [fA, fB] H' (upd H' fB (.dK (putK fk (.inl (m : Int)) (.str y)))) := Kp.put (by simp)
          have kB2 : Kp [fB] H' (upd H' fB (.dK (putK fk (.inl (m : Int)) (.str y)))) := Kp.put (by simp)
          have mB : ∀ b ∈ [fB], Mut (H' b) := fun b hb => by rw [List.mem_singleton.mp hb]; exact mut_dK hfk
          have hB2 : upd H' fB (.dK (putK fk (.inl (m : Int)) (.str y))) fB = some (.dK (putK fk (.inl (m : Int)) (.str y))) := upd_same
          have hA2 : upd H' fB (.dK (putK fk (.inl (m : Int)) (.str y))) fA = some (.lst acc) := by rw [upd_ne nAB]; exact hacc
          generalize upd H' fB (.dK (putK fk (.inl (m : Int)) (.str y))) = H2 at k2 kB2 hB2 hA2 ⊢
          have kH2 : Kp [] H H2 := kH.base kB2 (fun x hx => by rw [List.mem_singleton.mp hx]; exact hBH)
          refine ⟨_, rfl, .inl ⟨rfl, acc, .of hA2⟩, _, rfl, _, rfl, p, _, dx, _, _, rfl, kH2 _ _ e1 (by simp), T.c_House, T.n_House_files, rfl, ?_⟩
          refine ⟨_, rfl, t, _, 1, .int m, rfl, rfl, sqT_ext ht kH2, rfl, d2, .ref u, rfl, hv3 ▸ DGet.k (k := .inl (m : Int)) (kH2 _ _ e3 (by simp)), by show 2 ≤ sizeLine; decide, fun t2 ht2 => ?_⟩
          refine ⟨fA, acc, .ref t2, rfl, rfl, by rw [upd_ne (ne_of_none hA2 ht2)]; exact hA2, accl, ?_⟩
          refine hrow (.fil d.1 d.2.1 d.2.2) u H2 (rowOf_file hy hx e hd) hA2 k2 (rows_kp pr kB2 mB) (sqT_ext hu kH2) _ hB2 (fun n => ?_) (Nat.le_trans (length_putK _ _ _) (by omega)) t2 ht2 _ _
          rw [valV_put, first_snoc hy, hx, fi n]
          by_cases hnm : m = n
          · subst hnm
            rw [if_pos rfl, e, if_pos rfl]
            rfl
          · rw [if_neg (fun z => hnm (by have z2 : (n : Int) = (m : Int) := Sum.inl.inj z; omega)), if_neg (fun z => hnm (by cases Option.some.inj z; rfl)), Option.or_none]
    · obtain ⟨kp, acc, fk, a, b, rfl, hacc, hfk, pr, fi, fkl⟩ := e
      have kH : Kp [] H H' := kHs.base kp freshAB
      have hp : H' p = some (.ins (He.ga K "House") dx (hsF d1 d2 r)) := kH _ _ e1 (by simp)
      have np : fA ≠ p := fun z => by rw [z, hp] at hacc; cases hacc
      refine ⟨_, rfl, _, rfl, p, _, dx, _, rfl, hp, T.c_House, T.n_House_rows, (by show (3 : Nat) < 1000; decide), ?_⟩
      have k2 : Kp [p] H' (upd H' p (.ins (He.ga K "House") dx (putF "rows" (.ref fA) (hsF d1 d2 r)))) := Kp.put (List.mem_singleton.mpr rfl)
      have m2 : ∀ b ∈ [p], Mut (H' b) := fun b hb => by rw [List.mem_singleton.mp hb, hp]; trivial
      rw [List.length_map, show ys.length = (TKP.rowsOf h ys).length by unfold TKP.rowsOf; rw [List.length_map], List.take_length] at pr
      exact q _ dx fA ys acc ((Kp.of kH [p]).trans k2) (by rw [upd_same] <;> rfl) hys hso (by rw [upd_ne np]; exact hacc) hA (rows_kp pr k2 m2)
end
end TarK

namespace TarK
open PySem PySem.Spec PyProof.Rows L2 LamX NdefX
/-! ### a copy -/
/-- a house with its entries -/
def RowsOf (K : PySem.W.Frag) (H0 H : Hp) (p d1 d2 : Addr) (h : TKP.Hs) (ys : List Str) : Prop := ∃ dx r xs, (∀ zs, H0 r ≠ some (.lst zs)) ∧ H p = some (.ins (He.ga K "House") dx (hsF d1 d2 r)) ∧ H r = some (.lst xs) ∧ Paired (RowAt K H) (TKP.rowsOf h ys) xs
def spCopied (K : PySem.W.Frag) : Sp := fun vs H Q _ => ∃ (p d1 d2 : Addr) (h : TKP.Hs), vs = [.ref p] ∧ HouseAt K H p d1 d2 h ∧ h.st.length < 10000 ∧
  ∀ H' p' e1 e2 ys, Kp [] H H' → H e1 = none → H e2 = none → HouseAt K H' p' e1 e2 h → RowsOf K H H' p' e1 e2 h ys → ys.Perm (h.st.map (·.1)) → sortedS ys = true → Q (.ref p') H'
theorem sc_copied : FnScope ["self", "made"] ["self"] (defScope s_copied) := ⟨rfl, rfl, rfl, by decide +kernel, rfl, by decide +kernel, by decide +kernel⟩
theorem nil_ok : HsOk TKP.nil := ⟨List.nodup_nil, fun p i h => by cases h⟩
theorem new_house {K : PySem.W.Frag} {E : XK} {H : Hp} {Q : VK} {x dx : Addr} (hx : H x = none) (hdx : H dx = none) (ne : dx ≠ x) (q : ∀ H' d1 d2, Kp [] H H' → HouseAt K H' x d1 d2 TKP.nil → H d1 = none → H d2 = none → Q .non H') :
    spHInit K [.ref x] (upd (upd H dx (.own x)) x (.ins (He.ga K "House") dx [])) Q E := by
  refine ⟨x, dx, rfl, upd_same, fun H1 d1 d2 r k h0 h1 h2 n hn1 hn2 => ?_⟩
  have k0 : Kp [] H (upd (upd H dx (.own x)) x (.ins (He.ga K "House") dx [])) := (Kp.new hdx).trans (Kp.new (by rw [upd_ne (Ne.symm ne)]; exact hx))
  exact q H1 d1 d2 (k0.base k fun z hz => by rw [List.mem_singleton.mp hz]; exact hx) ⟨⟨dx, r, h0⟩, ⟨[], h1, .nil⟩, ⟨[], h2, rfl, fun i d h => by cases h⟩, n, nil_ok⟩ (k0.isNone hn1 (by simp)) (k0.isNone hn2 (by simp))
section
variable {P : Program} {w : World} {K : PySem.W.Frag} {mg : Str → Option Value} {base : Heap}
theorem ok_copied (T : TF K mg) : FR P w K mg base 3 (He.ma K (He.ga K "House") "copied") (spCopied K) := by
  have G1 := ok_house_init (P := P) (w := w) (base := base) T
  have G2 := ok_settle (P := P) (w := w) (base := base) T
  refine okR T.fd_copied sc_copied (fun _ _ _ _ _ _ _ us hl => match us, hl with | [_], _ => rfl) (fun vs H Q E h => ?_) (fun cdv A outer s H vs Q E hr h => ?_)
  · obtain ⟨p, d1, d2, h, rfl, _⟩ := h
    rfl
  · obtain ⟨p, d1, d2, h, rfl, ha, hl, q⟩ := h
    obtain ⟨⟨dx, r, e1⟩, ⟨kvs, e2, st⟩, ⟨fvs, e3, f⟩, n, o⟩ := id ha
    refine ⟨_, PSs.nox <| pss_cons (ps_set (i := 1) sc_copied.nd rfl (.inl rfl) (pe_makeR0 T.m_House G1 (hr.mono (by decide)) (by rfl) T.g_House passL))
      (pss_cons (ps_fld (pv 1) (pe_callTy call_dictD (by rfl) T.f_dict boot_dict (pa_cons (pe_fld (pv 0) rfl) pa_nil)) rfl)
      (pss_cons (ps_fld (pv 1) (pe_callTy call_dictD (by rfl) T.f_dict boot_dict (pa_cons (pe_fld (pv 0) rfl) pa_nil)) rfl)
      (pss_cons (ps_expr (pe_methR0 (pv 1) T.c_House T.h_House_settle (G2.mono (by decide)) hr passL))
      (pss_one (ps_ret (pv 1)))))), ?_⟩
    refine fun x dx0 nx ndx ne0 => new_house nx ndx ne0 fun H1 c1 c2 k1 hx nc1 nc2 => ⟨rfl, ?_⟩
    obtain ⟨⟨dx', r', f0⟩, _, _, _, _⟩ := hx
    refine ⟨_, rfl, p, _, dx, _, _, rfl, k1 _ _ e1 (by simp), T.c_House, T.n_House_standing, rfl, d1, kvs, rfl, .inl (k1 _ _ e2 (by simp)), fun b1 hb1 => ?_⟩
    have n1 : x ≠ b1 := ne_of_none f0 hb1
    refine ⟨_, rfl, x, _, dx', _, rfl, by rw [upd_ne n1]; exact f0, T.c_House, T.n_House_standing, (by show (3 : Nat) < 1000; decide), ?_⟩
    have k2 : Kp [x] H1 (upd (upd H1 b1 (.dK kvs)) x (.ins (He.ga K "House") dx' (putF "standing" (.ref b1) (hsF c1 c2 r')))) := (Kp.new hb1).trans (Kp.put (List.mem_singleton.mpr rfl))
    have x2 : upd (upd H1 b1 (.dK kvs)) x (.ins (He.ga K "House") dx' (putF "standing" (.ref b1) (hsF c1 c2 r'))) x = some (.ins (He.ga K "House") dx' (hsF b1 c2 r')) := by rw [upd_same] <;> rfl
    have y2 : upd (upd H1 b1 (.dK kvs)) x (.ins (He.ga K "House") dx' (putF "standing" (.ref b1) (hsF c1 c2 r'))) b1 = some (.dK kvs) := by rw [upd_ne (Ne.symm n1), upd_same]
    generalize upd (upd H1 b1 (.dK kvs)) x (.ins (He.ga K "House") dx' (putF "standing" (.ref b1) (hsF c1 c2 r'))) = H2 at k2 x2 y2 ⊢
    have kx : ∀ z ∈ [x], H z = none := fun z hz => by rw [List.mem_singleton.mp hz]; exact nx
    have kH2 : Kp [] H H2 := k1.base k2 kx
    refine ⟨_, rfl, p, _, dx, _, _, rfl, kH2 _ _ e1 (by simp), T.c_House, T.n_House_files, rfl, d2, fvs, rfl, .inl (kH2 _ _ e3 (by simp)), fun b2 hb2 => ?_⟩
    have n2 : x ≠ b2 := ne_of_none x2 hb2
    have n12 : b1 ≠ b2 := ne_of_none y2 hb2
    refine ⟨_, rfl, x, _, dx', _, rfl, by rw [upd_ne n2]; exact x2, T.c_House, T.n_House_files, (by show (3 : Nat) < 1000; decide), ?_⟩
    have k3 : Kp [x] H2 (upd (upd H2 b2 (.dK fvs)) x (.ins (He.ga K "House") dx' (putF "files" (.ref b2) (hsF b1 c2 r')))) := (Kp.new hb2).trans (Kp.put (List.mem_singleton.mpr rfl))
    have x3 : upd (upd H2 b2 (.dK fvs)) x (.ins (He.ga K "House") dx' (putF "files" (.ref b2) (hsF b1 c2 r'))) x = some (.ins (He.ga K "House") dx' (hsF b1 b2 r')) := by rw [upd_same] <;> rfl
    have y3 : upd (upd H2 b2 (.dK fvs)) x (.ins (He.ga K "House") dx' (putF "files" (.ref b2) (hsF b1 c2 r'))) b1 = some (.dK kvs) := by rw [upd_ne (Ne.symm n1), upd_ne n12]; exact y2
    have z3 : upd (upd H2 b2 (.dK fvs)) x (.ins (He.ga K "House") dx' (putF "files" (.ref b2) (hsF b1 c2 r'))) b2 = some (.dK fvs) := by rw [upd_ne (Ne.symm n2), upd_same]
    generalize upd (upd H2 b2 (.dK fvs)) x (.ins (He.ga K "House") dx' (putF "files" (.ref b2) (hsF b1 c2 r'))) = H3 at k3 x3 y3 z3 ⊢
    have kH3 : Kp [] H H3 := kH2.base k3 kx
    have m0 : ∀ b ∈ ([] : List Addr), Mut (H b) := fun b hb => absurd hb (by simp)
    refine ⟨_, rfl, x, dx', _, rfl, x3, rfl, ?_⟩
    refine ⟨x, b1, b2, h, rfl, ⟨⟨dx', r', x3⟩, ⟨kvs, y3, st.kp kH3 m0⟩, ⟨fvs, z3, f.kp kH3 m0⟩, n12, o⟩, hl, fun H4 dx4 r4 ys xs k4 x4 hys hso hr4 fr4 hp4 => ?_⟩
    have kH4 : Kp [] H H4 := kH3.base k4 kx
    refine ⟨_, rfl, ?_⟩
    refine q H4 x b1 b2 ys kH4 (k1.isNone hb1 (by simp)) (kH2.isNone hb2 (by simp)) ⟨⟨dx4, r4, x4⟩, ⟨kvs, k4 _ _ y3 (by simpa using Ne.symm n1), st.kp kH4 m0⟩, ⟨fvs, k4 _ _ z3 (by simpa using Ne.symm n2), f.kp kH4 m0⟩, n12, o⟩ ⟨dx4, r4, xs, fun zs e => (by rw [kH3 _ _ e (by simp)] at fr4; cases fr4), x4, hr4, hp4⟩ hys hso
end
end TarK

namespace TarK
open PySem PySem.Spec PyProof.Rows L2 LamX NdefX
/-! ### Refused -/
def xdF (i : Int) (z : Str) : List (Str × V) := [(("word" : PySem.Str), V.str z), (("index" : PySem.Str), V.int i)]
def spRefIn (K : PySem.W.Frag) : SpK := fun vs zs H Q _ => ∃ (x : Addr) (i : Int) (z : Str), zs = [] ∧ vs = [.ref x, .int i, .str z] ∧ H x = some (exo x (He.ga K "Refused") none) ∧
  ∀ H' d, Kp [x] H H' → H d = none → d ≠ x → H' x = some (exo x (He.ga K "Refused") (some d)) → H' d = some (exd d (xdF i z)) → Q .non H'
def spRef (K : PySem.W.Frag) : Sp := fun vs H Q E => spRefIn K vs [] H Q E
abbrev nRef : List Str := ["self", "index", "word", "__class__"]
abbrev psRef : List Str := ["self", "index", "word"]
theorem sn_ref : NScope nRef psRef ["__class__"] (defScope s_ref_init) := nscope_by (by decide +kernel)
section
variable {w : World} {K : PySem.W.Frag} {mg : Str → Option Value} {base : Heap}
theorem ok_ref_init (T : TF K mg) : FnR Pg w K mg base (L2.CX Pg w) 1 (He.ma K (He.ga K "Refused") "__init__") (spRef K) := by
  have R : FnRK Pg w K mg base (L2.CX Pg w) 1 (He.ma K (He.ga K "Refused") "__init__") [] (spRefIn K) := by
    refine fnRK_plain (n := 3) (ps := psRef) T.s_ref_init sn_ref rfl (fun kV doc pm an ct us ws h1 h2 => match us, ws, h1, h2 with | [_, _, _], [], _, _ => rfl) (fun vs zs H Q E h => ?_) (fun A outer s H vs zs Q E hr h => ?_)
    · obtain ⟨x, i, z, rfl, rfl, _⟩ := h
      exact ⟨rfl, rfl⟩
    · obtain ⟨x, i, z, rfl, rfl, hx, q⟩ := h
      refine ⟨_, pas_supx T.s_ref_init T.rt T.f_super rfl rfl rfl rfl rfl rfl top_super (pa_cons pe_str pa_nil)
        (pas_of (pss_cons (ps_rst T.rt T.n_Refused_index (pv 0) (pv 1)) (pss_one (ps_rst T.rt T.n_Refused_word (pv 0) (pv 2))))), ?_⟩
      refine ⟨x, rfl, hx, by show (1 : Nat) ≤ 1000; decide, hx, ?_⟩
      refine ⟨_, rfl, _, rfl, x, rfl, .inl ⟨hx, fun d hd ne => ?_⟩⟩
      have k1 : Kp [x] H (upd (upd H d (exd d [("index", .int i)])) x (exo x (He.ga K "Refused") (some d))) := (Kp.new hd).trans (Kp.put (List.mem_singleton.mpr rfl))
      have x1 : upd (upd H d (exd d [("index", .int i)])) x (exo x (He.ga K "Refused") (some d)) x = some (exo x (He.ga K "Refused") (some d)) := upd_same
      have d1 : upd (upd H d (exd d [("index", .int i)])) x (exo x (He.ga K "Refused") (some d)) d = some (exd d [("index", .int i)]) := by rw [upd_ne ne, upd_same]
      generalize upd (upd H d (exd d [("index", .int i)])) x (exo x (He.ga K "Refused") (some d)) = H1 at k1 x1 d1 ⊢
      refine ⟨_, rfl, _, rfl, x, rfl, .inr ⟨d, _, x1, d1, by show (1 : Nat) ≤ 900; decide, ?_⟩⟩
      refine q _ d (fun b o e n => ?_) hd ne (by rw [upd_ne (Ne.symm ne)]; exact x1) upd_same
      rw [upd_ne (ne_of_none e hd)]
      exact k1 b o e n
  exact fun A outer s H us vs Q E hr e0 r h => R A outer s H us [] vs [] Q E hr e0 r .nil h
end
/-! ### members -/
def MemIn (K : PySem.W.Frag) (H : Hp) (a : Addr) : TKP.Mem → Prop
  | .file n d mo t => NmOk n ∧ StOk mo t ∧ ((∃ dx k, H a = some (.ins (He.ga K "File") dx (fileF n mo t k d))) ∨
      ∃ (dx k : Addr) (size : Int) (p : Addr) (ps : List (Int × Array UInt8)) (ts : List V), H a = some (.ins (He.ga K "Sparse") dx (spF n mo t k size p)) ∧ SqT K H p ts ∧ Paired (PieceAt K H) ps ts ∧ PcOk size ps ∧ d = sparseC size ps)
  | .dir n mo t => NmOk n ∧ StOk mo t ∧ ∃ dx k, H a = some (.ins (He.ga K "Directory") dx (memF n mo t k))
  | .sym n g mo t => NmOk n ∧ NmOk g ∧ StOk mo t ∧ ∃ dx k, H a = some (.ins (He.ga K "Symlink") dx (tgtF n mo t k g))
  | .link n g => NmOk n ∧ NmOk g ∧ ∃ dx k mo t, H a = some (.ins (He.ga K "Link") dx (tgtF n mo t k g))
def MemAt (K : PySem.W.Frag) (H : Hp) (m : TKP.Mem) (v : V) : Prop := ∃ a, v = .ref a ∧ MemIn K H a m
theorem MemIn.ext {K : PySem.W.Frag} {H H' : Hp} {a : Addr} {m : TKP.Mem} (h : MemIn K H a m) (k : Kp [] H H') : MemIn K H' a m := by
  have kk : ∀ {b : Addr} {o : HO}, H b = some o → H' b = some o := fun e => k _ _ e (by simp)
  cases m with
  | file n d mo t =>
    obtain ⟨h1, h2, h3⟩ := h
    refine ⟨h1, h2, ?_⟩
    rcases h3 with ⟨dx, k0, e⟩ | ⟨dx, k0, size, p, ps, ts, e, hp, pr, ok, ed⟩
    · exact .inl ⟨dx, k0, kk e⟩
    · exact .inr ⟨dx, k0, size, p, ps, ts, kk e, sqT_ext hp k, piece_kp pr k (fun b hb => absurd hb (by simp)), ok, ed⟩
  | dir n mo t =>
    obtain ⟨h1, h2, dx, k0, e⟩ := h
    exact ⟨h1, h2, dx, k0, kk e⟩
  | sym n g mo t =>
    obtain ⟨h1, h2, h3, dx, k0, e⟩ := h
    exact ⟨h1, h2, h3, dx, k0, kk e⟩
  | link n g =>
    obtain ⟨h1, h2, dx, k0, mo, t, e⟩ := h
    exact ⟨h1, h2, dx, k0, mo, t, kk e⟩
theorem MemAt.ext {K : PySem.W.Frag} {H H' : Hp} {m : TKP.Mem} {v : V} (h : MemAt K H m v) (k : Kp [] H H') : MemAt K H' m v := let ⟨a, e, q⟩ := h; ⟨a, e, q.ext k⟩
/-- what every member has -/
def kdM (H : Hp) (K : PySem.W.Frag) (a : Addr) : TKP.Mem → Str → Prop
  | .file .., kd => kd = "file" ∨ kd = "sparse"
  | .dir .., kd => kd = "directory"
  | .sym .., kd => kd = "symlink"
  | .link .., kd => kd = "link"
structure MView (K : PySem.W.Frag) (H : Hp) (a : Addr) (m : TKP.Mem) (C dx : Addr) (fs : List (Str × V)) (kd : Str) : Prop where
  ob : H a = some (.ins C dx fs)
  mc : MemC K C kd
  nm : fs.lookup ("name" : PySem.Str) = some (V.str m.name)
  nk : fs.lookup ("KIND" : PySem.Str) = none
  kk : kdM H K a m kd
  ok : NmOk m.name
section
variable {K : PySem.W.Frag} {mg : Str → Option Value}
theorem MemIn.view (T : TF K mg) {H : Hp} {a : Addr} {m : TKP.Mem} (h : MemIn K H a m) : ∃ C dx fs kd, MView K H a m C dx fs kd := by
  cases m with
  | file n d mo t =>
    obtain ⟨h1, h2, h3⟩ := h
    rcases h3 with ⟨dx, k0, e⟩ | ⟨dx, k0, size, p, ps, ts, e, _⟩
    · exact ⟨_, dx, _, _, e, memC_File T, rfl, rfl, .inl rfl, h1⟩
    · exact ⟨_, dx, _, _, e, memC_Sparse T, rfl, rfl, .inr rfl, h1⟩
  | dir n mo t =>
    obtain ⟨h1, h2, dx, k0, e⟩ := h
    exact ⟨_, dx, _, _, e, memC_Directory T, rfl, rfl, rfl, h1⟩
  | sym n g mo t =>
    obtain ⟨h1, h2, h3, dx, k0, e⟩ := h
    exact ⟨_, dx, _, _, e, memC_Symlink T, rfl, rfl, rfl, h1⟩
  | link n g =>
    obtain ⟨h1, h2, dx, k0, mo, t, e⟩ := h
    exact ⟨_, dx, _, _, e, memC_Link T, rfl, rfl, rfl, h1⟩
end
/-! ### refusal -/
def tgOf : TKP.Mem → Str
  | .link _ g => g
  | _ => ""
def spRefAt (K : PySem.W.Frag) : Sp := fun vs H Q _ => ∃ (p d1 d2 a : Addr) (h : TKP.Hs) (m : TKP.Mem), vs = [.ref p, .str m.name, .ref a, .str (tgOf m)] ∧ HouseAt K H p d1 d2 h ∧ MemIn K H a m ∧ ∀ H', Kp [] H H' → Q (.str (TKP.refusalAt h m)) H'
theorem sc_refusal_at : FnScope ["house", "path", "member", "target", "standing"] ["house", "path", "member", "target"] (defScope s_refusal_at) := ⟨rfl, rfl, rfl, by decide +kernel, rfl, by decide +kernel, by decide +kernel⟩
theorem kind_cases (h : TKP.Hs) (q : Str) : TKP.kindAt h q = "absent" ∨ TKP.kindAt h q = "directory" ∨ TKP.kindAt h q = "file" ∨ TKP.kindAt h q = "symlink" := by
  unfold TKP.kindAt
  cases TKP.look h.st q with
  | none => exact .inl rfl
  | some x => cases x with
    | fil i => exact .inr (.inr (.inl rfl))
    | dir m t => exact .inr (.inl rfl)
    | sym g m t => exact .inr (.inr (.inr rfl))
theorem refAt_dir {h : TKP.Hs} {n : Str} {m t : Int} : TKP.refusalAt h (.dir n m t) = if TKP.kindAt h (TKP.Mem.dir n m t).name = "file" ∨ TKP.kindAt h (TKP.Mem.dir n m t).name = "symlink" then ("occupied" : PySem.Str) else ("" : PySem.Str) := rfl
theorem refAt_file {h : TKP.Hs} {n : Str} {d : Array UInt8} {m t : Int} : TKP.refusalAt h (.file n d m t) = if TKP.kindAt h (TKP.Mem.file n d m t).name = "directory" then ("directory" : PySem.Str) else ("" : PySem.Str) := rfl
theorem refAt_sym {h : TKP.Hs} {n g : Str} {m t : Int} : TKP.refusalAt h (.sym n g m t) = if TKP.kindAt h (TKP.Mem.sym n g m t).name = "directory" then ("directory" : PySem.Str) else ("" : PySem.Str) := rfl
theorem refAt_link {h : TKP.Hs} {n g : Str} : TKP.refusalAt h (.link n g) = if TKP.kindAt h (TKP.Mem.link n g).name = "directory" then ("directory" : PySem.Str) else if TKP.kindAt h g = "file" then ("" : PySem.Str) else ("target" : PySem.Str) := rfl
theorem eq_dec {x y : Str} (h : x = y) : V.bl (decide (V.str x = V.str y)) = V.bl true := by rw [decide_eq_true (by rw [h])]
theorem ne_dec {x y : Str} (h : x ≠ y) : V.bl (decide (V.str x = V.str y)) = V.bl false := by rw [decide_eq_false (fun z => h (V.str.inj z))]
section
variable {P : Program} {w : World} {K : PySem.W.Frag} {mg : Str → Option Value} {base : Heap}
theorem ok_refusal_at (T : TF K mg) : FR P w K mg base 3 (He.ga K "refusal_at") (spRefAt K) := by
  have G := ok_kind_at (P := P) (w := w) (base := base) T
  refine okR T.fd_refusal_at sc_refusal_at (fun _ _ _ _ _ _ _ us hl => match us, hl with | [_, _, _, _], _ => rfl) (fun vs H Q E h => ?_) (fun cdv A outer s H vs Q E hr h => ?_)
  · obtain ⟨p, d1, d2, a, h, m, rfl, _⟩ := h
    rfl
  · obtain ⟨p, d1, d2, a, h, m, rfl, ha, hm, q⟩ := h
    obtain ⟨⟨dx, r, e1⟩, _, _, _, _⟩ := id ha
    obtain ⟨C, cx, fs, kd, mv⟩ := hm.view T
    obtain ⟨ku, kc⟩ := mv.mc.k
    refine ⟨_, pss_cons (ps_set (i := 4) sc_refusal_at.nd rfl (.inl rfl) (pe_methR (pv 0) T.c_House T.h_House_kind_at G hr passL (pa_cons (pv 1) pa_nil)))
      (pss_cons (ps_if (pt_cmpR op_eq (pe_con (pv 2) rfl) pe_str (nomark _))
          (pss_one (ps_ret (pe_ifExp (pt_cmpR op_in_seq (pv 4) (pe_tup (pa_cons pe_str (pa_cons pe_str pa_nil))) (by rfl)) pe_str pe_str))) pss_nil)
      (pss_cons (ps_if (pt_cmpR op_eq (pv 4) pe_str (nomark _)) (pss_one (ps_ret pe_str)) pss_nil)
      (pss_cons (ps_if (pw_and (pt_cmpR op_eq (pe_con (pv 2) rfl) pe_str (nomark _)) (pw_and1 (pt_cmpR op_ne (pe_methR (pv 0) T.c_House T.h_House_kind_at G hr passL (pa_cons (pv 3) pa_nil)) pe_str (nomark _)))).pt
          (pss_one (ps_ret pe_str)) pss_nil)
      (pss_one (ps_ret pe_str))))), ?_⟩
    refine ⟨_, rfl, p, dx, _, rfl, e1, rfl, _, rfl, p, d1, d2, h, m.name, rfl, ha, ?_⟩
    cases m with
    | dir n mo t =>
      have ek : kd = "directory" := mv.kk
      subst ek
      refine ⟨_, rfl, a, C, cx, fs, _, ku, rfl, mv.ob, mv.mc.c, kc, mv.nk, rfl, true, eq_dec rfl, ?_⟩
      refine ⟨_, rfl, by show 2 ≤ sizeLine; decide, fun t2 ht2 => ?_⟩
      have q2 := q _ (Kp.new (o := .tup [.str "file", .str "symlink"]) ht2)
      rw [refAt_dir] at q2
      rcases kind_cases h (TKP.Mem.dir n mo t).name with e | e | e | e
      · rw [e]
        rw [e] at q2
        exact ⟨t2, _, rfl, .inr (.of upd_same), rfl, rfl, false, rfl, q2⟩
      · rw [e]
        rw [e] at q2
        exact ⟨t2, _, rfl, .inr (.of upd_same), rfl, rfl, false, rfl, q2⟩
      · rw [e]
        rw [e] at q2
        exact ⟨t2, _, rfl, .inr (.of upd_same), rfl, rfl, true, rfl, q2⟩
      · rw [e]
        rw [e] at q2
        exact ⟨t2, _, rfl, .inr (.of upd_same), rfl, rfl, true, rfl, q2⟩
    | file n d mo t =>
      have ek : kd ≠ "directory" ∧ kd ≠ "link" := by
        rcases (show kd = "file" ∨ kd = "sparse" from mv.kk) with e | e
        · rw [e]; decide
        · rw [e]; decide
      refine ⟨_, rfl, a, C, cx, fs, _, ku, rfl, mv.ob, mv.mc.c, kc, mv.nk, ?_, false, ne_dec ek.1, ?_⟩
      · rfl
      have q2 := q _ (Kp.refl _ _)
      rw [refAt_file] at q2
      by_cases e : TKP.kindAt h (TKP.Mem.file n d mo t).name = "directory"
      · rw [e]
        rw [if_pos e] at q2
        exact ⟨_, rfl, rfl, true, eq_dec rfl, q2⟩
      · rw [if_neg e] at q2
        exact ⟨_, rfl, rfl, false, ne_dec e, _, rfl, a, C, cx, fs, _, ku, rfl, mv.ob, mv.mc.c, kc, mv.nk, rfl, false, ne_dec ek.2, q2⟩
    | sym n g mo t =>
      have ek : kd = "symlink" := mv.kk
      subst ek
      refine ⟨_, rfl, a, C, cx, fs, _, ku, rfl, mv.ob, mv.mc.c, kc, mv.nk, rfl, false, ne_dec (by decide), ?_⟩
      have q2 := q _ (Kp.refl _ _)
      rw [refAt_sym] at q2
      by_cases e : TKP.kindAt h (TKP.Mem.sym n g mo t).name = "directory"
      · rw [e]
        rw [if_pos e] at q2
        exact ⟨_, rfl, rfl, true, eq_dec rfl, q2⟩
      · rw [if_neg e] at q2
        exact ⟨_, rfl, rfl, false, ne_dec e, _, rfl, a, C, cx, fs, _, ku, rfl, mv.ob, mv.mc.c, kc, mv.nk, rfl, false, ne_dec (by decide), q2⟩
    | link n g =>
      have ek : kd = "link" := mv.kk
      subst ek
      refine ⟨_, rfl, a, C, cx, fs, _, ku, rfl, mv.ob, mv.mc.c, kc, mv.nk, rfl, false, ne_dec (by decide), ?_⟩
      have q2 := q _ (Kp.refl _ _)
      rw [refAt_link] at q2
      by_cases e : TKP.kindAt h (TKP.Mem.link n g).name = "directory"
      · rw [e]
        rw [if_pos e] at q2
        exact ⟨_, rfl, rfl, true, eq_dec rfl, q2⟩
      · rw [if_neg e] at q2
        refine ⟨_, rfl, rfl, false, ne_dec e, _, rfl, a, C, cx, fs, _, ku, rfl, mv.ob, mv.mc.c, kc, mv.nk, rfl, true, eq_dec rfl, ?_⟩
        refine ⟨_, rfl, p, dx, _, rfl, e1, rfl, _, rfl, p, d1, d2, h, g, rfl, ha, rfl, ?_⟩
        by_cases e2 : TKP.kindAt h g = "file"
        · rw [if_pos e2] at q2
          rw [e2]
          exact ⟨false, rfl, q2⟩
        · rw [if_neg e2] at q2
          exact ⟨true, congrArg V.bl (by rw [decide_eq_false (fun z => e2 (V.str.inj z))]; rfl), q2⟩
end
end TarK

namespace TarK
open PySem PySem.Spec PyProof.Rows L2 LamX NdefX
def spRefusal (K : PySem.W.Frag) : Sp := fun vs H Q _ => ∃ (p d1 d2 a : Addr) (h : TKP.Hs) (m : TKP.Mem), vs = [.ref p, .ref a] ∧ HouseAt K H p d1 d2 h ∧ MemIn K H a m ∧ ∀ H', Kp [] H H' → Q (.str (TKP.refusal TX h m)) H'
theorem sc_refusal : FnScope ["house", "member", "path"] ["house", "member"] (defScope s_refusal) := ⟨rfl, rfl, rfl, by decide +kernel, rfl, by decide +kernel, by decide +kernel⟩
section
variable {P : Program} {w : World} {K : PySem.W.Frag} {mg : Str → Option Value} {base : Heap}
theorem ok_refusal (T : TF K mg) : FR P w K mg base 4 (He.ga K "refusal") (spRefusal K) := by
  have G1 := ok_is_path (P := P) (w := w) (base := base) T
  have G2 := ok_above (P := P) (w := w) (base := base) T
  have G3 := ok_kind_at (P := P) (w := w) (base := base) T
  have G4 := ok_refusal_at (P := P) (w := w) (base := base) T
  refine okR T.fd_refusal sc_refusal (fun _ _ _ _ _ _ _ us hl => match us, hl with | [_, _], _ => rfl) (fun vs H Q E h => ?_) (fun cdv A outer s H vs Q E hr h => ?_)
  · obtain ⟨p, d1, d2, a, h, m, rfl, _⟩ := h
    rfl
  · obtain ⟨p, d1, d2, a, h, m, rfl, ha, hm, q⟩ := h
    obtain ⟨C, cx, fs, kd, mv⟩ := hm.view T
    obtain ⟨ku, kc⟩ := mv.mc.k
    refine ⟨_, pss_cons (ps_if (pt_not (pt_val (pe_callR (G1.mono (by decide)) hr T.g_is_path T.k_is_path (by rfl) passL (pa_cons (pe_fld (pv 1) rfl) pa_nil)))) (pss_one (ps_ret pe_str)) pss_nil)
      (pss_cons (ps_if (pt_not (pt_val (pe_callB (cr_all rfl) (by rfl) T.f_all boot_all (pa_cons
          (pe_lc (own := [("path", 2)]) (g := gName 2) (tt := tYes) rfl sc_refusal.nd (pi_list (pe_callR (G2.mono (by decide)) hr T.g_above T.k_above (by rfl) passL (pa_cons (pe_fld (pv 1) rfl) pa_nil)))
            (blkOk_by (N := ["house", "member", "path"]) (sc := defScope s_refusal) (by decide +kernel)) (fun _ _ _ _ _ => pg_name (i := 2) sc_refusal.nd rfl (.inl rfl)) (fun _ _ _ _ _ => pts_nil)
            (fun _ _ _ _ _ => pe_cmpR (op_inK (K := K) rfl) (pe_methR (pv 0) T.c_House T.h_House_kind_at (G3.mono (by decide)) hr passL (pa_cons (pv 2) pa_nil)) (pe_tup (pa_cons pe_str (pa_cons pe_str pa_nil))) (by rfl))) pa_nil)))) (pss_one (ps_ret pe_str)) pss_nil)
      (pss_one (ps_ret (pe_callR G4 hr T.g_refusal_at T.k_refusal_at (by rfl) passL (pa_cons (pv 0) (pa_cons (pe_fld (pv 1) rfl) (pa_cons (pv 1) (pa_cons
          (pe_ifExp (pt_cmpR op_eq (pe_con (pv 1) rfl) pe_str (nomark _)) (pe_fld (pv 1) rfl) pe_str) pa_nil)))))))), ?_⟩
    have er : TKP.refusal TX h m = if isPB m.name = false then ("name" : PySem.Str) else if TKP.upOk h (abvB m.name) = false then ("parent" : PySem.Str) else TKP.refusalAt h m := rfl
    rw [er] at q
    obtain ⟨⟨dx, r, e1⟩, _, _, _, _⟩ := id ha
    refine ⟨_, rfl, a, C, cx, fs, _, rfl, mv.ob, mv.mc.c, mv.mc.n1, mv.nm, m.name, rfl, mv.ok, fun H1 k1 => ⟨isPB m.name, rfl, ?_⟩⟩
    cases e : isPB m.name with
    | false =>
      rw [if_pos e] at q
      exact q _ k1
    | true =>
      rw [if_neg (by rw [e]; decide)] at q
      refine ⟨_, rfl, a, C, cx, fs, _, rfl, k1 _ _ mv.ob (by simp), mv.mc.c, mv.mc.n1, mv.nm, m.name, rfl, mv.ok.2.1, fun p2 H2 k2 hn2 hp2 => ⟨p2, rfl, ⟨_, .of hp2⟩, fun D hD => ?_⟩⟩
      have hlen : (abvB m.name).length ≤ sizeLine := by
        unfold abvB
        rw [List.length_map, List.length_range]
        have := splB_len m.name
        have := mv.ok.2.1
        exact Nat.le_trans (show (splB m.name).length - 1 ≤ 250 by omega) (by decide)
      refine lc_mapK (xs := abvB m.name) (walk_list (K := K) (a := p2) (xs := (abvB m.name).map V.str)) (List.length_map _) V.str (fun c => V.bl (decide (TKP.kindAt h c = "absent") || decide (TKP.kindAt h c = "directory"))) (yl (K := K)) hlen hD
        (fun H3 k3 => .of (k3 _ _ hp2 (by simp))) (fun c hc H3 k3 k hk => ?_) (fun H3 k3 e3 => ?_)
      · have kk := (k1.trans k2).trans k3
        refine ⟨rfl, _, rfl, p, dx, _, rfl, kk _ _ e1 (by simp), rfl, _, rfl, p, d1, d2, h, c, rfl, ha.ext kk, by show 2 ≤ sizeLine; decide, fun t ht => ?_⟩
        refine ⟨t, _, rfl, .inr (.of upd_same), rfl, rfl, ?_⟩
        have hk2 := hk _ (Kp.new (o := .tup [.str "absent", .str "directory"]) ht)
        rcases kind_cases h c with z | z | z | z
        · rw [z] at hk2 ⊢
          exact hk2
        · rw [z] at hk2 ⊢
          exact hk2
        · rw [z] at hk2 ⊢
          exact hk2
        · rw [z] at hk2 ⊢
          exact hk2
      · have kk := (k1.trans k2).trans k3
        rw [all_bl] at e3
        refine ⟨D, _, rfl, .of e3, _, rfl, ?_⟩
        have eu : ((abvB m.name).map fun c => decide (TKP.kindAt h c = "absent") || decide (TKP.kindAt h c = "directory")).all id = TKP.upOk h (abvB m.name) := by
          rw [List.all_map]
          rfl
        rw [eu]
        cases e4 : TKP.upOk h (abvB m.name) with
        | false =>
          rw [if_pos e4] at q
          exact q _ kk
        | true =>
          rw [if_neg (by rw [e4]; decide)] at q
          refine ⟨_, rfl, _, rfl, a, C, cx, fs, _, rfl, kk _ _ mv.ob (by simp), mv.mc.c, mv.mc.n1, mv.nm, _, rfl, ?_⟩
          have fin : ∀ H4, Kp [] H3 H4 → Q (.str (TKP.refusalAt h m)) H4 := fun H4 k4 => q _ (kk.trans k4)
          refine ⟨_, rfl, a, C, cx, fs, _, ku, rfl, kk _ _ mv.ob (by simp), mv.mc.c, kc, mv.nk, rfl, ?_⟩
          by_cases el : kd = "link"
          · cases m with
            | link n g =>
              obtain ⟨h1, h2, dx2, k0, mo, t, e5⟩ := id hm
              refine ⟨true, eq_dec el, ?_⟩
              exact ⟨_, rfl, a, _, dx2, _, _, rfl, kk _ _ e5 (by simp), T.c_Link, T.n_Link_target, rfl, p, d1, d2, a, h, _, rfl, ha.ext kk, hm.ext kk, fin⟩
            | file n d mo t =>
              rcases (show kd = "file" ∨ kd = "sparse" from mv.kk) with z | z
              · rw [z] at el; exact absurd el (by decide)
              · rw [z] at el; exact absurd el (by decide)
            | dir n mo t =>
              rw [show kd = "directory" from mv.kk] at el
              exact absurd el (by decide)
            | sym n g mo t =>
              rw [show kd = "symlink" from mv.kk] at el
              exact absurd el (by decide)
          · refine ⟨false, ne_dec el, p, d1, d2, a, h, m, ?_, ha.ext kk, hm.ext kk, fin⟩
            cases m with
            | link n g => exact absurd mv.kk el
            | _ => rfl
end
end TarK

namespace TarK
open PySem PySem.Spec PyProof.Rows L2 LamX NdefX
theorem case_eq {x z : Str} {tb : TS} {tr : Str → TS} {D : Ends} {σ : L2.St} {H : Hp} (h : z = x) (q : tb D σ H) : tMCase x tb tr z D σ H := by
  unfold tMCase
  rw [if_pos h]
  exact q
theorem case_ne {x z : Str} {tb : TS} {tr : Str → TS} {D : Ends} {σ : L2.St} {H : Hp} (h : z ≠ x) (q : tr z D σ H) : tMCase x tb tr z D σ H := by
  unfold tMCase
  rw [if_neg h]
  exact q
theorem look_upOne {h : TKP.Hs} {g q : Str} {x : TKP.Th} (e : TKP.look h.st g = some x) : TKP.look (TKP.upOne h q).st g = some x := by
  unfold TKP.upOne
  by_cases z : TKP.kindAt h q = "absent"
  · rw [if_pos z]
    show TKP.look (TKP.putS h.st q (.dir 493 0)) g = some x
    rw [TKP.look_put]
    by_cases y : g = q
    · subst y
      have z2 : TKP.kdO (TKP.look h.st g) = "absent" := z
      rw [e] at z2
      cases x with
      | fil i => exact absurd (show ("file" : Str) = "absent" from z2) (by decide)
      | dir m t => exact absurd (show ("directory" : Str) = "absent" from z2) (by decide)
      | sym g m t => exact absurd (show ("symlink" : Str) = "absent" from z2) (by decide)
    · rw [if_neg y]
      exact e
  · rw [if_neg z]
    exact e
theorem look_up {g : Str} {x : TKP.Th} : ∀ {ps : List Str} {h : TKP.Hs}, TKP.look h.st g = some x → TKP.look (TKP.putUp h ps).st g = some x
  | [], _, e => e
  | q :: ps, h, e => by
    show TKP.look (TKP.putUp (TKP.upOne h q) ps).st g = some x
    exact look_up (ps := ps) (look_upOne e)
theorem putUp_snoc {h : TKP.Hs} {ps : List Str} {i : Nat} {q : Str} (e : ps[i]? = some q) : TKP.putUp h (ps.take (i + 1)) = TKP.upOne (TKP.putUp h (ps.take i)) q := by
  unfold TKP.putUp
  rw [take_snoc e, List.foldl_append]
  rfl
theorem abv_len {z : Str} (h : z.length ≤ 250) : (abvB z).length ≤ 250 := by
  unfold abvB
  rw [List.length_map, List.length_range]
  have := splB_len z
  omega
def RC (K : PySem.W.Frag) (C f : Addr) (sp : Sp) : Prop := (C = He.ga K "File" ∧ f = He.ma K (He.ga K "File") "content" ∧ sp = spFileC K) ∨ (C = He.ga K "Sparse" ∧ f = He.ma K (He.ga K "Sparse") "content" ∧ sp = spSparseC K)
def spPutAt (K : PySem.W.Frag) : Sp := fun vs H Q _ => ∃ (p d1 d2 a : Addr) (h : TKP.Hs) (m : TKP.Mem), vs = [.ref p, .str m.name, .ref a, .str (tgOf m)] ∧ HouseAt K H p d1 d2 h ∧ MemIn K H a m ∧ h.st.length < 9000 ∧ h.fl.length < 9000 ∧ (∀ n g, m = .link n g → ∃ x, TKP.look h.st g = some x) ∧
  ∀ H', Kp [d1, d2] H H' → HouseAt K H' p d1 d2 (TKP.putAt TX h m) → Q .non H'
theorem sc_put_at : FnScope ["house", "path", "member", "target", "other"] ["house", "path", "member", "target"] (defScope s_put_at) := ⟨rfl, rfl, rfl, by decide +kernel, rfl, by decide +kernel, by decide +kernel⟩
theorem MemIn.kp {K : PySem.W.Frag} {H H' : Hp} {a d1 d2 : Addr} {m : TKP.Mem} {k1 k2 : List (Key × V)} (h : MemIn K H a m) (k : Kp [d1, d2] H H') (e1 : H d1 = some (.dK k1)) (e2 : H d2 = some (.dK k2)) : MemIn K H' a m := by
  have kk : ∀ {b C dx : Addr} {fs : List (Str × V)}, H b = some (.ins C dx fs) → H' b = some (.ins C dx fs) := fun {b C dx fs} e => k _ _ e fun z => by
    rcases List.mem_cons.mp z with z | z
    · rw [z, e1] at e
      cases e
    · rw [List.mem_singleton.mp z, e2] at e
      cases e
  have mu : ∀ b ∈ [d1, d2], Mut (H b) := tup_mut (mut_dK e1) (mut_dK e2)
  cases m with
  | file n d mo t =>
    obtain ⟨h1, h2, h3⟩ := h
    refine ⟨h1, h2, ?_⟩
    rcases h3 with ⟨dx, k0, e⟩ | ⟨dx, k0, size, p, ps, ts, e, hp, pr, ok, ed⟩
    · exact .inl ⟨dx, k0, kk e⟩
    · exact .inr ⟨dx, k0, size, p, ps, ts, kk e, sqT_kp hp k mu, piece_kp pr k mu, ok, ed⟩
  | dir n mo t =>
    obtain ⟨h1, h2, dx, k0, e⟩ := h
    exact ⟨h1, h2, dx, k0, kk e⟩
  | sym n g mo t =>
    obtain ⟨h1, h2, h3, dx, k0, e⟩ := h
    exact ⟨h1, h2, h3, dx, k0, kk e⟩
  | link n g =>
    obtain ⟨h1, h2, dx, k0, mo, t, e⟩ := h
    exact ⟨h1, h2, dx, k0, mo, t, kk e⟩
section
variable {P : Program} {w : World} {K : PySem.W.Frag} {mg : Str → Option Value} {base : Heap}
theorem ok_put_at (T : TF K mg) : FR P w K mg base 3 (He.ga K "put_at") (spPutAt K) := by
  have G1 := ok_above (P := P) (w := w) (base := base) T
  have G2 := ok_kind_at (P := P) (w := w) (base := base) T
  have G3 := ok_set_thing (P := P) (w := w) (base := base) T
  have G4 := ok_share (P := P) (w := w) (base := base) T
  have G5 := ok_file_content (P := P) (w := w) (base := base) T
  have G6 := ok_sparse_content (P := P) (w := w) (base := base) T
  have hRC : ∀ C f sp, RC K C f sp → Cls K C ∧ Meth K C "content" f ∧ FnR P w K mg base (L2.CX P w) 2 f sp := fun C f sp h => by
    rcases h with ⟨rfl, rfl, rfl⟩ | ⟨rfl, rfl, rfl⟩
    · exact ⟨T.c_File, T.h_File_content, G5.mono (by decide)⟩
    · exact ⟨T.c_Sparse, T.h_Sparse_content, G6.mono (by decide)⟩
  refine okR T.fd_put_at sc_put_at (fun _ _ _ _ _ _ _ us hl => match us, hl with | [_, _, _, _], _ => rfl) (fun vs H Q E h => ?_) (fun cdv A outer s H vs Q E hr h => ?_)
  · obtain ⟨p, d1, d2, a, h, m, rfl, _⟩ := h
    rfl
  · obtain ⟨p, d1, d2, a, h, m, rfl, ha, hm, hl, hf, hlk, q⟩ := h
    refine ⟨_, PSs.nox <| pss_cons (ps_for PassesOwn.never rfl (pi_list (pe_callR (G1.mono (by decide)) hr T.g_above T.k_above (by rfl) passL (pa_cons (pv 1) pa_nil))) (pg_name (i := 4) sc_put_at.nd rfl (.inl rfl))
        (pss_one (ps_if (pt_cmpR op_eq (pe_methR (pv 0) T.c_House T.h_House_kind_at G2 hr passL (pa_cons (pv 4) pa_nil)) pe_str (nomark _))
          (pss_one (ps_expr (pe_methR (pv 0) T.c_House T.h_House_set_thing (G3.mono (by decide)) hr passL (pa_cons (pv 4) (pa_cons (pe_glob (v := .ref (He.ga K "MADE")) (by rfl) T.g_MADE rfl) pa_nil))))) pss_nil)))
      (pss_one (ps_match (pe_con (pv 2) rfl)
        (pms_case (pss_one (ps_expr (pe_methR (pv 0) T.c_House T.h_House_set_thing (G3.mono (by decide)) hr passL (pa_cons (pv 1) (pa_cons (pe_tup (pa_cons pe_str (pa_cons (pe_fld (pv 2) rfl) (pa_cons (pe_fld (pv 2) rfl) pa_nil)))) pa_nil)))))
        (pms_case (pss_one (ps_expr (pe_methR (pv 0) T.c_House T.h_House_set_thing (G3.mono (by decide)) hr passL (pa_cons (pv 1) (pa_cons (pe_tup (pa_cons pe_str (pa_cons (pe_fld (pv 2) rfl) (pa_cons (pe_fld (pv 2) rfl) (pa_cons (pe_fld (pv 2) rfl) pa_nil))))) pa_nil)))))
        (pms_case (pss_one (ps_expr (pe_methR (pv 0) T.c_House T.h_House_share (G4.mono (by decide)) hr passL (pa_cons (pv 1) (pa_cons (pv 3) pa_nil)))))
        (pms_any (pss_one (ps_expr (pe_methR (pv 0) T.c_House T.h_House_set_thing (G3.mono (by decide)) hr passL (pa_cons (pv 1) (pa_cons (pe_tup (pa_cons pe_str (pa_cons (pe_methV0 (R := RC K) (pv 2) hRC hr passL) (pa_cons (pe_fld (pv 2) rfl) (pa_cons (pe_fld (pv 2) rfl) pa_nil))))) pa_nil))))))))))), ?_⟩
    obtain ⟨⟨dx, r, e1⟩, ⟨kvs, e2, _⟩, ⟨fvs, e3, _⟩, nn, ok⟩ := id ha
    have nok : NmOk m.name := let ⟨_, _, _, _, mv⟩ := hm.view T; mv.ok
    have hb := abv_len nok.2.1
    refine ⟨_, rfl, m.name, rfl, nok.2.1, fun p2 H1 k1 hn2 hp2 => ⟨p2, rfl, ⟨_, .of hp2⟩, ?_⟩⟩
    have pn : p2 ∉ [d1, d2] := fun z => by
      rcases List.mem_cons.mp z with z | z
      · rw [z, e2] at hn2
        cases hn2
      · rw [List.mem_singleton.mp z, e3] at hn2
        cases hn2
    have f1 := k1 _ _ e2 (by simp)
    have f2 := k1 _ _ e3 (by simp)
    refine for_list (xs := (abvB m.name).map V.str) (fun i σ H' => Kp [d1, d2] H1 H' ∧ HouseAt K H' p d1 d2 (TKP.putUp h ((abvB m.name).take i)) ∧ (TKP.putUp h ((abvB m.name).take i)).st.length ≤ h.st.length + i ∧ (TKP.putUp h ((abvB m.name).take i)).fl = h.fl ∧
        ∃ o, σ = [some (.ref p), some (.str m.name), some (.ref a), some (.str (tgOf m)), o])
      ⟨Kp.refl _ _, by rw [List.take_zero]; exact ha.ext k1, by rw [List.take_zero]; exact Nat.le_refl _, by rw [List.take_zero]; rfl, none, rfl⟩ (fun i σ H' _ e => .of (e.1 _ _ hp2 pn)) (fun i v σ H' hv e => ?_) (fun σ H' e => ?_)
    · obtain ⟨kp, hh, hlen, hfl, o, rfl⟩ := e
      rw [List.getElem?_map] at hv
      obtain ⟨c, hc, rfl⟩ := Option.map_eq_some_iff.mp hv
      have hi : i < (abvB m.name).length := (List.getElem?_eq_some_iff.mp hc).1
      rw [putUp_snoc hc]
      generalize TKP.putUp h ((abvB m.name).take i) = hU at hh hlen hfl ⊢
      obtain ⟨⟨dx', r', f3⟩, _, _, _, _⟩ := id hh
      refine ⟨_, rfl, p, dx', _, rfl, f3, rfl, _, rfl, p, d1, d2, hU, c, rfl, hh, rfl, ?_⟩
      by_cases z : TKP.kindAt hU c = "absent"
      · refine ⟨true, eq_dec z, ?_⟩
        refine ⟨_, rfl, p, dx', _, rfl, f3, rfl, _, rfl, p, d1, d2, _, hU, c, rfl, hh, by omega, by rw [hfl]; omega, .inl ⟨.dir 493 0, T.made _, fun i z => (by cases z), fun H2 k2 h2 => ?_⟩⟩
        have eu : TKP.upOne hU c = ⟨TKP.putS hU.st c (.dir 493 0), hU.fl⟩ := by unfold TKP.upOne; rw [if_pos z]
        rw [eu]
        refine ⟨kp.trans k2, h2, ?_, hfl, some (.str c), rfl⟩
        have := TKP.len_put c (TKP.Th.dir 493 0) hU.st
        show (TKP.putS hU.st c (TKP.Th.dir 493 0)).length ≤ _
        omega
      · refine ⟨false, ne_dec z, ?_⟩
        have eu : TKP.upOne hU c = hU := by unfold TKP.upOne; rw [if_neg z]
        rw [eu]
        exact ⟨kp, hh, by omega, hfl, some (.str c), rfl⟩
    · obtain ⟨kp, hh, hlen, hfl, o, rfl⟩ := e
      have eft : (abvB m.name).take ((abvB m.name).map V.str).length = abvB m.name := by rw [List.length_map, List.take_length]
      rw [eft] at hh hlen hfl
      have hm' : MemIn K H' a m := (hm.ext k1).kp kp f1 f2
      have ell : ((abvB m.name).map V.str).length ≤ 250 := by rw [List.length_map]; exact hb
      have hfin : ∀ H2, Kp [d1, d2] H' H2 → HouseAt K H2 p d1 d2 (TKP.putIn (TKP.putUp h (abvB m.name)) m) → Q .non H2 := fun H2 k2 h2 => q H2 (((Kp.of k1 _).trans kp).trans k2) h2
      have hlk' : ∀ n g, m = .link n g → ∃ x, TKP.look (TKP.putUp h (abvB m.name)).st g = some x := fun n g e => let ⟨x, hx⟩ := hlk n g e; ⟨x, look_up hx⟩
      generalize TKP.putUp h (abvB m.name) = hU at hh hlen hfl hfin hlk'
      obtain ⟨⟨dx', r', f3⟩, ⟨kvs', g2, _⟩, ⟨fvs', g3, _⟩, _, _⟩ := id hh
      obtain ⟨C, cx, fs, kd, mv⟩ := hm'.view T
      obtain ⟨ku, kc⟩ := mv.mc.k
      have hlU : hU.st.length < 10000 := by omega
      have hfU : hU.fl.length < 10000 := by rw [hfl]; omega
      refine ⟨_, rfl, a, C, cx, fs, _, ku, rfl, mv.ob, mv.mc.c, kc, mv.nk, _, rfl, ?_⟩
      cases m with
      | dir n mo t =>
        obtain ⟨h1, h2, dx2, k0, e5⟩ := id hm'
        refine case_eq mv.kk ?_
        refine ⟨_, rfl, p, dx', _, rfl, f3, rfl, _, rfl, _, rfl, a, _, dx2, _, _, rfl, e5, T.c_Directory, T.n_Directory_mode, rfl, _, rfl, a, _, dx2, _, _, rfl, e5, T.c_Directory, T.n_Directory_time, rfl, by show 3 ≤ sizeLine; decide, fun t2 ht2 => ?_⟩
        have k2 : Kp [] H' (upd H' t2 (.tup [.str "directory", .int mo, .int t])) := Kp.new ht2
        exact ⟨p, d1, d2, t2, hU, n, rfl, hh.ext k2, hlU, hfU, .inl ⟨.dir mo t, .of upd_same, fun i z => (by cases z), fun H2 k3 h3 => hfin H2 ((Kp.of k2 _).trans k3) h3⟩⟩
      | sym n g mo t =>
        obtain ⟨h1, h2, h3, dx2, k0, e5⟩ := id hm'
        have ek : kd = "symlink" := mv.kk
        refine case_ne (by rw [ek]; decide) (case_eq ek ?_)
        refine ⟨_, rfl, p, dx', _, rfl, f3, rfl, _, rfl, _, rfl, a, _, dx2, _, _, rfl, e5, T.c_Symlink, T.n_Symlink_target, rfl, _, rfl, a, _, dx2, _, _, rfl, e5, T.c_Symlink, T.n_Symlink_mode, rfl, _, rfl, a, _, dx2, _, _, rfl, e5, T.c_Symlink, T.n_Symlink_time, rfl, by show 4 ≤ sizeLine; decide, fun t2 ht2 => ?_⟩
        have k2 : Kp [] H' (upd H' t2 (.tup [.str "symlink", .str g, .int mo, .int t])) := Kp.new ht2
        exact ⟨p, d1, d2, t2, hU, n, rfl, hh.ext k2, hlU, hfU, .inl ⟨.sym g mo t, .of upd_same, fun i z => (by cases z), fun H2 k3 h3 => hfin H2 ((Kp.of k2 _).trans k3) h3⟩⟩
      | link n g =>
        have ek : kd = "link" := mv.kk
        obtain ⟨x, hx⟩ := hlk' n g rfl
        refine case_ne (by rw [ek]; decide) (case_ne (by rw [ek]; decide) (case_eq ek ?_))
        refine ⟨_, rfl, p, dx', _, rfl, f3, rfl, _, rfl, _, rfl, p, d1, d2, hU, n, g, x, rfl, hh, hlU, hx, fun H2 k3 h3 => hfin H2 k3 ?_⟩
        have ei : TKP.putIn hU (.link n g) = ⟨TKP.putS hU.st n x, hU.fl⟩ := by
          show (match TKP.look hU.st g with | some x => _ | none => _) = _
          rw [hx]
        rw [ei]
        exact h3
      | file n d mo t =>
        obtain ⟨h1, h2, h3⟩ := id hm'
        have ek : kd ≠ "directory" ∧ kd ≠ "symlink" ∧ kd ≠ "link" := by
          rcases (show kd = "file" ∨ kd = "sparse" from mv.kk) with e | e
          · rw [e]; decide
          · rw [e]; decide
        refine case_ne ek.1 (case_ne ek.2.1 (case_ne ek.2.2 ?_))
        have last : ∀ t2, H' t2 = none → spSet K [.ref p, .str n, .ref t2] (upd H' t2 (.tup [.str "file", .byt d, .int mo, .int t])) (fun _ H' => Q .non H') E0 := fun t2 ht2 => by
          have k2 : Kp [] H' (upd H' t2 (.tup [.str "file", .byt d, .int mo, .int t])) := Kp.new ht2
          exact ⟨p, d1, d2, t2, hU, n, rfl, hh.ext k2, hlU, hfU, .inr ⟨(d, mo, t), .of upd_same, fun H2 k3 h3 => hfin H2 ((Kp.of k2 _).trans k3) h3⟩⟩
        rcases h3 with ⟨dx2, k0, e5⟩ | ⟨dx2, k0, size, pp, ps, ts, e5, hpp, pr, pok, rfl⟩
        · refine ⟨_, rfl, p, dx', _, rfl, f3, rfl, _, rfl, _, rfl, a, _, dx2, _, _, _, rfl, e5, rfl, .inl ⟨rfl, rfl, rfl⟩, a, n, mo, t, k0, dx2, d, rfl, e5, ?_⟩
          exact ⟨_, rfl, a, _, dx2, _, _, rfl, e5, T.c_File, T.n_File_mode, rfl, _, rfl, a, _, dx2, _, _, rfl, e5, T.c_File, T.n_File_time, rfl, by show 4 ≤ sizeLine; decide, last⟩
        · refine ⟨_, rfl, p, dx', _, rfl, f3, rfl, _, rfl, _, rfl, a, _, dx2, _, _, _, rfl, e5, rfl, .inr ⟨rfl, rfl, rfl⟩, a, n, mo, t, size, k0, dx2, pp, ps, ts, rfl, e5, hpp, pr, pok, ?_⟩
          exact ⟨_, rfl, a, _, dx2, _, _, rfl, e5, T.c_Sparse, T.n_Sparse_mode, rfl, _, rfl, a, _, dx2, _, _, rfl, e5, T.c_Sparse, T.n_Sparse_time, rfl, by show 4 ≤ sizeLine; decide, last⟩
end
end TarK

namespace TarK
open PySem PySem.Spec PyProof.Rows L2 LamX NdefX
theorem passE {P : Program} {w : World} {K : PySem.W.Frag} {mg : Str → Option Value} {base : Heap} {N : List Str} {qual : Str} {sc : Scope} {f : Addr} {cd : Value} {A : Around} {outer : List Env} {s : Shared} {H : Hp} {E : XK} :
    Passes (L2.CX P w) (cxOf (L2.CX P w) P w K mg base N qual sc f cd A outer s H E) E := passes_call (W := fun cls d _ H => E cls d H) (takes_of rfl rfl rfl rfl) fun _ _ _ _ h => h
theorem up_len : ∀ {ps : List Str} {h : TKP.Hs}, (TKP.putUp h ps).st.length ≤ h.st.length + ps.length ∧ (TKP.putUp h ps).fl = h.fl
  | [], h => ⟨Nat.le_refl _, rfl⟩
  | q :: ps, h => by
    obtain ⟨h1, h2⟩ := up_len (ps := ps) (h := TKP.upOne h q)
    have h3 : (TKP.upOne h q).st.length ≤ h.st.length + 1 ∧ (TKP.upOne h q).fl = h.fl := by
      unfold TKP.upOne
      by_cases z : TKP.kindAt h q = "absent"
      · rw [if_pos z]
        exact ⟨TKP.len_put _ _ _, rfl⟩
      · rw [if_neg z]
        exact ⟨Nat.le_succ _, rfl⟩
    refine ⟨?_, h2.trans h3.2⟩
    show (TKP.putUp (TKP.upOne h q) ps).st.length ≤ _
    rw [List.length_cons]
    omega
theorem putAt_len {h : TKP.Hs} {m : TKP.Mem} (nok : NmOk m.name) : (TKP.putAt TX h m).st.length ≤ h.st.length + 251 ∧ (TKP.putAt TX h m).fl.length ≤ h.fl.length + 1 := by
  have h0 := abv_len nok.2.1
  obtain ⟨h1, h2⟩ := up_len (ps := abvB m.name) (h := h)
  show (TKP.putIn (TKP.putUp h (abvB m.name)) m).st.length ≤ _ ∧ (TKP.putIn (TKP.putUp h (abvB m.name)) m).fl.length ≤ _
  generalize TKP.putUp h (abvB m.name) = hU at h1 h2
  cases m with
  | dir n mo t =>
    have := TKP.len_put n (TKP.Th.dir mo t) hU.st
    refine ⟨?_, ?_⟩
    · show (TKP.putS hU.st n (.dir mo t)).length ≤ _
      omega
    · show hU.fl.length ≤ _
      rw [h2]
      omega
  | sym n g mo t =>
    have := TKP.len_put n (TKP.Th.sym g mo t) hU.st
    refine ⟨?_, ?_⟩
    · show (TKP.putS hU.st n (.sym g mo t)).length ≤ _
      omega
    · show hU.fl.length ≤ _
      rw [h2]
      omega
  | link n g =>
    cases e : TKP.look hU.st g with
    | none =>
      have ei : TKP.putIn hU (.link n g) = hU := by
        show (match TKP.look hU.st g with | some x => _ | none => _) = _
        rw [e]
      rw [ei, h2]
      exact ⟨by omega, by omega⟩
    | some x =>
      have ei : TKP.putIn hU (.link n g) = ⟨TKP.putS hU.st n x, hU.fl⟩ := by
        show (match TKP.look hU.st g with | some x => _ | none => _) = _
        rw [e]
      have := TKP.len_put n x hU.st
      rw [ei, h2]
      exact ⟨by show (TKP.putS hU.st n x).length ≤ _; omega, by omega⟩
  | file n d mo t =>
    have := TKP.len_put n (TKP.Th.fil hU.fl.length) hU.st
    refine ⟨?_, ?_⟩
    · show (TKP.putS hU.st n (.fil hU.fl.length)).length ≤ _
      omega
    · show (hU.fl ++ [(d, mo, t)]).length ≤ _
      rw [List.length_append, h2]
      exact Nat.le_refl _
theorem link_there {h : TKP.Hs} {n g : Str} (e : TKP.refusal TX h (.link n g) = "") : ∃ x, TKP.look h.st g = some x := by
  have er : TKP.refusal TX h (.link n g) = if isPB n = false then ("name" : PySem.Str) else if TKP.upOk h (abvB n) = false then ("parent" : PySem.Str) else TKP.refusalAt h (.link n g) := rfl
  rw [er] at e
  by_cases h1 : isPB n = false
  · rw [if_pos h1] at e
    exact absurd e (by decide)
  · rw [if_neg h1] at e
    by_cases h2 : TKP.upOk h (abvB n) = false
    · rw [if_pos h2] at e
      exact absurd e (by decide)
    · rw [if_neg h2, refAt_link] at e
      by_cases h3 : TKP.kindAt h (TKP.Mem.link n g).name = "directory"
      · rw [if_pos h3] at e
        exact absurd e (by decide)
      · rw [if_neg h3] at e
        by_cases h4 : TKP.kindAt h g = "file"
        · cases e2 : TKP.look h.st g with
          | some x => exact ⟨x, rfl⟩
          | none =>
            unfold TKP.kindAt at h4
            rw [e2] at h4
            exact absurd (show ("absent" : Str) = "file" from h4) (by decide)
        · rw [if_neg h4] at e
          exact absurd e (by decide)
def spPutMem (K : PySem.W.Frag) : Sp := fun vs H Q _ => ∃ (p d1 d2 a : Addr) (h : TKP.Hs) (m : TKP.Mem), vs = [.ref p, .ref a] ∧ HouseAt K H p d1 d2 h ∧ MemIn K H a m ∧ h.st.length < 9000 ∧ h.fl.length < 9000 ∧ (∀ n g, m = .link n g → ∃ x, TKP.look h.st g = some x) ∧
  ∀ H', Kp [d1, d2] H H' → HouseAt K H' p d1 d2 (TKP.putAt TX h m) → Q .non H'
def spOne (K : PySem.W.Frag) : Sp := fun vs H Q E => ∃ (p d1 d2 a : Addr) (h : TKP.Hs) (m : TKP.Mem) (i : Int), vs = [.ref p, .int i, .ref a] ∧ HouseAt K H p d1 d2 h ∧ MemIn K H a m ∧ h.st.length < 9000 ∧ h.fl.length < 9000 ∧
  (TKP.refusal TX h m = "" → ∀ H', Kp [d1, d2] H H' → HouseAt K H' p d1 d2 (TKP.putAt TX h m) → Q .non H') ∧
  (TKP.refusal TX h m ≠ "" → ∀ H' d, Kp [] H H' → H' d = some (.xd (xdF i (TKP.refusal TX h m))) → E (.ref (He.ga K "Refused")) (some d) H')
def spUnp (K : PySem.W.Frag) : Sp := fun vs H Q E => ∃ (p d1 d2 l : Addr) (h : TKP.Hs) (mems : List TKP.Mem) (xs : List V), vs = [.ref p, .ref l] ∧ HouseAt K H p d1 d2 h ∧ SqL K H l xs ∧ Paired (MemAt K H) mems xs ∧ h.st.length + 251 * mems.length < 9000 ∧ h.fl.length + mems.length < 9000 ∧
  (∀ A, TKP.run TX h mems = .ok A → ∀ H' p' e1 e2 ys, Kp [] H H' → HouseAt K H' p' e1 e2 A → RowsOf K H H' p' e1 e2 A ys → ys.Perm (A.st.map (·.1)) → sortedS ys = true → Q (.ref p') H') ∧
  (∀ z, TKP.run TX h mems = .error z → ∀ H' d i, Kp [] H H' → H' d = some (.xd (xdF i z)) → E (.ref (He.ga K "Refused")) (some d) H')
theorem sc_put_member : FnScope ["house", "member"] ["house", "member"] (defScope s_put_member) := ⟨rfl, rfl, rfl, by decide +kernel, rfl, by decide +kernel, by decide +kernel⟩
theorem sc_unpack_one : FnScope ["house", "index", "member", "word"] ["house", "index", "member"] (defScope s_unpack_one) := ⟨rfl, rfl, rfl, by decide +kernel, rfl, by decide +kernel, by decide +kernel⟩
theorem sc_unpacked : FnScope ["house", "members", "made", "index", "member"] ["house", "members"] (defScope s_unpacked) := ⟨rfl, rfl, rfl, by decide +kernel, rfl, by decide +kernel, by decide +kernel⟩
section
variable {w : World} {K : PySem.W.Frag} {mg : Str → Option Value} {base : Heap}
theorem ok_put_member (T : TF K mg) : FR Pg w K mg base 4 (He.ga K "put_member") (spPutMem K) := by
  have G := ok_put_at (P := Pg) (w := w) (base := base) T
  refine okR T.fd_put_member sc_put_member (fun _ _ _ _ _ _ _ us hl => match us, hl with | [_, _], _ => rfl) (fun vs H Q E h => ?_) (fun cdv A outer s H vs Q E hr h => ?_)
  · obtain ⟨p, d1, d2, a, h, m, rfl, _⟩ := h
    rfl
  · obtain ⟨p, d1, d2, a, h, m, rfl, ha, hm, hl, hf, hlk, q⟩ := h
    obtain ⟨C, cx, fs, kd, mv⟩ := hm.view T
    obtain ⟨ku, kc⟩ := mv.mc.k
    refine ⟨_, pss_one (ps_expr (pe_callR G hr T.g_put_at T.k_put_at (by rfl) passL (pa_cons (pv 0) (pa_cons (pe_fld (pv 1) rfl) (pa_cons (pv 1) (pa_cons
          (pe_ifExp (pt_cmpR op_eq (pe_con (pv 1) rfl) pe_str (nomark _)) (pe_fld (pv 1) rfl) pe_str) pa_nil)))))), ?_⟩
    refine ⟨_, rfl, _, rfl, a, C, cx, fs, _, rfl, mv.ob, mv.mc.c, mv.mc.n1, mv.nm, _, rfl, ?_⟩
    refine ⟨_, rfl, a, C, cx, fs, _, ku, rfl, mv.ob, mv.mc.c, kc, mv.nk, rfl, ?_⟩
    by_cases el : kd = "link"
    · cases m with
      | link n g =>
        obtain ⟨h1, h2, dx2, k0, mo, t, e5⟩ := id hm
        refine ⟨true, eq_dec el, ?_⟩
        exact ⟨_, rfl, a, _, dx2, _, _, rfl, e5, T.c_Link, T.n_Link_target, rfl, p, d1, d2, a, h, _, rfl, ha, hm, hl, hf, hlk, q⟩
      | file n d mo t =>
        rcases (show kd = "file" ∨ kd = "sparse" from mv.kk) with z | z
        · rw [z] at el; exact absurd el (by decide)
        · rw [z] at el; exact absurd el (by decide)
      | dir n mo t =>
        rw [show kd = "directory" from mv.kk] at el
        exact absurd el (by decide)
      | sym n g mo t =>
        rw [show kd = "symlink" from mv.kk] at el
        exact absurd el (by decide)
    · refine ⟨false, ne_dec el, p, d1, d2, a, h, m, ?_, ha, hm, hl, hf, hlk, q⟩
      cases m with
      | link n g => exact absurd mv.kk el
      | _ => rfl
theorem ok_unpack_one (T : TF K mg) : FR Pg w K mg base 5 (He.ga K "unpack_one") (spOne K) := by
  have G1 := ok_refusal (P := Pg) (w := w) (base := base) T
  have G2 := ok_put_member (w := w) (base := base) T
  have G3 := ok_ref_init (w := w) (base := base) T
  refine okR T.fd_unpack_one sc_unpack_one (fun _ _ _ _ _ _ _ us hl => match us, hl with | [_, _, _], _ => rfl) (fun vs H Q E h => ?_) (fun cdv A outer s H vs Q E hr h => ?_)
  · obtain ⟨p, d1, d2, a, h, m, i, rfl, _⟩ := h
    rfl
  · obtain ⟨p, d1, d2, a, h, m, i, rfl, ha, hm, hl, hf, q1, q2⟩ := h
    refine ⟨_, pss_cons (ps_set (i := 3) sc_unpack_one.nd rfl (.inl rfl) (pe_callR G1 hr T.g_refusal T.k_refusal (by rfl) passL (pa_cons (pv 0) (pa_cons (pv 2) pa_nil))))
      (pss_cons (ps_if (pt_cmpR op_ne (pv 3) pe_str (nomark _))
        (pss_one (ps_raise (W := fun cls d _ H => E cls d H) rfl (takes_of rfl rfl rfl rfl) (pmk_rt T.rt T.ref.1 T.ref.2 G3 (hr.mono (by decide)) passL (by rfl) T.g_Refused (pa_cons (pv 1) (pa_cons (pv 3) pa_nil))))) pss_nil)
      (pss_one (ps_expr (pe_callR G2 hr T.g_put_member T.k_put_member (by rfl) passL (pa_cons (pv 0) (pa_cons (pv 2) pa_nil)))))), ?_⟩
    refine ⟨_, rfl, _, rfl, p, d1, d2, a, h, m, rfl, ha, hm, fun H1 k1 => ?_⟩
    refine ⟨_, rfl, rfl, ?_⟩
    by_cases e : TKP.refusal TX h m = ""
    · refine ⟨false, ?_, ?_⟩
      · rw [e]
        rfl
      · exact ⟨_, rfl, _, rfl, p, d1, d2, a, h, m, rfl, ha.ext k1, hm.ext k1, hl, hf, fun n g eg => by subst eg; exact link_there e, fun H' k2 h2 => q1 e H' ((Kp.of k1 _).trans k2) h2⟩
    · refine ⟨true, congrArg V.bl (by rw [decide_eq_false (fun z => e (V.str.inj z))]; rfl), ?_⟩
      refine ⟨_, rfl, _, rfl, by show (2 : Nat) ≤ 1000; decide, fun x hx => ?_⟩
      refine ⟨x, i, _, rfl, rfl, upd_same, fun H2 d k2 hd ne x2 d2' => ⟨rfl, d, _, x2, d2', ?_, ?_⟩⟩
      · rw [upd_ne ne] at hd
        exact hd
      · refine q2 e _ d (fun b o eb nb => ?_) upd_same
        have hbx : b ≠ x := ne_of_none (k1 b o eb nb) hx
        have hd' : H1 d = none := by
          rw [upd_ne ne] at hd
          exact hd
        have hbd : b ≠ d := ne_of_none (k1 b o eb nb) hd'
        rw [upd_ne hbd, del_ne hbx]
        exact k2 b o (by rw [upd_ne hbx]; exact k1 b o eb nb) (by simpa using hbx)
end
end TarK

namespace TarK
open PySem PySem.Spec PyProof.Rows L2 LamX NdefX
theorem drop_cons {α : Type} : ∀ {l : List α} {i : Nat} {x : α}, l[i]? = some x → l.drop i = x :: l.drop (i + 1)
  | [], i, x, h => by simp at h
  | a :: l, 0, x, h => by
    cases h
    rfl
  | a :: l, i + 1, x, h => drop_cons (l := l) (i := i) (by simpa using h)
theorem RowsOf.old {K : PySem.W.Frag} {H0 H1 H : Hp} {p d1 d2 : Addr} {h : TKP.Hs} {ys : List Str} (x : RowsOf K H1 H p d1 d2 h ys) (o : ∀ r zs, H0 r = some (.lst zs) → ∃ ws, H1 r = some (.lst ws)) : RowsOf K H0 H p d1 d2 h ys := by
  obtain ⟨dx, r, xs, f, a, b, c⟩ := x
  exact ⟨dx, r, xs, fun zs e => (let ⟨ws, e2⟩ := o r zs e; f ws e2), a, b, c⟩
section
variable {w : World} {K : PySem.W.Frag} {mg : Str → Option Value} {base : Heap}
theorem ok_unpacked (T : TF K mg) : FR Pg w K mg base 6 (He.ga K "unpacked") (spUnp K) := by
  have G1 := ok_copied (P := Pg) (w := w) (base := base) T
  have G2 := ok_unpack_one (w := w) (base := base) T
  refine okR T.fd_unpacked sc_unpacked (fun _ _ _ _ _ _ _ us hl => match us, hl with | [_, _], _ => rfl) (fun vs H Q E h => ?_) (fun cdv A outer s H vs Q E hr h => ?_)
  · obtain ⟨p, d1, d2, l, h, mems, xs, rfl, _⟩ := h
    rfl
  · obtain ⟨p, d1, d2, l, h, mems, xs, rfl, ha, hl, hp, hs, hf, q1, q2⟩ := h
    have hlen : mems.length = xs.length := Paired.length hp
    obtain ⟨⟨dx, r, e1⟩, _, _, _, _⟩ := id ha
    refine ⟨_, pss_cons (ps_set (i := 2) sc_unpacked.nd rfl (.inl rfl) (pe_methR0 (pv 0) T.c_House T.h_House_copied (G1.mono (by decide)) hr passL))
      (pss_cons (ps_for PassesOwn.leaving rfl (pi_enum (by rfl) T.f_enumerate (pa_cons (pv 1) pa_nil)) (pg_tup rfl (pgs_cons (pg_name (i := 3) sc_unpacked.nd rfl (.inl rfl)) (pgs_cons (pg_name (i := 4) sc_unpacked.nd rfl (.inl rfl)) pgs_nil)))
        (pss_one (ps_expr (pe_callR G2 hr T.g_unpack_one T.k_unpack_one (by rfl) passE (pa_cons (pv 2) (pa_cons (pv 3) (pa_cons (pv 4) pa_nil)))))))
      (pss_one (ps_ret (pe_methR0 (pv 2) T.c_House T.h_House_copied (G1.mono (by decide)) hr passL)))), ?_⟩
    refine ⟨_, rfl, p, dx, _, rfl, e1, rfl, p, d1, d2, h, rfl, ha, by omega, fun H1 p1 b1 b2 ys k1 nb1 nb2 hh rows perm srt => ?_⟩
    have nb : ∀ x ∈ [b1, b2], H x = none := fun x hx => by
      rcases List.mem_cons.mp hx with z | z
      · rw [z]; exact nb1
      · rw [List.mem_singleton.mp z]; exact nb2
    refine ⟨_, rfl, l, xs, rfl, sqL_ext hl k1, ?_⟩
    refine for_it (walk_enum (K := K) (a := l) (xs := xs)) (fun i σ H' => Kp [] H H' ∧ ∃ (hU : TKP.Hs) (x y : Option V), σ = [some (.ref p), some (.ref l), some (.ref p1), x, y] ∧ HouseAt K H' p1 b1 b2 hU ∧ TKP.run TX h mems = TKP.run TX hU (mems.drop i) ∧
        hU.st.length ≤ h.st.length + 251 * i ∧ hU.fl.length ≤ h.fl.length + i)
      ⟨k1, h, none, none, rfl, hh, rfl, by omega, by omega⟩ (fun i σ H' _ e => sqL_ext hl e.1) (fun i v σ H2 H' hi e y => ?_) (fun σ H' e => ?_)
    · obtain ⟨k2, hU, x0, y0, rfl, hU2, er, l1, l2⟩ := e
      obtain ⟨t, x1, y1, rfl, nt, rfl, ex, hy⟩ := y
      obtain rfl : V.int ((i : Nat) : Int) = x1 := Option.some.inj ex
      obtain ⟨m, hm, a, rfl, hma⟩ := Paired.at hp hy
      have kt : Kp [] H2 (upd H2 t (.tup [.int ((i : Nat) : Int), .ref a])) := Kp.new nt
      have ht : SqT K (upd H2 t (.tup [.int ((i : Nat) : Int), .ref a])) t [.int ((i : Nat) : Int), .ref a] := .of upd_same
      generalize upd H2 t (.tup [.int ((i : Nat) : Int), .ref a]) = H3 at kt ht ⊢
      have k3 := k2.trans kt
      have ed := drop_cons hm
      have nok : NmOk m.name := let ⟨_, _, _, _, mv⟩ := hma.view T; mv.ok
      obtain ⟨p1', p2'⟩ := putAt_len (h := hU) nok
      refine ⟨t, _, rfl, ht, rfl, _, _, rfl, _, _, rfl, rfl, ?_⟩
      refine ⟨_, rfl, _, rfl, _, rfl, p1, b1, b2, a, hU, m, _, rfl, hU2.ext kt, hma.ext k3, by omega, by omega, fun e H4 k4 h4 => ?_, fun e H4 d k4 hd => ?_⟩
      · refine ⟨k3.base k4 nb, _, some (.int ((i : Nat) : Int)), some (.ref a), rfl, h4, ?_, by omega, by omega⟩
        rw [er, ed, TKP.run_cons]
        unfold TKP.step
        rw [if_pos e]
      · refine q2 _ ?_ H4 d _ (k3.trans k4) hd
        rw [er, ed, TKP.run_cons]
        unfold TKP.step
        rw [if_neg e]
    · obtain ⟨k2, hU, x0, y0, rfl, hU2, er, l1, l2⟩ := e
      rw [← hlen, List.drop_length] at er
      obtain ⟨⟨dx', r', f1⟩, _, _, _, _⟩ := id hU2
      exact ⟨_, rfl, p1, dx', _, rfl, f1, rfl, p1, b1, b2, hU, rfl, hU2, by omega, fun H3 p3 c1 c2 ys k3 _ _ hh3 rows3 perm3 srt3 => q1 hU er H3 p3 c1 c2 ys (k2.trans k3) hh3 (rows3.old fun r zs e => ⟨zs, k2 _ _ e (by simp)⟩) perm3 srt3⟩
end
end TarK

namespace TarK
open PySem PySem.Spec PyProof.Rows L2 LamX NdefX
theorem boot_abs2 : bootBuiltins "abs" = some (.builtin "abs") := by decide +kernel
/-- the source of draws at p; at most n of its own -/
def SrcAt (H : Hp) (p : Addr) (n : Nat) : Prop := ∃ g b t : Int, H p = some (.lst [.int g, .int b, .int t]) ∧ 0 ≤ g ∧ 0 ≤ b ∧ b < 2305843009213693951 ∧ 0 ≤ t ∧ t ≤ (n : Int)
theorem SrcAt.le {H : Hp} {p : Addr} {n m : Nat} (h : SrcAt H p n) (l : n ≤ m) : SrcAt H p m := let ⟨g, b, t, e, h1, h2, h3, h4, h5⟩ := h; ⟨g, b, t, e, h1, h2, h3, h4, by omega⟩
theorem SrcAt.ext {H H' : Hp} {p : Addr} {n : Nat} (h : SrcAt H p n) (k : Kp [] H H') : SrcAt H' p n := let ⟨g, b, t, e, r⟩ := h; ⟨g, b, t, k _ _ e (by simp), r⟩
theorem SrcAt.mu {H : Hp} {p : Addr} {n : Nat} (h : SrcAt H p n) : ∀ b ∈ [p], Mut (H b) := fun b hb => by
  obtain ⟨g, b', t, e, _⟩ := h
  rw [List.mem_singleton.mp hb, e]
  trivial
def spSource (K : PySem.W.Frag) : Sp := fun vs H Q _ => ∃ (l : Addr) (ns : List Int) (j : Nat), vs = [.ref l, .int (j : Nat)] ∧ SqL K H l (ns.map V.int) ∧ j < 4 ∧ ∀ H' p, Kp [] H H' → H p = none → SrcAt H' p 0 → Q (.ref p) H'
def spDraw : Sp := fun vs H Q _ => ∃ (p : Addr) (n : Nat) (m : Int), vs = [.ref p, .int m] ∧ SrcAt H p n ∧ n < 1000000 ∧ 1 ≤ m ∧ m ≤ 1000000 ∧ ∀ H' d, Kp [p] H H' → SrcAt H' p (n + 1) → 0 ≤ d → d < m → Q (.int d) H'
theorem sc_l_source : FnScope ["_law_script", "_law_at", "_law_cell", "_law_great", "_law_mixed_here"] ["_law_script", "_law_at"] (defScope s_l_source) := ⟨rfl, rfl, rfl, by decide +kernel, rfl, by decide +kernel, by decide +kernel⟩
theorem sc_l_draw : FnScope ["_law_source_here", "_law_many", "_law_digit", "_law_primes", "_law_turn", "_law_base", "_law_found"] ["_law_source_here", "_law_many"] (defScope s_l_draw) := ⟨rfl, rfl, rfl, by decide +kernel, rfl, by decide +kernel, by decide +kernel⟩
def primesL : List V := [.int 2147483647, .int 2147483629, .int 2147483587, .int 2147483579, .int 2147483563, .int 2147483549, .int 2147483543]
theorem prime_at {i : Int} (h0 : 0 ≤ i) (h1 : i < 7) : ∃ q : Int, 0 < q ∧ q < 2147483648 ∧ atI primesL i = some (.int q) := by
  obtain ⟨n, rfl⟩ := Int.eq_ofNat_of_zero_le h0
  have hn : n < 7 := by omega
  match n, hn with
  | 0, _ => exact ⟨_, by decide, by decide, rfl⟩
  | 1, _ => exact ⟨_, by decide, by decide, rfl⟩
  | 2, _ => exact ⟨_, by decide, by decide, rfl⟩
  | 3, _ => exact ⟨_, by decide, by decide, rfl⟩
  | 4, _ => exact ⟨_, by decide, by decide, rfl⟩
  | 5, _ => exact ⟨_, by decide, by decide, rfl⟩
  | 6, _ => exact ⟨_, by decide, by decide, rfl⟩
theorem mul_le {a b c d : Int} (h0 : 0 ≤ a) (h1 : a ≤ c) (h2 : 0 ≤ b) (h3 : b ≤ d) : 0 ≤ a * b ∧ a * b ≤ c * d := ⟨Int.mul_nonneg h0 h2, Int.mul_le_mul h1 h3 h2 (by omega)⟩
theorem bits_small {i : Int} (h : i.natAbs < 2 ^ 100) : 0 ≤ (3 : Int) ∧ (Builtin.Int.intBits i : Int) * 3 ≤ 2 ^ 27 := by
  have x := PySem.Flt.log2_lt_of (show 0 < 100 by decide) h
  have b : Builtin.Int.intBits i ≤ i.natAbs.log2 + 1 := by
    unfold Builtin.Int.intBits
    split <;> omega
  refine ⟨by decide, ?_⟩
  have e : (2 : Int) ^ 27 = 134217728 := by decide
  rw [e]
  omega
theorem if_val {b : Bool} {ta tb : TE} {σ : L2.St} {H : Hp} {Q : VK} (S : V → Prop) (ha : b = true → ∃ v, S v ∧ ∀ Q' : VK, Q' v H → ta σ H Q') (hb : b = false → ∃ v, S v ∧ ∀ Q' : VK, Q' v H → tb σ H Q') (q : ∀ v, S v → Q v H) : if b = true then ta σ H Q else tb σ H Q := by
  cases b with
  | true =>
    obtain ⟨v, hv, k⟩ := ha rfl
    exact k Q (q v hv)
  | false =>
    obtain ⟨v, hv, k⟩ := hb rfl
    exact k Q (q v hv)
section
variable {P : Program} {w : World} {K : PySem.W.Frag} {mg : Str → Option Value} {base : Heap}
theorem ok_l_source (T : TF K mg) : FR P w K mg base 1 (He.ga K "_law_source") (spSource K) := by
  refine okR T.fd_l_source sc_l_source (fun _ _ _ _ _ _ _ us hl => match us, hl with | [_, _], _ => rfl) (fun vs H Q E h => ?_) (fun cdv A outer s H vs Q E hr h => ?_)
  · obtain ⟨l, ns, j, rfl, _⟩ := h
    rfl
  · obtain ⟨l, ns, j, rfl, hl, hj, q⟩ := h
    refine ⟨_, pss_cons (ps_set (i := 2) sc_l_source.nd rfl (.inl rfl) (pe_ifExp (pt_cmpR op_lt (pv 1) (pe_callB call_len (by rfl) T.f_len boot_len (pa_cons (pv 0) pa_nil)) (nomark _)) (pe_ix ix_list (pv 0) (pv 1) (fun _ _ => rfl)) pe_int))
      (pss_cons (ps_set (i := 3) sc_l_source.nd rfl (.inl rfl) (pe_ifExp (pt_cmpR op_ge (pe_callB call_abs (by rfl) T.f_abs boot_abs2 (pa_cons (pv 2) pa_nil)) (pe_op op_pow pe_int pe_int) (nomark _)) (pe_callB call_abs (by rfl) T.f_abs boot_abs2 (pa_cons (pv 2) pa_nil)) pe_int))
      (pss_cons (ps_set (i := 4) sc_l_source.nd rfl (.inl rfl) (pe_op op_add (pe_op op_add (pe_op op_add (pe_op op_mod (pe_callTy call_int1 (by rfl) T.f_int boot_int (pa_cons (pv 2) pa_nil)) pe_int) (pe_op op_mul (pe_op op_mul pe_int (pv 1)) (pv 1))) (pe_op op_mul pe_int (pv 1))) pe_int))
      (pss_one (ps_ret (pe_lst (pa_cons (pv 3) (pa_cons (pe_op op_mod (pe_callTy call_int1 (by rfl) T.f_int boot_int (pa_cons (pv 4) pa_nil)) pe_int) (pa_cons pe_int pa_nil)))))))), ?_⟩
    refine ⟨_, rfl, _, rfl, _, _, rfl, .inl ⟨_, hl, rfl⟩, _, _, rfl, rfl, decide ((j : Int) < ((ns.map V.int).length : Int)), rfl, ?_⟩
    refine if_val (fun v => ∃ c : Int, v = .int c) (fun hb => ?_) (fun hb => ⟨.int 0, ⟨0, rfl⟩, fun Q' q' => q'⟩) (fun v hv => ?_)
    · have hj2 : j < ns.length := by
        have := of_decide_eq_true hb
        rw [List.length_map] at this
        omega
      exact ⟨_, ⟨_, rfl⟩, fun Q' q' => ⟨_, rfl, _, rfl, l, _, _, _, rfl, rfl, hl, atI_cell hj2, q'⟩⟩
    obtain ⟨c, rfl⟩ := hv
    refine ⟨_, rfl, _, rfl, 10, 18, rfl, rfl, ⟨by decide, by decide, by decide⟩, _, _, rfl, rfl, _, rfl, ?_⟩
    refine if_val (fun v => ∃ c : Int, v = .int c ∧ 0 ≤ c) (fun hb => ⟨_, ⟨_, rfl, ?_⟩, fun Q' q' => ⟨_, rfl, c, rfl, q'⟩⟩) (fun hb => ⟨.int 0, ⟨0, rfl, Int.le_refl 0⟩, fun Q' q' => q'⟩) (fun v hv => ?_)
    · by_cases z : c < 0
      · rw [if_pos z]
        omega
      · rw [if_neg z]
        omega
    obtain ⟨g, rfl, g0⟩ := hv
    have jb : CMul (31 : Int) (j : Int) := .inl ⟨by decide, by decide⟩
    refine ⟨_, rfl, .inl ⟨c, rfl, c, 2305843009213693951, rfl, rfl, (by show (0 : Int) < 2305843009213693951; decide), _, rfl, 9973, (j : Int), rfl, rfl, .inl ⟨by decide, by decide⟩, _, rfl, _, (j : Int), rfl, rfl, .inr ⟨by omega, by omega⟩, _, _, rfl, rfl, _, rfl, 31, (j : Int), rfl, rfl, jb, _, _, rfl, rfl, _, _, rfl, rfl, ?_⟩⟩
    refine ⟨_, rfl, _, rfl, .inl ⟨_, rfl, _, 2305843009213693951, rfl, rfl, (by show (0 : Int) < 2305843009213693951; decide), by show 3 ≤ sizeLine; decide, fun p hp => ?_⟩⟩
    exact q _ p (Kp.new hp) hp ⟨g, _, 0, upd_same, g0, Int.emod_nonneg _ (by decide), Int.emod_lt_of_pos _ (by decide), Int.le_refl 0, Int.le_refl 0⟩
theorem ok_l_draw (T : TF K mg) : FR P w K mg base 1 (He.ga K "_law_draw") spDraw := by
  refine okR T.fd_l_draw sc_l_draw (fun _ _ _ _ _ _ _ us hl => match us, hl with | [_, _], _ => rfl) (fun vs H Q E h => ?_) (fun cdv A outer s H vs Q E hr h => ?_)
  · obtain ⟨p, n, m, rfl, _⟩ := h
    rfl
  · obtain ⟨p, n, m, rfl, ⟨g, b, t, e, g0, b0, b1, t0, t1⟩, hn, m1, m2, q⟩ := h
    refine ⟨_, pss_cons (ps_if (pt_cmpR op_gt (pe_ix ix_list (pv 0) pe_int (fun _ _ => rfl)) pe_int (nomark _))
        (pss_cons (ps_set (i := 2) sc_l_draw.nd rfl (.inl rfl) (pe_op op_mod (pe_callTy call_int1 (by rfl) T.f_int boot_int (pa_cons (pe_ix ix_list (pv 0) pe_int (fun _ _ => rfl)) pa_nil)) (pv 1)))
        (pss_cons (ps_asg (pe_op op_fdiv (pe_ix ix_list (pv 0) pe_int (fun _ _ => rfl)) (pv 1)) (pg_sub (pv 0) pe_int set_list))
        (pss_one (ps_ret (pv 2))))) pss_nil)
      (pss_cons (ps_set (i := 3) sc_l_draw.nd rfl (.inl rfl) (pe_tup (pa_cons pe_int (pa_cons pe_int (pa_cons pe_int (pa_cons pe_int (pa_cons pe_int (pa_cons pe_int (pa_cons pe_int pa_nil)))))))))
      (pss_cons (ps_asg (pe_op op_add (pe_ix ix_list (pv 0) pe_int (fun _ _ => rfl)) pe_int) (pg_sub (pv 0) pe_int set_list))
      (pss_cons (ps_set (i := 4) sc_l_draw.nd rfl (.inl rfl) (pe_ix ix_list (pv 0) pe_int (fun _ _ => rfl)))
      (pss_cons (ps_set (i := 5) sc_l_draw.nd rfl (.inl rfl) (pe_op op_add (pe_op op_mul (pe_op op_add (pe_ix ix_list (pv 0) pe_int (fun _ _ => rfl)) (pe_op op_mul pe_int (pv 4))) (pe_op op_add (pe_op op_mul pe_int (pv 4)) pe_int)) (pe_op op_mul (pe_op op_mul pe_int (pv 4)) (pv 4))))
      (pss_cons (ps_set (i := 6) sc_l_draw.nd rfl (.inl rfl) (pe_op op_mod (pe_callTy call_int1 (by rfl) T.f_int boot_int (pa_cons (pe_op op_powN (pv 5) pe_int) pa_nil)) (pe_ix ix_tup (pv 3) (pe_op op_mod (pe_callTy call_int1 (by rfl) T.f_int boot_int (pa_cons (pv 4) pa_nil)) pe_int) (fun _ _ => rfl))))
      (pss_cons (ps_set (i := 6) sc_l_draw.nd rfl (.inl rfl) (pe_op op_mod (pe_callTy call_int1 (by rfl) T.f_int boot_int (pa_cons (pe_op op_mul (pv 6) (pe_op op_add (pe_op op_add (pe_op op_fdiv (pv 6) pe_int) (pe_op op_mul pe_int (pv 4))) pe_int)) pa_nil)) (pe_ix ix_tup (pv 3) (pe_op op_mod (pe_callTy call_int1 (by rfl) T.f_int boot_int (pa_cons (pe_op op_add (pv 4) pe_int) pa_nil)) pe_int) (fun _ _ => rfl))))
      (pss_one (ps_ret (pe_op op_mod (pe_callTy call_int1 (by rfl) T.f_int boot_int (pa_cons (pe_op op_fdiv (pv 6) pe_int) pa_nil)) (pv 1)))))))))), ?_⟩
    refine ⟨_, rfl, p, _, 0, .int g, rfl, rfl, .of e, rfl, g, 0, rfl, rfl, decide (0 < g), rfl, ?_⟩
    by_cases hg : 0 < g
    · rw [decide_eq_true hg]
      refine ⟨_, rfl, p, _, 0, .int g, rfl, rfl, .of e, rfl, .inl ⟨g, rfl, _, rfl, g, m, rfl, rfl, by show 0 < m; omega, ?_⟩⟩
      refine ⟨_, rfl, p, _, 0, .int g, rfl, rfl, .of e, rfl, _, rfl, g, m, rfl, rfl, ⟨by omega, by omega⟩, _, rfl, p, _, 0, 0, rfl, rfl, e, rfl, ?_⟩
      refine ⟨_, rfl, q _ _ (Kp.put (List.mem_singleton.mpr rfl)) ⟨g / m, b, t, upd_same, Int.ediv_nonneg g0 (by omega), b0, b1, t0, by omega⟩ (Int.emod_nonneg _ (by omega)) (Int.emod_lt_of_pos _ (by omega))⟩
    · rw [decide_eq_false hg]
      refine ⟨by show 7 ≤ sizeLine; decide, fun tp htp => ?_⟩
      have npt : p ≠ tp := ne_of_none e htp
      have k1 : Kp [p] H (upd H tp (.tup primesL)) := Kp.new htp
      have e1 : upd H tp (.tup primesL) p = some (.lst [.int g, .int b, .int t]) := by rw [upd_ne npt]; exact e
      have s1 : upd H tp (.tup primesL) tp = some (.tup primesL) := upd_same
      show tSeq _ _ _ _ (upd H tp (.tup primesL))
      generalize upd H tp (.tup primesL) = H1 at k1 e1 s1 ⊢
      refine ⟨_, rfl, p, _, 2, .int t, rfl, rfl, .of e1, rfl, t, 1, rfl, rfl, _, rfl, p, _, 2, 2, rfl, rfl, e1, rfl, ?_⟩
      have k2 : Kp [p] H (upd H1 p (.lst [.int g, .int b, .int (t + 1)])) := k1.trans (Kp.put (List.mem_singleton.mpr rfl))
      have e2 : upd H1 p (.lst [.int g, .int b, .int (t + 1)]) p = some (.lst [.int g, .int b, .int (t + 1)]) := upd_same
      have s2 : upd H1 p (.lst [.int g, .int b, .int (t + 1)]) tp = some (.tup primesL) := by rw [upd_ne (Ne.symm npt)]; exact s1
      show tSeq _ _ _ _ (upd H1 p (.lst [.int g, .int b, .int (t + 1)]))
      generalize upd H1 p (.lst [.int g, .int b, .int (t + 1)]) = H2 at k2 e2 s2 ⊢
      have hu0 : 1 ≤ t + 1 := by omega
      have hu1 : t + 1 ≤ 1000000 := by omega
      have src : SrcAt H2 p (n + 1) := ⟨g, b, t + 1, e2, g0, b0, b1, by omega, by omega⟩
      generalize t + 1 = u at e2 src hu0 hu1 ⊢
      have c1 : CMul u u := .inl ⟨by omega, by omega⟩
      have bB : ((b + 50021 * u) * (2 * u + 3) + 6151 * u * u).natAbs < 2 ^ 100 := by
        obtain ⟨z1, z2⟩ := mul_le (a := b + 50021 * u) (b := 2 * u + 3) (c := 2305893030213693951) (d := 2000003) (by omega) (by omega) (by omega) (by omega)
        obtain ⟨z3, z4⟩ := mul_le (a := 6151 * u) (b := u) (c := 6151000000) (d := 1000000) (by omega) (by omega) (by omega) (by omega)
        have e5 : (2 : Nat) ^ 100 = 1267650600228229401496703205376 := by decide
        rw [e5]
        omega
      refine ⟨_, rfl, p, _, 2, .int u, rfl, rfl, .of e2, rfl, ?_⟩
      refine ⟨_, rfl, p, _, 1, .int b, rfl, rfl, .of e2, rfl, _, rfl, 50021, u, rfl, rfl, .inl ⟨by decide, by decide⟩, b, _, rfl, rfl, _, rfl, 2, u, rfl, rfl, .inl ⟨by decide, by decide⟩, _, 3, rfl, rfl, _, _, rfl, rfl, .inr ⟨by omega, by omega⟩,
        _, rfl, 6151, u, rfl, rfl, .inl ⟨by decide, by decide⟩, _, rfl, _, u, rfl, rfl, .inr ⟨by omega, by omega⟩, _, _, rfl, rfl, ?_⟩
      obtain ⟨q1, q10, q11, hq1⟩ := prime_at (i := u % 7) (Int.emod_nonneg _ (by decide)) (Int.emod_lt_of_pos _ (by decide))
      obtain ⟨q2, q20, q21, hq2⟩ := prime_at (i := (u + 2) % 7) (Int.emod_nonneg _ (by decide)) (Int.emod_lt_of_pos _ (by decide))
      refine ⟨_, rfl, _, 3, rfl, rfl, bits_small bB, .inl ⟨_, rfl, _, rfl, _, rfl, .inl ⟨u, rfl, u, 7, rfl, rfl, (by show (0 : Int) < 7; decide), tp, _, _, .int q1, rfl, rfl, .of s2, hq1, _, q1, rfl, rfl, q10, ?_⟩⟩⟩
      have f0 := Int.emod_nonneg (((b + 50021 * u) * (2 * u + 3) + 6151 * u * u) ^ (3 : Int).toNat) (Int.ne_of_gt q10)
      have f1 := Int.emod_lt_of_pos (((b + 50021 * u) * (2 * u + 3) + 6151 * u * u) ^ (3 : Int).toNat) q10
      dsimp only
      generalize ((b + 50021 * u) * (2 * u + 3) + 6151 * u * u) ^ (3 : Int).toNat % q1 = F1 at f0 f1 ⊢
      refine ⟨_, rfl, _, rfl, F1, 4091, rfl, rfl, ⟨by decide, by decide⟩, _, rfl, 3, u, rfl, rfl, .inl ⟨by decide, by decide⟩, _, _, rfl, rfl, _, 1, rfl, rfl, F1, _, rfl, rfl, .inl ⟨by omega, by omega⟩, .inl ⟨_, rfl, _, rfl, _, rfl, u, 2, rfl, rfl, .inl ⟨_, rfl, u + 2, 7, rfl, rfl, (by show (0 : Int) < 7; decide), tp, _, _, .int q2, rfl, rfl, .of s2, hq2, _, q2, rfl, rfl, q20, ?_⟩⟩⟩
      refine ⟨_, rfl, _, 16, rfl, rfl, ⟨by decide, by decide⟩, .inl ⟨_, rfl, _, rfl, _, m, rfl, rfl, by show 0 < m; omega, ?_⟩⟩
      exact q _ _ k2 src (Int.emod_nonneg _ (by omega)) (Int.emod_lt_of_pos _ (by omega))
end
end TarK

namespace TarK
open PySem PySem.Spec PyProof.Rows L2 LamX NdefX
theorem ix_listK {X : Cx} {K : PySem.W.Frag} (h : X.K = K) : IxR X (rIxL K) := by
  subst h
  exact ix_list
/-- a comprehension whose elements draw: each of at most c draws -/
theorem lc_src {J : It} {G : Hp → Prop} {Y : Nat → Hp → V → Hp → Prop} {g : TG} {te : TE} {vs : List Nat} {σ : L2.St} {H1 : Hp} {p D : Addr} {Qd : Hp → Prop} {k n c : Nat} (S : V → Prop) (w : Walk J k G Y)
    (hY : ∀ i H v H', Y i H v H' → H' = H) (hz : k ≤ sizeLine) (hD : H1 D = none) (hp : SrcAt H1 p n) (hG : ∀ H, Kp [p] H1 H → G H)
    (hs : ∀ i v H, i < k → Y i H v H → Kp [p] H1 H → SrcAt H p (n + i * c) → ∀ (Q : V → Hp → Prop), (∀ x H', Kp [p] H H' → SrcAt H' p (n + i * c + c) → S x → Q x H') → g v (wipe σ vs) H fun σ2 H2 => wipe σ2 vs = wipe σ vs ∧ te σ2 H2 Q)
    (hd : ∀ H xs, Kp [p] H1 H → SrcAt H p (n + k * c) → H D = some (.lst xs) → xs.length = k → (∀ x ∈ xs, S x) → Qd H) :
    ∃ W : Nat → Nat → Hp → Prop, (∃ m, W 0 m (upd H1 D (.lst []))) ∧ ∀ i m H, W i m H →
      (J.stop i H ∧ Qd H) ∨ (J.go i H ∧ ∃ Nx : Hp → Prop, (∀ H', Nx H' → ∃ m', m' < m ∧ W (i + 1) m' H') ∧ ∀ x H', J.yld i H x H' → g x (wipe σ vs) H' fun σ2 H2 => wipe σ2 vs = wipe σ vs ∧ tYes σ2 H2 fun b H3 =>
        if b = true then te σ2 H3 fun y H4 => ∃ acc, H4 D = some (.lst acc) ∧ acc.length < sizeLine ∧ Nx (upd H4 D (.lst (acc ++ [y]))) else Nx H3) := by
  have npD : p ≠ D := let ⟨_, _, _, e, _⟩ := hp; ne_of_none e hD
  have kd : ∀ {H : Hp}, Kp [D, p] (upd H1 D (.lst [])) H → Kp [p] H1 H := fun {H} kk b u e nb => by
    have hb : b ≠ D := ne_of_none e hD
    exact kk b u (by rw [upd_ne hb]; exact e) fun z => (List.mem_cons.mp z).elim hb nb
  refine lc_it w (fun i H => Kp [D, p] (upd H1 D (.lst [])) H ∧ SrcAt H p (n + i * c) ∧ ∃ xs, H D = some (.lst xs) ∧ xs.length = i ∧ ∀ x ∈ xs, S x) ⟨Kp.refl _ _, ?_, [], upd_same, rfl, fun x hx => absurd hx (by simp)⟩ (fun i H _ e => hG H (kd e.1)) (fun i v H H' hi e y => ?_) (fun H e => ?_)
  · obtain ⟨g, b, t, e, r⟩ := hp
    rw [Nat.zero_mul, Nat.add_zero]
    exact ⟨g, b, t, by rw [upd_ne npD]; exact e, r⟩
  · obtain ⟨kk, sp, xs, hxs, hl, hall⟩ := e
    obtain rfl := hY _ _ _ _ y
    have key := hs i v H' hi y (kd kk) sp (fun y H4 => ∃ acc, H4 D = some (.lst acc) ∧ acc.length < sizeLine ∧ (Kp [D, p] (upd H1 D (.lst [])) (upd H4 D (.lst (acc ++ [y]))) ∧ SrcAt (upd H4 D (.lst (acc ++ [y]))) p (n + (i + 1) * c) ∧ ∃ xs, upd H4 D (.lst (acc ++ [y])) D = some (.lst xs) ∧ xs.length = i + 1 ∧ ∀ x ∈ xs, S x)) (fun x H4 k4 s4 hx => ?_)
    · exact key
    · have hD4 : H4 D = some (.lst xs) := k4 _ _ hxs (by simpa using Ne.symm npD)
      refine ⟨xs, hD4, by omega, ?_, ?_, xs ++ [x], upd_same, by rw [List.length_append, hl] <;> rfl, fun z hz' => ?_⟩
      · refine (kk.trans (fun b u e nb => k4 b u e fun z => nb (List.mem_cons_of_mem _ z))).trans (Kp.put (by simp))
      · obtain ⟨g', b', t', e', r'⟩ := s4
        rw [Nat.succ_mul, ← Nat.add_assoc]
        exact ⟨g', b', t', by rw [upd_ne npD]; exact e', r'⟩
      · rcases List.mem_append.mp hz' with h | h
        · exact hall z h
        · rw [List.mem_singleton.mp h]
          exact hx
  · obtain ⟨kk, sp, xs, hxs, hl, hall⟩ := e
    exact hd H xs (kd kk) sp hxs hl hall
theorem all_map {α : Type} {f : α → V} {R : α → Prop} : ∀ {xs : List V}, (∀ x ∈ xs, ∃ a, x = f a ∧ R a) → ∃ as : List α, xs = as.map f ∧ ∀ a ∈ as, R a
  | [], _ => ⟨[], rfl, fun a ha => absurd ha (by simp)⟩
  | x :: xs, h => by
    obtain ⟨a, rfl, ha⟩ := h x List.mem_cons_self
    obtain ⟨as, rfl, has⟩ := all_map (xs := xs) fun y hy => h y (List.mem_cons_of_mem _ hy)
    refine ⟨a :: as, rfl, fun b hb => ?_⟩
    rcases List.mem_cons.mp hb with e | hb
    · rw [e]; exact ha
    · exact has b hb
/-! ### paths -/
def POk (p : List Nat) : Prop := p.length ≤ 3 ∧ ∀ c ∈ p, c ≠ 47 ∧ c ∈ LETS.cps.toList
def sixL : List V := [.str "a", .str "b", .str "c", .str "a.b", .str "..c", .str "d-1"]
theorem six_at {i : Int} (h0 : 0 ≤ i) (h1 : i < 6) : ∃ q, atI sixL i = some (.str (SX.S q)) ∧ POk q := by
  obtain ⟨n, rfl⟩ := Int.eq_ofNat_of_zero_le h0
  have hn : n < 6 := by omega
  have dec : ∀ q : List Nat, (decide (q.length ≤ 3) && q.all fun c => decide (c ≠ 47) && decide (c ∈ LETS.cps.toList)) = true → POk q := fun q h => by
    rw [Bool.and_eq_true] at h
    refine ⟨of_decide_eq_true h.1, fun c hc => ?_⟩
    have z := List.all_eq_true.mp h.2 c hc
    rw [Bool.and_eq_true] at z
    exact ⟨of_decide_eq_true z.1, of_decide_eq_true z.2⟩
  match n, hn with
  | 0, _ => exact ⟨[97], rfl, dec _ (by decide +kernel)⟩
  | 1, _ => exact ⟨[98], rfl, dec _ (by decide +kernel)⟩
  | 2, _ => exact ⟨[99], rfl, dec _ (by decide +kernel)⟩
  | 3, _ => exact ⟨[97, 46, 98], rfl, dec _ (by decide +kernel)⟩
  | 4, _ => exact ⟨[46, 46, 99], rfl, dec _ (by decide +kernel)⟩
  | 5, _ => exact ⟨[100, 45, 49], rfl, dec _ (by decide +kernel)⟩
theorem join_len : ∀ ps : List (List Nat), (TL.joinL [47] ps).length ≤ (ps.map fun p => p.length + 1).sum
  | [] => Nat.le_refl _
  | [p] => by
    show p.length ≤ p.length + 1 + 0
    omega
  | p :: q :: r => by
    have ih := join_len (q :: r)
    show (p ++ ([47] ++ TL.joinL [47] (q :: r))).length ≤ p.length + 1 + ((q :: r).map fun p => p.length + 1).sum
    rw [List.length_append, List.length_append, List.length_singleton]
    omega
theorem sum_le {c : Nat} : ∀ {ps : List (List Nat)}, (∀ p ∈ ps, p.length ≤ c) → (ps.map fun p => p.length + 1).sum ≤ ps.length * (c + 1)
  | [], _ => Nat.zero_le _
  | p :: ps, h => by
    have ih := sum_le (ps := ps) fun q hq => h q (List.mem_cons_of_mem _ hq)
    have := h p List.mem_cons_self
    rw [List.map_cons, List.sum_cons, List.length_cons, Nat.succ_mul]
    omega
def spPathL : Sp := fun vs H Q _ => ∃ (p : Addr) (n : Nat), vs = [.ref p] ∧ SrcAt H p n ∧ n < 900000 ∧ ∀ H' z, Kp [p] H H' → SrcAt H' p (n + 10) → WOk 120 z → Q (.str z) H'
theorem sc_l_path : FnScope ["_law_source_here", "_law_parts", "_law_turn"] ["_law_source_here"] (defScope s_l_path) := ⟨rfl, rfl, rfl, by decide +kernel, rfl, by decide +kernel, by decide +kernel⟩
section
variable {P : Program} {w : World} {K : PySem.W.Frag} {mg : Str → Option Value} {base : Heap}
theorem ok_l_path (T : TF K mg) : FR P w K mg base 2 (He.ga K "_law_path") spPathL := by
  have G := ok_l_draw (P := P) (w := w) (base := base) T
  refine okR T.fd_l_path sc_l_path (fun _ _ _ _ _ _ _ us hl => match us, hl with | [_], _ => rfl) (fun vs H Q E h => ?_) (fun cdv A outer s H vs Q E hr h => ?_)
  · obtain ⟨p, n, rfl, _⟩ := h
    rfl
  · obtain ⟨p, n, rfl, hp, hn, q⟩ := h
    refine ⟨_, pss_cons (ps_setLc (i := 1) (own := [("_law_turn", 2)]) (g := gName 2) (tt := tYes) rfl sc_l_path.nd rfl rfl (sw_true rfl rfl rfl rfl) (pi_range1 (by rfl) T.f_range (pa_cons (pe_op op_add pe_int (pe_callR G hr T.g__law_draw T.k__law_draw (by rfl) passL (pa_cons (pv 0) (pa_cons pe_int pa_nil)))) pa_nil))
        (blkOk_by (N := ["_law_source_here", "_law_parts", "_law_turn"]) (sc := defScope s_l_path) (by decide +kernel)) (fun _ _ _ _ _ => pg_name (i := 2) sc_l_path.nd rfl (.inl rfl)) (fun _ _ _ _ _ => pts_nil)
        (fun _ _ _ _ _ => pe_ix (ix_listK (K := K) rfl) (pe_lst (pa_cons pe_str (pa_cons pe_str (pa_cons pe_str (pa_cons pe_str (pa_cons pe_str (pa_cons pe_str pa_nil))))))) (pe_callR G hr T.g__law_draw T.k__law_draw (by rfl) passL (pa_cons (pv 0) (pa_cons pe_int pa_nil))) (fun _ _ => rfl)))
      (pss_cons (ps_if (pt_cmpR op_eq (pe_callR G hr T.g__law_draw T.k__law_draw (by rfl) passL (pa_cons (pv 0) (pa_cons pe_int pa_nil))) pe_int (nomark _))
        (pss_one (ps_expr (pe_bm PySem.F.plainAttrs_list PySem.F.slot_list_append PySem.F.type_list_append mt_append (pv 1) (pa_cons (pe_op op_mulS pe_str pe_int) pa_nil)))) pss_nil)
      (pss_one (ps_ret (pe_join pe_str (pv 1))))), ?_⟩
    refine ⟨_, rfl, p, n, 3, rfl, hp, by omega, by decide, by decide, fun H1 d k1 s1 d0 d1 => ?_⟩
    refine ⟨1, d, rfl, rfl, 1 + d, rfl, by omega, by omega, fun D hD => ?_⟩
    refine lc_src (c := 1) (k := (1 + d).toNat) (fun x => ∃ r, x = V.str (SX.S r) ∧ POk r) (walk_range (lo := 0) (n := (1 + d).toNat)) (fun i H v H' y => y.1) (Nat.le_trans (show (1 + d).toNat ≤ 3 by omega) (by decide)) hD s1 (fun _ _ => trivial) (fun i v H2 hi y k2 s2 Q' q' => ?_) (fun H2 xs k2 s2 e2 l2 a2 => ?_)
    · refine ⟨rfl, by show 6 ≤ sizeLine; decide, fun t ht => ?_⟩
      obtain ⟨g, b, t0, e3, r3⟩ := s2
      have npt : p ≠ t := ne_of_none e3 ht
      have ktt : Kp [p] H2 (upd H2 t (.lst sixL)) := Kp.new ht
      refine ⟨_, rfl, p, n + 1 + i * 1, 6, rfl, ⟨g, b, t0, by rw [upd_ne npt]; exact e3, r3⟩, by omega, by decide, by decide, fun H3 d3 k3 s3 d30 d31 => ?_⟩
      obtain ⟨r, hr2, hok⟩ := six_at d30 d31
      exact ⟨t, sixL, d3, _, rfl, rfl, .of (k3 _ _ upd_same (by simpa using Ne.symm npt)), hr2, q' _ H3 (ktt.trans k3) s3 ⟨r, rfl, hok⟩⟩
    · obtain ⟨ps, rfl, hps⟩ := all_map a2
      rw [List.length_map] at l2
      have hdp : D ≠ p := fun z => by
        obtain ⟨g, b, t0, e3, _⟩ := s1
        rw [z, e3] at hD
        cases hD
      refine ⟨_, rfl, p, n + 1 + (1 + d).toNat * 1, 12, rfl, s2, by omega, by decide, by decide, fun H3 d3 k3 s3 d30 d31 => ?_⟩
      have e3 := k3 _ _ e2 (by simpa using hdp)
      have kk : Kp [p] H H3 := (k1.trans k2).trans k3
      have ls : (ps.map fun p => p.length + 1).sum ≤ 12 := by
        have := sum_le (c := 3) (ps := ps) fun q hq => (hps q hq).1
        omega
      have sl : SrcAt H3 p (n + 10) := s3.le (by omega)
      refine ⟨rfl, decide (V.int d3 = V.int 0), rfl, ?_⟩
      have jn : ∀ (qs : List (List Nat)) (H4 : Hp), qs ≠ [] → (∀ r ∈ qs, ∀ c ∈ r, c ≠ 47 ∧ c ∈ LETS.cps.toList) → (qs.map fun p => p.length + 1).sum ≤ 120 → qs.length ≤ 4 → H4 D = some (.lst (qs.map fun r => V.str (SX.S r))) → Kp [p] H H4 → SrcAt H4 p (n + 10) →
          ∃ (a : Str) (pp : Addr) (ys : List Str), V.str ("/" : Str) = .str a ∧ [V.ref D] = [V.ref pp] ∧ (SqL K H4 pp (ys.map V.str) ∨ SqT K H4 pp (ys.map V.str)) ∧ (ys.map (·.length)).sum + ys.length * a.length ≤ 16777216 ∧ Q (.str (Txt.join a ys)) H4 := by
        intro qs H4 hne hqs hsum hl4 e4 k4 s4
        refine ⟨"/", D, qs.map SX.S, rfl, rfl, .inl (.of ?_), ?_, ?_⟩
        · rw [List.map_map]
          exact e4
        · have e5 : ((qs.map SX.S).map (·.length)).sum ≤ (qs.map fun p => p.length + 1).sum := by
            rw [List.map_map]
            have go : ∀ l : List (List Nat), (l.map ((fun x : Str => x.length) ∘ SX.S)).sum ≤ (l.map fun p => p.length + 1).sum := by
              intro l
              induction l with
              | nil => exact Nat.le_refl _
              | cons a l ih =>
                rw [List.map_cons, List.map_cons, List.sum_cons, List.sum_cons]
                have : ((fun x : Str => x.length) ∘ SX.S) a = a.length := SX.S_len a
                omega
            exact go qs
          have h1 : ("/" : Str).length = 1 := rfl
          rw [h1, List.length_map]
          omega
        · rw [join_eq]
          exact q _ _ k4 s4 ⟨qs, ⟨hne, hqs⟩, Nat.le_trans (join_len qs) hsum, rfl⟩
      have hne : ps ≠ [] := fun z => by
        rw [z] at l2
        have l3 : 0 = (1 + d).toNat := l2
        omega
      by_cases z : V.int d3 = V.int 0
      · rw [decide_eq_true z]
        refine ⟨_, rfl, .inl ⟨rfl, _, .of e3⟩, "q", 101, rfl, rfl, ⟨by decide +kernel, by decide +kernel, by decide +kernel⟩, ?_⟩
        refine ⟨D, _, _, rfl, rfl, e3, by rw [List.length_map]; exact Nat.lt_of_le_of_lt (show ps.length ≤ 3 by omega) (by decide), ?_⟩
        have k4 : Kp [p] H (upd H3 D (.lst (ps.map (fun r => V.str (SX.S r)) ++ [.str (Txt.mul "q" 101)]))) := fun b u e nb => by
          have hbD : b ≠ D := ne_of_none (k1 b u e nb) hD
          rw [upd_ne hbD]
          exact kk b u e nb
        refine ⟨⟨_, rfl⟩, _, rfl, jn (ps ++ [List.replicate 101 113]) _ (by simp) (fun r hr => ?_) ?_ (by rw [List.length_append, List.length_singleton]; omega) ?_ k4 ?_⟩
        · rcases List.mem_append.mp hr with h | h
          · exact (hps r h).2
          · rw [List.mem_singleton.mp h]
            intro c hc
            rw [List.eq_of_mem_replicate hc]
            exact ⟨by decide, by decide +kernel⟩
        · rw [List.map_append, List.sum_append]
          show _ + ((List.replicate 101 113).length + 1 + 0) ≤ 120
          rw [List.length_replicate]
          omega
        · rw [upd_same, List.map_append]
          rfl
        · obtain ⟨g, b, t0, e5, r5⟩ := sl
          exact ⟨g, b, t0, by rw [upd_ne (Ne.symm hdp)]; exact e5, r5⟩
      · rw [decide_eq_false z]
        exact ⟨⟨_, rfl⟩, _, rfl, jn ps H3 hne (fun r hr => (hps r hr).2) (by omega) (by omega) e3 kk sl⟩
end
end TarK

namespace TarK
open PySem PySem.Spec PyProof.Rows L2 LamX NdefX
def manyL : List V := [.int 0, .int 1, .int 2, .int 3, .int 5, .int 600]
theorem many_at {i : Int} (h0 : 0 ≤ i) (h1 : i < 6) : ∃ k : Int, atI manyL i = some (.int k) ∧ 0 ≤ k ∧ k ≤ 600 := by
  obtain ⟨n, rfl⟩ := Int.eq_ofNat_of_zero_le h0
  have hn : n < 6 := by omega
  match n, hn with
  | 0, _ => exact ⟨_, rfl, by decide, by decide⟩
  | 1, _ => exact ⟨_, rfl, by decide, by decide⟩
  | 2, _ => exact ⟨_, rfl, by decide, by decide⟩
  | 3, _ => exact ⟨_, rfl, by decide, by decide⟩
  | 4, _ => exact ⟨_, rfl, by decide, by decide⟩
  | 5, _ => exact ⟨_, rfl, by decide, by decide⟩
def byteL : List V := [.int 0, .int 1, .int 65, .int 255]
theorem byte_at {i : Int} (h0 : 0 ≤ i) (h1 : i < 4) : ∃ k : Int, atI byteL i = some (.int k) ∧ 0 ≤ k ∧ k < 256 := by
  obtain ⟨n, rfl⟩ := Int.eq_ofNat_of_zero_le h0
  have hn : n < 4 := by omega
  match n, hn with
  | 0, _ => exact ⟨_, rfl, by decide, by decide⟩
  | 1, _ => exact ⟨_, rfl, by decide, by decide⟩
  | 2, _ => exact ⟨_, rfl, by decide, by decide⟩
  | 3, _ => exact ⟨_, rfl, by decide, by decide⟩
def modeL : List V := [.int 420, .int 493, .int 0, .int 4095]
theorem mode_at {i : Int} (h0 : 0 ≤ i) (h1 : i < 4) : ∃ k : Int, atI modeL i = some (.int k) ∧ 0 ≤ k ∧ k ≤ 4095 := by
  obtain ⟨n, rfl⟩ := Int.eq_ofNat_of_zero_le h0
  have hn : n < 4 := by omega
  match n, hn with
  | 0, _ => exact ⟨_, rfl, by decide, by decide⟩
  | 1, _ => exact ⟨_, rfl, by decide, by decide⟩
  | 2, _ => exact ⟨_, rfl, by decide, by decide⟩
  | 3, _ => exact ⟨_, rfl, by decide, by decide⟩
def timeL : List V := [.int 0, .int 7, .int 8589934591]
theorem time_at {i : Int} (h0 : 0 ≤ i) (h1 : i < 3) : ∃ k : Int, atI timeL i = some (.int k) ∧ 0 ≤ k ∧ k ≤ 8589934591 := by
  obtain ⟨n, rfl⟩ := Int.eq_ofNat_of_zero_le h0
  have hn : n < 3 := by omega
  match n, hn with
  | 0, _ => exact ⟨_, rfl, by decide, by decide⟩
  | 1, _ => exact ⟨_, rfl, by decide, by decide⟩
  | 2, _ => exact ⟨_, rfl, by decide, by decide⟩
theorem SrcAt.new {H : Hp} {p t : Addr} {n : Nat} {o : HO} (s : SrcAt H p n) (h : H t = none) : SrcAt (upd H t o) p n := s.ext (Kp.new h)
theorem SrcAt.ne {H : Hp} {p t : Addr} {n : Nat} (s : SrcAt H p n) (h : H t = none) : p ≠ t := let ⟨_, _, _, e, _⟩ := s; ne_of_none e h
theorem SrcAt.some {H : Hp} {p : Addr} {n : Nat} (s : SrcAt H p n) : H p ≠ none := let ⟨_, _, _, e, _⟩ := s; by rw [e]; simp
/-- what is new behind draws was new ahead of them -/
theorem Kp.fresh {l : List Addr} {H H' : Hp} {a : Addr} (k : Kp l H H') (n : H' a = none) (h : ∀ b ∈ l, H' b ≠ none) : H a = none := by
  cases e : H a with
  | none => rfl
  | some o =>
    by_cases z : a ∈ l
    · exact absurd n (h a z)
    · rw [k a o e z] at n
      cases n
theorem SrcAt.fresh {H H' : Hp} {p a : Addr} {n : Nat} (s : SrcAt H' p n) (k : Kp [p] H H') (h : H' a = none) : H a = none := k.fresh h fun b hb => by rw [List.mem_singleton.mp hb]; exact s.some
def spNums (K : PySem.W.Frag) : Sp := fun vs H Q _ => ∃ (p : Addr) (n : Nat), vs = [.ref p] ∧ SrcAt H p n ∧ n < 900000 ∧
  ∀ H' D (ns : List Int), Kp [p] H H' → SrcAt H' p (n + 700) → H D = none → H' D = some (.lst (ns.map V.int)) → ns.length ≤ 600 → (∀ x ∈ ns, 0 ≤ x ∧ x < 256) → Q (.ref D) H'
def spStampsL (K : PySem.W.Frag) : Sp := fun vs H Q _ => ∃ (p : Addr) (n : Nat), vs = [.ref p] ∧ SrcAt H p n ∧ n < 900000 ∧
  ∀ H' t m s, Kp [p] H H' → SrcAt H' p (n + 2) → H' t = some (.tup [.int m, .int s]) → StOk m s → Q (.ref t) H'
theorem sc_l_numbers : FnScope ["_law_source_here", "_law_many", "_law_turn"] ["_law_source_here"] (defScope s_l_numbers) := ⟨rfl, rfl, rfl, by decide +kernel, rfl, by decide +kernel, by decide +kernel⟩
theorem sc_l_stamps : FnScope ["_law_source_here"] ["_law_source_here"] (defScope s_l_stamps) := ⟨rfl, rfl, rfl, by decide +kernel, rfl, by decide +kernel, by decide +kernel⟩
section
variable {P : Program} {w : World} {K : PySem.W.Frag} {mg : Str → Option Value} {base : Heap}
theorem ok_l_numbers (T : TF K mg) : FR P w K mg base 2 (He.ga K "_law_numbers") (spNums K) := by
  have G := ok_l_draw (P := P) (w := w) (base := base) T
  refine okR T.fd_l_numbers sc_l_numbers (fun _ _ _ _ _ _ _ us hl => match us, hl with | [_], _ => rfl) (fun vs H Q E h => ?_) (fun cdv A outer s H vs Q E hr h => ?_)
  · obtain ⟨p, n, rfl, _⟩ := h
    rfl
  · obtain ⟨p, n, rfl, hp, hn, q⟩ := h
    refine ⟨_, pss_cons (ps_set (i := 1) sc_l_numbers.nd rfl (.inl rfl) (pe_ix ix_list (pe_lst (pa_cons pe_int (pa_cons pe_int (pa_cons pe_int (pa_cons pe_int (pa_cons pe_int (pa_cons pe_int pa_nil))))))) (pe_callR G hr T.g__law_draw T.k__law_draw (by rfl) passL (pa_cons (pv 0) (pa_cons pe_int pa_nil))) (fun _ _ => rfl)))
      (pss_one (ps_ret (pe_lc (own := [("_law_turn", 2)]) (g := gName 2) (tt := tYes) rfl sc_l_numbers.nd (pi_range1 (by rfl) T.f_range (pa_cons (pv 1) pa_nil))
        (blkOk_by (N := ["_law_source_here", "_law_many", "_law_turn"]) (sc := defScope s_l_numbers) (by decide +kernel)) (fun _ _ _ _ _ => pg_name (i := 2) sc_l_numbers.nd rfl (.inl rfl)) (fun _ _ _ _ _ => pts_nil)
        (fun _ _ _ _ _ => pe_ix (ix_listK (K := K) rfl) (pe_lst (pa_cons pe_int (pa_cons pe_int (pa_cons pe_int (pa_cons pe_int pa_nil))))) (pe_callR G hr T.g__law_draw T.k__law_draw (by rfl) passL (pa_cons (pv 0) (pa_cons pe_int pa_nil))) (fun _ _ => rfl))))), ?_⟩
    refine ⟨by show 6 ≤ sizeLine; decide, fun t ht => ?_⟩
    have k0 : Kp [p] H (upd H t (.lst manyL)) := Kp.new ht
    refine ⟨_, rfl, p, n, 6, rfl, hp.new ht, by omega, by decide, by decide, fun H1 d k1 s1 d0 d1 => ?_⟩
    obtain ⟨m, hm, m0, m1⟩ := many_at d0 d1
    refine ⟨t, manyL, d, _, rfl, rfl, .of (k1 _ _ upd_same (by simpa using Ne.symm (hp.ne ht))), hm, ?_⟩
    refine ⟨_, rfl, m, rfl, by omega, by omega, fun D hD => ?_⟩
    have kk := k0.trans k1
    refine lc_src (c := 1) (k := m.toNat) (fun x => ∃ r : Int, x = V.int r ∧ 0 ≤ r ∧ r < 256) (walk_range (lo := 0) (n := m.toNat)) (fun i H v H' y => y.1) (Nat.le_trans (show m.toNat ≤ 600 by omega) (by decide)) hD s1 (fun _ _ => trivial) (fun i v H2 hi y k2 s2 Q' q' => ?_) (fun H2 xs k2 s2 e2 l2 a2 => ?_)
    · refine ⟨rfl, by show 4 ≤ sizeLine; decide, fun t2 ht2 => ?_⟩
      have k3 : Kp [p] H2 (upd H2 t2 (.lst byteL)) := Kp.new ht2
      refine ⟨_, rfl, p, n + 1 + i * 1, 4, rfl, s2.new ht2, by omega, by decide, by decide, fun H3 d3 k4 s3 d30 d31 => ?_⟩
      obtain ⟨r, hr2, r0, r1⟩ := byte_at d30 d31
      exact ⟨t2, byteL, d3, _, rfl, rfl, .of (k4 _ _ upd_same (by simpa using Ne.symm (s2.ne ht2))), hr2, q' _ H3 (k3.trans k4) s3 ⟨r, rfl, r0, r1⟩⟩
    · obtain ⟨ns, rfl, hns⟩ := all_map a2
      rw [List.length_map] at l2
      exact q H2 D ns (kk.trans k2) (s2.le (by omega)) (s1.fresh kk hD) e2 (by omega) hns
theorem ok_l_stamps (T : TF K mg) : FR P w K mg base 2 (He.ga K "_law_stamps") (spStampsL K) := by
  have G := ok_l_draw (P := P) (w := w) (base := base) T
  refine okR T.fd_l_stamps sc_l_stamps (fun _ _ _ _ _ _ _ us hl => match us, hl with | [_], _ => rfl) (fun vs H Q E h => ?_) (fun cdv A outer s H vs Q E hr h => ?_)
  · obtain ⟨p, n, rfl, _⟩ := h
    rfl
  · obtain ⟨p, n, rfl, hp, hn, q⟩ := h
    refine ⟨_, pss_one (ps_ret (pe_tup (pa_cons
        (pe_ix ix_list (pe_lst (pa_cons pe_int (pa_cons pe_int (pa_cons pe_int (pa_cons pe_int pa_nil))))) (pe_callR G hr T.g__law_draw T.k__law_draw (by rfl) passL (pa_cons (pv 0) (pa_cons pe_int pa_nil))) (fun _ _ => rfl))
        (pa_cons (pe_ix ix_list (pe_lst (pa_cons pe_int (pa_cons pe_int (pa_cons pe_int pa_nil)))) (pe_callR G hr T.g__law_draw T.k__law_draw (by rfl) passL (pa_cons (pv 0) (pa_cons pe_int pa_nil))) (fun _ _ => rfl)) pa_nil)))), ?_⟩
    refine ⟨by show 4 ≤ sizeLine; decide, fun t ht => ?_⟩
    have k0 : Kp [p] H (upd H t (.lst modeL)) := Kp.new ht
    refine ⟨_, rfl, p, n, 4, rfl, hp.new ht, by omega, by decide, by decide, fun H1 d k1 s1 d0 d1 => ?_⟩
    obtain ⟨m, hm, m0, m1⟩ := mode_at d0 d1
    refine ⟨t, modeL, d, _, rfl, rfl, .of (k1 _ _ upd_same (by simpa using Ne.symm (hp.ne ht))), hm, ?_⟩
    refine ⟨by show 3 ≤ sizeLine; decide, fun t2 ht2 => ?_⟩
    have k2 : Kp [p] H1 (upd H1 t2 (.lst timeL)) := Kp.new ht2
    refine ⟨_, rfl, p, n + 1, 3, rfl, s1.new ht2, by omega, by decide, by decide, fun H2 e k3 s2 e0 e1 => ?_⟩
    obtain ⟨r, hr2, r0, r1⟩ := time_at e0 e1
    refine ⟨t2, timeL, e, _, rfl, rfl, .of (k3 _ _ upd_same (by simpa using Ne.symm (s1.ne ht2))), hr2, ?_⟩
    exact ⟨by show 2 ≤ sizeLine; decide, fun t3 ht3 => q _ t3 m r ((((k0.trans k1).trans k2).trans k3).trans (Kp.new ht3)) (s2.new ht3) upd_same ⟨⟨m0, m1⟩, r0, r1⟩⟩
end
end TarK

namespace TarK
open PySem PySem.Spec PyProof.Rows L2 LamX NdefX
/-- a piece as the law draws it: the list of its numbers is new since H0 -/
def PcAt (K : PySem.W.Frag) (H0 H : Hp) (p : Int × List Int) (v : V) : Prop := ∃ a nl, v = .ref a ∧ SqT K H a [.int p.1, .ref nl] ∧ H nl = some (.lst (p.2.map V.int)) ∧ H0 nl = none
def arr (p : Int × List Int) : Int × Array UInt8 := (p.1, byteArr p.2)
def spPcs (K : PySem.W.Frag) : Sp := fun vs H Q _ => ∃ (p : Addr) (n : Nat), vs = [.ref p] ∧ SrcAt H p n ∧ n < 900000 ∧
  ∀ H' t l size pcs ts, Kp [p] H H' → SrcAt H' p (n + 10) → H' t = some (.tup [.int size, .ref l]) → H' l = some (.lst ts) → H l = none → Paired (PcAt K H H') pcs ts → PcOk size (pcs.map arr) → pcs.length ≤ 2 → (∀ q ∈ pcs, q.2.length ≤ 4096 ∧ ∀ x ∈ q.2, 0 ≤ x ∧ x < 256) → Q (.ref t) H'
theorem sc_l_pieces : FnScope ["_law_source_here", "_law_one", "_law_two", "_law_pieces_here", "_law_end"] ["_law_source_here"] (defScope s_l_pieces) := ⟨rfl, rfl, rfl, by decide +kernel, rfl, by decide +kernel, by decide +kernel⟩
theorem rep_map (x : Int) : ∀ n : Nat, (List.replicate n [V.int x]).flatten = (List.replicate n x).map V.int
  | 0 => rfl
  | n + 1 => by
    rw [List.replicate_succ, List.flatten_cons, rep_map x n]
    rfl
def moreL : List V := [.int 0, .int 1, .int 30]
theorem more_at {i : Int} (h0 : 0 ≤ i) (h1 : i < 3) : ∃ k : Int, atI moreL i = some (.int k) ∧ 0 ≤ k ∧ k ≤ 30 := by
  obtain ⟨n, rfl⟩ := Int.eq_ofNat_of_zero_le h0
  have hn : n < 3 := by omega
  match n, hn with
  | 0, _ => exact ⟨_, rfl, by decide, by decide⟩
  | 1, _ => exact ⟨_, rfl, by decide, by decide⟩
  | 2, _ => exact ⟨_, rfl, by decide, by decide⟩
theorem arr_size (ns : List Int) : (byteArr ns).size = ns.length := by
  unfold byteArr
  simp
def enOf (o t e : Int) : Nat → Int
  | 0 => 0
  | 1 => o + t
  | _ => o + t + 1 + e + 2
theorem pcs_ok {one two e k : Int} (o0 : 0 ≤ one) (t1 : 1 ≤ two) (t2 : two ≤ 3) (o1 : one < 4) (e0 : 0 ≤ e) (e1 : e < 600) (k0 : 0 ≤ k) (k1 : k ≤ 30) : ∀ c : Nat, c < 3 →
    PcOk (enOf one two e c + k) ((([(one, List.replicate two.toNat (7 : Int)), (one + two + 1 + e, [9, 0])] : List (Int × List Int)).take c).map arr)
  | 0, _ => ⟨⟨fun i o n h => (by cases i <;> cases h), (by show (-1 : Int) ≤ 0 + k; omega), Nat.zero_le _⟩, (by show 0 ≤ 0 + k; omega), (by show 0 + k ≤ 4096; omega), fun p hp => absurd hp (by simp)⟩
  | 1, _ => by
    have es : ((byteArr (List.replicate two.toNat (7 : Int))).size : Int) = two := by
      rw [arr_size, List.length_replicate]
      omega
    refine ⟨⟨fun i o n h => ?_, ?_, Nat.le_of_ble_eq_true rfl⟩, (by show 0 ≤ one + two + k; omega), (by show one + two + k ≤ 4096; omega), fun p hp => ?_⟩
    · match i, h with
      | 0, h =>
        have h' : some (one, ((byteArr (List.replicate two.toNat (7 : Int))).size : Int)) = some (o, n) := h
        cases h'
        rw [es]
        exact ⟨by show (-1 : Int) < one; omega, t1⟩
    · show one + ((byteArr (List.replicate two.toNat (7 : Int))).size : Int) ≤ one + two + k
      rw [es]
      omega
    · rw [List.mem_singleton.mp hp]
      show (byteArr (List.replicate two.toNat (7 : Int))).size ≤ 4096
      omega
  | 2, _ => by
    have es : ((byteArr (List.replicate two.toNat (7 : Int))).size : Int) = two := by
      rw [arr_size, List.length_replicate]
      omega
    have es2 : ((byteArr [9, 0]).size : Int) = 2 := by
      rw [arr_size]
      rfl
    refine ⟨⟨fun i o n h => ?_, ?_, Nat.le_of_ble_eq_true rfl⟩, (by show 0 ≤ one + two + 1 + e + 2 + k; omega), (by show one + two + 1 + e + 2 + k ≤ 4096; omega), fun p hp => ?_⟩
    · match i, h with
      | 0, h =>
        have h' : some (one, ((byteArr (List.replicate two.toNat (7 : Int))).size : Int)) = some (o, n) := h
        cases h'
        rw [es]
        exact ⟨by show (-1 : Int) < one; omega, t1⟩
      | 1, h =>
        have h' : some (one + two + 1 + e, ((byteArr [9, 0]).size : Int)) = some (o, n) := h
        cases h'
        rw [es2]
        refine ⟨?_, by decide⟩
        show one + ((byteArr (List.replicate two.toNat (7 : Int))).size : Int) < one + two + 1 + e
        rw [es]
        omega
    · show one + two + 1 + e + ((byteArr [9, 0]).size : Int) ≤ one + two + 1 + e + 2 + k
      rw [es2]
      omega
    · rcases List.mem_cons.mp hp with h | h
      · rw [h]
        show (byteArr (List.replicate two.toNat (7 : Int))).size ≤ 4096
        omega
      · rw [List.mem_singleton.mp h]
        show (byteArr [9, 0]).size ≤ 4096
        omega
section
variable {P : Program} {w : World} {K : PySem.W.Frag} {mg : Str → Option Value} {base : Heap}
theorem ok_l_pieces (T : TF K mg) : FR P w K mg base 2 (He.ga K "_law_pieces") (spPcs K) := by
  have G := ok_l_draw (P := P) (w := w) (base := base) T
  refine okR T.fd_l_pieces sc_l_pieces (fun _ _ _ _ _ _ _ us hl => match us, hl with | [_], _ => rfl) (fun vs H Q E h => ?_) (fun cdv A outer s H vs Q E hr h => ?_)
  · obtain ⟨p, n, rfl, _⟩ := h
    rfl
  · obtain ⟨p, n, rfl, hp, hn, q⟩ := h
    refine ⟨_, pss_cons (ps_par (i := 1) (j := 2) rfl sc_l_pieces.nd rfl rfl (by decide) rfl rfl (pa_cons (pe_callR G hr T.g__law_draw T.k__law_draw (by rfl) passL (pa_cons (pv 0) (pa_cons pe_int pa_nil))) (pa_cons (pe_op op_add pe_int (pe_callR G hr T.g__law_draw T.k__law_draw (by rfl) passL (pa_cons (pv 0) (pa_cons pe_int pa_nil)))) pa_nil)) rfl)
      (pss_cons (ps_set (i := 3) sc_l_pieces.nd rfl (.inl rfl) (pe_slice sl_list (pe_lst (pa_cons (pe_tup (pa_cons (pv 1) (pa_cons (pe_op op_rep (pe_lst (pa_cons pe_int pa_nil)) (pv 2)) pa_nil)))
          (pa_cons (pe_tup (pa_cons (pe_op op_add (pe_op op_add (pe_op op_add (pv 1) (pv 2)) pe_int) (pe_callR G hr T.g__law_draw T.k__law_draw (by rfl) passL (pa_cons (pv 0) (pa_cons pe_int pa_nil)))) (pa_cons (pe_lst (pa_cons pe_int (pa_cons pe_int pa_nil))) pa_nil))) pa_nil)))
          po_none (po_some (pe_callR G hr T.g__law_draw T.k__law_draw (by rfl) passL (pa_cons (pv 0) (pa_cons pe_int pa_nil))))))
      (pss_cons (ps_set (i := 4) sc_l_pieces.nd rfl (.inl rfl) (pe_ifExp (pt_cmpR (op_neNil hr.units0) (pv 3) (pe_lst pa_nil) (by rfl))
          (pe_op op_add (pe_ix ix_tup (pe_ix ix_list (pv 3) (pe_un un_neg pe_int) (fun _ _ => rfl)) pe_int (fun _ _ => rfl)) (pe_callB call_len (by rfl) T.f_len boot_len (pa_cons (pe_ix ix_tup (pe_ix ix_list (pv 3) (pe_un un_neg pe_int) (fun _ _ => rfl)) pe_int (fun _ _ => rfl)) pa_nil))) pe_int))
      (pss_one (ps_ret (pe_tup (pa_cons (pe_op op_add (pv 4) (pe_ix ix_list (pe_lst (pa_cons pe_int (pa_cons pe_int (pa_cons pe_int pa_nil)))) (pe_callR G hr T.g__law_draw T.k__law_draw (by rfl) passL (pa_cons (pv 0) (pa_cons pe_int pa_nil))) (fun _ _ => rfl))) (pa_cons (pv 3) pa_nil))))))), ?_⟩
    refine ⟨_, rfl, p, n, 4, rfl, hp, by omega, by decide, by decide, fun H1 one k1 s1 o0 o1 => ?_⟩
    refine ⟨_, rfl, p, n + 1, 3, rfl, s1, by omega, by decide, by decide, fun H2 d k2 s2 d0 d1 => ⟨1, d, rfl, rfl, _, _, rfl, ?_⟩⟩
    dsimp only
    have w0 : 1 ≤ 1 + d := by omega
    have w1 : 1 + d ≤ 3 := by omega
    generalize 1 + d = two at w0 w1 ⊢
    have kk2 := k1.trans k2
    refine ⟨_, rfl, by show 1 ≤ sizeLine; decide, fun l7 h7 => ⟨_, rfl, l7, two, _, rfl, rfl, upd_same, by omega, by omega, Nat.le_trans (show 1 * two.toNat ≤ 3 by omega) (by decide), fun nl1 hn1 => ?_⟩⟩
    rw [rep_map]
    refine ⟨by show 2 ≤ sizeLine; decide, fun t1 ht1 => ?_⟩
    have f1 : H2 nl1 = none := (Kp.new (l := []) h7).isNone hn1 (by simp)
    have n1t : nl1 ≠ t1 := ne_of_none upd_same ht1
    have kA : Kp [] H2 (upd (upd (upd H2 l7 (.lst [.int 7])) nl1 (.lst ((List.replicate two.toNat (7 : Int)).map V.int))) t1 (.tup [.int one, .ref nl1])) := ((Kp.new h7).trans (Kp.new hn1)).trans (Kp.new ht1)
    have aN : upd (upd (upd H2 l7 (.lst [.int 7])) nl1 (.lst ((List.replicate two.toNat (7 : Int)).map V.int))) t1 (.tup [.int one, .ref nl1]) nl1 = some (.lst ((List.replicate two.toNat (7 : Int)).map V.int)) := by rw [upd_ne n1t, upd_same]
    have aT : upd (upd (upd H2 l7 (.lst [.int 7])) nl1 (.lst ((List.replicate two.toNat (7 : Int)).map V.int))) t1 (.tup [.int one, .ref nl1]) t1 = some (.tup [.int one, .ref nl1]) := upd_same
    generalize upd (upd (upd H2 l7 (.lst [.int 7])) nl1 (.lst ((List.replicate two.toNat (7 : Int)).map V.int))) t1 (.tup [.int one, .ref nl1]) = H3 at kA aN aT ⊢
    have s3 := s2.ext kA
    have g1 : H nl1 = none := s2.fresh kk2 f1
    refine ⟨_, rfl, _, rfl, one, two, rfl, rfl, _, 1, rfl, rfl, _, rfl, p, n + 2, 600, rfl, s3, by omega, by decide, by decide, fun H4 e k4 s4 e0 e1 => ⟨_, e, rfl, rfl, by show 2 ≤ sizeLine; decide, fun nl2 hn2 => ⟨by show 2 ≤ sizeLine; decide, fun t2 ht2 => ⟨by show 2 ≤ sizeLine; decide, fun L hL => ?_⟩⟩⟩⟩
    have pN1 : nl1 ≠ p := fun z => s2.some (by rw [← z]; exact f1)
    have pT1 : t1 ≠ p := fun z => by
      obtain ⟨g, b, t, e9, _⟩ := s3
      rw [← z, aT] at e9
      cases e9
    have bN := k4 _ _ aN (by simpa using pN1)
    have bT := k4 _ _ aT (by simpa using pT1)
    have g2 : H nl2 = none := s4.fresh ((kk2.trans (Kp.of kA _)).trans k4) hn2
    have n2t : nl2 ≠ t2 := ne_of_none upd_same ht2
    have kB : Kp [] H4 (upd (upd (upd H4 nl2 (.lst [.int 9, .int 0])) t2 (.tup [.int (one + two + 1 + e), .ref nl2])) L (.lst [.ref t1, .ref t2])) := ((Kp.new hn2).trans (Kp.new ht2)).trans (Kp.new hL)
    have c1 : upd (upd (upd H4 nl2 (.lst [.int 9, .int 0])) t2 (.tup [.int (one + two + 1 + e), .ref nl2])) L (.lst [.ref t1, .ref t2]) nl2 = some (.lst [.int 9, .int 0]) := by
      have z : upd (upd H4 nl2 (.lst [.int 9, .int 0])) t2 (.tup [.int (one + two + 1 + e), .ref nl2]) nl2 = some (.lst [.int 9, .int 0]) := by rw [upd_ne n2t, upd_same]
      rw [upd_ne (ne_of_none z hL)]
      exact z
    have c2 : upd (upd (upd H4 nl2 (.lst [.int 9, .int 0])) t2 (.tup [.int (one + two + 1 + e), .ref nl2])) L (.lst [.ref t1, .ref t2]) t2 = some (.tup [.int (one + two + 1 + e), .ref nl2]) := by
      have z : upd (upd H4 nl2 (.lst [.int 9, .int 0])) t2 (.tup [.int (one + two + 1 + e), .ref nl2]) t2 = some (.tup [.int (one + two + 1 + e), .ref nl2]) := upd_same
      rw [upd_ne (ne_of_none z hL)]
      exact z
    have c3 : upd (upd (upd H4 nl2 (.lst [.int 9, .int 0])) t2 (.tup [.int (one + two + 1 + e), .ref nl2])) L (.lst [.ref t1, .ref t2]) L = some (.lst [.ref t1, .ref t2]) := upd_same
    have pN2 : nl2 ≠ p := fun z => s4.some (by rw [← z]; exact hn2)
    have pT2 : t2 ≠ p := Ne.symm ((s4.new (o := .lst [.int 9, .int 0]) hn2).ne ht2)
    have pL : L ≠ p := Ne.symm (((s4.new (o := .lst [.int 9, .int 0]) hn2).new (o := .tup [.int (one + two + 1 + e), .ref nl2]) ht2).ne hL)
    dsimp only
    generalize upd (upd (upd H4 nl2 (.lst [.int 9, .int 0])) t2 (.tup [.int (one + two + 1 + e), .ref nl2])) L (.lst [.ref t1, .ref t2]) = H5 at kB c1 c2 c3 ⊢
    have kk5 : Kp [p] H H5 := (((kk2.trans (Kp.of kA _)).trans k4).trans (Kp.of kB _))
    have s5 := s4.ext kB
    refine ⟨_, rfl, p, n + 3, 3, rfl, s5, by omega, by decide, by decide, fun H6 c k6 s6 c0 c1' => ?_⟩
    obtain ⟨c, rfl⟩ := Int.eq_ofNat_of_zero_le c0
    have hc3 : c < 3 := by omega
    refine ⟨_, rfl, L, _, rfl, .of (k6 _ _ c3 (by simpa using pL)), fun D hD => ?_⟩
    rw [cut_to]
    have kk6 : Kp [p] H (upd H6 D (.lst (([V.ref t1, V.ref t2] : List V).take c))) := (kk5.trans k6).trans (Kp.new hD)
    have fD : H D = none := s6.fresh (kk5.trans k6) hD
    have kC : Kp [p] H5 (upd H6 D (.lst (([V.ref t1, V.ref t2] : List V).take c))) := k6.trans (Kp.new hD)
    have x1 : upd H6 D (.lst (([V.ref t1, V.ref t2] : List V).take c)) nl1 = some (.lst ((List.replicate two.toNat (7 : Int)).map V.int)) := kC _ _ (kB _ _ bN (by simp)) (by simpa using pN1)
    have x2 : upd H6 D (.lst (([V.ref t1, V.ref t2] : List V).take c)) t1 = some (.tup [.int one, .ref nl1]) := kC _ _ (kB _ _ bT (by simp)) (by simpa using pT1)
    have x3 : upd H6 D (.lst (([V.ref t1, V.ref t2] : List V).take c)) nl2 = some (.lst [.int 9, .int 0]) := kC _ _ c1 (by simpa using pN2)
    have x4 : upd H6 D (.lst (([V.ref t1, V.ref t2] : List V).take c)) t2 = some (.tup [.int (one + two + 1 + e), .ref nl2]) := kC _ _ c2 (by simpa using pT2)
    have x5 : upd H6 D (.lst (([V.ref t1, V.ref t2] : List V).take c)) D = some (.lst (([V.ref t1, V.ref t2] : List V).take c)) := upd_same
    have pD : D ≠ p := Ne.symm (s6.ne hD)
    have s7 : SrcAt (upd H6 D (.lst (([V.ref t1, V.ref t2] : List V).take c))) p (n + 4) := s6.new hD
    generalize upd H6 D (.lst (([V.ref t1, V.ref t2] : List V).take c)) = H7 at kk6 x1 x2 x3 x4 x5 s7 ⊢
    refine ⟨_, rfl, by show 0 ≤ sizeLine; decide, fun E2 hE => ?_⟩
    have kE : Kp [] H7 (upd H7 E2 (.lst [])) := Kp.new hE
    have y1 := kE _ _ x1 (by simp)
    have y2 := kE _ _ x2 (by simp)
    have y3 := kE _ _ x3 (by simp)
    have y4 := kE _ _ x4 (by simp)
    have y5 := kE _ _ x5 (by simp)
    have y6 : upd H7 E2 (.lst []) E2 = some (.lst []) := upd_same
    have s8 := s7.ext kE
    generalize upd H7 E2 (.lst []) = H8 at kE y1 y2 y3 y4 y5 y6 s8 ⊢
    refine ⟨D, E2, _, rfl, rfl, .of y5, .of y6, _, rfl, ?_⟩
    refine if_val (fun v => v = .int (enOf one two e c)) (fun hb => ?_) (fun hb => ?_) (fun v hv => ?_)
    · match c, hc3, hb, y5 with
      | 0, _, hb, _ => cases hb
      | 1, _, _, y5 =>
        refine ⟨_, rfl, fun Q' q' => ⟨_, rfl, 1, rfl, D, _, -1, .ref t1, rfl, rfl, .of y5, rfl, t1, _, 0, .int one, rfl, rfl, .of y2, rfl, _, rfl, 1, rfl, D, _, -1, .ref t1, rfl, rfl, .of y5, rfl, t1, _, 1, .ref nl1, rfl, rfl, .of y2, rfl, _, _, rfl, .inl ⟨_, .of y1, rfl⟩, one, _, rfl, rfl, ?_⟩⟩
        have ez : one + (((List.replicate two.toNat (7 : Int)).map V.int).length : Int) = enOf one two e 1 := by
          rw [List.length_map, List.length_replicate]
          show one + (two.toNat : Int) = one + two
          omega
        dsimp only
        rw [ez]
        exact q'
      | 2, _, _, y5 =>
        refine ⟨_, rfl, fun Q' q' => ⟨_, rfl, 1, rfl, D, _, -1, .ref t2, rfl, rfl, .of y5, rfl, t2, _, 0, .int (one + two + 1 + e), rfl, rfl, .of y4, rfl, _, rfl, 1, rfl, D, _, -1, .ref t2, rfl, rfl, .of y5, rfl, t2, _, 1, .ref nl2, rfl, rfl, .of y4, rfl, _, _, rfl, .inl ⟨_, .of y3, rfl⟩, _, _, rfl, rfl, ?_⟩⟩
        exact q'
    · match c, hc3, hb with
      | 0, _, _ => exact ⟨.int 0, rfl, fun Q' q' => q'⟩
      | 1, _, hb => cases hb
      | 2, _, hb => cases hb
    · subst hv
      refine ⟨_, rfl, by show 3 ≤ sizeLine; decide, fun t3 ht3 => ?_⟩
      have kF : Kp [p] H8 (upd H8 t3 (.lst moreL)) := Kp.new ht3
      refine ⟨_, rfl, p, n + 4, 3, rfl, s8.new ht3, by omega, by decide, by decide, fun H9 m k9 s9 m0 m1 => ?_⟩
      obtain ⟨k, hk, k0, k1'⟩ := more_at m0 m1
      refine ⟨t3, moreL, m, _, rfl, rfl, .of (k9 _ _ upd_same (by simpa using Ne.symm (s8.ne ht3))), hk, _, k, rfl, rfl, _, rfl, by show 2 ≤ sizeLine; decide, fun tt htt => ?_⟩
      have kG : Kp [p] H8 (upd H9 tt (.tup [.int (enOf one two e c + k), .ref D])) := (kF.trans k9).trans (Kp.new htt)
      have z1 := kG _ _ y1 (by simpa using pN1)
      have z2 := kG _ _ y2 (by simpa using pT1)
      have z3 := kG _ _ y3 (by simpa using pN2)
      have z4 := kG _ _ y4 (by simpa using pT2)
      refine q _ tt D (enOf one two e c + k) (([(one, List.replicate two.toNat (7 : Int)), (one + two + 1 + e, [9, 0])] : List (Int × List Int)).take c) _ ((kk6.trans (Kp.of kE _)).trans kG) ((s9.new htt).le (by omega)) upd_same (kG _ _ y5 (by simpa using pD)) fD ?_ (pcs_ok o0 w0 w1 o1 e0 e1 k0 k1' c hc3) ?_ (fun q hq => ?_)
      · have a1 : PcAt K H (upd H9 tt (.tup [.int (enOf one two e c + k), .ref D])) (one, List.replicate two.toNat (7 : Int)) (.ref t1) := ⟨t1, nl1, rfl, .of z2, z1, g1⟩
        have a2 : PcAt K H (upd H9 tt (.tup [.int (enOf one two e c + k), .ref D])) (one + two + 1 + e, [9, 0]) (.ref t2) := ⟨t2, nl2, rfl, .of z4, z3, g2⟩
        match c, hc3 with
        | 0, _ => exact .nil
        | 1, _ => exact .cons a1 .nil
        | 2, _ => exact .cons a1 (.cons a2 .nil)
      · rw [List.length_take]
        exact Nat.le_trans (Nat.min_le_right _ _) (Nat.le_refl 2)
      · have hq2 := List.mem_of_mem_take hq
        rcases List.mem_cons.mp hq2 with h | h
        · rw [h]
          refine ⟨by rw [List.length_replicate]; omega, fun x hx => ?_⟩
          rw [List.eq_of_mem_replicate hx]
          decide
        · rw [List.mem_singleton.mp h]
          exact ⟨by show ([9, 0] : List Int).length ≤ 4096; decide, by show ∀ x ∈ ([9, 0] : List Int), 0 ≤ x ∧ x < 256; decide⟩
end
end TarK

namespace TarK
open PySem PySem.Spec PyProof.Rows L2 LamX NdefX
/-! ### what the law draws of a member -/
inductive Spc where
  | file (n : Str) (ns : List Int) (m t : Int)
  | dir (n : Str) (m t : Int)
  | sym (n g : Str) (m t : Int)
  | link (n g : Str) (m t : Int)
  | sparse (n : Str) (size : Int) (pcs : List (Int × List Int)) (m t : Int)
/-- v is the tuple of s at H; its lists are new since H0 -/
def SpecAt (K : PySem.W.Frag) (H0 H : Hp) (s : Spc) (v : V) : Prop := ∃ a, v = .ref a ∧ match s with
  | .file n ns m t => ∃ l, SqT K H a [.str "file", .str n, .int m, .int t, .ref l] ∧ H l = some (.lst (ns.map V.int)) ∧ H0 l = none
  | .dir n m t => SqT K H a [.str "directory", .str n, .int m, .int t]
  | .sym n g m t => SqT K H a [.str "symlink", .str n, .int m, .int t, .str g]
  | .link n g m t => SqT K H a [.str "link", .str n, .int m, .int t, .str g]
  | .sparse n size pcs m t => ∃ b l ts, SqT K H a [.str "sparse", .str n, .int m, .int t, .ref b] ∧ SqT K H b [.int size, .ref l] ∧ H l = some (.lst ts) ∧ H0 l = none ∧ Paired (PcAt K H0 H) pcs ts
/-- .. what is known of it, by what is known of names -/
def SpcOk (N : Str → Prop) : Spc → Prop
  | .file n ns m t => N n ∧ StOk m t ∧ ns.length ≤ 4096 ∧ ∀ x ∈ ns, 0 ≤ x ∧ x < 256
  | .dir n m t => N n ∧ StOk m t
  | .sym n g m t => N n ∧ NmOk g ∧ StOk m t
  | .link n g m t => N n ∧ N g ∧ StOk m t
  | .sparse n size pcs m t => N n ∧ StOk m t ∧ PcOk size (pcs.map arr) ∧ pcs.length ≤ 2 ∧ ∀ q ∈ pcs, q.2.length ≤ 4096 ∧ ∀ x ∈ q.2, 0 ≤ x ∧ x < 256
section
variable {K : PySem.W.Frag} {H0 H H' : Hp} {l : List Addr}
theorem PcAt.kp {p : Int × List Int} {v : V} (h : PcAt K H0 H p v) (k : Kp l H H') (m : ∀ b ∈ l, Mut (H b)) (n : ∀ b ∈ l, H0 b ≠ none) : PcAt K H0 H' p v := by
  obtain ⟨a, nl, e, h1, h2, h3⟩ := h
  exact ⟨a, nl, e, sqT_kp h1 k m, k _ _ h2 fun z => n _ z h3, h3⟩
theorem PcAt.old {p : Int × List Int} {v : V} {H1 : Hp} (h : PcAt K H0 H p v) (n : ∀ b, H0 b = none → H1 b = none) : PcAt K H1 H p v := by
  obtain ⟨a, nl, e, h1, h2, h3⟩ := h
  exact ⟨a, nl, e, h1, h2, n _ h3⟩
theorem SpecAt.kp {s : Spc} {v : V} (h : SpecAt K H0 H s v) (k : Kp l H H') (m : ∀ b ∈ l, Mut (H b)) (n : ∀ b ∈ l, H0 b ≠ none) : SpecAt K H0 H' s v := by
  obtain ⟨a, e, h⟩ := h
  refine ⟨a, e, ?_⟩
  cases s with
  | file nm ns mo t =>
    obtain ⟨nl, h1, h2, h3⟩ := h
    exact ⟨nl, sqT_kp h1 k m, k _ _ h2 fun z => n _ z h3, h3⟩
  | dir nm mo t => exact sqT_kp h k m
  | sym nm g mo t => exact sqT_kp h k m
  | link nm g mo t => exact sqT_kp h k m
  | sparse nm size pcs mo t =>
    obtain ⟨b, pl, ts, h1, h2, h3, h4, h5⟩ := h
    exact ⟨b, pl, ts, sqT_kp h1 k m, sqT_kp h2 k m, k _ _ h3 fun z => n _ z h4, h4, Paired.mapP h5 fun _ _ z => z.kp k m n⟩
theorem SpecAt.old {s : Spc} {v : V} {H1 : Hp} (h : SpecAt K H0 H s v) (n : ∀ b, H0 b = none → H1 b = none) : SpecAt K H1 H s v := by
  obtain ⟨a, e, h⟩ := h
  refine ⟨a, e, ?_⟩
  cases s with
  | file nm ns mo t =>
    obtain ⟨nl, h1, h2, h3⟩ := h
    exact ⟨nl, h1, h2, n _ h3⟩
  | dir nm mo t => exact h
  | sym nm g mo t => exact h
  | link nm g mo t => exact h
  | sparse nm size pcs mo t =>
    obtain ⟨b, pl, ts, h1, h2, h3, h4, h5⟩ := h
    exact ⟨b, pl, ts, h1, h2, h3, n _ h4, Paired.mapP h5 fun _ _ z => z.old n⟩
end
/-- what is new later was new ahead -/
theorem Kp.olds {l : List Addr} {H H' : Hp} (k : Kp l H H') (h : ∀ b ∈ l, H' b ≠ none) : ∀ b, H' b = none → H b = none := fun _ n => k.fresh n h
def spSpec (K : PySem.W.Frag) : Sp := fun vs H Q _ => ∃ (p nm : Addr) (n : Nat) (z : Str) (zs : List Str), vs = [.ref p, .str z, .ref nm] ∧ SrcAt H p n ∧ n < 890000 ∧ WOk 120 z ∧ H nm = some (.lst (zs.map V.str)) ∧ nm ≠ p ∧ zs ≠ [] ∧ zs.length ≤ 100 ∧ (∀ y ∈ zs, WOk 120 y) ∧
  ∀ H' v s, Kp [p] H H' → SrcAt H' p (n + 1000) → SpecAt K H H' s v → SpcOk (WOk 120) s → Q v H'
theorem sc_l_spec : FnScope ["_law_source_here", "_law_name", "_law_names", "_law_bits", "_law_time_here", "_law_kind"] ["_law_source_here", "_law_name", "_law_names"] (defScope s_l_spec) := ⟨rfl, rfl, rfl, by decide +kernel, rfl, by decide +kernel, by decide +kernel⟩
def kindL : List V := [.str "file", .str "file", .str "directory", .str "symlink", .str "link", .str "link", .str "sparse"]
theorem kind_at' {i : Int} (h0 : 0 ≤ i) (h1 : i < 7) : ∃ z : Str, atI kindL i = some (.str z) ∧ (z = "file" ∨ z = "directory" ∨ z = "symlink" ∨ z = "link" ∨ z = "sparse") := by
  obtain ⟨n, rfl⟩ := Int.eq_ofNat_of_zero_le h0
  have hn : n < 7 := by omega
  match n, hn with
  | 0, _ => exact ⟨_, rfl, .inl rfl⟩
  | 1, _ => exact ⟨_, rfl, .inl rfl⟩
  | 2, _ => exact ⟨_, rfl, .inr (.inl rfl)⟩
  | 3, _ => exact ⟨_, rfl, .inr (.inr (.inl rfl))⟩
  | 4, _ => exact ⟨_, rfl, .inr (.inr (.inr (.inl rfl)))⟩
  | 5, _ => exact ⟨_, rfl, .inr (.inr (.inr (.inl rfl)))⟩
  | 6, _ => exact ⟨_, rfl, .inr (.inr (.inr (.inr rfl)))⟩
def symL : List V := [.str "a", .str "../b", .str "/", .str (Txt.mul "x" 120), .str "a//."]
theorem sym_at {i : Int} (h0 : 0 ≤ i) (h1 : i < 5) : ∃ z : Str, atI symL i = some (.str z) ∧ NmOk z := by
  obtain ⟨n, rfl⟩ := Int.eq_ofNat_of_zero_le h0
  have hn : n < 5 := by omega
  have dec : ∀ z : Str, (decide (1 ≤ z.length) && (decide (z.length ≤ 250) && z.cps.toList.all fun c => decide (c ∈ LETS.cps.toList))) = true → NmOk z := fun z h => by
    rw [Bool.and_eq_true, Bool.and_eq_true] at h
    exact ⟨of_decide_eq_true h.1, of_decide_eq_true h.2.1, fun c hc => of_decide_eq_true (List.all_eq_true.mp h.2.2 c hc)⟩
  match n, hn with
  | 0, _ => exact ⟨_, rfl, dec _ (by decide +kernel)⟩
  | 1, _ => exact ⟨_, rfl, dec _ (by decide +kernel)⟩
  | 2, _ => exact ⟨_, rfl, dec _ (by decide +kernel)⟩
  | 3, _ => exact ⟨_, rfl, dec _ (by decide +kernel)⟩
  | 4, _ => exact ⟨_, rfl, dec _ (by decide +kernel)⟩
section
variable {P : Program} {w : World} {K : PySem.W.Frag} {mg : Str → Option Value} {base : Heap}
theorem ok_l_spec (T : TF K mg) : FR P w K mg base 3 (He.ga K "_law_spec") (spSpec K) := by
  have G := ok_l_draw (P := P) (w := w) (base := base) T
  have G1 := ok_l_stamps (P := P) (w := w) (base := base) T
  have G2 := ok_l_numbers (P := P) (w := w) (base := base) T
  have G3 := ok_l_pieces (P := P) (w := w) (base := base) T
  refine okR T.fd_l_spec sc_l_spec (fun _ _ _ _ _ _ _ us hl => match us, hl with | [_, _, _], _ => rfl) (fun vs H Q E h => ?_) (fun cdv A outer s H vs Q E hr h => ?_)
  · obtain ⟨p, nm, n, z, zs, rfl, _⟩ := h
    rfl
  · obtain ⟨p, nm, n, z, zs, rfl, hp, hn, hz, hnm, npn, zne, zl, zok, q⟩ := h
    refine ⟨_, pss_cons (ps_asg (pe_callR G1 hr T.g__law_stamps T.k__law_stamps (by rfl) passL (pa_cons (pv 0) pa_nil)) (pg_tup rfl (pgs_cons (pg_name (i := 3) sc_l_spec.nd rfl (.inl rfl)) (pgs_cons (pg_name (i := 4) sc_l_spec.nd rfl (.inl rfl)) pgs_nil))))
      (pss_cons (ps_set (i := 5) sc_l_spec.nd rfl (.inl rfl) (pe_ix ix_list (pe_lst (pa_cons pe_str (pa_cons pe_str (pa_cons pe_str (pa_cons pe_str (pa_cons pe_str (pa_cons pe_str (pa_cons pe_str pa_nil)))))))) (pe_callR (G.mono (by decide)) hr T.g__law_draw T.k__law_draw (by rfl) passL (pa_cons (pv 0) (pa_cons pe_int pa_nil))) (fun _ _ => rfl)))
      (pss_cons (ps_if (pt_cmpR op_eq (pv 5) pe_str (nomark _)) (pss_one (ps_ret (pe_tup (pa_cons (pv 5) (pa_cons (pv 1) (pa_cons (pv 3) (pa_cons (pv 4) (pa_cons (pe_callR G2 hr T.g__law_numbers T.k__law_numbers (by rfl) passL (pa_cons (pv 0) pa_nil)) pa_nil)))))))) pss_nil)
      (pss_cons (ps_if (pt_cmpR op_eq (pv 5) pe_str (nomark _)) (pss_one (ps_ret (pe_tup (pa_cons (pv 5) (pa_cons (pv 1) (pa_cons (pv 3) (pa_cons (pv 4) pa_nil))))))) pss_nil)
      (pss_cons (ps_if (pt_cmpR op_eq (pv 5) pe_str (nomark _)) (pss_one (ps_ret (pe_tup (pa_cons (pv 5) (pa_cons (pv 1) (pa_cons (pv 3) (pa_cons (pv 4) (pa_cons (pe_callR G3 hr T.g__law_pieces T.k__law_pieces (by rfl) passL (pa_cons (pv 0) pa_nil)) pa_nil)))))))) pss_nil)
      (pss_cons (ps_if (pt_cmpR op_eq (pv 5) pe_str (nomark _)) (pss_one (ps_ret (pe_tup (pa_cons (pv 5) (pa_cons (pv 1) (pa_cons (pv 3) (pa_cons (pv 4) (pa_cons
          (pe_ix ix_list (pe_lst (pa_cons pe_str (pa_cons pe_str (pa_cons pe_str (pa_cons (pe_op op_mulS pe_str pe_int) (pa_cons pe_str pa_nil)))))) (pe_callR (G.mono (by decide)) hr T.g__law_draw T.k__law_draw (by rfl) passL (pa_cons (pv 0) (pa_cons pe_int pa_nil))) (fun _ _ => rfl)) pa_nil)))))))) pss_nil)
      (pss_one (ps_ret (pe_tup (pa_cons (pv 5) (pa_cons (pv 1) (pa_cons (pv 3) (pa_cons (pv 4) (pa_cons
          (pe_ix ix_list (pv 2) (pe_callR (G.mono (by decide)) hr T.g__law_draw T.k__law_draw (by rfl) passL (pa_cons (pv 0) (pa_cons (pe_callB call_len (by rfl) T.f_len boot_len (pa_cons (pv 2) pa_nil)) pa_nil))) (fun _ _ => rfl)) pa_nil))))))))))))), ?_⟩
    refine ⟨_, rfl, p, n, rfl, hp, by omega, fun H1 t m s k1 s1 ht hst => ?_⟩
    refine ⟨t, _, rfl, .of ht, rfl, _, _, rfl, _, _, rfl, rfl, ?_⟩
    refine ⟨by show 7 ≤ sizeLine; decide, fun t2 ht2 => ?_⟩
    have k2 : Kp [p] H1 (upd H1 t2 (.lst kindL)) := Kp.new ht2
    refine ⟨_, rfl, p, n + 2, 7, rfl, s1.new ht2, by omega, by decide, by decide, fun H2 d k3 s2 d0 d1 => ?_⟩
    obtain ⟨kd, hkd, hk⟩ := kind_at' d0 d1
    refine ⟨t2, kindL, d, _, rfl, rfl, .of (k3 _ _ upd_same (by simpa using Ne.symm (s1.ne ht2))), hkd, ?_⟩
    have kk : Kp [p] H H2 := (k1.trans k2).trans k3
    have ol : ∀ b, H2 b = none → H b = none := kk.olds fun b hb => by rw [List.mem_singleton.mp hb]; exact s2.some
    clear hkd
    refine ⟨_, rfl, rfl, ?_⟩
    rcases hk with rfl | rfl | rfl | rfl | rfl
    · refine ⟨true, rfl, ?_⟩
      refine ⟨_, rfl, _, rfl, _, rfl, _, rfl, _, rfl, p, n + 2 + 1, rfl, s2, by omega, fun H3 D ns k4 s3 fD hD hl hb => ⟨by show 5 ≤ sizeLine; decide, fun r hr2 => ?_⟩⟩
      have kr := Kp.new (l := [p]) (o := .tup [.str "file", .str z, .int m, .int s, .ref D]) hr2
      exact q _ (.ref r) (.file z ns m s) ((kk.trans k4).trans kr) ((s3.new hr2).le (by omega)) ⟨r, rfl, D, .of upd_same, kr _ _ hD (by simpa using fun e : D = p => s2.some (by rw [← e]; exact fD)), ol _ fD⟩ ⟨hz, hst, by omega, hb⟩
    · refine ⟨false, rfl, _, rfl, rfl, true, rfl, ?_⟩
      refine ⟨_, rfl, _, rfl, _, rfl, _, rfl, by show 4 ≤ sizeLine; decide, fun r hr2 => ?_⟩
      exact q _ (.ref r) (.dir z m s) (kk.trans (Kp.new hr2)) ((s2.new hr2).le (by omega)) ⟨r, rfl, .of upd_same⟩ ⟨hz, hst⟩
    · refine ⟨false, rfl, _, rfl, rfl, false, rfl, _, rfl, rfl, false, rfl, _, rfl, rfl, true, rfl, ?_⟩
      refine ⟨_, rfl, _, rfl, _, rfl, _, rfl, "x", 120, rfl, rfl, ⟨by decide +kernel, by decide +kernel, by decide +kernel⟩, by show 5 ≤ sizeLine; decide, fun t3 ht3 => ?_⟩
      have k4 : Kp [p] H2 (upd H2 t3 (.lst symL)) := Kp.new ht3
      refine ⟨_, rfl, p, n + 2 + 1, 5, rfl, s2.new ht3, by omega, by decide, by decide, fun H3 e k5 s3 e0 e1 => ?_⟩
      obtain ⟨g, hg, gok⟩ := sym_at e0 e1
      refine ⟨t3, symL, e, _, rfl, rfl, .of (k5 _ _ upd_same (by simpa using Ne.symm (s2.ne ht3))), hg, by show 5 ≤ sizeLine; decide, fun r hr2 => ?_⟩
      exact q _ (.ref r) (.sym z g m s) (((kk.trans k4).trans k5).trans (Kp.new hr2)) ((s3.new hr2).le (by omega)) ⟨r, rfl, .of upd_same⟩ ⟨hz, gok, hst⟩
    · refine ⟨false, rfl, _, rfl, rfl, false, rfl, _, rfl, rfl, false, rfl, _, rfl, rfl, false, rfl, ?_⟩
      have e2 := kk _ _ hnm (by simpa using npn)
      have zl0 : zs.length ≠ 0 := fun e => zne (List.length_eq_zero_iff.mp e)
      refine ⟨_, rfl, _, rfl, _, rfl, _, rfl, _, rfl, _, rfl, _, rfl, _, _, rfl, .inl ⟨_, .of e2, rfl⟩, p, n + 2 + 1, _, rfl, s2, by omega, by rw [List.length_map]; omega, by rw [List.length_map]; omega, fun H3 e k5 s3 e0 e1 => ?_⟩
      rw [List.length_map] at e1
      obtain ⟨i, rfl⟩ := Int.eq_ofNat_of_zero_le e0
      have hi : i < zs.length := by omega
      have e3 := k5 _ _ e2 (by simpa using npn)
      refine ⟨nm, _, _, .str zs[i], rfl, rfl, .of e3, atI_nat (by rw [List.getElem?_map, List.getElem?_eq_getElem hi] <;> rfl), by show 5 ≤ sizeLine; decide, fun r hr2 => ?_⟩
      exact q _ (.ref r) (.link z zs[i] m s) ((kk.trans k5).trans (Kp.new hr2)) ((s3.new hr2).le (by omega)) ⟨r, rfl, .of upd_same⟩ ⟨hz, zok _ (List.getElem_mem hi), hst⟩
    · refine ⟨false, rfl, _, rfl, rfl, false, rfl, _, rfl, rfl, true, rfl, ?_⟩
      refine ⟨_, rfl, _, rfl, _, rfl, _, rfl, _, rfl, p, n + 2 + 1, rfl, s2, by omega, fun H3 b l size pcs ts k4 s3 hb hl fl pr ok pl pb => ⟨by show 5 ≤ sizeLine; decide, fun r hr2 => ?_⟩⟩
      have kr := Kp.new (l := ([] : List Addr)) (o := .tup [.str "sparse", .str z, .int m, .int s, .ref b]) hr2
      have km : ∀ x ∈ ([] : List Addr), Mut (H3 x) := fun x hx => absurd hx (by simp)
      exact q _ (.ref r) (.sparse z size pcs m s) ((kk.trans k4).trans (Kp.of kr _)) ((s3.new hr2).le (by omega)) ⟨r, rfl, b, l, ts, .of upd_same, .of (kr _ _ hb (by simp)), kr _ _ hl (by simp), ol _ fl, Paired.mapP pr fun _ _ y => (y.old ol).kp kr km fun x hx => absurd hx (by simp)⟩ ⟨hz, hst, ok, pl, pb⟩
end
end TarK

namespace TarK
open PySem PySem.Spec PyProof.Rows L2 LamX NdefX
/-- the draws of up to eight members -/
def spSpecs (K : PySem.W.Frag) : Sp := fun vs H Q _ => ∃ (p : Addr) (n : Nat), vs = [.ref p, .int 8] ∧ SrcAt H p n ∧ n < 800000 ∧
  ∀ H' D (ss : List Spc) xs, Kp [p] H H' → SrcAt H' p (n + 9000) → H D = none → H' D = some (.lst xs) → Paired (SpecAt K H H') ss xs → ss.length ≤ 8 → (∀ s ∈ ss, SpcOk (WOk 120) s) → Q (.ref D) H'
def hd1 (z : Str) : Str := SX.S ((splB z).headD [])
theorem hd1_ok {n : Nat} {z : Str} (h : WOk n z) : WOk n (hd1 z) := by
  obtain ⟨p, r, e⟩ := h.split
  unfold hd1
  rw [e]
  exact h.part (by rw [e]; exact List.mem_cons_self)
theorem WOk.len {n : Nat} {z : Str} (h : WOk n z) : z.length ≤ n := by
  obtain ⟨ps, _, hl, rfl⟩ := h
  show (SX.S _).length ≤ n
  rw [SX.S_len]
  exact hl
theorem sc_l_specs : FnScope ["_law_source_here", "_law_most", "_law_names", "_law_found", "_law_turn", "_law_name"] ["_law_source_here", "_law_most"] (defScope s_l_specs) := ⟨rfl, rfl, rfl, by decide +kernel, rfl, by decide +kernel, by decide +kernel⟩
section
variable {P : Program} {w : World} {K : PySem.W.Frag} {mg : Str → Option Value} {base : Heap}
theorem ok_l_specs (T : TF K mg) : FR P w K mg base 4 (He.ga K "_law_specs") (spSpecs K) := by
  have G := ok_l_draw (P := P) (w := w) (base := base) T
  have G1 := ok_l_path (P := P) (w := w) (base := base) T
  have G2 := ok_l_spec (P := P) (w := w) (base := base) T
  refine okR T.fd_l_specs sc_l_specs (fun _ _ _ _ _ _ _ us hl => match us, hl with | [_, _], _ => rfl) (fun vs H Q E h => ?_) (fun cdv A outer s H vs Q E hr h => ?_)
  · obtain ⟨p, n, rfl, _⟩ := h
    rfl
  · obtain ⟨p, n, rfl, hp, hn, q⟩ := h
    refine ⟨_, PSs.nox <| pss_cons (ps_setLc (i := 2) (own := [("_law_turn", 4)]) (g := gName 4) (tt := tYes) rfl sc_l_specs.nd rfl rfl (sw_true rfl rfl rfl rfl) (pi_range1 (by rfl) T.f_range (pa_cons (pe_op op_add pe_int (pe_callR (G.mono (by decide)) hr T.g__law_draw T.k__law_draw (by rfl) passL (pa_cons (pv 0) (pa_cons pe_int pa_nil)))) pa_nil))
        (blkOk_by (N := ["_law_source_here", "_law_most", "_law_names", "_law_found", "_law_turn", "_law_name"]) (sc := defScope s_l_specs) (by decide +kernel)) (fun _ _ _ _ _ => pg_name (i := 4) sc_l_specs.nd rfl (.inl rfl)) (fun _ _ _ _ _ => pts_nil)
        (fun _ _ _ _ _ => pe_callR (G1.mono (by decide)) hr T.g__law_path T.k__law_path (by rfl) passL (pa_cons (pv 0) pa_nil)))
      (pss_cons (ps_par (i := 2) (j := 3) rfl sc_l_specs.nd rfl rfl (by decide) rfl rfl (pa_cons (pe_op op_cat (pv 2) (pe_lc (own := [("_law_name", 5)]) (g := gName 5) (tt := tYes) rfl sc_l_specs.nd (pi_list (pv 2))
          (blkOk_by (N := ["_law_source_here", "_law_most", "_law_names", "_law_found", "_law_turn", "_law_name"]) (sc := defScope s_l_specs) (by decide +kernel)) (fun _ _ _ _ _ => pg_name (i := 5) sc_l_specs.nd rfl (.inl rfl)) (fun _ _ _ _ _ => pts_nil)
          (fun _ _ _ _ _ => pe_ix (ix_listK (K := K) rfl) (pe_split (pv 5) pe_str) pe_int (fun _ _ => rfl)))) (pa_cons (pe_lst pa_nil) pa_nil)) rfl)
      (pss_cons (ps_for PassesOwn.never rfl (pi_range1 (by rfl) T.f_range (pa_cons (pe_callR (G.mono (by decide)) hr T.g__law_draw T.k__law_draw (by rfl) passL (pa_cons (pv 0) (pa_cons (pe_op op_add (pv 1) pe_int) pa_nil))) pa_nil)) (pg_name (i := 4) sc_l_specs.nd rfl (.inl rfl))
        (pss_one (ps_expr (pe_bm PySem.F.plainAttrs_list PySem.F.slot_list_append PySem.F.type_list_append mt_append (pv 3) (pa_cons (pe_callR G2 hr T.g__law_spec T.k__law_spec (by rfl) passL (pa_cons (pv 0) (pa_cons
          (pe_ix ix_list (pv 2) (pe_callR (G.mono (by decide)) hr T.g__law_draw T.k__law_draw (by rfl) passL (pa_cons (pv 0) (pa_cons (pe_callB call_len (by rfl) T.f_len boot_len (pa_cons (pv 2) pa_nil)) pa_nil))) (fun _ _ => rfl)) (pa_cons (pv 2) pa_nil)))) pa_nil)))))
      (pss_one (ps_ret (pv 3))))), ?_⟩
    refine ⟨_, rfl, p, n, 5, rfl, hp, by omega, by decide, by decide, fun H1 d k1 s1 d0 d1 => ⟨1, d, rfl, rfl, 1 + d, rfl, by omega, by omega, fun D hD => ?_⟩⟩
    refine lc_src (c := 10) (k := (1 + d).toNat) (fun x => ∃ z : Str, x = V.str z ∧ WOk 120 z) (walk_range (lo := 0) (n := (1 + d).toNat)) (fun i H v H' y => y.1) (Nat.le_trans (show (1 + d).toNat ≤ 5 by omega) (by decide)) hD s1 (fun _ _ => trivial) (fun i v H2 hi y k2 s2 Q' q' => ?_) (fun H2 xs k2 s2 e2 l2 a2 => ?_)
    · have hi5 : i < 5 := by omega
      exact ⟨rfl, _, rfl, p, n + 1 + i * 10, rfl, s2, by omega, fun H3 z k3 s3 hz => q' _ H3 k3 s3 ⟨z, rfl, hz⟩⟩
    obtain ⟨zs, rfl, hzs⟩ := all_map a2
    rw [List.length_map] at l2
    have kk2 := k1.trans k2
    have zl : zs.length ≤ 5 := by omega
    have zne : zs ≠ [] := fun z => by
      rw [z] at l2
      have l3 : 0 = (1 + d).toNat := l2
      omega
    have s2' : SrcAt H2 p (n + 51) := s2.le (by omega)
    have Dp : D ≠ p := fun z => s1.some (by rw [← z]; exact hD)
    refine ⟨_, rfl, _, rfl, D, rfl, ⟨_, .of e2⟩, fun D2 hD2 => ?_⟩
    refine lc_mapK (xs := zs) (walk_list (K := K) (a := D) (xs := zs.map V.str)) (List.length_map _) V.str (fun z => V.str (hd1 z)) (yl (K := K)) (Nat.le_trans zl (by decide)) hD2 (fun H3 k3 => .of (k3 _ _ e2 (by simp))) (fun z hz H3 k3 k hk => ?_) (fun H3 k3 e3 => ?_)
    · have wz := hzs z hz
      obtain ⟨p0, r0, es⟩ := wz.split
      refine ⟨rfl, _, rfl, ⟨_, rfl⟩, _, _, rfl, rfl, by decide, Nat.le_trans (Nat.add_le_add_right wz.len 2) (by decide), fun t ht => ?_⟩
      rw [split_eq, es]
      have eh : hd1 z = SX.S p0 := by unfold hd1; rw [es]; rfl
      refine ⟨t, _, 0, .str (SX.S p0), rfl, rfl, .of upd_same, atI_nat (j := 0) rfl, ?_⟩
      rw [← eh]
      exact hk _ (Kp.new ht)
    have e23 := k3 _ _ e2 (by simp)
    refine ⟨D, D2, _, _, rfl, rfl, e23, e3, by rw [List.length_map, List.length_map]; exact Nat.le_trans (show zs.length + zs.length ≤ 10 by omega) (by decide), fun N hN => ⟨by show 0 ≤ sizeLine; decide, fun F hF => ⟨_, _, rfl, ?_⟩⟩⟩
    have ezz : zs.map V.str ++ zs.map (fun z => V.str (hd1 z)) = (zs ++ zs.map hd1).map V.str := by rw [List.map_append, List.map_map]; rfl
    rw [ezz] at hF ⊢
    have zok : ∀ y ∈ zs ++ zs.map hd1, WOk 120 y := fun y hy => by
      rcases List.mem_append.mp hy with h | h
      · exact hzs y h
      · obtain ⟨x, hx, rfl⟩ := List.mem_map.mp h
        exact hd1_ok (hzs x hx)
    have zl2 : (zs ++ zs.map hd1).length ≤ 10 := by rw [List.length_append, List.length_map]; omega
    have zne2 : zs ++ zs.map hd1 ≠ [] := fun z => zne (List.append_eq_nil_iff.mp z).1
    generalize zs ++ zs.map hd1 = ys at hF zok zl2 zne2 ⊢
    have k4 : Kp [] H2 (upd (upd H3 N (.lst (ys.map V.str))) F (.lst [])) := (k3.trans (Kp.new hN)).trans (Kp.new hF)
    have sN0 : SrcAt (upd H3 N (.lst (ys.map V.str))) p (n + 51) := (s2'.ext k3).new hN
    have Np : N ≠ p := Ne.symm ((s2'.ext k3).ne hN)
    have Fp : F ≠ p := Ne.symm (sN0.ne hF)
    have NF : N ≠ F := ne_of_none upd_same hF
    have eN : upd (upd H3 N (.lst (ys.map V.str))) F (.lst []) N = some (.lst (ys.map V.str)) := by rw [upd_ne NF, upd_same]
    have eF : upd (upd H3 N (.lst (ys.map V.str))) F (.lst []) F = some (.lst []) := upd_same
    have s4 : SrcAt (upd (upd H3 N (.lst (ys.map V.str))) F (.lst [])) p (n + 51) := sN0.new hF
    have fF0 : H2 F = none := (k3.trans (Kp.new hN)).isNone hF (by simp)
    have fF : H F = none := s2'.fresh kk2 fF0
    generalize upd (upd H3 N (.lst (ys.map V.str))) F (.lst []) = H4 at k4 eN eF s4 ⊢
    have kk4 : Kp [p] H H4 := kk2.trans (Kp.of k4 _)
    refine ⟨_, rfl, _, rfl, 8, 1, rfl, rfl, p, n + 51, 9, rfl, s4, by omega, by decide, by decide, fun H5 c k5 s5 c0 c1 => ⟨c, rfl, by omega, by omega, ?_⟩⟩
    have eN5 := k5 _ _ eN (by simpa using Np)
    have eF5 := k5 _ _ eF (by simpa using Fp)
    have kk5 := kk4.trans k5
    have pr5 : ∀ b ∈ [p, F], H5 b ≠ none := fun b hb => by
      rcases List.mem_cons.mp hb with z | z
      · rw [z]; exact s5.some
      · rw [List.mem_singleton.mp z, eF5]; simp
    refine for_it (walk_range (lo := 0) (n := c.toNat)) (fun i σ H' => Kp [p, F] H5 H' ∧ SrcAt H' p (n + 52 + i * 1001) ∧ ∃ (ss : List Spc) (xs : List V) (a b : Option V), σ = [some (.ref p), some (.int 8), some (.ref N), some (.ref F), a, b] ∧ H' F = some (.lst xs) ∧ Paired (SpecAt K H5 H') ss xs ∧ ss.length = i ∧ ∀ s ∈ ss, SpcOk (WOk 120) s)
      ⟨Kp.refl _ _, s5.le (by omega), [], [], _, _, rfl, eF5, .nil, rfl, fun s hs => absurd hs (by simp)⟩ (fun _ _ _ _ _ => trivial) (fun i v σ Hq H' hi e y => ?_) (fun σ H' e => ?_)
    · obtain ⟨rfl, rfl⟩ := y
      obtain ⟨kp, sp, ss, xs, a, b, rfl, hxs, pr, ssl, ok⟩ := e
      have hi8 : i < 8 := by omega
      have eN6 := kp _ _ eN5 (by simpa using ⟨Np, NF⟩)
      have yl0 : ys.length ≠ 0 := fun e => zne2 (List.length_eq_zero_iff.mp e)
      refine ⟨_, rfl, .inl ⟨rfl, xs, .of hxs⟩, _, rfl, _, rfl, _, rfl, _, rfl, _, _, rfl, .inl ⟨_, .of eN6, rfl⟩, p, _, _, rfl, sp, by omega, by rw [List.length_map]; omega, by rw [List.length_map]; omega, fun H6 e k6 s6 e0 e1 => ?_⟩
      rw [List.length_map] at e1
      obtain ⟨j, rfl⟩ := Int.eq_ofNat_of_zero_le e0
      have hj : j < ys.length := by omega
      have eN7 := k6 _ _ eN6 (by simpa using Np)
      have eF6 := k6 _ _ hxs (by simpa using Fp)
      refine ⟨N, _, _, .str ys[j], rfl, rfl, .of eN7, atI_nat (by rw [List.getElem?_map, List.getElem?_eq_getElem hj] <;> rfl), _, rfl, p, N, _, ys[j], ys, rfl, s6, by omega, zok _ (List.getElem_mem hj), eN7, Np, zne2, by omega, zok, fun H7 v s k7 s7 hsp hok => ?_⟩
      have eF7 := k7 _ _ eF6 (by simpa using Fp)
      have xl : xs.length = i := by rw [← Paired.length pr]; exact ssl
      refine ⟨F, xs, v, rfl, rfl, eF7, Nat.lt_of_le_of_lt (show xs.length ≤ 8 by omega) (by decide), ?_⟩
      have k8 : Kp [F] H7 (upd H7 F (.lst (xs ++ [v]))) := Kp.put (List.mem_singleton.mpr rfl)
      have e8 : upd H7 F (.lst (xs ++ [v])) F = some (.lst (xs ++ [v])) := upd_same
      have s8 : SrcAt (upd H7 F (.lst (xs ++ [v]))) p (n + 52 + (i + 1) * 1001) := by
        obtain ⟨g, b', t, e9, r9⟩ := s7.le (m := n + 52 + (i + 1) * 1001) (by omega)
        exact ⟨g, b', t, k8 _ _ e9 (by simpa using Ne.symm Fp), r9⟩
      generalize upd H7 F (.lst (xs ++ [v])) = H8 at k8 e8 s8 ⊢
      have w6 : Kp [p, F] H' H6 := fun b o e nb => k6 b o e fun z => nb (by rw [List.mem_singleton.mp z]; simp)
      have w7 : Kp [p, F] H6 H7 := fun b o e nb => k7 b o e fun z => nb (by rw [List.mem_singleton.mp z]; simp)
      have w8 : Kp [p, F] H7 H8 := fun b o e nb => k8 b o e fun z => nb (by rw [List.mem_singleton.mp z]; simp)
      have wA := (w6.trans w7).trans w8
      have mu : ∀ b ∈ [p, F], Mut (H' b) := fun b hb => by
        rcases List.mem_cons.mp hb with z | z
        · rw [z]; exact sp.mu p (by simp)
        · rw [List.mem_singleton.mp z, hxs]; trivial
      have pr6 : ∀ b ∈ [p, F], H6 b ≠ none := fun b hb => by
        rcases List.mem_cons.mp hb with z | z
        · rw [z]; exact s6.some
        · rw [List.mem_singleton.mp z, eF6]; simp
      have o5 : ∀ b, H6 b = none → H5 b = none := (kp.trans w6).olds pr6
      refine ⟨kp.trans wA, s8, ss ++ [s], xs ++ [v], _, _, rfl, e8, Paired.snoc (Paired.mapP pr fun _ _ z => z.kp wA mu pr5) ((hsp.old o5).kp k8 (mut_lst eF7) fun b hb => by rw [List.mem_singleton.mp hb]; exact pr5 F (by simp)), by rw [List.length_append, ssl] <;> rfl, fun s' hs' => ?_⟩
      rcases List.mem_append.mp hs' with h | h
      · exact ok s' h
      · rw [List.mem_singleton.mp h]; exact hok
    · obtain ⟨kp, sp, ss, xs, a, b, rfl, hxs, pr, ssl, ok⟩ := e
      have hc8 : c.toNat ≤ 8 := by omega
      have kfin : Kp [p] H H' := fun b o e nb => kp b o (kk5 b o e nb) fun z => by
        rcases List.mem_cons.mp z with z | z
        · exact nb (by rw [z]; simp)
        · rw [List.mem_singleton.mp z, fF] at e
          cases e
      have o5 : ∀ b, H5 b = none → H b = none := kk5.olds fun b hb => by rw [List.mem_singleton.mp hb]; exact s5.some
      exact ⟨_, rfl, q _ F ss xs kfin (sp.le (by omega)) fF hxs (Paired.mapP pr fun _ _ z => z.old o5) (by omega) ok⟩
end
end TarK

namespace TarK
open PySem PySem.Spec PyProof.Rows L2 LamX NdefX
/-! ### below a folder -/
def pre (c : Nat) (z : Str) : Str := (SX.S [c] ++ ("/" : Str)) ++ z
theorem pre_eq (c : Nat) (z : Str) : pre c z = SX.S [c, 47] ++ z := by
  have e : SX.S [c] ++ ("/" : Str) = SX.S [c, 47] := by
    rw [show ("/" : Str) = SX.S [47] from rfl, SX.S_cat]
    rfl
  unfold pre
  rw [e]
def bel (c : Nat) : Spc → Spc
  | .file n ns m t => .file (pre c n) ns m t
  | .dir n m t => .dir (pre c n) m t
  | .sym n g m t => .sym (pre c n) g m t
  | .link n g m t => .link (pre c n) (pre c g) m t
  | .sparse n size pcs m t => .sparse (pre c n) size pcs m t
theorem bel_ok {c : Nat} (hc : c ≠ 47 ∧ c ∈ LETS.cps.toList) {s : Spc} (h : SpcOk (WOk 120) s) : SpcOk (NmC c) (bel c s) := by
  have b : ∀ {z : Str}, WOk 120 z → NmC c (pre c z) := fun {z} w => by
    rw [pre_eq]
    exact w.below (by decide) hc
  cases s with
  | file n ns m t => exact ⟨b h.1, h.2⟩
  | dir n m t => exact ⟨b h.1, h.2⟩
  | sym n g m t => exact ⟨b h.1, h.2⟩
  | link n g m t => exact ⟨b h.1, b h.2.1, h.2.2⟩
  | sparse n size pcs m t => exact ⟨b h.1, h.2⟩
section
variable {K : PySem.W.Frag} {H0 H : Hp}
theorem PcAt.mark {p : Int × List Int} {v : V} {D : Addr} {o : HO} (h : PcAt K H0 H p v) (n : H D = none) : PcAt K (upd H0 D o) H p v := by
  obtain ⟨a, nl, e, h1, h2, h3⟩ := h
  exact ⟨a, nl, e, h1, h2, by rw [upd_ne (ne_of_none h2 n)]; exact h3⟩
theorem SpecAt.mark {s : Spc} {v : V} {D : Addr} {o : HO} (h : SpecAt K H0 H s v) (n : H D = none) : SpecAt K (upd H0 D o) H s v := by
  obtain ⟨a, e, h⟩ := h
  refine ⟨a, e, ?_⟩
  cases s with
  | file nm ns mo t =>
    obtain ⟨nl, h1, h2, h3⟩ := h
    exact ⟨nl, h1, h2, by rw [upd_ne (ne_of_none h2 n)]; exact h3⟩
  | dir nm mo t => exact h
  | sym nm g mo t => exact h
  | link nm g mo t => exact h
  | sparse nm size pcs mo t =>
    obtain ⟨b, pl, ts, h1, h2, h3, h4, h5⟩ := h
    exact ⟨b, pl, ts, h1, h2, h3, by rw [upd_ne (ne_of_none h3 n)]; exact h4, Paired.mapP h5 fun _ _ z => z.mark n⟩
/-- a spec's tuple, and what a tuple of the longer name is -/
theorem SpecAt.view {s : Spc} {v : V} {N : Str → Prop} (c : Nat) (h : SpecAt K H0 H s v) (ok : SpcOk N s) : ∃ (a : Addr) (kd n : Str) (m t : Int) (tail : List V), v = .ref a ∧ N n ∧ SqT K H a ([.str kd, .str n, .int m, .int t] ++ tail) ∧
    ((∃ g, kd = "link" ∧ N g ∧ tail = [.str g] ∧ bel c s = .link (pre c n) (pre c g) m t) ∨ (kd ≠ "link" ∧ (tail = [] ∨ ∃ x, tail = [x]) ∧ ∀ H' r, Kp [] H H' → SqT K H' r ([.str kd, .str (pre c n), .int m, .int t] ++ tail) → SpecAt K H0 H' (bel c s) (.ref r))) := by
  have km : ∀ x ∈ ([] : List Addr), Mut (H x) := fun x hx => absurd hx (by simp)
  have kn : ∀ x ∈ ([] : List Addr), H0 x ≠ none := fun x hx => absurd hx (by simp)
  obtain ⟨a, e, h⟩ := h
  cases s with
  | file nm ns mo t =>
    obtain ⟨nl, h1, h2, h3⟩ := h
    exact ⟨a, "file", nm, mo, t, [.ref nl], e, ok.1, h1, .inr ⟨by decide, .inr ⟨_, rfl⟩, fun H' r k hr => ⟨r, rfl, nl, hr, k _ _ h2 (by simp), h3⟩⟩⟩
  | dir nm mo t => exact ⟨a, "directory", nm, mo, t, [], e, ok.1, h, .inr ⟨by decide, .inl rfl, fun H' r k hr => ⟨r, rfl, hr⟩⟩⟩
  | sym nm g mo t => exact ⟨a, "symlink", nm, mo, t, [.str g], e, ok.1, h, .inr ⟨by decide, .inr ⟨_, rfl⟩, fun H' r k hr => ⟨r, rfl, hr⟩⟩⟩
  | link nm g mo t => exact ⟨a, "link", nm, mo, t, [.str g], e, ok.1, h, .inl ⟨g, rfl, ok.2.1, rfl, rfl⟩⟩
  | sparse nm size pcs mo t =>
    obtain ⟨b, pl, ts, h1, h2, h3, h4, h5⟩ := h
    exact ⟨a, "sparse", nm, mo, t, [.ref b], e, ok.1, h1, .inr ⟨by decide, .inr ⟨_, rfl⟩, fun H' r k hr => ⟨r, rfl, b, pl, ts, hr, sqT_ext h2 k, k _ _ h3 (by simp), h4, Paired.mapP h5 fun _ _ z => z.kp k km kn⟩⟩⟩
end
def spBelow (K : PySem.W.Frag) : Sp := fun vs H Q _ => ∃ (c : Nat) (l : Addr) (H0 : Hp) (ss : List Spc) (xs : List V), vs = [.str (SX.S [c]), .ref l] ∧ H l = some (.lst xs) ∧ Paired (SpecAt K H0 H) ss xs ∧ ss.length ≤ 8 ∧ (∀ s ∈ ss, SpcOk (WOk 120) s) ∧
  ∀ H' D xs', Kp [] H H' → H D = none → H' D = some (.lst xs') → Paired (SpecAt K H0 H') (ss.map (bel c)) xs' → Q (.ref D) H'
theorem sc_l_below : FnScope ["_law_folder", "_law_specs_here", "_law_found", "_law_spec_here", "_law_more"] ["_law_folder", "_law_specs_here"] (defScope s_l_below) := ⟨rfl, rfl, rfl, by decide +kernel, rfl, by decide +kernel, by decide +kernel⟩
section
variable {P : Program} {w : World} {K : PySem.W.Frag} {mg : Str → Option Value} {base : Heap}
theorem ok_l_below (T : TF K mg) : FR P w K mg base 1 (He.ga K "_law_below") (spBelow K) := by
  refine okR T.fd_l_below sc_l_below (fun _ _ _ _ _ _ _ us hl => match us, hl with | [_, _], _ => rfl) (fun vs H Q E h => ?_) (fun cdv A outer s H vs Q E hr h => ?_)
  · obtain ⟨c, l, H0, ss, xs, rfl, _⟩ := h
    rfl
  · obtain ⟨c, l, H0, ss, xs, rfl, hl, pr, sl, ok, q⟩ := h
    have hlen : ss.length = xs.length := Paired.length pr
    refine ⟨_, PSs.nox <| pss_cons (ps_set (i := 2) sc_l_below.nd rfl (.inl rfl) (pe_lst pa_nil))
      (pss_cons (ps_for PassesOwn.never rfl (pi_list (pv 1)) (pg_name (i := 3) sc_l_below.nd rfl (.inl rfl))
        (pss_cons (ps_set (i := 4) sc_l_below.nd rfl (.inl rfl) (pe_ifExp (pt_cmpR op_eq (pe_ix ix_tup (pv 3) pe_int (fun _ _ => rfl)) pe_str (nomark _)) (pe_tup (pa_cons (pe_op op_add_str (pe_op op_add_str (pv 0) pe_str) (pe_ix ix_tup (pv 3) pe_int (fun _ _ => rfl))) pa_nil)) (pe_slice sl_tup (pv 3) (po_some pe_int) po_none)))
          (pss_one (ps_expr (pe_bm PySem.F.plainAttrs_list PySem.F.slot_list_append PySem.F.type_list_append mt_append (pv 2) (pa_cons (pe_op op_catT (pe_op op_catT (pe_tup (pa_cons (pe_ix ix_tup (pv 3) pe_int (fun _ _ => rfl)) (pa_cons (pe_op op_add_str (pe_op op_add_str (pv 0) pe_str) (pe_ix ix_tup (pv 3) pe_int (fun _ _ => rfl))) pa_nil))) (pe_slice sl_tup (pv 3) (po_some pe_int) (po_some pe_int))) (pv 4)) pa_nil))))))
      (pss_one (ps_ret (pv 2)))), ?_⟩
    refine ⟨by show 0 ≤ sizeLine; decide, fun D hD => ?_⟩
    have lD : l ≠ D := ne_of_none hl hD
    have k0 : Kp [] H (upd H D (.lst [])) := Kp.new hD
    have e0 : upd H D (.lst []) D = some (.lst []) := upd_same
    have pr0 : Paired (SpecAt K (upd H0 D (.lst [])) (upd H D (.lst []))) ss xs := Paired.mapP pr fun _ _ z => (z.mark hD).kp k0 (fun b hb => absurd hb (by simp)) fun b hb => absurd hb (by simp)
    have hl0 := k0 _ _ hl (by simp)
    have mk : ∀ b ∈ [D], (upd H0 D (.lst [])) b ≠ none := fun b hb => by rw [List.mem_singleton.mp hb, upd_same]; simp
    have old0 : ∀ b, (upd H0 D (.lst [])) b = none → H0 b = none := fun b hb => by
      have : b ≠ D := fun z => by rw [z, upd_same] at hb; cases hb
      rw [upd_ne this] at hb
      exact hb
    generalize upd H0 D (.lst []) = H00 at pr0 mk old0
    generalize upd H D (.lst []) = H1 at k0 e0 pr0 hl0 ⊢
    refine ⟨_, rfl, l, rfl, ⟨_, .of hl0⟩, ?_⟩
    refine for_list (xs := xs) (fun i σ H' => Kp [D] H1 H' ∧ ∃ (acc : List V) (a b : Option V), σ = [some (.str (SX.S [c])), some (.ref l), some (.ref D), a, b] ∧ H' D = some (.lst acc) ∧ Paired (SpecAt K H00 H') ((ss.take i).map (bel c)) acc ∧ acc.length = i)
      ⟨Kp.refl _ _, [], none, none, rfl, e0, by rw [List.take_zero]; exact .nil, rfl⟩ (fun i σ H' _ e => .of (e.1 _ _ hl0 (by simpa using lD))) (fun i v σ H' hv e => ?_) (fun σ H' e => ?_)
    · obtain ⟨kp, acc, a0, b0, rfl, hacc, pa, al⟩ := e
      obtain ⟨s, hs, hsv⟩ := Paired.at pr0 hv
      have hi : i < xs.length := (List.getElem?_eq_some_iff.mp hv).1
      have mD1 : ∀ b ∈ [D], Mut (H1 b) := mut_lst e0
      obtain ⟨a, kd, n, m, t, tail, rfl, hn, hsq, hcase⟩ := (hsv.kp kp mD1 mk).view c (ok s (List.mem_of_getElem? hs))
      have hnl : n.length ≤ 120 := hn.len
      have f1 : (SX.S [c]).length + ("/" : Str).length ≤ sizeLine := by rw [SX.S_len]; exact Nat.le_trans (show 1 + 1 ≤ 2 from Nat.le_refl _) (by decide)
      have f2 : ∀ {z : Str}, z.length ≤ 120 → (SX.S [c] ++ ("/" : Str)).length + z.length ≤ sizeLine := fun {z} h => by
        rw [show ("/" : Str) = SX.S [47] from rfl, SX.S_cat, SX.S_len]
        exact Nat.le_trans (show 2 + z.length ≤ 122 by omega) (by decide)
      have fin : ∀ (H2 : Hp) (r : Addr) (a' b' : Option V), Kp [] H' H2 → SpecAt K H00 H2 (bel c s) (.ref r) → (fun σ H' => Kp [D] H1 H' ∧ ∃ (acc : List V) (a b : Option V), σ = [some (.str (SX.S [c])), some (.ref l), some (.ref D), a, b] ∧ H' D = some (.lst acc) ∧ Paired (SpecAt K H00 H') ((ss.take (i + 1)).map (bel c)) acc ∧ acc.length = i + 1)
          ([some (.str (SX.S [c])), some (.ref l), some (.ref D), a', b'] : L2.St) (upd H2 D (.lst (acc ++ [.ref r]))) := fun H2 r a' b' k2 h2 => by
        have hD2 := k2 _ _ hacc (by simp)
        have k3 : Kp [D] H2 (upd H2 D (.lst (acc ++ [.ref r]))) := Kp.put (List.mem_singleton.mpr rfl)
        have k23 : Kp [D] H' (upd H2 D (.lst (acc ++ [.ref r]))) := (Kp.of k2 _).trans k3
        refine ⟨kp.trans k23, _, a', b', rfl, upd_same, ?_, by rw [List.length_append, al] <;> rfl⟩
        rw [take_snoc hs, List.map_append]
        exact Paired.snoc (Paired.mapP pa fun _ _ z => z.kp k23 (mut_lst hacc) mk) (h2.kp k3 (mut_lst hD2) mk)
      have al2 : acc.length < sizeLine := by rw [al]; exact Nat.lt_of_lt_of_le (show i < 8 by omega) (by decide)
      rcases hcase with ⟨g, rfl, hg, rfl, eb⟩ | ⟨nk, ht, hspec⟩
      · refine ⟨_, rfl, a, _, 0, _, rfl, rfl, hsq, rfl, rfl, true, rfl, ?_⟩
        refine ⟨_, rfl, _, _, rfl, rfl, f1, _, rfl, a, _, 4, .str g, rfl, rfl, hsq, rfl, _, _, rfl, rfl, f2 hg.len, by show 1 ≤ sizeLine; decide, fun q1 hq1 => ?_⟩
        have k1 : Kp [] H' (upd H' q1 (.tup [.str (SX.S [c] ++ ("/" : Str) ++ g)])) := Kp.new hq1
        have h1 : SqT K (upd H' q1 (.tup [.str (SX.S [c] ++ ("/" : Str) ++ g)])) q1 [.str (pre c g)] := .of upd_same
        generalize upd H' q1 (.tup [.str (SX.S [c] ++ ("/" : Str) ++ g)]) = H2 at k1 h1 ⊢
        have hsq2 := sqT_ext hsq k1
        refine ⟨_, rfl, .inl ⟨rfl, acc, .of (k1 _ _ hacc (by simp))⟩, _, rfl, a, _, 0, _, rfl, rfl, hsq2, rfl, _, rfl, _, _, rfl, rfl, f1, _, rfl, a, _, 1, .str n, rfl, rfl, hsq2, rfl, _, _, rfl, rfl, f2 hnl, by show 2 ≤ sizeLine; decide, fun q2 hq2 => ?_⟩
        have k2 : Kp [] H2 (upd H2 q2 (.tup [.str "link", .str (SX.S [c] ++ ("/" : Str) ++ n)])) := Kp.new hq2
        have h2 : SqT K (upd H2 q2 (.tup [.str "link", .str (SX.S [c] ++ ("/" : Str) ++ n)])) q2 [.str "link", .str (pre c n)] := .of upd_same
        generalize upd H2 q2 (.tup [.str "link", .str (SX.S [c] ++ ("/" : Str) ++ n)]) = H3 at k2 h2 ⊢
        refine ⟨_, rfl, 2, rfl, 4, rfl, a, _, rfl, sqT_ext hsq2 k2, (by show ¬ (HT.sIx 5 0 (some 2) = 0 ∧ HT.sIx 5 5 (some 4) = 5); decide), fun q3 hq3 => ?_⟩
        have k3 : Kp [] H3 (upd H3 q3 (.tup [.int m, .int t])) := Kp.new hq3
        have h3 : SqT K (upd H3 q3 (.tup [.int m, .int t])) q3 [.int m, .int t] := .of upd_same
        refine ⟨q2, q3, _, _, rfl, rfl, sqT_ext h2 k3, h3, by simp, by show 4 ≤ sizeLine; decide, fun z => absurd z (by simp), fun _ q4 hq4 => ?_⟩
        have k4 := k3.trans (Kp.new (l := []) (o := .tup ([.str "link", .str (pre c n)] ++ [.int m, .int t])) hq4)
        refine ⟨_, rfl, q4, q1, _, _, rfl, rfl, .of upd_same, sqT_ext h1 (k2.trans k4), by simp, by show 5 ≤ sizeLine; decide, fun z => absurd z (by simp), fun _ q5 hq5 => ?_⟩
        have k5 := (k2.trans k4).trans (Kp.new (l := []) (o := .tup ([.str "link", .str (pre c n)] ++ [.int m, .int t] ++ [.str (pre c g)])) hq5)
        refine ⟨D, acc, _, rfl, rfl, (k1.trans k5) _ _ hacc (by simp), al2, ?_⟩
        refine fin _ q5 _ _ (k1.trans k5) ?_
        rw [eb]
        exact ⟨q5, rfl, .of upd_same⟩
      · refine ⟨_, rfl, a, _, 0, .str kd, rfl, rfl, hsq, atI_nat (j := 0) rfl, rfl, false, ne_dec nk, ?_⟩
        rcases ht with rfl | ⟨x, rfl⟩
        · refine ⟨_, rfl, 4, rfl, a, _, rfl, hsq, (by show ¬ (HT.sIx 4 0 (some 4) = 0 ∧ HT.sIx 4 4 none = 4); decide), fun q1 hq1 => ?_⟩
          have k1 : Kp [] H' (upd H' q1 (.tup [])) := Kp.new hq1
          have h1 : SqT K (upd H' q1 (.tup [])) q1 [] := .of upd_same
          rw [show cutV ([V.str kd, V.str n, V.int m, V.int t] ++ []) (some 4) none = [] from rfl]
          generalize upd H' q1 (.tup []) = H2 at k1 h1 ⊢
          have hsq2 := sqT_ext hsq k1
          refine ⟨_, rfl, .inl ⟨rfl, acc, .of (k1 _ _ hacc (by simp))⟩, _, rfl, a, _, 0, .str kd, rfl, rfl, hsq2, atI_nat (j := 0) rfl, _, rfl, _, _, rfl, rfl, f1, _, rfl, a, _, 1, .str n, rfl, rfl, hsq2, atI_nat (j := 1) rfl, _, _, rfl, rfl, f2 hnl, by show 2 ≤ sizeLine; decide, fun q2 hq2 => ?_⟩
          have k2 : Kp [] H2 (upd H2 q2 (.tup [.str kd, .str (SX.S [c] ++ ("/" : Str) ++ n)])) := Kp.new hq2
          have h2 : SqT K (upd H2 q2 (.tup [.str kd, .str (SX.S [c] ++ ("/" : Str) ++ n)])) q2 [.str kd, .str (pre c n)] := .of upd_same
          generalize upd H2 q2 (.tup [.str kd, .str (SX.S [c] ++ ("/" : Str) ++ n)]) = H3 at k2 h2 ⊢
          refine ⟨_, rfl, 2, rfl, 4, rfl, a, _, rfl, sqT_ext hsq2 k2, (by show ¬ (HT.sIx 4 0 (some 2) = 0 ∧ HT.sIx 4 4 (some 4) = 4); decide), fun q3 hq3 => ?_⟩
          have k3 : Kp [] H3 (upd H3 q3 (.tup [.int m, .int t])) := Kp.new hq3
          have h3 : SqT K (upd H3 q3 (.tup [.int m, .int t])) q3 [.int m, .int t] := .of upd_same
          refine ⟨q2, q3, _, _, rfl, rfl, sqT_ext h2 k3, h3, by simp, by show 4 ≤ sizeLine; decide, fun z => absurd z (by simp), fun _ q4 hq4 => ?_⟩
          have k4 := k3.trans (Kp.new (l := []) (o := .tup ([.str kd, .str (pre c n)] ++ [.int m, .int t])) hq4)
          refine ⟨_, rfl, q4, q1, _, _, rfl, rfl, .of upd_same, sqT_ext h1 (k2.trans k4), by simp, by show 4 ≤ sizeLine; decide, fun _ => ?_, fun z => absurd rfl z⟩
          have k5 := k2.trans k4
          refine ⟨D, acc, _, rfl, rfl, (k1.trans k5) _ _ hacc (by simp), al2, ?_⟩
          exact fin _ q4 _ _ (k1.trans k5) (hspec _ q4 (k1.trans k5) (.of upd_same))
        · refine ⟨_, rfl, 4, rfl, a, _, rfl, hsq, (by show ¬ (HT.sIx 5 0 (some 4) = 0 ∧ HT.sIx 5 5 none = 5); decide), fun q1 hq1 => ?_⟩
          have k1 : Kp [] H' (upd H' q1 (.tup [x])) := Kp.new hq1
          have h1 : SqT K (upd H' q1 (.tup [x])) q1 [x] := .of upd_same
          rw [show cutV ([V.str kd, V.str n, V.int m, V.int t] ++ [x]) (some 4) none = [x] from rfl]
          generalize upd H' q1 (.tup [x]) = H2 at k1 h1 ⊢
          have hsq2 := sqT_ext hsq k1
          refine ⟨_, rfl, .inl ⟨rfl, acc, .of (k1 _ _ hacc (by simp))⟩, _, rfl, a, _, 0, .str kd, rfl, rfl, hsq2, atI_nat (j := 0) rfl, _, rfl, _, _, rfl, rfl, f1, _, rfl, a, _, 1, .str n, rfl, rfl, hsq2, atI_nat (j := 1) rfl, _, _, rfl, rfl, f2 hnl, by show 2 ≤ sizeLine; decide, fun q2 hq2 => ?_⟩
          have k2 : Kp [] H2 (upd H2 q2 (.tup [.str kd, .str (SX.S [c] ++ ("/" : Str) ++ n)])) := Kp.new hq2
          have h2 : SqT K (upd H2 q2 (.tup [.str kd, .str (SX.S [c] ++ ("/" : Str) ++ n)])) q2 [.str kd, .str (pre c n)] := .of upd_same
          generalize upd H2 q2 (.tup [.str kd, .str (SX.S [c] ++ ("/" : Str) ++ n)]) = H3 at k2 h2 ⊢
          refine ⟨_, rfl, 2, rfl, 4, rfl, a, _, rfl, sqT_ext hsq2 k2, (by show ¬ (HT.sIx 5 0 (some 2) = 0 ∧ HT.sIx 5 5 (some 4) = 5); decide), fun q3 hq3 => ?_⟩
          have k3 : Kp [] H3 (upd H3 q3 (.tup [.int m, .int t])) := Kp.new hq3
          have h3 : SqT K (upd H3 q3 (.tup [.int m, .int t])) q3 [.int m, .int t] := .of upd_same
          refine ⟨q2, q3, _, _, rfl, rfl, sqT_ext h2 k3, h3, by simp, by show 4 ≤ sizeLine; decide, fun z => absurd z (by simp), fun _ q4 hq4 => ?_⟩
          have k4 := k3.trans (Kp.new (l := []) (o := .tup ([.str kd, .str (pre c n)] ++ [.int m, .int t])) hq4)
          refine ⟨_, rfl, q4, q1, _, _, rfl, rfl, .of upd_same, sqT_ext h1 (k2.trans k4), by simp, by show 5 ≤ sizeLine; decide, fun z => absurd z (by simp), fun _ q5 hq5 => ?_⟩
          have k5 := (k2.trans k4).trans (Kp.new (l := []) (o := .tup ([.str kd, .str (pre c n)] ++ [.int m, .int t] ++ [x])) hq5)
          refine ⟨D, acc, _, rfl, rfl, (k1.trans k5) _ _ hacc (by simp), al2, ?_⟩
          exact fin _ q5 _ _ (k1.trans k5) (hspec _ q5 (k1.trans k5) (.of upd_same))
    · obtain ⟨kp, acc, a0, b0, rfl, hacc, pa, al⟩ := e
      rw [← hlen, List.take_length] at pa
      have kfin : Kp [] H H' := fun b o e nb => kp b o (k0 b o e nb) (by simpa using ne_of_none e hD)
      exact ⟨_, rfl, q _ D acc kfin hD hacc (Paired.mapP pa fun _ _ z => z.old old0)⟩
end
end TarK

namespace TarK
open PySem PySem.Spec PyProof.Rows L2 LamX NdefX
def spMixed (K : PySem.W.Frag) : Sp := fun vs H Q _ => ∃ (p l1 l2 : Addr) (n : Nat) (xs ys : List V), vs = [.ref p, .ref l1, .ref l2] ∧ SrcAt H p n ∧ n < 900000 ∧ SqL K H l1 xs ∧ SqL K H l2 ys ∧ xs.length ≤ 8 ∧ ys.length ≤ 8 ∧
  ∀ H' D zs, Kp [p] H H' → SrcAt H' p (n + 16) → H' D = some (.lst zs) → TKP.Mix xs ys zs → Q (.ref D) H'
theorem sc_l_mixed : FnScope ["_law_source_here", "_law_one", "_law_two", "_law_first", "_law_second", "_law_found"] ["_law_source_here", "_law_one", "_law_two"] (defScope s_l_mixed) := ⟨rfl, rfl, rfl, by decide +kernel, rfl, by decide +kernel, by decide +kernel⟩
theorem mix_right {α : Type} : ∀ {ys : List α}, TKP.Mix [] ys ys
  | [] => .nil
  | _ :: _ => .right mix_right
theorem mix_left {α : Type} : ∀ {ys : List α}, TKP.Mix ys [] ys
  | [] => .nil
  | _ :: _ => .left mix_left
theorem mix_pair {α β : Type} {F : α → β → Prop} {xs ys zs : List β} (h : TKP.Mix xs ys zs) : ∀ {a b : List α}, Paired F a xs → Paired F b ys → ∃ m, TKP.Mix a b m ∧ Paired F m zs := by
  induction h with
  | nil =>
    intro a b ha hb
    cases ha
    cases hb
    exact ⟨[], .nil, .nil⟩
  | left h ih =>
    intro a b ha hb
    cases ha with
    | cons h1 h2 =>
      obtain ⟨m, hm, pm⟩ := ih h2 hb
      exact ⟨_, .left hm, .cons h1 pm⟩
  | right h ih =>
    intro a b ha hb
    cases hb with
    | cons h1 h2 =>
      obtain ⟨m, hm, pm⟩ := ih ha h2
      exact ⟨_, .right hm, .cons h1 pm⟩
/-- found.append(xs.pop(0)) -/
theorem pop_app {K : PySem.W.Frag} {D : Ends} {σ : L2.St} {H : Hp} {i j : Nat} {A F : Addr} {a : V} {as acc : List V} (hi : σ[i]? = some (some (.ref A))) (hj : σ[j]? = some (some (.ref F))) (hA : H A = some (.lst (a :: as))) (hF : H F = some (.lst acc)) (n : F ≠ A) (hl : acc.length < sizeLine)
    (q : D.nx σ (upd (upd H A (.lst as)) F (.lst (acc ++ [a])))) : tDrop (tBM K "list" rAppend (tVar j) (tCons (tBM K "list" rPopAt (tVar i) (tCons (tC (.int 0)) tNil)) tNil)) D σ H :=
  ⟨_, hj, .inl ⟨rfl, acc, .of hF⟩, _, hi, .inl ⟨rfl, _, .of hA⟩, A, a :: as, 0, 0, a, rfl, rfl, hA, by decide, by decide, seqIndex_of (by decide) (by simp), rfl, F, acc, a, rfl, rfl, by rw [upd_ne n]; exact hF, hl, q⟩
section
variable {P : Program} {w : World} {K : PySem.W.Frag} {mg : Str → Option Value} {base : Heap}
theorem ok_l_mixed (T : TF K mg) : FR P w K mg base 2 (He.ga K "_law_mixed") (spMixed K) := by
  have G := ok_l_draw (P := P) (w := w) (base := base) T
  refine okR T.fd_l_mixed sc_l_mixed (fun _ _ _ _ _ _ _ us hl => match us, hl with | [_, _, _], _ => rfl) (fun vs H Q E h => ?_) (fun cdv A outer s H vs Q E hr h => ?_)
  · obtain ⟨p, l1, l2, n, xs, ys, rfl, _⟩ := h
    rfl
  · obtain ⟨p, l1, l2, n, xs, ys, rfl, hp, hn, h1, h2, x8, y8, q⟩ := h
    refine ⟨_, PSs.nox <| pss_cons (ps_par3 (i := 3) (j := 4) (l := 5) rfl sc_l_mixed.nd rfl rfl rfl (by decide) (by decide) (by decide) rfl rfl rfl (pa_cons (pe_callTy call_list_of (by rfl) T.f_list boot_list (pa_cons (pv 1) pa_nil)) (pa_cons (pe_callTy call_list_of (by rfl) T.f_list boot_list (pa_cons (pv 2) pa_nil)) (pa_cons (pe_lst pa_nil) pa_nil))) rfl)
      (pss_cons (ps_while PassesOwn.never (pw_or (pt_cmpR (op_neNil hr.units0) (pv 3) (pe_lst pa_nil) (by rfl)) (pw_or1 (pt_cmpR (op_neNil hr.units0) (pv 4) (pe_lst pa_nil) (by rfl)))).pt
        (pss_one (ps_if (pw_or (pt_cmpR (op_eqNil hr.units0) (pv 4) (pe_lst pa_nil) (by rfl)) (pw_or1 (pw_and (pt_cmpR (op_neNil hr.units0) (pv 3) (pe_lst pa_nil) (by rfl)) (pw_and1 (pt_cmpR op_eq (pe_callR G hr T.g__law_draw T.k__law_draw (by rfl) passL (pa_cons (pv 0) (pa_cons pe_int pa_nil))) pe_int (nomark _)))).pt)).pt
          (pss_one (ps_expr (pe_bm PySem.F.plainAttrs_list PySem.F.slot_list_append PySem.F.type_list_append mt_append (pv 5) (pa_cons (pe_bm PySem.F.plainAttrs_list PySem.F.slot_list_pop PySem.F.type_list_pop mt_popAt (pv 3) (pa_cons pe_int pa_nil)) pa_nil))))
          (pss_one (ps_expr (pe_bm PySem.F.plainAttrs_list PySem.F.slot_list_append PySem.F.type_list_append mt_append (pv 5) (pa_cons (pe_bm PySem.F.plainAttrs_list PySem.F.slot_list_pop PySem.F.type_list_pop mt_popAt (pv 4) (pa_cons pe_int pa_nil)) pa_nil)))))))
      (pss_one (ps_ret (pv 5)))), ?_⟩
    refine ⟨_, rfl, l1, xs, rfl, .inl h1, fun A hA => ?_⟩
    have k1 : Kp [] H (upd H A (.lst xs)) := Kp.new hA
    refine ⟨_, rfl, l2, ys, rfl, .inl (sqL_ext h2 k1), fun B hB => ?_⟩
    have AB : A ≠ B := ne_of_none upd_same hB
    have k2 : Kp [] H (upd (upd H A (.lst xs)) B (.lst ys)) := k1.trans (Kp.new hB)
    have fB : H B = none := k1.isNone hB (by simp)
    have a2 : upd (upd H A (.lst xs)) B (.lst ys) A = some (.lst xs) := by rw [upd_ne AB, upd_same]
    have b2 : upd (upd H A (.lst xs)) B (.lst ys) B = some (.lst ys) := upd_same
    generalize upd (upd H A (.lst xs)) B (.lst ys) = H1 at k2 a2 b2 ⊢
    refine ⟨by show 0 ≤ sizeLine; decide, fun F hF => ⟨_, _, _, rfl, ?_⟩⟩
    have k3 : Kp [] H (upd H1 F (.lst [])) := k2.trans (Kp.new hF)
    have fF : H F = none := k2.isNone hF (by simp)
    have AF : A ≠ F := ne_of_none a2 hF
    have BF : B ≠ F := ne_of_none b2 hF
    have a3 : upd H1 F (.lst []) A = some (.lst xs) := by rw [upd_ne AF]; exact a2
    have b3 : upd H1 F (.lst []) B = some (.lst ys) := by rw [upd_ne BF]; exact b2
    have c3 : upd H1 F (.lst []) F = some (.lst []) := upd_same
    have s3 : SrcAt (upd H1 F (.lst [])) p n := hp.ext k3
    have pA : p ≠ A := hp.ne hA
    have pB : p ≠ B := hp.ne fB
    have pF : p ≠ F := hp.ne fF
    generalize upd H1 F (.lst []) = H2 at k3 a3 b3 c3 s3 ⊢
    refine ⟨fun m σ H' => ∃ as bs acc : List V, m = as.length + bs.length ∧ σ = [some (.ref p), some (.ref l1), some (.ref l2), some (.ref A), some (.ref B), some (.ref F)] ∧ H' A = some (.lst as) ∧ H' B = some (.lst bs) ∧ H' F = some (.lst acc) ∧ Kp [p, A, B, F] H2 H' ∧
      SrcAt H' p (n + acc.length) ∧ acc.length + as.length + bs.length = xs.length + ys.length ∧ ∀ m, TKP.Mix as bs m → TKP.Mix xs ys (acc ++ m), ⟨_, xs, ys, [], rfl, rfl, a3, b3, c3, Kp.refl _ _, s3, by simp, fun m h => h⟩, ?_⟩
    rintro m σ H' ⟨as, bs, acc, rfl, rfl, ha, hb, hc, kp, sp, hlen, hmix⟩
    have acl : acc.length < sizeLine := Nat.lt_of_le_of_lt (show acc.length ≤ 16 by omega) (by decide)
    have done : ∀ (H4 : Hp), as = [] → bs = [] → H4 F = some (.lst acc) → Kp [p, A, B, F] H2 H4 → SrcAt H4 p (n + acc.length) → Q (.ref F) H4 := fun H4 ea eb hF4 k4 s4 => by
      subst ea eb
      have hm := hmix [] .nil
      rw [List.append_nil] at hm
      refine q H4 F acc (fun b o e nb => k4 b o (k3 b o e (by simp)) fun z => ?_) (s4.le (by omega)) hF4 hm
      rcases List.mem_cons.mp z with z | z
      · exact nb (by rw [z]; simp)
      · rcases List.mem_cons.mp z with z | z
        · rw [z, hA] at e; cases e
        · rcases List.mem_cons.mp z with z | z
          · rw [z, fB] at e; cases e
          · rw [List.mem_singleton.mp z, fF] at e; cases e
    have ext1 : ∀ {H4 H5 : Hp} {as bs acc : List V} {t : Nat}, Kp [] H4 H5 → H4 A = some (.lst as) ∧ H4 B = some (.lst bs) ∧ H4 F = some (.lst acc) ∧ Kp [p, A, B, F] H2 H4 ∧ SrcAt H4 p t → H5 A = some (.lst as) ∧ H5 B = some (.lst bs) ∧ H5 F = some (.lst acc) ∧ Kp [p, A, B, F] H2 H5 ∧ SrcAt H5 p t :=
      fun {H4 H5 as bs acc t} k ⟨e1, e2, e3, e4, e5⟩ => ⟨k _ _ e1 (by simp), k _ _ e2 (by simp), k _ _ e3 (by simp), e4.trans (Kp.of k _), e5.ext k⟩
    have bd0 : H' A = some (.lst as) ∧ H' B = some (.lst bs) ∧ H' F = some (.lst acc) ∧ Kp [p, A, B, F] H2 H' ∧ SrcAt H' p (n + acc.length) := ⟨ha, hb, hc, kp, sp⟩
    have nextA : ∀ {x : V} {as' : List V} (H4 : Hp), as = x :: as' → H4 A = some (.lst as) ∧ H4 B = some (.lst bs) ∧ H4 F = some (.lst acc) ∧ Kp [p, A, B, F] H2 H4 ∧ SrcAt H4 p (n + acc.length + 1) → ∀ (N : L2.St → Hp → Prop),
        (∀ σ' H', (∃ m', m' < as.length + bs.length ∧ ∃ as bs acc : List V, m' = as.length + bs.length ∧ σ' = [some (.ref p), some (.ref l1), some (.ref l2), some (.ref A), some (.ref B), some (.ref F)] ∧ H' A = some (.lst as) ∧ H' B = some (.lst bs) ∧ H' F = some (.lst acc) ∧ Kp [p, A, B, F] H2 H' ∧
          SrcAt H' p (n + acc.length) ∧ acc.length + as.length + bs.length = xs.length + ys.length ∧ ∀ m, TKP.Mix as bs m → TKP.Mix xs ys (acc ++ m)) → N σ' H') →
        N [some (.ref p), some (.ref l1), some (.ref l2), some (.ref A), some (.ref B), some (.ref F)] (upd (upd H4 A (.lst as')) F (.lst (acc ++ [x]))) := by
      intro x as' H4 ea ⟨e1, e2, e3, e4, e5⟩ N hN
      subst ea
      refine hN _ _ ⟨as'.length + bs.length, by simp only [List.length_cons]; omega, as', bs, acc ++ [x], rfl, rfl, by rw [upd_ne AF, upd_same], by rw [upd_ne BF, upd_ne (Ne.symm AB)]; exact e2, upd_same, (e4.trans (Kp.put (by simp))).trans (Kp.put (by simp)), ?_, ?_, fun m hm => ?_⟩
      · obtain ⟨g, b', t, e9, r9⟩ := e5.le (m := n + (acc ++ [x]).length) (by rw [List.length_append]; exact Nat.le_refl _)
        exact ⟨g, b', t, by rw [upd_ne pF, upd_ne pA]; exact e9, r9⟩
      · rw [List.length_append, List.length_singleton]
        simp only [List.length_cons] at hlen
        omega
      · rw [List.append_assoc]
        exact hmix _ (.left hm)
    have nextB : ∀ {x : V} {bs' : List V} (H4 : Hp), bs = x :: bs' → H4 A = some (.lst as) ∧ H4 B = some (.lst bs) ∧ H4 F = some (.lst acc) ∧ Kp [p, A, B, F] H2 H4 ∧ SrcAt H4 p (n + acc.length + 1) → ∀ (N : L2.St → Hp → Prop),
        (∀ σ' H', (∃ m', m' < as.length + bs.length ∧ ∃ as bs acc : List V, m' = as.length + bs.length ∧ σ' = [some (.ref p), some (.ref l1), some (.ref l2), some (.ref A), some (.ref B), some (.ref F)] ∧ H' A = some (.lst as) ∧ H' B = some (.lst bs) ∧ H' F = some (.lst acc) ∧ Kp [p, A, B, F] H2 H' ∧
          SrcAt H' p (n + acc.length) ∧ acc.length + as.length + bs.length = xs.length + ys.length ∧ ∀ m, TKP.Mix as bs m → TKP.Mix xs ys (acc ++ m)) → N σ' H') →
        N [some (.ref p), some (.ref l1), some (.ref l2), some (.ref A), some (.ref B), some (.ref F)] (upd (upd H4 B (.lst bs')) F (.lst (acc ++ [x]))) := by
      intro x bs' H4 ea ⟨e1, e2, e3, e4, e5⟩ N hN
      subst ea
      refine hN _ _ ⟨as.length + bs'.length, by simp only [List.length_cons]; omega, as, bs', acc ++ [x], rfl, rfl, by rw [upd_ne AF, upd_ne AB]; exact e1, by rw [upd_ne BF, upd_same], upd_same, (e4.trans (Kp.put (by simp))).trans (Kp.put (by simp)), ?_, ?_, fun m hm => ?_⟩
      · obtain ⟨g, b', t, e9, r9⟩ := e5.le (m := n + (acc ++ [x]).length) (by rw [List.length_append]; exact Nat.le_refl _)
        exact ⟨g, b', t, by rw [upd_ne pF, upd_ne pB]; exact e9, r9⟩
      · rw [List.length_append, List.length_singleton]
        simp only [List.length_cons] at hlen
        omega
      · rw [List.append_assoc]
        exact hmix _ (.right hm)
    have up : ∀ {H4 : Hp} {as bs acc : List V} {t : Nat}, H4 A = some (.lst as) ∧ H4 B = some (.lst bs) ∧ H4 F = some (.lst acc) ∧ Kp [p, A, B, F] H2 H4 ∧ SrcAt H4 p t → H4 A = some (.lst as) ∧ H4 B = some (.lst bs) ∧ H4 F = some (.lst acc) ∧ Kp [p, A, B, F] H2 H4 ∧ SrcAt H4 p (t + 1) :=
      fun ⟨e1, e2, e3, e4, e5⟩ => ⟨e1, e2, e3, e4, e5.le (Nat.le_succ _)⟩
    refine ⟨_, rfl, by show 0 ≤ sizeLine; decide, fun E1 hE1 => ?_⟩
    have bd1 := ext1 (Kp.new (o := .lst []) hE1) bd0
    have z1 : SqL K (upd H' E1 (.lst [])) E1 [] := .of upd_same
    generalize upd H' E1 (.lst []) = H4 at bd1 z1 ⊢
    refine ⟨A, E1, as, rfl, rfl, .of bd1.1, z1, _, rfl, ?_⟩
    cases as with
    | nil =>
      refine ⟨_, rfl, by show 0 ≤ sizeLine; decide, fun E2 hE2 => ?_⟩
      have bd2 := ext1 (Kp.new (o := .lst []) hE2) bd1
      have z2 : SqL K (upd H4 E2 (.lst [])) E2 [] := .of upd_same
      generalize upd H4 E2 (.lst []) = H5 at bd2 z2 ⊢
      refine ⟨B, E2, bs, rfl, rfl, .of bd2.2.1, z2, _, rfl, ?_⟩
      cases bs with
      | nil => exact ⟨_, rfl, done H5 rfl rfl bd2.2.2.1 bd2.2.2.2.1 bd2.2.2.2.2⟩
      | cons b bs' =>
        refine ⟨_, fun _ _ h => h, ?_⟩
        refine ⟨_, rfl, by show 0 ≤ sizeLine; decide, fun E3 hE3 => ?_⟩
        have bd3 := ext1 (Kp.new (o := .lst []) hE3) bd2
        have z3 : SqL K (upd H5 E3 (.lst [])) E3 [] := .of upd_same
        generalize upd H5 E3 (.lst []) = H6 at bd3 z3 ⊢
        refine ⟨B, E3, _, rfl, rfl, .of bd3.2.1, z3, _, rfl, ?_⟩
        refine ⟨_, rfl, by show 0 ≤ sizeLine; decide, fun E4 hE4 => ?_⟩
        have bd4 := ext1 (Kp.new (o := .lst []) hE4) bd3
        have z4 : SqL K (upd H6 E4 (.lst [])) E4 [] := .of upd_same
        generalize upd H6 E4 (.lst []) = H7 at bd4 z4 ⊢
        refine ⟨A, E4, _, rfl, rfl, .of bd4.1, z4, _, rfl, ?_⟩
        exact pop_app (i := 4) (j := 5) rfl rfl bd4.2.1 bd4.2.2.1 (Ne.symm BF) acl (nextB H7 rfl (up bd4) _ fun _ _ h => h)
    | cons a as' =>
      refine ⟨_, fun _ _ h => h, ?_⟩
      refine ⟨_, rfl, by show 0 ≤ sizeLine; decide, fun E3 hE3 => ?_⟩
      have bd3 := ext1 (Kp.new (o := .lst []) hE3) bd1
      have z3 : SqL K (upd H4 E3 (.lst [])) E3 [] := .of upd_same
      generalize upd H4 E3 (.lst []) = H6 at bd3 z3 ⊢
      refine ⟨B, E3, bs, rfl, rfl, .of bd3.2.1, z3, _, rfl, ?_⟩
      cases bs with
      | nil => exact pop_app (i := 3) (j := 5) rfl rfl bd3.1 bd3.2.2.1 (Ne.symm AF) acl (nextA H6 rfl (up bd3) _ fun _ _ h => h)
      | cons b bs' =>
        refine ⟨_, rfl, by show 0 ≤ sizeLine; decide, fun E4 hE4 => ?_⟩
        have bd4 := ext1 (Kp.new (o := .lst []) hE4) bd3
        have z4 : SqL K (upd H6 E4 (.lst [])) E4 [] := .of upd_same
        generalize upd H6 E4 (.lst []) = H7 at bd4 z4 ⊢
        refine ⟨A, E4, _, rfl, rfl, .of bd4.1, z4, _, rfl, ?_⟩
        have b5 : n + acc.length < 1000000 := by simp only [List.length_cons] at hlen; omega
        refine ⟨_, rfl, p, n + acc.length, 2, rfl, bd4.2.2.2.2, b5, by decide, by decide, fun H8 d k8 s8 d0 d1 => ?_⟩
        have bd8 : H8 A = some (.lst (a :: as')) ∧ H8 B = some (.lst (b :: bs')) ∧ H8 F = some (.lst acc) ∧ Kp [p, A, B, F] H2 H8 ∧ SrcAt H8 p (n + acc.length + 1) := by
          obtain ⟨e1, e2, e3, e4, e5⟩ := bd4
          exact ⟨k8 _ _ e1 (by simpa using Ne.symm pA), k8 _ _ e2 (by simpa using Ne.symm pB), k8 _ _ e3 (by simpa using Ne.symm pF), fun x o ex nx => k8 x o (e4 x o ex nx) fun z => nx (by rw [List.mem_singleton.mp z]; simp), s8⟩
        refine ⟨rfl, decide (V.int d = V.int 0), rfl, ?_⟩
        by_cases z : V.int d = V.int 0
        · rw [decide_eq_true z]
          exact pop_app (i := 3) (j := 5) rfl rfl bd8.1 bd8.2.2.1 (Ne.symm AF) acl (nextA H8 rfl bd8 _ fun _ _ h => h)
        · rw [decide_eq_false z]
          exact pop_app (i := 4) (j := 5) rfl rfl bd8.2.1 bd8.2.2.1 (Ne.symm BF) acl (nextB H8 rfl bd8 _ fun _ _ h => h)
end
end TarK

namespace TarK
open PySem PySem.Spec PyProof.Rows L2 LamX NdefX
/-! ### a member made -/
def memOf : Spc → TKP.Mem
  | .file n ns m t => .file n (byteArr ns) m t
  | .dir n m t => .dir n m t
  | .sym n g m t => .sym n g m t
  | .link n g _ _ => .link n g
  | .sparse n size pcs m t => .file n (sparseC size (pcs.map arr)) m t
def spMade (K : PySem.W.Frag) : Sp := fun vs H Q _ => ∃ (v : V) (H0 : Hp) (s : Spc) (c : Nat), vs = [v] ∧ SpecAt K H0 H s v ∧ SpcOk (NmC c) s ∧ ∀ H' a, Kp [] H H' → MemIn K H' a (memOf s) → Q (.ref a) H'
theorem sc_l_made : FnScope ["_law_spec_here", "_law_size", "_law_pieces_here", "_law_some", "_law_offset", "_law_numbers_here"] ["_law_spec_here"] (defScope s_l_made) := ⟨rfl, rfl, rfl, by decide +kernel, rfl, by decide +kernel, by decide +kernel⟩
theorem made_kp {H : Hp} {x dx C : Addr} (hx : H x = none) (hdx : H dx = none) (ne : dx ≠ x) : Kp [] H (upd (upd H dx (.own x)) x (.ins C dx [])) := (Kp.new hdx).trans (Kp.new (by rw [upd_ne (Ne.symm ne)]; exact hx))
theorem made_end {H H' : Hp} {x dx C : Addr} (hx : H x = none) (hdx : H dx = none) (ne : dx ≠ x) (k : Kp [x] (upd (upd H dx (.own x)) x (.ins C dx [])) H') : Kp [] H H' := (made_kp hx hdx ne).base k fun b hb => by rw [List.mem_singleton.mp hb]; exact hx
section
variable {w : World} {K : PySem.W.Frag} {mg : Str → Option Value} {base : Heap}
theorem ok_l_made (T : TF K mg) : FR Pg w K mg base 6 (He.ga K "_law_made") (spMade K) := by
  have G := ok_blob (P := Pg) (w := w) (base := base) T
  have G1 := ok_file_init (w := w) (base := base) T
  have G2 := ok_dir_init (w := w) (base := base) T
  have G3 := ok_sym_init (w := w) (base := base) T
  have G4 := ok_link_init (w := w) (base := base) T
  have G5 := ok_sparse_init (w := w) (base := base) T
  refine okR T.fd_l_made sc_l_made (fun _ _ _ _ _ _ _ us hl => match us, hl with | [_], _ => rfl) (fun vs H Q E h => ?_) (fun cdv A outer s H vs Q E hr h => ?_)
  · obtain ⟨v, H0, s, c, rfl, _⟩ := h
    rfl
  · obtain ⟨v, H0, s, c, rfl, hs, ok, q⟩ := h
    refine ⟨_, pss_cons (ps_if (pt_cmpR op_eq (pe_ix ix_tup (pv 0) pe_int (fun _ _ => rfl)) pe_str (nomark _))
        (pss_one (ps_ret (pe_makeRK T.m_File G1 (hr.mono (by decide)) (by rfl) T.g_File passL (pa_cons (pe_ix ix_tup (pv 0) pe_int (fun _ _ => rfl)) (pa_cons (pe_callR (G.mono (by decide)) hr T.g_blob T.k_blob (by rfl) passL (pa_cons (pe_ix ix_tup (pv 0) pe_int (fun _ _ => rfl)) pa_nil)) pa_nil)) (pk_cons (pe_ix ix_tup (pv 0) pe_int (fun _ _ => rfl)) (pk_cons (pe_ix ix_tup (pv 0) pe_int (fun _ _ => rfl)) pk_nil))))) pss_nil)
      (pss_cons (ps_if (pt_cmpR op_eq (pe_ix ix_tup (pv 0) pe_int (fun _ _ => rfl)) pe_str (nomark _))
        (pss_one (ps_ret (pe_makeRK T.m_Directory G2 (hr.mono (by decide)) (by rfl) T.g_Directory passL (pa_cons (pe_ix ix_tup (pv 0) pe_int (fun _ _ => rfl)) pa_nil) (pk_cons (pe_ix ix_tup (pv 0) pe_int (fun _ _ => rfl)) (pk_cons (pe_ix ix_tup (pv 0) pe_int (fun _ _ => rfl)) pk_nil))))) pss_nil)
      (pss_cons (ps_if (pt_cmpR op_eq (pe_ix ix_tup (pv 0) pe_int (fun _ _ => rfl)) pe_str (nomark _))
        (pss_one (ps_ret (pe_makeRK T.m_Symlink G3 (hr.mono (by decide)) (by rfl) T.g_Symlink passL (pa_cons (pe_ix ix_tup (pv 0) pe_int (fun _ _ => rfl)) (pa_cons (pe_ix ix_tup (pv 0) pe_int (fun _ _ => rfl)) pa_nil)) (pk_cons (pe_ix ix_tup (pv 0) pe_int (fun _ _ => rfl)) (pk_cons (pe_ix ix_tup (pv 0) pe_int (fun _ _ => rfl)) pk_nil))))) pss_nil)
      (pss_cons (ps_if (pt_cmpR op_eq (pe_ix ix_tup (pv 0) pe_int (fun _ _ => rfl)) pe_str (nomark _))
        (pss_one (ps_ret (pe_makeRK T.m_Link G4 (hr.mono (by decide)) (by rfl) T.g_Link passL (pa_cons (pe_ix ix_tup (pv 0) pe_int (fun _ _ => rfl)) (pa_cons (pe_ix ix_tup (pv 0) pe_int (fun _ _ => rfl)) pa_nil)) (pk_cons (pe_ix ix_tup (pv 0) pe_int (fun _ _ => rfl)) (pk_cons (pe_ix ix_tup (pv 0) pe_int (fun _ _ => rfl)) pk_nil))))) pss_nil)
      (pss_cons (ps_asg (pe_ix ix_tup (pv 0) pe_int (fun _ _ => rfl)) (pg_tup rfl (pgs_cons (pg_name (i := 1) sc_l_made.nd rfl (.inl rfl)) (pgs_cons (pg_name (i := 2) sc_l_made.nd rfl (.inl rfl)) pgs_nil))))
      (pss_cons (ps_setLc (i := 3) (own := [("_law_offset", 4), ("_law_numbers_here", 5)]) (g := gTup K 2 (gCons (gName 4) (gCons (gName 5) gNil))) (tt := tYes) rfl sc_l_made.nd rfl rfl (sw_true rfl rfl rfl rfl) (pi_list (pv 2))
        (blkOk_by (N := ["_law_spec_here", "_law_size", "_law_pieces_here", "_law_some", "_law_offset", "_law_numbers_here"]) (sc := defScope s_l_made) (by decide +kernel))
        (fun _ _ _ _ _ => pg_tup rfl (pgs_cons (pg_name (i := 4) sc_l_made.nd rfl (.inl rfl)) (pgs_cons (pg_name (i := 5) sc_l_made.nd rfl (.inl rfl)) pgs_nil))) (fun _ _ _ _ _ => pts_nil)
        (fun _ _ _ _ _ => pe_tup (pa_cons (pv 4) (pa_cons (pe_callR (G.mono (by decide)) hr T.g_blob T.k_blob (by rfl) passL (pa_cons (pv 5) pa_nil)) pa_nil))))
      (pss_cons (ps_if (pt_cmpR (op_eqNil hr.units0) (pv 3) (pe_lst pa_nil) (by rfl))
        (pss_one (ps_ret (pe_makeRK T.m_Sparse G5 (hr.mono (by decide)) (by rfl) T.g_Sparse passL (pa_cons (pe_ix ix_tup (pv 0) pe_int (fun _ _ => rfl)) (pa_cons (pv 1) pa_nil)) (pk_cons (pe_ix ix_tup (pv 0) pe_int (fun _ _ => rfl)) (pk_cons (pe_ix ix_tup (pv 0) pe_int (fun _ _ => rfl)) pk_nil))))) pss_nil)
      (pss_cons (ps_if (pt_cmpR op_eq (pe_callB call_len (by rfl) T.f_len boot_len (pa_cons (pv 3) pa_nil)) pe_int (nomark _))
        (pss_one (ps_ret (pe_makeRK T.m_Sparse G5 (hr.mono (by decide)) (by rfl) T.g_Sparse passL (pa_cons (pe_ix ix_tup (pv 0) pe_int (fun _ _ => rfl)) (pa_cons (pv 1) (pa_cons (pe_ix ix_list (pv 3) pe_int (fun _ _ => rfl)) pa_nil))) (pk_cons (pe_ix ix_tup (pv 0) pe_int (fun _ _ => rfl)) (pk_cons (pe_ix ix_tup (pv 0) pe_int (fun _ _ => rfl)) pk_nil))))) pss_nil)
      (pss_one (ps_ret (pe_makeRK T.m_Sparse G5 (hr.mono (by decide)) (by rfl) T.g_Sparse passL (pa_cons (pe_ix ix_tup (pv 0) pe_int (fun _ _ => rfl)) (pa_cons (pv 1) (pa_cons (pe_ix ix_list (pv 3) pe_int (fun _ _ => rfl)) (pa_cons (pe_ix ix_list (pv 3) pe_int (fun _ _ => rfl)) pa_nil)))) (pk_cons (pe_ix ix_tup (pv 0) pe_int (fun _ _ => rfl)) (pk_cons (pe_ix ix_tup (pv 0) pe_int (fun _ _ => rfl)) pk_nil)))))))))))), ?_⟩
    obtain ⟨a, rfl, hs⟩ := hs
    cases s with
    | file n ns m t =>
      obtain ⟨l, h1, h2, h3⟩ := hs
      obtain ⟨o1, o2, o3, o4⟩ := ok
      refine ⟨_, rfl, a, _, 0, _, rfl, rfl, h1, rfl, rfl, true, rfl, ?_⟩
      refine ⟨_, rfl, a, _, 1, .str n, rfl, rfl, h1, rfl, _, rfl, a, _, 4, .ref l, rfl, rfl, h1, rfl, l, ns, rfl, .of h2, Nat.le_trans o3 (by decide), o4, fun H1 k1 => ?_⟩
      have h1' := sqT_ext h1 k1
      refine ⟨_, rfl, a, _, 2, .int m, rfl, rfl, h1', rfl, _, rfl, a, _, 3, .int t, rfl, rfl, h1', rfl, fun x dx hx hdx ne => ?_⟩
      exact ⟨x, n, byteArr ns, m, t, dx, rfl, rfl, o1.nmOk, by rw [arr_size]; exact o3, o2, upd_same, fun H' k kp e => ⟨rfl, q H' x (k1.trans (made_end hx hdx ne kp)) ⟨o1.nmOk, o2, .inl ⟨dx, k, e⟩⟩⟩⟩
    | dir n m t =>
      obtain ⟨o1, o2⟩ := ok
      refine ⟨_, rfl, a, _, 0, _, rfl, rfl, hs, rfl, rfl, false, rfl, ?_⟩
      refine ⟨_, rfl, a, _, 0, _, rfl, rfl, hs, rfl, rfl, true, rfl, ?_⟩
      refine ⟨_, rfl, a, _, 1, .str n, rfl, rfl, hs, rfl, _, rfl, a, _, 2, .int m, rfl, rfl, hs, rfl, _, rfl, a, _, 3, .int t, rfl, rfl, hs, rfl, fun x dx hx hdx ne => ?_⟩
      exact ⟨x, n, m, t, dx, rfl, rfl, o1.nmOk, o2, upd_same, fun H' k kp e => ⟨rfl, q H' x (made_end hx hdx ne kp) ⟨o1.nmOk, o2, dx, k, e⟩⟩⟩
    | sym n g m t =>
      obtain ⟨o1, o2, o3⟩ := ok
      refine ⟨_, rfl, a, _, 0, _, rfl, rfl, hs, rfl, rfl, false, rfl, ?_⟩
      refine ⟨_, rfl, a, _, 0, _, rfl, rfl, hs, rfl, rfl, false, rfl, ?_⟩
      refine ⟨_, rfl, a, _, 0, _, rfl, rfl, hs, rfl, rfl, true, rfl, ?_⟩
      refine ⟨_, rfl, a, _, 1, .str n, rfl, rfl, hs, rfl, _, rfl, a, _, 4, .str g, rfl, rfl, hs, rfl, _, rfl, a, _, 2, .int m, rfl, rfl, hs, rfl, _, rfl, a, _, 3, .int t, rfl, rfl, hs, rfl, fun x dx hx hdx ne => ?_⟩
      exact ⟨x, n, g, m, t, dx, rfl, rfl, o1.nmOk, o2, o3, upd_same, fun H' k kp e => ⟨rfl, q H' x (made_end hx hdx ne kp) ⟨o1.nmOk, o2, o3, dx, k, e⟩⟩⟩
    | link n g m t =>
      obtain ⟨o1, o2, o3⟩ := ok
      refine ⟨_, rfl, a, _, 0, _, rfl, rfl, hs, rfl, rfl, false, rfl, ?_⟩
      refine ⟨_, rfl, a, _, 0, _, rfl, rfl, hs, rfl, rfl, false, rfl, ?_⟩
      refine ⟨_, rfl, a, _, 0, _, rfl, rfl, hs, rfl, rfl, false, rfl, ?_⟩
      refine ⟨_, rfl, a, _, 0, _, rfl, rfl, hs, rfl, rfl, true, rfl, ?_⟩
      refine ⟨_, rfl, a, _, 1, .str n, rfl, rfl, hs, rfl, _, rfl, a, _, 4, .str g, rfl, rfl, hs, rfl, _, rfl, a, _, 2, .int m, rfl, rfl, hs, rfl, _, rfl, a, _, 3, .int t, rfl, rfl, hs, rfl, fun x dx hx hdx ne => ?_⟩
      exact ⟨x, n, g, m, t, dx, rfl, rfl, o1.nmOk, o2.nmOk, o3, upd_same, fun H' k kp e => ⟨rfl, q H' x (made_end hx hdx ne kp) ⟨o1.nmOk, o2.nmOk, dx, k, m, t, e⟩⟩⟩
    | sparse n size pcs m t =>
      obtain ⟨b, l, ts, h1, h2, h3, h4, pr⟩ := hs
      obtain ⟨o1, o2, o3, o4, o5⟩ := ok
      refine ⟨_, rfl, a, _, 0, _, rfl, rfl, h1, rfl, rfl, false, rfl, ?_⟩
      refine ⟨_, rfl, a, _, 0, _, rfl, rfl, h1, rfl, rfl, false, rfl, ?_⟩
      refine ⟨_, rfl, a, _, 0, _, rfl, rfl, h1, rfl, rfl, false, rfl, ?_⟩
      refine ⟨_, rfl, a, _, 0, _, rfl, rfl, h1, rfl, rfl, false, rfl, ?_⟩
      refine ⟨_, rfl, a, _, 4, .ref b, rfl, rfl, h1, rfl, b, _, rfl, h2, rfl, _, _, rfl, _, _, rfl, rfl, ?_⟩
      refine ⟨_, rfl, l, rfl, ⟨_, .of h3⟩, fun D hD => ?_⟩
      have hlen : pcs.length = ts.length := Paired.length pr
      refine lc_it (walk_list (K := K) (a := l) (xs := ts)) (fun i H2 => Kp [D] (upd H D (.lst [])) H2 ∧ ∃ acc, H2 D = some (.lst acc) ∧ Paired (PieceAt K H2) ((pcs.map arr).take i) acc) ⟨Kp.refl _ _, [], upd_same, by rw [List.take_zero]; exact .nil⟩
        (fun i H2 _ p => .of (Kp.drop p.1 hD _ _ h3 (by simp))) (fun i v H2 H3 hi p hy => ?_) (fun H2 p => ?_)
      · obtain ⟨rfl, hv⟩ := hy
        obtain ⟨kp, acc, hacc, pa⟩ := p
        obtain ⟨⟨o, ns⟩, ho, t', nl, rfl, ht', hnl, _⟩ := Paired.at pr hv
        obtain ⟨hb1, hb2⟩ := o5 _ (List.mem_of_getElem? ho)
        have kH := Kp.drop kp hD
        refine ⟨t', _, rfl, sqT_ext ht' kH, rfl, _, _, rfl, _, _, rfl, rfl, rfl, ?_⟩
        refine ⟨_, rfl, _, rfl, nl, ns, rfl, .of (kH _ _ hnl (by simp)), Nat.le_trans hb1 (by decide), hb2, fun H4 k4 => ⟨by show 2 ≤ sizeLine; decide, fun p2 hp2 => ?_⟩⟩
        have hacc4 := k4 _ _ hacc (by simp)
        have hDp : D ≠ p2 := ne_of_none hacc4 hp2
        have hl : acc.length < sizeLine := by
          rw [← Paired.length pa, List.length_take, List.length_map]
          exact Nat.lt_of_le_of_lt (Nat.min_le_right _ _) (Nat.lt_of_le_of_lt o4 (by decide))
        refine ⟨acc, by rw [upd_ne hDp]; exact hacc4, hl, ?_, acc ++ [.ref p2], upd_same, ?_⟩
        · exact ((kp.trans (Kp.of k4 _)).trans (Kp.new hp2)).trans (Kp.put (List.mem_singleton.mpr rfl))
        · rw [take_snoc (show (pcs.map arr)[i]? = some (arr (o, ns)) by rw [List.getElem?_map, ho]; rfl)]
          have kk : Kp [D] H3 (upd (upd H4 p2 (.tup [.int o, .byt (byteArr ns)])) D (.lst (acc ++ [.ref p2]))) := ((Kp.of k4 _).trans (Kp.new hp2)).trans (Kp.put (List.mem_singleton.mpr rfl))
          refine Paired.snoc (Paired.mapP pa fun a b z => ?_) ?_
          · obtain ⟨t3, e3, h3⟩ := z
            exact ⟨t3, e3, sqT_kp h3 kk (mut_lst hacc)⟩
          · exact ⟨p2, rfl, .of (by rw [upd_ne (Ne.symm hDp), upd_same] <;> rfl)⟩
      · obtain ⟨kp, acc, hacc, pa⟩ := p
        rw [← hlen, show pcs.length = (pcs.map arr).length by rw [List.length_map], List.take_length] at pa
        have kH := Kp.drop kp hD
        have al : acc.length ≤ 2 := by
          rw [← Paired.length pa, List.length_map]
          exact o4
        clear kp
        refine ⟨_, rfl, by show 0 ≤ sizeLine; decide, fun E1 hE1 => ?_⟩
        have k2 : Kp [] H (upd H2 E1 (.lst [])) := kH.trans (Kp.new hE1)
        have hacc2 : upd H2 E1 (.lst []) D = some (.lst acc) := by rw [upd_ne (ne_of_none hacc hE1)]; exact hacc
        have z1 : SqL K (upd H2 E1 (.lst [])) E1 [] := .of upd_same
        have pa2 := piece_kp pa (Kp.new (l := []) (o := .lst []) hE1) (fun b hb => absurd hb (by simp))
        generalize upd H2 E1 (.lst []) = H4 at k2 hacc2 z1 pa2 ⊢
        have h1' := sqT_ext h1 k2
        have fin : ∀ (x dx : Addr), H4 x = none → H4 dx = none → dx ≠ x → spSparse K ([.ref x, .str n, .int size] ++ acc) [.int m, .int t] (upd (upd H4 dx (.own x)) x (.ins (He.ga K "Sparse") dx [])) (fun v H3 => v = .non ∧ Q (.ref x) H3) E0 := fun x dx hx hdx ne => by
          have km := made_kp (C := He.ga K "Sparse") hx hdx ne
          refine ⟨x, n, size, m, t, dx, pcs.map arr, acc, rfl, rfl, o1.nmOk, o3, piece_kp pa2 km (fun b hb => absurd hb (by simp)), o2, upd_same, fun H' k p kp e hp => ⟨rfl, ?_⟩⟩
          have ke := made_end hx hdx ne kp
          exact q H' x (k2.trans ke) ⟨o1.nmOk, o2, .inr ⟨dx, k, size, p, pcs.map arr, acc, e, hp, piece_kp pa2 ke (fun b hb => absurd hb (by simp)), o3, rfl⟩⟩
        refine ⟨D, E1, acc, rfl, rfl, .of hacc2, z1, _, rfl, ?_⟩
        match acc, al, hacc2, fin with
        | [], _, hacc2, fin => exact ⟨_, rfl, a, _, 1, .str n, rfl, rfl, h1', rfl, _, rfl, _, rfl, a, _, 2, .int m, rfl, rfl, h1', rfl, _, rfl, a, _, 3, .int t, rfl, rfl, h1', rfl, fin⟩
        | [x1], _, hacc2, fin =>
          refine ⟨_, rfl, _, _, rfl, .inl ⟨_, .of hacc2, rfl⟩, rfl, true, rfl, ?_⟩
          exact ⟨_, rfl, a, _, 1, .str n, rfl, rfl, h1', rfl, _, rfl, _, rfl, D, _, 0, x1, rfl, rfl, .of hacc2, rfl, _, rfl, a, _, 2, .int m, rfl, rfl, h1', rfl, _, rfl, a, _, 3, .int t, rfl, rfl, h1', rfl, fin⟩
        | [x1, x2], _, hacc2, fin =>
          refine ⟨_, rfl, _, _, rfl, .inl ⟨_, .of hacc2, rfl⟩, rfl, false, rfl, ?_⟩
          exact ⟨_, rfl, a, _, 1, .str n, rfl, rfl, h1', rfl, _, rfl, _, rfl, D, _, 0, x1, rfl, rfl, .of hacc2, rfl, _, rfl, D, _, 1, x2, rfl, rfl, .of hacc2, rfl, _, rfl, a, _, 2, .int m, rfl, rfl, h1', rfl, _, rfl, a, _, 3, .int t, rfl, rfl, h1', rfl, fin⟩
end
end TarK

namespace TarK
open PySem PySem.Spec PyProof.Rows L2 LamX NdefX
/-! ### what a lambda does, told -/
def TT2 (R : Addr) : (XK → Hp → VK → Prop) → Hp → VK → Prop := fun tl H Q =>
  tl (fun cls d H' => cls = .ref R ∧ ∃ dd i z, d = some dd ∧ H' dd = some (.xd (xdF i z)) ∧ ∀ p, H' p = none → Q (.ref p) (upd H' p (.tup [.str "refused", .int i, .str z]))) H
    (fun v H' => ([V.str "none", v] : List V).length ≤ sizeLine ∧ ∀ p, H' p = none → Q (.ref p) (upd H' p (.tup [.str "none", v])))
/-- a name's slot, the slots being as many as the names -/
def tVarL (n i : Nat) : TE := fun σ H Q => σ.length = n → tVar i σ H Q
theorem pvL {X : Cx} {n i : Nat} {e : Expr} (h : PE X e (tVar i)) (hn : X.N.length = n) : PE X e (tVarL n i) := ⟨fun pins s σ H Q I q => h.run pins s σ H Q I (q (by rw [← hn]; exact I.len))⟩
abbrev nTold : List Str := ["_law_call", "e"]
theorem sc_l_told : FnScope nTold ["_law_call"] (defScope s_l_told) := ⟨rfl, rfl, rfl, by decide +kernel, rfl, by decide +kernel, by decide +kernel⟩
theorem told2 {X : Cx} (T : TF X.K X.mg) {q : Str} {g : Addr} {cdg : Value} :
    GivesTo X nTold "_law_told" (defScope s_l_told) g cdg (defBody s_l_told) "_law_call" q (TT2 (He.ga X.K "Refused")) := by
  intro f c' s H Q tl act hc h
  have hgl : Gl (cxOf C8.CX0 X.prog X.w X.K X.mg X.base nTold "_law_told" (defScope s_l_told) g cdg X.A X.stack s H C8.E0).nox "Refused" := by rfl
  refine ⟨_, pss_one (ps_try_as (X := (cxOf C8.CX0 X.prog X.w X.K X.mg X.base nTold "_law_told" (defScope s_l_told) g cdg X.A X.stack s H C8.E0).nox) (c := .ref (He.ga X.K "Refused")) (i := 1)
      (tb := fun W D σ H => ∃ Ech : XK, (∀ cls d σ' H', Ech cls d H' → W cls d σ' H') ∧ σ[0]? = some (some (.ref f)) ∧ H c' = some (CodeO c' q) ∧ tl Ech H (fun v H1 => ([V.str "none", v] : List V).length ≤ sizeLine ∧ ∀ p, H1 p = none → D.rt (.ref p) (upd H1 p (.tup [.str "none", v]))))
      (ts := fun a cls d => tRet (tTup (tCons (tC (.str "refused")) (tCons (tXf a cls d (He.ga X.K "Refused") "index" (tVarL 2 1)) (tCons (tXf a cls d (He.ga X.K "Refused") "word" (tVarL 2 1)) tNil)))))
      rfl rfl sc_l_told.nd rfl rfl ⟨hgl, rfl, .inl T.g_Refused⟩ LamX.takes0 (fun W pn xe tk _ => ?_) (fun a oe cls d pn hz hf => pss_one (ps_ret (pe_tup (pa_cons pe_str (pa_cons (pe_xf T.xf T.n_Refused_index hz hf (pvL (pv 1) rfl)) (pa_cons (pe_xf T.xf T.n_Refused_word hz hf (pvL (pv 1) rfl)) pa_nil))))))), ?_⟩
  · refine ⟨fun pins s' σ H' D I h' => ?_⟩
    obtain ⟨Ech, hW, h1, h2, h3⟩ := h'
    refine PSs.run (pss_one (ps_ret (pe_tup (pa_cons pe_str (pa_cons (act W pn xe Ech _ _ tk hW) pa_nil))))) pins s' σ H' D I ?_
    exact ⟨h1, h2, h3⟩
  · refine ⟨fun cls d H' => cls = .ref (He.ga X.K "Refused") ∧ ∃ dd i z, d = some dd ∧ H' dd = some (.xd (xdF i z)) ∧ ∀ p, H' p = none → Q (.ref p) (upd H' p (.tup [.str "refused", .int i, .str z])), fun cls d σ' H' hE => ?_, rfl, hc, h⟩
    obtain ⟨rfl, dd, i, z, rfl, hd, hq⟩ := hE
    refine ⟨true, T.exm, fun _ a ha => ?_, fun z => by cases z⟩
    have hv : ∀ {σ : L2.St}, σ.length = 2 → (σ.set 1 (some (V.ref a)))[1]? = some (some (V.ref a)) := fun {σ} h => by
      rw [List.getElem?_set]
      simp [h]
    refine fun l1 => ⟨_, hv (by simpa using l1), rfl, rfl, dd, _, .int i, rfl, hd, rfl, fun l2 => ⟨_, hv (by simpa using l2), rfl, rfl, dd, _, .str z, rfl, hd, rfl, by show 3 ≤ sizeLine; decide, fun p hp => hq p hp⟩⟩
end TarK

namespace TarK
open PySem PySem.Spec PyProof.Rows L2 LamX NdefX
/-! ### sorted paths, in plain -/
theorem str_ext {x y : Str} (h : x.cps.toList = y.cps.toList) : x = y := by
  obtain ⟨⟨a⟩⟩ := x
  obtain ⟨⟨b⟩⟩ := y
  cases h
  rfl
theorem lt_of_rising {p x : Str} (h : (!ltCps x.cps.toList p.cps.toList) = true) (n : p ≠ x) : ltS p x = true := by
  rw [ltCps_eq, Bool.not_eq_true', decide_eq_false_iff_not] at h
  refine decide_eq_true ?_
  rcases List.le_iff_lt_or_eq.mp (List.not_lt.mp h) with z | z
  · exact z
  · exact absurd (str_ext z) n
theorem ltS_trans {x y z : Str} (a : ltS x y = true) (b : ltS y z = true) : ltS x z = true := decide_eq_true (List.lt_trans (of_decide_eq_true a) (of_decide_eq_true b))
theorem rising_strict : ∀ {l : List Str} {p : Str}, risingS p l = true → (p :: l).Nodup → (p :: l).Pairwise (fun x y => ltS x y = true)
  | [], p, _, _ => List.pairwise_singleton _ _
  | x :: r, p, h, nd => by
    have h' : (!ltCps x.cps.toList p.cps.toList && risingS x r) = true := h
    rw [Bool.and_eq_true] at h'
    have nd2 := List.nodup_cons.mp nd
    have ih := rising_strict h'.2 nd2.2
    have hpx : ltS p x = true := lt_of_rising h'.1 fun e => nd2.1 (by rw [e]; exact List.mem_cons_self)
    refine List.pairwise_cons.mpr ⟨fun z hz => ?_, ih⟩
    rcases List.mem_cons.mp hz with e | hz
    · rw [e]
      exact hpx
    · exact ltS_trans hpx ((List.pairwise_cons.mp ih).1 z hz)
theorem sorted_strict {ys : List Str} (h : sortedS ys = true) (nd : ys.Nodup) : ys.Pairwise (fun x y => ltS x y = true) := by
  cases ys with
  | nil => exact List.Pairwise.nil
  | cons x r => exact rising_strict h nd
theorem strict_uniq : ∀ {l m : List Str}, l.Pairwise (fun x y => ltS x y = true) → m.Pairwise (fun x y => ltS x y = true) → (∀ x, x ∈ l ↔ x ∈ m) → l = m
  | [], [], _, _, _ => rfl
  | [], y :: m, _, _, h => absurd ((h y).mpr List.mem_cons_self) (by simp)
  | x :: l, [], _, _, h => absurd ((h x).mp List.mem_cons_self) (by simp)
  | x :: l, y :: m, hl, hm, h => by
    obtain ⟨hl1, hl2⟩ := List.pairwise_cons.mp hl
    obtain ⟨hm1, hm2⟩ := List.pairwise_cons.mp hm
    have irr : ∀ z, ltS z z = true → False := fun z hz => by rw [ltS_irrefl] at hz; cases hz
    have e : x = y := by
      rcases List.mem_cons.mp ((h x).mp List.mem_cons_self) with e | hx
      · exact e
      · rcases List.mem_cons.mp ((h y).mpr List.mem_cons_self) with e | hy
        · exact e.symm
        · exact absurd (ltS_trans (hl1 y hy) (hm1 x hx)) (fun z => irr _ z)
    subst e
    rw [strict_uniq hl2 hm2 fun z => ⟨fun hz => ?_, fun hz => ?_⟩]
    · rcases List.mem_cons.mp ((h z).mp (List.mem_cons_of_mem _ hz)) with e | q
      · rw [e] at hz
        exact absurd (hl1 x hz) (fun q => irr _ q)
      · exact q
    · rcases List.mem_cons.mp ((h z).mpr (List.mem_cons_of_mem _ hz)) with e | q
      · rw [e] at hz
        exact absurd (hm1 x hz) (fun q => irr _ q)
      · exact q
theorem hd_lt {c d : Nat} {x y : Str} (hx : TKP.Hd c x) (hy : TKP.Hd d y) (h : c < d) : ltS x y = true := by
  unfold TKP.Hd at hx hy
  refine decide_eq_true ?_
  cases ex : x.cps.toList with
  | nil =>
    rw [ex] at hx
    cases hx
  | cons a l =>
    cases ey : y.cps.toList with
    | nil =>
      rw [ey] at hy
      cases hy
    | cons b m =>
      rw [ex] at hx
      rw [ey] at hy
      cases hx
      cases hy
      exact List.cons_lt_cons_iff.mpr (.inl h)
section
variable {φ ψ : Nat → Nat} {A B M : TKP.Hs} {ya yb ym : List Str}
theorem sorted_app (t : TKP.Two 120 121 φ ψ A B M) (pa : ya.Perm (A.st.map (·.1))) (pb : yb.Perm (B.st.map (·.1))) (sa : sortedS ya = true) (sb : sortedS yb = true) : (ya ++ yb).Pairwise (fun x y => ltS x y = true) :=
  List.pairwise_append.mpr ⟨sorted_strict sa (pa.nodup_iff.mpr t.a.nd), sorted_strict sb (pb.nodup_iff.mpr t.b.nd), fun x hx y hy => hd_lt (t.a.own x (pa.mem_iff.mp hx)) (t.b.own y (pb.mem_iff.mp hy)) (by decide)⟩
theorem keys_app (t : TKP.Two 120 121 φ ψ A B M) (pa : ya.Perm (A.st.map (·.1))) (pb : yb.Perm (B.st.map (·.1))) (pm : ym.Perm (M.st.map (·.1))) (sa : sortedS ya = true) (sb : sortedS yb = true) (sm : sortedS ym = true) : ym = ya ++ yb := by
  refine strict_uniq (sorted_strict sm (pm.nodup_iff.mpr t.nd)) (sorted_app t pa pb sa sb) fun x => ?_
  rw [pm.mem_iff, TKP.keys_mix t (by decide) x, List.mem_append, List.mem_append, pa.mem_iff, pb.mem_iff]
theorem rows_app (t : TKP.Two 120 121 φ ψ A B M) (pa : ya.Perm (A.st.map (·.1))) (pb : yb.Perm (B.st.map (·.1))) (pm : ym.Perm (M.st.map (·.1))) (sa : sortedS ya = true) (sb : sortedS yb = true) (sm : sortedS ym = true) : TKP.rowsOf M ym = TKP.rowsOf A ya ++ TKP.rowsOf B yb := by
  rw [keys_app t pa pb pm sa sb sm]
  exact TKP.rows_mix t (fun p hp => t.a.own p (pa.mem_iff.mp hp)) (fun p hp => t.b.own p (pb.mem_iff.mp hp))
end
/-! ### rows in the heap -/
/-- the path of a row's tuple -/
def keyAt (H : Hp) : V → Str
  | .ref t => (match H t with
    | some (.tup (.str s :: _)) => s
    | _ => "")
  | _ => ""
theorem RowAt.key {K : PySem.W.Frag} {H : Hp} {e : Str × TKP.Row} {v : V} (h : RowAt K H e v) : keyAt H v = e.1 := by
  obtain ⟨t, a, rfl, h1, _⟩ := h
  show (match H t with | some (.tup (.str s :: _)) => s | _ => "") = e.1
  rw [h1]
theorem rows_keys {K : PySem.W.Frag} {H : Hp} : ∀ {es : List (Str × TKP.Row)} {xs : List V}, Paired (RowAt K H) es xs → xs.map (keyAt H) = es.map (·.1)
  | _, _, .nil => rfl
  | _, _, .cons h t => by rw [List.map_cons, List.map_cons, h.key, rows_keys t]
theorem rows_names (h : TKP.Hs) (ys : List Str) : (TKP.rowsOf h ys).map (·.1) = ys := by
  unfold TKP.rowsOf
  rw [List.map_map]
  exact List.map_id _
theorem row_flat (r : TKP.Row) : ∀ x ∈ rowL r, flatB x = true := by
  cases r <;> (intro x hx; simp only [rowL, List.mem_cons, List.not_mem_nil, or_false] at hx; rcases hx with rfl | rfl | rfl | rfl <;> rfl)
theorem eq_flat {K : PySem.W.Frag} {H : Hp} {n : Nat} : ∀ {l : List V}, (∀ x ∈ l, flatB x = true) → Paired (EqT K H (n + 1)) l l
  | [], _ => .nil
  | x :: l, h => .cons (.inl ⟨rfl, h x List.mem_cons_self⟩) (eq_flat fun y hy => h y (List.mem_cons_of_mem _ hy))
theorem row_eq {K : PySem.W.Frag} {H : Hp} {e : Str × TKP.Row} {v u : V} (h : RowAt K H e v) (k : RowAt K H e u) : EqT K H 3 v u := by
  obtain ⟨t, a, rfl, h1, h2⟩ := h
  obtain ⟨t', a', rfl, k1, k2⟩ := k
  exact .inr (.inr ⟨t, t', _, _, rfl, rfl, .of h1, .of k1, .cons (.inl ⟨rfl, rfl⟩) (.cons (.inr (.inr ⟨a, a', _, _, rfl, rfl, h2, k2, eq_flat (row_flat e.2)⟩)) .nil)⟩)
theorem rows_eq {K : PySem.W.Frag} {H : Hp} : ∀ {es : List (Str × TKP.Row)} {xs ys : List V}, Paired (RowAt K H) es xs → Paired (RowAt K H) es ys → Paired (EqT K H 3) xs ys
  | _, _, _, .nil, .nil => .nil
  | _, _, _, .cons h t, .cons k u => .cons (row_eq h k) (rows_eq t u)
theorem Paired.append {α β : Type} {F : α → β → Prop} : ∀ {a : List α} {x : List β} {b : List α} {y : List β}, Paired F a x → Paired F b y → Paired F (a ++ b) (x ++ y)
  | _, _, _, _, .nil, h => h
  | _, _, _, _, .cons r t, h => .cons r (Paired.append t h)
end TarK

namespace TarK
open PySem PySem.Spec PyProof.Rows L2 LamX NdefX
/-- what stands still stands, but the tables and these -/
def Kt (l : List Addr) (H H' : Hp) : Prop := ∀ b o, H b = some o → (∀ ps, o ≠ .tbl ps) → b ∉ l → H' b = some o
section
variable {l : List Addr} {H H0 H1 H2 H' : Hp} {K : PySem.W.Frag}
theorem Kt.trans (a : Kt l H H1) (b : Kt l H1 H2) : Kt l H H2 := fun c o h t n => b c o (a c o h t n) t n
theorem Kp.kt (a : Kp l H H') : Kt l H H' := fun b o h _ n => a b o h n
theorem Kt.ofE (a : ExtN H H') : Kt l H H' := fun b o h t _ => a b o h t
theorem Kt.of (a : Kt [] H H') : Kt l H H' := fun b o h t _ => a b o h t (by simp)
theorem Kt.refl : Kt l H H := fun _ _ h _ _ => h
theorem Kt.base (a : Kt [] H0 H) (b : Kt l H H') (n : ∀ x ∈ l, H0 x = none) : Kt [] H0 H' := fun c o h t _ => b c o (a c o h t (by simp)) t (fun m => by rw [n c m] at h; cases h)
/-- the written ones are lists -/
def Lsts (H : Hp) (l : List Addr) : Prop := ∀ b ∈ l, ∃ xs, H b = some (.lst xs)
theorem Lsts.nil : Lsts H [] := fun b hb => absurd hb (by simp)
theorem Kt.ins (k : Kt l H H') (L : Lsts H l) {a C dx : Addr} {fs : List (Str × V)} (h : H a = some (.ins C dx fs)) : H' a = some (.ins C dx fs) := k _ _ h (fun ps z => by cases z) fun z => by
  obtain ⟨xs, e⟩ := L a z
  rw [h] at e
  cases e
theorem Kt.tup (k : Kt l H H') (L : Lsts H l) {a : Addr} {xs : List V} (h : H a = some (.tup xs)) : H' a = some (.tup xs) := k _ _ h (fun ps z => by cases z) fun z => by
  obtain ⟨xs, e⟩ := L a z
  rw [h] at e
  cases e
theorem Kt.sqT (k : Kt l H H') (L : Lsts H l) {a : Addr} {xs : List V} (h : SqT K H a xs) : SqT K H' a xs := by
  rcases h with (h | ⟨o, h⟩) | h
  · exact .inl (.inl (k.tup L h))
  · refine .inl (.inr ⟨o, k _ _ h (fun ps z => by cases z) fun z => ?_⟩)
    obtain ⟨xs, e⟩ := L a z
    rw [h] at e
    cases e
  · exact .inr h
theorem Kt.sqL (k : Kt l H H') {a : Addr} {xs : List V} (h : SqL K H a xs) (n : a ∉ l) : SqL K H' a xs := by
  rcases h with (h | ⟨o, h⟩) | h
  · exact .inl (.inl (k _ _ h (fun ps z => by cases z) n))
  · exact .inl (.inr ⟨o, k _ _ h (fun ps z => by cases z) n⟩)
  · exact .inr h
theorem PieceAt.kt {p : Int × Array UInt8} {v : V} (h : PieceAt K H p v) (k : Kt l H H') (L : Lsts H l) : PieceAt K H' p v := let ⟨t, e, q⟩ := h; ⟨t, e, k.sqT L q⟩
theorem MemIn.kt {a : Addr} {m : TKP.Mem} (h : MemIn K H a m) (k : Kt l H H') (L : Lsts H l) : MemIn K H' a m := by
  cases m with
  | file n d mo t =>
    obtain ⟨h1, h2, h3⟩ := h
    refine ⟨h1, h2, ?_⟩
    rcases h3 with ⟨dx, k0, e⟩ | ⟨dx, k0, size, p, ps, ts, e, hp, pr, ok, ed⟩
    · exact .inl ⟨dx, k0, k.ins L e⟩
    · exact .inr ⟨dx, k0, size, p, ps, ts, k.ins L e, k.sqT L hp, Paired.mapP pr fun _ _ z => z.kt k L, ok, ed⟩
  | dir n mo t =>
    obtain ⟨h1, h2, dx, k0, e⟩ := h
    exact ⟨h1, h2, dx, k0, k.ins L e⟩
  | sym n g mo t =>
    obtain ⟨h1, h2, h3, dx, k0, e⟩ := h
    exact ⟨h1, h2, h3, dx, k0, k.ins L e⟩
  | link n g =>
    obtain ⟨h1, h2, dx, k0, mo, t, e⟩ := h
    exact ⟨h1, h2, dx, k0, mo, t, k.ins L e⟩
theorem MemAt.kt {m : TKP.Mem} {v : V} (h : MemAt K H m v) (k : Kt l H H') (L : Lsts H l) : MemAt K H' m v := let ⟨a, e, q⟩ := h; ⟨a, e, q.kt k L⟩
theorem mems_kt {ms : List TKP.Mem} {xs : List V} (h : Paired (MemAt K H) ms xs) (k : Kt l H H') (L : Lsts H l) : Paired (MemAt K H') ms xs := Paired.mapP h fun _ _ z => z.kt k L
theorem RowAt.kt {e : Str × TKP.Row} {v : V} (h : RowAt K H e v) (k : Kt l H H') (L : Lsts H l) : RowAt K H' e v := let ⟨t, a, e, q, r⟩ := h; ⟨t, a, e, k.tup L q, k.sqT L r⟩
theorem Tabs.kp {T : List (Addr × Str)} (t : Tabs T H) (k : Kp l H H') (L : Lsts H l) : Tabs T H' := fun p hp => by
  obtain ⟨ps, h1, h2, h3⟩ := t p hp
  refine ⟨ps, k _ _ h1 fun z => ?_, h2, fun pos cv hc => ?_⟩
  · obtain ⟨xs, e⟩ := L _ z
    rw [h1] at e
    cases e
  · obtain ⟨c, e1, e2⟩ := h3 pos cv hc
    refine ⟨c, e1, k _ _ e2 fun z => ?_⟩
    obtain ⟨xs, e⟩ := L _ z
    rw [e2] at e
    cases e
/-- lists of objects are not the source -/
theorem src_ne {p r : Addr} {n : Nat} {xs : List V} (s : SrcAt H p n) (h : H r = some (.lst xs)) (hx : ∀ x ∈ xs, ∃ a, x = .ref a) : r ≠ p := fun z => by
  obtain ⟨g, b, t, e, _⟩ := s
  rw [z, e] at h
  cases h
  obtain ⟨a, ha⟩ := hx _ List.mem_cons_self
  cases ha
theorem mem_refs {ms : List TKP.Mem} {xs : List V} (h : Paired (MemAt K H) ms xs) : ∀ x ∈ xs, ∃ a, x = .ref a := fun x hx => by
  obtain ⟨i, hi⟩ := List.mem_iff_getElem?.mp hx
  obtain ⟨m, _, a, e, _⟩ := Paired.at h hi
  exact ⟨a, e⟩
theorem row_refs {es : List (Str × TKP.Row)} {xs : List V} (h : Paired (RowAt K H) es xs) : ∀ x ∈ xs, ∃ a, x = .ref a := fun x hx => by
  obtain ⟨i, hi⟩ := List.mem_iff_getElem?.mp hx
  obtain ⟨m, _, t, a, e, _⟩ := Paired.at h hi
  exact ⟨t, e⟩
theorem SrcAt.lsts {p : Addr} {n : Nat} (s : SrcAt H p n) : Lsts H [p] := fun b hb => by
  obtain ⟨g, b', t, e, _⟩ := s
  rw [List.mem_singleton.mp hb]
  exact ⟨_, e⟩
/-! ### what a lambda's run leaves -/
def OutAt (K : PySem.W.Frag) (H0 H : Hp) (r : Except Str TKP.Hs) (v : V) : Prop := ∃ t, v = .ref t ∧ match r with
  | .ok A => ∃ p e1 e2 ys, SqT K H t [.str "none", .ref p] ∧ RowsOf K H0 H p e1 e2 A ys ∧ ys.Perm (A.st.map (·.1)) ∧ sortedS ys = true ∧ A.st.length ≤ 5000
  | .error z => ∃ i, SqT K H t [.str "refused", .int i, .str z]
theorem RowsOf.kt {p d1 d2 : Addr} {h : TKP.Hs} {ys : List Str} (r : RowsOf K H0 H p d1 d2 h ys) (k : Kt l H H') (L : Lsts H l) (L0 : Lsts H0 l) : RowsOf K H0 H' p d1 d2 h ys := by
  obtain ⟨dx, r, xs, f, h1, h2, h3⟩ := r
  exact ⟨dx, r, xs, f, k.ins L h1, k _ _ h2 (fun ps z => by cases z) (fun z => let ⟨zs, e⟩ := L0 r z; f zs e), Paired.mapP h3 fun _ _ z => z.kt k L⟩
theorem OutAt.kt {r : Except Str TKP.Hs} {v : V} (o : OutAt K H0 H r v) (k : Kt l H H') (L : Lsts H l) (L0 : Lsts H0 l) : OutAt K H0 H' r v := by
  obtain ⟨t, e, o⟩ := o
  refine ⟨t, e, ?_⟩
  cases r with
  | ok A =>
    obtain ⟨p, e1, e2, ys, h1, h2, h3, h4, h5⟩ := o
    exact ⟨p, e1, e2, ys, k.sqT L h1, h2.kt k L L0, h3, h4, h5⟩
  | error z =>
    obtain ⟨i, h1⟩ := o
    exact ⟨i, k.sqT L h1⟩
theorem OutAt.old {r : Except Str TKP.Hs} {v : V} (o : OutAt K H1 H r v) (k : ∀ r zs, H0 r = some (.lst zs) → ∃ ws, H1 r = some (.lst ws)) : OutAt K H0 H r v := by
  obtain ⟨t, e, o⟩ := o
  refine ⟨t, e, ?_⟩
  cases r with
  | ok A =>
    obtain ⟨p, e1, e2, ys, h1, h2, h3, h4, h5⟩ := o
    exact ⟨p, e1, e2, ys, h1, h2.old k, h3, h4, h5⟩
  | error z => exact o
theorem RowsOf.ext {p d1 d2 : Addr} {h : TKP.Hs} {ys : List Str} (r : RowsOf K H0 H p d1 d2 h ys) (k : Kp [] H H') : RowsOf K H0 H' p d1 d2 h ys := by
  obtain ⟨dx, r, xs, f, h1, h2, h3⟩ := r
  exact ⟨dx, r, xs, f, k _ _ h1 (by simp), k _ _ h2 (by simp), rows_kp h3 k fun b hb => absurd hb (by simp)⟩
end
theorem run_len : ∀ {ms : List TKP.Mem} {h A : TKP.Hs}, (∀ m ∈ ms, NmOk m.name) → TKP.run TX h ms = .ok A → A.st.length ≤ h.st.length + 251 * ms.length
  | [], h, A, _, e => by
    cases e
    exact Nat.le_add_right _ _
  | m :: ms, h, A, hn, e => by
    rw [TKP.run_cons] at e
    unfold TKP.step at e
    by_cases z : TKP.refusal TX h m = ""
    · rw [if_pos z] at e
      have ih := run_len (ms := ms) (fun q hq => hn q (List.mem_cons_of_mem _ hq)) e
      have := (putAt_len (h := h) (hn m List.mem_cons_self)).1
      rw [List.length_cons]
      omega
    · rw [if_neg z] at e
      cases e
section
variable {K : PySem.W.Frag} {mg : Str → Option Value}
theorem mems_names (T : TF K mg) {H : Hp} {ms : List TKP.Mem} {xs : List V} (h : Paired (MemAt K H) ms xs) : ∀ m ∈ ms, NmOk m.name := fun m hm => by
  obtain ⟨i, hi⟩ := List.mem_iff_getElem?.mp hm
  obtain ⟨v, _, a, _, hma⟩ := Paired.at2 h hi
  obtain ⟨_, _, _, _, mv⟩ := hma.view T
  exact mv.ok
abbrev tUnp (K : PySem.W.Frag) (i : Nat) (E : XK) : TE := tCR (spUnp K) E (tCons (StX.tMakeR (He.ga K "House") (spHInit K) E0 tNil) (tCons (tVar i) tNil))
theorem told_out (T : TF K mg) {Tb : List (Addr × Str)} {σ : L2.St} {H : Hp} {Q : VK} {i : Nat} {l : Addr} {xs : List V} {ms : List TKP.Mem} (hσ : σ[i]? = some (some (.ref l))) (hl : H l = some (.lst xs)) (hm : Paired (MemAt K H) ms xs) (h16 : ms.length ≤ 16) (hT : Tabs Tb H)
    (q : ∀ H' v, Kt [] H H' → Tabs Tb H' → OutAt K H H' (TKP.run TX TKP.nil ms) v → Q v H') : tLam Tb (TT2 (He.ga K "Refused")) (tUnp K i) σ H Q := by
  refine ⟨hT, fun H1 eN T1 => ?_⟩
  have k1 : Kt [] H H1 := Kt.ofE eN
  have hl1 : H1 l = some (.lst xs) := k1 _ _ hl (fun ps z => by cases z) (by simp)
  have hm1 := mems_kt hm k1 Lsts.nil
  refine fun x dx nx ndx ne => new_house nx ndx ne fun H2 c1 c2 k2 hh _ _ => ⟨rfl, ?_⟩
  have hm2 : Paired (MemAt K H2) ms xs := Paired.mapP hm1 fun _ _ z => z.ext k2
  refine ⟨_, hσ, x, c1, c2, l, TKP.nil, ms, xs, rfl, hh, .of (k2 _ _ hl1 (by simp)), hm2, (by show 0 + 251 * ms.length < 9000; omega), (by show 0 + ms.length < 9000; omega), fun A e H' p' e1 e2 ys k3 hh3 rows perm srt => ?_, fun z e H' d j k3 hd => ?_⟩
  · refine ⟨by show 2 ≤ sizeLine; decide, fun p hp => ?_⟩
    have k4 : Kp [] H' (upd H' p (.tup [.str "none", .ref p'])) := Kp.new hp
    refine q _ _ (k1.trans ((k2.trans k3).trans k4).kt) (T1.ext fun b o eb => ((k2.trans k3).trans k4) b o eb (by simp)) ?_
    rw [e]
    have := run_len (mems_names T hm) e
    exact ⟨p, rfl, p', e1, e2, ys, .of upd_same, (rows.ext k4).old (fun r zs e => ⟨zs, k2 _ _ (k1 _ _ e (fun ps z => by cases z) (by simp)) (by simp)⟩), perm, srt, by have z : A.st.length ≤ 0 + 251 * ms.length := this; omega⟩
  · refine ⟨rfl, d, j, z, rfl, hd, fun p hp => ?_⟩
    have k4 : Kp [] H' (upd H' p (.tup [.str "refused", .int j, .str z])) := Kp.new hp
    refine q _ _ (k1.trans ((k2.trans k3).trans k4).kt) (T1.ext fun b o eb => ((k2.trans k3).trans k4) b o eb (by simp)) ?_
    rw [e]
    exact ⟨p, rfl, j, .of upd_same⟩
end
end TarK

namespace TarK
open PySem PySem.Spec PyProof.Rows L2 LamX NdefX
theorem memOf_hd {c : Nat} {s : Spc} (h : SpcOk (NmC c) s) : TKP.MemHd TX c (memOf s) := by
  cases s with
  | file n ns m t => exact memHd (m := .file n (byteArr ns) m t) h.1 fun _ _ e => by cases e
  | dir n m t => exact memHd (m := .dir n m t) h.1 fun _ _ e => by cases e
  | sym n g m t => exact memHd (m := .sym n g m t) h.1 fun _ _ e => by cases e
  | link n g m t =>
    refine memHd (m := .link n g) h.1 fun _ _ e => ?_
    cases e
    exact h.2.1
  | sparse n size pcs m t => exact memHd (m := .file n (sparseC size (pcs.map arr)) m t) h.1 fun _ _ e => by cases e
theorem mems_kp1 {K : PySem.W.Frag} {H H' : Hp} {D : Addr} {acc : List V} {ms : List TKP.Mem} {xs : List V} (h : Paired (MemAt K H) ms xs) (k : Kp [D] H H') (e : H D = some (.lst acc)) : Paired (MemAt K H') ms xs :=
  mems_kt h k.kt fun b hb => ⟨acc, by rw [List.mem_singleton.mp hb]; exact e⟩
abbrev tMems (K : PySem.W.Frag) (z : Str) : TE := tLc (iList K (tCR (spBelow K) E0 (tCons (tC (.str z)) (tCons (tCR (spSpecs K) E0 (tCons (tVar 2) (tCons (tC (.int 8)) tNil))) tNil)))) (gName 12) tYes (tCR (spMade K) E0 (tCons (tVar 12) tNil)) [12]
/-- the members of one list -/
theorem mems_out {K : PySem.W.Frag} {σ : L2.St} {H : Hp} {Q : VK} {p : Addr} {n c : Nat} {z : Str} (h2 : σ[2]? = some (some (.ref p))) (h12 : 12 < σ.length) (hz : z = SX.S [c]) (hc : c ≠ 47 ∧ c ∈ LETS.cps.toList) (sp : SrcAt H p n) (hn : n < 800000)
    (q : ∀ H' D ms xs, Kp [p] H H' → SrcAt H' p (n + 9000) → H' D = some (.lst xs) → Paired (MemAt K H') ms xs → ms.length ≤ 8 → (∀ m ∈ ms, TKP.MemHd TX c m) → Q (.ref D) H') : tMems K z σ H Q := by
  subst hz
  refine ⟨_, h2, p, n, rfl, sp, hn, fun H1 D1 ss xs k1 s1 f1 e1 pr sl ok => ?_⟩
  refine ⟨c, D1, H, ss, xs, rfl, e1, pr, sl, ok, fun H2 D2 xs2 k2 f2 e2 pr2 => ?_⟩
  refine ⟨D2, rfl, ⟨_, .of e2⟩, fun D hD => ?_⟩
  have hlen : (ss.map (bel c)).length = xs2.length := Paired.length pr2
  have ok2 : ∀ s ∈ ss.map (bel c), SpcOk (NmC c) s := fun s hs => by
    obtain ⟨s', hs', rfl⟩ := List.mem_map.mp hs
    exact bel_ok hc (ok s' hs')
  have sl2 : (ss.map (bel c)).length ≤ 8 := by rw [List.length_map]; exact sl
  generalize ss.map (bel c) = tt at pr2 hlen ok2 sl2
  have km : ∀ x ∈ ([] : List Addr), Mut (H2 x) := fun x hx => absurd hx (by simp)
  refine lc_it (walk_list (K := K) (a := D2) (xs := xs2)) (fun i H3 => Kp [D] (upd H2 D (.lst [])) H3 ∧ ∃ acc, H3 D = some (.lst acc) ∧ Paired (MemAt K H3) ((tt.map memOf).take i) acc) ⟨Kp.refl _ _, [], upd_same, by rw [List.take_zero]; exact .nil⟩
    (fun i H3 _ e => .of (Kp.drop e.1 hD _ _ e2 (by simp))) (fun i v H3 H4 hi e hy => ?_) (fun H3 e => ?_)
  · obtain ⟨rfl, hv⟩ := hy
    obtain ⟨kp, acc, hacc, pa⟩ := e
    obtain ⟨s, hs, hsv⟩ := Paired.at pr2 hv
    have kH := Kp.drop kp hD
    refine ⟨by simp [wipe], _, by rw [List.getElem?_set_self (by simpa [wipe] using h12)], v, H, s, c, rfl, hsv.kp kH km (fun x hx => absurd hx (by simp)), ok2 s (List.mem_of_getElem? hs), fun H5 a k5 hm => ?_⟩
    have hacc5 := k5 _ _ hacc (by simp)
    have al : acc.length < sizeLine := by
      rw [← Paired.length pa, List.length_take, List.length_map]
      exact Nat.lt_of_le_of_lt (Nat.min_le_right _ _) (Nat.lt_of_le_of_lt sl2 (by decide))
    have k6 : Kp [D] H5 (upd H5 D (.lst (acc ++ [.ref a]))) := Kp.put (List.mem_singleton.mpr rfl)
    refine ⟨acc, hacc5, al, (kp.trans (Kp.of k5 _)).trans k6, _, upd_same, ?_⟩
    rw [take_snoc (show (tt.map memOf)[i]? = some (memOf s) by rw [List.getElem?_map, hs]; rfl)]
    exact mems_kp1 (Paired.snoc (Paired.mapP pa fun _ _ z => z.ext k5) ⟨a, rfl, hm⟩) k6 hacc5
  · obtain ⟨kp, acc, hacc, pa⟩ := e
    rw [← hlen, show tt.length = (tt.map memOf).length by rw [List.length_map], List.take_length] at pa
    have kH := Kp.drop kp hD
    refine q H3 D _ acc ((k1.trans (Kp.of k2 _)).trans (Kp.of kH _)) (s1.ext (k2.trans kH)) hacc pa (by rw [List.length_map]; exact sl2) fun m hm => ?_
    obtain ⟨s, hs, rfl⟩ := List.mem_map.mp hm
    exact memOf_hd (ok2 s hs)
end TarK

namespace TarK
open PySem PySem.Spec PyProof.Rows L2 LamX NdefX
abbrev nLaw : List Str := ["_law_script", "_law_at", "_law_source_here", "_law_turn", "_law_one", "_law_two", "_law_alone", "_law_found", "_law_words", "_law_more", "_law_due", "_law_mixed_here", "_law_spec_here", "_law_some"]
theorem sc_law : FnScope nLaw ["_law_script"] (defScope s_law) := ⟨rfl, rfl, rfl, by decide +kernel, rfl, by decide +kernel, by decide +kernel⟩
theorem boot_max2 : bootBuiltins "max" = some (.builtin "max") := by decide +kernel
theorem boot_min2 : bootBuiltins "min" = some (.builtin "min") := by decide +kernel
/-- the name of the law's lambdas -/
def qLam : Str := (envOfC "law" (defScope s_law) 0 0 .none).qual ++ "<lambda>"
section
variable {w : World} {K : PySem.W.Frag} {mg : Str → Option Value} {base : Heap} {c P : Addr}
theorem told_call (T : TF K mg) {X : Cx} (hK : X.K = K) (hmg : X.mg = mg) (hP : X.prog = Pg) {i : Nat} {x : Str} {p1 p2 p3 p4 p5 p6 p7 p8 : Pos} {scope : Scope} (hg : Gl X "_law_told") (TB : TabB X.base X.mg c P) (hcode : X.env.code = .ref c) (hq : X.env.qual ++ "<lambda>" = qLam) (hr : Room 8 X.A)
    (L : LamS X.env.scope scope) (hN : X.N[i]? = some x) (hv : scope.names.lookup x = some .free) (hu : scope.names.lookup ("unpacked" : Str) = some .globalImplicit) (hh : scope.names.lookup ("House" : Str) = some .globalImplicit) (hd : (x == ("__debug__" : Str)) = false) (hcd : (x == ("__classdict__" : Str)) = false) :
    PE X (.Call (.Name "_law_told" p1) [.Lambda { posonlyargs := [], args := [], vararg := none, kwonlyargs := [], kw_defaults := [], kwarg := none, defaults := [] } (.Call (.Name "unpacked" p2) [.Call (.Name "House" p3) [] [] p4, .Name x p5] [] p6) scope p7] [] p8) (tLam [(P, qLam)] (TT2 (He.ga K "Refused")) (tUnp K i)) := by
  subst hK hmg
  have G1 := ok_house_init (P := X.prog) (w := X.w) (base := X.base) T
  have G2 : FR X.prog X.w X.K X.mg X.base 6 (He.ga X.K "unpacked") (spUnp X.K) := by
    rw [hP]
    exact ok_unpacked T
  obtain ⟨fd, F⟩ := T.fd_l_told
  have hb := F.bindsN (ps := ["_law_call"]) fun _ _ _ _ _ _ us hl => match us, hl with | [_], _ => rfl
  have hkp := F.kp
  obtain ⟨oc, od, dV, kV, doc, pm, an, cdv, ct, osl, rfl, lk, hcd2, _, _⟩ := F.ex
  refine pe_lamcall (T := [(P, qLam)]) (TT := TT2 (He.ga X.K "Refused")) (a := "_law_call") (Ng := nTold) (k := 6) (t := tUnp X.K i) hg T.g__law_told hkp lk hcd2 hb sc_l_told rfl (.inl rfl) (told2 T) TB hcode (by rw [hq]; exact List.mem_singleton.mpr rfl) (fun p hp _ => by rw [List.mem_singleton.mp hp, hq]) hr L rfl (fun _ _ _ _ _ => rfl) (fun A outer s H E f c' hr2 => ?_)
  have hx : Passes (L2.CX X.prog X.w) (lamCx X A outer s H E scope f c') E := passes_call (W := fun cls d _ H => E cls d H) (takes_of rfl rfl rfl rfl) fun _ _ _ _ h => h
  exact pe_callR (X := lamCx X A outer s H E scope f c') G2 hr2 T.g_unpacked T.k_unpacked hu hx (pa_cons (pe_makeR0 T.m_House G1 (hr2.mono (by decide)) hh T.g_House passL) (pa_cons (pe_var hN (.inr (.inr hv)) hd hcd) pa_nil))
end
end TarK

namespace TarK
open PySem PySem.Spec PyProof.Rows L2 LamX NdefX
section
variable {K : PySem.W.Frag} {mg : Str → Option Value}
abbrev tAlone (K : PySem.W.Frag) (Tb : List (Addr × Str)) : TE := tLc (iList K (tLst (tCons (tVar 4) (tCons (tVar 5) tNil)))) (gName 13) tYes (tLam Tb (TT2 (He.ga K "Refused")) (tUnp K 13)) [13]
theorem alone_stmt (T : TF K mg) {Tb : List (Addr × Str)} {u : TS} {E : Ends} {σ : L2.St} {H : Hp} {i : Nat} {D1 D2 : Addr} {xs1 xs2 : List V} {ms1 ms2 : List TKP.Mem} (h4 : σ[4]? = some (some (.ref D1))) (h5 : σ[5]? = some (some (.ref D2))) (h13 : 13 < σ.length) (hT : Tabs Tb H)
    (e1 : H D1 = some (.lst xs1)) (e2 : H D2 = some (.lst xs2)) (p1 : Paired (MemAt K H) ms1 xs1) (p2 : Paired (MemAt K H) ms2 xs2) (l1 : ms1.length ≤ 16) (l2 : ms2.length ≤ 16)
    (q : ∀ H' D v1 v2, Kt [] H H' → Tabs Tb H' → H' D = some (.lst [v1, v2]) → OutAt K H H' (TKP.run TX TKP.nil ms1) v1 → OutAt K H H' (TKP.run TX TKP.nil ms2) v2 → u E (σ.set i (some (.ref D))) H') : tSeq (tAsg (tAlone K Tb) (gName i)) u E σ H := by
  show tAlone K Tb σ H (fun v H' => u E (σ.set i (some v)) H')
  refine ⟨_, h4, _, h5, by show 2 ≤ sizeLine; decide, fun L hL => ⟨L, rfl, ⟨_, .of upd_same⟩, fun D hD => ?_⟩⟩
  have kL : Kp [] H (upd H L (.lst [.ref D1, .ref D2])) := Kp.new hL
  have eL : upd H L (.lst [.ref D1, .ref D2]) L = some (.lst [.ref D1, .ref D2]) := upd_same
  generalize upd H L (.lst [.ref D1, .ref D2]) = H1 at kL eL hD ⊢
  have kD : Kp [] H1 (upd H1 D (.lst [])) := Kp.new hD
  have eD : upd H1 D (.lst []) D = some (.lst []) := upd_same
  have T1 : Tabs Tb (upd H1 D (.lst [])) := Tabs.kp hT (kL.trans kD) Lsts.nil
  have LD : L ≠ D := ne_of_none eL hD
  have dD : ∀ {a : Addr} {xs : List V}, H a = some (.lst xs) → a ≠ D := fun {a xs} e => ne_of_none (kL _ _ e (by simp)) hD
  refine lc_it (walk_list (K := K) (a := L) (xs := [V.ref D1, V.ref D2])) (fun i Hc => Kt [D] (upd H1 D (.lst [])) Hc ∧ Tabs Tb Hc ∧ ∃ acc, Hc D = some (.lst acc) ∧ Paired (OutAt K (upd H1 D (.lst [])) Hc) (([TKP.run TX TKP.nil ms1, TKP.run TX TKP.nil ms2]).take i) acc) ⟨Kt.refl, T1, [], eD, .nil⟩
    (fun i Hc _ e => .of (e.1 _ _ (kD _ _ eL (by simp)) (fun ps z => by cases z) (by simpa using LD))) (fun i v Hq Hc hi e hy => ?_) (fun Hc e => ?_)
  · obtain ⟨rfl, hv⟩ := hy
    obtain ⟨kt, Tc, acc, hacc, pa⟩ := e
    obtain ⟨Dl, xs, ms, rfl, er, hl, hm, h16⟩ : ∃ Dl xs ms, v = .ref Dl ∧ ([TKP.run TX TKP.nil ms1, TKP.run TX TKP.nil ms2])[i]? = some (TKP.run TX TKP.nil ms) ∧ H Dl = some (.lst xs) ∧ Paired (MemAt K H) ms xs ∧ ms.length ≤ 16 := by
      match i, hv with
      | 0, hv => cases hv; exact ⟨D1, xs1, ms1, rfl, rfl, e1, p1, l1⟩
      | 1, hv => cases hv; exact ⟨D2, xs2, ms2, rfl, rfl, e2, p2, l2⟩
      | n + 2, hv => simp at hv
    have kc : Kt [] H Hc := fun b o eb ht _ => kt b o ((kL.trans kD) b o eb (by simp)) ht (by simpa using ne_of_none (kL _ _ eb (by simp)) hD)
    have hl2 := kc _ _ hl (fun ps z => by cases z) (by simp)
    refine ⟨by simp [wipe], told_out T (i := 13) (by rw [List.getElem?_set_self (by simpa [wipe] using h13)]) hl2 (mems_kt hm kc Lsts.nil) h16 Tc (fun H4 v k4 T4 o4 => ?_)⟩
    have hacc4 := k4 _ _ hacc (fun ps z => by cases z) (by simp)
    have al : acc.length < sizeLine := by
      rw [← Paired.length pa, List.length_take]
      exact Nat.lt_of_le_of_lt (Nat.min_le_right _ _) (by show 2 < sizeLine; decide)
    have k5 : Kp [D] H4 (upd H4 D (.lst (acc ++ [v]))) := Kp.put (List.mem_singleton.mpr rfl)
    have L4 : Lsts H4 [D] := fun b hb => ⟨acc, by rw [List.mem_singleton.mp hb]; exact hacc4⟩
    have Lc : Lsts Hc [D] := fun b hb => ⟨acc, by rw [List.mem_singleton.mp hb]; exact hacc⟩
    have L0 : Lsts (upd H1 D (.lst [])) [D] := fun b hb => ⟨[], by rw [List.mem_singleton.mp hb]; exact eD⟩
    refine ⟨acc, hacc4, al, (kt.trans (Kt.of k4)).trans k5.kt, Tabs.kp T4 k5 L4, acc ++ [v], upd_same, ?_⟩
    rw [take_snoc er]
    refine Paired.snoc (Paired.mapP pa fun _ _ z => (z.kt k4 Lsts.nil Lsts.nil).kt k5.kt L4 L0) ((o4.old fun r zs e => ?_).kt k5.kt L4 L0)
    by_cases hr : r = D
    · exact ⟨acc, by rw [hr]; exact hacc⟩
    · exact ⟨zs, kt _ _ e (fun ps z => by cases z) (by simpa using hr)⟩
  · obtain ⟨kt, Tc, acc, hacc, pa⟩ := e
    have kc : Kt [] H Hc := fun b o eb ht _ => kt b o ((kL.trans kD) b o eb (by simp)) ht (by simpa using ne_of_none (kL _ _ eb (by simp)) hD)
    have od : ∀ r zs, H r = some (.lst zs) → ∃ ws, upd H1 D (.lst []) r = some (.lst ws) := fun r zs e => ⟨zs, (kL.trans kD) _ _ e (by simp)⟩
    cases pa with
    | cons o1 pa =>
      cases pa with
      | cons o2 pa =>
        cases pa
        exact q Hc D _ _ kc Tc hacc (o1.old od) (o2.old od)
end
end TarK

namespace TarK
open PySem PySem.Spec PyProof.Rows L2 LamX NdefX
theorem ix_tupK {X : Cx} {K : PySem.W.Frag} (h : X.K = K) : IxR X (rIxT K) := by
  subst h
  exact ix_tup
abbrev tWrd (K : PySem.W.Frag) : TT := tTest (tOp rEq (tOp (rIxT K) (tVar 7) (tC (.int 0))) (tC (.str "refused")))
def errs : Except Str TKP.Hs → List Str
  | .ok _ => []
  | .error z => [z]
abbrev tWords (K : PySem.W.Frag) : TE := tLc (iList K (tVar 6)) (gName 7) (tWrd K) (tOp (rIxT K) (tVar 7) (tC (.int 2))) [7]
theorem words_stmt {K : PySem.W.Frag} {u : TS} {E : Ends} {σ : L2.St} {H H0 : Hp} {i : Nat} {D : Addr} {v1 v2 : V} {r1 r2 : Except Str TKP.Hs} (h6 : σ[6]? = some (some (.ref D))) (h7 : 7 < σ.length) (e : H D = some (.lst [v1, v2])) (o1 : OutAt K H0 H r1 v1) (o2 : OutAt K H0 H r2 v2)
    (q : ∀ H' W, Kp [] H H' → H' W = some (.lst ((errs r1 ++ errs r2).map V.str)) → u E (σ.set i (some (.ref W))) H') : tSeq (tAsg (tWords K) (gName i)) u E σ H := by
  show tWords K σ H (fun v H' => u E (σ.set i (some v)) H')
  refine ⟨_, h6, D, rfl, ⟨_, .of e⟩, fun W hW => ?_⟩
  have sig : ∀ v : V, ((wipe σ [7]).set 7 (some v))[7]? = some (some v) := fun v => List.getElem?_set_self (by simpa [wipe] using h7)
  refine lc_it (walk_list (K := K) (a := D) (xs := [v1, v2])) (fun i Hc => Kp [W] (upd H W (.lst [])) Hc ∧ Hc W = some (.lst ((([r1, r2].take i).flatMap errs).map V.str))) ⟨Kp.refl _ _, upd_same⟩ (fun i Hc _ p => .of (Kp.drop p.1 hW _ _ e (by simp))) (fun i v Hq Hc hi p hy => ?_) (fun Hc p => ?_)
  · obtain ⟨rfl, hv⟩ := hy
    obtain ⟨kp, hw⟩ := p
    have kc := Kp.drop kp hW
    obtain ⟨r, er, t, rfl, o⟩ : ∃ r, ([r1, r2])[i]? = some r ∧ OutAt K H0 H r v := by
      match i, hv with
      | 0, hv => cases hv; exact ⟨r1, rfl, o1⟩
      | 1, hv => cases hv; exact ⟨r2, rfl, o2⟩
      | n + 2, hv => simp at hv
    refine ⟨by simp [wipe], ?_⟩
    rw [take_snoc er, List.flatMap_append, List.map_append]
    cases r with
    | ok A =>
      obtain ⟨p, e1, e2, ys, h1, _⟩ := o
      refine ⟨_, sig _, t, _, 0, .str "none", rfl, rfl, sqT_ext h1 kc, rfl, rfl, false, rfl, kp, ?_⟩
      rw [hw]
      simp [errs]
    | error z =>
      obtain ⟨j, h1⟩ := o
      refine ⟨_, sig _, t, _, 0, .str "refused", rfl, rfl, sqT_ext h1 kc, rfl, rfl, true, rfl, ?_⟩
      refine ⟨_, sig _, t, _, 2, .str z, rfl, rfl, sqT_ext h1 kc, rfl, _, hw, ?_, kp.trans (Kp.put (List.mem_singleton.mpr rfl)), ?_⟩
      · rw [List.length_map]
        refine Nat.lt_of_le_of_lt (m := 2) ?_ (by decide)
        match i, hi with
        | 0, _ => exact Nat.zero_le _
        | 1, _ =>
          show (errs r1 ++ []).length ≤ 2
          cases r1 <;> simp [errs]
      · rw [upd_same]
        simp [errs]
  · obtain ⟨kp, hw⟩ := p
    refine q Hc W (Kp.drop kp hW) ?_
    rw [hw]
    simp
end TarK

namespace TarK
open PySem PySem.Spec PyProof.Rows L2 LamX NdefX
theorem told_stmt {K : PySem.W.Frag} {mg : Str → Option Value} (T : TF K mg) {u : TS} {E : Ends} {Tb : List (Addr × Str)} {σ : L2.St} {H : Hp} {i j : Nat} {l : Addr} {xs : List V} {ms : List TKP.Mem} (hσ : σ[i]? = some (some (.ref l))) (hl : H l = some (.lst xs)) (hm : Paired (MemAt K H) ms xs) (h16 : ms.length ≤ 16) (hT : Tabs Tb H)
    (q : ∀ H' v, Kt [] H H' → Tabs Tb H' → OutAt K H H' (TKP.run TX TKP.nil ms) v → u E (σ.set j (some v)) H') : tSeq (tAsg (tLam Tb (TT2 (He.ga K "Refused")) (tUnp K i)) (gName j)) u E σ H :=
  told_out T (Q := fun v H' => u E (σ.set j (some v)) H') hσ hl hm h16 hT q
theorem inV_mem : ∀ {es : List Str} {w : Str}, w ∈ es → inV (V.str w) (es.map V.str) = true
  | z :: es, w, h => by
    show ((z == w) || inV (V.str w) (es.map V.str)) = true
    rcases List.mem_cons.mp h with e | h
    · rw [e, beq_self_eq_true, Bool.true_or]
    · rw [inV_mem h, Bool.or_true]
theorem flat_strs (es : List Str) : (es.map V.str).all flatV = true := by
  rw [List.all_map]
  exact List.all_eq_true.mpr fun _ _ => rfl
theorem strs_ne {H : Hp} {p W : Addr} {n : Nat} {es : List Str} (s : SrcAt H p n) (h : H W = some (.lst (es.map V.str))) : W ≠ p := fun z => by
  obtain ⟨g, b, t, e, _⟩ := s
  rw [z, e] at h
  cases es with
  | nil => cases h
  | cons a l => cases h
theorem mix_len {α : Type} {a b m : List α} (h : TKP.Mix a b m) : m.length = a.length + b.length := by
  induction h with
  | nil => rfl
  | left h ih => rw [List.length_cons, List.length_cons, ih]; omega
  | right h ih => rw [List.length_cons, List.length_cons, ih]; omega
theorem pairwise_map {H : Hp} {xs : List V} (h : (xs.map (keyAt H)).Pairwise (fun x y => ltS x y = true)) : xs.Pairwise (fun x y => ltS (keyAt H x) (keyAt H y) = true) := List.pairwise_map.mp h
theorem row_tups {K : PySem.W.Frag} {H : Hp} {es : List (Str × TKP.Row)} {xs : List V} (h : Paired (RowAt K H) es xs) : ∀ x ∈ xs, ∃ t w, x = V.ref t ∧ SqT K H t [.str (keyAt H x), w] := fun x hx => by
  obtain ⟨i, hi⟩ := List.mem_iff_getElem?.mp hx
  obtain ⟨e, _, hr⟩ := Paired.at h hi
  have hk := hr.key
  obtain ⟨t, a, rfl, h1, _⟩ := hr
  exact ⟨t, .ref a, rfl, .of (by rw [hk]; exact h1)⟩
end TarK

namespace TarK
open PySem PySem.Spec PyProof.Rows L2 LamX NdefX
/-- the law keeps its promise: True -/
def spLaw (K : PySem.W.Frag) (P : Addr) : Sp := fun vs H Q _ => ∃ (l : Addr) (ns : List Int), vs = [.ref l] ∧ SqL K H l (ns.map V.int) ∧ ns.length ≤ 63 ∧ H P = some (.tbl #[]) ∧ ∀ H', Q (.bl true) H'
theorem sqL_past {K : PySem.W.Frag} {H1 H2 H3 : Hp} {l p : Addr} {xs : List V} (h : SqL K H1 l xs) (n : H1 p = none) (k : Kt [] H1 H2) (k2 : Kt [p] H2 H3) : SqL K H3 l xs := by
  rcases h with (h | ⟨o, h⟩) | h
  · exact .inl (.inl (k2 _ _ (k _ _ h (fun ps z => by cases z) (by simp)) (fun ps z => by cases z) (by simpa using ne_of_none h n)))
  · exact .inl (.inr ⟨o, k2 _ _ (k _ _ h (fun ps z => by cases z) (by simp)) (fun ps z => by cases z) (by simpa using ne_of_none h n)⟩)
  · exact .inr h
theorem gName_go {i : Nat} {v : V} {σ : L2.St} {H : Hp} {Q : L2.St → Hp → Prop} (h : Q (σ.set i (some v)) H) : gName i v σ H Q := h
theorem mems_stmt {K : PySem.W.Frag} {u : TS} {E : Ends} {σ : L2.St} {H : Hp} {p : Addr} {n c i : Nat} {z : Str} (h2 : σ[2]? = some (some (.ref p))) (h12 : 12 < σ.length) (hz : z = SX.S [c]) (hc : c ≠ 47 ∧ c ∈ LETS.cps.toList) (sp : SrcAt H p n) (hn : n < 800000)
    (q : ∀ H' D ms xs, Kp [p] H H' → SrcAt H' p (n + 9000) → H' D = some (.lst xs) → Paired (MemAt K H') ms xs → ms.length ≤ 8 → (∀ m ∈ ms, TKP.MemHd TX c m) → u E (σ.set i (some (.ref D))) H') : tSeq (tAsg (tMems K z) (gName i)) u E σ H :=
  mems_out (Q := fun v H' => u E (σ.set i (some v)) H') h2 h12 hz hc sp hn q
theorem turns (x : Int) (h : 0 ≤ x) : ∃ n : Nat, n ≤ 4 ∧ (if (if x < 4 then x else 4) > 1 then (if x < 4 then x else 4) else 1) = (n : Int) := by
  by_cases h1 : x < 4
  · rw [if_pos h1]
    by_cases h2 : x > 1
    · rw [if_pos h2]
      exact ⟨x.toNat, by omega, by omega⟩
    · rw [if_neg h2]
      exact ⟨1, by decide, rfl⟩
  · rw [if_neg h1, if_pos (by decide)]
    exact ⟨4, by decide, rfl⟩
section
variable {w : World} {K : PySem.W.Frag} {mg : Str → Option Value} {base : Heap} {c P : Addr}
theorem law_walk (T : TF K mg) (TB : TabB base mg c P) {f : Addr} {A : Around} {outer : List Env} {s : Shared} {H : Hp} {vs : List V} {Q : VK} {E : XK} (hr : Room 10 (A.deeper (envOfC "law" (defScope s_law) s.heap.objs.size f (.ref c)))) (h : spLaw K P vs H Q E) :
    ∃ t, PSs (cxOf (L2.CX Pg w) Pg w K mg base nLaw "law" (defScope s_law) f (.ref c) A outer s H E) (defBody s_law) t ∧ t { nx := fun _ H' => Q .non H', rt := Q } (start nLaw vs) H := by
  have G1 := ok_l_source (P := Pg) (w := w) (base := base) T
  have G2 := ok_l_specs (P := Pg) (w := w) (base := base) T
  have G3 := ok_l_below (P := Pg) (w := w) (base := base) T
  have G4 := ok_l_made (w := w) (base := base) T
  have G5 := ok_l_mixed (P := Pg) (w := w) (base := base) T
  have G6 := ok_entries (P := Pg) (w := w) (base := base) T
  refine ⟨_, PSs.nox <| pss_cons (ps_for PassesOwn.never rfl (pi_range1 (by rfl) T.f_range (pa_cons (pe_callB (call_max2 rfl) (by rfl) T.f_max boot_max2 (pa_cons pe_int (pa_cons (pe_callB (call_min2 rfl) (by rfl) T.f_min boot_min2 (pa_cons pe_int (pa_cons (pe_callB call_len (by rfl) T.f_len boot_len (pa_cons (pv 0) pa_nil)) pa_nil))) pa_nil))) pa_nil)) (pg_name (i := 1) sc_law.nd rfl (.inl rfl))
      (pss_cons (ps_set (i := 2) sc_law.nd rfl (.inl rfl) (pe_callR (G1.mono (by decide)) hr T.g__law_source T.k__law_source (by rfl) passL (pa_cons (pv 0) (pa_cons (pv 1) pa_nil))))
      (pss_one (ps_for PassesOwn.never rfl (pi_range1 (by rfl) T.f_range (pa_cons pe_int pa_nil)) (pg_name (i := 3) sc_law.nd rfl (.inl rfl))
        (pss_cons (ps_setLc (i := 4) (own := [("_law_spec_here", 12)]) (g := gName 12) (tt := tYes) rfl sc_law.nd rfl rfl (sw_true rfl rfl rfl rfl) (pi_list (pe_callR (G3.mono (by decide)) hr T.g__law_below T.k__law_below (by rfl) passL (pa_cons pe_str (pa_cons (pe_callR (G2.mono (by decide)) hr T.g__law_specs T.k__law_specs (by rfl) passL (pa_cons (pv 2) (pa_cons pe_int pa_nil))) pa_nil))))
          (blkOk_by (N := nLaw) (sc := defScope s_law) (by decide +kernel)) (fun _ _ _ _ _ => pg_name (i := 12) sc_law.nd rfl (.inl rfl)) (fun _ _ _ _ _ => pts_nil) (fun _ _ _ _ _ => pe_callR (G4.mono (by decide)) hr T.g__law_made T.k__law_made (by rfl) passL (pa_cons (pv 12) pa_nil)))
        (pss_cons (ps_setLc (i := 5) (own := [("_law_spec_here", 12)]) (g := gName 12) (tt := tYes) rfl sc_law.nd rfl rfl (sw_true rfl rfl rfl rfl) (pi_list (pe_callR (G3.mono (by decide)) hr T.g__law_below T.k__law_below (by rfl) passL (pa_cons pe_str (pa_cons (pe_callR (G2.mono (by decide)) hr T.g__law_specs T.k__law_specs (by rfl) passL (pa_cons (pv 2) (pa_cons pe_int pa_nil))) pa_nil))))
          (blkOk_by (N := nLaw) (sc := defScope s_law) (by decide +kernel)) (fun _ _ _ _ _ => pg_name (i := 12) sc_law.nd rfl (.inl rfl)) (fun _ _ _ _ _ => pts_nil) (fun _ _ _ _ _ => pe_callR (G4.mono (by decide)) hr T.g__law_made T.k__law_made (by rfl) passL (pa_cons (pv 12) pa_nil)))
        (pss_cons (ps_setLc (i := 6) (own := [("_law_some", 13)]) (g := gName 13) (tt := tYes) rfl sc_law.nd rfl rfl (sw_true rfl rfl rfl rfl) (pi_list (pe_lst (pa_cons (pv 4) (pa_cons (pv 5) pa_nil))))
          (blkOk_by (N := nLaw) (sc := defScope s_law) (by decide +kernel)) (fun _ _ _ _ _ => pg_name (i := 13) sc_law.nd rfl (.inr rfl)) (fun _ _ _ _ _ => pts_nil)
          (fun _ _ _ _ _ => told_call (i := 13) T rfl rfl rfl (by rfl) TB rfl (by rfl) (hr.mono (by decide)) (lamS_by (by rfl)) rfl rfl rfl rfl (by decide) (by decide)))
        (pss_cons (ps_setLc (i := 8) (own := [("_law_found", 7)]) (g := gName 7) (tt := tWrd K) rfl sc_law.nd rfl rfl (sw_true rfl rfl rfl rfl) (pi_list (pv 6))
          (blkOk_by (N := nLaw) (sc := defScope s_law) (by decide +kernel)) (fun _ _ _ _ _ => pg_name (i := 7) sc_law.nd rfl (.inl rfl)) (fun _ _ _ _ _ => pts_one (pt_cmpR op_eq (pe_ix (ix_tupK (K := K) rfl) (pv 7) pe_int (fun _ _ => rfl)) pe_str (nomark _)))
          (fun _ _ _ _ _ => pe_ix (ix_tupK (K := K) rfl) (pv 7) pe_int (fun _ _ => rfl)))
        (pss_one (ps_for PassesOwn.never rfl (pi_range1 (by rfl) T.f_range (pa_cons pe_int pa_nil)) (pg_name (i := 9) sc_law.nd rfl (.inl rfl))
          (pss_cons (ps_set (i := 11) sc_law.nd rfl (.inr rfl) (pe_callR (G5.mono (by decide)) hr T.g__law_mixed T.k__law_mixed (by rfl) passL (pa_cons (pv 2) (pa_cons (pv 4) (pa_cons (pv 5) pa_nil)))))
          (pss_cons (ps_set (i := 7) sc_law.nd rfl (.inl rfl) (told_call (i := 11) T rfl rfl rfl (by rfl) TB rfl (by rfl) (hr.mono (by decide)) (lamS_by (by rfl)) rfl rfl rfl rfl (by decide) (by decide)))
          (pss_cons (ps_if (pt_cmpR (op_neNil hr.units0) (pv 8) (pe_lst pa_nil) (by rfl))
              (pss_cons (ps_if (pw_or (pt_cmpR op_ne (pe_ix ix_tup (pv 7) pe_int (fun _ _ => rfl)) pe_str (nomark _)) (pw_or1 (pt_cmpR op_notIn_seq (pe_ix ix_tup (pv 7) pe_int (fun _ _ => rfl)) (pv 8) (by rfl)))).pt pss_no pss_nil) (pss_one ps_continue)) pss_nil)
          (pss_cons (ps_set (i := 10) sc_law.nd rfl (.inl rfl) (pe_callB cr_sortedT (by rfl) T.f_sorted boot_sorted (pa_cons (pe_op op_cat (pe_methR0 (pe_ix ix_tup (pe_ix ix_list (pv 6) pe_int (fun _ _ => rfl)) pe_int (fun _ _ => rfl)) T.c_House T.h_House_entries (G6.mono (by decide)) hr passL)
              (pe_methR0 (pe_ix ix_tup (pe_ix ix_list (pv 6) pe_int (fun _ _ => rfl)) pe_int (fun _ _ => rfl)) T.c_House T.h_House_entries (G6.mono (by decide)) hr passL)) pa_nil)))
          (pss_one (ps_if (pw_or (pt_cmpR op_eq (pe_ix ix_tup (pv 7) pe_int (fun _ _ => rfl)) pe_str (nomark _)) (pw_or1 (pt_cmpR (op_neSame hr.units) (pe_methR0 (pe_ix ix_tup (pv 7) pe_int (fun _ _ => rfl)) T.c_House T.h_House_entries (G6.mono (by decide)) hr passL) (pv 10) (by rfl)))).pt pss_no pss_nil))))))))))))))))
      (pss_one (ps_ret pe_bl)), ?_⟩
  obtain ⟨l, ns, rfl, hl, hn, hP, q⟩ := h
  have hT : Tabs [(P, qLam)] H := fun p hp => by rw [List.mem_singleton.mp hp]; exact TabS.nil hP
  obtain ⟨n4, hn4, e4⟩ := turns ((ns.map V.int).length : Nat) (Int.natCast_nonneg _)
  refine ⟨_, rfl, _, _, rfl, .inl ⟨_, hl, rfl⟩, 4, _, rfl, 1, _, rfl, _, rfl, ?_⟩
  rw [e4]
  refine ⟨by omega, by omega, ?_⟩
  refine for_it (walk_range (lo := 0) (n := _)) (fun i σ H' => SqL K H' l (ns.map V.int) ∧ Tabs [(P, qLam)] H' ∧ ∃ a1 a2 a3 a4 a5 a6 a7 a8 a9 a10 a11 a12 a13 : Option V, σ = [some (.ref l), a1, a2, a3, a4, a5, a6, a7, a8, a9, a10, a11, a12, a13])
    ⟨hl, hT, none, none, none, none, none, none, none, none, none, none, none, none, none, rfl⟩ (fun _ _ _ _ _ => trivial) (fun i v σ Hq H1 hi e y => ?_) (fun σ H' e => ?_)
  · obtain ⟨rfl, rfl⟩ := y
    obtain ⟨k1, T1, a1, a2, a3, a4, a5, a6, a7, a8, a9, a10, a11, a12, a13, rfl⟩ := e
    show gName 1 (.int (0 + (i : Int))) _ _ _
    rw [Int.zero_add]
    have hi4 : i < 4 := by omega
    refine ⟨_, rfl, _, rfl, l, ns, i, rfl, k1, hi4, fun H2 p k2 fp sp => ?_⟩
    have T2 : Tabs [(P, qLam)] H2 := Tabs.kp T1 k2 Lsts.nil
    refine ⟨4, rfl, by decide, by decide, ?_⟩
    refine for_it (walk_range (lo := 0) (n := 4)) (fun j σ H' => Kt [p] H2 H' ∧ Tabs [(P, qLam)] H' ∧ SrcAt H' p (j * 20000) ∧ ∃ a1 a3 a4 a5 a6 a7 a8 a9 a10 a11 a12 a13 : Option V, σ = [some (.ref l), a1, some (.ref p), a3, a4, a5, a6, a7, a8, a9, a10, a11, a12, a13])
      ⟨Kt.refl, T2, by rw [Nat.zero_mul]; exact sp, _, _, _, _, _, _, _, _, _, _, _, _, rfl⟩ (fun _ _ _ _ _ => trivial) (fun j v σ Hq H3 hj e y => ?_) (fun σ H' e => ?_)
    · obtain ⟨rfl, rfl⟩ := y
      obtain ⟨k3, T3, s3, b1, b3, b4, b5, b6, b7, b8, b9, b10, b11, b12, b13, rfl⟩ := e
      have hj4 : j < 4 := hj
      refine gName_go ?_
      refine mems_stmt (K := K) (p := p) (n := j * 20000) (c := 120) rfl (by show 12 < 14; decide) rfl ⟨by decide, by decide +kernel⟩ s3 (by omega) (fun H4 D1 ms1 xs1 k4 s4 e4 pr1 l1 hd1 => ?_)
      have T4 := Tabs.kp T3 k4 s3.lsts
      refine mems_stmt (K := K) (p := p) (n := j * 20000 + 9000) (c := 121) rfl (by show 12 < 14; decide) rfl ⟨by decide, by decide +kernel⟩ s4 (by omega) (fun H5 D2 ms2 xs2 k5 s5 e5 pr2 l2 hd2 => ?_)
      have T5 := Tabs.kp T4 k5 s4.lsts
      have e45 : H5 D1 = some (.lst xs1) := k5 _ _ e4 (by simpa using src_ne s4 e4 (mem_refs pr1))
      have pr15 := mems_kt pr1 k5.kt s4.lsts
      refine alone_stmt T (D1 := D1) (D2 := D2) rfl rfl (by show 13 < 14; decide) T5 e45 e5 pr15 pr2 (by omega) (by omega) (fun H6 Al v1 v2 k6 T6 e6 o1 o2 => ?_)
      refine words_stmt (K := K) (D := Al) rfl (by show 7 < 14; decide) e6 o1 o2 (fun H7 W k7 e7 => ?_)
      have T7 := Tabs.kp T6 k7 Lsts.nil
      have k57 : Kt [] H5 H7 := k6.trans k7.kt
      have s7 : SrcAt H7 p (j * 20000 + 18000) := let ⟨g, b, t, e, r⟩ := s5; ⟨g, b, t, k57 _ _ e (fun ps z => by cases z) (by simp), r⟩
      have d17 := k57 _ _ e45 (fun ps z => by cases z) (by simp)
      have d27 := k57 _ _ e5 (fun ps z => by cases z) (by simp)
      have m17 := mems_kt pr15 k57 Lsts.nil
      have m27 := mems_kt pr2 k57 Lsts.nil
      have a7 := k7 _ _ e6 (by simp)
      have o17 := o1.kt k7.kt Lsts.nil Lsts.nil
      have o27 := o2.kt k7.kt Lsts.nil Lsts.nil
      refine ⟨3, rfl, by decide, by decide, ?_⟩
      refine for_it (walk_range (lo := 0) (n := 3)) (fun m σ H' => Kt [p] H7 H' ∧ Tabs [(P, qLam)] H' ∧ SrcAt H' p (j * 20000 + 18000 + m * 16) ∧ ∃ x7 x9 x10 x11 : Option V, σ = [some (.ref l), b1, some (.ref p), some (.int (0 + (j : Int))), some (.ref D1), some (.ref D2), some (.ref Al), x7, some (.ref W), x9, x10, x11, b12, b13])
        ⟨Kt.refl, T7, s7, _, _, _, _, rfl⟩ (fun _ _ _ _ _ => trivial) (fun m v σ Hq H8 hm e y => ?_) (fun σ H' e => ?_)
      · obtain ⟨rfl, rfl⟩ := y
        obtain ⟨k8, T8, s8, x7, x9, x10, x11, rfl⟩ := e
        have hm3 : m < 3 := hm
        have L7 := s7.lsts
        have L5 : Lsts H5 [p] := s5.lsts
        obtain ⟨t1, rfl, oo1⟩ := id o17
        obtain ⟨t2, rfl, oo2⟩ := id o27
        have d18 := k8 _ _ d17 (fun ps z => by cases z) (by simpa using src_ne s7 d17 (mem_refs pr15))
        have d28 := k8 _ _ d27 (fun ps z => by cases z) (by simpa using src_ne s7 d27 (mem_refs pr2))
        have a8 := k8 _ _ a7 (fun ps z => by cases z) (by simpa using src_ne s7 a7 (fun x hx => by
          rcases List.mem_cons.mp hx with e | hx
          · exact ⟨_, e⟩
          · exact ⟨_, List.mem_singleton.mp hx⟩))
        have w8 := k8 _ _ e7 (fun ps z => by cases z) (by simpa using strs_ne s7 e7)
        have m18 := mems_kt m17 k8 L7
        have m28 := mems_kt m27 k8 L7
        have o18 := o17.kt k8 L7 L5
        have o28 := o27.kt k8 L7 L5
        refine gName_go ?_
        refine ⟨_, rfl, _, rfl, _, rfl, p, D1, D2, _, xs1, xs2, rfl, s8, by omega, .of d18, .of d28, by rw [← Paired.length pr15]; exact l1, by rw [← Paired.length pr2]; exact l2, fun H9 Z zs k9 s9 eZ mx => ?_⟩
        obtain ⟨mm, hmm, pm⟩ := mix_pair mx m18 m28
        have T9 := Tabs.kp T8 k9 s8.lsts
        refine told_stmt T (i := 11) (l := Z) rfl eZ (mems_kt pm k9.kt s8.lsts) (by rw [mix_len hmm]; omega) T9 (fun H10 v k10 T10 o => ?_)
        have me := TKP.mix_run (T := TX) (by decide) hmm (TKP.two_nil 120 121) hd1 hd2
        have kk : Kt [p] H8 H10 := k9.kt.trans (Kt.of k10)
        have a10 := kk _ _ a8 (fun ps z => by cases z) (by simpa using src_ne s8 a8 (fun x hx => by
          rcases List.mem_cons.mp hx with e | hx
          · exact ⟨_, e⟩
          · exact ⟨_, List.mem_singleton.mp hx⟩))
        have w10 := kk _ _ w8 (fun ps z => by cases z) (by simpa using strs_ne s8 w8)
        have o1a := o18.kt kk s8.lsts L5
        have o2a := o28.kt kk s8.lsts L5
        have s10 : SrcAt H10 p (j * 20000 + 18000 + m * 16 + 16) := let ⟨g, b, t, e, r⟩ := s9; ⟨g, b, t, k10 _ _ e (fun ps z => by cases z) (by simp), r⟩
        have fin : ∀ (H' : Hp) (y7 y9 y10 y11 : Option V), Kp [] H10 H' → Kt [p] H7 H' ∧ Tabs [(P, qLam)] H' ∧ SrcAt H' p (j * 20000 + 18000 + (m + 1) * 16) ∧ ∃ x7 x9 x10 x11 : Option V, ([some (.ref l), b1, some (.ref p), some (.int (0 + (j : Int))), some (.ref D1), some (.ref D2), some (.ref Al), y7, some (.ref W), y9, y10, y11, b12, b13] : L2.St) = [some (.ref l), b1, some (.ref p), some (.int (0 + (j : Int))), some (.ref D1), some (.ref D2), some (.ref Al), x7, some (.ref W), x9, x10, x11, b12, b13] :=
          fun H' y7 y9 y10 y11 k => ⟨(k8.trans kk).trans (Kt.of k.kt), Tabs.kp T10 k Lsts.nil, (s10.ext k).le (by omega), y7, y9, y10, y11, rfl⟩
        refine ⟨_, rfl, by show 0 ≤ sizeLine; decide, fun E1 hE1 => ?_⟩
        have k11 : Kp [] H10 (upd H10 E1 (.lst [])) := Kp.new hE1
        have z1 : SqL K (upd H10 E1 (.lst [])) E1 [] := .of upd_same
        have w11 := k11 _ _ w10 (by simp)
        have a11 := k11 _ _ a10 (by simp)
        have o1b := o1a.kt k11.kt Lsts.nil Lsts.nil
        have o2b := o2a.kt k11.kt Lsts.nil Lsts.nil
        have ob := o.kt k11.kt Lsts.nil Lsts.nil
        generalize upd H10 E1 (.lst []) = H11 at k11 z1 w11 a11 o1b o2b ob ⊢
        refine ⟨W, E1, _, rfl, rfl, .of w11, z1, _, rfl, ?_⟩
        clear o o1a o2a o18 o28 o1 o2 o17 o27 oo1 oo2 w10 w8 e7
        generalize TKP.run TX TKP.nil ms1 = r1 at me o1b w11 ⊢
        generalize TKP.run TX TKP.nil ms2 = r2 at me o2b w11 ⊢
        generalize TKP.run TX TKP.nil mm = rm at me ob ⊢
        cases r1 with
        | error y1 =>
          obtain ⟨y, rfl, hy⟩ : ∃ y, rm = .error y ∧ y ∈ errs (.error y1) ++ errs r2 := by
            cases r2 with
            | ok B => exact ⟨y1, me, List.mem_cons_self⟩
            | error y2 =>
              rcases me with e | e
              · exact ⟨y1, e, List.mem_cons_self⟩
              · exact ⟨y2, e, List.mem_cons_of_mem _ List.mem_cons_self⟩
          obtain ⟨t, rfl, a, hv⟩ := ob
          refine ⟨_, rfl, t, _, 0, .str "refused", rfl, rfl, hv, rfl, rfl, false, rfl, ?_⟩
          refine ⟨_, rfl, t, _, 2, .str y, rfl, rfl, hv, rfl, _, rfl, W, _, rfl, .inl (.of w11), rfl, flat_strs _, false, ?_, fin _ _ _ _ _ k11⟩
          rw [inV_mem hy]
          rfl
        | ok A =>
          cases r2 with
          | error y2 =>
            obtain ⟨y, rfl, hy⟩ : ∃ y, rm = .error y ∧ y ∈ errs (.ok A) ++ errs (.error y2) := ⟨y2, me, List.mem_cons_self⟩
            obtain ⟨t, rfl, a, hv⟩ := ob
            refine ⟨_, rfl, t, _, 0, .str "refused", rfl, rfl, hv, rfl, rfl, false, rfl, ?_⟩
            refine ⟨_, rfl, t, _, 2, .str y, rfl, rfl, hv, rfl, _, rfl, W, _, rfl, .inl (.of w11), rfl, flat_strs _, false, ?_, fin _ _ _ _ _ k11⟩
            rw [inV_mem hy]
            rfl
          | ok B =>
            obtain ⟨M, φ, ψ, rfl, two⟩ := me
            obtain ⟨t, rfl, pM, c1, c2, ym, hv, ⟨dxM, rM, xsM, _, obM, hrM, rwM⟩, pmM, smM, lM⟩ := ob
            obtain ⟨_, ea, pA, c3, c4, ya, hvA, ⟨dxA, rA, xsA, _, obA, hrA, rwA⟩, pmA, smA, lA⟩ := o1b
            obtain ⟨_, eb, pB, c5, c6, yb, hvB, ⟨dxB, rB, xsB, _, obB, hrB, rwB⟩, pmB, smB, lB⟩ := o2b
            cases ea
            cases eb
            refine ⟨_, rfl, Al, _, 0, .ref t1, rfl, rfl, .of a11, rfl, t1, _, 1, .ref pA, rfl, rfl, hvA, rfl, pA, dxA, _, rfl, obA, rfl, pA, dxA, c3, c4, rA, xsA, rfl, obA, .of hrA, fun H12 bA k12 nbA ebA => ?_⟩
            have kB := fun {a : Addr} {o : HO} (e : H11 a = some o) => k12 a o e (by simp)
            refine ⟨_, rfl, Al, _, 1, .ref t2, rfl, rfl, .of (kB a11), rfl, t2, _, 1, .ref pB, rfl, rfl, sqT_ext hvB k12, rfl, pB, dxB, _, rfl, kB obB, rfl, pB, dxB, c5, c6, rB, xsB, rfl, kB obB, .of (kB hrB), fun H13 bB k13 nbB ebB => ?_⟩
            have lenA : xsA.length ≤ 5000 := by
              rw [← Paired.length rwA]
              unfold TKP.rowsOf
              rw [List.length_map, pmA.length_eq, List.length_map]
              exact lA
            have lenB : xsB.length ≤ 5000 := by
              rw [← Paired.length rwB]
              unfold TKP.rowsOf
              rw [List.length_map, pmB.length_eq, List.length_map]
              exact lB
            refine ⟨bA, bB, xsA, xsB, rfl, rfl, k13 _ _ ebA (by simp), ebB, Nat.le_trans (show xsA.length + xsB.length ≤ 10000 by omega) (by decide), fun C hC => ?_⟩
            have k14 : Kp [] H11 (upd H13 C (.lst (xsA ++ xsB))) := (k12.trans k13).trans (Kp.new hC)
            have e14 : upd H13 C (.lst (xsA ++ xsB)) C = some (.lst (xsA ++ xsB)) := upd_same
            generalize upd H13 C (.lst (xsA ++ xsB)) = H14 at k14 e14 ⊢
            have km : ∀ b ∈ ([] : List Addr), Mut (H11 b) := fun b hb => absurd hb (by simp)
            have rw14 : Paired (RowAt K H14) (TKP.rowsOf A ya ++ TKP.rowsOf B yb) (xsA ++ xsB) := Paired.append (rows_kp rwA k14 km) (rows_kp rwB k14 km)
            have pw : (xsA ++ xsB).Pairwise (fun x y => ltS (keyAt H14 x) (keyAt H14 y) = true) := by
              refine pairwise_map ?_
              rw [rows_keys rw14, List.map_append, rows_names, rows_names]
              exact sorted_app two pmA pmB smA smB
            refine ⟨C, xsA ++ xsB, keyAt H14, rfl, .of e14, row_tups rw14, pw, fun S hS => ?_⟩
            have k15 : Kp [] H11 (upd H14 S (.lst (xsA ++ xsB))) := k14.trans (Kp.new hS)
            have e15 : upd H14 S (.lst (xsA ++ xsB)) S = some (.lst (xsA ++ xsB)) := upd_same
            generalize upd H14 S (.lst (xsA ++ xsB)) = H15 at k15 e15 ⊢
            have kC := fun {a : Addr} {o : HO} (e : H11 a = some o) => k15 a o e (by simp)
            refine ⟨_, rfl, t, _, 0, .str "none", rfl, rfl, sqT_ext hv k15, rfl, rfl, false, rfl, ?_⟩
            refine ⟨_, rfl, t, _, 1, .ref pM, rfl, rfl, sqT_ext hv k15, rfl, pM, dxM, _, rfl, kC obM, rfl, pM, dxM, c1, c2, rM, xsM, rfl, kC obM, .of (kC hrM), fun H16 bM k16 nbM ebM => ?_⟩
            have k16' : Kp [] H11 H16 := k15.trans k16
            have rwAB : Paired (RowAt K H16) (TKP.rowsOf A ya ++ TKP.rowsOf B yb) (xsA ++ xsB) := Paired.append (rows_kp rwA k16' km) (rows_kp rwB k16' km)
            have rwMM := rows_kp rwM k16' km
            rw [rows_app two pmA pmB pmM smA smB smM] at rwMM
            exact ⟨_, rfl, bM, S, xsM, xsA ++ xsB, 3, rfl, rfl, .of ebM, .of (k16 _ _ e15 (by simp)), by decide, rows_eq rwMM rwAB, false, rfl, fin _ _ _ _ _ (k11.trans k16')⟩
      · obtain ⟨k8, T8, s8, x7, x9, x10, x11, rfl⟩ := e
        have kx : Kt [p] H2 H' := (((k3.trans k4.kt).trans k5.kt).trans (Kt.of k57)).trans k8
        exact ⟨kx, T8, s8.le (by omega), _, _, _, _, _, _, _, _, _, _, _, _, rfl⟩
    · obtain ⟨k3, T3, s3, b1, b3, b4, b5, b6, b7, b8, b9, b10, b11, b12, b13, rfl⟩ := e
      exact ⟨sqL_past k1 fp k2.kt k3, T3, _, _, _, _, _, _, _, _, _, _, _, _, _, rfl⟩
  · obtain ⟨k1, T1, a1, a2, a3, a4, a5, a6, a7, a8, a9, a10, a11, a12, a13, rfl⟩ := e
    exact q _
end
end TarK

namespace TarK
open PySem PySem.W PySem.Calls PyProof.Rows
abbrev R : OpenRow := OpenLaw.row PySem.Challenge.rw_tarhouse_k87_whole_members_apart
abbrev qv : Program := view R.prog [64]
def names : List PySem.Str := (["_wall", "NoBlob", "NoData", "NoName", "NoMode", "NoTime", "NoSize", "NoPieces", "NoHouse", "Refused", "is_integer", "is_within", "blob", "LETTERS", "MOST_NAME", "MOST_DATA", "MOST_PIECES", "MOST_MODE", "MOST_TIME", "is_name", "is_path", "look_name", "look_stamps", "is_piece", "are_spans", "are_pieces", "Member", "File", "Sparse", "Directory"] : List PySem.Str) ++ (["Symlink", "Link", "TITLES", "above", "are_stamps", "is_thing", "is_entry", "are_of_one_house", "House", "MADE", "refusal", "refusal_at", "put_at", "put_member", "unpack_one", "unpacked", "_law_source", "_law_draw", "_law_path", "_law_numbers", "_law_stamps", "_law_pieces", "_law_spec", "_law_made", "_law_specs", "_law_told", "_law_below", "_law_mixed"] : List PySem.Str)
/-- what is looked at: what the module's names reach, the machine's own marks -/
def seenB (b a : Nat) : Bool := Nat.beq (Nat.land 1 (Nat.shiftRight b a)) 1
/-- those that the bits do not hold yet, and the bits with them -/
def newB : List Addr → Nat → List Addr → Nat × List Addr
  | [], b, l => (b, l)
  | a :: r, b, l => match seenB b a with
    | true => newB r b l
    | false => newB r (Nat.lor b (Nat.shiftLeft 1 a)) (a :: l)
def refsAt (g : Addr → Option Obj) (a : Addr) : List Addr := match g a with
  | some o => He.refsD o
  | none => []
/-- what the module's names reach in n steps, each once -/
def adrL (g : Addr → Option Obj) : Nat → Nat → List Addr → List Addr
  | 0, _, f => f
  | n + 1, b, f => match newB (f.flatMap (refsAt g)) b [] with
    | (b2, l) => f ++ adrL g n b2 l
def frY (g : Addr → Option Obj) : Frag := He.frT g (cStatics :: adrL g 5 (Nat.shiftLeft 1 mainGlobals) [mainGlobals])
/-- the head's facts, with the defs that say super() -/
abbrev AlY : Type := (He.AlT × Bool) × List FnS
def obsY (g : Addr → Option Obj) : AlY := ((He.obsT fa fn [] (frY g), exB (frY g) && He.tabsB g tfL (frY g)), sd.map fun d => fnS (frY g) d.cls)
def valY (w : World) : AlY := ((He.valT fn [] w, true), sd.map SupD.val)
def SaysY (w : World) (h : Heap) (K : Frag) : Prop := He.SaysX fa fn [] tfL exB w h K ∧ sd.map (fun d => fnS K d.cls) = sd.map SupD.val
theorem saysY_of {w : World} {h : Heap} (e : obsY h.get? = valY w) : SaysY w h (frY h.get?) := by
  have e1 : (He.obsT fa fn [] (frY h.get?), exB (frY h.get?) && He.tabsB h.get? tfL (frY h.get?)) = (He.valT fn [] w, true) := congrArg (fun z : AlY => z.1) e
  obtain ⟨h1, h2⟩ := He.ba (congrArg (fun z : He.AlT × Bool => z.2) e1)
  have key : ∀ p ∈ tfL, codeHdIn (frY h.get?) (He.cT (frY h.get?) p).1 (He.cT (frY h.get?) p).2 = true ∧ ∃ o, h.get? (He.cT (frY h.get?) p).2 = some o ∧ He.emptyTab o = true := fun p hp => by
    obtain ⟨h3, h4⟩ := He.ba (List.all_eq_true.mp h2 p hp)
    cases q : h.get? (He.cT (frY h.get?) p).2 with
    | none =>
      rw [q] at h4
      cases h4
    | some o =>
      rw [q] at h4
      exact ⟨h3, o, rfl, h4⟩
  refine ⟨⟨congrArg (fun z : He.AlT × Bool => z.1) e1, h1, fun p hp => (key p hp).1, fun p hp => ?_, fun p hp => ?_⟩, congrArg (fun z : AlY => z.2) e⟩
  · obtain ⟨_, o, q, z⟩ := key p hp
    exact He.frT_none q z
  · obtain ⟨_, o, q, z⟩ := key p hp
    rw [q, He.emptyTab_eq z]
theorem saysX_keeps {w : World} {h h' : Heap} {K : Frag} (c : He.SaysX fa fn [] tfL exB w h K) (k : ∀ b o, h.get? b = some o → h'.get? b = some o) : He.SaysX fa fn [] tfL exB w h' K :=
  ⟨c.t, c.more, c.hd, c.out, fun p hp => k _ _ (c.empty p hp)⟩
def hk : Hook where
  α := AlY
  obs := fun s => obsY s.heap.get?
  val := valY
  says := fun w h => ∃ K : Frag, K.In h ∧ SaysY w h K
  of := fun _ h e => ⟨_, He.frT_in, saysY_of e⟩
  keeps := fun _ _ _ ⟨K, hK, c⟩ k => ⟨K, Frag.In.keeps hK k, saysX_keeps c.1 k, c.2⟩
def ob (s : SharedT) : AlY := obsY (HandSHeadRun.getT s)
theorem ob_eq (s : SharedT) : ob s = hk.obs s.abs := by
  have e : HandSHeadRun.getT s = s.abs.heap.get? := funext (HandSHeadRun.getT_eq s)
  show obsY (HandSHeadRun.getT s) = obsY s.abs.heap.get?
  rw [e]
/-- the top's run, looked at by f -/
def RunG {α : Type} (f : SharedT → α) (a : α) (w : World) : Prop := ∀ os : OsState, (HandSHeadRun.endF (HandSHeadRun.stepQ (HandSHeadRun.denQ HandSHeadRun.tabQ) R.prog w) 12000 R.prog w os).map f = some a
theorem RunG.and {α β : Type} {f : SharedT → α} {g : SharedT → β} {a : α} {b : β} {w : World} (h : RunG f a w) (k : RunG g b w) : RunG (fun s => (f s, g s)) (a, b) w := fun os => by
  have h1 := h os
  have k1 := k os
  revert h1 k1
  cases HandSHeadRun.endF (HandSHeadRun.stepQ (HandSHeadRun.denQ HandSHeadRun.tabQ) R.prog w) 12000 R.prog w os with
  | none => intro h1; cases h1
  | some s =>
    intro h1 k1
    have e1 : f s = a := Option.some.inj h1
    have e2 : g s = b := Option.some.inj k1
    show some (f s, g s) = some (a, b)
    rw [e1, e2]
noncomputable def oA (w : World) (s : SharedT) := (HandSHeadRun.looksF R.prog (boot_heap w.params) s.abs, HandSHeadRun.seenQ qv names (importedModules R.prog.main.body) (fun s => xlAt qv [] s && recOk R.toRowW.records s) s.abs)
theorem runAf (w : World) : RunG (oA (w.withFollow "special-get-raises" false)) (true, openGood qv names) (w.withFollow "special-get-raises" false) := by
  intro os
  kernel_rfl
theorem runAt (w : World) : RunG (oA (w.withFollow "special-get-raises" true)) (true, openGood qv names) (w.withFollow "special-get-raises" true) := by
  intro os
  kernel_rfl
theorem runA (w : World) : RunG (oA w) (true, openGood qv names) w := byRow2 "special-get-raises" (P := fun w => RunG (oA w) (true, openGood qv names) w) runAf runAt w
def oB (s : SharedT) : Bool := fa.all fun f => f.ok (frY (HandSHeadRun.getT s))
theorem runBf (w : World) : RunG oB true (w.withFollow "special-get-raises" false) := by
  intro os
  kernel_rfl
theorem runBt (w : World) : RunG oB true (w.withFollow "special-get-raises" true) := by
  intro os
  kernel_rfl
theorem runB (w : World) : RunG oB true w := byRow2 "special-get-raises" (P := fun w => RunG oB true w) runBf runBt w
def oC (s : SharedT) : Bool × List He.FnW := (fn.all fun d => d.ok (frY (HandSHeadRun.getT s)), fn.map fun d => He.fnW (frY (HandSHeadRun.getT s)) d.at_)
theorem runCf (w : World) : RunG oC (true, fn.map He.DefD.val) (w.withFollow "special-get-raises" false) := by
  intro os
  kernel_rfl
theorem runCt (w : World) : RunG oC (true, fn.map He.DefD.val) (w.withFollow "special-get-raises" true) := by
  intro os
  kernel_rfl
theorem runC (w : World) : RunG oC (true, fn.map He.DefD.val) w := byRow2 "special-get-raises" (P := fun w => RunG oC (true, fn.map He.DefD.val) w) runCf runCt w
def oD (s : SharedT) : Bool × List FnS := (exB (frY (HandSHeadRun.getT s)) && He.tabsB (HandSHeadRun.getT s) tfL (frY (HandSHeadRun.getT s)), sd.map fun d => fnS (frY (HandSHeadRun.getT s)) d.cls)
theorem runDf (w : World) : RunG oD (true, sd.map SupD.val) (w.withFollow "special-get-raises" false) := by
  intro os
  kernel_rfl
theorem runDt (w : World) : RunG oD (true, sd.map SupD.val) (w.withFollow "special-get-raises" true) := by
  intro os
  kernel_rfl
theorem runD (w : World) : RunG oD (true, sd.map SupD.val) w := byRow2 "special-get-raises" (P := fun w => RunG oD (true, sd.map SupD.val) w) runDf runDt w
theorem run (w : World) : HandSHeadRun.RunEq R qv hk ob 12000 names w := fun os => by
  have z := ((runA w).and ((runB w).and ((runC w).and (runD w)))) os
  revert z
  show (HandSHeadRun.endF (HandSHeadRun.stepQ (HandSHeadRun.denQ HandSHeadRun.tabQ) R.prog w) 12000 R.prog w os).map _ = _ → (HandSHeadRun.endF (HandSHeadRun.stepQ (HandSHeadRun.denQ HandSHeadRun.tabQ) R.prog w) 12000 R.prog w os).map _ = _
  cases HandSHeadRun.endF (HandSHeadRun.stepQ (HandSHeadRun.denQ HandSHeadRun.tabQ) R.prog w) 12000 R.prog w os with
  | none => intro z; cases z
  | some s =>
    intro z
    have z1 : (oA w s, (oB s, (oC s, oD s))) = ((true, openGood qv names), (true, ((true, fn.map He.DefD.val), (true, sd.map SupD.val)))) := Option.some.inj z
    obtain ⟨eA, z2⟩ := Prod.mk.inj z1
    obtain ⟨eB, z3⟩ := Prod.mk.inj z2
    obtain ⟨eC, eD⟩ := Prod.mk.inj z3
    obtain ⟨a1, a2⟩ := Prod.mk.inj eA
    obtain ⟨c1, c2⟩ := Prod.mk.inj eC
    obtain ⟨d1, d2⟩ := Prod.mk.inj eD
    have o1 : ob s = hk.val w := Prod.ext (Prod.ext (Prod.ext (Prod.ext (Bool.and_eq_true_iff.mpr ⟨eB, c1⟩) c2) rfl) d1) d2
    exact congrArg some (Prod.ext a1 (Prod.ext a2 o1))
end TarK

namespace TarK
open PySem PySem.Spec PyProof.Rows L2 LamX NdefX
abbrev pLaw : He.Defn := ("law", none)
section
variable {w : World} {K : PySem.W.Frag} {mg : Str → Option Value} {base : Heap}
theorem ok_law (T : TF K mg) {fd : FuncData} (F : FunD K "law" "law" (defArgs s_law) (defBody s_law) (defScope s_law) [] [] (He.ga K "law") fd) (TB : TabB base mg (He.cT K pLaw).1 (He.cT K pLaw).2) :
    FnOk Pg w K mg base (L2.CX Pg w) 11 (He.ga K "law") fd ["_law_script"] (spLaw K (He.cT K pLaw).2) := by
  obtain ⟨oc, od, dV, kV, doc, pm, an, cdv, ct, osl, rfl, lk, hcd, _, _⟩ := F.ex
  obtain ⟨c, rfl⟩ := He.codeIn_ref hcd
  have e : He.codeOf K pLaw = c := He.codeOf_eq lk rfl
  have TB1 : TabB base mg (He.codeOf K pLaw) (He.cT K pLaw).2 := TB
  rw [e] at TB1
  refine fn_of lk hcd sc_law (fun vs H Q E h => ?_) (fun A outer s H vs Q E hr h => ?_)
  · obtain ⟨l, ns, rfl, _⟩ := h
    rfl
  · exact law_walk T TB1 hr h
theorem tf_of {h : Heap} (KX : K.In h) (c : SaysY w h K) (G : h.Ns mainGlobals mg) : TF K mg := ⟨He.SaysT.d c.1.t, c.1.more, c.2, h, KX, G⟩
theorem law_at {h : Heap} {fa' : Addr} (Y : hk.says w h) (G : h.Ns mainGlobals mg) (hmg : mg ("law" : Str) = some (.ref fa')) : ∃ K : PySem.W.Frag, K.In h ∧ LawAtS PySem.Challenge.rw_tarhouse_k87_whole_members_apart w K (L2.CX Pg w) 11 63 "_law_script" mg fa' h := by
  obtain ⟨K, KX, c⟩ := Y
  have T : TF K mg := tf_of KX c G
  have hm : pLaw ∈ tfL := List.mem_singleton.mpr rfl
  obtain ⟨fd, F⟩ := T.fd_law
  have e := hmg.symm.trans T.g_law
  cases e
  have b := F.bindsA (ps := ["_law_script"]) fun _ _ _ _ _ _ us hl => match us, hl with | [_], _ => rfl
  refine ⟨K, KX, fd, [He.cT K pLaw], spLaw K (He.cT K pLaw).2, fun p hp => ?_, fun p hp => ?_, fun p hp => ?_, fun s v => b s [v] rfl, fun H a ns hl _ hT hS => ?_, fun base _ _ hTB => ?_⟩
  · rw [List.mem_singleton.mp hp]
    exact c.1.empty pLaw hm
  · rw [List.mem_singleton.mp hp]
    exact c.1.out pLaw hm
  · rw [List.mem_singleton.mp hp]
    exact PySem.W.codeHd_of_K KX (c.1.hd pLaw hm)
  · exact ⟨a, ns, rfl, hS, hl, hT _ (List.mem_singleton.mpr rfl), fun _ => rfl⟩
  · exact ok_law T F (hTB _ (List.mem_singleton.mpr rfl))
end
end TarK
open PySem PySem.W PySem.Calls PyProof.Rows
set_option maxRecDepth 100000 in
set_option maxHeartbeats 8000000 in
theorem PySem.Challenge.cw_tarhouse_k87_whole_members_apart_holds : PySem.Challenge.rw_tarhouse_k87_whole_members_apart.Holds := by
  w_on; o_law
  refine HandSHeadRun.head_any (r := OpenLaw.row PySem.Challenge.rw_tarhouse_k87_whole_members_apart) (q := TarK.qv) (H := TarK.hk) (ob := TarK.ob) (M := 12000) (loose := TarK.names) (d := HandSHeadRun.topDef (OpenLaw.row PySem.Challenge.rw_tarhouse_k87_whole_members_apart).prog 64) (kwd := []) TarK.ob_eq
    (by kernel_rfl) (fun s => by kernel_rfl) TarK.run (by kernel_rfl) (by kernel_rfl) (by kernel_rfl) (by rfl) (by first | assumption | decide +kernel) (by decide +kernel) ⟨rfl, rfl, rfl, rfl, rfl, by decide +kernel⟩ ?hw ?hc
  case hw => w_witness2
  case hc =>
    refine LamX.walk_ofTsE (l := PySem.Challenge.rw_tarhouse_k87_whole_members_apart) (n := 63) (k := 11) (x := "_law_script") (CX := fun w => L2.CX TarK.Pg w) rfl (by decide) (by kernel_rfl) ⟨rfl, by decide, by decide⟩ ?F (fun w H s e s' z => ?_)
    · intro w mg fa h Y G hmg0
      have hmg : mg ("law" : PySem.Str) = some (.ref fa) := by
        have e : (HandSHeadRun.topDef (OpenLaw.row PySem.Challenge.rw_tarhouse_k87_whole_members_apart).prog 64).name = ("law" : PySem.Str) := by kernel_rfl
        rw [← e]
        exact hmg0
      exact TarK.law_at Y G hmg
    · obtain ⟨_, _, _, _, _, _, _, _, _, _, _, _, _, hf⟩ := z
