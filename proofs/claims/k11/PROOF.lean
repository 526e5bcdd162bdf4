import PyProof.Rows.All
import Wide.All
import OpenK.AllK
import Wide.FinOn
import HandS.Exc
import HandS.ExcInit
import HandS.ExcField
import HandS.ExcIs
import HandS.Nested
import HandS.ExcValue
import HandS.TryOnly
import KE.KSuper
import KE.KExcSuper
import HandS.ForMost
import HandS.ForExc
import HandS.Codes
import HandS.Deep
import HandS.IsInst
import HandS.Wide
import HandS.Flow
import HandS.RaiseMore
import HandS.Zip
import HandS.TupAny
import HandS.Dict
import HandS.List
import KE.KExcIs
import PyProof.ZipIter
import HandS.Zip0
import HandS.Iter
import KE.KUnpackStar
import HandS.Star
import HandS.More
import HandS.Property
import HandS.MakeKwOnly
import HandS.OwnEq
import PyProof.InstNe
import HandS.Style
import PySem.Challenge.RW_loggedruns_k11_recorders_of_any_value
set_option Elab.async false
set_option linter.all false
set_option maxRecDepth 100000
/-! Dq, part A: errors whose __init__ says super().__init__() and keeps a value. -/
namespace DyX
open PySem PySem.Spec PySem.W PySem.Calls PyProof.Rows L2
/-- what is promised of the __init__: a field is laid -/
def spLog (K : Frag) (D : Addr) : Sp := fun vs H Q _ => ∃ (a C : Addr) (y : V) (cd : ClassData), vs = [.ref a, y] ∧ OexC K C ∧ clsIn K C = some cd ∧
  alongIn K "__init__" ((cd.mro.dropWhile (· != .ref D)).drop 1) = some (some (.builtin "ValueError.__init__")) ∧ subIn K (.ref C) (.type "ValueError") = some true ∧ mroIn K C (.ref D) = some true ∧
  findIn K (.ref C) "value" = some none ∧ H a = some (exo a C none) ∧ ∀ dx, H dx = none → dx ≠ a → Q .non (upd (upd H dx (exd dx [("value", y)])) a (exo a C (some dx)))
def logNF (name qual : Str) (params : Arguments) (body : List Stmt) (scope : Scope) (cc cda : Addr) : NdefX.NF := ⟨name, qual, params, body, scope, [("__class__", cc)], cda⟩
/-- the call as the positions let it be done -/
def LogEv (p0 p1 p2 p3 : Pos) : Prop := ∀ env : PySem.Env, ∃ pl : Sem Bool, eval (.Call (.Attribute (.Call (.Name "super" p0) [] [] p1) "__init__" p2) [] [] p3) env = (do
      let ov ← attributeBase (.Call (.Name "super" p0) [] [] p1) "__init__" env (eval (.Call (.Name "super" p0) [] [] p1) env)
      standAt p2.atName
      let (f, first) ← holding [ov] (getMethod ov "__init__" pl)
      callWith p3 f first (backTo p3 (starEach [] env)) [])
def logBody (p0 p1 p2 p3 p4 p5 p6 p7 p8 : Pos) : List Stmt := [.Expr (.Call (.Attribute (.Call (.Name "super" p0) [] [] p1) "__init__" p2) [] [] p3) p4, .Assign [.Attribute (.Name "self" p5) "value" p6] (.Name "value" p7) p8]
theorem logInit_ok {P : Program} {w : World} {K : Frag} {mg : Str → Option Value} {base : Heap} {fI cc cda D : Addr} {name qual : Str} {params : Arguments} {scope : Scope} {p0 p1 p2 p3 p4 p5 p6 p7 p8 : Pos} {dV kV doc pm ct oc ccl cl : Value} {an od cdd cld : Option Addr} {osl ccs csl : Array (Option Value)} {vs : Array Value} {file : Str} {tf : PySem.Tok} {ar : Arg} {cdD : ClassData}
    (lk : K.lookup fI = some ⟨oc, od, .func (fnX name qual params (logBody p0 p1 p2 p3 p4 p5 p6 p7 p8) scope [("__class__", cc)] dV kV doc pm an (.ref cda) ct), osl⟩) (hcd : codeIn K (.ref cda) qual = true)
    (hcode : K.lookup cda = some ⟨ccl, cdd, .fields vs, ccs⟩) (hvs : vs[2]? = some (.str file tf)) (hfile : ((P.main.file : Str) == file) = true) (hcell : K.lookup cc = some ⟨cl, cld, .cell (some (.ref D)), csl⟩) (hD : clsIn K D = some cdD)
    (hm : mg "super" = none) (hp : (params.posonlyargs ++ params.args).head? = some ar) (har : ar.arg = "self") (S : NdefX.NScope ["self", "value", "__class__"] ["self", "value"] ["__class__"] scope)
    (hks : scope.names.lookup ("super" : Str) = some .globalImplicit) (htop : (P.main.scope.names.lookup ("super" : Str)).isSome = false) (hop : nsIn K cStatics "thirdparty.any" = some none) (hev : LogEv p0 p1 p2 p3) :
    FnOk P w K mg base (L2.CX P w) 1 fI (fnX name qual params (logBody p0 p1 p2 p3 p4 p5 p6 p7 p8) scope [("__class__", cc)] dV kV doc pm an (.ref cda) ct) ["self", "value"] (spLog K D) := by
  constructor
  · rintro vs H Q E ⟨a, C, y, cd, rfl, _⟩
    rfl
  intro A outer s H args us vs2 Q E hr e0 hb r hsp
  obtain ⟨a, C, y, cd, rfl, T, hcC, hal, hve, hmro, hno, hHa, hq⟩ := hsp
  have KX : K.In s.heap := e0.mod.kin.keeps fun b o e => (e0.bs b o e).1
  have lim : s.heap.NoLimit := e0.mod.nolimit.keeps fun b o e => (e0.bs b o e).1
  have hka : scope.names.lookup ("self" : Str) = some .local := S.par _ (by simp)
  have hkv : scope.names.lookup ("value" : Str) = some .local := S.par _ (by simp)
  have hkc : scope.names.lookup ("__class__" : Str) = some .free := S.frk _ (by simp)
  have hccH : H cc = none := by
    have := e0.mod.kin _ _ hcell
    exact (e0.bs _ _ this).2
  have CA : NdefX.CellsAt [("__class__", cc)] ["__class__"] [none] s.heap H := by
    refine ⟨rfl, fun y c e => ?_, fun x y c e1 e2 => ?_, fun i y e => ?_⟩
    · have := PySem.mem_of_lookup e
      simp at this
      obtain ⟨rfl, rfl⟩ := this
      exact ⟨hccH, _, _, KX _ _ hcell, rfl⟩
    · have h1 := PySem.mem_of_lookup e1
      have h2 := PySem.mem_of_lookup e2
      simp at h1 h2
      rw [h1.1, h2.1]
    · match i, e with
      | 0, e =>
        simp at e; subst e
        exact ⟨cc, by simp [List.lookup], fun v hv => by simp at hv⟩
      | i + 1, e => simp at e
  refine ks_codeAny_call_defAt (fd := fnX name qual params (logBody p0 p1 p2 p3 p4 p5 p6 p7 p8) scope [("__class__", cc)] dV kV doc pm an (.ref cda) ct) hr.depth (KX _ _ lk) rfl lim (codeRec_of KX hcd) rfl hb S.nocell (fun x hx => S.par _ (List.of_mem_zip (a := x.1) (b := x.2) hx).1) (fun h₀ hns kp => ?_) S.co S.gen S.kind
  have hl2 : ([.ref a, y] : List V).length = (["self", "value"] : List Str).length := rfl
  have I0 := NdefX.inv_startN (CX := L2.CX P w) (E := E) (F := logNF name qual params (logBody p0 p1 p2 p3 p4 p5 p6 p7 p8) scope cc cda) (f := fI) (tk := s.toks + ((["self", "value"] : List Str).zip us).length) S hr.hd e0 hl2 r CA hns kp
  obtain ⟨X, hX⟩ : ∃ X, X = NdefX.ncx (L2.CX P w) P w K mg base ["self", "value", "__class__"] (logNF name qual params (logBody p0 p1 p2 p3 p4 p5 p6 p7 p8) scope cc cda) fI A outer s H E := ⟨_, rfl⟩
  have env_eq : callEnv (fnX name qual params (logBody p0 p1 p2 p3 p4 p5 p6 p7 p8) scope [("__class__", cc)] dV kV doc pm an (.ref cda) ct) s.heap.objs.size fI = NdefX.envF (logNF name qual params (logBody p0 p1 p2 p3 p4 p5 p6 p7 p8) scope cc cda) fI s.heap.objs.size := rfl
  rw [env_eq]
  have K0 : K.In h₀ := I0.kIn
  obtain ⟨ox1, hx1⟩ := exo_at I0.hok hHa
  obtain ⟨oD, hD1, hD2⟩ : ∃ oD, K.lookup D = some oD ∧ oD.data = .cls cdD := by
    unfold clsIn at hD
    split at hD
    · rename_i c d cd' sl ho
      cases hD
      exact ⟨_, ho, rfl⟩
    · cases hD
  obtain ⟨mb, hb1, hb2⟩ := I0.ok.mod.blt
  obtain ⟨m, hmns, hmlk⟩ := id I0.loc
  have hself : m "self" = some (.ref a) := by
    obtain ⟨u, hu, hlk⟩ := hmlk 0 "self" (.ref a) rfl rfl (.inl hka)
    obtain rfl : u = Value.ref a := hu
    rcases hlk with ⟨_, e⟩ | ⟨hk, _⟩
    · exact e
    · have hk' : scope.names.lookup ("self" : Str) = some .cell ∨ scope.names.lookup ("self" : Str) = some .free := hk
      rw [hka] at hk'
      rcases hk' with z | z <;> cases z
  have hint : interactive (NdefX.envF (logNF name qual params (logBody p0 p1 p2 p3 p4 p5 p6 p7 p8) scope cc cda) fI s.heap.objs.size) = false := by
    have hk : (NdefX.envF (logNF name qual params (logBody p0 p1 p2 p3 p4 p5 p6 p7 p8) scope cc cda) fI s.heap.objs.size).scope.kind = .function := S.kind
    unfold interactive
    rw [hk]
    rfl
  obtain ⟨pl, hpl⟩ := hev (NdefX.envF (logNF name qual params (logBody p0 p1 p2 p3 p4 p5 p6 p7 p8) scope cc cda) fI s.heap.objs.size)
  refine ks_wpAt_execs_cons (ks_wpAt_Expr_any (hi := hint) (ks_wpAt_MethodCall (pl := pl) (he := hpl) (ks_wpAt_super_base (env := NdefX.envF (logNF name qual params (logBody p0 p1 p2 p3 p4 p5 p6 p7 p8) scope cc cda) fI s.heap.objs.size) hks hkc (by decide) rfl (K0 _ _ lk) rfl hp rfl (K0 _ _ hcode) rfl hvs hfile htop ?_)))
  refine ks_loadName_global S.kind hks (loadGlobal_builtin (I0.ok.mod.glob.keeps I0.bk) hm (hb1.keeps I0.bk) ((hb2 _ (by decide +kernel)).trans (by decide +kernel : bootBuiltins "super" = some (.type "super"))) ⟨rfl, ?_⟩)
  refine wpAny_loadName_free S.kind hkc (by simp [logNF, List.lookup]) ⟨_, K0 _ _ hcell, rfl⟩ ?_
  rw [har]
  refine wpAny_loadName_local S.kind hka hmns hself ?_
  refine ks_wpAny_isType_cls (K0 _ _ hD1) hD2 ⟨rfl, ?_⟩
  refine ks_wpAny_call_super (K0 _ _ hD1) hD2 hx1 rfl (fun c e => by cases e) (looks_mroIn K0 hmro) (fun h1 e1 k1 => ?_)
  have I1 := I0.kept (t' := s.toks + ((["self", "value"] : List Str).zip us).length) (h' := h1) k1
  have K1 : K.In h1 := I1.kIn
  have IA : InstAt h1 a _ C none := ⟨k1 _ _ hx1, rfl, rfl, trivial⟩
  have hI : Looks (model P w) h1 (isInstance (.ref a) (.type "ValueError")) true := IA.type.andThen (looks_subIn K1 hve)
  refine kxs_getMethod kxs_ValueError e1 (looks_opaque K1 hop) (l₀ := cd.mro) (fun A Q E s k q => wpAny_bind ((looks_clsIn K1 hcC) A _ E s k (wpAny_pure q))) rfl K1 hal hI (ks_ne K1 IA hcC) (by decide) ?_
  have k2 : ∀ b u, h1.get? b = some u → (h1.push (kxs_mw "ValueError.__init__" a)).get? b = some u := fun b u e => Heap.get?_push_of_some _ e
  have I2 := I1.kept (t' := s.toks + ((["self", "value"] : List Str).zip us).length + 1) (h' := h1.push (kxs_mw "ValueError.__init__" a)) k2
  have hu : (h1.push (kxs_mw "ValueError.__init__" a)).get? h1.objs.size = some (kxs_mw "ValueError.__init__" a) := Heap.get?_push_at rfl rfl
  have hx2 := k2 _ _ (k1 _ _ hx1)
  refine kxs_callWith (i := "ValueError.__init__") (x := a) rfl (evalArgs_empty ⟨hu, ?_⟩)
  obtain ⟨nm, q, N, bs, bm, sn, sub, ab, col, dd, k0, kk1, kk2, k3, k5, hC, hbm⟩ := T.cls
  refine wpAny_call (codeAny_of_tree ?_)
  show wpAny _ _ (callAny (.ref h1.objs.size) ⟨[], []⟩) _ _ _
  simp only [callAny]
  refine wpAny_bind (wpAny_load hu ?_)
  simp only [kxs_mw, show (Value.type "method-wrapper" == Value.type "method" || Value.type "method-wrapper" == Value.type "builtin_function_or_method" || Value.type "method-wrapper" == Value.type "method-wrapper") = true by decide, if_true]
  refine KFB.if_so (by decide) ?_
  refine wpAny_bind (check_bound_init F.excBase_ValueError.toExcCallFacts (I2.kIn _ _ hC) hx2 rfl ?_)
  refine wpAny_bind (wpAny_pure (wpAny_pure ?_))
  refine ⟨plainId_quiet F.excBase_ValueError.init.plain _, codeAny_builtin F.excBase_ValueError.initEntry ?_⟩
  refine exc_init_tree (cls := .ref C) (t0 := ox1) (dv := none) (c2 := .none) (c3 := .none) (b4 := .bool false) hx2 (by decide +kernel) (fun h3 k3 e3 t3 => ?_)
  have J := I2.write (t' := s.toks + ((["self", "value"] : List Str).zip us).length + 1) (x := a) (e := a) (o := exo a C none) (by rw [hHa]; exact True.intro) (.inl rfl) k3 ⟨_, e3⟩ (exo_ok e3)
  have eu : upd H a (exo a C none) = H := by
    funext b
    by_cases hb : b = a
    · rw [hb, upd_same, hHa]
    · rw [upd_ne hb]
  rw [eu] at J
  refine wpAt_of_wpAny ?_
  have pv := pe_var (X := NdefX.ncx (L2.CX P w) P w K mg base ["self", "value", "__class__"] (logNF name qual params (logBody p0 p1 p2 p3 p4 p5 p6 p7 p8) scope cc cda) fI A outer s H E) (i := 1) (x := "value") (pos := p7) rfl (.inl hkv)
  have ps := pe_var (X := NdefX.ncx (L2.CX P w) P w K mg base ["self", "value", "__class__"] (logNF name qual params (logBody p0 p1 p2 p3 p4 p5 p6 p7 p8) scope cc cda) fI A outer s H E) (i := 0) (x := "self") (pos := p5) rfl (.inl hka)
  have rule := pss_cons (ps_ost (f := "value") (p' := p6) (pos := p8) ps pv) pss_nil
  refine wpAny_mono (rule.run [] _ _ H { nx := fun _ H' => Q .non H', rt := Q } J ?_) (fun fl s2 hs => ?_) fun e s2 hs => hs
  · refine ⟨y, rfl, .ref a, rfl, a, C, rfl, T, hno, .inl ⟨hHa, fun dx h1 h2 => hq dx h1 h2⟩⟩
  · cases fl with
    | ret u =>
      obtain ⟨v, σ', H', J', rv, q⟩ := hs
      exact ⟨v, H', J'.os, J'.bare, J'.base, J'.hok, rv, q⟩
    | next =>
      obtain ⟨σ', H', J', q⟩ := hs
      exact ⟨.non, H', J'.os, J'.bare, J'.base, J'.hok, rfl, q⟩
    | brk =>
      obtain ⟨_, _, _, q⟩ := hs
      exact q.elim
    | cont =>
      obtain ⟨_, _, _, q⟩ := hs
      exact q.elim
end DyX

/-! Dq, part B: a caught error that is kept. -/
namespace DyX
open PySem PySem.Spec PySem.W PySem.Calls PyProof.Rows L2
/-- at a: an error of the class at C, its dict at d -/
def errO (a C d : Addr) : HO := .ext fun h => ∃ oe : Obj, h.get? a = some oe ∧ oe.cls = .ref C ∧ oe.dict = some d ∧ ∃ vs, oe.data = .fields vs
theorem errO_ok {P : Program} {w : World} {H : Hp} {h : Heap} {a C d : Addr} {oe : Obj} {vs : Array Value} (e : h.get? a = some oe) (h1 : oe.cls = .ref C) (h2 : oe.dict = some d) (h3 : oe.data = .fields vs) : ObjOk P w H h a (errO a C d) :=
  ⟨⟨oe, e, h1, h2, vs, h3⟩, ⟨oe, e⟩, fun g1 g2 ⟨o, q, r⟩ k => ⟨o, k o q, r⟩⟩
theorem errO_at {P : Program} {w : World} {H : Hp} {h : Heap} {a C d : Addr} (hok : HOk P w H h) (e : H a = some (errO a C d)) : ∃ oe : Obj, h.get? a = some oe ∧ oe.cls = .ref C ∧ oe.dict = some d ∧ ∃ vs, oe.data = .fields vs := by
  obtain ⟨z, _, _⟩ := hok a _ e
  exact z
section
variable {X : Cx} {pins : List (Addr × Obj)} {σ : L2.St} {H : Hp} {s : Shared} {a : Addr} {o : HO}
/-- what is new since the entry, and nobody's, is tracked from now on -/
theorem track (I : Inv X pins σ H s) (h0 : X.s_0.heap.get? a = none) (hn : H a = none) (hL : a ≠ X.env.locals) (hc : ∀ x c, X.env.cells.lookup x = some c → c ≠ a) (hp : ∀ p ∈ X.pn ++ pins, p.1 ≠ a) (new : ObjOk X.prog X.w (upd H a o) s.heap a o) :
    Inv X pins σ (upd H a o) s where
  ok := I.ok
  os := I.os
  bare := I.bare
  base := ⟨I.base.keep, I.base.slot, fun b u q n x => by rw [upd_ne (fun z => by rw [z, h0] at q; cases q)]; exact I.base.free b u q n x, I.base.there,
    fun b xs q => by have z := I.base.tups b xs q; rw [upd_ne (ne_of_none z hn)]; exact z, fun b u v q => by have z := I.base.frzs b u v q; rw [upd_ne (ne_of_none z hn)]; exact z,
    fun b ps q => by obtain ⟨more, z⟩ := I.base.tbls b ps q; exact ⟨more, by rw [upd_ne (ne_of_none z hn)]; exact z⟩⟩
  loc := I.loc
  cell := I.cell
  free := by rw [upd_ne (Ne.symm hL)]; exact I.free
  freeC := fun x c e => by rw [upd_ne (hc x c e)]; exact I.freeC x c e
  pin := fun p q => by
    obtain ⟨h1, h2, h3⟩ := I.pin p q
    exact ⟨h1, by rw [upd_ne (hp p q)]; exact h2, h3⟩
  hok := I.hok.laidN (fun _ _ z => z) hn new
  len := I.len
end
/-- what the clause 'except x as n' wishes of an error of the body; slot i is n's; the error is tracked from then on -/
def wErr (K : Frag) (c : Value) (i : Nat) (ts : TS) (Wout : WX) (D : Ends) : WX := fun cls d σ H =>
  ∃ b, exmOne K cls c = some b ∧ (b = true → ∃ C dd, cls = .ref C ∧ d = some dd ∧ ∀ a, H a = none →
      ts { nx := fun σ' H' => D.nx (σ'.set i none) H', rt := D.rt, bk := fun σ' H' => D.bk (σ'.set i none) H', ct := fun σ' H' => D.ct (σ'.set i none) H' } (σ.set i (some (.ref a))) (upd H a (errO a C dd))) ∧
    (b = false → Wout cls d σ H)
section
variable {X : Cx} {x n : Str} {c : Value} {i : Nat} {body suite : List Stmt} {b₀ : Stmt} {np pos pos' : Pos} {tb : WX → TS} {ts : TS} {Wout : WX}
theorem unsuite0 {a : Addr} {pn' pins : List (Addr × Obj)} {σ : L2.St} {H : Hp} {s : Shared} (I : Inv (X.suite a (X.pn ++ pins)) pn' σ H s) (ok : X.Ok) : Inv X pins σ H s :=
  ⟨ok, I.os, I.bare, I.base, I.loc, I.cell, I.free, I.freeC, fun p hp => I.pin p (List.mem_append_left _ hp), I.hok, I.len⟩
theorem suite0 {a : Addr} {pins : List (Addr × Obj)} {σ : L2.St} {H : Hp} {s : Shared} (I : Inv X pins σ H s) : Inv (X.suite a (X.pn ++ pins)) [] σ H s :=
  ⟨I.ok.suite _ _, I.os, I.bare, I.base, I.loc, I.cell, I.free, I.freeC, fun p hp => I.pin p (by rw [List.append_nil] at hp; exact hp), I.hok, I.len⟩
/-- the suite, run with the error tracked -/
theorem suite_run {a : Addr} {pins : List (Addr × Obj)} {σ : L2.St} {H : Hp} {s : Shared} {D : Ends} (hN : X.N.Nodup) (hi : X.N[i]? = some n) (hln : X.env.kindOf n = some .local) (hsu : ∀ (a : Addr) (pn : List (Addr × Obj)), PSs (X.suite a pn) (b₀ :: suite) ts)
    {E1 : Value → Shared → Prop} (I : Inv X pins σ H s) (h : ts { nx := fun σ' H' => D.nx (σ'.set i none) H', rt := D.rt, bk := fun σ' H' => D.bk (σ'.set i none) H', ct := fun σ' H' => D.ct (σ'.set i none) H' } (σ.set i (some (.ref a))) H) :
    wpAny (model X.prog X.w) (X.A.mark (some (.ref a))) (storeName X.env n (.ref a)) (fun _ s₂ => wpAny (model X.prog X.w) (X.A.mark (some (.ref a))) (execs (b₀ :: suite) X.env)
      (fun f s₃ => wpAny (model X.prog X.w) X.A (do bindName X.env n .none; unbindBehindTheSuite X.env n pos') (fun _ s₄ => SP X pins D f s₄) X.xe s₃) (fun _ _ => False) s₂) E1 s := by
  have ok := I.ok
  refine store_ok (X := X.suite a (X.pn ++ pins)) (v := .ref a) (suite0 I) hN hi (.inl hln) rfl (fun s5 S5 => ?_) (.inr hln)
  refine wpAny_mono ((hsu a (X.pn ++ pins)).run [] s5 _ H _ S5 h) (fun f s6 hsp => ?_) (fun _ _ z => z)
  cases f with
  | next => obtain ⟨σ6, H6, S6, q6⟩ := hsp; exact gone_ok (unsuite0 S6 ok) hN hi hln fun s7 J7 => ⟨_, _, J7, q6⟩
  | brk => obtain ⟨σ6, H6, S6, q6⟩ := hsp; exact gone_ok (unsuite0 S6 ok) hN hi hln fun s7 J7 => ⟨_, _, J7, q6⟩
  | cont => obtain ⟨σ6, H6, S6, q6⟩ := hsp; exact gone_ok (unsuite0 S6 ok) hN hi hln fun s7 J7 => ⟨_, _, J7, q6⟩
  | ret u => obtain ⟨v6, σ6, H6, S6, r6, q6⟩ := hsp; exact gone_ok (unsuite0 S6 ok) hN hi hln fun s7 J7 => ⟨_, _, _, J7, r6, q6⟩
/-- an error in the air is no object of ours -/
theorem sky_new {a : Addr} {B : Heap} {Z : Obj → Prop} {L : Addr} {l : List PySem.Env} {h : Heap} (sky : Sky B l a Z L h) : B.get? a = none := by
  rcases sky with ⟨_, k, _⟩ | ⟨_, k, _⟩ | ⟨_, k, _⟩ <;> exact k
theorem ps_try_err (hs : X.stack = X.env :: X.outer) (hf : X.env.frame = some X.env.locals) (hex : X.ex = []) (hN : X.N.Nodup) (hi : X.N[i]? = some n) (hln : X.env.kindOf n = some .local) (hc : Names X x c) (tk : Takes X Wout)
    (hb : ∀ (W : WX) (pn : List (Addr × Obj)) (xe : Value → Shared → Prop), Takes (X.tr pn xe) W → PassesOwn (model X.prog X.w) X.A X.env xe → PSs (X.tr pn xe) body (tb W))
    (hsu : ∀ (a : Addr) (pn : List (Addr × Obj)), PSs (X.suite a pn) (b₀ :: suite) ts) :
    PS X (.Try body [.ExceptHandler (some (.Name x np)) (some n) (b₀ :: suite) pos'] [] [] pos) (fun D σ H => tb (wErr X.K c i ts Wout D) D σ H) := by
  constructor
  intro pins s σ H D I h
  have ok := I.ok
  have hfr : X.A.frames = some (X.env :: X.outer) := by rw [ok.frames, hs]
  refine wpAny_Try_except (wpAny_mono ((hb (wErr X.K c i ts Wout D) (X.pn ++ pins) _ ?ctch PassesOwn.looking).run [] s σ H D (I.toTry _) h) ?fine (fun e s1 he => he))
  case fine =>
    intro f s1 hsp
    cases f with
    | next => obtain ⟨σ', H', J, q⟩ := hsp; exact wpAny_execs_nil ⟨σ', H', J.ofTry ok, q⟩
    | brk => obtain ⟨σ', H', J, q⟩ := hsp; exact ⟨σ', H', J.ofTry ok, q⟩
    | cont => obtain ⟨σ', H', J, q⟩ := hsp; exact ⟨σ', H', J.ofTry ok, q⟩
    | ret u => obtain ⟨v, σ', H', J, r, q⟩ := hsp; exact ⟨v, σ', H', J.ofTry ok, r, q⟩
  case ctch =>
    rintro u s' ⟨a, B, sI, pins', σ', H', cls, d, rfl, J', nb, up, sky, na, os, ag, b, hb1, hyes, hno⟩
    have J : Inv X pins σ' H' sI := J'.ofTry ok
    have sky : Sky B X.stack a (Zc cls d) X.env.locals s'.heap := sky
    rw [hs] at sky
    have nB : B.get? a = none := sky_new sky
    show wpAny (model X.prog X.w) X.A (noteFrame (.ref a) X.env) _ _ _
    refine Sky.land Zc.steady hfr hf sky fun h3 fl3 up3 => ?_
    have J3 : Inv X pins σ' H' { s' with heap := h3 } := J.landed nb fl3.1 (up.trans up3) os ag
    obtain ⟨oe3, vs3, he3, hz3, hd3⟩ := fl3.there
    have nfr : a ∉ frs X.stack := fun hm => by
      rw [hs] at hm
      obtain ⟨_, o', e', hnf⟩ := fl3.2.2.1.mem hm
      rw [he3] at e'; cases e'
      exact hnf _ hd3
    have nI : sI.heap.get? a = none := by
      cases q : sI.heap.get? a with
      | none => rfl
      | some o => rw [nb a o q nfr] at nB; cases nB
    have n0 : X.s_0.heap.get? a = none := by
      cases q : X.s_0.heap.get? a with
      | none => rfl
      | some o =>
        obtain ⟨o', e'⟩ := J.base.there a o q (by rw [hex]; simp)
        rw [nI] at e'; cases e'
    have nL : a ≠ X.env.locals := fun z => by
      obtain ⟨m, ⟨oL, _, _, hoL, _⟩, _⟩ := J.loc
      rw [← z, nI] at hoL; cases hoL
    have nC : ∀ y c', X.env.cells.lookup y = some c' → c' ≠ a := fun y c' e z => by
      obtain ⟨v, oc, hoc, _⟩ := J.cell y c' e
      rw [z, nI] at hoc; cases hoc
    have nP : ∀ p ∈ X.pn ++ pins, p.1 ≠ a := fun p hp z => by
      have q := (J.pin p hp).1
      rw [z, nI] at q; cases q
    refine wpAny_handleBy_cons (codeAny_handlers_test ?_) (by intro q; cases q)
    have LT : Looks (model X.prog X.w) h3 (typeOf (.ref a)) cls := fun A Q E s k q => wpAny_typeOf_ref (k _ _ he3) (by rw [hz3.1]; exact q)
    have LM := exm_one (M := model X.prog X.w) J3.kIn LT hb1
    have S3 : Inv (X.suite a (X.pn ++ pins)) [] σ' H' { s' with heap := h3 } := suite0 J3
    have test : ∀ {Q : Value → Shared → Prop} {E : Value → Shared → Prop}, Q c { s' with heap := h3 } → wpAny (model X.prog X.w) (X.A.mark (some (.ref a))) (eval (.Name x np) X.env) Q E { s' with heap := h3 } := fun {Q E} q => by
      rcases hc with ⟨hg, hdbg, hm | ⟨hm, hv, hnn⟩⟩
      · exact ld_glob (X := X.suite a (X.pn ++ pins)) S3 hg hm q hdbg
      · exact ld_blt (X := X.suite a (X.pn ++ pins)) S3 hg hm hv q hnn hdbg
    refine test (LM.here ?_)
    cases b with
    | true =>
      obtain ⟨C, dd, rfl, rfl, hts⟩ := hyes rfl
      refine codeAny_handlers_suite_as (HandSPX.lands_againZ fl3 fun h4 fl4 up4 => ?_)
      have J4 : Inv X pins σ' H' { s' with heap := h4 } := J.landed nb fl4.1 ((up.trans up3).trans up4) os ag
      obtain ⟨oe4, vs4, he4, hz4, hd4⟩ := fl4.there
      have T4 := track (o := errO a C dd) J4 n0 na nL nC nP (errO_ok he4 hz4.1 hz4.2 hd4)
      refine wpAny_mono (suite_run (E1 := fun _ _ => False) (pos' := pos') hN hi hln hsu T4 (hts a na)) (fun _ s5 h5 => ?_) fun _ _ z => z.elim
      exact wpAny_mono h5 (fun f s6 h6 => h6) fun _ _ z => z.elim
    | false =>
      refine wpAny_handleBy_nil ?_
      obtain ⟨k1, k2, k3, oe, vs, T, oT, ts', he, hz, hd, h1, hr⟩ := id fl3
      unfold PySem.passOn
      refine wpAny_bind (wpAny_field he hd h1 ?_)
      rw [if_neg (show ¬ ((Value.ref T == Value.none) = true) from by simp)]
      have fin : wpAny (model X.prog X.w) X.A (setFlight (.ref a) X.env.frame) (fun _ s4 => wpAny (model X.prog X.w) X.A (throw (.ref a) : Sem Flow) (SP X pins D) X.xe s4) X.xe { s' with heap := h3 } := by
        rw [hf]
        refine HandSPX.setFlight_upZ fl3 fun h4 hh4 up4 => wpAny_throw (tk _ _ ?_)
        exact ⟨a, B, sI, pins, σ', H', cls, d, rfl, J, nb, (up.trans up3).trans up4, .inr (.inr (by rw [hs]; exact hh4)), na, os, ag, hno rfl⟩
      first
        | exact wpAny_bind (wpAny_pure (wpAny_bind fin))
        | exact wpAny_bind fin
end
end DyX

/-! Dp, part A: value trees, the store of changing objects, their relation to the abstract heap of the hand layer. -/
namespace Dy
open PySem PySem.Spec L2
abbrev Frag := PySem.W.Frag
/-- a text by its code points -/
abbrev Text := List Nat
/-- the written part's tables: where the own classes lie (0: the error that the others are of, 1 to 99: errors, from 100 on: others), where the defs lie, which classes there are -/
class Kx where
  cl : Nat → Addr
  fa : Nat → Addr
  fd : Nat → FuncData
  ps : Nat → List Str
  ok : Nat → Bool
/-- the own classes by number -/
abbrev Cls := Nat → Addr
abbrev cl [Kx] : Cls := Kx.cl
/-- an error; another class -/
def okE [Kx] (c : Nat) : Prop := Kx.ok c = true ∧ c < 100
def okO [Kx] (c : Nat) : Prop := Kx.ok c = true ∧ ¬ c < 100
/-- values: trees; il: a list that is never changed again (own: a tracked one); loc: a changing object of the store -/
inductive Val where
  | non
  | bool (b : Bool)
  | int (i : Int)
  | str (s : Text)
  | tup (vs : List Val)
  | il (own : Bool) (vs : List Val)
  | loc (n : Nat)
  /-- an own error that was caught, by its class and its value -/
  | err (c : Nat) (v : Val)
  /-- a dict that is never changed again, its keys texts -/
  | dic (ks : List Text) (vs : List Val)
  /-- a def of the module -/
  | fn (k : Nat)
inductive Ob where
  | list (vs : List Val)
  /-- an instance of an own class -/
  | inst (c : Nat) (fs : List Str) (vs : List Val)
abbrev Store := List Ob
/-- phi: where the store's objects lie; I: addresses of lists that are never changed -/
structure Wd where
  phi : List Addr
  I : Addr → Prop
/-- dict entries by text keys -/
def dkv (ks : List Text) (xs : List V) : List (Key × V) := (ks.map fun t => (Sum.inr (SX.S t) : Key)).zip xs
variable [Kx]
mutual
inductive RV (K : Frag) (W : Wd) (H : Hp) : Val → V → Prop
  | non : RV K W H .non .non
  | bool (b : Bool) : RV K W H (.bool b) (.bl b)
  | int (i : Int) : RV K W H (.int i) (.int i)
  | str (s : Text) : RV K W H (.str s) (.str (SX.S s))
  | tup {a : Addr} {xs : List V} {vs : List Val} : SqT K H a xs → RVs K W H vs xs → RV K W H (.tup vs) (.ref a)
  | il1 {a : Addr} {xs : List V} {vs : List Val} : W.I a → H a = some (.lst xs) → RVs K W H vs xs → RV K W H (.il true vs) (.ref a)
  | il0 {a : Addr} {xs : List V} {vs : List Val} : W.I a → SqL K H a xs → RVs K W H vs xs → RV K W H (.il false vs) (.ref a)
  | ilk {a : Addr} {xs : List V} {vs : List Val} : SqL K (fun _ => none) a xs → RVs K W H vs xs → RV K W H (.il false vs) (.ref a)
  | loc {n : Nat} {a : Addr} : W.phi[n]? = some a → RV K W H (.loc n) (.ref a)
  | err {c : Nat} {v : Val} {x : V} {a d : Addr} : okE c → H a = some (DyX.errO a (cl c) d) → H d = some (.xd [("value", x)]) → RV K W H v x → RV K W H (.err c v) (.ref a)
  | dic {a : Addr} {ks : List Text} {xs : List V} {vs : List Val} : W.I a → ks.Nodup → ks.length = xs.length → H a = some (.dK (dkv ks xs)) → RVs K W H vs xs → RV K W H (.dic ks vs) (.ref a)
  | fn {k : Nat} : RV K W H (.fn k) (.ref (Kx.fa k))
inductive RVs (K : Frag) (W : Wd) (H : Hp) : List Val → List V → Prop
  | nil : RVs K W H [] []
  | cons {v : Val} {vs : List Val} {x : V} {xs : List V} : RV K W H v x → RVs K W H vs xs → RVs K W H (v :: vs) (x :: xs)
end
def RO (K : Frag) (W : Wd) (H : Hp) : Ob → Addr → Prop
  | .list vs, a => ∃ xs, H a = some (.lst xs) ∧ RVs K W H vs xs
  | .inst c fs vs, a => ∃ dx xs, H a = some (.ins (cl c) dx (fs.zip xs)) ∧ okO c ∧ fs.length = xs.length ∧ RVs K W H vs xs
/-- what may be changed -/
def isMut : HO → Bool
  | .lst _ => true
  | .ins _ _ _ => true
  | _ => false
theorem RO.mut {K : Frag} {W : Wd} {H : Hp} {o : Ob} {a : Addr} (r : RO K W H o a) : ∃ u, H a = some u ∧ isMut u = true := by
  cases o with
  | list vs => obtain ⟨xs, h, _⟩ := r; exact ⟨_, h, rfl⟩
  | inst c fs vs => obtain ⟨dx, xs, h, _⟩ := r; exact ⟨_, h, rfl⟩
structure HR (K : Frag) (W : Wd) (m : Store) (H : Hp) : Prop where
  len : W.phi.length = m.length
  nd : W.phi.Nodup
  dis : ∀ a, a ∈ W.phi → ¬ W.I a
  inh : ∀ a, W.I a → H a ≠ none
  obj : ∀ (n : Nat) (o : Ob), m[n]? = some o → ∃ a, W.phi[n]? = some a ∧ RO K W H o a
/-- from one state to a later one: what the store does not hold is as it was -/
structure Ext (W : Wd) (H : Hp) (W' : Wd) (H' : Hp) : Prop where
  pre : ∃ more, W'.phi = W.phi ++ more ∧ ∀ a, a ∈ more → H a = none
  inc : ∀ a, W.I a → W'.I a
  new : ∀ a, W'.I a → W.I a ∨ H a = none
  fr : ∀ b o, H b = some o → b ∉ W.phi → H' b = some o
  al : ∀ a, a ∈ W.phi → H' a ≠ none
section
variable {K : Frag} {W W1 W2 : Wd} {H H1 H2 : Hp} {m m1 : Store}
theorem HR.at (h : HR K W m H) {a : Addr} (ha : a ∈ W.phi) : ∃ (n : Nat) (o : Ob), W.phi[n]? = some a ∧ m[n]? = some o ∧ RO K W H o a := by
  obtain ⟨n, hn, e⟩ := List.mem_iff_getElem.mp ha
  have hm : n < m.length := by rw [← h.len]; exact hn
  obtain ⟨a', e1, r⟩ := h.obj n (m[n]) (List.getElem?_eq_getElem hm)
  have e2 : W.phi[n]? = some a := by rw [List.getElem?_eq_getElem hn, e]
  rw [e2] at e1; cases e1
  exact ⟨n, _, e2, List.getElem?_eq_getElem hm, r⟩
theorem HR.mut_at (h : HR K W m H) {a : Addr} (ha : a ∈ W.phi) : ∃ u, H a = some u ∧ isMut u = true := by
  obtain ⟨n, o, _, _, r⟩ := h.at ha
  exact r.mut
theorem HR.notin (h : HR K W m H) {a : Addr} {o : HO} (e : H a = some o) (hn : isMut o = false) : a ∉ W.phi := fun ha => by
  obtain ⟨u, q, hu⟩ := h.mut_at ha
  rw [e] at q; cases q
  rw [hn] at hu; cases hu
theorem Ext.refl (h : HR K W m H) : Ext W H W H :=
  ⟨⟨[], by simp, fun a z => by cases z⟩, fun _ z => z, fun _ z => .inl z, fun _ _ e _ => e, fun a ha => by obtain ⟨u, q, _⟩ := h.mut_at ha; rw [q]; simp⟩
theorem Ext.back (e : Ext W H W1 H1) {a : Addr} (h : H1 a = none) : H a = none := by
  cases q : H a with
  | none => rfl
  | some o =>
    by_cases ha : a ∈ W.phi
    · exact absurd h (e.al a ha)
    · rw [e.fr a o q ha] at h; cases h
theorem Ext.sub (e : Ext W H W1 H1) {a : Addr} (ha : a ∈ W.phi) : a ∈ W1.phi := by
  obtain ⟨more, e1, _⟩ := e.pre
  rw [e1]; exact List.mem_append_left _ ha
theorem Ext.stays (e : Ext W H W1 H1) {b : Addr} {o : HO} (q : H b = some o) (hb : b ∉ W.phi) : b ∉ W1.phi := fun z => by
  obtain ⟨more, e1, e2⟩ := e.pre
  rw [e1] at z
  rcases List.mem_append.mp z with z | z
  · exact hb z
  · rw [e2 b z] at q; cases q
theorem Ext.trans (e : Ext W H W1 H1) (f : Ext W1 H1 W2 H2) : Ext W H W2 H2 where
  pre := by
    obtain ⟨l1, e1, e2⟩ := e.pre
    obtain ⟨l2, f1, f2⟩ := f.pre
    refine ⟨l1 ++ l2, by rw [f1, e1, List.append_assoc], fun a ha => ?_⟩
    rcases List.mem_append.mp ha with z | z
    · exact e2 a z
    · exact e.back (f2 a z)
  inc := fun a z => f.inc a (e.inc a z)
  new := fun a z => by
    rcases f.new a z with z | z
    · exact e.new a z
    · exact .inr (e.back z)
  fr := fun b o q hb => f.fr b o (e.fr b o q hb) (e.stays q hb)
  al := fun a ha => f.al a (e.sub ha)
theorem sqT_keep (h : HR K W m H) (e : Ext W H W1 H1) {a : Addr} {xs : List V} (s : SqT K H a xs) : SqT K H1 a xs := by
  rcases s with s | s
  · refine .inl ?_
    rcases s with s | ⟨o, s⟩
    · exact .inl (e.fr _ _ s (h.notin s rfl))
    · exact .inr ⟨o, e.fr _ _ s (h.notin s rfl)⟩
  · exact .inr s
theorem sqL_k {a : Addr} {xs : List V} (s : SqL K (fun _ => none) a xs) : SqL K H a xs := by
  rcases s with (s | ⟨o, s⟩) | s
  · cases s
  · cases s
  · exact .inr s
theorem phi_keep (e : Ext W H W1 H1) {n : Nat} {a : Addr} (q : W.phi[n]? = some a) : W1.phi[n]? = some a := by
  obtain ⟨more, e1, _⟩ := e.pre
  rw [e1, List.getElem?_append_left (List.getElem?_eq_some_iff.mp q).1]
  exact q
mutual
theorem RV.mono (h : HR K W m H) (e : Ext W H W1 H1) : ∀ {v : Val} {x : V}, RV K W H v x → RV K W1 H1 v x
  | _, _, .non => .non
  | _, _, .bool b => .bool b
  | _, _, .int i => .int i
  | _, _, .str s => .str s
  | _, _, .tup s r => .tup (sqT_keep h e s) (RVs.mono h e r)
  | _, _, .il1 i q r => .il1 (e.inc _ i) (e.fr _ _ q fun z => h.dis _ z i) (RVs.mono h e r)
  | _, _, .il0 i q r => .il0 (e.inc _ i) (by
      rcases q with (q | ⟨o, q⟩) | q
      · exact .inl (.inl (e.fr _ _ q fun z => h.dis _ z i))
      · exact .inl (.inr ⟨o, e.fr _ _ q fun z => h.dis _ z i⟩)
      · exact .inr q) (RVs.mono h e r)
  | _, _, .ilk q r => .ilk q (RVs.mono h e r)
  | _, _, .loc q => .loc (phi_keep e q)
  | _, _, .err ok q1 q2 r => .err ok (e.fr _ _ q1 (h.notin q1 rfl)) (e.fr _ _ q2 (h.notin q2 rfl)) (RV.mono h e r)
  | _, _, .dic i n l q r => .dic (e.inc _ i) n l (e.fr _ _ q fun z => h.dis _ z i) (RVs.mono h e r)
  | _, _, .fn => .fn
theorem RVs.mono (h : HR K W m H) (e : Ext W H W1 H1) : ∀ {vs : List Val} {xs : List V}, RVs K W H vs xs → RVs K W1 H1 vs xs
  | _, _, .nil => .nil
  | _, _, .cons r t => .cons (RV.mono h e r) (RVs.mono h e t)
end
end
end Dy

/-! Dp, part B: new objects, stores, slots; readings made of weakest preconditions. -/
namespace Dy
open PySem PySem.Spec L2
variable [Kx]
section
variable {K : Frag} {W W1 W2 : Wd} {H H1 H2 : Hp} {m m1 : Store}
theorem RVs.length : ∀ {vs : List Val} {xs : List V}, RVs K W H vs xs → vs.length = xs.length
  | _, _, .nil => rfl
  | _, _, .cons _ t => by simp [RVs.length t]
theorem RVs.get : ∀ {vs : List Val} {xs : List V} {i : Nat} {v : Val}, RVs K W H vs xs → vs[i]? = some v → ∃ x, xs[i]? = some x ∧ RV K W H v x
  | _, _, _, _, .nil, e => by simp at e
  | _, _, 0, _, .cons r _, e => by simp at e; subst e; exact ⟨_, rfl, r⟩
  | _, _, i + 1, _, .cons _ t, e => by
    obtain ⟨x, h1, h2⟩ := RVs.get (i := i) t (by simpa using e)
    exact ⟨x, by simpa using h1, h2⟩
theorem RVs.getV : ∀ {vs : List Val} {xs : List V} {i : Nat} {x : V}, RVs K W H vs xs → xs[i]? = some x → ∃ v, vs[i]? = some v ∧ RV K W H v x
  | _, _, _, _, .nil, e => by simp at e
  | _, _, 0, _, .cons r _, e => by simp at e; subst e; exact ⟨_, rfl, r⟩
  | _, _, i + 1, _, .cons _ t, e => by
    obtain ⟨x, h1, h2⟩ := RVs.getV (i := i) t (by simpa using e)
    exact ⟨x, by simpa using h1, h2⟩
theorem RVs.append : ∀ {vs us : List Val} {xs ys : List V}, RVs K W H vs xs → RVs K W H us ys → RVs K W H (vs ++ us) (xs ++ ys)
  | _, _, _, _, .nil, s => s
  | _, _, _, _, .cons r t, s => .cons r (RVs.append t s)
theorem RVs.take : ∀ {vs : List Val} {xs : List V} (n : Nat), RVs K W H vs xs → RVs K W H (vs.take n) (xs.take n)
  | _, _, 0, _ => .nil
  | _, _, _ + 1, .nil => .nil
  | _, _, n + 1, .cons r t => .cons r (RVs.take n t)
theorem RVs.drop : ∀ {vs : List Val} {xs : List V} (n : Nat), RVs K W H vs xs → RVs K W H (vs.drop n) (xs.drop n)
  | _, _, 0, r => r
  | _, _, _ + 1, .nil => .nil
  | _, _, n + 1, .cons _ t => RVs.drop n t
theorem RVs.set {v : Val} {x : V} (r : RV K W H v x) : ∀ {vs : List Val} {xs : List V} (i : Nat), RVs K W H vs xs → RVs K W H (vs.set i v) (xs.set i x)
  | _, _, _, .nil => .nil
  | _, _, 0, .cons _ t => .cons r t
  | _, _, i + 1, .cons q t => .cons q (RVs.set r i t)
theorem RVs.rep {vs : List Val} {xs : List V} (h : RVs K W H vs xs) : ∀ k : Nat, RVs K W H (List.replicate k vs).flatten (List.replicate k xs).flatten
  | 0 => .nil
  | k + 1 => by
    rw [List.replicate_succ, List.replicate_succ, List.flatten_cons, List.flatten_cons]
    exact h.append (RVs.rep h k)
/-- a list that will not be changed -/
def Wd.withI (W : Wd) (p : Addr) : Wd := ⟨W.phi, fun a => W.I a ∨ a = p⟩
/-- a list that may be changed -/
def Wd.withL (W : Wd) (p : Addr) : Wd := ⟨W.phi ++ [p], W.I⟩
theorem HR.nophi (h : HR K W m H) {p : Addr} (hp : H p = none) : p ∉ W.phi := fun z => by
  obtain ⟨xs, q, _⟩ := h.mut_at z
  rw [hp] at q; cases q
theorem RO.mono (h : HR K W m H) (e : Ext W H W1 H1) (hk : ∀ a, a ∈ W.phi → H1 a = H a) {o : Ob} {a : Addr} (ha : a ∈ W.phi) (r : RO K W H o a) : RO K W1 H1 o a := by
  cases o with
  | list vs =>
    obtain ⟨xs, q, r⟩ := r
    exact ⟨xs, by rw [hk a ha]; exact q, r.mono h e⟩
  | inst c fs vs =>
    obtain ⟨dx, xs, q, k, l, r⟩ := r
    exact ⟨dx, xs, by rw [hk a ha]; exact q, k, l, r.mono h e⟩
/-- nothing of the store is changed -/
theorem HR.grow (h : HR K W m H) (e : Ext W H W1 H1) (hphi : W1.phi = W.phi) (hd : ∀ a, a ∈ W.phi → ¬ W1.I a) (hi : ∀ a, W1.I a → W.I a ∨ H1 a ≠ none) (hk : ∀ a, a ∈ W.phi → H1 a = H a) : HR K W1 m H1 where
  len := by rw [hphi]; exact h.len
  nd := by rw [hphi]; exact h.nd
  dis := fun a ha => hd a (by rw [← hphi]; exact ha)
  inh := fun a ha => by
    rcases hi a ha with z | z
    · cases q : H a with
      | none => exact absurd q (h.inh a z)
      | some o => rw [e.fr a o q fun y => h.dis a y z]; simp
    · exact z
  obj := fun n o q => by
    obtain ⟨a, e1, r⟩ := h.obj n o q
    exact ⟨a, by rw [hphi]; exact e1, r.mono h e hk (List.mem_of_getElem? e1)⟩
theorem new_tup (h : HR K W m H) {p : Addr} (hp : H p = none) {vs : List Val} {xs : List V} (r : RVs K W H vs xs) :
    Ext W H W (upd H p (.tup xs)) ∧ HR K W m (upd H p (.tup xs)) ∧ RV K W (upd H p (.tup xs)) (.tup vs) (.ref p) := by
  have hk : ∀ a, a ∈ W.phi → upd H p (.tup xs) a = H a := fun a ha => upd_ne fun z => h.nophi hp (z ▸ ha)
  have e : Ext W H W (upd H p (.tup xs)) := ⟨⟨[], by simp, fun a z => by cases z⟩, fun _ z => z, fun _ z => .inl z, fun b o q _ => by rw [upd_ne (ne_of_none q hp)]; exact q,
    fun a ha => by rw [hk a ha]; obtain ⟨ys, q, _⟩ := h.mut_at ha; rw [q]; simp⟩
  exact ⟨e, h.grow e rfl h.dis (fun _ z => .inl z) hk, .tup (.of upd_same) (r.mono h e)⟩
theorem new_il (h : HR K W m H) {p : Addr} (hp : H p = none) {vs : List Val} {xs : List V} (r : RVs K W H vs xs) :
    Ext W H (W.withI p) (upd H p (.lst xs)) ∧ HR K (W.withI p) m (upd H p (.lst xs)) ∧ RV K (W.withI p) (upd H p (.lst xs)) (.il true vs) (.ref p) := by
  have hk : ∀ a, a ∈ W.phi → upd H p (.lst xs) a = H a := fun a ha => upd_ne fun z => h.nophi hp (z ▸ ha)
  have e : Ext W H (W.withI p) (upd H p (.lst xs)) := ⟨⟨[], by simp [Wd.withI], fun a z => by cases z⟩, fun _ z => .inl z, fun a z => z.elim .inl fun z => .inr (z ▸ hp), fun b o q _ => by rw [upd_ne (ne_of_none q hp)]; exact q,
    fun a ha => by rw [hk a ha]; obtain ⟨ys, q, _⟩ := h.mut_at ha; rw [q]; simp⟩
  exact ⟨e, h.grow e rfl (fun a ha z => z.elim (h.dis a ha) fun z => h.nophi hp (z ▸ ha)) (fun a z => z.imp (fun z => z) fun z => by subst z; rw [upd_same]; simp) hk, .il1 (.inr rfl) upd_same (r.mono h e)⟩
/-- a new thing that is nobody's -/
theorem new_other (h : HR K W m H) {p : Addr} (hp : H p = none) (u : HO) : Ext W H W (upd H p u) ∧ HR K W m (upd H p u) := by
  have hk : ∀ a, a ∈ W.phi → upd H p u a = H a := fun a ha => upd_ne fun z => h.nophi hp (z ▸ ha)
  have e : Ext W H W (upd H p u) := ⟨⟨[], by simp, fun a z => by cases z⟩, fun _ z => z, fun _ z => .inl z, fun b o q _ => by rw [upd_ne (ne_of_none q hp)]; exact q,
    fun a ha => by rw [hk a ha]; obtain ⟨ys, q, _⟩ := h.mut_at ha; rw [q]; simp⟩
  exact ⟨e, h.grow e rfl h.dis (fun _ z => .inl z) hk⟩
theorem ext_loc (h : HR K W m H) {p : Addr} (hp : H p = none) (u : HO) : Ext W H (W.withL p) (upd H p u) := by
  have hk : ∀ a, a ∈ W.phi → upd H p u a = H a := fun a ha => upd_ne fun z => h.nophi hp (z ▸ ha)
  exact ⟨⟨[p], rfl, fun a z => by simp at z; subst z; exact hp⟩, fun _ z => z, fun a z => .inl z, fun b o q _ => by rw [upd_ne (ne_of_none q hp)]; exact q,
    fun a ha => by rw [hk a ha]; obtain ⟨ys, q, _⟩ := h.mut_at ha; rw [q]; simp⟩
theorem new_ob (h : HR K W m H) {p : Addr} (hp : H p = none) {u : HO} {o : Ob} (ro : RO K (W.withL p) (upd H p u) o p) :
    HR K (W.withL p) (m ++ [o]) (upd H p u) ∧ RV K (W.withL p) (upd H p u) (.loc m.length) (.ref p) := by
  have hk : ∀ a, a ∈ W.phi → upd H p u a = H a := fun a ha => upd_ne fun z => h.nophi hp (z ▸ ha)
  have e : Ext W H (W.withL p) (upd H p u) := ext_loc h hp u
  have el : (W.withL p).phi[m.length]? = some p := by show (W.phi ++ [p])[m.length]? = some p; rw [← h.len]; simp
  refine ⟨⟨?_, ?_, ?_, ?_, ?_⟩, .loc el⟩
  · show (W.phi ++ [p]).length = (m ++ [o]).length
    simp [h.len]
  · show (W.phi ++ [p]).Nodup
    refine List.nodup_append.mpr ⟨h.nd, by simp, fun a ha b hb => ?_⟩
    simp at hb; subst hb
    exact fun z => h.nophi hp (z ▸ ha)
  · intro a ha
    rcases List.mem_append.mp (show a ∈ W.phi ++ [p] from ha) with z | z
    · exact h.dis a z
    · simp at z; subst z; exact fun z => h.inh _ z hp
  · intro a ha
    have z : a ≠ p := fun z => h.inh a ha (z ▸ hp)
    rw [upd_ne z]; exact h.inh a ha
  · intro n o' q
    by_cases hn : n < m.length
    · rw [List.getElem?_append_left hn] at q
      obtain ⟨a, e1, r1⟩ := h.obj n o' q
      exact ⟨a, phi_keep e e1, r1.mono h e hk (List.mem_of_getElem? e1)⟩
    · rw [List.getElem?_append_right (by omega)] at q
      have hz : n = m.length := by
        cases hh : n - m.length with
        | zero => omega
        | succ k => rw [hh] at q; simp at q
      subst hz
      simp at q; subst q
      exact ⟨p, el, ro⟩
theorem new_loc (h : HR K W m H) {p : Addr} (hp : H p = none) {vs : List Val} {xs : List V} (r : RVs K W H vs xs) :
    Ext W H (W.withL p) (upd H p (.lst xs)) ∧ HR K (W.withL p) (m ++ [.list vs]) (upd H p (.lst xs)) ∧ RV K (W.withL p) (upd H p (.lst xs)) (.loc m.length) (.ref p) := by
  have e := ext_loc h hp (.lst xs)
  have z : RO K (W.withL p) (upd H p (.lst xs)) (.list vs) p := ⟨xs, upd_same, r.mono h e⟩
  obtain ⟨a, b⟩ := new_ob h hp z
  exact ⟨e, a, b⟩
/-- a new instance: its dict, then it -/
theorem new_inst (h : HR K W m H) {p dx : Addr} (hp : H p = none) (hd : H dx = none) (hne : dx ≠ p) {c : Nat} (hok : okO c) :
    ∃ W', Ext W H W' (upd (upd H dx (.own p)) p (.ins (cl c) dx [])) ∧ HR K W' (m ++ [.inst c [] []]) (upd (upd H dx (.own p)) p (.ins (cl c) dx [])) ∧ RV K W' (upd (upd H dx (.own p)) p (.ins (cl c) dx [])) (.loc m.length) (.ref p) := by
  obtain ⟨e1, h1⟩ := new_other h hd (.own p)
  have hp1 : upd H dx (.own p) p = none := by rw [upd_ne (Ne.symm hne)]; exact hp
  have e2 := ext_loc h1 hp1 (.ins (cl c) dx [])
  have z : RO K (W.withL p) (upd (upd H dx (.own p)) p (.ins (cl c) dx [])) (.inst c [] []) p := ⟨dx, [], by rw [upd_same]; rfl, hok, rfl, .nil⟩
  obtain ⟨a, b⟩ := new_ob h1 hp1 z
  exact ⟨_, e1.trans e2, a, b⟩
theorem set_ob (h : HR K W m H) {n : Nat} {a : Addr} {o0 o : Ob} {u : HO} (hm : m[n]? = some o0) (ha : W.phi[n]? = some a) (ro : Ext W H W (upd H a u) → RO K W (upd H a u) o a) :
    Ext W H W (upd H a u) ∧ HR K W (m.set n o) (upd H a u) := by
  have ham : a ∈ W.phi := List.mem_of_getElem? ha
  have e : Ext W H W (upd H a u) := ⟨⟨[], by simp, fun a z => by cases z⟩, fun _ z => z, fun a z => .inl z, fun b o q hb => by rw [upd_ne (show b ≠ a from fun z => hb (z ▸ ham))]; exact q,
    fun b hb => by
      by_cases z : b = a
      · subst z; rw [upd_same]; simp
      · rw [upd_ne z]; obtain ⟨ys, q, _⟩ := h.mut_at hb; rw [q]; simp⟩
  refine ⟨e, ⟨by simpa using h.len, h.nd, h.dis, fun b hb => by rw [upd_ne (show b ≠ a from fun z => h.dis a ham (z ▸ hb))]; exact h.inh b hb, fun k o' q => ?_⟩⟩
  by_cases hk : k = n
  · subst hk
    have hl : k < m.length := (List.getElem?_eq_some_iff.mp hm).1
    rw [List.getElem?_set_self hl] at q; cases q
    exact ⟨a, ha, ro e⟩
  · rw [List.getElem?_set_ne (Ne.symm hk)] at q
    obtain ⟨b, e1, r1⟩ := h.obj k o' q
    have hb : b ≠ a := fun z => hk (by
      subst z
      obtain ⟨h1, f1⟩ := List.getElem?_eq_some_iff.mp e1
      obtain ⟨h2, f2⟩ := List.getElem?_eq_some_iff.mp ha
      exact (List.getElem_inj h.nd).mp (f1.trans f2.symm))
    refine ⟨b, e1, ?_⟩
    cases o' with
    | list us =>
      obtain ⟨ys, q1, r2⟩ := r1
      exact ⟨ys, by rw [upd_ne hb]; exact q1, r2.mono h e⟩
    | inst c fs us =>
      obtain ⟨dx, ys, q1, k, l, r2⟩ := r1
      exact ⟨dx, ys, by rw [upd_ne hb]; exact q1, k, l, r2.mono h e⟩
theorem set_loc (h : HR K W m H) {n : Nat} {a : Addr} {ws : List Val} (hm : m[n]? = some (.list ws)) (ha : W.phi[n]? = some a) {vs : List Val} {xs : List V} (r : RVs K W H vs xs) :
    Ext W H W (upd H a (.lst xs)) ∧ HR K W (m.set n (.list vs)) (upd H a (.lst xs)) := set_ob h hm ha fun e => ⟨xs, upd_same, r.mono h e⟩
end
/-! ### slots -/
abbrev Env := List (Option Val)
structure SR (K : Frag) (W : Wd) (H : Hp) (r : Env) (σ : St) : Prop where
  len : r.length = σ.length
  get : ∀ (i : Nat) (v : Val), r[i]? = some (some v) → ∃ x, σ[i]? = some (some x) ∧ RV K W H v x
section
variable {K : Frag} {W W1 : Wd} {H H1 : Hp} {m : Store} {r : Env} {σ : St}
theorem SR.mono (s : SR K W H r σ) (h : HR K W m H) (e : Ext W H W1 H1) : SR K W1 H1 r σ :=
  ⟨s.len, fun i v q => let ⟨x, e1, r1⟩ := s.get i v q; ⟨x, e1, r1.mono h e⟩⟩
theorem SR.set (s : SR K W H r σ) {v : Val} {x : V} (rv : RV K W H v x) (i : Nat) : SR K W H (r.set i (some v)) (σ.set i (some x)) := by
  refine ⟨by simp [s.len], fun j u q => ?_⟩
  by_cases hj : j = i
  · subst hj
    by_cases hl : j < r.length
    · rw [List.getElem?_set_self hl] at q
      cases q
      exact ⟨x, by rw [List.getElem?_set_self (by rw [← s.len]; exact hl)], rv⟩
    · rw [List.getElem?_eq_none_iff.mpr (by simp; omega)] at q
      cases q
  · rw [List.getElem?_set_ne (Ne.symm hj)] at q ⊢
    exact s.get j u q
/-- slots forgotten -/
def wipeE (r : Env) : List Nat → Env
  | [] => r
  | v :: vs => (wipeE r vs).set v none
theorem SR.wipe (s : SR K W H r σ) : ∀ vs : List Nat, SR K W H (wipeE r vs) (L2.wipe σ vs)
  | [] => s
  | v :: vs => by
    have ih := SR.wipe s vs
    refine ⟨by simp [wipeE, L2.wipe, ih.len], fun j u q => ?_⟩
    simp only [wipeE, L2.wipe] at q ⊢
    by_cases hj : j = v
    · subst hj
      by_cases hl : j < (wipeE r vs).length
      · rw [List.getElem?_set_self hl] at q; cases q
      · rw [List.getElem?_eq_none_iff.mpr (by simp; omega)] at q; cases q
    · rw [List.getElem?_set_ne (Ne.symm hj)] at q ⊢
      exact ih.get j u q
end
/-! ### readings -/
/-- what is wanted of an error: its class (by number), its value, the store -/
abbrev Rq := Nat → Val → Store → Prop
abbrev WE0 := Env → Store → (Val → Store → Prop) → Rq → Prop
def Cont (K : Frag) (W : Wd) (H : Hp) (Qd : Val → Store → Prop) (Q : VK) : Prop :=
  ∀ (W' : Wd) (v : Val) (x : V) (m' : Store) (H' : Hp), Ext W H W' H' → RV K W' H' v x → HR K W' m' H' → Qd v m' → Q x H'
def ContX (K : Frag) (cl : Cls) (W : Wd) (H : Hp) (σ : St) (R : Rq) (Wx : WX) : Prop :=
  ∀ (W' : Wd) (c : Nat) (v : Val) (x : V) (d : Addr) (m' : Store) (H' : Hp), Ext W H W' H' → RV K W' H' v x → HR K W' m' H' → okE c → H' d = some (.xd [("value", x)]) → R c v m' → Wx (.ref (cl c)) (some d) σ H'
theorem ContX.mono {K : Frag} {W W1 : Wd} {H H1 : Hp} {σ : St} {R : Rq} {Wx : WX} (c : ContX K cl W H σ R Wx) (e : Ext W H W1 H1) : ContX K cl W1 H1 σ R Wx :=
  fun W' k v x d m' H' e' rv hr ho hd q => c W' k v x d m' H' (e.trans e') rv hr ho hd q
def TEof (K : Frag) (cl : Cls) (Wx : WX) (wp : WE0) : TE := fun σ H Q =>
  ∃ (W : Wd) (r : Env) (m : Store) (Qd : Val → Store → Prop) (R : Rq), SR K W H r σ ∧ HR K W m H ∧ wp r m Qd R ∧ Cont K W H Qd Q ∧ ContX K cl W H σ R Wx
/-- what is known behind a part -/
theorem TEof.bind {K : Frag} {Wx : WX} {wp : WE0} {σ : St} {H : Hp} {W : Wd} {r : Env} {m : Store} {Qd : Val → Store → Prop} {R : Rq} {Q : VK} (s : SR K W H r σ) (h : HR K W m H) (w : wp r m Qd R) (cx : ContX K cl W H σ R Wx)
    (k : ∀ (W1 : Wd) (v : Val) (x : V) (m1 : Store) (H1 : Hp), Ext W H W1 H1 → RV K W1 H1 v x → HR K W1 m1 H1 → SR K W1 H1 r σ → ContX K cl W1 H1 σ R Wx → Qd v m1 → Q x H1) : TEof K cl Wx wp σ H Q :=
  ⟨W, r, m, Qd, R, s, h, w, fun W1 v x m1 H1 e rv hr q => k W1 v x m1 H1 e rv hr (s.mono h e) (cx.mono e) q, cx⟩
abbrev WA0 := Env → Store → (List Val → Store → Prop) → Rq → Prop
def TAof (K : Frag) (cl : Cls) (Wx : WX) (wp : WA0) : TA := fun σ H Q =>
  ∃ (W : Wd) (r : Env) (m : Store) (Qd : List Val → Store → Prop) (R : Rq), SR K W H r σ ∧ HR K W m H ∧ wp r m Qd R ∧
    (∀ (W' : Wd) (vs : List Val) (xs : List V) (m' : Store) (H' : Hp), Ext W H W' H' → RVs K W' H' vs xs → HR K W' m' H' → Qd vs m' → Q xs H') ∧ ContX K cl W H σ R Wx
theorem TAof.bind {K : Frag} {Wx : WX} {wp : WA0} {σ : St} {H : Hp} {W : Wd} {r : Env} {m : Store} {Qd : List Val → Store → Prop} {R : Rq} {Q : List V → Hp → Prop} (s : SR K W H r σ) (h : HR K W m H) (w : wp r m Qd R) (cx : ContX K cl W H σ R Wx)
    (k : ∀ (W1 : Wd) (vs : List Val) (xs : List V) (m1 : Store) (H1 : Hp), Ext W H W1 H1 → RVs K W1 H1 vs xs → HR K W1 m1 H1 → SR K W1 H1 r σ → ContX K cl W1 H1 σ R Wx → Qd vs m1 → Q xs H1) : TAof K cl Wx wp σ H Q :=
  ⟨W, r, m, Qd, R, s, h, w, fun W1 v x m1 H1 e rv hr q => k W1 v x m1 H1 e rv hr (s.mono h e) (cx.mono e) q, cx⟩
abbrev WT0 := Env → Store → (Bool → Store → Prop) → Rq → Prop
def TTof (K : Frag) (cl : Cls) (Wx : WX) (wp : WT0) : TT := fun σ H Q =>
  ∃ (W : Wd) (r : Env) (m : Store) (Qd : Bool → Store → Prop) (R : Rq), SR K W H r σ ∧ HR K W m H ∧ wp r m Qd R ∧
    (∀ (W' : Wd) (b : Bool) (m' : Store) (H' : Hp), Ext W H W' H' → HR K W' m' H' → Qd b m' → Q b H') ∧ ContX K cl W H σ R Wx
theorem TTof.bind {K : Frag} {Wx : WX} {wp : WT0} {σ : St} {H : Hp} {W : Wd} {r : Env} {m : Store} {Qd : Bool → Store → Prop} {R : Rq} {Q : Bool → Hp → Prop} (s : SR K W H r σ) (h : HR K W m H) (w : wp r m Qd R) (cx : ContX K cl W H σ R Wx)
    (k : ∀ (W1 : Wd) (b : Bool) (m1 : Store) (H1 : Hp), Ext W H W1 H1 → HR K W1 m1 H1 → SR K W1 H1 r σ → ContX K cl W1 H1 σ R Wx → Qd b m1 → Q b H1) : TTof K cl Wx wp σ H Q :=
  ⟨W, r, m, Qd, R, s, h, w, fun W1 b m1 H1 e hr q => k W1 b m1 H1 e hr (s.mono h e) (cx.mono e) q, cx⟩
theorem pe_imp {X : Cx} {e : Expr} {t t' : TE} (h : PE X e t) (i : ∀ σ H Q, t' σ H Q → t σ H Q) : PE X e t' := ⟨fun pins s σ H Q I q => h.run pins s σ H Q I (i σ H Q q)⟩
theorem pt_imp {X : Cx} {e : Expr} {t t' : TT} (h : PT X e t) (i : ∀ σ H Q, t' σ H Q → t σ H Q) : PT X e t' := ⟨fun pins s σ H Q I q => h.run pins s σ H Q I (i σ H Q q)⟩
theorem pa_imp {X : Cx} {e : List Expr} {t t' : TA} (h : PA X e t) (i : ∀ σ H Q, t' σ H Q → t σ H Q) : PA X e t' := ⟨fun pos pins s σ H Q I q => h.run pos pins s σ H Q I (i σ H Q q)⟩
theorem ps_imp {X : Cx} {e : Stmt} {t t' : TS} (h : PS X e t) (i : ∀ D σ H, t' D σ H → t D σ H) : PS X e t' := ⟨fun pins s σ H D I q => h.run pins s σ H D I (i D σ H q)⟩
theorem pss_imp {X : Cx} {e : List Stmt} {t t' : TS} (h : PSs X e t) (i : ∀ D σ H, t' D σ H → t D σ H) : PSs X e t' := ⟨fun pins s σ H D I q => h.run pins s σ H D I (i D σ H q)⟩
end Dy

/-! Dq, part C: repr of lists, tuples and dicts within one another. -/
namespace DyR
open PySem PySem.Spec L2
/-! ### data that is read, no dict of it the table of modules -/
mutual
inductive Rd (h : Heap) : Value → PyData → Prop
  | none : Rd h .none .none
  | bool (b : Bool) : Rd h (.bool b) (.bool b)
  | int (i : Int) (t : PySem.Tok) : Rd h (.int i t) (.int i)
  | str (x : Str) (t : PySem.Tok) : Rd h (.str x t) (.str x)
  | list {a : Addr} {o : Obj} {vs : Array Value} {n : Nat} {xs : List PyData} : h.get? a = some o → o.cls = .type "list" → o.data = .seq vs n → Rds h vs.toList xs → Rd h (.ref a) (.list xs)
  | tuple {a : Addr} {o : Obj} {vs : Array Value} {n : Nat} {xs : List PyData} : h.get? a = some o → o.cls = .type "tuple" → o.data = .seq vs n → Rds h vs.toList xs → Rd h (.ref a) (.tuple xs)
  | dict {a : Addr} {o : Obj} {es : Array DictEntry} {n : Nat} {kvs : List (PyData × PyData)} : h.get? a = some o → o.cls = .type "dict" → o.data = .dict es n → (a == sysModules) = false → Rds h (es.toList.map (·.key)) (kvs.map (·.1)) →
      Rds h (es.toList.map (·.val)) (kvs.map (·.2)) → Rd h (.ref a) (.dict kvs)
inductive Rds (h : Heap) : List Value → List PyData → Prop
  | nil : Rds h [] []
  | cons {v : Value} {vs : List Value} {d : PyData} {ds : List PyData} : Rd h v d → Rds h vs ds → Rds h (v :: vs) (d :: ds)
end
mutual
theorem Rd.reads {h : Heap} : ∀ {v : Value} {d : PyData}, Rd h v d → ∃ as, Reads h v d as
  | _, _, .none => ⟨_, .none⟩
  | _, _, .bool b => ⟨_, .bool b⟩
  | _, _, .int i t => ⟨_, .int i t⟩
  | _, _, .str x t => ⟨_, .str x t⟩
  | _, _, .list h1 h2 h3 h4 => let ⟨_, r⟩ := Rds.reads h4; ⟨_, .list h1 h2 h3 r⟩
  | _, _, .tuple h1 h2 h3 h4 => let ⟨_, r⟩ := Rds.reads h4; ⟨_, .tuple h1 h2 h3 r⟩
  | _, _, .dict h1 h2 h3 _ h4 h5 => let ⟨_, r⟩ := Rds.reads h4; let ⟨_, q⟩ := Rds.reads h5; ⟨_, .dict h1 h2 h3 r q⟩
theorem Rds.reads {h : Heap} : ∀ {vs : List Value} {ds : List PyData}, Rds h vs ds → ∃ as, ReadsAll h vs ds as
  | _, _, .nil => ⟨_, .nil⟩
  | _, _, .cons r t => let ⟨_, a⟩ := Rd.reads r; let ⟨_, b⟩ := Rds.reads t; ⟨_, .cons a b⟩
end
section
variable {prog : Program} {w : World} {h₀ : Heap}
theorem two_le {bs b1 b2 : List Addr} {n n1 n2 : Nat} (e : bs = b1 ++ b2) (h1 : ReadAtMost h₀ n1 b1) (h2 : ReadAtMost h₀ n2 b2) (l1 : n1 ≤ n) (l2 : n2 ≤ n) : ReadAtMost h₀ n bs := by
  subst e
  exact (h1.mono l1).append (h2.mono l2)
mutual
theorem Rd.rep : ∀ {v : Value} {d : PyData}, Rd h₀ v d → d.showable = true → d.shown.length ≤ sizeLine → ∃ bs, ReadAtMost h₀ d.depth bs ∧ ReprK prog w bs h₀ d.depth v d.shown
  | _, _, .none, _, _ => ⟨[], (fun _ h => nomatch h), by simp only [PyData.shown]; exact .of_is ReprIs.none _ _ _⟩
  | _, _, .bool b, _, _ => ⟨[], (fun _ h => nomatch h), by simp only [PyData.shown]; exact .of_is (ReprIs.bool b) _ _ _⟩
  | _, _, .int i t, hs, _ => ⟨[], (fun _ h => nomatch h), by simp only [PyData.shown]; exact .of_is (ReprIs.int t (by simpa [PyData.showable] using hs)) _ _ _⟩
  | _, _, .str x t, _, hz => ⟨[], (fun _ h => nomatch h), by simp only [PyData.shown]; exact .of_is (ReprIs.str x t (by simpa only [PyData.shown] using hz)) _ _ _⟩
  | _, _, .list (a := a) (vs := vs) (xs := xs) h1 h2 h3 h4, hs, hz => by
    obtain ⟨as, ra⟩ := Rds.reads h4
    have r : Reads h₀ (.ref a) (.list xs) (a :: as) := .list h1 h2 h3 ra
    obtain ⟨bs, hb, hk⟩ := Rds.rep h4 (by simpa [PyData.showable] using hs) (fun t ht => Nat.le_trans (listText_mem_le ht) (by simpa only [PyData.shown] using hz))
    refine ⟨a :: bs, ReadAtMost.cons r (by simp only [PyData.depth]; omega) hb, ?_⟩
    have hna : a ∉ bs := not_mem_of_deeper r (by simp only [PyData.depth]; omega) hb
    simp only [PyData.depth, PyData.shown]
    obtain ⟨l⟩ := vs
    match l, h3, h4, hk with
    | [], h3, h4, hk =>
      cases (show Rds h₀ [] xs from h4)
      simp only [PyData.shownAll, listText_nil]
      exact ReprK.listEmpty h1 h2 h3
    | x :: l, h3, h4, hk => exact ReprK.list h1 h2 h3 hna (by simpa using hk.length_eq) (fun i y e => hk.item i y (by simpa using e))
  | _, _, .tuple (a := a) (xs := xs) h1 h2 h3 h4, hs, hz => by
    obtain ⟨as, ra⟩ := Rds.reads h4
    have r : Reads h₀ (.ref a) (.tuple xs) as := .tuple h1 h2 h3 ra
    obtain ⟨bs, hb, hk⟩ := Rds.rep h4 (by simpa [PyData.showable] using hs) (fun t ht => Nat.le_trans (tupleText_mem_le ht) (by simpa only [PyData.shown] using hz))
    refine ⟨a :: bs, ReadAtMost.cons r (by simp only [PyData.depth]; omega) hb, ?_⟩
    simp only [PyData.depth, PyData.shown]
    exact ReprK.tuple h1 h2 h3 (not_mem_of_deeper r (by simp only [PyData.depth]; omega) hb) hk
  | _, _, .dict (a := a) (es := es) (kvs := kvs) h1 h2 h3 hsys h4 h5, hs, hz => by
    obtain ⟨as, ra⟩ := Rds.reads h4
    obtain ⟨cs, rc⟩ := Rds.reads h5
    have r : Reads h₀ (.ref a) (.dict kvs) (a :: as ++ cs) := .dict h1 h2 h3 ra rc
    obtain ⟨hs1, hs2⟩ := PyData.showableKv_split kvs (by simpa [PyData.showable] using hs)
    have hz' : (dictText (PyData.shownKv kvs)).length ≤ sizeLine := by simpa only [PyData.shown] using hz
    obtain ⟨b1, hb1, k1⟩ := Rds.rep h4 hs1 (fun t ht => by obtain ⟨p, hp, hl⟩ := PyData.shownKv_key_le kvs t ht; exact Nat.le_trans hl (Nat.le_trans (dictText_mem_le hp) hz'))
    obtain ⟨b2, hb2, k2⟩ := Rds.rep h5 hs2 (fun t ht => by obtain ⟨p, hp, hl⟩ := PyData.shownKv_val_le kvs t ht; exact Nat.le_trans hl (Nat.le_trans (dictText_mem_le hp) hz'))
    have hb : ReadAtMost h₀ (PyData.depthKv kvs) (b1 ++ b2) := two_le rfl hb1 hb2 (PyData.depthAll_keys_le kvs) (PyData.depthAll_vals_le kvs)
    refine ⟨a :: (b1 ++ b2), ReadAtMost.cons r (by simp only [PyData.depth]; omega) hb, ?_⟩
    simp only [PyData.depth, PyData.shown, PyData.shownKv_eq]
    exact ReprK.dict h1 h2 h3 hsys (not_mem_of_deeper r (by simp only [PyData.depth]; omega) hb) (ReprEntriesK.of_two es.toList _ _
      (k1.more_le (fun b hb => List.mem_append_left _ hb) (PyData.depthAll_keys_le kvs)) (k2.more_le (fun b hb => List.mem_append_right _ hb) (PyData.depthAll_vals_le kvs)))
theorem Rds.rep : ∀ {vs : List Value} {ds : List PyData}, Rds h₀ vs ds → PyData.showableAll ds = true → (∀ t ∈ PyData.shownAll ds, t.length ≤ sizeLine) → ∃ bs, ReadAtMost h₀ (PyData.depthAll ds) bs ∧ ReprAllK prog w bs h₀ (PyData.depthAll ds) vs (PyData.shownAll ds)
  | _, _, .nil, _, _ => ⟨[], (fun _ h => nomatch h), by simp only [PyData.shownAll]; exact .nil⟩
  | _, _, .cons (d := d) (ds := ds) r rs, hs, hz => by
    have hs' : d.showable = true ∧ PyData.showableAll ds = true := by simpa [PyData.showableAll] using hs
    obtain ⟨b1, hb1, k1⟩ := Rd.rep r hs'.1 (hz _ (by simp only [PyData.shownAll]; exact List.mem_cons_self ..))
    obtain ⟨b2, hb2, k2⟩ := Rds.rep rs hs'.2 (fun t ht => hz t (by simp only [PyData.shownAll]; exact List.mem_cons_of_mem _ ht))
    refine ⟨b1 ++ b2, two_le rfl hb1 hb2 (by simp only [PyData.depthAll]; omega) (by simp only [PyData.depthAll]; omega), ?_⟩
    simp only [PyData.depthAll, PyData.shownAll]
    exact .cons ((k1.more fun b hb => List.mem_append_left _ hb).level_le (Nat.le_max_left _ _)) (k2.more_le (fun b hb => List.mem_append_right _ hb) (Nat.le_max_right _ _))
end
/-- repr(x) of such -/
theorem repr_of {A : Around} {E : Value → Shared → Prop} {s : Shared} {Q : Value → Shared → Prop} {a : Addr} {d : PyData} (r : Rd s.heap (.ref a) d) (hs : d.showable = true) (hsz : d.shown.length ≤ sizeLine) (hg : A.guards = some []) (hu : A.units + (d.depth + 1) < cLine)
    (hQ : ∀ h' u tk, (∀ b o, s.heap.get? b = some o → h'.get? b = some o) → Q (.str d.shown u) { s with heap := h', toks := tk }) : wpAny (model prog w) A (call (.builtin "repr") [.ref a]) Q E s := by
  have hg1 : A.in1.guards = some [] := hg
  obtain ⟨as, rr⟩ := r.reads
  cases r with
  | list h1 h2 h3 h4 =>
    rename_i o vs n xs
    have hz' : (listText (PyData.shownAll xs)).length ≤ sizeLine := by simpa only [PyData.shown] using hsz
    obtain ⟨bs, hb, hk⟩ := Rds.rep (prog := prog) (w := w) h4 (by simpa [PyData.showable] using hs) (fun t ht => Nat.le_trans (listText_mem_le ht) hz')
    have hna : a ∉ bs := not_mem_of_deeper rr (by simp only [PyData.depth]; omega) hb
    simp only [PyData.depth] at hu
    simp only [PyData.shown] at hQ
    refine call_repr_slot (by omega) ⟨o, h1, h2⟩ F.slot_list_repr.toG ?_
    obtain ⟨l⟩ := vs
    match l, h3, h4, hk with
    | [], h3, h4, hk =>
      cases (show Rds s.heap [] xs from h4)
      simp only [PyData.shownAll, listText_nil] at hQ
      exact call_list_repr_empty ⟨o, h1, h2⟩ h1 h3 ⟨_, _, rfl, hQ s.heap _ _ fun _ _ e => e⟩
    | x :: l, h3, h4, hk =>
      exact call_list_reprK h1 h2 h3 hna (by simpa using hk.length_eq) (fun i y e => hk.item i y (by simpa using e)) hg1 (fun b _ => Clear.nil b) (by show A.units + 1 + _ < cLine; omega) (fun _ _ e => e) (fun h' u tk hk => ⟨_, _, rfl, hQ h' u tk hk⟩) hz'
  | tuple h1 h2 h3 h4 =>
    rename_i o vs n xs
    have hz' : (tupleText (PyData.shownAll xs)).length ≤ sizeLine := by simpa only [PyData.shown] using hsz
    obtain ⟨bs, hb, hk⟩ := Rds.rep (prog := prog) (w := w) h4 (by simpa [PyData.showable] using hs) (fun t ht => Nat.le_trans (tupleText_mem_le ht) hz')
    have hna : a ∉ bs := not_mem_of_deeper rr (by simp only [PyData.depth]; omega) hb
    simp only [PyData.depth] at hu
    simp only [PyData.shown] at hQ
    refine call_repr_slot (by omega) ⟨o, h1, h2⟩ F.slot_tuple_repr ?_
    exact call_tuple_reprK h1 h2 h3 hna hk hg1 (fun b _ => Clear.nil b) (by show A.units + 1 + _ < cLine; omega) (fun _ _ e => e) (fun h' u tk hk => ⟨_, _, rfl, hQ h' u tk hk⟩) hz'
  | dict h1 h2 h3 hsys h4 h5 =>
    rename_i o es n kvs
    have hz' : (dictText (PyData.shownKv kvs)).length ≤ sizeLine := by simpa only [PyData.shown] using hsz
    obtain ⟨hs1, hs2⟩ := PyData.showableKv_split kvs (by simpa [PyData.showable] using hs)
    obtain ⟨b1, hb1, k1⟩ := Rds.rep (prog := prog) (w := w) h4 hs1 (fun t ht => by obtain ⟨p, hp, hl⟩ := PyData.shownKv_key_le kvs t ht; exact Nat.le_trans hl (Nat.le_trans (dictText_mem_le hp) hz'))
    obtain ⟨b2, hb2, k2⟩ := Rds.rep (prog := prog) (w := w) h5 hs2 (fun t ht => by obtain ⟨p, hp, hl⟩ := PyData.shownKv_val_le kvs t ht; exact Nat.le_trans hl (Nat.le_trans (dictText_mem_le hp) hz'))
    have hb : ReadAtMost s.heap (PyData.depthKv kvs) (b1 ++ b2) := two_le rfl hb1 hb2 (PyData.depthAll_keys_le kvs) (PyData.depthAll_vals_le kvs)
    have hna : a ∉ b1 ++ b2 := not_mem_of_deeper rr (by simp only [PyData.depth]; omega) hb
    simp only [PyData.depth] at hu
    simp only [PyData.shown, PyData.shownKv_eq] at hQ
    refine call_repr_slot (by omega) ⟨o, h1, h2⟩ F.slot_dict_repr ?_
    exact call_dict_reprK h1 h2 h3 hsys hna (ReprEntriesK.of_two es.toList _ _
      (k1.more_le (fun b hb => List.mem_append_left _ hb) (PyData.depthAll_keys_le kvs)) (k2.more_le (fun b hb => List.mem_append_right _ hb) (PyData.depthAll_vals_le kvs))) hg1 (fun b _ => Clear.nil b) (by show A.units + 1 + _ < cLine; omega) (fun _ _ e => e) (fun h' u tk hk => ⟨_, _, rfl, hQ h' u tk hk⟩) (by rw [← PyData.shownKv_eq]; exact hz')
end
/-! ### the same by the abstract heap -/
mutual
inductive Dr (K : PySem.W.Frag) (H : Hp) : V → PyData → Prop
  | non : Dr K H .non .none
  | bl (b : Bool) : Dr K H (.bl b) (.bool b)
  | int (i : Int) : Dr K H (.int i) (.int i)
  | str (x : Str) : Dr K H (.str x) (.str x)
  | lst {a : Addr} {xs : List V} {ds : List PyData} : SqL K H a xs → Drs K H xs ds → Dr K H (.ref a) (.list ds)
  | tup {a : Addr} {xs : List V} {ds : List PyData} : SqT K H a xs → Drs K H xs ds → Dr K H (.ref a) (.tuple ds)
  | dic {a : Addr} {ks : List Dy.Text} {xs : List V} {ds : List PyData} : ks.length = xs.length → H a = some (.dK (Dy.dkv ks xs)) → Drs K H xs ds → Dr K H (.ref a) (.dict ((ks.map fun t => PyData.str (SX.S t)).zip ds))
inductive Drs (K : PySem.W.Frag) (H : Hp) : List V → List PyData → Prop
  | nil : Drs K H [] []
  | cons {v : V} {vs : List V} {d : PyData} {ds : List PyData} : Dr K H v d → Drs K H vs ds → Drs K H (v :: vs) (d :: ds)
end
theorem Drs.length {K : PySem.W.Frag} {H : Hp} : ∀ {vs : List V} {ds : List PyData}, Drs K H vs ds → vs.length = ds.length
  | _, _, .nil => rfl
  | _, _, .cons _ t => by simp [t.length]
theorem pairs_split {prog : Program} {w : World} {h : Heap} : ∀ {ks : List Dy.Text} {xs : List V} {vs : List (Key × Value)} {es : List DictEntry}, KV (Dy.dkv ks xs) vs → ks.length = xs.length → Pairs (mixKind prog w) es vs →
    Rds h (es.map (·.key)) (ks.map fun t => PyData.str (SX.S t)) ∧ ∃ us, Vals xs us ∧ es.map (·.val) = us
  | [], [], _, _, r, _, p => by
    cases r
    cases p
    exact ⟨.nil, [], .nil, rfl⟩
  | k :: ks, x :: xs, _, _, r, hl, p => by
    have r' : Paired (fun (p : Key × V) (q : Key × Value) => p.1 = q.1 ∧ RelV p.2 q.2) ((Sum.inr (SX.S k), x) :: Dy.dkv ks xs) _ := r
    cases r' with
    | cons h t =>
      cases p with
      | cons i e p =>
        obtain ⟨h1, h2⟩ := h
        rw [← h1] at i
        obtain ⟨a, us, b, c⟩ := pairs_split (h := h) (ks := ks) (xs := xs) t (by simpa using hl) p
        rcases keyIs_shape (show keyIs (Sum.inr (SX.S k)) _ = true from i) with ⟨_, _, z, _⟩ | ⟨y, t', z, q⟩
        · cases z
        · cases z
          refine ⟨?_, _ :: us, .cons h2 b, ?_⟩
          · simp only [List.map_cons, q]
            exact .cons (.str _ _) a
          · simp only [List.map_cons, e, c]
  | [], _ :: _, _, _, _, hl, _ => by simp at hl
  | _ :: _, [], _, _, _, hl, _ => by simp at hl
section
variable {X : Cx} {pins : List (Addr × Obj)} {σ : L2.St} {H : Hp} {s : Shared}
mutual
theorem Dr.rd (I : Inv X pins σ H s) : ∀ {v : V} {d : PyData} {u : Value}, Dr X.K H v d → RelV v u → Rd s.heap u d
  | _, _, _, .non, r => by cases r; exact .none
  | _, _, _, .bl b, r => by cases r; exact .bool b
  | _, _, _, .int i, r => by obtain ⟨t, rfl⟩ := r; exact .int i t
  | _, _, _, .str x, r => by obtain ⟨t, rfl⟩ := r; exact .str x t
  | _, _, _, .lst hs ha, r => by
    cases r
    obtain ⟨its, rv, ⟨o, n, ho, hc, _, hd⟩, _⟩ := I.list hs
    exact .list ho hc hd (Drs.rd I ha rv)
  | _, _, _, .tup hs ha, r => by
    cases r
    obtain ⟨its, rv, ⟨o, ho, hc, n, hd⟩, _⟩ := I.tuple hs
    exact .tuple ho hc hd (Drs.rd I ha rv)
  | _, _, _, .dic (ks := ks) (ds := ds) hl e ha, r => by
    cases r
    obtain ⟨_, hsys, vs, kv, o, es, ep, ho, hx, hd, _, hp, _⟩ := dk_of I.hok e
    obtain ⟨r1, us, r2, e2⟩ := pairs_split (h := s.heap) kv hl hp
    have hlen : (ks.map fun t => PyData.str (SX.S t)).length = ds.length := by rw [List.length_map, hl, ha.length]
    refine .dict ho hx.1 hd hsys ?_ ?_
    · rw [List.map_fst_zip (by omega)]; exact r1
    · rw [List.map_snd_zip (by omega), e2]; exact Drs.rd I ha r2
theorem Drs.rd (I : Inv X pins σ H s) : ∀ {vs : List V} {ds : List PyData} {us : List Value}, Drs X.K H vs ds → Vals vs us → Rds s.heap us ds
  | _, _, _, .nil, r => by cases r; exact .nil
  | _, _, _, .cons h t, r => by
    cases r with
    | cons r1 r2 => exact .cons (Dr.rd I h r1) (Drs.rd I t r2)
end
end
end DyR

/-! Dq, part D: what is asked of errors and instances: isinstance, attributes. -/
namespace Dy
open PySem PySem.Spec L2
section
variable {X : Cx}
/-- isinstance(e, c) of a kept error -/
def rIsErr (K : Frag) : List V → Hp → VK → Prop := fun xs H Q => ∃ (a C d : Addr) (fs : List (Str × V)) (c : V) (u : Value) (b : Bool), xs = [.ref a, c] ∧ ClsV c u ∧ H a = some (DyX.errO a C d) ∧ H d = some (.xd fs) ∧ ExcC K C ∧ PySem.W.kitOne K (.ref C) u = some b ∧ Q (.bl b) H
theorem call_isErr : CallR X (.builtin "isinstance") (rIsErr X.K) := by
  intro pins s σ H xs us Q I r h
  obtain ⟨a, C, d, fs, c, u, b, rfl, k, ea, ed, T, e, q⟩ := h
  obtain ⟨u1, u2, rfl, r1, r2⟩ := vals2 r
  have e2 := k.eq r2
  subst e2
  obtain rfl : u1 = Value.ref a := r1
  obtain ⟨oe, he, hc, hd, vs, hv⟩ := DyX.errO_at I.hok ea
  obtain ⟨mA, ⟨od, es, ep, ho, _⟩, _⟩ := (show ObjOk X.prog X.w H s.heap d (.xd fs) from I.hok d _ ed)
  have J : PySem.W.InstAt s.heap a oe C (some od) := ⟨he, hc, by unfold PySem.W.notCls; rw [hv] <;> rfl, by rw [hd]; exact ho⟩
  have hcl : (PySem.W.clsIn X.K C).isSome = true := by
    obtain ⟨cd, hc, _⟩ := PySem.W.any_some T.hd
    rw [hc]; rfl
  exact PySem.W.kia_one (PySem.W.kitx_exc hcl T.hg T.hk T.hs T.ha T.hn T.ht T.hm) I.kIn J e (fun z => nomatch z) fun tk => ⟨.bl b, H, I.kept (t' := tk) fun _ _ z => z, rfl, q⟩
/-- e.f, of a kept error or of an instance -/
def tAttr (K : Frag) (f : Str) (te : TE) : TE := fun σ H Q => te σ H fun x H1 =>
  (∃ (a C d : Addr) (fs : List (Str × V)) (v : V), x = .ref a ∧ H1 a = some (DyX.errO a C d) ∧ H1 d = some (.xd fs) ∧ XfC K C ∧ PySem.W.findIn K (.ref C) f = some none ∧ fs.lookup f = some v ∧ Q v H1) ∨
  ∃ (a C dx : Addr) (fs : List (Str × V)) (v : V), x = .ref a ∧ H1 a = some (.ins C dx fs) ∧ L2.Cls K C ∧ NoAttr K C f ∧ fs.lookup f = some v ∧ Q v H1
theorem pe_attr {e : Expr} {te : TE} {pos : Pos} {f : Str} (he : PE X e te) (hb : attributeBase e f X.env (eval e X.env) = eval e X.env) : PE X (.Attribute e f pos) (tAttr X.K f te) := by
  refine ⟨fun pins s σ H Q I h => ?_⟩
  refine attr_of hb (thn (he.run pins s σ H _ I h) fun u s1 hh => ?_)
  obtain ⟨x, H1, I1, rx, hh⟩ := hh
  rcases hh with ⟨a, C, d, fs, v, rfl, ea, ed, T, hno, l, q⟩ | ⟨a, C, dx, fs, v, rfl, ea, c, n, l, q⟩
  · obtain rfl : u = Value.ref a := rx
    obtain ⟨oe, hoe, hc, hd, vs, hv⟩ := DyX.errO_at I1.hok ea
    obtain ⟨mA, hns, hr⟩ := (show ObjOk X.prog X.w H1 s1.heap d (.xd fs) from I1.hok d _ ed)
    obtain ⟨od, ho, hl⟩ := lookIn_ns hns
    obtain ⟨u, hu, ru⟩ := RelO.some_of (v := v) (o := mA f) (by rw [← l]; exact hr f)
    have J : PySem.W.InstAt s1.heap a oe C (some od) := ⟨hoe, hc, by unfold PySem.W.notCls; rw [hv] <;> rfl, by rw [hd]; exact ho⟩
    exact HandSPX.exc_get I1.kIn J T.ga T.gg T.exC (PySem.W.findObj_own T.hdC hno rfl (by rw [hl, hu])) (handed_of ru) ⟨v, H1, I1.tok _, ru, q⟩
  · obtain rfl : u = Value.ref a := rx
    exact getattr_ok I1 ea c n l fun u' s2 I2 ru => ⟨v, H1, I2, ru, q⟩
end
end Dy

/-! Dp, part C: operations on values, each with the rule of the hand layer that it stands for. -/
namespace Dy
open PySem PySem.Spec L2
variable [Kx]
/-! ### plain data -/
mutual
def pd : Val → Option PyData
  | .non => some .none
  | .bool b => some (.bool b)
  | .int i => some (.int i)
  | .str s => some (.str (SX.S s))
  | .tup vs => (pds vs).map .tuple
  | .il _ vs => (pds vs).map .list
  | _ => none
def pds : List Val → Option (List PyData)
  | [] => some []
  | v :: vs => (pd v).bind fun d => (pds vs).map fun ds => d :: ds
end
/-- a changing list of the store as data -/
def pdm (m : Store) : Val → Option PyData
  | .loc n => match m[n]? with | some (.list vs) => (pds vs).map .list | _ => none
  | v => pd v
/-- the items of a list or tuple -/
def sq (m : Store) : Val → Option (List Val)
  | .tup vs => some vs
  | .il _ vs => some vs
  | .loc n => match m[n]? with | some (.list vs) => some vs | _ => none
  | _ => none
section
variable {K : Frag} {W W1 : Wd} {H H1 : Hp} {m : Store}
mutual
theorem pd_dp : ∀ {v : Val} {x : V} {d : PyData}, RV K W H v x → pd v = some d → Dp K H x d
  | _, _, _, .non, e => by cases e; exact .non
  | _, _, _, .bool b, e => by cases e; exact .bl b
  | _, _, _, .int i, e => by cases e; exact .int i
  | _, _, _, .str s, e => by cases e; exact .str _
  | _, _, _, .tup s r, e => by
    simp only [pd, Option.map_eq_some_iff] at e
    obtain ⟨ds, e1, e2⟩ := e
    subst e2
    exact .tup s (pds_dp r e1)
  | _, _, _, .il1 _ q r, e => by
    simp only [pd, Option.map_eq_some_iff] at e
    obtain ⟨ds, e1, e2⟩ := e
    subst e2
    exact .lst (SqL.of q) (pds_dp r e1)
  | _, _, _, .il0 _ q r, e => by
    simp only [pd, Option.map_eq_some_iff] at e
    obtain ⟨ds, e1, e2⟩ := e
    subst e2
    exact .lst q (pds_dp r e1)
  | _, _, _, .ilk q r, e => by
    simp only [pd, Option.map_eq_some_iff] at e
    obtain ⟨ds, e1, e2⟩ := e
    subst e2
    exact .lst (sqL_k q) (pds_dp r e1)
  | _, _, _, .loc _, e => by cases e
  | _, _, _, .err _ _ _ _, e => by cases e
  | _, _, _, .dic _ _ _ _ _, e => by cases e
  | _, _, _, .fn, e => by cases e
theorem pds_dp : ∀ {vs : List Val} {xs : List V} {ds : List PyData}, RVs K W H vs xs → pds vs = some ds → DpAll K H xs ds
  | _, _, _, .nil, e => by cases e; exact .nil
  | _, _, _, .cons r t, e => by
    simp only [pds, Option.bind_eq_some_iff, Option.map_eq_some_iff] at e
    obtain ⟨d, e1, ds, e2, e3⟩ := e
    subst e3
    exact .cons (pd_dp r e1) (pds_dp t e2)
end
theorem loc_at (h : HR K W m H) {n : Nat} {a : Addr} {vs : List Val} (q : W.phi[n]? = some a) (e : m[n]? = some (.list vs)) : ∃ xs, H a = some (.lst xs) ∧ RVs K W H vs xs := by
  obtain ⟨b, e1, r⟩ := h.obj n _ e
  rw [q] at e1; cases e1
  exact r
theorem pdm_dp (h : HR K W m H) {v : Val} {x : V} {d : PyData} (r : RV K W H v x) (e : pdm m v = some d) : Dp K H x d := by
  cases r with
  | loc q =>
    rename_i n a
    simp only [pdm] at e
    cases hm : m[n]? with
    | none => rw [hm] at e; cases e
    | some o =>
      cases o with
      | list vs =>
        rw [hm] at e
        simp only [Option.map_eq_some_iff] at e
        obtain ⟨ds, e1, e2⟩ := e
        subst e2
        obtain ⟨xs, q1, r1⟩ := loc_at h q hm
        exact .lst (SqL.of q1) (pds_dp r1 e1)
      | inst c fs us => rw [hm] at e; cases e
  | err _ _ _ _ => cases e
  | dic _ _ _ _ _ => cases e
  | fn => cases e
  | non => exact pd_dp (W := W) .non e
  | bool b => exact pd_dp (W := W) (.bool b) e
  | int i => exact pd_dp (W := W) (.int i) e
  | str s => exact pd_dp (W := W) (.str s) e
  | tup s r => exact pd_dp (.tup s r) e
  | il1 i q r => exact pd_dp (.il1 i q r) e
  | il0 i q r => exact pd_dp (.il0 i q r) e
  | ilk q r => exact pd_dp (.ilk q r) e
theorem sq_at (h : HR K W m H) {v : Val} {x : V} {vs : List Val} (r : RV K W H v x) (e : sq m v = some vs) : ∃ a xs, x = .ref a ∧ (SqL K H a xs ∨ SqT K H a xs) ∧ RVs K W H vs xs := by
  cases r with
  | loc q =>
    rename_i n a
    simp only [sq] at e
    cases hm : m[n]? with
    | none => rw [hm] at e; cases e
    | some o =>
      cases o with
      | list us =>
        rw [hm] at e; cases e
        obtain ⟨xs, q1, r1⟩ := loc_at h q hm
        exact ⟨a, xs, rfl, .inl (SqL.of q1), r1⟩
      | inst c fs us => rw [hm] at e; cases e
  | err _ _ _ _ => cases e
  | dic _ _ _ _ _ => cases e
  | fn => cases e
  | non => cases e
  | bool b => cases e
  | int i => cases e
  | str s => cases e
  | tup s r => cases e; exact ⟨_, _, rfl, .inr s, r⟩
  | il1 i q r => cases e; exact ⟨_, _, rfl, .inl (SqL.of q), r⟩
  | il0 i q r => cases e; exact ⟨_, _, rfl, .inl q, r⟩
  | ilk q r => cases e; exact ⟨_, _, rfl, .inl (sqL_k q), r⟩
/-- a list (not a tuple) -/
def isL : Val → Bool
  | .il _ _ => true
  | .loc _ => true
  | _ => false
theorem sq_atL (h : HR K W m H) {v : Val} {x : V} {vs : List Val} (r : RV K W H v x) (e : sq m v = some vs) (hl : isL v = true) : ∃ a xs, x = .ref a ∧ SqL K H a xs ∧ RVs K W H vs xs := by
  cases r with
  | loc q =>
    rename_i n a
    simp only [sq] at e
    cases hm : m[n]? with
    | none => rw [hm] at e; cases e
    | some o =>
      cases o with
      | list us =>
        rw [hm] at e; cases e
        obtain ⟨xs, q1, r1⟩ := loc_at h q hm
        exact ⟨a, xs, rfl, SqL.of q1, r1⟩
      | inst c fs us => rw [hm] at e; cases e
  | err _ _ _ _ => cases e
  | dic _ _ _ _ _ => cases e
  | fn => cases e
  | non => cases e
  | bool b => cases e
  | int i => cases e
  | str s => cases e
  | tup s r => cases hl
  | il1 i q r => cases e; exact ⟨_, _, rfl, SqL.of q, r⟩
  | il0 i q r => cases e; exact ⟨_, _, rfl, q, r⟩
  | ilk q r => cases e; exact ⟨_, _, rfl, sqL_k q, r⟩
theorem RV.int_inv {i : Int} {x : V} (r : RV K W H (.int i) x) : x = .int i := by cases r; rfl
theorem RV.str_inv {s : Text} {x : V} (r : RV K W H (.str s) x) : x = .str (SX.S s) := by cases r; rfl
theorem RV.bool_inv {b : Bool} {x : V} (r : RV K W H (.bool b) x) : x = .bl b := by cases r; rfl
theorem RV.non_inv {x : V} (r : RV K W H .non x) : x = .non := by cases r; rfl
theorem RV.il_inv {vs : List Val} {x : V} (r : RV K W H (.il true vs) x) : ∃ a xs, x = .ref a ∧ H a = some (.lst xs) ∧ RVs K W H vs xs := by cases r; exact ⟨_, _, rfl, by assumption, by assumption⟩
theorem RV.tup_inv {vs : List Val} {x : V} (r : RV K W H (.tup vs) x) : ∃ a xs, x = .ref a ∧ SqT K H a xs ∧ RVs K W H vs xs := by cases r; exact ⟨_, _, rfl, by assumption, by assumption⟩
end
/-! ### binary operators -/
inductive BOp where
  | add | sub | mul | fdiv | mod | pow
  deriving DecidableEq
def BOp.op : BOp → Operator
  | .add => .Add
  | .sub => .Sub
  | .mul => .Mult
  | .fdiv => .FloorDiv
  | .mod => .Mod
  | .pow => .Pow
def mulOk (i j : Int) : Prop := CMul i j ∨ CMulW i j
def powOk (i n : Int) : Prop := 0 ≤ n ∧ (Builtin.Int.intBits i : Int) * n ≤ 2 ^ 27
def divOk (j : Int) : Prop := 0 < j ∧ j.natAbs.log2 < 9000
/-- the items of a list that is no constant of the module -/
def tq (m : Store) : Val → Option (List Val)
  | .il true vs => some vs
  | .loc n => match m[n]? with | some (.list vs) => some vs | _ => none
  | _ => none
def binW : BOp → Val → Val → Store → (Val → Store → Prop) → Prop
  | .add, .int a, .int b, m, Q => Q (.int (a + b)) m
  | .add, .str a, .str b, m, Q => a.length + b.length ≤ sizeLine ∧ Q (.str (a ++ b)) m
  | .add, .il true a, .il true b, m, Q => a.length + b.length ≤ sizeLine ∧ Q (.il true (a ++ b)) m
  | .add, .tup a, .tup b, m, Q => a.length + b.length ≤ sizeLine ∧ Q (.tup (a ++ b)) m
  | .add, a, b, m, Q => ∃ us vs, tq m a = some us ∧ tq m b = some vs ∧ us.length + vs.length ≤ sizeLine ∧ Q (.il true (us ++ vs)) m
  | .sub, .int a, .int b, m, Q => Q (.int (a - b)) m
  | .mul, .int a, .int b, m, Q => mulOk a b ∧ Q (.int (a * b)) m
  | .mul, .il true a, .int k, m, Q => (-(2 ^ 63) ≤ k ∧ k < 2 ^ 63 ∧ a.length * k.toNat ≤ sizeLine) ∧ Q (.il true (List.replicate k.toNat a).flatten) m
  | .fdiv, .int a, .int b, m, Q => divOk b ∧ Q (.int (a / b)) m
  | .mod, .int a, .int b, m, Q => 0 < b ∧ Q (.int (a % b)) m
  | .pow, .int a, .int b, m, Q => powOk a b ∧ Q (.int (a ^ b.toNat)) m
  | _, _, _, _, _ => False
def rAdd3 : R2 := fun x y H Q => (rI0 (fun i j => .int (i + j)) x y H Q ∨ ∃ i j, x = .str i ∧ y = .str j ∧ i.length + j.length ≤ sizeLine ∧ Q (.str (i ++ j)) H) ∨ rCat x y H Q
def rMul3 : R2 := fun x y H Q => (rI CMul (fun i j => .int (i * j)) x y H Q ∨ rI CMulW (fun i j => .int (i * j)) x y H Q) ∨ rRep x y H Q
def rBin (K : Frag) : BOp → R2
  | .add => fun x y H Q => rAdd3 x y H Q ∨ rCatA K x y H Q
  | .sub => rI0 fun i j => .int (i - j)
  | .mul => rMul3
  | .fdiv => rI CDivW fun i j => .int (i / j)
  | .mod => rI (fun _ j => 0 < j) fun i j => .int (i % j)
  | .pow => rI powOk fun i j => .int (i ^ j.toNat)
theorem op_bin {X : Cx} : ∀ op : BOp, OpR X (binaryOp op.op) (rBin X.K op)
  | .add => ((op_add.or op_add_str).or op_cat).or op_catA
  | .sub => op_sub
  | .mul => (op_mul.or op_mulW).or op_rep
  | .fdiv => op_fdivW
  | .mod => op_mod
  | .pow => opI fun _ _ _ _ _ _ _ hc q => PyProof.Rows.pow_int hc.1 hc.2 q
theorem Cont.here {K : Frag} {W : Wd} {H : Hp} {m : Store} {Qd : Val → Store → Prop} {Q : VK} (k : Cont K W H Qd Q) (h : HR K W m H) {v : Val} {x : V} (r : RV K W H v x) (q : Qd v m) : Q x H := k W v x m H (.refl h) r h q
theorem Cont.il {K : Frag} {W : Wd} {H : Hp} {m : Store} {Qd : Val → Store → Prop} {Q : VK} (k : Cont K W H Qd Q) (h : HR K W m H) {vs : List Val} {xs : List V} (r : RVs K W H vs xs) (q : Qd (.il true vs) m) {p : Addr} (hp : H p = none) : Q (.ref p) (upd H p (.lst xs)) := by
  obtain ⟨e, h1, rv⟩ := new_il h hp r
  exact k _ _ _ _ _ e rv h1 q
theorem Cont.tup {K : Frag} {W : Wd} {H : Hp} {m : Store} {Qd : Val → Store → Prop} {Q : VK} (k : Cont K W H Qd Q) (h : HR K W m H) {vs : List Val} {xs : List V} (r : RVs K W H vs xs) (q : Qd (.tup vs) m) {p : Addr} (hp : H p = none) : Q (.ref p) (upd H p (.tup xs)) := by
  obtain ⟨e, h1, rv⟩ := new_tup h hp r
  exact k _ _ _ _ _ e rv h1 q
theorem Cont.loc {K : Frag} {W : Wd} {H : Hp} {m : Store} {Qd : Val → Store → Prop} {Q : VK} (k : Cont K W H Qd Q) (h : HR K W m H) {vs : List Val} {xs : List V} (r : RVs K W H vs xs) (q : Qd (.loc m.length) (m ++ [.list vs])) {p : Addr} (hp : H p = none) : Q (.ref p) (upd H p (.lst xs)) := by
  obtain ⟨e, h1, rv⟩ := new_loc h hp r
  exact k _ _ _ _ _ e rv h1 q
theorem tq_at {K : Frag} {W : Wd} {H : Hp} {m : Store} (h : HR K W m H) {v : Val} {x : V} {vs : List Val} (r : RV K W H v x) (e : tq m v = some vs) : ∃ a xs, x = .ref a ∧ H a = some (.lst xs) ∧ RVs K W H vs xs := by
  cases v with
  | il o us =>
    cases o with
    | true => cases e; exact r.il_inv
    | false => cases e
  | loc n =>
    cases r with
    | loc q =>
      simp only [tq] at e
      cases hm : m[n]? with
      | none => rw [hm] at e; cases e
      | some o =>
        cases o with
        | list us =>
          rw [hm] at e; cases e
          obtain ⟨xs, q1, r1⟩ := loc_at h q hm
          exact ⟨_, xs, rfl, q1, r1⟩
        | inst c fs us => rw [hm] at e; cases e
  | _ => cases e
theorem bin_ok {K : Frag} {W : Wd} {H : Hp} {m : Store} {Qd : Val → Store → Prop} {Q : VK} {op : BOp} {a b : Val} {x y : V} (ra : RV K W H a x) (rb : RV K W H b y) (h : HR K W m H) (hw : binW op a b m Qd) (k : Cont K W H Qd Q) : rBin K op x y H Q := by
  unfold binW at hw
  split at hw
  · rw [ra.int_inv, rb.int_inv]
    exact .inl (.inl (.inl ⟨_, _, rfl, rfl, k.here h (.int _) hw⟩))
  · rw [ra.str_inv, rb.str_inv]
    refine .inl (.inl (.inr ⟨_, _, rfl, rfl, ?_, ?_⟩))
    · rw [SX.S_len, SX.S_len]; exact hw.1
    · rw [SX.S_cat]; exact k.here h (.str _) hw.2
  · obtain ⟨p, xs, rfl, q1, r1⟩ := ra.il_inv
    obtain ⟨p', ys, rfl, q2, r2⟩ := rb.il_inv
    exact .inl (.inr ⟨p, p', xs, ys, rfl, rfl, q1, q2, by rw [← r1.length, ← r2.length]; exact hw.1, fun p hp => k.il h (r1.append r2) hw.2 hp⟩)
  · obtain ⟨p, xs, rfl, q1, r1⟩ := ra.tup_inv
    obtain ⟨p', ys, rfl, q2, r2⟩ := rb.tup_inv
    refine .inr ⟨p, p', xs, ys, rfl, rfl, q1, q2, by rw [← r1.length, ← r2.length]; exact hw.1, fun z => ?_, fun _ z => ?_, fun _ _ p hp => k.tup h (r1.append r2) hw.2 hp⟩
    · subst z
      cases r1
      exact k.here h (.tup q2 r2) hw.2
    · subst z
      cases r2
      exact k.here h (.tup q1 r1) (by simpa using hw.2)
  · obtain ⟨us, vs, e1, e2, hl, q⟩ := hw
    obtain ⟨p, xs, rfl, q1, r1⟩ := tq_at h ra e1
    obtain ⟨p', ys, rfl, q2, r2⟩ := tq_at h rb e2
    exact .inl (.inr ⟨p, p', xs, ys, rfl, rfl, q1, q2, by rw [← r1.length, ← r2.length]; exact hl, fun p hp => k.il h (r1.append r2) q hp⟩)
  · rw [ra.int_inv, rb.int_inv]
    exact ⟨_, _, rfl, rfl, k.here h (.int _) hw⟩
  · rw [ra.int_inv, rb.int_inv]
    rcases hw.1 with c | c
    · exact .inl (.inl ⟨_, _, rfl, rfl, c, k.here h (.int _) hw.2⟩)
    · exact .inl (.inr ⟨_, _, rfl, rfl, c, k.here h (.int _) hw.2⟩)
  · obtain ⟨p, xs, rfl, q1, r1⟩ := ra.il_inv
    rw [rb.int_inv]
    obtain ⟨⟨h1, h2, h3⟩, q⟩ := hw
    exact .inr ⟨p, _, xs, rfl, rfl, q1, h1, h2, by rw [← r1.length]; exact h3, fun p hp => k.il h (r1.rep _) q hp⟩
  · rw [ra.int_inv, rb.int_inv]
    exact ⟨_, _, rfl, rfl, hw.1, k.here h (.int _) hw.2⟩
  · rw [ra.int_inv, rb.int_inv]
    exact ⟨_, _, rfl, rfl, hw.1, k.here h (.int _) hw.2⟩
  · rw [ra.int_inv, rb.int_inv]
    exact ⟨_, _, rfl, rfl, hw.1, k.here h (.int _) hw.2⟩
  · exact hw.elim
/-! ### comparisons -/
inductive COp where
  | eq | ne | lt | le | gt | ge | isin | notin
  deriving DecidableEq
def COp.op : COp → CmpOp
  | .eq => .Eq
  | .ne => .NotEq
  | .lt => .Lt
  | .le => .LtE
  | .gt => .Gt
  | .ge => .GtE
  | .isin => .In
  | .notin => .NotIn
def scalP : PyData → PyData → Bool
  | .none, .none => true | .none, .int _ => true | .int _, .none => true | .none, .bool _ => true | .bool _, .none => true | .none, .str _ => true | .str _, .none => true
  | .int _, .int _ => true | .bool _, .bool _ => true | .str _, .str _ => true
  | .int _, .str _ => true | .str _, .int _ => true | .bool _, .str _ => true | .str _, .bool _ => true
  | _, _ => false
def eqOk (x y : PyData) : Bool := scalP x y || (SeqAt.shaped x && SeqAt.shaped y)
def flatP : PyData → Bool
  | .none => true | .bool _ => true | .int _ => true | .str _ => true
  | _ => false
/-- what «in» looks through: the items of a list (data), of a tuple (plain ones) -/
def inOk (d : PyData) : PyData → Bool
  | .list ds => SeqAt.shaped d && SeqAt.shaped (.list ds)
  | .tuple ds => flatP d && ds.all flatP
  | _ => false
def itemsP : PyData → List PyData
  | .list ds => ds
  | .tuple ds => ds
  | _ => []
def inW (neg : Bool) (a b : Val) (m : Store) (Q : Bool → Prop) : Prop :=
  match a, b with
  | .str [c], .str z => Q (neg != decide (c ∈ z))
  | a, b => ∃ d e, pdm m a = some d ∧ pdm m b = some e ∧ inOk d e = true ∧ Q (neg != (itemsP e).any fun z => PyData.eqv z d)
/-- two lists, one of them empty -/
def eqE (m : Store) (a b : Val) (Q : Bool → Prop) : Prop := isL a = true ∧ isL b = true ∧ ∃ us vs, sq m a = some us ∧ sq m b = some vs ∧ (us = [] ∨ vs = []) ∧ Q (us.isEmpty && vs.isEmpty)
def cmpW : COp → Val → Val → Store → (Bool → Prop) → Prop
  | .eq, a, b, m, Q => (∃ d e, pdm m a = some d ∧ pdm m b = some e ∧ eqOk d e = true ∧ Q (PyData.eqv d e)) ∨ eqE m a b Q
  | .ne, a, b, m, Q => (∃ d e, pdm m a = some d ∧ pdm m b = some e ∧ eqOk d e = true ∧ Q (!PyData.eqv d e)) ∨ eqE m a b fun t => Q (!t)
  | .lt, .int a, .int b, _, Q => Q (decide (a < b))
  | .le, .int a, .int b, _, Q => Q (decide (a ≤ b))
  | .gt, .int a, .int b, _, Q => Q (decide (b < a))
  | .ge, .int a, .int b, _, Q => Q (decide (b ≤ a))
  | .isin, a, b, m, Q => inW false a b m Q
  | .notin, a, b, m, Q => inW true a b m Q
  | _, _, _, _, _ => False
def rEqE (K : Frag) (neg : Bool) : R2 := fun x y H Q => ∃ a b xs ys, x = .ref a ∧ y = .ref b ∧ SqL K H a xs ∧ SqL K H b ys ∧ (xs = [] ∨ ys = []) ∧ Q (.bl (neg != (xs.isEmpty && ys.isEmpty))) H
theorem plainL_is {h : Heap} {a : Addr} {its : Array Value} (p : PlainL h a its) : h.IsList a its := by
  obtain ⟨o, n, e1, e2, e3, e4⟩ := p
  first
    | exact ⟨o, e1, e2, n, e3⟩
    | exact ⟨o, e1, e2, n, e4⟩
theorem op_eqE {X : Cx} (hu : X.A.units < cLine) : OpR X (compareOp .Eq) (rEqE X.K false) := by
  intro pins s σ H x y v u Q I rx ry h
  obtain ⟨a, b, xs, ys, rfl, rfl, sa, sb, he, q⟩ := h
  obtain rfl : v = Value.ref a := rx
  obtain rfl : u = Value.ref b := ry
  obtain ⟨is, r1, p1, _⟩ := I.list sa
  obtain ⟨js, r2, p2, _⟩ := I.list sb
  have l1 := r1.length
  have l2 := r2.length
  show wpAny _ _ (richCompare .Eq (.ref a) (.ref b)) _ _ _
  by_cases hz : is.length = js.length
  · have z1 : xs = [] := by rcases he with z | z <;> subst z <;> first | rfl | (apply List.eq_nil_of_length_eq_zero; simp at l2; omega)
    have z2 : ys = [] := by apply List.eq_nil_of_length_eq_zero; subst z1; simp at l1; omega
    subst z1 z2
    have e1 : is = [] := List.eq_nil_of_length_eq_zero (by simpa using l1.symm)
    subst e1
    refine SeqAt.RcAt.lists (e := fun _ => true) (plainL_is p1) (plainL_is p2) (by simpa using hz) hu (fun j h1 _ => absurd h1 (by simp)) X.prog X.w X.xe _ ?_
    exact ⟨.bl true, H, I, rfl, q⟩
  · refine SeqAt.RcAt.lists_lengths (plainL_is p1) (plainL_is p2) (by simpa using hz) hu X.prog X.w X.xe _ ?_
    have e : (xs.isEmpty && ys.isEmpty) = false := by
      cases xs with
      | nil => cases ys with
        | nil => simp at l1 l2; omega
        | cons _ _ => rfl
      | cons _ _ => rfl
    rw [e] at q
    exact ⟨.bl false, H, I, rfl, q⟩
theorem op_neE {X : Cx} (hu : X.A.units < cLine) : OpR X (compareOp .NotEq) (rEqE X.K true) := by
  intro pins s σ H x y v u Q I rx ry h
  obtain ⟨a, b, xs, ys, rfl, rfl, sa, sb, he, q⟩ := h
  obtain rfl : v = Value.ref a := rx
  obtain rfl : u = Value.ref b := ry
  obtain ⟨is, r1, p1, _⟩ := I.list sa
  obtain ⟨js, r2, p2, _⟩ := I.list sb
  have l1 := r1.length
  have l2 := r2.length
  show wpAny _ _ (richCompare .NotEq (.ref a) (.ref b)) _ _ _
  by_cases hz : is.length = js.length
  · have z1 : xs = [] := by rcases he with z | z <;> subst z <;> first | rfl | (apply List.eq_nil_of_length_eq_zero; simp at l2; omega)
    have z2 : ys = [] := by apply List.eq_nil_of_length_eq_zero; subst z1; simp at l1; omega
    subst z1 z2
    have e1 : is = [] := List.eq_nil_of_length_eq_zero (by simpa using l1.symm)
    subst e1
    refine SeqAt.RcNeAt.lists (e := fun _ => true) (plainL_is p1) (plainL_is p2) (by simpa using hz) hu (fun j h1 _ => absurd h1 (by simp)) X.prog X.w X.xe _ ?_
    exact ⟨.bl false, H, I, rfl, q⟩
  · refine SeqAt.RcNeAt.lists_lengths (plainL_is p1) (plainL_is p2) (by simpa using hz) hu X.prog X.w X.xe _ ?_
    have e : (xs.isEmpty && ys.isEmpty) = false := by
      cases xs with
      | nil => cases ys with
        | nil => simp at l1 l2; omega
        | cons _ _ => rfl
      | cons _ _ => rfl
    rw [e] at q
    exact ⟨.bl true, H, I, rfl, q⟩
def rCmp (K : Frag) : COp → R2
  | .eq => fun x y H Q => (rEq x y H Q ∨ rEqD K x y H Q) ∨ rEqE K false x y H Q
  | .ne => fun x y H Q => (rNe x y H Q ∨ rNeD K x y H Q) ∨ rEqE K true x y H Q
  | .lt => rI0 fun i j => .bl (decide (i < j))
  | .le => rI0 fun i j => .bl (decide (i ≤ j))
  | .gt => rI0 fun i j => .bl (decide (j < i))
  | .ge => rI0 fun i j => .bl (decide (j ≤ i))
  | .isin => fun x y H Q => ((∃ (c : Nat) (z : Str), x = .str ⟨#[c]⟩ ∧ y = .str z ∧ Q (.bl (decide (c ∈ z.cps.toList))) H) ∨ rInD K x y H Q) ∨ rIn K false x y H Q
  | .notin => fun x y H Q => ((∃ (c : Nat) (z : Str), x = .str ⟨#[c]⟩ ∧ y = .str z ∧ Q (.bl (!decide (c ∈ z.cps.toList))) H) ∨ rNotInD K x y H Q) ∨ rIn K true x y H Q
theorem op_cmp {X : Cx} (hu : X.A.units + 65 < cLine) : ∀ op : COp, OpR X (compareOp op.op) (rCmp X.K op)
  | .eq => (op_eq.or (op_eqD (by omega))).or (op_eqE (by omega))
  | .ne => (op_ne.or (op_neD (by omega))).or (op_neE (by omega))
  | .lt => op_lt
  | .le => op_le
  | .gt => op_gt
  | .ge => op_ge
  | .isin => (op_in_sign.or (op_inD hu)).or op_in_seq
  | .notin => (op_notIn_sign.or (op_notInD hu)).or op_notIn_seq
theorem scal_of {K : Frag} {H : Hp} {x y : V} {d e : PyData} (a : Dp K H x d) (b : Dp K H y e) (h : scalP d e = true) : scal x y = true ∧ decide (x = y) = PyData.eqv d e := by
  cases a <;> cases b <;> first | exact (Bool.false_ne_true h).elim | (refine ⟨rfl, ?_⟩; first | exact dec_int | exact dec_bl | exact dec_str | (simp [PyData.eqv]))
theorem flat_of {K : Frag} {H : Hp} {x : V} {d : PyData} (a : Dp K H x d) (h : flatP d = true) : flatV x = true := by
  cases a <;> first | rfl | exact (Bool.false_ne_true h).elim
theorem eqV_of {K : Frag} {H : Hp} {x y : V} {d e : PyData} (a : Dp K H x d) (b : Dp K H y e) (h : flatP d = true) (h' : flatP e = true) : eqV x y = PyData.eqv d e := by
  cases a <;> cases b <;> first | exact (Bool.false_ne_true h).elim | exact (Bool.false_ne_true h').elim | (simp [PyData.eqv, eqV])
theorem flats_of {K : Frag} {H : Hp} {x : V} {d : PyData} (a : Dp K H x d) (hd : flatP d = true) : ∀ {xs : List V} {ds : List PyData}, DpAll K H xs ds → ds.all flatP = true → xs.all flatV = true ∧ inV x xs = ds.any fun z => PyData.eqv z d
  | _, _, .nil, _ => ⟨rfl, rfl⟩
  | _, _, .cons r t, h => by
    rw [List.all_cons, Bool.and_eq_true] at h
    obtain ⟨h1, h2⟩ := flats_of a hd t h.2
    refine ⟨by rw [List.all_cons, flat_of r h.1, h1]; rfl, ?_⟩
    unfold inV at h2 ⊢
    rw [List.any_cons, List.any_cons, h2, eqV_of r a h.1 hd]
theorem in_data {K : Frag} {H : Hp} {x y : V} {d e : PyData} {Q : VK} {neg : Bool} (a : Dp K H x d) (b : Dp K H y e) (h : inOk d e = true) (q : Q (.bl (neg != (itemsP e).any fun z => PyData.eqv z d)) H) :
    (neg = false → rInD K x y H Q ∨ rIn K false x y H Q) ∧ (neg = true → rNotInD K x y H Q ∨ rIn K true x y H Q) := by
  cases b with
  | lst s r =>
    have h' := Bool.and_eq_true_iff.mp h
    constructor
    · intro z; subst z
      exact .inl ⟨_, _, a, .lst s r, h'.1, h'.2, by simpa [itemsP] using q⟩
    · intro z; subst z
      exact .inl ⟨_, _, a, .lst s r, h'.1, h'.2, by simpa [itemsP] using q⟩
  | tup s r =>
    have h' := Bool.and_eq_true_iff.mp h
    obtain ⟨f1, f2⟩ := flats_of a h'.1 r h'.2
    constructor
    · intro z; subst z
      exact .inr ⟨_, _, rfl, .inr s, flat_of a h'.1, f1, by rw [f2]; simpa [itemsP] using q⟩
    · intro z; subst z
      exact .inr ⟨_, _, rfl, .inr s, flat_of a h'.1, f1, by rw [f2]; simpa [itemsP] using q⟩
  | non => exact (Bool.false_ne_true h).elim
  | bl b => exact (Bool.false_ne_true h).elim
  | int i => exact (Bool.false_ne_true h).elim
  | str s => exact (Bool.false_ne_true h).elim
theorem cmp_ok {K : Frag} {W : Wd} {H : Hp} {m : Store} {Qd : Bool → Prop} {Q : VK} {op : COp} {a b : Val} {x y : V} (ra : RV K W H a x) (rb : RV K W H b y) (h : HR K W m H) (hw : cmpW op a b m Qd) (k : ∀ c, Qd c → Q (.bl c) H) : rCmp K op x y H Q := by
  have eqn : ∀ (neg : Bool) (d e : PyData), pdm m a = some d → pdm m b = some e → eqOk d e = true → Q (.bl (neg != PyData.eqv d e)) H →
      (neg = false → rEq x y H Q ∨ rEqD K x y H Q) ∧ (neg = true → rNe x y H Q ∨ rNeD K x y H Q) := by
    intro neg d e h1 h2 h3 q
    have pa := pdm_dp h ra h1
    have pb := pdm_dp h rb h2
    rcases Bool.or_eq_true_iff.mp h3 with c | c
    · obtain ⟨c1, c2⟩ := scal_of pa pb c
      constructor
      · intro z; subst z
        exact .inl ⟨c1, by rw [c2]; simpa using q⟩
      · intro z; subst z
        exact .inl ⟨c1, by rw [c2]; simpa using q⟩
    · have c' := Bool.and_eq_true_iff.mp c
      constructor
      · intro z; subst z
        exact .inr ⟨d, e, pa, pb, c'.1, c'.2, by simpa using q⟩
      · intro z; subst z
        exact .inr ⟨d, e, pa, pb, c'.1, c'.2, by simpa using q⟩
  have inn : ∀ (neg : Bool), inW neg a b m Qd → 
      (neg = false → rCmp K .isin x y H Q) ∧ (neg = true → rCmp K .notin x y H Q) := by
    intro neg hw
    unfold inW at hw
    split at hw
    · skip
      rw [ra.str_inv, rb.str_inv]
      constructor
      · intro e; subst e
        exact .inl (.inl ⟨_, _, rfl, rfl, by simpa using k _ hw⟩)
      · intro e; subst e
        exact .inl (.inl ⟨_, _, rfl, rfl, by simpa using k _ hw⟩)
    · obtain ⟨d, e, h1, h2, h3, q⟩ := hw
      have pa := pdm_dp h ra h1
      have pb := pdm_dp h rb h2
      obtain ⟨i1, i2⟩ := in_data pa pb h3 (k _ q)
      exact ⟨fun z => (i1 z).elim (fun z => .inl (.inr z)) .inr, fun z => (i2 z).elim (fun z => .inl (.inr z)) .inr⟩
  cases op with
  | eq =>
    rcases hw with ⟨d, e, h1, h2, h3, q⟩ | ⟨i1, i2, us, vs, e1, e2, he, q⟩
    · exact .inl ((eqn false d e h1 h2 h3 (by simpa using k _ q)).1 rfl)
    · obtain ⟨p, xs, rfl, sp, rp⟩ := sq_atL h ra e1 i1
      obtain ⟨p', ys, rfl, sp', rp'⟩ := sq_atL h rb e2 i2
      refine .inr ⟨p, p', xs, ys, rfl, rfl, sp, sp', ?_, ?_⟩
      · rcases he with z | z
        · subst z; cases rp; exact .inl rfl
        · subst z; cases rp'; exact .inr rfl
      · have := k _ q
        cases rp <;> cases rp' <;> simpa using this
  | ne =>
    rcases hw with ⟨d, e, h1, h2, h3, q⟩ | ⟨i1, i2, us, vs, e1, e2, he, q⟩
    · exact .inl ((eqn true d e h1 h2 h3 (by simpa using k _ q)).2 rfl)
    · obtain ⟨p, xs, rfl, sp, rp⟩ := sq_atL h ra e1 i1
      obtain ⟨p', ys, rfl, sp', rp'⟩ := sq_atL h rb e2 i2
      refine .inr ⟨p, p', xs, ys, rfl, rfl, sp, sp', ?_, ?_⟩
      · rcases he with z | z
        · subst z; cases rp; exact .inl rfl
        · subst z; cases rp'; exact .inr rfl
      · have := k _ q
        cases rp <;> cases rp' <;> simpa using this
  | isin => exact (inn false hw).1 rfl
  | notin => exact (inn true hw).2 rfl
  | _ =>
    cases a <;> cases b <;> first | exact False.elim hw | (rw [ra.int_inv, rb.int_inv]; exact ⟨_, _, rfl, rfl, k _ hw⟩)
/-! ### truth -/
def tru (m : Store) : Val → Option Bool
  | .non => some false
  | .bool b => some b
  | .int i => some (i != 0)
  | .str s => if s.length ≤ sizeLine then some ((s.length : Int) != 0) else none
  | .tup vs => some (!vs.isEmpty)
  | .il _ vs => some (!vs.isEmpty)
  | .loc n => match m[n]? with | some (.list vs) => some (!vs.isEmpty) | _ => none
  | _ => none
theorem RVs.emp {K : Frag} {W : Wd} {H : Hp} {vs : List Val} {xs : List V} (r : RVs K W H vs xs) : (!vs.isEmpty) = !xs.isEmpty := by cases r <;> rfl
theorem tru_at {K : Frag} {W : Wd} {H : Hp} {m : Store} {v : Val} {x : V} {k : Bool} (r : RV K W H v x) (h : HR K W m H) (hw : tru m v = some k) : TruV K x H k := by
  cases r with
  | non => cases hw; rfl
  | bool b => cases hw; rfl
  | int i => cases hw; rfl
  | str s =>
    simp only [tru] at hw
    split at hw
    · cases hw
      exact ⟨by rw [SX.S_len]; assumption, by rw [SX.S_len]⟩
    · cases hw
  | tup s r => cases hw; exact .inr (.inl ⟨_, s, r.emp⟩)
  | il1 i q r => cases hw; exact .inl ⟨_, SqL.of q, r.emp⟩
  | il0 i q r => cases hw; exact .inl ⟨_, q, r.emp⟩
  | ilk q r => cases hw; exact .inl ⟨_, sqL_k q, r.emp⟩
  | loc q =>
    rename_i n a
    simp only [tru] at hw
    cases hm : m[n]? with
    | none => rw [hm] at hw; cases hw
    | some o =>
      cases o with
      | list vs =>
        rw [hm] at hw; cases hw
        obtain ⟨xs, q1, r1⟩ := loc_at h q hm
        exact .inl ⟨_, SqL.of q1, r1.emp⟩
      | inst c fs us => rw [hm] at hw; cases hw
  | err _ _ _ _ => cases hw
  | dic _ _ _ _ _ => cases hw
  | fn => cases hw
end Dy

/-! Dp, part D: built-in functions, methods, places, what is walked. -/
namespace Dy
open PySem PySem.Spec L2
variable [Kx]
/-- str of an int -/
def numT (i : Int) : Text := (Str.ofString (toString i)).cps.toList
theorem S_numT (i : Int) : SX.S (numT i) = Str.ofString (toString i) := SX.S_tl _
inductive Bi where
  | len | abs | int | str | tuple | list | all | any | max | min | repr
  deriving DecidableEq
def Bi.val : Bi → Value
  | .len => .builtin "len"
  | .abs => .builtin "abs"
  | .int => .type "int"
  | .str => .type "str"
  | .tuple => .type "tuple"
  | .list => .type "list"
  | .all => .builtin "all"
  | .any => .builtin "any"
  | .max => .builtin "max"
  | .min => .builtin "min"
  | .repr => .builtin "repr"
def Bi.name : Bi → Str
  | .len => "len"
  | .abs => "abs"
  | .int => "int"
  | .str => "str"
  | .tuple => "tuple"
  | .list => "list"
  | .all => "all"
  | .any => "any"
  | .max => "max"
  | .min => "min"
  | .repr => "repr"
def boolsOf : List Val → Option (List Bool)
  | [] => some []
  | .bool b :: r => (boolsOf r).map fun bs => b :: bs
  | _ :: _ => none
def reprOk (d : PyData) : Prop := d.showable = true ∧ d.depth ≤ 60 ∧ d.shown.length ≤ sizeLine
/-! data with dicts, for repr -/
mutual
def pr : Val → Option PyData
  | .non => some .none
  | .bool b => some (.bool b)
  | .int i => some (.int i)
  | .str s => some (.str (SX.S s))
  | .tup vs => (prs vs).map .tuple
  | .il _ vs => (prs vs).map .list
  | .dic ks vs => (prs vs).map fun ds => .dict ((ks.map fun t => PyData.str (SX.S t)).zip ds)
  | _ => none
def prs : List Val → Option (List PyData)
  | [] => some []
  | v :: vs => (pr v).bind fun d => (prs vs).map fun ds => d :: ds
end
def prm (m : Store) : Val → Option PyData
  | .loc n => match m[n]? with | some (.list vs) => (prs vs).map .list | _ => none
  | v => pr v
section
variable {K : Frag} {W W1 : Wd} {H H1 : Hp} {m : Store}
mutual
theorem pr_dr : ∀ {v : Val} {x : V} {d : PyData}, RV K W H v x → pr v = some d → DyR.Dr K H x d
  | _, _, _, .non, e => by cases e; exact .non
  | _, _, _, .bool b, e => by cases e; exact .bl b
  | _, _, _, .int i, e => by cases e; exact .int i
  | _, _, _, .str s, e => by cases e; exact .str _
  | _, _, _, .tup s r, e => by
    simp only [pr, Option.map_eq_some_iff] at e
    obtain ⟨ds, e1, e2⟩ := e
    subst e2
    exact .tup s (prs_dr r e1)
  | _, _, _, .il1 _ q r, e => by
    simp only [pr, Option.map_eq_some_iff] at e
    obtain ⟨ds, e1, e2⟩ := e
    subst e2
    exact .lst (SqL.of q) (prs_dr r e1)
  | _, _, _, .il0 _ q r, e => by
    simp only [pr, Option.map_eq_some_iff] at e
    obtain ⟨ds, e1, e2⟩ := e
    subst e2
    exact .lst q (prs_dr r e1)
  | _, _, _, .ilk q r, e => by
    simp only [pr, Option.map_eq_some_iff] at e
    obtain ⟨ds, e1, e2⟩ := e
    subst e2
    exact .lst (sqL_k q) (prs_dr r e1)
  | _, _, _, .dic _ _ l q r, e => by
    simp only [pr, Option.map_eq_some_iff] at e
    obtain ⟨ds, e1, e2⟩ := e
    subst e2
    exact .dic l q (prs_dr r e1)
  | _, _, _, .loc _, e => by cases e
  | _, _, _, .err _ _ _ _, e => by cases e
  | _, _, _, .fn, e => by cases e
theorem prs_dr : ∀ {vs : List Val} {xs : List V} {ds : List PyData}, RVs K W H vs xs → prs vs = some ds → DyR.Drs K H xs ds
  | _, _, _, .nil, e => by cases e; exact .nil
  | _, _, _, .cons r t, e => by
    simp only [prs, Option.bind_eq_some_iff, Option.map_eq_some_iff] at e
    obtain ⟨d, e1, ds, e2, e3⟩ := e
    subst e3
    exact .cons (pr_dr r e1) (prs_dr t e2)
end
theorem prm_dr (h : HR K W m H) {v : Val} {x : V} {d : PyData} (r : RV K W H v x) (e : prm m v = some d) : DyR.Dr K H x d := by
  cases r with
  | loc q =>
    rename_i n a
    simp only [prm] at e
    cases hm : m[n]? with
    | none => rw [hm] at e; cases e
    | some o =>
      cases o with
      | list vs =>
        rw [hm] at e
        simp only [Option.map_eq_some_iff] at e
        obtain ⟨ds, e1, e2⟩ := e
        subst e2
        obtain ⟨xs, q1, r1⟩ := loc_at h q hm
        exact .lst (SqL.of q1) (prs_dr r1 e1)
      | inst c fs us => rw [hm] at e; cases e
  | err _ _ _ _ => cases e
  | dic i n l q r => exact pr_dr (.dic i n l q r) e
  | fn => cases e
  | non => exact pr_dr (W := W) .non e
  | bool b => exact pr_dr (W := W) (.bool b) e
  | int i => exact pr_dr (W := W) (.int i) e
  | str s => exact pr_dr (W := W) (.str s) e
  | tup s r => exact pr_dr (.tup s r) e
  | il1 i q r => exact pr_dr (.il1 i q r) e
  | il0 i q r => exact pr_dr (.il0 i q r) e
  | ilk q r => exact pr_dr (.ilk q r) e
end
def biW : Bi → List Val → Store → (Val → Store → Prop) → Prop
  | .len, [.str s], m, Q => s.length ≤ sizeLine ∧ Q (.int s.length) m
  | .len, [v], m, Q => ∃ vs, sq m v = some vs ∧ Q (.int vs.length) m
  | .abs, [.int i], m, Q => Q (.int (if i < 0 then -i else i)) m
  | .int, [.int i], m, Q => Q (.int i) m
  | .int, [.bool b], m, Q => Q (.int (if b then 1 else 0)) m
  | .int, [.str s], m, Q => ∃ n, PySem.intText? (SX.S s) = some n ∧ s.length ≤ 640 ∧ Q (.int n) m
  | .str, [.int i], m, Q => i.natAbs.log2 < 1920 ∧ Q (.str (numT i)) m
  | .str, [.str s], m, Q => Q (.str s) m
  | .tuple, [v], m, Q => ∃ vs, sq m v = some vs ∧ Q (.tup vs) m
  | .list, [v], m, Q => ∃ vs, sq m v = some vs ∧ Q (.il true vs) m
  | .all, [v], m, Q => isL v = true ∧ ∃ vs bs, sq m v = some vs ∧ boolsOf vs = some bs ∧ Q (.bool (bs.all id)) m
  | .any, [v], m, Q => isL v = true ∧ ∃ vs bs, sq m v = some vs ∧ boolsOf vs = some bs ∧ Q (.bool (bs.any id)) m
  | .max, [.int i, .int j], m, Q => Q (.int (if j > i then j else i)) m
  | .min, [.int i, .int j], m, Q => Q (.int (if j < i then j else i)) m
  | .repr, [v], m, Q => ∃ d, prm m v = some d ∧ reprOk d ∧ Q (.str d.shown.cps.toList) m
  | _, _, _, _ => False
def rBi (K : Frag) : Bi → List V → Hp → VK → Prop
  | .len => fun xs H Q => ∃ x n, xs = [x] ∧ LenV K x H n ∧ Q (.int n) H
  | .abs => fun xs H Q => ∃ i, xs = [.int i] ∧ Q (.int (if i < 0 then -i else i)) H
  | .int => fun xs H Q => ((∃ i, xs = [.int i] ∧ Q (.int i) H) ∨ ∃ k, xs = [.bl k] ∧ Q (.int (if k then 1 else 0)) H) ∨ ∃ a n, xs = [.str a] ∧ PySem.intText? a = some n ∧ a.length ≤ 640 ∧ Q (.int n) H
  | .str => fun xs H Q => (∃ i, xs = [.int i] ∧ i.natAbs.log2 < 1920 ∧ Q (.str (toString i)) H) ∨ ∃ a, xs = [.str a] ∧ Q (.str a) H
  | .tuple => fun xs H Q => ∃ p ys, xs = [.ref p] ∧ ((SqL K H p ys ∧ ∀ l, H l = none → Q (.ref l) (upd H l (.tup ys))) ∨ (SqT K H p ys ∧ Q (.ref p) H))
  | .list => fun xs H Q => ∃ p ys, xs = [.ref p] ∧ (SqL K H p ys ∨ SqT K H p ys) ∧ ∀ l, H l = none → Q (.ref l) (upd H l (.lst ys))
  | .all => rAll K
  | .any => rAny K
  | .max => fun xs H Q => ∃ i j, xs = [.int i, .int j] ∧ Q (.int (if j > i then j else i)) H
  | .min => fun xs H Q => ∃ i j, xs = [.int i, .int j] ∧ Q (.int (if j < i then j else i)) H
  | .repr => fun xs H Q => ∃ x d, xs = [x] ∧ DyR.Dr K H x d ∧ reprOk d ∧ Q (.str d.shown) H
theorem call_reprD {X : Cx} (hg : X.A.guards = some []) (hu : X.A.units + 64 < cLine) : CallR X (.builtin "repr") (rBi X.K .repr) := by
  intro pins s σ H xs us Q I r ⟨x, d, e, hd, ⟨h1, h3, h4⟩, q⟩
  subst e
  obtain ⟨u, e, ru⟩ := vals1 r
  subst e
  have hr := DyR.Dr.rd I hd ru
  cases hd with
  | non => cases ru; exact PySem.P.repr_of_none ⟨.str _, _, I.tok _, ⟨_, rfl⟩, q⟩
  | bl b => cases ru; exact PySem.P.repr_of_bool ⟨.str _, _, I.tok _, ⟨_, rfl⟩, by cases b <;> exact q⟩
  | int i =>
    obtain ⟨t, rfl⟩ := ru
    exact PySem.P.repr_of_int (by simpa [PyData.showable] using h1) ⟨.str _, _, I.tok _, ⟨_, rfl⟩, q⟩
  | str z =>
    obtain ⟨t, rfl⟩ := ru
    exact PySem.P.repr_of_str ⟨.str _, _, I.tok _, ⟨_, rfl⟩, q⟩ h4
  | lst s' r' => cases ru; exact DyR.repr_of hr h1 h4 hg (by omega) (fun h' u tk hk => ⟨.str _, _, I.kept hk, ⟨_, rfl⟩, q⟩)
  | tup s' r' => cases ru; exact DyR.repr_of hr h1 h4 hg (by omega) (fun h' u tk hk => ⟨.str _, _, I.kept hk, ⟨_, rfl⟩, q⟩)
  | dic s' _ r' => cases ru; exact DyR.repr_of hr h1 h4 hg (by omega) (fun h' u tk hk => ⟨.str _, _, I.kept hk, ⟨_, rfl⟩, q⟩)
theorem call_bi {X : Cx} (hc : X.calm = true) (hg : X.A.guards = some []) (hu : X.A.units + 64 < cLine) : ∀ b : Bi, CallR X b.val (rBi X.K b)
  | .len => call_len
  | .abs => call_abs
  | .int => call_int1.or call_int_str
  | .str => call_str_int.or SkE.call_str_str
  | .tuple => call_tuple_of
  | .list => call_list_of
  | .all => cr_all hc
  | .any => cr_any hc
  | .max => call_max2 hc
  | .min => call_min2 hc
  | .repr => call_reprD hg hu
section
variable {K : Frag} {W : Wd} {H : Hp} {m : Store}
theorem bools_of : ∀ {vs : List Val} {xs : List V} {bs : List Bool}, RVs K W H vs xs → boolsOf vs = some bs → xs = bs.map V.bl
  | _, _, _, .nil, e => by cases e; rfl
  | _, _, _, .cons (v := v) r t, e => by
    cases v with
    | bool b =>
      simp only [boolsOf, Option.map_eq_some_iff] at e
      obtain ⟨bs, e1, e2⟩ := e
      subst e2
      rw [r.bool_inv, bools_of t e1]
      rfl
    | _ => cases e
theorem RVs.one_inv {v : Val} {xs : List V} (r : RVs K W H [v] xs) : ∃ x, xs = [x] ∧ RV K W H v x := by cases r with | cons a t => cases t; exact ⟨_, rfl, a⟩
theorem RVs.two_inv {v w : Val} {xs : List V} (r : RVs K W H [v, w] xs) : ∃ x y, xs = [x, y] ∧ RV K W H v x ∧ RV K W H w y := by cases r with | cons a t => cases t with | cons b t => cases t; exact ⟨_, _, rfl, a, b⟩
theorem bi_ok {Qd : Val → Store → Prop} {Q : VK} {b : Bi} {vs : List Val} {xs : List V} (r : RVs K W H vs xs) (h : HR K W m H) (hw : biW b vs m Qd) (k : Cont K W H Qd Q) : rBi K b xs H Q := by
  unfold biW at hw
  split at hw
  · obtain ⟨x, rfl, r0⟩ := r.one_inv
    rw [r0.str_inv]
    exact ⟨_, _, rfl, ⟨by rw [SX.S_len]; exact hw.1, rfl⟩, by rw [SX.S_len]; exact k.here h (.int _) hw.2⟩
  · obtain ⟨us, e, q⟩ := hw
    obtain ⟨x, rfl, r0⟩ := r.one_inv
    obtain ⟨a, ys, rfl, sl, r1⟩ := sq_at h r0 e
    refine ⟨_, us.length, rfl, ?_, k.here h (.int _) q⟩
    rcases sl with sl | sl
    · exact .inl ⟨_, sl, r1.length⟩
    · exact .inr ⟨_, sl, r1.length⟩
  · obtain ⟨x, rfl, r0⟩ := r.one_inv
    rw [r0.int_inv]
    exact ⟨_, rfl, k.here h (.int _) hw⟩
  · obtain ⟨x, rfl, r0⟩ := r.one_inv
    rw [r0.int_inv]
    exact .inl (.inl ⟨_, rfl, k.here h (.int _) hw⟩)
  · obtain ⟨x, rfl, r0⟩ := r.one_inv
    rw [r0.bool_inv]
    exact .inl (.inr ⟨_, rfl, k.here h (.int _) hw⟩)
  · obtain ⟨n, h1, h2, q⟩ := hw
    obtain ⟨x, rfl, r0⟩ := r.one_inv
    rw [r0.str_inv]
    exact .inr ⟨_, n, rfl, h1, by rw [SX.S_len]; exact h2, k.here h (.int _) q⟩
  · obtain ⟨x, rfl, r0⟩ := r.one_inv
    rw [r0.int_inv]
    exact .inl ⟨_, rfl, hw.1, by rw [← S_numT]; exact k.here h (.str _) hw.2⟩
  · obtain ⟨x, rfl, r0⟩ := r.one_inv
    rw [r0.str_inv]
    exact .inr ⟨_, rfl, k.here h (.str _) hw⟩
  · obtain ⟨us, e, q⟩ := hw
    obtain ⟨x, rfl, r0⟩ := r.one_inv
    obtain ⟨a, ys, rfl, sl, r1⟩ := sq_at h r0 e
    refine ⟨_, ys, rfl, ?_⟩
    rcases sl with sl | sl
    · exact .inl ⟨sl, fun l hl => k.tup h r1 q hl⟩
    · exact .inr ⟨sl, k.here h (.tup sl r1) q⟩
  · obtain ⟨us, e, q⟩ := hw
    obtain ⟨x, rfl, r0⟩ := r.one_inv
    obtain ⟨a, ys, rfl, sl, r1⟩ := sq_at h r0 e
    exact ⟨_, _, rfl, sl, fun l hl => k.il h r1 q hl⟩
  · obtain ⟨hl, us, bs, e, e2, q⟩ := hw
    obtain ⟨x, rfl, r0⟩ := r.one_inv
    obtain ⟨a, ys, rfl, sl, r1⟩ := sq_atL h r0 e hl
    exact ⟨_, bs, rfl, by rw [← bools_of r1 e2]; exact sl, k.here h (.bool _) q⟩
  · obtain ⟨hl, us, bs, e, e2, q⟩ := hw
    obtain ⟨x, rfl, r0⟩ := r.one_inv
    obtain ⟨a, ys, rfl, sl, r1⟩ := sq_atL h r0 e hl
    exact ⟨_, bs, rfl, by rw [← bools_of r1 e2]; exact sl, k.here h (.bool _) q⟩
  · obtain ⟨x, y, rfl, r0, r2⟩ := r.two_inv
    rw [r0.int_inv, r2.int_inv]
    exact ⟨_, _, rfl, k.here h (.int _) hw⟩
  · obtain ⟨x, y, rfl, r0, r2⟩ := r.two_inv
    rw [r0.int_inv, r2.int_inv]
    exact ⟨_, _, rfl, k.here h (.int _) hw⟩
  · obtain ⟨d, e, ok, q⟩ := hw
    obtain ⟨x, rfl, r0⟩ := r.one_inv
    exact ⟨_, d, rfl, prm_dr h r0 e, ok, by rw [← SX.S_tl d.shown]; exact k.here h (.str _) q⟩
  · exact hw.elim
end
/-! ### isinstance -/
inductive Ty where
  | int | bool | str | tuple | list | dict | verr
  deriving DecidableEq
def Ty.name : Ty → String
  | .int => "int"
  | .bool => "bool"
  | .str => "str"
  | .tuple => "tuple"
  | .list => "list"
  | .dict => "dict"
  | .verr => "ValueError"
/-- the kinds of values -/
inductive Kd where
  | non | bool | int | str | tuple | list | dict | own (c : Nat)
def Kd.name : Kd → String
  | .non => "NoneType"
  | .bool => "bool"
  | .int => "int"
  | .str => "str"
  | .tuple => "tuple"
  | .list => "list"
  | .dict => "dict"
  | .own _ => ""
def Kd.isOwn : Kd → Bool
  | .own _ => true
  | _ => false
def kd (m : Store) : Val → Option Kd
  | .non => some .non
  | .bool _ => some .bool
  | .int _ => some .int
  | .str _ => some .str
  | .tup _ => some .tuple
  | .il _ _ => some .list
  | .loc n => match m[n]? with | some (.list _) => some .list | some (.inst c _ _) => some (.own c) | _ => none
  | .err c _ => some (.own c)
  | .dic _ _ => some .dict
  | .fn _ => none
def isK : Ty → Kd → Bool
  | .int, .int => true
  | .int, .bool => true
  | .bool, .bool => true
  | .str, .str => true
  | .tuple, .tuple => true
  | .list, .list => true
  | .dict, .dict => true
  | .verr, .own c => decide (c < 100)
  | _, _ => false
/-- which own class is of which -/
def subN (c k : Nat) : Bool := (c == k) || ((k == 0) && decide (c < 100))
/-- an own class, of a kind -/
def isO (k : Nat) : Kd → Bool
  | .own c => subN c k
  | _ => false
theorem kit_tab (t : Ty) (k : Kd) (h : k.isOwn = false) : kitB k.name t.name = some (isK t k) := by
  cases t <;> cases k <;> first | decide +kernel | exact Bool.noConfusion h
def Kd.val : Kd → Value
  | .own c => .ref (cl c)
  | k => .type k.name
/-- what the written part says of the own classes -/
structure CF (K : Frag) : Prop where
  exc : ∀ c, Kx.ok c = true → c < 100 → ExcC K (cl c) ∧ PySem.W.findIn K (.ref (cl c)) "value" = some none
  own : ∀ c, Kx.ok c = true → ¬ c < 100 → L2.Cls K (cl c) ∧ PySem.W.findIn K (.ref (cl c)) "__class__" = some (some (.builtin "object.__class__")) ∧ PySem.W.specialIn K (.builtin "object.__class__") "__get__" = some (some (.builtin "getset_descriptor.__get__")) ∧
    PySem.W.takesIn K (.builtin "object.__class__") = some true ∧ PySem.W.mroIn K (cl c) (.type "object") = some true
  kitT : ∀ c (t : Ty), Kx.ok c = true → PySem.W.kitOne K (.ref (cl c)) (.type t.name) = some (isK t (.own c))
  kitO : ∀ c k, Kx.ok c = true → Kx.ok k = true → PySem.W.kitOne K (.ref (cl c)) (.ref (cl k)) = some (subN c k)
  kitB : ∀ (kd : Kd) k, kd.isOwn = false → Kx.ok k = true → PySem.W.kitOne K (.type kd.name) (.ref (cl k)) = some false
  exm : ∀ c k, okE c → okE k → PySem.W.exmOne K (.ref (cl c)) (.ref (cl k)) = some (subN c k)
/-- isinstance of all that there is -/
def rIs (K : Frag) : List V → Hp → VK → Prop := fun xs H Q => rIsi K xs H Q ∨ rIsErr K xs H Q
theorem call_is {X : Cx} : CallR X (.builtin "isinstance") (rIs X.K) := call_isi.or call_isErr
theorem is_ok {K : Frag} {W : Wd} {H : Hp} {m : Store} {v : Val} {x cv : V} {u : Value} {k : Kd} {b : Bool} {Q : VK} (f : CF K) (h : HR K W m H) (r : RV K W H v x) (e : kd m v = some k) (hc : ClsV cv u) (hk : (∀ c, k = .own c → Kx.ok c = true) → PySem.W.kitOne K k.val u = some b) (q : Q (.bl b) H) : rIs K [x, cv] H Q := by
  have base : ∀ {t : String}, k.val = .type t → k.isOwn = false → TyX K H x (.type t) → rIs K [x, cv] H Q := fun {t} e1 e2 ty => .inl ⟨x, cv, _, u, b, rfl, hc, ty, by rw [← e1]; exact hk (fun c z => by subst z; cases e2), q⟩
  cases r with
  | non => cases e; exact base rfl rfl (.base .non)
  | bool y => cases e; exact base rfl rfl (.base (.bl y))
  | int i => cases e; exact base rfl rfl (.base (.int i))
  | str s => cases e; exact base rfl rfl (.base (.str _))
  | tup s r =>
    cases e
    rcases s with (s | ⟨o, s⟩) | ⟨o, its, n, s, c, _⟩
    · exact base rfl rfl (.base (.tup s))
    · exact base rfl rfl (.fTuple s)
    · exact base rfl rfl (.kTuple s c)
  | il1 i q r => cases e; exact base rfl rfl (.base (.lst q))
  | il0 i s r =>
    cases e
    rcases s with (s | ⟨o, s⟩) | ⟨o, its, n, s, c, _⟩
    · exact base rfl rfl (.base (.lst s))
    · exact base rfl rfl (.base (.frz s))
    · exact base rfl rfl (.kList s c)
  | ilk s r =>
    cases e
    rcases s with (s | ⟨o, s⟩) | ⟨o, its, n, s, c, _⟩
    · cases s
    · cases s
    · exact base rfl rfl (.kList s c)
  | dic i n l q r => cases e; exact base rfl rfl (.base (.dK q))
  | fn => cases e
  | err ho q1 q2 r =>
    cases e
    rename_i c v x a d
    exact .inr ⟨a, _, d, _, cv, u, b, rfl, hc, q1, q2, (f.exc c ho.1 ho.2).1, hk fun c z => by cases z; exact ho.1, q⟩
  | loc q0 =>
    rename_i n a
    simp only [kd] at e
    cases hm : m[n]? with
    | none => rw [hm] at e; cases e
    | some o =>
      cases o with
      | list vs =>
        rw [hm] at e; cases e
        obtain ⟨xs, q1, r1⟩ := loc_at h q0 hm
        exact base rfl rfl (.base (.lst q1))
      | inst c fs us =>
        rw [hm] at e; cases e
        obtain ⟨b', e1, dx, xs, q1, ho, _⟩ := h.obj n _ hm
        rw [q0] at e1; cases e1
        obtain ⟨c1, c2, c3, c4, c5⟩ := f.own c ho.1 ho.2
        exact .inl ⟨_, cv, _, u, b, rfl, hc, .base (.ins q1 c1 c2 c3 c4 c5), hk fun c z => by cases z; exact ho.1, q⟩
/-! ### methods -/
inductive Mt where
  | append | split | join
  deriving DecidableEq
def mtW : Mt → Val → List Val → Store → (Val → Store → Prop) → Prop
  | .append, .loc n, [v], m, Q => ∃ vs, m[n]? = some (.list vs) ∧ vs.length < sizeLine ∧ Q .non (m.set n (.list (vs ++ [v])))
  | .split, .str a, [.str b], m, Q => (b ≠ [] ∧ b.all (· < 256) = true ∧ a.length + 2 ≤ sizeLine) ∧ Q (.il true ((TL.spl b 0 [] a).map .str)) m
  | .join, .str a, [v], m, Q => ∃ vs ts, sq m v = some vs ∧ vs = ts.map .str ∧ (ts.map (·.length)).sum + ts.length * a.length ≤ 16777216 ∧ Q (.str (TL.joinL a ts)) m
  | _, _, _, _, _ => False
/-- the receiver's kind -/
def mtT (m : Store) : Mt → Val → Prop
  | .append, .loc n => ∃ vs, m[n]? = some (.list vs)
  | .split, .str _ => True
  | .join, .str _ => True
  | _, _ => False
def Mt.ty : Mt → String
  | .append => "list"
  | _ => "str"
def Mt.name : Mt → Str
  | .append => "append"
  | .split => "split"
  | .join => "join"
def Mt.id : Mt → String
  | .append => "list.append"
  | .split => "str.split"
  | .join => "str.join"
def rMt (K : Frag) : Mt → V → List V → Hp → VK → Prop
  | .append => rAppend
  | .split => fun x xs H Q => ∃ a b, x = .str a ∧ xs = [.str b] ∧ (b.length == 0) = false ∧ a.length + 2 ≤ sizeLine ∧ rNewStrs (Txt.split a b) H Q
  | .join => fun x xs H Q => ∃ a p, ∃ ys : List Str, x = .str a ∧ xs = [.ref p] ∧ (SqL K H p (ys.map V.str) ∨ SqT K H p (ys.map V.str)) ∧ (ys.map (·.length)).sum + ys.length * a.length ≤ 16777216 ∧ Q (.str (Txt.join a ys)) H
theorem mt_all {X : Cx} : ∀ t : Mt, MtR X t.id (rMt X.K t)
  | .append => mt_append
  | .split => mt_split
  | .join => mt_join
section
variable {K : Frag} {W : Wd} {H : Hp} {m : Store}
theorem mtT_ok {t : Mt} {v : Val} {x : V} (r : RV K W H v x) (h : HR K W m H) (hw : mtT m t v) : tyV K t.ty x H := by
  cases t <;> cases v <;> first | exact hw.elim | skip
  · cases r with
    | loc q =>
      obtain ⟨vs, e⟩ := hw
      obtain ⟨xs, q1, _⟩ := loc_at h q e
      exact .inl ⟨rfl, xs, SqL.of q1⟩
  · rw [r.str_inv]; rfl
  · rw [r.str_inv]; rfl
theorem RVs.strs : ∀ (ts : List Text), RVs K W H (ts.map .str) (ts.map fun t => V.str (SX.S t))
  | [] => .nil
  | t :: r => .cons (.str t) (RVs.strs r)
theorem strs_inv : ∀ {ts : List Text} {xs : List V}, RVs K W H (ts.map .str) xs → xs = (ts.map SX.S).map V.str
  | [], _, .nil => rfl
  | t :: r, _, .cons a b => by rw [a.str_inv, strs_inv b]; rfl
theorem mt_ok {Qd : Val → Store → Prop} {Q : VK} {t : Mt} {v : Val} {x : V} {vs : List Val} {xs : List V} (rv : RV K W H v x) (r : RVs K W H vs xs) (h : HR K W m H) (hw : mtW t v vs m Qd) (k : Cont K W H Qd Q) : rMt K t x xs H Q := by
  unfold mtW at hw
  split at hw
  · obtain ⟨us, e, hl, q⟩ := hw
    obtain ⟨y, rfl, r0⟩ := r.one_inv
    cases rv with
    | loc q0 =>
      obtain ⟨ys, q1, r1⟩ := loc_at h q0 e
      obtain ⟨ex, h1⟩ := set_loc h e q0 (r1.append (.cons r0 .nil))
      exact ⟨_, ys, y, rfl, rfl, q1, by rw [← r1.length]; exact hl, k _ _ _ _ _ ex .non h1 q⟩
  · obtain ⟨⟨h1, h2, h3⟩, q⟩ := hw
    obtain ⟨y, rfl, r0⟩ := r.one_inv
    rw [rv.str_inv, r0.str_inv]
    refine ⟨_, _, rfl, rfl, ?_, by rw [SX.S_len]; exact h3, fun p hp => ?_⟩
    · rw [SX.S_len]
      simpa using h1
    · rw [SX.split_S h1 h2, List.map_map]
      exact k.il h (RVs.strs _) q hp
  · obtain ⟨us, ts, e, e2, hl, q⟩ := hw
    obtain ⟨y, rfl, r0⟩ := r.one_inv
    rw [rv.str_inv]
    subst e2
    obtain ⟨a, ys, rfl, sl, r1⟩ := sq_at h r0 e
    rw [strs_inv r1] at sl
    refine ⟨_, a, ts.map SX.S, rfl, rfl, sl, ?_, ?_⟩
    · rw [SX.lens, List.length_map, SX.S_len]; exact hl
    · rw [SX.join_S]; exact k.here h (.str _) q
  · exact hw.elim
end
end Dy

set_option maxHeartbeats 1000000
/-! Dp, part Z: zip of a list or tuple with a list or tuple. -/
namespace DyZ
open PySem PySem.Spec PyProof.Rows L2
open PySem.Sem (wp)
/-- k: a tuple (else a list) -/
def SIt (k : Bool) (h : Heap) (it l : Addr) (i : Nat) : Prop := match k with | true => h.IsTupleIter it l i | false => h.IsListIter it l i
def SSq (k : Bool) (h : Heap) (l : Addr) (xs : Array Value) : Prop := match k with | true => h.IsTuple l xs | false => h.IsList l xs
def icl : Bool → String | true => "tuple_iterator" | false => "list_iterator"
theorem SIt.out {k : Bool} {h : Heap} {a l : Addr} {i : Nat} (x : SIt k h a l i) : ∃ o, h.get? a = some o ∧ o.data = .fields #[.ref l, .int i 0] := by
  cases k <;> (obtain ⟨o, h1, _, h2⟩ := x; exact ⟨o, h1, h2⟩)
theorem SIt.ext {k : Bool} {h h' : Heap} {a b l : Addr} {i : Nat} (x : SIt k h a l i) (e : Heap.ExtBut b h h') (n : a ≠ b) : SIt k h' a l i := by
  cases k
  · exact Heap.IsListIter.extBut x e n
  · exact Heap.IsTupleIter.extBut x e n
theorem SIt.see {k : Bool} {h h' : Heap} {a l : Addr} {i : Nat} (x : SIt k h a l i) (e : ∀ o, h.get? a = some o → h'.get? a = some o) : SIt k h' a l i := by
  cases k
  · exact Heap.IsListIter.at x e
  · exact Heap.IsTupleIter.at x e
theorem SSq.ext {k : Bool} {h h' : Heap} {a b : Addr} {xs : Array Value} (x : SSq k h a xs) (e : Heap.ExtBut b h h') (n : a ≠ b) : SSq k h' a xs := by
  cases k
  · exact Heap.IsList.extBut x e n
  · exact Heap.IsTuple.extBut x e n
section
variable {prog : Program} {w : World} {A : Around} {E : Value → Shared → Prop} {s : Shared} {k1 k2 : Bool}
theorem nxt_item {k : Bool} {it l : Addr} {i : Nat} {xs : Array Value} {x : Value} {Q : Value → Shared → Prop} (ht : SIt k s.heap it l i) (hl : SSq k s.heap l xs) (hx : xs[i]? = some x)
    (q : ∀ h', SIt k h' it l (i + 1) → Heap.SameBut it s.heap h' → Q x { s with heap := h' }) : wpAny (model prog w) A (Builtin.SmallTypes.nextOf (.ref it)) Q E s := by
  cases k
  · exact wpAny_nextOf_list_item ht hl hx q
  · exact RZ.nextOf_tuple_item ht hl hx q
theorem nxt_end {k : Bool} {it l : Addr} {i : Nat} {xs : Array Value} {Q : Value → Shared → Prop} (hh : A.handled = none) (ht : SIt k s.heap it l i) (hl : SSq k s.heap l xs) (hx : xs[i]? = none)
    (q : ∀ h' e, Heap.ExtBut it s.heap h' → (∃ o, h'.get? e = some o ∧ o.cls = .type "StopIteration") → E (.ref e) { s with heap := h' }) : wpAny (model prog w) A (Builtin.SmallTypes.nextOf (.ref it)) Q E s := by
  cases k
  · exact wpAny_nextOf_list_end hh ht hl hx q
  · exact RZ.nextOf_tuple_end hh ht hl hx q
theorem zm_item {z TI TO i1 i2 l1 l2 : Addr} {n1 n2 : Nat} {xs ys : Array Value} {x y a b : Value} {Q : Value → Shared → Prop} (D : ZipApart z TI TO i1 i2 l1 l2)
    (gz : IsZip s.heap z TI TO .none) (gI : IsPair s.heap TI (.ref i1) (.ref i2)) (gO : IsPair s.heap TO a b)
    (g1 : SIt k1 s.heap i1 l1 n1) (g2 : SIt k2 s.heap i2 l2 n2) (m1 : SSq k1 s.heap l1 xs) (m2 : SSq k2 s.heap l2 ys) (hx : xs[n1]? = some x) (hy : ys[n2]? = some y)
    (q : ∀ h', IsZip h' z TI TO (rawInt s.heap.objs.size) → IsPair h' TO x y → SIt k1 h' i1 l1 (n1 + 1) → SIt k2 h' i2 l2 (n2 + 1) → IsPair h' s.heap.objs.size x y → h'.objs.size = s.heap.objs.size + 1 →
      (∀ c o, c ≠ z → c ≠ TO → c ≠ i1 → c ≠ i2 → s.heap.get? c = some o → h'.get? c = some o) → Q (.ref s.heap.objs.size) { s with heap := h' }) :
    wpAny (model prog w) A (Builtin.«zip.__next__» ⟨[.ref z], []⟩) (fun fin s' => ∃ v, fin = .done (.ret v) ∧ Q v s') E s := by
  show wpAny _ _ (field (.ref z) 2 >>= _) _ _ _; refine wpAny_bind (wpAny_field gz rfl (x := .bool false) rfl ?_)
  show wpAny _ _ (field (.ref z) 3 >>= _) _ _ _; refine wpAny_bind (wpAny_field gz rfl (x := .ref TI) rfl ?_)
  refine wpAny_bind (wpAny_seqItems gI rfl ?_); refine wpAny_bind ?_
  unfold Builtin.SmallTypes.ownedTupleIsFree; refine wpAny_bind (wpAny_field gz rfl (x := .none) rfl (wpAny_pure ?_))
  simp only [if_true]; refine wpAny_bind (wpAny_rule ?_)
  refine wpAny_bind (wpAny_field gz rfl (x := .ref TO) rfl ?_); refine wpAny_bind (wpAny_setField_rec gz (by simp) fun a1 gz1 c1 => ?_)
  replace gz1 : IsZip a1 z TI TO .ellipsis := gz1
  refine wpAny_bind ?_; simp only [List.zipIdx_cons, List.zipIdx_nil, List.forIn_cons, List.forIn_nil]
  refine wpAny_bind (wpAny_bind (wpAny_onRaise ?_)); refine wpAny_bind (nxt_item (g1.ext c1.extBut D.i1z) (m1.ext c1.extBut D.l1z) hx fun a2 g1b c2 => wpAny_pure ?_)
  have gO2 : IsPair a2 TO a b := c2.extBut _ _ D.TOi1 (c1.extBut _ _ D.TOz gO)
  refine wpAny_bind (wpAny_seqItems gO2 rfl ?_); refine wpAny_bind (wpAny_updateSeq_pair gO2 fun a3 gO3 c3 => ?_)
  replace gO3 : IsPair a3 TO x b := gO3
  refine wpAny_bind (wpAny_letGo (wpAny_pure ?_)); refine wpAny_bind (wpAny_bind (wpAny_onRaise ?_))
  refine wpAny_bind (nxt_item (((g2.ext c1.extBut D.i2z).ext c2.extBut D.i12.symm).ext c3.extBut D.TOi2.symm) (((m2.ext c1.extBut D.l2z).ext c2.extBut D.l2i1).ext c3.extBut D.l2TO) hy fun a4 g2b c4 => wpAny_pure ?_)
  have gO4 : IsPair a4 TO x b := c4.extBut _ _ D.TOi2 gO3
  refine wpAny_bind (wpAny_seqItems gO4 rfl ?_); refine wpAny_bind (wpAny_updateSeq_pair gO4 fun a5 gO5 c5 => ?_)
  replace gO5 : IsPair a5 TO x y := gO5
  refine wpAny_bind (wpAny_letGo (wpAny_pure (wpAny_pure ?_))); refine wpAny_bind (wpAny_seqItems gO5 rfl ?_); refine wpAny_bind (wpAny_newTuple ?_)
  have ez : a5.objs.size = s.heap.objs.size := by rw [c5.1, c4.1, c3.1, c2.1, c1.1]
  have gz5 : IsZip a5 z TI TO .ellipsis := c5.extBut _ _ D.TOz.symm (c4.extBut _ _ D.i2z.symm (c3.extBut _ _ D.TOz.symm (c2.extBut _ _ D.i1z.symm gz1)))
  have kp : ∀ c o, c ≠ z → c ≠ TO → c ≠ i1 → c ≠ i2 → s.heap.get? c = some o → a5.get? c = some o := fun c o p1 p2 p3 p4 e =>
    c5.extBut _ _ p2 (c4.extBut _ _ p4 (c3.extBut _ _ p2 (c2.extBut _ _ p3 (c1.extBut _ _ p1 e))))
  have g15 : SIt k1 a5 i1 l1 (n1 + 1) := ((g1b.ext c3.extBut D.TOi1.symm).ext c4.extBut D.i12).ext c5.extBut D.TOi1.symm
  have g25 : SIt k2 a5 i2 l2 (n2 + 1) := g2b.ext c5.extBut D.TOi2.symm
  have lz : z < a5.objs.size := Heap.lt_size gz5
  refine wpAny_bind ?_
  unfold Builtin.SmallTypes.ownedTupleHandOut
  have gz6 : IsZip (a5.push { cls := .type "tuple", data := .seq #[x, y] }) z TI TO .ellipsis := Heap.get?_push_of_some _ gz5
  refine wpAny_bind (wpAny_setField_rec gz6 (by simp) fun a7 gz7 c7 => ?_)
  replace gz7 : IsZip a7 z TI TO (rawInt a5.objs.size) := gz7
  refine wpAny_setField_rec gz7 (by simp) fun a8 gz8 c8 => ?_
  replace gz8 : IsZip a8 z TI TO (rawInt a5.objs.size) := gz8
  have up : ∀ c o, c ≠ z → a5.get? c = some o → a8.get? c = some o := fun c o p1 e => c8.extBut _ _ p1 (c7.extBut _ _ p1 (Heap.get?_push_of_some _ e))
  have gT : IsPair a8 a5.objs.size x y := c8.extBut _ _ (Nat.ne_of_gt lz) (c7.extBut _ _ (Nat.ne_of_gt lz) (Heap.get?_push_size _ rfl))
  have e8 : a8.objs.size = a5.objs.size + 1 := by rw [c8.1, c7.1, Heap.size_push]
  rw [ez] at gz8 gT e8
  refine wpAny_pure ⟨_, rfl, ?_⟩; show Q (.ref a5.objs.size) _; rw [ez]
  exact q a8 gz8 (up _ _ D.TOz gO5) (g15.see fun o e => up _ o D.i1z e) (g25.see fun o e => up _ o D.i2z e) gT e8 fun c o p1 p2 p3 p4 e => up c o p1 (kp c o p1 p2 p3 p4 e)
theorem zm_end {z TI TO i1 i2 l1 l2 : Addr} {n1 n2 : Nat} {xs ys : Array Value} {a b : Value} {Q : Fin → Shared → Prop} (hh : A.handled = none) (D : ZipApart z TI TO i1 i2 l1 l2)
    (gz : IsZip s.heap z TI TO .none) (gI : IsPair s.heap TI (.ref i1) (.ref i2)) (gO : IsPair s.heap TO a b)
    (g1 : SIt k1 s.heap i1 l1 n1) (g2 : SIt k2 s.heap i2 l2 n2) (m1 : SSq k1 s.heap l1 xs) (m2 : SSq k2 s.heap l2 ys) (he : xs[n1]? = none ∨ ys[n2]? = none)
    (q : ∀ h' e, (∀ c o, c ≠ z → c ≠ TO → c ≠ i1 → c ≠ i2 → s.heap.get? c = some o → h'.get? c = some o) → (∃ o, h'.get? e = some o ∧ o.cls = .type "StopIteration") → E (.ref e) { s with heap := h' }) :
    wpAny (model prog w) A (Builtin.«zip.__next__» ⟨[.ref z], []⟩) Q E s := by
  show wpAny _ _ (field (.ref z) 2 >>= _) _ _ _; refine wpAny_bind (wpAny_field gz rfl (x := .bool false) rfl ?_)
  show wpAny _ _ (field (.ref z) 3 >>= _) _ _ _; refine wpAny_bind (wpAny_field gz rfl (x := .ref TI) rfl ?_)
  refine wpAny_bind (wpAny_seqItems gI rfl ?_); refine wpAny_bind ?_
  unfold Builtin.SmallTypes.ownedTupleIsFree; refine wpAny_bind (wpAny_field gz rfl (x := .none) rfl (wpAny_pure ?_))
  simp only [if_true]; refine wpAny_bind (wpAny_rule ?_)
  refine wpAny_bind (wpAny_field gz rfl (x := .ref TO) rfl ?_); refine wpAny_bind (wpAny_setField_rec gz (by simp) fun a1 gz1 c1 => ?_)
  replace gz1 : IsZip a1 z TI TO .ellipsis := gz1
  refine wpAny_bind ?_; simp only [List.zipIdx_cons, List.zipIdx_nil, List.forIn_cons, List.forIn_nil]
  refine wpAny_bind (wpAny_bind (wpAny_onRaise ?_))
  cases hx : xs[n1]? with
  | none =>
    refine wpAny_bind (nxt_end hh (g1.ext c1.extBut D.i1z) (m1.ext c1.extBut D.l1z) hx fun a2 e c2 ⟨oe, h1, h2⟩ => ?_)
    have gz2 : IsZip a2 z TI TO .ellipsis := c2 _ _ D.i1z.symm gz1
    have ne : e ≠ z := fun x => by subst x; rw [gz2] at h1; cases h1; simp at h2
    exact wpAny_setField_rec gz2 (by simp) fun a3 _ c3 => q a3 e (fun c o p1 _ p3 _ x => c3.extBut _ _ p1 (c2 _ _ p3 (c1.extBut _ _ p1 x))) ⟨oe, c3.extBut _ _ ne h1, h2⟩
  | some x =>
    have hy : ys[n2]? = none := he.elim (fun h => by rw [hx] at h; cases h) id
    refine wpAny_bind (nxt_item (g1.ext c1.extBut D.i1z) (m1.ext c1.extBut D.l1z) hx fun a2 g1b c2 => wpAny_pure ?_)
    have gO2 : IsPair a2 TO a b := c2.extBut _ _ D.TOi1 (c1.extBut _ _ D.TOz gO)
    refine wpAny_bind (wpAny_seqItems gO2 rfl ?_); refine wpAny_bind (wpAny_updateSeq_pair gO2 fun a3 gO3 c3 => ?_)
    refine wpAny_bind (wpAny_letGo (wpAny_pure ?_)); refine wpAny_bind (wpAny_bind (wpAny_onRaise ?_))
    refine wpAny_bind (nxt_end hh (((g2.ext c1.extBut D.i2z).ext c2.extBut D.i12.symm).ext c3.extBut D.TOi2.symm) (((m2.ext c1.extBut D.l2z).ext c2.extBut D.l2i1).ext c3.extBut D.l2TO) hy fun a4 e c4 ⟨oe, h1, h2⟩ => ?_)
    have gz4 : IsZip a4 z TI TO .ellipsis := c4 _ _ D.i2z.symm (c3.extBut _ _ D.TOz.symm (c2.extBut _ _ D.i1z.symm gz1))
    have ne : e ≠ z := fun x => by subst x; rw [gz4] at h1; cases h1; simp at h2
    exact wpAny_setField_rec gz4 (by simp) fun a5 _ c5 => q a5 e (fun c o p1 p2 p3 p4 x => c5.extBut _ _ p1 (c4 _ _ p4 (c3.extBut _ _ p2 (c2.extBut _ _ p3 (c1.extBut _ _ p1 x))))) ⟨oe, c5.extBut _ _ ne h1, h2⟩
theorem zm_pyItem {z TI TO i1 i2 l1 l2 : Addr} {n1 n2 : Nat} {xs ys : Array Value} {x y a b : Value} {Q : Option Value → Shared → Prop} (D : ZipApart z TI TO i1 i2 l1 l2)
    (gz : IsZip s.heap z TI TO .none) (gI : IsPair s.heap TI (.ref i1) (.ref i2)) (gO : IsPair s.heap TO a b)
    (g1 : SIt k1 s.heap i1 l1 n1) (g2 : SIt k2 s.heap i2 l2 n2) (m1 : SSq k1 s.heap l1 xs) (m2 : SSq k2 s.heap l2 ys) (hx : xs[n1]? = some x) (hy : ys[n2]? = some y)
    (q : ∀ h', IsZip h' z TI TO (rawInt s.heap.objs.size) → IsPair h' TO x y → SIt k1 h' i1 l1 (n1 + 1) → SIt k2 h' i2 l2 (n2 + 1) → IsPair h' s.heap.objs.size x y → h'.objs.size = s.heap.objs.size + 1 →
      (∀ c o, c ≠ z → c ≠ TO → c ≠ i1 → c ≠ i2 → s.heap.get? c = some o → h'.get? c = some o) → Q (some (.ref s.heap.objs.size)) { s with heap := h' }) :
    wpAny (model prog w) A (pyNext (.ref z)) Q E s := by
  have ty : s.TypeIs (.ref z) "zip" := ⟨_, gz, rfl⟩
  unfold pyNext
  exact wpAny_bind (wpAny_attempt (wpAny_callSpecial?_slot (name := Str.ofString "__next__") ty F.slot_zip_next (wpAny_call_entry F.slot_zip_next ty F.entry_zip_next
      (zm_item D gz gI gO g1 g2 m1 m2 hx hy fun h' b1 b2 b3 b4 b5 b6 b7 => wpAny_pure (q h' b1 b2 b3 b4 b5 b6 b7)) (F.args_zip_next_1 _))))
theorem zm_pyEnd {z TI TO i1 i2 l1 l2 : Addr} {n1 n2 : Nat} {xs ys : Array Value} {a b : Value} {Q : Option Value → Shared → Prop} (hh : A.handled = none) (D : ZipApart z TI TO i1 i2 l1 l2)
    (gz : IsZip s.heap z TI TO .none) (gI : IsPair s.heap TI (.ref i1) (.ref i2)) (gO : IsPair s.heap TO a b)
    (g1 : SIt k1 s.heap i1 l1 n1) (g2 : SIt k2 s.heap i2 l2 n2) (m1 : SSq k1 s.heap l1 xs) (m2 : SSq k2 s.heap l2 ys) (he : xs[n1]? = none ∨ ys[n2]? = none)
    (q : ∀ h', (∀ c o, c ≠ z → c ≠ TO → c ≠ i1 → c ≠ i2 → s.heap.get? c = some o → h'.get? c = some o) → Q none { s with heap := h' }) : wpAny (model prog w) A (pyNext (.ref z)) Q E s := by
  have ty : s.TypeIs (.ref z) "zip" := ⟨_, gz, rfl⟩
  unfold pyNext
  refine wpAny_bind (wpAny_attempt (wpAny_callSpecial?_slot (name := Str.ofString "__next__") ty F.slot_zip_next (wpAny_call_entry F.slot_zip_next ty F.entry_zip_next (zm_end hh D gz gI gO g1 g2 m1 m2 he fun h' e kp ⟨o, h1, h2⟩ => ?_) (F.args_zip_next_1 _))))
  exact wpAny_bind (wpAny_isInstance (T := "StopIteration") (b := true) ⟨o, h1, h2⟩ isSubtype_stop (wpAny_pure (q _ kp)))
end
abbrev zm1 (k1 : Bool) (h : Heap) (l1 : Addr) : Heap := h.push { cls := .type (icl k1), data := .fields #[.ref l1, .int 0 0] }
abbrev zm2 (k1 k2 : Bool) (h : Heap) (l1 l2 : Addr) : Heap := (zm1 k1 h l1).push { cls := .type (icl k2), data := .fields #[.ref l2, .int 0 0] }
abbrev zm3 (k1 k2 : Bool) (h : Heap) (l1 l2 : Addr) : Heap := (zm2 k1 k2 h l1 l2).push { cls := .type "tuple", data := .seq #[.ref h.objs.size, .ref (zm1 k1 h l1).objs.size] }
abbrev zm4 (k1 k2 : Bool) (h : Heap) (l1 l2 : Addr) : Heap := (zm3 k1 k2 h l1 l2).push { cls := .type "tuple", data := .seq #[.none, .none] }
abbrev zm5 (k1 k2 : Bool) (h : Heap) (l1 l2 : Addr) : Heap := (zm4 k1 k2 h l1 l2).push { cls := .type "zip", data := .fields #[.none, .bool false, .bool false, .ref (zm2 k1 k2 h l1 l2).objs.size, .ref (zm3 k1 k2 h l1 l2).objs.size] }
theorem zm_new (k1 k2 : Bool) (l1 l2 : Addr) (xs ys : Array Value) :
    Meets (Builtin.«zip.__new__» ⟨[.type "zip", .ref l1, .ref l2], []⟩) (fun _ R s => SSq k1 s.heap l1 xs ∧ SSq k2 s.heap l2 ys ∧
      R (.ok (.ret (.ref (zm4 k1 k2 s.heap l1 l2).objs.size))) { s with heap := zm5 k1 k2 s.heap l1 l2 }) :=
  .of_wp fun prog w A R s h => by
    obtain ⟨hp, g, d, tk, os⟩ := s; obtain ⟨m1, m2, h⟩ := h
    have hsub := sub_zip
    cases k1 <;> cases k2
    · have L1 : Heap.IsList (Shared.heap ⟨hp, g, d, tk, os⟩) l1 xs := m1
      have L2 : Heap.IsList (Shared.heap ⟨hp.push { cls := .type "list_iterator", data := .fields #[.ref l1, .int 0 0] }, g, d, tk, os⟩) l2 ys := Heap.IsList.push m2 _
      wp_walk using wpAny_pyIter_list L1, wpAny_pyIter_list L2
      exact ⟨_, rfl, h⟩
    · have L1 : Heap.IsList (Shared.heap ⟨hp, g, d, tk, os⟩) l1 xs := m1
      have L2 : Heap.IsTuple (Shared.heap ⟨hp.push { cls := .type "list_iterator", data := .fields #[.ref l1, .int 0 0] }, g, d, tk, os⟩) l2 ys := Heap.IsTuple.push m2 _
      wp_walk using wpAny_pyIter_list L1, wpAny_pyIter_tuple L2
      exact ⟨_, rfl, h⟩
    · have L1 : Heap.IsTuple (Shared.heap ⟨hp, g, d, tk, os⟩) l1 xs := m1
      have L2 : Heap.IsList (Shared.heap ⟨hp.push { cls := .type "tuple_iterator", data := .fields #[.ref l1, .int 0 0] }, g, d, tk, os⟩) l2 ys := Heap.IsList.push m2 _
      wp_walk using wpAny_pyIter_tuple L1, wpAny_pyIter_list L2
      exact ⟨_, rfl, h⟩
    · have L1 : Heap.IsTuple (Shared.heap ⟨hp, g, d, tk, os⟩) l1 xs := m1
      have L2 : Heap.IsTuple (Shared.heap ⟨hp.push { cls := .type "tuple_iterator", data := .fields #[.ref l1, .int 0 0] }, g, d, tk, os⟩) l2 ys := Heap.IsTuple.push m2 _
      wp_walk using wpAny_pyIter_tuple L1, wpAny_pyIter_tuple L2
      exact ⟨_, rfl, h⟩
end DyZ

set_option maxHeartbeats 1000000
/-! Dp, part Y: zip of any two sequences as something that is walked. -/
namespace DyZ
open PySem PySem.Spec PyProof.Rows L2
section
variable {prog : Program} {w : World} {A : Around} {E : Value → Shared → Prop} {s : Shared}
theorem zm_call {k1 k2 : Bool} {l1 l2 : Addr} {xs ys : Array Value} {Q : Value → Shared → Prop} (m1 : SSq k1 s.heap l1 xs) (m2 : SSq k2 s.heap l2 ys)
    (q : ∀ h' n, n = s.heap.objs.size → IsZip h' (n + 4) (n + 2) (n + 3) .none → IsPair h' (n + 2) (.ref n) (.ref (n + 1)) → IsPair h' (n + 3) .none .none → SIt k1 h' n l1 0 → SIt k2 h' (n + 1) l2 0 →
      (∀ c o, s.heap.get? c = some o → h'.get? c = some o) → Q (.ref (n + 4)) { s with heap := h' }) : wpAny (model prog w) A (call (.type "zip") [.ref l1, .ref l2]) Q E s := by
  refine callType_new F.called_zip (by decide) (F.typeCall_zip_2 _ _) (F.newCall_zip_2 _ _) (fun ob => F.args_object_init_3 ob _ _) F.entry_zip_new (zm_new k1 k2 l1 l2 xs ys) ⟨m1, m2, ?_⟩
  generalize hn : s.heap.objs.size = n
  have a1 : (zm1 k1 s.heap l1).objs.size = n + 1 := by rw [← hn]; exact Heap.size_push ..
  have a2 : (zm2 k1 k2 s.heap l1 l2).objs.size = n + 2 := by rw [show (zm2 k1 k2 s.heap l1 l2).objs.size = _ from Heap.size_push .., a1]
  have a3 : (zm3 k1 k2 s.heap l1 l2).objs.size = n + 3 := by rw [show (zm3 k1 k2 s.heap l1 l2).objs.size = _ from Heap.size_push .., a2]
  have a4 : (zm4 k1 k2 s.heap l1 l2).objs.size = n + 4 := by rw [show (zm4 k1 k2 s.heap l1 l2).objs.size = _ from Heap.size_push .., a3]
  have b5 : (zm5 k1 k2 s.heap l1 l2).get? (zm4 k1 k2 s.heap l1 l2).objs.size = some { cls := .type "zip", data := .fields #[.none, .bool false, .bool false, .ref (zm2 k1 k2 s.heap l1 l2).objs.size, .ref (zm3 k1 k2 s.heap l1 l2).objs.size] } := Heap.get?_push_size _ rfl
  have b4 : (zm5 k1 k2 s.heap l1 l2).get? (zm3 k1 k2 s.heap l1 l2).objs.size = some { cls := .type "tuple", data := .seq #[.none, .none] } := Heap.get?_push_of_some _ (Heap.get?_push_size _ rfl)
  have b3 : (zm5 k1 k2 s.heap l1 l2).get? (zm2 k1 k2 s.heap l1 l2).objs.size = some { cls := .type "tuple", data := .seq #[.ref s.heap.objs.size, .ref (zm1 k1 s.heap l1).objs.size] } := Heap.get?_push_of_some _ (Heap.get?_push_of_some _ (Heap.get?_push_size _ rfl))
  have b2 : (zm5 k1 k2 s.heap l1 l2).get? (zm1 k1 s.heap l1).objs.size = some { cls := .type (icl k2), data := .fields #[.ref l2, .int 0 0] } := Heap.get?_push_of_some _ (Heap.get?_push_of_some _ (Heap.get?_push_of_some _ (Heap.get?_push_size _ rfl)))
  have b1 : (zm5 k1 k2 s.heap l1 l2).get? s.heap.objs.size = some { cls := .type (icl k1), data := .fields #[.ref l1, .int 0 0] } := Heap.get?_push_of_some _ (Heap.get?_push_of_some _ (Heap.get?_push_of_some _ (Heap.get?_push_of_some _ (Heap.get?_push_size _ rfl))))
  rw [a4, a2, a3] at b5
  rw [a3] at b4
  rw [a2, a1, hn] at b3
  rw [a1] at b2
  rw [hn] at b1
  have kp : ∀ c o, s.heap.get? c = some o → (zm5 k1 k2 s.heap l1 l2).get? c = some o := fun c o z => Heap.get?_push_of_some _ (Heap.get?_push_of_some _ (Heap.get?_push_of_some _ (Heap.get?_push_of_some _ (Heap.get?_push_of_some _ z))))
  have c1 : SIt k1 (zm5 k1 k2 s.heap l1 l2) n l1 0 := by cases k1 <;> exact ⟨_, b1, rfl, rfl⟩
  have c2 : SIt k2 (zm5 k1 k2 s.heap l1 l2) (n + 1) l2 0 := by cases k2 <;> exact ⟨_, b2, rfl, rfl⟩
  show _ ∧ _
  rw [a4]
  exact ⟨⟨_, b5, by first | rfl | decide⟩, q _ n hn.symm b5 b3 b4 c1 c2 kp⟩
end
/-- a tuple (true) or a list -/
def SqG (k : Bool) (K : PySem.W.Frag) (H : Hp) (a : Addr) (xs : List V) : Prop := match k with | true => SqT K H a xs | false => SqL K H a xs
section
variable {X : Cx} {pins : List (Addr × Obj)} {σ : L2.St} {H : Hp} {s : Shared}
theorem sqG_at {k : Bool} {a : Addr} {xs : List V} (I : Inv X pins σ H s) (h : SqG k X.K H a xs) : ∃ its : List Value, Vals xs its ∧ SSq k s.heap a its.toArray ∧ a < s.heap.objs.size := by
  cases k
  · obtain ⟨its, rv, p, _⟩ := I.list h
    exact ⟨its, rv, p.isList, p.lt⟩
  · obtain ⟨its, rv, p, _⟩ := I.tuple h
    obtain ⟨o, ho, _⟩ := id p
    exact ⟨its, rv, p, Heap.lt_size ho⟩
theorem sqG_inj {k : Bool} {a : Addr} {xs ys : List V} (I : Inv X pins σ H s) (h : SqG k X.K H a xs) (h' : SqG k X.K H a ys) : xs = ys := by
  cases k
  · exact I.list_inj h h'
  · exact I.tuple_inj h h'
end
/-- both as they stand at each turn, their items in new pairs -/
def Itg (K : PySem.W.Frag) (k1 k2 : Bool) (a b : Addr) : It where
  go := fun i H => ∃ (us vs : List V) (u v : V), SqG k1 K H a us ∧ SqG k2 K H b vs ∧ us[i]? = some u ∧ vs[i]? = some v
  yld := fun i H p H' => ∃ (n : Addr) (u v : V), p = .ref n ∧ H n = none ∧ H' = upd H n (.tup [u, v]) ∧ (∀ us, SqG k1 K H a us → us[i]? = some u) ∧ (∀ vs, SqG k2 K H b vs → vs[i]? = some v)
  stop := fun i H => ∃ us vs : List V, SqG k1 K H a us ∧ SqG k2 K H b vs ∧ (us.length ≤ i ∨ vs.length ≤ i)
/-- the zip object and its parts -/
def ZAt (k1 k2 : Bool) (a b z ti to i1 i2 : Addr) (i : Nat) (h : Heap) : Prop :=
  IsZip h z ti to .none ∧ IsPair h ti (.ref i1) (.ref i2) ∧ (∃ p q, IsPair h to p q) ∧ SIt k1 h i1 a i ∧ SIt k2 h i2 b i
theorem mem5 {c z ti to i1 i2 : Addr} (h : c ∈ [z, ti, to, i1, i2]) : c = z ∨ c = ti ∨ c = to ∨ c = i1 ∨ c = i2 := by simpa using h
theorem turn_g {P : Program} {w : World} {K : PySem.W.Frag} {elts : List Expr} {kk : Nat} {tpos : Pos} {k1 k2 : Bool} {a b z ti to i1 i2 : Addr} (D : ZipApart z ti to i1 i2 a b) :
    Turn P w K (.Tuple elts kk tpos) (Itg K k1 k2 a b) [z, ti, to, i1, i2] z (ZAt k1 k2 a b z ti to i1 i2) where
  mem := by simp
  obj := by
    rintro i h ⟨g1, g2, ⟨p, q, g3⟩, g4, g5⟩ c hc
    obtain ⟨o4, e4, d4⟩ := g4.out
    obtain ⟨o5, e5, d5⟩ := g5.out
    rcases mem5 hc with rfl | rfl | rfl | rfl | rfl
    · exact ⟨_, g1, fun v y => by cases y⟩
    · exact ⟨_, g2, fun v y => by cases y⟩
    · exact ⟨_, g3, fun v y => by cases y⟩
    · exact ⟨o4, e4, fun v y => by rw [d4] at y; cases y⟩
    · exact ⟨o5, e5, fun v y => by rw [d5] at y; cases y⟩
  keep := by
    rintro i h h' ⟨g1, g2, ⟨p, q, g3⟩, g4, g5⟩ kp
    exact ⟨kp z (by simp) _ g1, kp ti (by simp) _ g2, ⟨p, q, kp to (by simp) _ g3⟩, g4.see fun o y => kp i1 (by simp) o y, g5.see fun o y => kp i2 (by simp) o y⟩
  item := by
    rintro X rfl rfl rfl hc i pins s σ H E I hf ⟨g1, g2, ⟨p0, q0, g3⟩, g4, g5⟩ ⟨us, vs, u, v, su, sv, eu, ev⟩
    obtain ⟨lu, ru, mu, _⟩ := sqG_at I su
    obtain ⟨lv, rv, mv, _⟩ := sqG_at I sv
    obtain ⟨u', fu, ru'⟩ := ru.get eu
    obtain ⟨v', fv, rv'⟩ := rv.get ev
    have zlt : z < s.heap.objs.size := Heap.lt_size g1
    refine zm_pyItem D g1 g2 g3 g4 g5 mu mv (x := u') (y := v') (by simpa using fu) (by simpa using fv) fun h1 j1 j2 j3 j4 j5 j6 j7 => ?_
    refine ⟨_, rfl, wpAny_letOwnedTupleGo_zip (s := { s with heap := h1 }) j1 fun h2 j8 j9 => ?_⟩
    have at2 : h2.get? s.heap.objs.size = some { cls := .type "tuple", data := .seq #[u', v'] } := (j9.2 _ (Nat.ne_of_gt zlt)).trans j5
    have okT : ObjOk X.prog X.w (upd H s.heap.objs.size (.tup [u, v])) h2 s.heap.objs.size (.tup [u, v]) := ⟨by show 2 ≤ sizeLine; decide, [u', v'], .cons ru' (.cons rv' .nil), ⟨_, at2, rfl, _, rfl⟩⟩
    have keepAll : ∀ c o, c ∉ [z, ti, to, i1, i2] → s.heap.get? c = some o → h2.get? c = some o := fun c o nc y => by
      simp only [List.mem_cons, List.not_mem_nil, or_false, not_or] at nc
      exact (j9.2 c nc.1).trans (j7 c o nc.1 nc.2.2.1 nc.2.2.2.1 nc.2.2.2.2 y)
    have I2 : Inv X pins σ (upd H s.heap.objs.size (.tup [u, v])) { s with heap := h2 } := I.turnedNew (t' := s.toks) (ch := [z, ti, to, i1, i2]) keepAll hf (Nat.le_refl _) okT
    refine ⟨.ref s.heap.objs.size, _, I2, rfl, ⟨_, u, v, rfl, I.hok.fresh (Nat.le_refl _), rfl, fun l hl => by rw [sqG_inj I hl su]; exact eu, fun l hl => by rw [sqG_inj I hl sv]; exact ev⟩, ⟨j8, ?_, ⟨u', v', ?_⟩, ?_, ?_⟩, fun c hcm => ?_⟩
    · exact (j9.2 _ D.TIz).trans (j7 _ _ D.TIz D.TITO D.TIi1 D.TIi2 g2)
    · exact (j9.2 _ D.TOz).trans j2
    · exact j3.see fun o y => (j9.2 _ D.i1z).trans y
    · exact j4.see fun o y => (j9.2 _ D.i2z).trans y
    · have lt : c < s.heap.objs.size := by
        obtain ⟨o4, e4, _⟩ := g4.out
        obtain ⟨o5, e5, _⟩ := g5.out
        rcases mem5 hcm with rfl | rfl | rfl | rfl | rfl
        · exact zlt
        · exact Heap.lt_size g2
        · exact Heap.lt_size g3
        · exact Heap.lt_size e4
        · exact Heap.lt_size e5
      rw [upd_ne (Nat.ne_of_lt lt)]
      exact (hf c hcm).1
  done := by
    rintro X rfl rfl rfl hc i pins s σ H E I hf ⟨g1, g2, ⟨p0, q0, g3⟩, g4, g5⟩ ⟨us, vs, su, sv, he⟩
    obtain ⟨lu, ru, mu, _⟩ := sqG_at I su
    obtain ⟨lv, rv, mv, _⟩ := sqG_at I sv
    have n1 := ru.length
    have n2 := rv.length
    refine zm_pyEnd (I.ok.hd hc) D g1 g2 g3 g4 g5 mu mv ?_ fun h1 j7 => ⟨rfl, I.turnedL (t' := s.toks) (ch := [z, ti, to, i1, i2]) (fun c o nc y => ?_) hf⟩
    · rcases he with he | he
      · exact .inl (by simp; omega)
      · exact .inr (by simp; omega)
    · simp only [List.mem_cons, List.not_mem_nil, or_false, not_or] at nc
      exact j7 c o nc.1 nc.2.2.1 nc.2.2.2.1 nc.2.2.2.2 y
  self := fun A i s Q E st h => wpAny_pyIter_zip st.1 h
def iZipG (K : PySem.W.Frag) (ta : TA) : TI := fun σ H R => ta σ H fun vs H1 => ∃ (k1 k2 : Bool) (a b : Addr) (us ws : List V), vs = [.ref a, .ref b] ∧ SqG k1 K H1 a us ∧ SqG k2 K H1 b ws ∧ R (Itg K k1 k2 a b) H1
theorem pi_zipG {X : Cx} {e e2 : Expr} {ta : TA} {p pos tpos : Pos} {elts : List Expr} {kk : Nat} (hg : Gl X "zip") (hm : X.mg "zip" = none) (ha : PA X [e, e2] ta)
    (hs : starEach [e, e2] X.env = (false, eval e X.env) :: starEach [e2] X.env) (hpl : (backTo pos (starEach [e2] X.env)).any (·.1) = false) :
    PI X (.Tuple elts kk tpos) (.Call (.Name "zip" p) [e, e2] [] pos) (iZipG X.K ta) := by
  constructor
  intro pins s σ H R I h
  refine Call_ (ld_blt I hg hm PyProof.Rows.boot_zip (PyProof.Rows.callWith_type1 (thn (ha.run pos pins s σ H _ I h) ?_) hs hpl))
  rintro us1 s1 ⟨vs, H1, I1, r1, k1, k2, a, b, us, ws, rfl, su, sw, q⟩
  cases r1 with
  | cons ra rr => cases rr with
    | cons rb rr =>
      cases rr
      cases ra
      cases rb
      obtain ⟨lu, ru, mu, ltu⟩ := sqG_at I1 su
      obtain ⟨lw, rw', mw, ltw⟩ := sqG_at I1 sw
      refine zm_call mu mw fun h' n hn b1 b2 b3 b4 b5 b6 => wpAny_pyIter_zip b1 ?_
      subst hn
      have I2 : Inv X pins σ H1 { s1 with heap := h' } := I1.kept (t' := s1.toks) b6
      refine ⟨_, [s1.heap.objs.size + 4, s1.heap.objs.size + 2, s1.heap.objs.size + 3, s1.heap.objs.size, s1.heap.objs.size + 1], _, _, H1, rfl, I2, turn_g (PySem.W.ktu_apart s1.heap.objs.size a b ltu ltw), ⟨b1, b2, ⟨_, _, b3⟩, b4, b5⟩, fun c hc => ?_, q⟩
      have le : s1.heap.objs.size ≤ c := by
        rcases mem5 hc with rfl | rfl | rfl | rfl | rfl <;> first | exact Nat.le_add_right _ _ | exact Nat.le_refl _
      exact I1.fpOk le (I1.hok.fresh le)
end DyZ

set_option maxHeartbeats 1000000
/-! Dp, part X: a, b, *c = a sequence. -/
namespace DyZ
open PySem PySem.Spec PyProof.Rows L2
section
variable {prog : Program} {w : World} {A : Around} {E : Value → Shared → Prop} {s : Shared}
theorem some_draw {k : Bool} {it l : Addr} {items : Array Value} (ne : l ≠ it) {n : Nat} {Q : List Value → Shared → Prop} (g : SIt k s.heap it l 0) (m : SSq k s.heap l items) (hn : n ≤ items.size)
    (q : ∀ h', SIt k h' it l n → Heap.SameBut it s.heap h' → Q (items.toList.take n) { s with heap := h' }) : wpAny (model prog w) A (draw (.ref it) n) Q E s := by
  cases k
  · exact PySem.W.kun_draw ne n 0 s Q g m (by omega) fun h' a b => by rw [Nat.zero_add] at a; rw [List.drop_zero]; exact q h' a b
  · exact draw_tuple ne n 0 s Q g m (by omega) fun h' a b => by rw [Nat.zero_add] at a; rw [List.drop_zero]; exact q h' a b
theorem rest_of {k : Bool} {it l : Addr} {items : Array Value} {n : Nat} {Q : List Value → Shared → Prop} (hh : A.handled = none) (ne : l ≠ it) (g : SIt k s.heap it l n) (m : SSq k s.heap l items) (lt : l < s.heap.objs.size) (hn : n ≤ items.size) (hz : items.size ≤ sizeLine)
    (q : ∀ h' tk, (∀ b o, b ≠ it → s.heap.get? b = some o → h'.get? b = some o) → Q (items.toList.drop n) { s with heap := h', toks := tk }) : wpAny (model prog w) A (collect (.ref it)) Q E s := by
  obtain ⟨o, ho, _⟩ := g.out
  cases k
  · exact PySem.W.kun_collect (T := "list_iterator") (.inr (.inr (.inl rfl))) (Walks.list (A := A.in1) hh it l ne items) (fun j u st => st.1.typeIs) hn ⟨g, m⟩ (Heap.lt_size ho) lt q hz
  · exact PySem.W.kun_collect (T := "tuple_iterator") (.inr (.inr (.inr rfl))) (Walks.tuple (A := A.in1) hh it l ne items) (fun j u st => st.1.typeIs) hn ⟨g, m⟩ (Heap.lt_size ho) lt q hz
theorem iter_any {k : Bool} {l : Addr} {items : Array Value} {Q : Value → Shared → Prop} (m : SSq k s.heap l items)
    (q : Q (.ref s.heap.objs.size) { s with heap := s.heap.push { cls := .type (icl k), data := .fields #[.ref l, .int 0 0] } }) : wpAny (model prog w) A (pyIter (.ref l)) Q E s := by
  cases k
  · exact wpAny_pyIter_list m q
  · exact iter_tuple m q
theorem can_iter {k : Bool} {l : Addr} {items : Array Value} {Q : Bool → Shared → Prop} (m : SSq k s.heap l items) (q : Q false s) : wpAny (model prog w) A (notIterableAtAll (.ref l)) Q E s := by
  unfold notIterableAtAll
  cases k
  · exact wpAny_bind (wpAny_specialOf (Heap.IsList.typeIs m) slot_list_iter.lookup (wpAny_pure q))
  · exact wpAny_bind (wpAny_specialOf (IsTup.typeIs m) slot_tuple_iter.lookup (wpAny_pure q))
theorem SSq.push {k : Bool} {h : Heap} {l : Addr} {items : Array Value} (m : SSq k h l items) (o : Obj) : SSq k (h.push o) l items := by
  cases k
  · exact Heap.IsList.push m o
  · exact Heap.IsTuple.push m o
/-- the first i items, the others in a new list -/
theorem star_unpack {k : Bool} {l : Addr} {items : Array Value} {i : Nat} {Q : List Value → Shared → Prop} (hh : A.handled = none) (m : SSq k s.heap l items) (lt : l < s.heap.objs.size) (hi : i ≤ items.size) (hz : items.size ≤ sizeLine)
    (q : ∀ (h1 : Heap) (tk : Nat), (∀ b o, s.heap.get? b = some o → h1.get? b = some o) → Q (items.toList.take i ++ [.ref h1.objs.size]) { s with heap := h1.push { cls := .type "list", data := .seq (items.toList.drop i).toArray }, toks := tk }) :
    wpAny (model prog w) A (unpackItems (.ref l) (i + 1) (some i)) Q E s := by
  have ne : l ≠ s.heap.objs.size := Nat.ne_of_lt lt
  unfold unpackItems
  refine wpAny_bind (can_iter m ?_)
  simp only [Bool.false_eq_true, if_false]
  refine wpAny_bind (wpAny_holding (iter_any m ?_))
  have g0 : SIt k (s.heap.push { cls := .type (icl k), data := .fields #[.ref l, .int 0 0] }) s.heap.objs.size l 0 := by cases k <;> exact ⟨_, Heap.get?_push_size _ rfl, rfl, rfl⟩
  refine wpAny_bind (wpAny_holding (some_draw ne g0 (m.push _) hi fun h1 g1 c1 => ?_))
  have tl : (items.toList.take i).length = i := by rw [List.length_take, Array.length_toList]; omega
  rw [if_neg (by rw [tl]; omega)]
  have m1 : SSq k h1 l items := (m.push _).ext c1.extBut ne
  have lt1 : l < h1.objs.size := by
    cases k
    · obtain ⟨o, ho, _⟩ := m1; exact Heap.lt_size ho
    · obtain ⟨o, ho, _⟩ := m1; exact Heap.lt_size ho
  refine wpAny_bind (wpAny_holding (rest_of (s := { s with heap := h1 }) hh ne g1 m1 lt1 hi hz fun h2 tk c2 => ?_))
  have dl : (items.toList.drop i).length = items.size - i := by rw [List.length_drop, Array.length_toList]
  have z0 : i + 1 - 1 - i = 0 := by omega
  simp only [z0]
  rw [if_neg (Nat.not_lt_zero _), Nat.sub_zero, List.take_length, List.drop_length]
  simp only [newList]
  refine wpAny_bind (wpAny_newObj_type ?_ (by show (items.toList.drop i).length ≤ _; rw [dl]; omega))
  refine wpAny_pure ?_
  rw [List.append_nil]
  exact q h2 tk fun b o hb => c2 b o (Nat.ne_of_lt (Heap.lt_size hb)) (c1.extBut b o (Nat.ne_of_lt (Heap.lt_size hb)) (Heap.get?_push_of_some _ hb))
end
end DyZ

/-! Dp, part E: places, slices, what is walked; the expressions and their weakest preconditions. -/
namespace Dy
open PySem PySem.Spec L2
variable [Kx]
/-! ### places and slices -/
def idxF (m : Store) : Val → Val → Option Val
  | .str s, .int i => if s.length ≤ sizeLine then (atI s i).map fun c => .str [c] else none
  | v, .int i => (sq m v).bind fun vs => atI vs i
  | _, _ => none
def partF (has : Bool) (v : Val) : Option (Option Int) :=
  if has = true then (match v with | .int i => some (some i) | _ => none) else some none
def cutL {α : Type} (xs : List α) (lo hi : Option Int) : List α := (xs.drop (HT.sIx xs.length 0 lo)).take (HT.sIx xs.length xs.length hi - HT.sIx xs.length 0 lo)
def sliceF (m : Store) : Val → Option Int → Option Int → Option Val
  | .tup vs, lo, hi => some (.tup (cutL vs lo hi))
  | .str s, lo, hi => if s.length ≤ sizeLine then some (.str (cutL s lo hi)) else none
  | v, lo, hi => if isL v then (sq m v).map fun vs => .il true (cutL vs lo hi) else none
/-- what a slice asks -/
def rSlG (K : Frag) : V → Option Int → Option Int → Hp → VK → Prop := fun x lo hi H Q => (rSlL K x lo hi H Q ∨ rSlA K x lo hi H Q) ∨ rSlS x lo hi H Q
theorem sl_G {X : Cx} : SlR X (rSlG X.K) := (sl_list.or sl_tupA).or sl_str
section
variable {K : Frag} {W : Wd} {H : Hp} {m : Store}
theorem atI_rel {vs : List Val} {xs : List V} (r : RVs K W H vs xs) {i : Int} {v : Val} (e : atI vs i = some v) : ∃ x, atI xs i = some x ∧ RV K W H v x := by
  unfold atI at e ⊢
  rw [← r.length]
  cases hn : ixN vs.length i with
  | none => rw [hn] at e; cases e
  | some j =>
    rw [hn] at e
    exact r.get e
theorem idx_ok {Qd : Val → Store → Prop} {Q : VK} {a i w : Val} {x y : V} (ra : RV K W H a x) (ri : RV K W H i y) (h : HR K W m H) (hw : idxF m a i = some w) (q : Qd w m) (k : Cont K W H Qd Q) : rIx K x y H Q := by
  unfold idxF at hw
  split at hw
  · split at hw
    · simp only [Option.map_eq_some_iff] at hw
      obtain ⟨c, e1, e2⟩ := hw
      subst e2
      rw [ra.str_inv, ri.int_inv]
      exact .inr (.inr ⟨_, _, c, rfl, rfl, by rw [SX.S_len]; assumption, e1, k.here h (.str [c]) q⟩)
    · cases hw
  · simp only [Option.bind_eq_some_iff] at hw
    obtain ⟨vs, e1, e2⟩ := hw
    rw [ri.int_inv]
    obtain ⟨p, xs, rfl, sl, r1⟩ := sq_at h ra e1
    obtain ⟨z, e3, r2⟩ := atI_rel r1 e2
    rcases sl with sl | sl
    · exact .inl ⟨p, xs, _, z, rfl, rfl, sl, e3, k.here h r2 q⟩
    · exact .inr (.inl ⟨p, xs, _, z, rfl, rfl, sl, e3, k.here h r2 q⟩)
  · cases hw
theorem cut_rel {vs : List Val} {xs : List V} (r : RVs K W H vs xs) (lo hi : Option Int) : RVs K W H (cutL vs lo hi) (cutV xs lo hi) := by
  unfold cutL cutV
  rw [← r.length]
  exact (r.drop _).take _
theorem slice_ok {Qd : Val → Store → Prop} {Q : VK} {a w : Val} {x : V} {lo hi : Option Int} (ra : RV K W H a x) (h : HR K W m H) (hw : sliceF m a lo hi = some w) (q : Qd w m) (k : Cont K W H Qd Q) : rSlG K x lo hi H Q := by
  unfold sliceF at hw
  split at hw
  · cases hw
    obtain ⟨p, xs, rfl, sl, r1⟩ := ra.tup_inv
    refine .inl (.inr ⟨p, xs, rfl, sl, fun hz => ?_, fun _ p hp => k.tup h (cut_rel r1 _ _) q hp⟩)
    refine k.here h (.tup sl ?_) q
    have hl := r1.length
    unfold cutL
    rw [hl, hz.1, hz.2, List.drop_zero, Nat.sub_zero, List.take_of_length_le (by omega)]
    exact r1
  · split at hw
    · cases hw
      rw [ra.str_inv]
      refine .inr ⟨_, rfl, by rw [SX.S_len]; assumption, ?_⟩
      have e : ∀ (s : Text) (lo hi : Option Int), cutS (SX.S s) lo hi = SX.S (cutL s lo hi) := fun s lo hi => by
        unfold cutS cutL
        rw [SX.S_len]
      rw [e]
      exact k.here h (.str _) q
    · cases hw
  · split at hw
    · simp only [Option.map_eq_some_iff] at hw
      obtain ⟨vs, e1, e2⟩ := hw
      subst e2
      obtain ⟨p, xs, rfl, sl, r1⟩ := sq_atL h ra e1 (by assumption)
      exact .inl (.inl ⟨p, xs, rfl, sl, fun p hp => k.il h (cut_rel r1 _ _) q hp⟩)
    · cases hw
end
/-! ### what is walked -/
inductive IK where
  | seq | rng1 | rng2 | zip
  deriving DecidableEq
def intsUp (lo : Int) (n : Nat) : List Val := (List.range n).map fun i => .int (lo + (i : Nat))
def itF : IK → Store → Val → Val → Option (List Val)
  | .seq, _, .str s, _ => some (s.map fun c => .str [c])
  | .seq, m, v, _ => sq m v
  | .rng1, _, .int n, _ => if -(2 ^ 62) ≤ n ∧ n < 2 ^ 62 then some (intsUp 0 n.toNat) else none
  | .rng2, _, .int a, .int b => if -(2 ^ 62) ≤ a ∧ a < 2 ^ 62 ∧ -(2 ^ 62) ≤ b ∧ b < 2 ^ 62 then some (intsUp a (b - a).toNat) else none
  | .zip, m, a, b => (sq m a).bind fun us => (sq m b).map fun vs => (us.zip vs).map fun p => .tup [p.1, p.2]
  | _, _, _, _ => none
/-- J walks the items as long as the store lets it -/
def Walk (K : Frag) (J : It) (items : List Val) (live : Store → Prop) (W0 : Wd) (H0 : Hp) : Prop :=
  ∀ (W : Wd) (m : Store) (H : Hp), Ext W0 H0 W H → HR K W m H → live m →
    (∀ i, items.length ≤ i → J.stop i H) ∧ ∀ (i : Nat) (v : Val), items[i]? = some v → J.go i H ∧ ∀ x H', J.yld i H x H' → ∃ W', Ext W H W' H' ∧ HR K W' m H' ∧ RV K W' H' v x
section
variable {K : Frag} {W : Wd} {H : Hp} {m : Store}
theorem walk_rng {lo : Int} {n : Nat} {live : Store → Prop} : Walk K (Itr lo n) (intsUp lo n) live W H := by
  intro W1 m1 H1 e h _
  refine ⟨fun i hi => by simpa [intsUp, Itr] using hi, fun i v hv => ?_⟩
  have hi : i < n := by
    have := (List.getElem?_eq_some_iff.mp hv).1
    simpa [intsUp] using this
  have ev : v = .int (lo + (i : Nat)) := by
    simp [intsUp, hi] at hv
    exact hv.symm
  subst ev
  refine ⟨hi, fun x H' y => ?_⟩
  obtain ⟨e1, e2⟩ := y
  subst e1 e2
  exact ⟨W1, .refl h, h, .int _⟩
theorem walk_str {s : Text} {live : Store → Prop} : Walk K (Its (SX.S s)) (s.map fun c => Val.str [c]) live W H := by
  intro W1 m1 H1 e h _
  refine ⟨fun i hi => by simpa [Its] using hi, fun i v hv => ?_⟩
  rw [List.getElem?_map, Option.map_eq_some_iff] at hv
  obtain ⟨c, e1, e2⟩ := hv
  subst e2
  have hi : i < s.length := (List.getElem?_eq_some_iff.mp e1).1
  refine ⟨by simpa [Its] using hi, fun x H' y => ?_⟩
  obtain ⟨f1, c', f2, f3⟩ := y
  subst f1 f3
  have f4 : (SX.S s).cps[i]? = some c := by simpa using e1
  rw [f4] at f2; cases f2
  exact ⟨W1, .refl h, h, .str _⟩
theorem walk_L {v : Val} {x : V} {vs : List Val} (h0 : HR K W m H) (r : RV K W H v x) (e : sq m v = some vs) (hl : isL v = true) : ∃ a xs, x = .ref a ∧ SqL K H a xs ∧ Walk K (Itl K a) vs (fun m => sq m v = some vs) W H := by
  obtain ⟨a, xs, rfl, sl, r1⟩ := sq_atL h0 r e hl
  refine ⟨a, xs, rfl, sl, fun W1 m1 H1 ex h1 lv => ?_⟩
  obtain ⟨b, ys, eb, sl1, r2⟩ := sq_atL h1 (r.mono h0 ex) lv hl
  cases eb
  refine ⟨fun i hi => ⟨ys, sl1, by rw [← r2.length]; exact hi⟩, fun i v hv => ?_⟩
  obtain ⟨y, ey, ry⟩ := r2.get hv
  refine ⟨⟨ys, y, sl1, ey⟩, fun z H' hz => ?_⟩
  obtain ⟨e1, e2⟩ := hz
  subst e1
  have e3 := e2 ys sl1
  rw [ey] at e3; cases e3
  exact ⟨W1, .refl h1, h1, ry⟩
theorem sq_G (h : HR K W m H) {v : Val} {x : V} {vs : List Val} (r : RV K W H v x) (e : sq m v = some vs) : ∃ (k : Bool) (a : Addr) (xs : List V), x = .ref a ∧ DyZ.SqG k K H a xs ∧ RVs K W H vs xs ∧
    ∀ (W1 : Wd) (m1 : Store) (H1 : Hp) (us : List Val), Ext W H W1 H1 → HR K W1 m1 H1 → sq m1 v = some us → ∃ ys, DyZ.SqG k K H1 a ys ∧ RVs K W1 H1 us ys := by
  by_cases hl : isL v = true
  · obtain ⟨a, xs, rfl, sl, r1⟩ := sq_atL h r e hl
    refine ⟨false, a, xs, rfl, sl, r1, fun W1 m1 H1 us ex h1 e1 => ?_⟩
    obtain ⟨b, ys, eb, sl1, r2⟩ := sq_atL h1 (r.mono h ex) e1 hl
    cases eb
    exact ⟨ys, sl1, r2⟩
  · cases v with
    | tup us =>
      cases e
      obtain ⟨a, xs, rfl, sl, r1⟩ := r.tup_inv
      refine ⟨true, a, xs, rfl, sl, r1, fun W1 m1 H1 us2 ex h1 e1 => ?_⟩
      cases e1
      obtain ⟨b, ys, eb, sl1, r2⟩ := (r.mono h ex).tup_inv
      cases eb
      exact ⟨ys, sl1, r2⟩
    | il o us => exact absurd rfl hl
    | loc n => exact absurd rfl hl
    | _ => cases e
theorem zip_at {us vs : List Val} {i : Nat} {p : Val} (h : ((us.zip vs).map fun p => Val.tup [p.1, p.2])[i]? = some p) : ∃ u v, us[i]? = some u ∧ vs[i]? = some v ∧ p = .tup [u, v] := by
  rw [List.getElem?_map, Option.map_eq_some_iff] at h
  obtain ⟨⟨u, v⟩, e, rfl⟩ := h
  rw [List.getElem?_zip_eq_some] at e
  exact ⟨u, v, e.1, e.2, rfl⟩
theorem walk_zip {a b : Val} {x y : V} {us vs : List Val} {live : Store → Prop} (h0 : HR K W m H) (ra : RV K W H a x) (rb : RV K W H b y) (ea : sq m a = some us) (eb : sq m b = some vs) (hl : ∀ m, live m → ∃ us' vs', sq m a = some us' ∧ sq m b = some vs' ∧ us'.zip vs' = us.zip vs) :
    ∃ (k1 k2 : Bool) (p q : Addr) (xs ys : List V), x = .ref p ∧ y = .ref q ∧ DyZ.SqG k1 K H p xs ∧ DyZ.SqG k2 K H q ys ∧ Walk K (DyZ.Itg K k1 k2 p q) ((us.zip vs).map fun p => Val.tup [p.1, p.2]) live W H := by
  obtain ⟨k1, p, xs, rfl, s1, r1, c1⟩ := sq_G h0 ra ea
  obtain ⟨k2, q, ys, rfl, s2, r2, c2⟩ := sq_G h0 rb eb
  refine ⟨k1, k2, p, q, xs, ys, rfl, rfl, s1, s2, fun W1 m1 H1 ex h1 lv => ?_⟩
  obtain ⟨us', vs', l1, l2, ez⟩ := hl m1 lv
  rw [← ez]
  obtain ⟨xs1, t1, q1⟩ := c1 W1 m1 H1 us' ex h1 l1
  obtain ⟨ys1, t2, q2⟩ := c2 W1 m1 H1 vs' ex h1 l2
  refine ⟨fun i hi => ⟨xs1, ys1, t1, t2, ?_⟩, fun i v hv => ?_⟩
  · simp only [List.length_map, List.length_zip] at hi
    rw [← q1.length, ← q2.length]
    omega
  · obtain ⟨u, w, eu, ew, rfl⟩ := zip_at hv
    obtain ⟨u', fu, ru⟩ := q1.get eu
    obtain ⟨w', fw, rw'⟩ := q2.get ew
    refine ⟨⟨xs1, ys1, u', w', t1, t2, fu, fw⟩, fun z H' hz => ?_⟩
    obtain ⟨n, u2, w2, rfl, hn, rfl, g1, g2⟩ := hz
    have e1 := g1 xs1 t1
    have e2 := g2 ys1 t2
    rw [fu] at e1; cases e1
    rw [fw] at e2; cases e2
    obtain ⟨e3, h3, r3⟩ := new_tup h1 hn (vs := [u, w]) (.cons ru (.cons rw' .nil))
    exact ⟨W1, e3, h3, r3⟩
theorem walk_T {x : V} {vs : List Val} {live : Store → Prop} (h0 : HR K W m H) (r : RV K W H (.tup vs) x) : ∃ a xs, x = .ref a ∧ SqT K H a xs ∧ Walk K (Itt K a) vs live W H := by
  obtain ⟨a, xs, rfl, sl, r1⟩ := r.tup_inv
  refine ⟨a, xs, rfl, sl, fun W1 m1 H1 ex h1 lv => ?_⟩
  obtain ⟨b, ys, eb, sl1, r2⟩ := (r.mono h0 ex).tup_inv
  cases eb
  refine ⟨fun i hi => ⟨ys, sl1, by rw [← r2.length]; exact hi⟩, fun i v hv => ?_⟩
  obtain ⟨y, ey, ry⟩ := r2.get hv
  refine ⟨⟨ys, y, sl1, ey⟩, fun z H' hz => ?_⟩
  obtain ⟨e1, e2⟩ := hz
  subst e1
  have e3 := e2 ys sl1
  rw [ey] at e3; cases e3
  exact ⟨W1, .refl h1, h1, ry⟩
end
/-! ### targets -/
inductive Tg where
  | name (i : Nat)
  | tup (is : List Nat)
def setAll : List Nat → List Val → Env → Option Env
  | [], [], r => some r
  | i :: is, v :: vs, r => setAll is vs (r.set i (some v))
  | _, _, _ => none
def tgF : Tg → Val → Env → Option Env
  | .name i, v, r => some (r.set i (some v))
  | .tup is, .tup vs, r => setAll is vs r
  | _, _, _ => none
/-! ### expressions -/
/-- what is asked of a table of the module -/
inductive KOp where
  | get1 | get2 | idx | isin | notin
  deriving DecidableEq
def kdW (op : KOp) (kvs : List (Text × Val)) (k d : Val) (Q : Val → Prop) : Prop :=
  match op, k with
  | .get1, .str t => Q ((kvs.lookup t).getD .non)
  | .get2, .str t => Q ((kvs.lookup t).getD d)
  | .idx, .str t => ∃ v, kvs.lookup t = some v ∧ Q v
  | .isin, .str t => Q (.bool (kvs.lookup t).isSome)
  | .notin, .str t => Q (.bool (!(kvs.lookup t).isSome))
  | _, _ => False
inductive E where
  | var (i : Nat)
  | cst (v : Val)
  | nil
  | cons (a b : E)
  | tup (es : E)
  | lst (mu : Bool) (es : E)
  | bin (op : BOp) (a b : E)
  | neg (a : E)
  | cmp (op : COp) (a b : E)
  | chain (o1 o2 : COp) (a b c : E)
  | isN (neg : Bool) (a : E)
  | one (a : E)
  | and (a b : E)
  | or (a b : E)
  | not (a : E)
  | ite (c a b : E)
  | call (f : Nat) (args : E)
  | bi (b : Bi) (args : E)
  | isI (t : Ty) (a : E)
  | meth (t : Mt) (o args : E)
  | idx (a i : E)
  | sl (hl hh : Bool) (a lo hi : E)
  | lc (mu : Bool) (own : List Nat) (tg : Tg) (ik : IK) (e1 e2 cond elt : E)
  | scons (a b : E)
  | kd (op : KOp) (kvs : List (Text × Val)) (k d : E)
  | isO (k : Nat) (a : E)
  | attr (f : Str) (a : E)
  | dsp (ks : List Text) (es : E)
  | mk (c f n m : Nat) (pm : List (Nat ⊕ Val)) (args kargs : E)
  | mc (c f : Nat) (nm : Str) (o args : E)
  | prop (c f : Nat) (nm : Str) (o : E)
  | oeq (neg : Bool) (c f : Nat) (a b : E)
/-- e.f -/
def attrF (m : Store) (f : Str) : Val → Option Val
  | .err _ v => if f = "value" then some v else none
  | .loc n => match m[n]? with | some (.inst _ fs vs) => (fs.zip vs).lookup f | _ => none
  | _ => none
def notErr : Val → Bool
  | .err _ _ => false
  | _ => true
/-- an instance of the class c -/
def isIn (m : Store) (c : Nat) (v : Val) : Prop := ∃ n fs us, v = .loc n ∧ m[n]? = some (.inst c fs us)
/-- one that has no attribute of that name -/
def isInN (m : Store) (c : Nat) (nm : Str) (v : Val) : Prop := ∃ n fs us, v = .loc n ∧ m[n]? = some (.inst c fs us) ∧ fs.contains nm = false
/-- the parameters by what was handed in, and by defaults -/
def fillP : List (Nat ⊕ Val) → List Val → Option (List Val)
  | [], _ => some []
  | .inl i :: r, vs => (vs[i]?).bind fun v => (fillP r vs).map fun us => v :: us
  | .inr v :: r, vs => (fillP r vs).map fun us => v :: us
/-- what a def is worth -/
abbrev FS := List Val → Store → (Val → Store → Prop) → Rq → Prop
def isNon : Val → Bool
  | .non => true
  | _ => false
/-- a list comprehension's turns -/
def lcW (live : Store → Prop) (body : Val → Store → (Option Val → Store → Prop) → Prop) : List Val → List Val → Store → (List Val → Store → Prop) → Prop
  | [], acc, m, Q => live m ∧ Q acc m
  | x :: xs, acc, m, Q => live m ∧ body x m fun o m1 => match o with
    | some v => acc.length < sizeLine ∧ lcW live body xs (acc ++ [v]) m1 Q
    | none => lcW live body xs acc m1 Q
/-- the end of a list that is new -/
def newL (mu : Bool) (vs : List Val) (m : Store) (Q : Val → Store → Prop) : Prop :=
  if mu = true then Q (.loc m.length) (m ++ [.list vs]) else Q (.il true vs) m
def noR : Rq := fun _ _ _ => False
/-- as a value, and as a test -/
abbrev WB := WE0 × WT0
def prT (w : WE0) : WB := (w, fun r m Q R => w r m (fun v m1 => ∃ t, tru m1 v = some t ∧ Q t m1) R)
def wpB (F : Nat → FS) : E → WB
  | .var i => prT fun r m Q _ => ∃ v, r[i]? = some (some v) ∧ Q v m
  | .cst v => prT fun _ m Q _ => Q v m
  | .nil => prT fun _ m Q _ => Q (.tup []) m
  | .cons a b => prT fun r m Q R => (wpB F a).1 r m (fun v m1 => (wpB F b).1 r m1 (fun w m2 => ∃ vs, w = .tup vs ∧ Q (.tup (v :: vs)) m2) R) R
  | .tup es => prT fun r m Q R => (wpB F es).1 r m (fun v m1 => ∃ vs, v = .tup vs ∧ vs.length ≤ sizeLine ∧ Q (.tup vs) m1) R
  | .lst mu es => prT fun r m Q R => (wpB F es).1 r m (fun v m1 => ∃ vs, v = .tup vs ∧ vs.length ≤ sizeLine ∧ newL mu vs m1 Q) R
  | .bin op a b => prT fun r m Q R => (wpB F a).1 r m (fun v m1 => (wpB F b).1 r m1 (fun w m2 => binW op v w m2 Q) R) R
  | .neg a => prT fun r m Q R => (wpB F a).1 r m (fun v m1 => ∃ i, v = .int i ∧ Q (.int (-i)) m1) R
  | .cmp op a b => prT fun r m Q R => (wpB F a).1 r m (fun v m1 => (wpB F b).1 r m1 (fun w m2 => cmpW op v w m2 fun t => Q (.bool t) m2) R) R
  | .chain o1 o2 a b c => prT fun r m Q R => (wpB F a).1 r m (fun v m1 => (wpB F b).1 r m1 (fun w m2 => cmpW o1 v w m2 fun t =>
      if t = true then (wpB F c).1 r m2 (fun u m3 => cmpW o2 w u m3 fun t => Q (.bool t) m3) R else Q (.bool false) m2) R) R
  | .isN neg a => prT fun r m Q R => (wpB F a).1 r m (fun v m1 => Q (.bool (neg != isNon v)) m1) R
  | .one a => wpB F a
  | .and a b => (fun r m Q R => (wpB F a).1 r m (fun v m1 => ∃ t, tru m1 v = some t ∧ if t = true then (wpB F b).1 r m1 Q R else Q v m1) R,
      fun r m Q R => (wpB F a).2 r m (fun t m1 => if t = true then (wpB F b).2 r m1 Q R else Q false m1) R)
  | .or a b => (fun r m Q R => (wpB F a).1 r m (fun v m1 => ∃ t, tru m1 v = some t ∧ if t = true then Q v m1 else (wpB F b).1 r m1 Q R) R,
      fun r m Q R => (wpB F a).2 r m (fun t m1 => if t = true then Q true m1 else (wpB F b).2 r m1 Q R) R)
  | .not a => (fun r m Q R => (wpB F a).1 r m (fun v m1 => ∃ t, tru m1 v = some t ∧ Q (.bool (!t)) m1) R, fun r m Q R => (wpB F a).2 r m (fun t m1 => Q (!t) m1) R)
  | .ite c a b => (fun r m Q R => (wpB F c).2 r m (fun t m1 => if t = true then (wpB F a).1 r m1 Q R else (wpB F b).1 r m1 Q R) R,
      fun r m Q R => (wpB F c).2 r m (fun t m1 => if t = true then (wpB F a).2 r m1 Q R else (wpB F b).2 r m1 Q R) R)
  | .call f args => prT fun r m Q R => (wpB F args).1 r m (fun v m1 => ∃ vs, v = .tup vs ∧ F f vs m1 Q R) R
  | .bi b args => prT fun r m Q R => (wpB F args).1 r m (fun v m1 => ∃ vs, v = .tup vs ∧ biW b vs m1 Q) R
  | .isI t a => prT fun r m Q R => (wpB F a).1 r m (fun v m1 => ∃ kk, kd m1 v = some kk ∧ Q (.bool (isK t kk)) m1) R
  | .meth t o args => prT fun r m Q R => (wpB F o).1 r m (fun v m1 => mtT m1 t v ∧ (wpB F args).1 r m1 (fun w m2 => ∃ vs, w = .tup vs ∧ mtW t v vs m2 Q) R) R
  | .idx a i => prT fun r m Q R => (wpB F a).1 r m (fun v m1 => (wpB F i).1 r m1 (fun w m2 => ∃ u, idxF m2 v w = some u ∧ Q u m2) R) R
  | .sl hl hh a lo hi => prT fun r m Q R => (wpB F a).1 r m (fun v m1 => (wpB F lo).1 r m1 (fun l m2 => ∃ i, partF hl l = some i ∧ (wpB F hi).1 r m2 (fun u m3 => ∃ j, partF hh u = some j ∧ ∃ z, sliceF m3 v i j = some z ∧ Q z m3) R) R) R
  | .lc mu own tg ik e1 e2 cond elt => prT fun r m Q R => (wpB F e1).1 r m (fun v1 m1 => (wpB F e2).1 r m1 (fun v2 m2 => ∃ items, itF ik m2 v1 v2 = some items ∧
      lcW (fun m => itF ik m v1 v2 = some items) (fun x m P => ∃ r2, tgF tg x (wipeE r own) = some r2 ∧ (wpB F cond).2 r2 m (fun t m1 =>
        if t = true then (wpB F elt).1 r2 m1 (fun y m2 => P (some y) m2) noR else P none m1) noR) items [] m2 fun acc m3 => newL mu acc m3 Q) R) R
  | .scons a b => prT fun r m Q R => (wpB F a).1 r m (fun v m1 => ∃ us, sq m1 v = some us ∧ (wpB F b).1 r m1 (fun w m2 => ∃ vs, w = .tup vs ∧ Q (.tup (us ++ vs)) m2) R) R
  | .kd op kvs k d => prT fun r m Q R => (wpB F k).1 r m (fun kv m1 => (wpB F d).1 r m1 (fun dv m2 => kdW op kvs kv dv fun v => Q v m2) R) R
  | .isO k a => prT fun r m Q R => (wpB F a).1 r m (fun v m1 => ∃ kk, kd m1 v = some kk ∧ Q (.bool (isO k kk)) m1) R
  | .attr f a => prT fun r m Q R => (wpB F a).1 r m (fun v m1 => ∃ w, attrF m1 f v = some w ∧ Q w m1) R
  | .dsp ks es => prT fun r m Q R => (wpB F es).1 r m (fun v m1 => ∃ vs, v = .tup vs ∧ (ks.Nodup ∧ ks.length = vs.length ∧ ks.length ≤ 15) ∧ Q (.dic ks vs) m1) R
  | .mk c f nn mm pm args kargs => prT fun r m Q R => (wpB F args).1 r m (fun v m1 => ∃ vs, v = .tup vs ∧ (wpB F kargs).1 r m1 (fun w m2 => ∃ zs, w = .tup zs ∧ (vs.length = nn ∧ zs.length = mm) ∧ ∃ ps, fillP pm (vs ++ zs) = some ps ∧
      F f (.loc m2.length :: ps) (m2 ++ [.inst c [] []]) (fun u m3 => u = .non ∧ Q (.loc m2.length) m3) R) R) R
  | .mc c f nm o args => prT fun r m Q R => (wpB F o).1 r m (fun v m1 => isInN m1 c nm v ∧ (wpB F args).1 r m1 (fun w m2 => ∃ vs, w = .tup vs ∧ F f (v :: vs) m2 Q R) R) R
  | .prop c f _ o => prT fun r m Q R => (wpB F o).1 r m (fun v m1 => isIn m1 c v ∧ F f [v] m1 Q noR) R
  | .oeq neg c f a b => prT fun r m Q R => (wpB F a).1 r m (fun v m1 => (wpB F b).1 r m1 (fun w m2 => isIn m2 c v ∧ ((kd m2 w).isSome = true ∧ notErr w = true) ∧ F f [v, w] m2 (fun u m3 => ∃ t, u = .bool t ∧ Q (.bool (neg != t)) m3) noR) R) R
def wpE (F : Nat → FS) (e : E) : WE0 := (wpB F e).1
def wpT (F : Nat → FS) (e : E) : WT0 := (wpB F e).2
def wpA (F : Nat → FS) (e : E) : WA0 := fun r m Q R => wpE F e r m (fun v m1 => ∃ vs, v = .tup vs ∧ Q vs m1) R
end Dy

/-! Dp, part F: defs by what they are worth; which text an expression stands for. -/
namespace Dy
open PySem PySem.Spec L2
variable [Kx]
/-! ### equal values -/
mutual
def veq : Val → Val → Bool
  | .non, .non => true
  | .bool a, .bool b => a == b
  | .int a, .int b => a == b
  | .str a, .str b => a == b
  | .tup a, .tup b => veqs a b
  | .il o a, .il p b => (o == p) && veqs a b
  | .loc a, .loc b => a == b
  | .err c a, .err d b => (c == d) && veq a b
  | .dic ks a, .dic ls b => (ks == ls) && veqs a b
  | .fn a, .fn b => a == b
  | _, _ => false
def veqs : List Val → List Val → Bool
  | [], [] => true
  | a :: r, b :: s => veq a b && veqs r s
  | _, _ => false
end
mutual
theorem veq_eq : ∀ {a b : Val}, veq a b = true → a = b
  | .non, b, h => by cases b <;> simp [veq] at h; rfl
  | .bool a, b, h => by cases b <;> simp [veq] at h; rw [h]
  | .int a, b, h => by cases b <;> simp [veq] at h; rw [h]
  | .str a, b, h => by cases b <;> simp [veq] at h; rw [h]
  | .tup a, b, h => by cases b <;> simp [veq] at h; rw [veqs_eq h]
  | .il o a, b, h => by cases b <;> simp [veq] at h; rw [h.1, veqs_eq h.2]
  | .loc a, b, h => by cases b <;> simp [veq] at h; rw [h]
  | .err c a, b, h => by cases b <;> simp [veq] at h; rw [h.1, veq_eq h.2]
  | .dic ks a, b, h => by cases b <;> simp [veq] at h; rw [h.1, veqs_eq h.2]
  | .fn a, b, h => by cases b <;> simp [veq] at h; rw [h]
theorem veqs_eq : ∀ {a b : List Val}, veqs a b = true → a = b
  | [], [], _ => rfl
  | [], _ :: _, h => by simp [veqs] at h
  | _ :: _, [], h => by simp [veqs] at h
  | a :: r, b :: s, h => by
    simp [veqs] at h
    rw [veq_eq h.1, veqs_eq h.2]
end
/-! ### a def's promise, where no repr is under way -/
structure FnG (P : Program) (w : World) (K : Frag) (mg : Str → Option Value) (base : Heap) (k : Nat) (f : Addr) (fd : FuncData) (ps : List Str) (sp : Sp) : Prop where
  len : ∀ vs H Q E, sp vs H Q E → vs.length = ps.length
  run : ∀ (A : Around) (outer : List PySem.Env) (s : Shared) (H : Hp) (args : Args) (us : List Value) (vs : List V) (Q : VK) (E : XK), Room k A → A.guards = some [] → Env0 P w K mg base A outer s H →
    BindsTo s fd args (ps.zip us) → Vals vs us → sp vs H Q E → codeAny (model P w) A (.call (.ref f) args) (CR (L2.CX P w) outer P w H s Q E) s
def ContE (K : Frag) (cl : Cls) (W : Wd) (H : Hp) (R : Rq) (E : XK) : Prop :=
  ∀ (W' : Wd) (c : Nat) (v : Val) (x : V) (d : Addr) (m' : Store) (H' : Hp), Ext W H W' H' → RV K W' H' v x → HR K W' m' H' → okE c → H' d = some (.xd [("value", x)]) → R c v m' → E (.ref (cl c)) (some d) H'
/-- the promise of a def of n parameters -/
def spG (K : Frag) (cl : Cls) (n : Nat) (fs : FS) : Sp := fun vs H Q E =>
  ∃ (W : Wd) (args : List Val) (m : Store) (Qd : Val → Store → Prop) (R : Rq), vs.length = n ∧ RVs K W H args vs ∧ HR K W m H ∧ fs args m Qd R ∧ Cont K W H Qd Q ∧ ContE K cl W H R E
section
variable {X : Cx} {k : Nat} {f : Addr} {fd : FuncData} {ps : List Str} {sp : Sp} {x : Str} {p pos : Pos} {e : Expr} {es : List Expr} {t : TA} {Wx : WX}
theorem run_fnG {pins : List (Addr × Obj)} {σ : St} {H : Hp} {s : Shared} {Q : VK} {us : List Value} {vs : List V} (F : FnG X.prog X.w X.K X.mg X.base k f fd ps sp) (hr : Room k X.A) (hg : X.A.guards = some []) (hb : Binds X.K fd ps []) (tk : Takes X Wx)
    (I : Inv X pins σ H s) (r : Vals vs us) (h : sp vs H Q fun c d H' => Wx c d σ H') : wpAny (model X.prog X.w) X.A (call (.ref f) us) (EP X pins σ Q) X.xe s := by
  have hl : us.length = ps.length := r.length ▸ F.len _ _ _ _ h
  have b : BindsTo s fd ⟨us, []⟩ (ps.zip us) := by
    have b := hb s us I.kIn (by rw [List.append_nil]; exact hl)
    rw [List.append_nil] at b
    exact b
  refine wpAny_call (codeAny_mono (F.run X.A X.stack s H ⟨us, []⟩ us vs Q _ hr hg I.env0 b r h) fun z s' hq => ?_)
  match z, hq with
  | .error e, hq => exact tk e s' (XE.of_call I (fun _ _ _ q => q) hq)
  | .ok (.ret u), hq => exact I.after hq
theorem pe_callG (F : FnG X.prog X.w X.K X.mg X.base k f fd ps sp) (hr : Room k X.A) (hgu : X.A.guards = some []) (hg : Gl X x) (hm : X.mg x = some (.ref f)) (hk : PySem.W.keepIn X.K (.ref f) = true) (hb : Binds X.K fd ps []) (tk : Takes X Wx) (ha : PA X (e :: es) t)
    (hdb : (x == ("__debug__" : Str)) = false) (he : starEach (e :: es) X.env = (false, eval e X.env) :: starEach es X.env) (hpl : (backTo pos (starEach es X.env)).any (·.1) = false) :
    PE X (.Call (.Name x p) (e :: es) [] pos) (fun σ H Q => t σ H fun vs H1 => sp vs H1 Q fun c d H' => Wx c d σ H') := by
  constructor
  intro pins s σ H Q I h
  refine wpAny_Call_Name_kw (ld_glob I hg hm ?_ hdb)
  refine PySem.W.callWith_K (h₀ := X.base) I.ok.mod.kin hk (thn (ha.run pos pins s σ H _ I h) ?_) he hpl
  rintro us s1 ⟨vs, H1, I1, r, q⟩
  exact ⟨I1.kIn, run_fnG F hr hgu hb tk I1 r q⟩
end
/-! ### the text -/
/-- how a class is called: its name, how many values, which names; its number, its __init__, how the parameters are filled -/
structure MkI where
  x : Str
  n : Nat
  ks : List Str
  c : Nat
  f : Nat
  pm : List (Nat ⊕ Val)
def pmEq : List (Nat ⊕ Val) → List (Nat ⊕ Val) → Bool
  | [], [] => true
  | .inl i :: r, .inl j :: t => (i == j) && pmEq r t
  | .inr v :: r, .inr w :: t => veq v w && pmEq r t
  | _, _ => false
theorem pm_eq : ∀ {a b : List (Nat ⊕ Val)}, pmEq a b = true → a = b
  | [], [], _ => rfl
  | [], _ :: _, h => by simp [pmEq] at h
  | .inl i :: r, [], h => by simp [pmEq] at h
  | .inr i :: r, [], h => by simp [pmEq] at h
  | .inl i :: r, .inl j :: t, h => by
    simp only [pmEq, Bool.and_eq_true, beq_iff_eq] at h
    rw [h.1, pm_eq h.2]
  | .inr v :: r, .inr w :: t, h => by
    simp only [pmEq, Bool.and_eq_true] at h
    rw [veq_eq h.1, pm_eq h.2]
  | .inl i :: r, .inr j :: t, h => by simp [pmEq] at h
  | .inr i :: r, .inl j :: t, h => by simp [pmEq] at h
structure Cc where
  N : List Str
  names : List (Str × NameKind)
  top : Bool
  gl : List (Str × Val)
  bl : List Str
  fns : List (Str × Nat)
  kd : List (Str × List (Text × Val))
  cls : List (Str × Nat)
  mts : List (Str × Nat × Nat)
  prs : List (Str × Nat × Nat)
  mks : List MkI
  eqs : List (Nat × Nat)
  ats : List Str
def noStar : Expr → Bool
  | .Starred _ _ => false
  | _ => true
def isGl (c : Cc) (x : Str) : Bool := decide (c.names.lookup x = some .globalImplicit) && !(x == ("__debug__" : Str))
def isVis (c : Cc) (x : Str) : Bool := decide (c.names.lookup x = some .local) || decide (c.names.lookup x = some .cell) || decide (c.names.lookup x = some .free)
def plainName (x : Str) : Bool := !(x == ("__debug__" : Str)) && !(x == ("__classdict__" : Str))
def canSet (c : Cc) (i : Nat) (x : Str) : Bool := decide (c.N[i]? = some x) && (decide (c.names.lookup x = some .local) || (c.top && decide (c.names.lookup x = some .cell)))
def chkNames (c : Cc) : List Expr → List Nat → Bool
  | [], [] => true
  | .Name x _ :: r, i :: is => canSet c i x && chkNames c r is
  | _, _ => false
def chkTg (c : Cc) (e : Expr) : Tg → Bool
  | .name i => match e with
    | .Name x _ => canSet c i x
    | _ => false
  | .tup is => match e with
    | .Tuple es _ _ => chkNames c es is
    | _ => false
/-- no call that takes nothing -/
def baseOk : Expr → Bool
  | .Call (.Name _ _) [] [] _ => false
  | _ => true
def notSlice : Expr → Bool
  | .Slice _ _ _ _ => false
  | _ => true
def notSet : Expr → Bool
  | .Set _ _ _ => false
  | _ => true
def blkNames (c : Cc) (scope : Scope) : List (Str × NameKind) :=
  scope.names.map fun (n, k) => if (k == .free && decide (c.names.lookup n = some .cell)) then (n, .cell) else (n, k)
def ownOf (c : Cc) : List Nat → List (Str × Nat)
  | [] => []
  | i :: is => ((c.N[i]?).getD "", i) :: ownOf c is
def tgIn (own : List Nat) : Tg → Bool
  | .name i => own.contains i
  | .tup is => is.all own.contains
def Cc.blk (c : Cc) (scope : Scope) : Cc := { c with names := blkNames c scope, top := false }
def isCst : E → Bool
  | .cst .non => true
  | _ => false
def isYes : E → Bool
  | .cst (.bool true) => true
  | _ => false
/-- a part of a slice -/
def chkO (has no : Bool) (o : Option Expr) (f : Expr → Bool) : Bool :=
  match o with
  | none => !has && no
  | some x => has && f x
/-- the tests of a comprehension -/
def chkC (ifs : List Expr) (yes : Bool) (f : Expr → Bool) : Bool :=
  match ifs with
  | [] => yes
  | [x] => f x
  | _ => false
def isTupT : Expr → Bool
  | .Tuple _ _ _ => true
  | _ => false
/-- equal tables -/
def kvsEq : List (Text × Val) → List (Text × Val) → Bool
  | [], [] => true
  | (s, a) :: r, (t, b) :: u => (s == t) && veq a b && kvsEq r u
  | _, _ => false
theorem kvs_eq : ∀ {a b : List (Text × Val)}, kvsEq a b = true → a = b
  | [], [], _ => rfl
  | [], _ :: _, h => by simp [kvsEq] at h
  | _ :: _, [], h => by simp [kvsEq] at h
  | (s, a) :: r, (t, b) :: u, h => by
    simp only [kvsEq, Bool.and_eq_true, beq_iff_eq] at h
    rw [h.1.1, veq_eq h.1.2, kvs_eq h.2]
/-- the table that a name of the module holds -/
def kdOk (c : Cc) (x : Str) (kvs : List (Text × Val)) : Bool := isGl c x && (match c.kd.lookup x with | some u => kvsEq kvs u | none => false)
theorem kdOk_of {c : Cc} {x : Str} {kvs : List (Text × Val)} (h : kdOk c x kvs = true) : isGl c x = true ∧ c.kd.lookup x = some kvs := by
  unfold kdOk at h
  rw [Bool.and_eq_true] at h
  refine ⟨h.1, ?_⟩
  have h2 := h.2
  cases e : c.kd.lookup x with
  | none => rw [e] at h2; cases h2
  | some u => rw [e] at h2; rw [kvs_eq h2]
/-- what is walked -/
def chkIt (c : Cc) (t it : Expr) (ik : IK) (no2 : Bool) (f1 f2 : Expr → Bool) : Bool :=
  match ik with
  | .seq => no2 && f1 it
  | .rng1 => match it with
    | .Call (.Name x _) [y] [] _ => isGl c x && (x == ("range" : Str)) && c.bl.contains x && noStar y && no2 && f1 y
    | _ => false
  | .rng2 => match it with
    | .Call (.Name x _) [y, z] [] _ => isGl c x && (x == ("range" : Str)) && c.bl.contains x && noStar y && noStar z && f1 y && f2 z
    | _ => false
  | .zip => match it with
    | .Call (.Name x _) [y, z] [] _ => isTupT t && isGl c x && (x == ("zip" : Str)) && c.bl.contains x && noStar y && noStar z && f1 y && f2 z
    | _ => false
/-- written keys of a dict -/
def keysAre : List (Option Expr) → List Text → Bool
  | [], [] => true
  | some (.Constant (.str s) _ _) :: r, t :: ts => decide (s = SX.S t) && keysAre r ts
  | _, _ => false
/-- the class is called in one of the ways that are known -/
def mksHas (mks : List MkI) (x : Str) (n : Nat) (ks : List (Option Str)) (k f : Nat) (pm : List (Nat ⊕ Val)) : Bool :=
  mks.any fun i => (i.x == x) && (i.n == n) && decide (i.ks.map some = ks) && (i.c == k) && (i.f == f) && pmEq i.pm pm
mutual
def chk (c : Cc) (e : Expr) : E → Bool
  | .var i => match e with
    | .Name x _ => decide (c.N[i]? = some x) && isVis c x && plainName x
    | _ => false
  | .cst v => match e with
    | .Constant .none _ _ => veq v .non
    | .Constant (.bool b) _ _ => veq v (.bool b)
    | .Constant (.int i) _ _ => veq v (.int i)
    | .Constant (.str s) _ _ => veq v (.str s.cps.toList)
    | .Name x _ => isGl c x && ((match c.gl.lookup x with | some u => veq v u | none => false) || (match v with | .fn k => decide (c.fns.lookup x = some k) | _ => false))
    | _ => false
  | .nil => false
  | .cons _ _ => false
  | .tup es => match e with
    | .Tuple xs _ _ => chkD c xs es
    | _ => false
  | .lst _ es => match e with
    | .List xs _ => chkD c xs es
    | _ => false
  | .bin o a b => match e with
    | .BinOp l op r _ => decide (o.op = op) && chk c l a && chk c r b
    | _ => false
  | .neg a => match e with
    | .UnaryOp .USub x _ => chk c x a
    | _ => false
  | .cmp o a b => match e with
    | .Compare l [op] [r] _ => decide (o.op = op) && notSet r && chk c l a && chk c r b
    | _ => false
  | .chain o1 o2 a b d => match e with
    | .Compare l [p1, p2] [r, s] _ => decide (o1.op = p1) && decide (o2.op = p2) && notSet s && chk c l a && chk c r b && chk c s d
    | _ => false
  | .one _ => false
  | .isN neg a => match e with
    | .Compare l [op] [.Constant .none _ _] _ => decide (op = if neg then .IsNot else .Is) && chk c l a
    | _ => false
  | .and a b => match e with
    | .BoolOp .And (x :: y :: r) p => chk c x a && chkB c .And (y :: r) b
    | _ => false
  | .or a b => match e with
    | .BoolOp .Or (x :: y :: r) p => chk c x a && chkB c .Or (y :: r) b
    | _ => false
  | .not a => match e with
    | .UnaryOp .Not x _ => chk c x a
    | _ => false
  | .ite t a b => match e with
    | .IfExp z x y _ => chk c z t && chk c x a && chk c y b
    | _ => false
  | .call f args => match e with
    | .Call (.Name x _) (y :: ys) [] _ => isGl c x && decide (c.fns.lookup x = some f) && chkL c (y :: ys) args
    | _ => false
  | .bi b args => match e with
    | .Call (.Name x _) (y :: ys) [] _ => isGl c x && (x == b.name) && c.bl.contains x && chkL c (y :: ys) args
    | _ => false
  | .isI t a => match e with
    | .Call (.Name x _) [y, .Name z _] [] _ => isGl c x && (x == ("isinstance" : Str)) && c.bl.contains x && isGl c z && (z == Str.ofString t.name) && c.bl.contains z && noStar y && chk c y a
    | _ => false
  | .meth t o args => match e with
    | .Call (.Attribute y name ap) (z :: zs) [] p => (name == t.name) && (ap.endLine == p.line) && baseOk y && decide ((z :: zs).length < 20) && chk c y o && chkL c (z :: zs) args
    | _ => false
  | .idx a i => match e with
    | .Subscript x y _ => notSlice y && chk c x a && chk c y i
    | _ => false
  | .sl hl hh a lo hi => match e with
    | .Subscript x (.Slice l h none _) _ => chk c x a && chkO hl (isCst lo) l (fun y => chk c y lo) && chkO hh (isCst hi) h (fun y => chk c y hi)
    | _ => false
  | .lc _ own tg ik e1 e2 cond elt => match e with
    | .ListComp y [⟨t, it, ifs, as⟩] scope _ => decide (as = 0) && blkC c.N { kind := .function, names := c.names, isGenerator := false, isCoroutine := false } scope (ownOf c own) && tgIn own tg && chkTg (c.blk scope) t tg &&
        chkIt c t it ik (isCst e2) (fun z => chk c z e1) (fun z => chk c z e2) && notSet it && chkC ifs (isYes cond) (fun z => chk (c.blk scope) z cond) && chk (c.blk scope) y elt
    | _ => false
  | .scons _ _ => false
  | .kd op kvs k d => match op with
    | .get1 => match e with
      | .Call (.Attribute (.Name x _) name ap) [y] [] p => kdOk c x kvs && (name == ("get" : Str)) && (ap.endLine == p.line) && noStar y && isCst d && chk c y k
      | _ => false
    | .get2 => match e with
      | .Call (.Attribute (.Name x _) name ap) [y, z] [] p => kdOk c x kvs && (name == ("get" : Str)) && (ap.endLine == p.line) && noStar y && noStar z && chk c y k && chk c z d
      | _ => false
    | .idx => match e with
      | .Subscript (.Name x _) y _ => kdOk c x kvs && notSlice y && isCst d && chk c y k
      | _ => false
    | .isin => match e with
      | .Compare l [op] [.Name x _] _ => decide (op = .In) && kdOk c x kvs && isCst d && chk c l k
      | _ => false
    | .notin => match e with
      | .Compare l [op] [.Name x _] _ => decide (op = .NotIn) && kdOk c x kvs && isCst d && chk c l k
      | _ => false
  | .isO k a => match e with
    | .Call (.Name x _) [y, .Name z _] [] _ => isGl c x && (x == ("isinstance" : Str)) && c.bl.contains x && isGl c z && decide (c.cls.lookup z = some k) && noStar y && chk c y a
    | _ => false
  | .attr f a => match e with
    | .Attribute y name _ => (name == f) && c.ats.contains f && baseOk y && chk c y a
    | _ => false
  | .dsp ks es => match e with
    | .Dict keys vs _ => keysAre keys ks && (keys.length == vs.length) && decide (keys.length ≤ 15) && chkL c vs es
    | _ => false
  | .mk k f nn mm pm args kargs => match e with
    | .Call (.Name x _) es kws _ => (nn == es.length) && (mm == kws.length) && isGl c x && mksHas c.mks x es.length (kws.map (·.arg)) k f pm && chkL c es args && chkL c (kws.map (·.value)) kargs
    | _ => false
  | .mc k f nm o args => match e with
    | .Call (.Attribute y name ap) es [] p => (name == nm) && c.mts.contains (nm, k, f) && (ap.endLine == p.line) && baseOk y && decide (es.length < 20) && chk c y o && chkL c es args
    | _ => false
  | .prop k f nm o => match e with
    | .Attribute y name _ => (name == nm) && c.prs.contains (nm, k, f) && baseOk y && chk c y o
    | _ => false
  | .oeq neg k f a b => match e with
    | .Compare l [op] [r] _ => decide (op = if neg then .NotEq else .Eq) && c.eqs.contains (k, f) && notSet r && chk c l a && chk c r b
    | _ => false
/-- what stands in a display -/
def chkD (c : Cc) (es : List Expr) : E → Bool
  | .nil => match es with
    | [] => true
    | _ => false
  | .cons a b => match es with
    | x :: r => noStar x && chk c x a && chkD c r b
    | _ => false
  | .scons a b => match es with
    | .Starred x _ :: r => chk c x a && chkD c r b
    | _ => false
  | _ => false
/-- lists of expressions -/
def chkL (c : Cc) (es : List Expr) : E → Bool
  | .nil => match es with
    | [] => true
    | _ => false
  | .cons a b => match es with
    | x :: r => noStar x && chk c x a && chkL c r b
    | _ => false
  | _ => false
/-- what stands behind the first part of and, or -/
def chkB (c : Cc) (op : BoolOp) (es : List Expr) : E → Bool
  | .one a => match es with
    | [x] => chk c x a
    | _ => false
  | .and a b => match es with
    | x :: y :: r => decide (op = .And) && chk c x a && chkB c .And (y :: r) b
    | _ => false
  | .or a b => match es with
    | x :: y :: r => decide (op = .Or) && chk c x a && chkB c .Or (y :: r) b
    | _ => false
  | _ => false
end
end Dy

set_option maxHeartbeats 1000000
/-! Dp, part W: tables of the module, stars in displays and targets, by the hand layer's judgements. -/
namespace Dy
open PySem PySem.Spec PyProof.Rows L2
variable [Kx]
/-- the entries of a written dict -/
def KRel (K : Frag) : List DictEntry → List (Text × Val) → Prop
  | [], [] => True
  | e :: es, p :: kvs => (∃ t, e.key = .str (SX.S p.1) t) ∧ (∃ xv, RelV xv e.val ∧ ∀ W H, RV K W H p.2 xv) ∧ KRel K es kvs
  | _, _ => False
/-- a written dict and what it holds -/
def KdAt (K : Frag) (w : World) (a : Addr) (kvs : List (Text × Val)) : Prop := ∃ es n, KDict K w a es n ∧ KRel K es.toList kvs
theorem krel_find {K : Frag} (t : Text) : ∀ {es : List DictEntry} {kvs : List (Text × Val)}, KRel K es kvs → (match kvs.lookup t with
    | none => es.find? (·.key.isStr (SX.S t)) = none
    | some v => ∃ e, es.find? (·.key.isStr (SX.S t)) = some e ∧ ∃ xv, RelV xv e.val ∧ ∀ W H, RV K W H v xv) ∧ es.any (·.refKey) = false
  | [], [], _ => ⟨rfl, rfl⟩
  | e :: es, (s, v) :: kvs, ⟨⟨tk, hk⟩, hv, hr⟩ => by
    obtain ⟨h1, h2⟩ := krel_find t hr
    have eb : e.key.isStr (SX.S t) = (s == t) := by
      rw [hk]
      show (SX.S s == SX.S t) = _
      exact SX.S_beq s t
    refine ⟨?_, by rw [List.any_cons, h2]; unfold DictEntry.refKey; rw [hk]; rfl⟩
    rw [List.find?_cons, eb]
    simp only [List.lookup]
    rw [show (t == s) = (s == t) from Bool.eq_iff_iff.mpr ⟨fun h => by simpa using (eq_of_beq h).symm, fun h => by simpa using (eq_of_beq h).symm⟩]
    cases hst : (s == t) with
    | true => exact ⟨e, rfl, hv⟩
    | false => exact h1
  | [], _ :: _, h => h.elim
  | _ :: _, [], h => h.elim
/-- what is found at a key -/
theorem kd_ns {K : Frag} {w : World} {a : Addr} {kvs : List (Text × Val)} {es : Array DictEntry} {n : Nat} (D : KDict K w a es n) (R : KRel K es.toList kvs) (t : Text) : ∃ r, PySem.W.nsIn K a (SX.S t) = some r ∧ (match kvs.lookup t with
    | none => r = none
    | some v => ∃ u xv, r = some u ∧ RelV xv u ∧ ∀ W H, RV K W H v xv) := by
  obtain ⟨h1, h2⟩ := krel_find t R
  unfold PySem.W.nsIn
  rw [D.at_]
  dsimp only
  cases hl : kvs.lookup t with
  | none =>
    rw [hl] at h1
    rw [h1, h2]
    exact ⟨none, rfl, rfl⟩
  | some v =>
    rw [hl] at h1
    obtain ⟨e, he, xv, rv, q⟩ := h1
    rw [he]
    exact ⟨some e.val, rfl, _, xv, rfl, rv, q⟩
section
variable {X : Cx} {a : Addr} {es : Array DictEntry} {n : Nat} {o e f : Expr} {ty tx : TE} {apos cpos : Pos}
/-- T.get(k, x) of a written dict -/
theorem pe_kget2 (D : KDict X.K X.w a es n) (ho : PE X o (tC (.ref a))) (he : PE X e ty) (hf : PE X f tx) (m : M2 X o "get" apos e f cpos) :
    PE X (.Call (.Attribute o "get" apos) [e, f] [] cpos) (fun σ H Q => ty σ H fun y H2 => tx σ H2 fun z H3 => ∃ t r, y = .str t ∧ PySem.W.nsIn X.K a t = some r ∧ (r = none → Q z H3) ∧ ∀ u, r = some u → ∃ v, RelV v u ∧ Q v H3) := by
  constructor
  intro pins s σ H Q I h
  refine wpAny_Call_method m.base m.few m.line PySem.F.plainAttrs_dict PySem.F.slot_dict_get PySem.F.type_dict_get (thn (ho.run pins s σ H (fun x H1 => x = .ref a ∧ H1 = H) I ⟨rfl, rfl⟩) ?_)
  rintro u s1 ⟨x, H1, I1, rx, rfl, rfl⟩
  obtain rfl : u = Value.ref a := rx
  refine ⟨kd_type D I1, fun b q => ?_, ?_⟩
  · cases q
    exact ⟨_, I1.kIn _ _ D.at_, rfl⟩
  rw [m.trees]
  refine Calls.callWith_builtin rfl (Calls.evalArgs_plain (Calls.spliced_cons (thn (he.run pins s1 σ H1 _ I1 h) ?_)))
  rintro iv s2 ⟨y, H2, I2, ry, q2⟩
  refine Calls.spliced_cons (thn (hf.run pins s2 σ H2 _ I2 q2) ?_)
  rintro fv s3 ⟨z, H3, I3, rz, t, r, rfl, ns, q3, q4⟩
  refine Calls.spliced_nil ?_
  obtain ⟨tk, rfl⟩ := ry
  refine call_meetsIn PySem.F.slot_dict_get (kd_type D I3) PySem.F.entry_dict_get (PySem.F.args_dict_get_3 _ _ _) (meets_dict_get_default (strKind X.prog X.w) a (strKind_is X.prog X.w t tk) D.low fv) ⟨_, PySem.W.mapOf_K (prog := X.prog) I3.kIn D.at_ D.lit, ?_⟩
  rw [PySem.W.find_K D.at_ ns]
  cases r with
  | none => exact ⟨z, H3, I3.tok _, rz, q3 rfl⟩
  | some u =>
    obtain ⟨v, rv, q⟩ := q4 u rfl
    exact ⟨v, H3, I3.tok _, rv, q⟩
theorem pe_kget1 (D : KDict X.K X.w a es n) (ho : PE X o (tC (.ref a))) (he : PE X e ty) (m : M1 X o "get" apos e cpos) :
    PE X (.Call (.Attribute o "get" apos) [e] [] cpos) (fun σ H Q => ty σ H fun y H2 => ∃ t r, y = .str t ∧ PySem.W.nsIn X.K a t = some r ∧ (r = none → Q .non H2) ∧ ∀ u, r = some u → ∃ v, RelV v u ∧ Q v H2) := by
  constructor
  intro pins s σ H Q I h
  refine wpAny_Call_method m.base m.few m.line PySem.F.plainAttrs_dict PySem.F.slot_dict_get PySem.F.type_dict_get (thn (ho.run pins s σ H (fun x H1 => x = .ref a ∧ H1 = H) I ⟨rfl, rfl⟩) ?_)
  rintro u s1 ⟨x, H1, I1, rx, rfl, rfl⟩
  obtain rfl : u = Value.ref a := rx
  refine ⟨kd_type D I1, fun b q => ?_, ?_⟩
  · cases q
    exact ⟨_, I1.kIn _ _ D.at_, rfl⟩
  rw [m.trees]
  refine Calls.callWith_builtin rfl (Calls.evalArgs_plain (Calls.spliced_cons (thn (he.run pins s1 σ H1 _ I1 h) ?_)))
  rintro iv s2 ⟨y, H2, I2, ry, t, r, rfl, ns, q3, q4⟩
  refine Calls.spliced_nil ?_
  obtain ⟨tk, rfl⟩ := ry
  refine call_meetsIn PySem.F.slot_dict_get (kd_type D I2) PySem.F.entry_dict_get (PySem.F.args_dict_get_2 _ _) (meets_dict_get (strKind X.prog X.w) a (strKind_is X.prog X.w t tk) D.low) ⟨_, PySem.W.mapOf_K (prog := X.prog) I2.kIn D.at_ D.lit, ?_⟩
  rw [PySem.W.find_K D.at_ ns]
  cases r with
  | none => exact ⟨.non, H2, I2.tok _, rfl, q3 rfl⟩
  | some u =>
    obtain ⟨v, rv, q⟩ := q4 u rfl
    exact ⟨v, H2, I2.tok _, rv, q⟩
end
/-! ### a, b, *c = .. -/
section
variable {X : Cx}
def gStar (K : Frag) (i : Nat) (t : TGs) : TG := fun v σ H Q => ∃ (k : Bool) (a : Addr) (xs : List V), v = .ref a ∧ DyZ.SqG k K H a xs ∧ i ≤ xs.length ∧ ∀ p, H p = none → t (xs.take i ++ [.ref p]) σ (upd H p (.lst (xs.drop i))) Q
theorem vals_take {xs : List V} {us : List Value} (r : Vals xs us) : ∀ n, Vals (xs.take n) (us.take n) := by
  induction r with
  | nil => intro n; simp; exact .nil
  | cons a b ih =>
    intro n
    cases n with
    | zero => exact .nil
    | succ n => exact .cons a (ih n)
theorem vals_drop {xs : List V} {us : List Value} (r : Vals xs us) : ∀ n, Vals (xs.drop n) (us.drop n) := by
  induction r with
  | nil => intro n; simp; exact .nil
  | cons a b ih =>
    intro n
    cases n with
    | zero => exact .cons a b
    | succ n => exact ih n
theorem pg_star {es : List Expr} {kk i : Nat} {t : TGs} {pos : Pos} (hc : X.calm = true) (h : PGs X es t) (hn : (assignEach es X.env).length = i + 1) (hst : (assignEach es X.env).findIdx? (·.1) = some i) : PG X (.Tuple es kk pos) (gStar X.K i t) := by
  constructor
  rintro pins s σ H v u Q I r ⟨k, a, xs, rfl, sq, hi, q⟩
  obtain rfl : u = Value.ref a := r
  obtain ⟨its, rv, m, lt⟩ := DyZ.sqG_at I sq
  have hz : its.length ≤ sizeLine := by
    cases k
    · obtain ⟨its', rv', _, hz⟩ := I.list sq
      have := rv.length; have := rv'.length
      omega
    · obtain ⟨its', rv', _, hz⟩ := I.tuple sq
      have := rv.length; have := rv'.length
      omega
  have hl := rv.length
  rw [assign_Tuple]
  refine wpAny_bind (wpAny_standAt ?_)
  unfold unpack
  rw [hn, hst]
  refine wpAny_bind (wpAny_holding (DyZ.star_unpack (I.ok.hd hc) m lt (by simp; omega) (by simpa using hz) fun h1 tk kp => ?_))
  have I1 : Inv X pins σ H { s with heap := h1, toks := tk } := I.kept kp
  have hf : H h1.objs.size = none := I1.hok.fresh (Nat.le_refl _)
  have rd := vals_drop rv i
  have I2 : Inv X pins σ (upd H h1.objs.size (.lst (xs.drop i))) { s with heap := h1.push { cls := .type "list", data := .seq (its.drop i).toArray }, toks := tk } :=
    I1.laid (t' := tk) (fun b u e => Heap.get?_push_of_some _ e) (Nat.le_refl _) ⟨by have := rd.length; simp at this ⊢; omega, its.drop i, 0, rd, Heap.get?_push_size _ rfl⟩
  exact h.run pins _ σ _ _ _ Q I2 ((vals_take rv i).append (.cons (show L2.RelV (V.ref h1.objs.size) (Value.ref h1.objs.size) from rfl) .nil)) (q _ hf)
theorem pgs_last {x : Str} {p p2 : Pos} {t : TG} (h : PG X (.Name x p) t) : PGs X [.Starred (.Name x p) p2] (gCons t gNil) :=
  ⟨fun pins s σ H vs us Q I r hq => (pgs_cons h pgs_nil).run pins s σ H vs us Q I r hq⟩
end
end Dy

/-! Dq, part E: classes called, methods, properties, an own == by what defs promise. -/
namespace Dy
open PySem PySem.Spec L2
variable [Kx]
theorem make_guards {A : Around} {C : Addr} {us : List Value} {kw : List (Str × Value)} (h : A.guards = some []) : (A.under (.builtin "type.__call__" ⟨.ref C :: us, kw⟩)).guards = some [] := by
  simp [Around.under, Code.guards, Code.isGuard, guardIds, h, pushGuards]
theorem meth_late {prog : Program} {w : World} {A : Around} {E : Value → Shared → Prop} {s : Shared} {env : PySem.Env} {o : Expr} {name : Str} {apos pos : Pos} {args : List Expr} {Q : Value → Shared → Prop}
    (hbase : attributeBase o name env (eval o env) = eval o env)
    (hfew : ((backTo pos (starEach args env)).all (fun x => !x.1) && (backToKw pos (keywordEach [] env)).all (fun x => x.1.isSome) && decide (args.length + ([] : List Keyword).length + (if ([] : List Keyword).isEmpty then 0 else 1) < 30)) = true)
    (hline : (apos.endLine == pos.line) = true)
    (h : wpAny (model prog w) A (eval o env) (fun ov s₁ => ∀ pl, wpAny (model prog w) A (getMethod ov name pl) (fun fx s₂ => wpAny (model prog w) A (callWith pos fx.1 fx.2 (backTo pos (starEach args env)) []) Q E s₂) E s₁) E s) :
    wpAny (model prog w) A (eval (.Call (.Attribute o name apos) args [] pos) env) Q E s := by
  rw [arm_eval_Call, hbase]
  refine wpAny_bind (wpAny_mono h (fun ov s₁ h₁ => ?_) fun _ _ e => e)
  refine wpAny_bind (wpAny_standAt ?_)
  have hform : methodCallForm (args.length + ([] : List Keyword).length) (backTo pos (starEach args env)) (backToKw pos (keywordEach [] env)) = true := hfew
  have hpos : methodCallPos true o env apos pos = pure pos := by unfold methodCallPos; simp [hline]
  unfold methodCall
  rw [hform]
  refine wpAny_bind (wpAny_holding (wpAny_mono (h₁ _) (fun fx s2 h2 => ?_) fun _ _ e => e))
  exact wpAny_bind (wpAny_of_eq hpos h2)
section
variable {X : Cx} {k n : Nat} {f C : Addr} {fd : FuncData} {ps ks : List Str} {sp : Sp} {Wx : WX} {x nm : Str} {p pos apos : Pos} {e o : Expr} {es : List Expr} {kws : List Keyword} {ta : TE} {t tk : TA} {g : List Value → List Value → List Value} {gV : List V → List V → List V}
/-- C(..): a new instance and its dict, then __init__ -/
def tMkG (C : Addr) (n m : Nat) (sp : Sp) (gV : List V → List V → List V) (Wx : WX) (t tk : TA) : TE := fun σ H Q => t σ H fun vs H1 => tk σ H1 fun zs H2 => vs.length = n ∧ zs.length = m ∧ ∀ x dx, H2 x = none → H2 dx = none → dx ≠ x →
  sp (gV (.ref x :: vs) zs) (upd (upd H2 dx (.own x)) x (.ins C dx [])) (fun v H3 => v = .non ∧ Q (.ref x) H3) fun c d H' => Wx c d σ H'
theorem run_mkG {pins : List (Addr × Obj)} {σ : St} {H : Hp} {s : Shared} {Q : VK} {us ws : List Value} {vs zs : List V} (M : Mk X.K C f) (F : FnG X.prog X.w X.K X.mg X.base k f fd ps sp) (hr : Room (k + 1) X.A) (hgu : X.A.guards = some []) (hb : KBn X.K fd ps (n + 1) ks g gV) (tkx : Takes X Wx)
    (I : Inv X pins σ H s) (r : Vals vs us) (rz : Vals zs ws) (l1 : vs.length = n) (l2 : zs.length = ks.length)
    (h : ∀ x dx, H x = none → H dx = none → dx ≠ x → sp (gV (.ref x :: vs) zs) (upd (upd H dx (.own x)) x (.ins C dx [])) (fun v H2 => v = .non ∧ Q (.ref x) H2) fun c d H' => Wx c d σ H') :
    wpAny (model X.prog X.w) X.A (call (.ref C) us (ks.zip ws)) (EP X pins σ Q) X.xe s := by
  have hq := h (s.heap.objs.size + 1) s.heap.objs.size (I.hok.fresh (Nat.le_succ _)) (I.hok.fresh (Nat.le_refl _)) (Nat.ne_of_lt (Nat.lt_succ_self _))
  have I2 := Inv.made (C := C) I
  have r1 : Vals (V.ref (s.heap.objs.size + 1) :: vs) (Value.ref (s.heap.objs.size + 1) :: us) := .cons rfl r
  have n1 : (Value.ref (s.heap.objs.size + 1) :: us).length = n + 1 := by rw [List.length_cons, ← r.length, l1]
  refine wpAny_call (make_map (f := f) I.kIn M.makes M.init (beq_iff_eq.mp M.fn) (codeAny_mono (F.run _ X.stack _ _ ⟨Value.ref (s.heap.objs.size + 1) :: us, ks.zip ws⟩ (g (Value.ref (s.heap.objs.size + 1) :: us) ws) _ _ _ (hr.make C us (ks.zip ws)) (make_guards hgu)
    (I2.env0.make C us (ks.zip ws)) (hb.to _ (Value.ref (s.heap.objs.size + 1) :: us) ws I2.kIn n1 (rz.length.symm.trans l2)) (hb.rel r1 rz) hq) fun r s' hq' => ?_))
  match r, hq' with
  | .error e, hq' => exact tkx e s' (XE.of_call I2 (fun _ _ _ q => q) hq')
  | .ok (.ret u), hq' =>
    obtain ⟨v, H', I3, rv, ev, q3⟩ := I2.after hq'
    subst ev
    exact ⟨rv, ⟨V.ref (s.heap.objs.size + 1), H', I3, rfl, q3⟩⟩
theorem pe_mkG (M : Mk X.K C f) (F : FnG X.prog X.w X.K X.mg X.base k f fd ps sp) (hr : Room (k + 1) X.A) (hgu : X.A.guards = some []) (hg : Gl X x) (hm : X.mg x = some (.ref C)) (hb : KBn X.K fd ps (n + 1) ks g gV) (tkx : Takes X Wx) (ha : PA X (e :: es) t) (hkw : PK X kws tk)
    (hs : starEach (e :: es) X.env = (false, eval e X.env) :: starEach es X.env) (hp : (backTo pos (starEach es X.env)).any (·.1) = false)
    (hall : (backToKw pos (keywordEach kws X.env)).all (·.1.isSome) = true) (hks : (backToKw pos (keywordEach kws X.env)).filterMap (·.1) = ks) (hdb : (x == ("__debug__" : Str)) = false)
    (hno : (backToKw pos (keywordEach kws X.env)).any (·.1.isNone) = false) : PE X (.Call (.Name x p) (e :: es) kws pos) (tMkG C n ks.length sp gV Wx t tk) := by
  constructor
  intro pins s σ H Q I h
  refine wpAny_Call_Name_kw (ld_glob I hg hm ?_ hdb)
  refine PySem.W.callWith_KW (h₀ := X.base) I.ok.mod.kin M.kp hall (thn (ha.run pos pins s σ H _ I h) fun us s1 ⟨vs, H1, I1, r, q⟩ => ?_) (by rw [hno, hs]; show ((false || (backTo pos (starEach es X.env)).any (·.1)) || false) = false; rw [hp]; rfl) hs
  refine thn (hkw.run pos pins s1 σ H1 _ I1 q) fun ws s2 ⟨zs, H2, I2, rz, l1, l2, q2⟩ => ⟨I2.kIn, ?_⟩
  rw [hks]
  exact run_mkG M F hr hgu hb tkx I2 r rz l1 l2 q2
theorem pe_mkG0 (M : Mk X.K C f) (F : FnG X.prog X.w X.K X.mg X.base k f fd ps sp) (hr : Room (k + 1) X.A) (hgu : X.A.guards = some []) (hg : Gl X x) (hm : X.mg x = some (.ref C)) (hb : KBn X.K fd ps 1 ks g gV) (tkx : Takes X Wx) (hkw : PK X kws tk)
    (hall : (backToKw pos (keywordEach kws X.env)).all (·.1.isSome) = true) (hks : (backToKw pos (keywordEach kws X.env)).filterMap (·.1) = ks) (hdb : (x == ("__debug__" : Str)) = false)
    (hno : (backToKw pos (keywordEach kws X.env)).any (·.1.isNone) = false) : PE X (.Call (.Name x p) [] kws pos) (tMkG C 0 ks.length sp gV Wx tNil tk) := by
  constructor
  intro pins s σ H Q I h
  refine wpAny_Call_Name_kw (ld_glob I hg hm ?_ hdb)
  refine PySem.W.callWith_KW0 (h₀ := X.base) I.ok.mod.kin M.kp hall ?_ (by rw [hno]; rfl)
  refine thn (hkw.run pos pins s σ H _ I h) fun ws s2 ⟨zs, H2, I2, rz, l1, l2, q2⟩ => ⟨I2.kIn, ?_⟩
  rw [hks]
  exact run_mkG (us := []) (vs := []) M F hr hgu hb tkx I2 .nil rz rfl l2 q2
/-- o.m(..) -/
def tMcG (C : Addr) (m : Str) (sp : Sp) (Wx : WX) (ta : TE) (t : TA) : TE := fun σ H Q => ta σ H fun x H1 => ∃ a dx fs, x = .ref a ∧ H1 a = some (.ins C dx fs) ∧ fs.lookup m = none ∧ t σ H1 fun vs H2 => sp (x :: vs) H2 Q fun c d H' => Wx c d σ H'
theorem pe_mcG (he : PE X o ta) (c : L2.Cls X.K C) (hm : Meth X.K C nm f) (F : FnG X.prog X.w X.K X.mg X.base k f fd ps sp) (hr : Room k X.A) (hgu : X.A.guards = some []) (hb : Binds X.K fd ps []) (tkx : Takes X Wx) (ha : PA X (e :: es) t)
    (hs : starEach (e :: es) X.env = (false, eval e X.env) :: starEach es X.env) (hp : (backTo pos (starEach es X.env)).any (·.1) = false) (hbase : attributeBase o nm X.env (eval o X.env) = eval o X.env)
    (hfew : ((backTo pos (starEach (e :: es) X.env)).all (fun x => !x.1) && (backToKw pos (keywordEach [] X.env)).all (fun x => x.1.isSome) && decide ((e :: es).length + ([] : List Keyword).length + (if ([] : List Keyword).isEmpty then 0 else 1) < 30)) = true)
    (hline : (apos.endLine == pos.line) = true) : PE X (.Call (.Attribute o nm apos) (e :: es) [] pos) (tMcG C nm sp Wx ta t) := by
  constructor
  intro pins s σ H Q I h
  refine meth_late hbase hfew hline (thn (he.run pins s σ H _ I h) fun u s1 ⟨x, H1, I1, rx, a, dx, fs, ex, ea, l, q⟩ pl => ?_)
  subst ex
  obtain rfl : u = Value.ref a := rx
  refine getmeth_ok I1 ea c hm l ?_
  refine PySem.W.callWith_K (first := [.ref a]) (h₀ := X.base) I.ok.mod.kin hm.kp (thn (ha.run pos pins s1 σ H1 _ I1 q) fun us s2 ⟨vs, H2, I2, r, q2⟩ => ⟨I2.kIn, ?_⟩) hs hp
  exact run_fnG (us := .ref a :: us) (vs := .ref a :: vs) F hr hgu hb tkx I2 (.cons rfl r) q2
theorem pe_mcG0 (he : PE X o ta) (c : L2.Cls X.K C) (hm : Meth X.K C nm f) (F : FnG X.prog X.w X.K X.mg X.base k f fd ps sp) (hr : Room k X.A) (hgu : X.A.guards = some []) (hb : Binds X.K fd ps []) (tkx : Takes X Wx)
    (hbase : attributeBase o nm X.env (eval o X.env) = eval o X.env) (hline : (apos.endLine == pos.line) = true) : PE X (.Call (.Attribute o nm apos) [] [] pos) (tMcG C nm sp Wx ta tNil) := by
  constructor
  intro pins s σ H Q I h
  refine meth_late hbase rfl hline (thn (he.run pins s σ H _ I h) fun u s1 ⟨x, H1, I1, rx, a, dx, fs, ex, ea, l, q⟩ pl => ?_)
  subst ex
  obtain rfl : u = Value.ref a := rx
  refine getmeth_ok I1 ea c hm l ?_
  exact PySem.W.callWith_K0 (first := [.ref a]) I1.kIn hm.kp (run_fnG (us := [.ref a]) (vs := [.ref a]) F hr hgu hb tkx I1 (.cons rfl .nil) q)
/-- e.f, a property -/
def tPropG (C : Addr) (sp : Sp) (ta : TE) : TE := fun σ H Q => ta σ H fun x H1 => ∃ a dx fs, x = .ref a ∧ H1 a = some (.ins C dx fs) ∧ sp [.ref a] H1 Q fun _ _ _ => False
theorem pe_propG {pp : Addr} (he : PE X e ta) (c : L2.Cls X.K C) (hp : PropOf X.K C nm pp f) (F : FnG X.prog X.w X.K X.mg X.base k f fd ps sp) (hr : Room (k + 1) X.A) (hgu : X.A.guards = some []) (hb : Binds X.K fd ps [])
    (hab : attributeBase e nm X.env (eval e X.env) = eval e X.env) : PE X (.Attribute e nm pos) (tPropG C sp ta) := by
  constructor
  intro pins s σ H Q I h
  refine attr_of hab (thn (he.run pins s σ H _ I h) fun u s1 ⟨x, H1, I1, rx, a, dx, fs, ex, ea, q⟩ => ?_)
  subst ex
  obtain rfl : u = Value.ref a := rx
  obtain ⟨mA, O, _, _, _, _⟩ := ins_get I1.hok ea
  obtain ⟨od, J, _⟩ := O.look
  obtain ⟨rest, hrec⟩ := hp.rec_
  have I2 := I1.tok (s1.toks + 1)
  have hl : ([Value.ref a] ++ []).length = ps.length := (F.len _ _ _ _ q)
  have hc : (PySem.W.clsIn X.K C).isSome = true := by
    obtain ⟨cd, hc, _⟩ := PySem.W.any_some c.hd
    rw [hc]; rfl
  have bd : BindsTo { s1 with toks := s1.toks + 1 } fd ⟨[.ref a], []⟩ (ps.zip [.ref a]) := by
    have b := hb { s1 with toks := s1.toks + 1 } [.ref a] I2.kIn hl
    simpa using b
  refine PySem.W.get_bind I1.kIn J (PySem.W.plainGet_of (c.get nm)).1 (PySem.W.findObj_data hc hp.at_ hp.get hp.tak) (PySem.W.plainGet_of (c.get nm)).2 (wpAny_call (PySem.W.prop_get (s := { s1 with toks := s1.toks + 1 }) I1.kIn hrec ?_))
  refine codeAny_mono (F.run X.A.in1 X.stack { s1 with toks := s1.toks + 1 } H1 ⟨[.ref a], []⟩ [.ref a] [.ref a] Q _ hr.in1 hgu I2.env0.in1 bd (.cons rfl .nil) q) fun r s' hq => ?_
  match r, hq with
  | .error er, hq =>
    obtain ⟨_, _, _, _, _, _, _, _, _, _, _, _, z⟩ := hq
    exact z.elim
  | .ok (.ret u), hq =>
    obtain ⟨v, H', I3, rv, q3⟩ := I2.after hq
    show wpAny _ _ (handedOut u) _ _ _
    rw [PySem.W.handedOut_of (handed_of rv)]
    exact wpAny_pure ⟨v, H', I3, rv, q3⟩
end
/-! ### an own == -/
section
open PySem.W
variable {prog : Program} {w : World} {A : Around} {E : Value → Shared → Prop} {s : Shared} {K : Frag} {x C f : Addr} {ox : Obj} {od : Option Obj} {b tb : Value}
/-- the class's own method is asked first -/
theorem rich_K {op : CmpOp} {Q : Value → Shared → Prop} (hu : A.units < cLine) (X : K.In s.heap) (I : InstAt s.heap x ox C od) (hb : Looks (model prog w) s.heap (typeOf b) tb) (hn : notFirst K C tb = true)
    (one : wpAny (model prog w) A (tryCompare (.ref x) (cmpInfo op).2.1 b) (fun r s' => ∃ v, r = some v ∧ Q v s') E s) : wpAny (model prog w) A (richCompare op (.ref x) b) Q E s := by
  unfold richCompare
  simp only [oneThing_ref]
  refine wpAny_holding (wpAny_bind (wpAny_cRoomFor hu ?_))
  refine wpAny_bind (I.type.here (wpAny_bind (hb.here ?_)))
  split
  · rename_i q
    have e : subIn K tb (.ref C) = some false := by
      rcases Bool.or_eq_true_iff.mp hn with e | e
      · rw [beq_iff_eq.mp e] at q; simp at q
      · exact beq_iff_eq.mp e
    refine wpAny_bind ((looks_subIn X e).here ?_)
    simp only [Bool.false_eq_true, if_false]
    refine wpAny_bind (wpAny_mono one (fun r s' z => ?_) fun _ _ e => e)
    obtain ⟨v, rfl, hq⟩ := z
    exact wpAny_pure hq
  · refine wpAny_bind (wpAny_pure ?_)
    simp only [Bool.false_eq_true, if_false]
    refine wpAny_bind (wpAny_mono one (fun r s' z => ?_) fun _ _ e => e)
    obtain ⟨v, rfl, hq⟩ := z
    exact wpAny_pure hq
/-- a built-in method of an instance, asked by the machine -/
theorem ifBound_B {name : Str} {T id : String} {args : List Value} {Q : Option Value → Shared → Prop} (X : K.In s.heap) (I : InstAt s.heap x ox C od) (sl : Slot T name id) (hs : findIn K (.ref C) name = some (some (.builtin id)))
    (h : wpAny (model prog w) A (call (.builtin id) (.ref x :: args)) (fun v => Q (some v)) E s) : wpAny (model prog w) A (callSpecialIfBound? (.ref x) name args) Q E s := by
  simp only [callSpecialIfBound?, bindSpecialIfBound?]
  refine wpAny_holding (wpAny_bind (wpAny_bind (wpAny_bind (I.type.here ((looks_findIn X hs).here ?_)))))
  refine wpAny_bind (wpAny_askSetting (wpAny_ite ?_))
  have fin : wpAny (model prog w) A (call (.builtin id) ([.ref x] ++ args) >>= fun v => pure (some v)) Q E s := wpAny_bind (wpAny_mono h (fun v s' h' => wpAny_pure h') fun _ _ h' => h')
  split
  · exact wpAny_bind (wpAny_of_eq (sl.bind _) (wpAny_pure (by exact fin)))
  · exact wpAny_tryCatch (wpAny_bind (wpAny_of_eq (sl.bind _) (wpAny_pure (by exact fin))))
theorem ne_K {Q : Value → Shared → Prop} (hu : A.units + 1 < cLine) (X : K.In s.heap) (I : InstAt s.heap x ox C od) (hb : Looks (model prog w) s.heap (typeOf b) tb) (hn : notFirst K C tb = true)
    (hne : findIn K (.ref C) "__ne__" = some (some (.builtin "object.__ne__"))) (ho : subIn K (.ref C) (.type "object") = some true) (hs : findIn K (.ref C) "__eq__" = some (some (.ref f))) (hf : isFn K (.ref f) = true)
    (h : wpAny (model prog w) A.in1 (call (.ref f) [.ref x, b]) (fun v s' => ∃ r, v = .bool r ∧ Q (.bool (!r)) s') E s) : wpAny (model prog w) A (richCompare .NotEq (.ref x) b) Q E s := by
  refine rich_K (op := .NotEq) (by omega) X I hb hn ?_
  show wpAny _ _ (tryCompare (.ref x) "__ne__" b) _ _ _
  unfold tryCompare
  have hi : Looks (model prog w) s.heap (isInstance (.ref x) (.type "object")) true := I.type.andThen (looks_subIn X ho)
  refine wpAny_bind (ifBound_B X I PySem.F.cmp_object.ne hne (wpAny_call (codeAny_call_builtin PySem.F.cmp_object.ne.plain PySem.F.cmpEntry_ne (check_slot PySem.F.cmpKind_ne PySem.F.cmpSplit_ne hi (PySem.F.cmpArgs_ne _ _) ?_))))
  unfold Builtin.«object.__ne__»
  refine wpAny_bind (wpAny_of_eq (a := ((Value.ref x : Value), [b])) (by first | rfl | (simp only [slotArgs]; rfl)) ?_)
  refine wpAny_bind (wpAny_cRoomFor (by show A.units + 1 < cLine; exact hu) ?_)
  refine wpAny_bind (ifBound_K X I hs hf (wpAny_mono h (fun v s' hv => ?_) fun _ _ e => e))
  obtain ⟨r, rfl, hq⟩ := hv
  refine wpAny_bind (wpAny_truthy_bool (wpAny_pure ?_))
  exact wpAny_pure ⟨_, rfl, hq⟩
theorem eq_K {Q : Value → Shared → Prop} (hu : A.units < cLine) (X : K.In s.heap) (I : InstAt s.heap x ox C od) (hb : Looks (model prog w) s.heap (typeOf b) tb) (hn : notFirst K C tb = true)
    (hs : findIn K (.ref C) "__eq__" = some (some (.ref f))) (hf : isFn K (.ref f) = true)
    (h : wpAny (model prog w) A (call (.ref f) [.ref x, b]) (fun v s' => ∃ r, v = .bool r ∧ Q (.bool r) s') E s) : wpAny (model prog w) A (richCompare .Eq (.ref x) b) Q E s := by
  refine rich_K (op := .Eq) hu X I hb hn ?_
  show wpAny _ _ (tryCompare (.ref x) "__eq__" b) _ _ _
  unfold tryCompare
  refine wpAny_bind (ifBound_K X I hs hf (wpAny_mono h (fun v s' hv => ?_) fun _ _ e => e))
  obtain ⟨r, rfl, hq⟩ := hv
  exact wpAny_pure ⟨_, rfl, hq⟩
end
/-- what the class at C must say, its own == at f -/
structure EqC (K : Frag) (C f : Addr) : Prop where
  eq : PySem.W.findIn K (.ref C) "__eq__" = some (some (.ref f))
  fn : PySem.W.isFn K (.ref f) = true
  ne : PySem.W.findIn K (.ref C) "__ne__" = some (some (.builtin "object.__ne__"))
  ob : PySem.W.subIn K (.ref C) (.type "object") = some true
/-- x == y, x != y, by the own == of x -/
def rOeq (K : Frag) (C : Addr) (sp : Sp) (neg : Bool) : V → V → Hp → VK → Prop := fun x y H Q => ∃ a dx fs t, x = .ref a ∧ H a = some (.ins C dx fs) ∧ TyX K H y t ∧ PySem.W.notFirst K C t = true ∧
  sp [.ref a, y] H (fun v H' => ∃ b, v = .bl b ∧ Q (.bl (neg != b)) H') fun _ _ _ => False
section
variable {X : Cx} {k : Nat} {f C : Addr} {fd : FuncData} {ps : List Str} {sp : Sp}
theorem op_oeq (T : EqC X.K C f) (F : FnG X.prog X.w X.K X.mg X.base k f fd ps sp) (hr : Room (k + 1) X.A) (hgu : X.A.guards = some []) (hb : Binds X.K fd ps []) (neg : Bool) :
    OpR X (compareOp (if neg then .NotEq else .Eq)) (rOeq X.K C sp neg) := by
  intro pins s σ H x y u v Q I rx ry h
  obtain ⟨a, dx, fs, t, rfl, ea, ty, hn, q⟩ := h
  obtain rfl : u = Value.ref a := rx
  obtain ⟨mA, O, _, _, _, _⟩ := ins_get I.hok ea
  obtain ⟨od, J, _⟩ := O.look
  obtain ⟨P, Z, p, _⟩ := kit_of I ry ty
  have hl : ([Value.ref a, v] ++ []).length = ps.length := F.len _ _ _ _ q
  have bd : BindsTo s fd ⟨[.ref a, v], []⟩ (ps.zip [.ref a, v]) := by
    have b := hb s [.ref a, v] I.kIn hl
    simpa using b
  have core : ∀ (A : Around), Room k A → A.guards = some [] → Env0 X.prog X.w X.K X.mg X.base A X.stack s H → wpAny (model X.prog X.w) A (call (.ref f) [.ref a, v]) (fun z s' => ∃ r, z = .bool r ∧ EP X pins σ Q (.bool (neg != r)) s') X.xe s := fun A hA hG e0 => by
    refine wpAny_call (codeAny_mono (F.run A X.stack s H ⟨[.ref a, v], []⟩ [.ref a, v] [.ref a, y] _ _ hA hG e0 bd (.cons rfl (.cons ry .nil)) q) fun r s' hq => ?_)
    match r, hq with
    | .error er, hq =>
      obtain ⟨_, _, _, _, _, _, _, _, _, _, _, _, z⟩ := hq
      exact z.elim
    | .ok (.ret u), hq =>
      obtain ⟨z, H', I3, rv, b, rfl, q3⟩ := I.after hq
      obtain rfl : u = Value.bool b := rv
      exact ⟨b, rfl, .bl (neg != b), H', I3, rfl, q3⟩
  cases neg with
  | true =>
    show wpAny _ _ (richCompare .NotEq (.ref a) v) _ _ _
    exact ne_K (by have := hr.units; omega) I.kIn J (Z.ty _ _ I.kIn p) hn T.ne T.ob T.eq T.fn (wpAny_mono (core X.A.in1 hr.in1 hgu I.env0.in1) (fun z s' ⟨r, e, q⟩ => ⟨r, e, by simpa using q⟩) fun _ _ e => e)
  | false =>
    show wpAny _ _ (richCompare .Eq (.ref a) v) _ _ _
    exact eq_K (by have := hr.units; omega) I.kIn J (Z.ty _ _ I.kIn p) hn T.eq T.fn (wpAny_mono (core X.A (hr.mono (by omega)) hgu I.env0) (fun z s' ⟨r, e, q⟩ => ⟨r, e, by simpa using q⟩) fun _ _ e => e)
end
end Dy

/-! Dq, part F: an own error is raised. -/
namespace Dy
open PySem PySem.Spec L2
variable [Kx]
/-- the class at C is an own error whose __init__ keeps the value -/
structure RaiseC (P : Program) (w : World) (K : Frag) (mg : Str → Option Value) (base : Heap) (C : Addr) : Prop where
  oex : OexC K C
  ini : ∃ (D fI : Addr) (fd : FuncData) (cd : ClassData), PySem.W.findIn K (.ref C) "__init__" = some (some (.ref fI)) ∧ PySem.W.typeIn K (.ref fI) = some (.type "function") ∧ FnOk P w K mg base (L2.CX P w) 1 fI fd ["self", "value"] (DyX.spLog K D) ∧ Binds K fd ["self", "value"] [] ∧
    PySem.W.clsIn K C = some cd ∧ PySem.W.alongIn K "__init__" ((cd.mro.dropWhile (· != .ref D)).drop 1) = some (some (.builtin "ValueError.__init__")) ∧ PySem.W.subIn K (.ref C) (.type "ValueError") = some true ∧ PySem.W.mroIn K C (.ref D) = some true
  val : PySem.W.findIn K (.ref C) "value" = some none
/-- what is left when the error is made -/
theorem mk_in {K : Frag} {D C : Addr} {cd : ClassData} {H : Hp} {y : V} {Q : XK} (T : OexC K C) (h3 : PySem.W.clsIn K C = some cd) (h4 : PySem.W.alongIn K "__init__" ((cd.mro.dropWhile (· != .ref D)).drop 1) = some (some (.builtin "ValueError.__init__"))) (h5 : PySem.W.subIn K (.ref C) (.type "ValueError") = some true)
    (h6 : PySem.W.mroIn K C (.ref D) = some true) (h7 : PySem.W.findIn K (.ref C) "value" = some none) (h : ∀ d, H d = none → Q (.ref C) (some d) (upd H d (.xd [("value", y)]))) :
    ([y] : List V).length ≤ 1000 ∧ ∀ a, H a = none → DyX.spLog K D (.ref a :: ([y] ++ [])) (upd H a (exo a C none))
      (fun v H2 => v = .non ∧ ∃ (d : Addr) (fs : List (Str × V)), H2 a = some (exo a C (some d)) ∧ H2 d = some (exd d fs) ∧ H d = none ∧ Q (.ref C) (some d) (upd (del H2 a) d (.xd fs))) (fun _ _ _ => False) := by
  refine ⟨by simp, fun a ha => ⟨a, C, y, cd, rfl, T, h3, h4, h5, h6, h7, upd_same, fun dx hd hne => ⟨rfl, dx, [("value", y)], upd_same, by rw [upd_ne hne, upd_same], ?_, ?_⟩⟩⟩
  · rw [upd_ne hne] at hd; exact hd
  · have hd' : H dx = none := by rw [upd_ne hne] at hd; exact hd
    have e : upd (del (upd (upd (upd H a (exo a C none)) dx (exd dx [("value", y)])) a (exo a C (some dx))) a) dx (.xd [("value", y)]) = upd H dx (.xd [("value", y)]) := by
      funext b
      by_cases hb : b = dx
      · subst hb; rw [upd_same, upd_same]
      · rw [upd_ne hb, upd_ne hb]
        by_cases hba : b = a
        · subst hba; rw [del_same, ha]
        · rw [del_ne hba, upd_ne hba, upd_ne hb, upd_ne hba]
    rw [e]
    exact h dx hd'
section
variable {X : Cx} {Wx : WX} {x : Str} {C : Addr} {e : Expr} {te : TE} {p pos pos' : Pos}
theorem ps_raiseE (hc : X.calm = true) (hr : Room 2 X.A) (tk : Takes X Wx) (T : RaiseC X.prog X.w X.K X.mg X.base C) (hg : Gl X x) (hm : X.mg x = some (.ref C)) (hdb : (x == ("__debug__" : Str)) = false) (he : PE X e te) (hs : starEach [e] X.env = [(false, eval e X.env)]) :
    ∃ G : V → Hp → St → Prop, PS X (.Raise (some (.Call (.Name x p) [e] [] pos)) none pos') (fun _ σ H => te σ H fun y H1 => G y H1 σ) ∧ ∀ y H1 σ, (∀ d, H1 d = none → Wx (.ref C) (some d) σ (upd H1 d (.xd [("value", y)]))) → G y H1 σ := by
  obtain ⟨D, fI, fd, cd, h1, h2, F, hb, h3, h4, h5, h6⟩ := T.ini
  have hx : Passes (L2.CX X.prog X.w) X (fun _ _ _ => False) := fun pins σ H s e s' I c => by
    obtain ⟨_, _, _, _, _, _, _, _, _, _, _, _, z⟩ := c
    exact z.elim
  exact ⟨_, ps_raise hc tk (pmk_oex (dvs := []) T.oex h1 h2 F hr hb .nil hx hg hm (pa_cons he pa_nil hs) hdb hs (by rfl)), fun y H1 σ h => mk_in T.oex h3 h4 h5 h6 T.val (Q := fun cls d H' => Wx cls d σ H') h⟩
end
end Dy

/-! Dp, part G: an expression that was checked does what its weakest precondition says. -/
namespace Dy
open PySem PySem.Spec L2
variable [Kx]
/-- what the written part says -/
structure Stat (P : Program) (w : World) (K : Frag) (mg : Str → Option Value) (base : Heap) (c : Cc) : Prop where
  gl : ∀ x v, c.gl.lookup x = some v → ∃ u xv, mg x = some u ∧ RelV xv u ∧ ∀ W H, RV K W H v xv
  bl : ∀ x, c.bl.contains x = true → mg x = none
  fns : ∀ x f, c.fns.lookup x = some f → mg x = some (.ref (Kx.fa f)) ∧ PySem.W.keepIn K (.ref (Kx.fa f)) = true ∧ Binds K (Kx.fd f) (Kx.ps f) []
  kd : ∀ x kvs, c.kd.lookup x = some kvs → ∃ a, mg x = some (.ref a) ∧ KdAt K w a kvs
  cf : CF K
  cls : ∀ x k, c.cls.lookup x = some k → mg x = some (.ref (cl k)) ∧ Kx.ok k = true
  rai : ∀ x k, c.cls.lookup x = some k → k < 100 → RaiseC P w K mg base (cl k)
  mts : ∀ nm k f, c.mts.contains (nm, k, f) = true → okO k ∧ Meth K (cl k) nm (Kx.fa f) ∧ Binds K (Kx.fd f) (Kx.ps f) []
  prs : ∀ nm k f, c.prs.contains (nm, k, f) = true → okO k ∧ (∃ pp, PropOf K (cl k) nm pp (Kx.fa f)) ∧ Binds K (Kx.fd f) (Kx.ps f) []
  mks : ∀ i ∈ c.mks, okO i.c ∧ mg i.x = some (.ref (cl i.c)) ∧ Mk K (cl i.c) (Kx.fa i.f) ∧ ∃ g gV, KBn K (Kx.fd i.f) (Kx.ps i.f) (i.n + 1) i.ks g gV ∧
    ∀ W H x vs zs us qs, RVs K W H us (vs ++ zs) → vs.length = i.n → zs.length = i.ks.length → fillP i.pm us = some qs → ∃ ys, gV (x :: vs) zs = x :: ys ∧ RVs K W H qs ys
  eqs : ∀ k f, c.eqs.contains (k, f) = true → okO k ∧ EqC K (cl k) (Kx.fa f) ∧ Binds K (Kx.fd f) (Kx.ps f) [] ∧ (∀ kd : Kd, kd.isOwn = false → PySem.W.notFirst K (cl k) (.type kd.name) = true) ∧ ∀ c', Kx.ok c' = true → PySem.W.notFirst K (cl k) (.ref (cl c')) = true
  ats : ∀ f, c.ats.contains f = true → ∀ k, okO k → NoAttr K (cl k) f
theorem Stat.blk {P : Program} {w : World} {K : Frag} {mg : Str → Option Value} {base : Heap} {c : Cc} (h : Stat P w K mg base c) (scope : Scope) : Stat P w K mg base (c.blk scope) :=
  ⟨h.gl, h.bl, h.fns, h.kd, h.cf, h.cls, h.rai, h.mts, h.prs, h.mks, h.eqs, h.ats⟩
structure Good (F : Nat → FS) (cl : Cls) (c : Cc) (X : Cx) : Prop where
  hN : X.N = c.N
  nd : c.N.Nodup
  kind : X.env.scope.kind = .function
  names : X.env.scope.names = c.names
  top : c.top = true → ∀ x, X.fn x = true
  calm : X.calm = true
  guards : X.A.guards = some []
  room : Room 2 X.A
  st : Stat X.prog X.w X.K X.mg X.base c
  fna : ∀ f, ∃ k, FnG X.prog X.w X.K X.mg X.base k (Kx.fa f) (Kx.fd f) (Kx.ps f) (spG X.K cl (Kx.ps f).length (F f)) ∧ Room (k + 1) X.A ∧ ∀ vs m Q R, F f vs m Q R → vs.length = (Kx.ps f).length
section
variable {F : Nat → FS} {c : Cc} {X : Cx} {Wx : WX}
theorem Good.gl_of (G : Good F cl c X) {x : Str} (h : isGl c x = true) : Gl X x ∧ (x == ("__debug__" : Str)) = false := by
  unfold isGl at h
  simp only [Bool.and_eq_true, decide_eq_true_eq, Bool.not_eq_true'] at h
  refine ⟨?_, h.2⟩
  show X.env.scope.names.lookup x = some .globalImplicit
  rw [G.names]; exact h.1
theorem Good.vis (G : Good F cl c X) {x : Str} (h : isVis c x = true) : Vis X.env.scope x := by
  unfold isVis at h
  simp only [Bool.or_eq_true, decide_eq_true_eq] at h
  unfold Vis
  rw [G.names]
  rcases h with (h | h) | h
  · exact .inl h
  · exact .inr (.inl h)
  · exact .inr (.inr h)
theorem Good.blk (G : Good F cl c X) (scope : Scope) (hk : scope.kind = .function) (s : Shared) (H : Hp) (C : Addr) (cls : List (Str × Addr)) (fp : List Addr) : Good F cl (c.blk scope) (X.blk s H scope (compEnvC scope cls C X.env) fp) := by
  refine ⟨G.hN, G.nd, hk, ?_, (fun z => Bool.noConfusion z), G.calm, G.guards, G.room, G.st.blk scope, G.fna⟩
  show (scope.names.map fun (n, k) => if (k == .free && X.env.scope.kind == .function && X.env.kindOf n == some .cell) then (n, .cell) else (n, k)) = blkNames c scope
  unfold blkNames
  have e : ∀ n : Str, X.env.kindOf n = c.names.lookup n := fun n => by show X.env.scope.names.lookup n = _; rw [G.names]
  congr 1
  funext ⟨n, k⟩
  simp [e, G.kind]
theorem takes_blk {s : Shared} {H : Hp} {scope : Scope} {cenv : PySem.Env} {fp : List Addr} : Takes (X.blk s H scope cenv fp) (fun _ _ _ _ => False) := by
  rintro u s' ⟨_, _, _, _, _, _, _, _, _, _, _, _, _, _, _, _, z⟩
  exact z.elim
def plainT : Expr → Bool
  | .UnaryOp .Not _ _ => false
  | .BoolOp _ _ _ => false
  | .IfExp _ _ _ _ => false
  | .Compare _ _ _ _ => false
  | _ => true
theorem isTrue_plain {e : Expr} (h : plainT e = true) (env : PySem.Env) (whole : Sem Value) : isTrue e env whole = (do let v ← whole; standAt e.pos; holding [v] (truthy v)) := by
  cases e <;> first | rfl | cases h | skip
  rename_i op x p
  cases op <;> first | rfl | cases h
/-- no test of its own -/
def plainE : E → Bool
  | .one _ => false
  | .and _ _ => false
  | .or _ _ => false
  | .not _ => false
  | .ite _ _ _ => false
  | _ => true
theorem wpT_plain {a : E} (h : plainE a = true) : wpT F a = fun r m Q R => wpE F a r m (fun v m1 => ∃ t, tru m1 v = some t ∧ Q t m1) R := by
  cases a <;> first | rfl | cases h
theorem pt_of {e : Expr} {a : E} (ha : plainE a = true) (h : PE X e (TEof X.K cl Wx (wpE F a))) (hp : plainT e = true) : PT X e (TTof X.K cl Wx (wpT F a)) := by
  refine pt_imp (pt_truth h (isTrue_plain hp X.env)) ?_
  rw [wpT_plain ha]
  rintro σ H Q ⟨W, r, m, Qd, R, hs, hr, hw, hc, hx⟩
  refine TEof.bind hs hr hw hx ?_
  rintro W1 v x m1 H1 e rv hr1 hs1 hx1 ⟨t, ht, q⟩
  exact ⟨t, tru_at rv hr1 ht, hc W1 t m1 H1 e hr1 q⟩
/-- arguments -/
theorem pa_nilE : PA X [] (TAof X.K cl Wx (wpA F .nil)) := by
  refine pa_imp pa_nil ?_
  rintro σ H Q ⟨W, r, m, Qd, R, hs, hr, ⟨vs, e, q⟩, hc, hx⟩
  cases e
  exact hc W _ _ m H (.refl hr) .nil hr q
theorem star_of {e : Expr} {es : List Expr} {env : PySem.Env} (h : noStar e = true) : starEach (e :: es) env = (false, eval e env) :: starEach es env := by
  cases e <;> first | rfl | cases h
theorem pa_consE {e : Expr} {es : List Expr} {a b : E} (hn : noStar e = true) (ha : PE X e (TEof X.K cl Wx (wpE F a))) (hb : PA X es (TAof X.K cl Wx (wpA F b))) : PA X (e :: es) (TAof X.K cl Wx (wpA F (.cons a b))) := by
  refine pa_imp (pa_cons ha hb (star_of hn)) ?_
  rintro σ H Q ⟨W, r, m, Qd, R, hs, hr, hw, hc, hx⟩
  refine TEof.bind hs hr hw hx ?_
  rintro W1 v x m1 H1 e1 rv hr1 hs1 hx1 hw1
  refine TAof.bind (Qd := fun vs m2 => ∃ vs', Val.tup (v :: vs) = .tup vs' ∧ Qd vs' m2) hs1 hr1 hw1 hx1 ?_
  rintro W2 vs xs m2 H2 e2 rvs hr2 hs2 hx2 ⟨vs', ev, q⟩
  cases ev
  exact hc W2 _ _ m2 H2 (e1.trans e2) (.cons (rv.mono hr1 e2) rvs) hr2 q
/-- *a among the parts of a display -/
theorem pa_sconsE {e : Expr} {es : List Expr} {p : Pos} {a b : E} (ha : PE X e (TEof X.K cl Wx (wpE F a))) (hb : PA X es (TAof X.K cl Wx (wpA F b))) : PA X (.Starred e p :: es) (TAof X.K cl Wx (wpA F (.scons a b))) := by
  refine pa_imp (StX.pa_star ha hb) ?_
  rintro σ H Q ⟨W, r, m, Qd, R, hs, hr, hw, hc, hx⟩
  refine TEof.bind hs hr hw hx ?_
  rintro W1 v x m1 H1 e1 rv hr1 hs1 hx1 ⟨us, hu, hw1⟩
  obtain ⟨a, xs, rfl, sl, r1⟩ := sq_at hr1 rv hu
  refine ⟨a, xs, rfl, sl.symm, ?_⟩
  refine TAof.bind (Qd := fun vs m2 => ∃ vs', Val.tup (us ++ vs) = .tup vs' ∧ Qd vs' m2) hs1 hr1 hw1 hx1 ?_
  rintro W2 vs ys m2 H2 e2 rvs hr2 hs2 hx2 ⟨vs', ev, q⟩
  cases ev
  exact hc W2 _ _ m2 H2 (e1.trans e2) ((r1.mono hr1 e2).append rvs) hr2 q
theorem any_back (pos : Pos) (l : List (Bool × Sem Value)) : (backTo pos l).any (·.1) = l.any (·.1) := by
  unfold backTo
  induction l with
  | nil => rfl
  | cons a r ih => rw [List.map_cons, List.any_cons, List.any_cons, ih]
theorem chkL_any {env : PySem.Env} : ∀ {a : E} {es : List Expr}, chkL c es a = true → (starEach es env).any (·.1) = false
  | .cons a b, x :: r, h => by
    simp only [chkL, Bool.and_eq_true] at h
    rw [star_of h.1.1, List.any_cons, chkL_any h.2]
    rfl
  | .nil, [], _ => rfl
  | .nil, _ :: _, h => by simp [chkL] at h
  | .cons _ _, [], h => by simp [chkL] at h
  | .var _, _, h => by simp [chkL] at h
  | .cst _, _, h => by simp [chkL] at h
  | .tup _, _, h => by simp [chkL] at h
  | .lst _ _, _, h => by simp [chkL] at h
  | .bin _ _ _, _, h => by simp [chkL] at h
  | .neg _, _, h => by simp [chkL] at h
  | .cmp _ _ _, _, h => by simp [chkL] at h
  | .chain _ _ _ _ _, _, h => by simp [chkL] at h
  | .isN _ _, _, h => by simp [chkL] at h
  | .one _, _, h => by simp [chkL] at h
  | .and _ _, _, h => by simp [chkL] at h
  | .or _ _, _, h => by simp [chkL] at h
  | .not _, _, h => by simp [chkL] at h
  | .ite _ _ _, _, h => by simp [chkL] at h
  | .call _ _, _, h => by simp [chkL] at h
  | .bi _ _, _, h => by simp [chkL] at h
  | .isI _ _, _, h => by simp [chkL] at h
  | .meth _ _ _, _, h => by simp [chkL] at h
  | .idx _ _, _, h => by simp [chkL] at h
  | .sl _ _ _ _ _, _, h => by simp [chkL] at h
  | .lc _ _ _ _ _ _ _ _, _, h => by simp [chkL] at h
  | .scons _ _, _, h => by simp [chkL] at h
  | .kd _ _ _ _, _, h => by simp [chkL] at h
theorem chkL_head {a : E} {x : Expr} {es : List Expr} (h : chkL c (x :: es) a = true) : noStar x = true ∧ ∀ env, (starEach es env).any (·.1) = false := by
  cases a <;> simp only [chkL, Bool.and_eq_true] at h <;> first | exact ⟨h.1.1, fun env => chkL_any h.2⟩ | cases h
/-! ### the parts of the proof -/
abbrev PEs (F : Nat → FS) (cl : Cls) (X : Cx) (Wx : WX) (e : Expr) (a : E) : Prop := PE X e (TEof X.K cl Wx (wpE F a))
abbrev PTs' (F : Nat → FS) (cl : Cls) (X : Cx) (Wx : WX) (e : Expr) (a : E) : Prop := PT X e (TTof X.K cl Wx (wpT F a))
abbrev PAs (F : Nat → FS) (cl : Cls) (X : Cx) (Wx : WX) (es : List Expr) (a : E) : Prop := PA X es (TAof X.K cl Wx (wpA F a))
theorem s_var (G : Good F cl c X) {x : Str} {p : Pos} {i : Nat} (h1 : c.N[i]? = some x) (h2 : isVis c x = true) (h3 : plainName x = true) : PEs F cl X Wx (.Name x p) (.var i) := by
  unfold plainName at h3
  simp only [Bool.and_eq_true, Bool.not_eq_true'] at h3
  refine pe_imp (pe_var (i := i) (by rw [G.hN]; exact h1) (G.vis h2) h3.1 h3.2) ?_
  rintro σ H Q ⟨W, r, m, Qd, R, hs, hr, ⟨v, e, q⟩, hc, hx⟩
  obtain ⟨y, e1, rv⟩ := hs.get _ _ e
  exact ⟨y, e1, hc.here hr rv q⟩
theorem s_cst {e : Expr} {v : Val} {x : V} (h : PE X e (tC x)) (rv : ∀ W H, RV X.K W H v x) : PEs F cl X Wx e (.cst v) := by
  refine pe_imp h ?_
  rintro σ H Q ⟨W, r, m, Qd, R, hs, hr, q, hc, hx⟩
  exact hc.here hr (rv W H) q
theorem s_tup {xs : List Expr} {a : E} {k : Nat} {p : Pos} (h : PAs F cl X Wx xs a) : PEs F cl X Wx (.Tuple xs k p) (.tup a) := by
  refine pe_imp (pe_tup h) ?_
  rintro σ H Q ⟨W, r, m, Qd, R, hs, hr, hw, hc, hx⟩
  refine TAof.bind (Qd := fun vs m1 => vs.length ≤ sizeLine ∧ Qd (.tup vs) m1) hs hr hw hx ?_
  rintro W1 vs xs m1 H1 e1 rvs hr1 hs1 hx1 ⟨hl, q⟩
  refine ⟨by rw [← rvs.length]; exact hl, fun p hp => ?_⟩
  obtain ⟨e2, hr2, rv⟩ := new_tup hr1 hp rvs
  exact hc _ _ _ _ _ (e1.trans e2) rv hr2 q
theorem newL_ok {K : Frag} {W W1 : Wd} {H H1 : Hp} {m : Store} {mu : Bool} {vs : List Val} {xs : List V} {Qd : Val → Store → Prop} {Q : VK} (hr : HR K W1 m H1) (e1 : Ext W H W1 H1) (rvs : RVs K W1 H1 vs xs) (q : newL mu vs m Qd) (hc : Cont K W H Qd Q) {p : Addr} (hp : H1 p = none) : Q (.ref p) (upd H1 p (.lst xs)) := by
  unfold newL at q
  split at q
  · obtain ⟨e2, hr2, rv⟩ := new_loc hr hp rvs
    exact hc _ _ _ _ _ (e1.trans e2) rv hr2 q
  · obtain ⟨e2, hr2, rv⟩ := new_il hr hp rvs
    exact hc _ _ _ _ _ (e1.trans e2) rv hr2 q
theorem s_lst {xs : List Expr} {a : E} {mu : Bool} {p : Pos} (h : PAs F cl X Wx xs a) : PEs F cl X Wx (.List xs p) (.lst mu a) := by
  refine pe_imp (pe_lst h) ?_
  rintro σ H Q ⟨W, r, m, Qd, R, hs, hr, hw, hc, hx⟩
  refine TAof.bind (Qd := fun vs m1 => vs.length ≤ sizeLine ∧ newL mu vs m1 Qd) hs hr hw hx ?_
  rintro W1 vs xs m1 H1 e1 rvs hr1 hs1 hx1 ⟨hl, q⟩
  exact ⟨by rw [← rvs.length]; exact hl, fun p hp => newL_ok hr1 e1 rvs q hc hp⟩
theorem Cont.mono {K : Frag} {W W1 : Wd} {H H1 : Hp} {Qd : Val → Store → Prop} {Q : VK} (k : Cont K W H Qd Q) (e : Ext W H W1 H1) : Cont K W1 H1 Qd Q := fun W' v x m' H' e' rv hr q => k W' v x m' H' (e.trans e') rv hr q
theorem s_bin {l r : Expr} {a b : E} {o : BOp} {p : Pos} (ha : PEs F cl X Wx l a) (hb : PEs F cl X Wx r b) : PEs F cl X Wx (.BinOp l o.op r p) (.bin o a b) := by
  refine pe_imp (pe_op (op_bin o) ha hb) ?_
  rintro σ H Q ⟨W, r, m, Qd, R, hs, hr, hw, hc, hx⟩
  refine TEof.bind hs hr hw hx ?_
  rintro W1 v x m1 H1 e1 rv hr1 hs1 hx1 hw1
  refine TEof.bind hs1 hr1 hw1 hx1 ?_
  rintro W2 u y m2 H2 e2 ru hr2 hs2 hx2 q
  exact bin_ok (rv.mono hr1 e2) ru hr2 q (hc.mono (e1.trans e2))
theorem s_neg {l : Expr} {a : E} {p : Pos} (ha : PEs F cl X Wx l a) : PEs F cl X Wx (.UnaryOp .USub l p) (.neg a) := by
  refine pe_imp (pe_un un_neg ha) ?_
  rintro σ H Q ⟨W, r, m, Qd, R, hs, hr, hw, hc, hx⟩
  refine TEof.bind hs hr hw hx ?_
  rintro W1 v x m1 H1 e1 rv hr1 hs1 hx1 ⟨i, rfl, q⟩
  exact ⟨i, rv.int_inv, hc _ _ _ _ _ e1 (.int _) hr1 q⟩
theorem mark_of {op : CmpOp} {r : Expr} (h : notSet r = true) : behindInMarks op r = false := by
  cases r <;> first | rfl | cases h
theorem cmp_bind {l r : Expr} {a b : E} {o : COp} {σ : St} {H : Hp} {Q : VK} (h : TEof X.K cl Wx (wpE F (.cmp o a b)) σ H Q) : tOp (rCmp X.K o) (TEof X.K cl Wx (wpE F a)) (TEof X.K cl Wx (wpE F b)) σ H Q := by
  obtain ⟨W, r, m, Qd, R, hs, hr, hw, hc, hx⟩ := h
  refine TEof.bind hs hr hw hx ?_
  rintro W1 v x m1 H1 e1 rv hr1 hs1 hx1 hw1
  refine TEof.bind hs1 hr1 hw1 hx1 ?_
  rintro W2 u y m2 H2 e2 ru hr2 hs2 hx2 q
  exact cmp_ok (rv.mono hr1 e2) ru hr2 q fun t q => hc _ _ _ _ _ (e1.trans e2) (.bool t) hr2 q
theorem Good.units (G : Good F cl c X) : X.A.units + 65 < cLine := by
  have := G.room.un
  omega
theorem s_cmp (G : Good F cl c X) {l r : Expr} {a b : E} {o : COp} {p : Pos} (hn : notSet r = true) (ha : PEs F cl X Wx l a) (hb : PEs F cl X Wx r b) : PEs F cl X Wx (.Compare l [o.op] [r] p) (.cmp o a b) := by
  refine pe_imp (pe_cmpR (op_cmp G.units o) ha hb (mark_of hn)) ?_
  intro σ H Q h
  exact cmp_bind (l := l) (r := r) h
theorem t_cmp (G : Good F cl c X) {l r : Expr} {a b : E} {o : COp} {p : Pos} (hn : notSet r = true) (ha : PEs F cl X Wx l a) (hb : PEs F cl X Wx r b) : PTs' F cl X Wx (.Compare l [o.op] [r] p) (.cmp o a b) := by
  refine pt_imp (pt_cmpR (op_cmp G.units o) ha hb (mark_of hn)) ?_
  rintro σ H Q ⟨W, r', m, Qd, R, hs, hr, hw, hc, hx⟩
  refine TEof.bind hs hr hw hx ?_
  rintro W1 v x m1 H1 e1 rv hr1 hs1 hx1 hw1
  refine TEof.bind hs1 hr1 hw1 hx1 ?_
  rintro W2 u y m2 H2 e2 ru hr2 hs2 hx2 q
  refine cmp_ok (rv.mono hr1 e2) ru hr2 q ?_
  rintro t ⟨t', ht, q⟩
  cases ht
  exact ⟨t, rfl, hc _ _ _ _ (e1.trans e2) hr2 q⟩
theorem s_chain (G : Good F cl c X) {l r z : Expr} {a b d : E} {o1 o2 : COp} {p : Pos} (hn : notSet z = true) (ha : PEs F cl X Wx l a) (hb : PEs F cl X Wx r b) (hd : PEs F cl X Wx z d) : PEs F cl X Wx (.Compare l [o1.op, o2.op] [r, z] p) (.chain o1 o2 a b d) := by
  refine pe_imp (pe_chain (op_cmp G.units o1) (op_cmp G.units o2) ha hb hd (mark_of hn)) ?_
  rintro σ H Q ⟨W, r', m, Qd, R, hs, hr, hw, hc, hx⟩
  refine TEof.bind hs hr hw hx ?_
  rintro W1 v x m1 H1 e1 rv hr1 hs1 hx1 hw1
  refine TEof.bind hs1 hr1 hw1 hx1 ?_
  rintro W2 u y m2 H2 e2 ru hr2 hs2 hx2 q
  refine cmp_ok (rv.mono hr1 e2) ru hr2 q ?_
  intro t q
  refine ⟨t, rfl, ?_⟩
  cases t with
  | false => exact hc _ _ _ _ _ (e1.trans e2) (.bool false) hr2 (by simpa using q)
  | true =>
    have q' := q
    rw [if_pos rfl] at q'
    refine TEof.bind hs2 hr2 q' hx2 ?_
    rintro W3 w' y' m3 H3 e3 rw' hr3 hs3 hx3 q
    exact cmp_ok (ru.mono hr2 e3) rw' hr3 q fun t q => hc _ _ _ _ _ ((e1.trans e2).trans e3) (.bool t) hr3 q
theorem t_chain (G : Good F cl c X) {l r z : Expr} {a b d : E} {o1 o2 : COp} {p : Pos} (hn : notSet z = true) (ha : PEs F cl X Wx l a) (hb : PEs F cl X Wx r b) (hd : PEs F cl X Wx z d) : PTs' F cl X Wx (.Compare l [o1.op, o2.op] [r, z] p) (.chain o1 o2 a b d) := by
  refine pt_imp (pt_chain (op_cmp G.units o1) (op_cmp G.units o2) ha hb hd (mark_of hn)) ?_
  rintro σ H Q ⟨W, r', m, Qd, R, hs, hr, hw, hc, hx⟩
  refine TEof.bind hs hr hw hx ?_
  rintro W1 v x m1 H1 e1 rv hr1 hs1 hx1 hw1
  refine TEof.bind hs1 hr1 hw1 hx1 ?_
  rintro W2 u y m2 H2 e2 ru hr2 hs2 hx2 q
  refine cmp_ok (rv.mono hr1 e2) ru hr2 q ?_
  intro t q
  refine ⟨t, rfl, ?_⟩
  cases t with
  | false =>
    obtain ⟨t', ht, q⟩ : ∃ t', tru m2 (.bool false) = some t' ∧ Qd t' m2 := by simpa using q
    cases ht
    exact ⟨false, rfl, hc _ _ _ _ (e1.trans e2) hr2 q⟩
  | true =>
    have q' := q
    rw [if_pos rfl] at q'
    refine TEof.bind hs2 hr2 q' hx2 ?_
    rintro W3 w' y' m3 H3 e3 rw' hr3 hs3 hx3 q
    refine cmp_ok (ru.mono hr2 e3) rw' hr3 q ?_
    rintro t ⟨t', ht, q⟩
    cases ht
    exact ⟨t, rfl, hc _ _ _ _ ((e1.trans e2).trans e3) hr3 q⟩
theorem isNon_of {K : Frag} {W : Wd} {H : Hp} {v : Val} {x : V} (r : RV K W H v x) : decide (x = .non) = isNon v := by
  cases r <;> simp [isNon]
theorem s_isN {l : Expr} {a : E} {neg : Bool} {p : Pos} {j p'} (ha : PEs F cl X Wx l a) : PEs F cl X Wx (.Compare l [if neg then .IsNot else .Is] [.Constant .none j p'] p) (.isN neg a) := by
  cases neg with
  | false =>
    refine pe_imp (pe_cmp (pc_isN ha) rfl) ?_
    rintro σ H Q ⟨W, r', m, Qd, R, hs, hr, hw, hc, hx⟩
    refine TEof.bind hs hr hw hx ?_
    rintro W1 v x m1 H1 e1 rv hr1 hs1 hx1 q
    rw [isNon_of rv]
    exact hc _ _ _ _ _ e1 (.bool _) hr1 (by simpa using q)
  | true =>
    refine pe_imp (pe_cmp (pc_notN ha) rfl) ?_
    rintro σ H Q ⟨W, r', m, Qd, R, hs, hr, hw, hc, hx⟩
    refine TEof.bind hs hr hw hx ?_
    rintro W1 v x m1 H1 e1 rv hr1 hs1 hx1 q
    rw [isNon_of rv]
    exact hc _ _ _ _ _ e1 (.bool _) hr1 (by simpa using q)
theorem t_isN {l : Expr} {a : E} {neg : Bool} {p : Pos} {j p'} (ha : PEs F cl X Wx l a) : PTs' F cl X Wx (.Compare l [if neg then .IsNot else .Is] [.Constant .none j p'] p) (.isN neg a) := by
  cases neg with
  | false =>
    refine pt_imp (pt_cmp (pc_isN ha) rfl) ?_
    rintro σ H Q ⟨W, r', m, Qd, R, hs, hr, hw, hc, hx⟩
    refine TEof.bind hs hr hw hx ?_
    rintro W1 v x m1 H1 e1 rv hr1 hs1 hx1 ⟨t, ht, q⟩
    cases ht
    rw [isNon_of rv]
    exact ⟨_, rfl, hc _ _ _ _ e1 hr1 (by simpa using q)⟩
  | true =>
    refine pt_imp (pt_cmp (pc_notN ha) rfl) ?_
    rintro σ H Q ⟨W, r', m, Qd, R, hs, hr, hw, hc, hx⟩
    refine TEof.bind hs hr hw hx ?_
    rintro W1 v x m1 H1 e1 rv hr1 hs1 hx1 ⟨t, ht, q⟩
    cases ht
    rw [isNon_of rv]
    exact ⟨_, rfl, hc _ _ _ _ e1 hr1 (by simpa using q)⟩
/-! ### and, or, not, if -/
theorem s_and {x y : Expr} {r : List Expr} {a b : E} {p : Pos} (ha : PEs F cl X Wx x a) (hb : PEs F cl X Wx (.BoolOp .And (y :: r) p) b) : PEs F cl X Wx (.BoolOp .And (x :: y :: r) p) (.and a b) := by
  refine pe_imp (pe_andT ha hb) ?_
  rintro σ H Q ⟨W, r', m, Qd, R, hs, hr, hw, hc, hx⟩
  refine TEof.bind hs hr hw hx ?_
  rintro W1 v x m1 H1 e1 rv hr1 hs1 hx1 ⟨t, ht, q⟩
  refine ⟨t, tru_at rv hr1 ht, ?_⟩
  cases t with
  | false => exact hc _ _ _ _ _ e1 rv hr1 (by simpa using q)
  | true =>
    have q' := q
    rw [if_pos rfl] at q'
    exact TEof.bind hs1 hr1 q' hx1 fun W2 u y m2 H2 e2 ru hr2 hs2 hx2 q => hc _ _ _ _ _ (e1.trans e2) ru hr2 q
theorem s_or {x y : Expr} {r : List Expr} {a b : E} {p : Pos} (ha : PEs F cl X Wx x a) (hb : PEs F cl X Wx (.BoolOp .Or (y :: r) p) b) : PEs F cl X Wx (.BoolOp .Or (x :: y :: r) p) (.or a b) := by
  refine pe_imp (pe_orT ha hb) ?_
  rintro σ H Q ⟨W, r', m, Qd, R, hs, hr, hw, hc, hx⟩
  refine TEof.bind hs hr hw hx ?_
  rintro W1 v x m1 H1 e1 rv hr1 hs1 hx1 ⟨t, ht, q⟩
  refine ⟨t, tru_at rv hr1 ht, ?_⟩
  cases t with
  | true => exact hc _ _ _ _ _ e1 rv hr1 (by simpa using q)
  | false =>
    have q' := q
    rw [if_neg Bool.false_ne_true] at q'
    exact TEof.bind hs1 hr1 q' hx1 fun W2 u y m2 H2 e2 ru hr2 hs2 hx2 q => hc _ _ _ _ _ (e1.trans e2) ru hr2 q
theorem s_one {x : Expr} {op : BoolOp} {a : E} {p : Pos} (ha : PEs F cl X Wx x a) : PEs F cl X Wx (.BoolOp op [x] p) (.one a) := pe_one ha
theorem s_not {x : Expr} {a : E} {p : Pos} (ha : PEs F cl X Wx x a) : PEs F cl X Wx (.UnaryOp .Not x p) (.not a) := by
  refine pe_imp (pe_notT ha) ?_
  rintro σ H Q ⟨W, r', m, Qd, R, hs, hr, hw, hc, hx⟩
  refine TEof.bind hs hr hw hx ?_
  rintro W1 v x m1 H1 e1 rv hr1 hs1 hx1 ⟨t, ht, q⟩
  exact ⟨t, tru_at rv hr1 ht, hc _ _ _ _ _ e1 (.bool _) hr1 q⟩
abbrev PWs (F : Nat → FS) (cl : Cls) (X : Cx) (Wx : WX) (e : Expr) (a : E) : Prop := PW X e (TTof X.K cl Wx (wpT F a))
theorem pw_imp {e : Expr} {t t' : TT} (h : PW X e t) (i : ∀ σ H Q, t' σ H Q → t σ H Q) : PW X e t' := ⟨fun wh pins s σ H Q I q => h.run wh pins s σ H Q I (i σ H Q q)⟩
theorem t_one {x : Expr} {op : BoolOp} {a : E} {p : Pos} (ha : PTs' F cl X Wx x a) : PWs F cl X Wx (.BoolOp op [x] p) (.one a) := by
  cases op
  · exact pw_and1 ha
  · exact pw_or1 ha
theorem t_and {x y : Expr} {r : List Expr} {a b : E} {p : Pos} (ha : PTs' F cl X Wx x a) (hb : PWs F cl X Wx (.BoolOp .And (y :: r) p) b) : PWs F cl X Wx (.BoolOp .And (x :: y :: r) p) (.and a b) := by
  refine pw_imp (pw_and ha hb) ?_
  rintro σ H Q ⟨W, r', m, Qd, R, hs, hr, hw, hc, hx⟩
  refine TTof.bind hs hr hw hx ?_
  rintro W1 t m1 H1 e1 hr1 hs1 hx1 q
  cases t with
  | false => rw [if_neg Bool.false_ne_true] at q ⊢; exact hc _ _ _ _ e1 hr1 q
  | true =>
    rw [if_pos rfl] at q ⊢
    exact TTof.bind hs1 hr1 q hx1 fun W2 t m2 H2 e2 hr2 hs2 hx2 q => hc _ _ _ _ (e1.trans e2) hr2 q
theorem t_or {x y : Expr} {r : List Expr} {a b : E} {p : Pos} (ha : PTs' F cl X Wx x a) (hb : PWs F cl X Wx (.BoolOp .Or (y :: r) p) b) : PWs F cl X Wx (.BoolOp .Or (x :: y :: r) p) (.or a b) := by
  refine pw_imp (pw_or ha hb) ?_
  rintro σ H Q ⟨W, r', m, Qd, R, hs, hr, hw, hc, hx⟩
  refine TTof.bind hs hr hw hx ?_
  rintro W1 t m1 H1 e1 hr1 hs1 hx1 q
  cases t with
  | true => rw [if_pos rfl] at q ⊢; exact hc _ _ _ _ e1 hr1 q
  | false =>
    rw [if_neg Bool.false_ne_true] at q ⊢
    exact TTof.bind hs1 hr1 q hx1 fun W2 t m2 H2 e2 hr2 hs2 hx2 q => hc _ _ _ _ (e1.trans e2) hr2 q
theorem t_not {x : Expr} {a : E} {p : Pos} (ha : PTs' F cl X Wx x a) : PTs' F cl X Wx (.UnaryOp .Not x p) (.not a) := by
  refine pt_imp (pt_not ha) ?_
  rintro σ H Q ⟨W, r', m, Qd, R, hs, hr, hw, hc, hx⟩
  exact TTof.bind hs hr hw hx fun W1 t m1 H1 e1 hr1 hs1 hx1 q => hc _ _ _ _ e1 hr1 q
theorem s_ite {z x y : Expr} {t a b : E} {p : Pos} (ht : PTs' F cl X Wx z t) (ha : PEs F cl X Wx x a) (hb : PEs F cl X Wx y b) : PEs F cl X Wx (.IfExp z x y p) (.ite t a b) := by
  refine pe_imp (pe_ifExp ht ha hb) ?_
  rintro σ H Q ⟨W, r', m, Qd, R, hs, hr, hw, hc, hx⟩
  refine TTof.bind hs hr hw hx ?_
  rintro W1 t m1 H1 e1 hr1 hs1 hx1 q
  cases t with
  | true =>
    rw [if_pos rfl] at q ⊢
    exact TEof.bind hs1 hr1 q hx1 fun W2 u y m2 H2 e2 ru hr2 hs2 hx2 q => hc _ _ _ _ _ (e1.trans e2) ru hr2 q
  | false =>
    rw [if_neg Bool.false_ne_true] at q ⊢
    exact TEof.bind hs1 hr1 q hx1 fun W2 u y m2 H2 e2 ru hr2 hs2 hx2 q => hc _ _ _ _ _ (e1.trans e2) ru hr2 q
theorem pt_ifE {z x y : Expr} {tz tx ty : TT} {p : Pos} (hz : PT X z tz) (hx : PT X x tx) (hy : PT X y ty) : PT X (.IfExp z x y p) (fun σ H Q => tz σ H fun c H1 => if c = true then tx σ H1 Q else ty σ H1 Q) := by
  constructor
  intro pins s σ H Q I h
  show wpAny _ _ (do if ← isTrue z X.env (eval z X.env) then isTrue x X.env (eval x X.env) else isTrue y X.env (eval y X.env)) _ _ _
  refine wpAny_bind (thn (hz.run pins s σ H _ I h) ?_)
  rintro b s1 ⟨H1, I1, q⟩
  cases b with
  | true => exact hx.run pins s1 σ H1 Q I1 (by simpa using q)
  | false => exact hy.run pins s1 σ H1 Q I1 (by simpa using q)
theorem t_ite {z x y : Expr} {t a b : E} {p : Pos} (ht : PTs' F cl X Wx z t) (ha : PTs' F cl X Wx x a) (hb : PTs' F cl X Wx y b) : PTs' F cl X Wx (.IfExp z x y p) (.ite t a b) := by
  refine pt_imp (pt_ifE ht ha hb) ?_
  rintro σ H Q ⟨W, r', m, Qd, R, hs, hr, hw, hc, hx⟩
  refine TTof.bind hs hr hw hx ?_
  rintro W1 t m1 H1 e1 hr1 hs1 hx1 q
  cases t with
  | true =>
    rw [if_pos rfl] at q ⊢
    exact TTof.bind hs1 hr1 q hx1 fun W2 u m2 H2 e2 hr2 hs2 hx2 q => hc _ _ _ _ (e1.trans e2) hr2 q
  | false =>
    rw [if_neg Bool.false_ne_true] at q ⊢
    exact TTof.bind hs1 hr1 q hx1 fun W2 u m2 H2 e2 hr2 hs2 hx2 q => hc _ _ _ _ (e1.trans e2) hr2 q
/-! ### calls -/
theorem s_call (G : Good F cl c X) (tk : Takes X Wx) {x : Str} {y : Expr} {ys : List Expr} {f : Nat} {args : E} {p p' : Pos} (h1 : isGl c x = true) (h2 : c.fns.lookup x = some f) (h3 : chkL c (y :: ys) args = true) (ha : PAs F cl X Wx (y :: ys) args) : PEs F cl X Wx (.Call (.Name x p) (y :: ys) [] p') (.call f args) := by
  obtain ⟨m1, m2, m3⟩ := G.st.fns x f h2
  obtain ⟨k, m4, m5', m6⟩ := G.fna f
  have m5 := m5'.mono (Nat.le_succ k)
  obtain ⟨g1, g2⟩ := G.gl_of h1
  obtain ⟨n1, n2⟩ := chkL_head h3
  refine pe_imp (pe_callG m4 m5 G.guards g1 m1 m2 m3 tk ha g2 (star_of n1) (by rw [any_back]; exact n2 _)) ?_
  rintro σ H Q ⟨W, r', m, Qd, R, hs, hr, hw, hc, hx⟩
  refine TAof.bind (Qd := fun vs m1 => F f vs m1 Qd R) hs hr hw hx ?_
  rintro W1 vs xs m1 H1 e1 rvs hr1 hs1 hx1 q
  exact ⟨W1, vs, m1, Qd, R, by rw [← rvs.length]; exact m6 _ _ _ _ q, rvs, hr1, q, hc.mono e1, fun W' k v x d m' H' e' rv hr' ho hd q => hx1 W' k v x d m' H' e' rv hr' ho hd q⟩
theorem s_bi (G : Good F cl c X) {x : Str} {y : Expr} {ys : List Expr} {b : Bi} {args : E} {p p' : Pos} (h1 : isGl c x = true) (hx : x = b.name) (h2 : c.bl.contains x = true) (h3 : chkL c (y :: ys) args = true) (ha : PAs F cl X Wx (y :: ys) args) : PEs F cl X Wx (.Call (.Name x p) (y :: ys) [] p') (.bi b args) := by
  obtain ⟨g1, g2⟩ := G.gl_of h1
  obtain ⟨n1, n2⟩ := chkL_head h3
  have hm := G.st.bl x h2
  have key : PE X (.Call (.Name x p) (y :: ys) [] p') (tCB (rBi X.K b) (TAof X.K cl Wx (wpA F args))) := by
    have hc := call_bi (X := X) G.calm G.guards (by have := G.units; omega) b
    have hpl : (backTo p' (starEach ys X.env)).any (·.1) = false := by rw [any_back]; exact n2 _
    subst hx
    cases b <;> first
      | exact pe_callB hc g1 hm (by decide +kernel) ha (by decide) (by decide) (star_of n1) hpl
      | exact pe_callTy hc g1 hm (by decide +kernel) ha (by decide) (by decide) (star_of n1) hpl
  refine pe_imp key ?_
  rintro σ H Q ⟨W, r', m, Qd, R, hs, hr, hw, hc, hx⟩
  refine TAof.bind (Qd := fun vs m1 => biW b vs m1 Qd) hs hr hw hx ?_
  rintro W1 vs xs m1 H1 e1 rvs hr1 hs1 hx1 q
  exact bi_ok rvs hr1 q (hc.mono e1)
theorem s_isI (G : Good F cl c X) {y : Expr} {t : Ty} {a : E} {p p1 p2 : Pos} (h1 : isGl c "isinstance" = true) (h2 : c.bl.contains "isinstance" = true) (h3 : isGl c (Str.ofString t.name) = true) (h4 : c.bl.contains (Str.ofString t.name) = true) (hn : noStar y = true) (ha : PEs F cl X Wx y a) :
    PEs F cl X Wx (.Call (.Name "isinstance" p) [y, .Name (Str.ofString t.name) p1] [] p2) (.isI t a) := by
  obtain ⟨g1, _⟩ := G.gl_of h1
  obtain ⟨g3, g4⟩ := G.gl_of h3
  have hT : PE X (.Name (Str.ofString t.name) p1) (tC (.ty t.name)) := by
    cases t <;> exact pe_bltn (v := .ty _) g3 (G.st.bl _ h4) (by decide +kernel) rfl (by decide) g4
  refine pe_imp (pe_callB call_is g1 (G.st.bl _ h2) (by decide +kernel) (pa_cons ha (pa_cons hT pa_nil (by rfl)) (star_of hn)) (by decide) (by decide) (star_of hn) (by rfl)) ?_
  rintro σ H Q ⟨W, r', m, Qd, R, hs, hr, hw, hc, hx⟩
  refine TEof.bind hs hr hw hx ?_
  rintro W1 v x m1 H1 e1 rv hr1 hs1 hx1 ⟨kk, hk, q⟩
  refine is_ok G.st.cf hr1 rv hk (.ty _) (fun ho => ?_) (hc _ _ _ _ _ e1 (.bool _) hr1 q)
  cases hkk : kk.isOwn with
  | true =>
    cases kk <;> first | cases hkk | skip
    exact G.st.cf.kitT _ t (ho _ rfl)
  | false =>
    have e : kk.val = .type kk.name := by cases kk <;> first | rfl | cases hkk
    rw [e]
    exact kit_ty (kit_tab t kk hkk)
theorem s_isO (G : Good F cl c X) {y : Expr} {z : Str} {k : Nat} {a : E} {p p1 p2 : Pos} (h1 : isGl c "isinstance" = true) (h2 : c.bl.contains "isinstance" = true) (h3 : isGl c z = true) (h4 : c.cls.lookup z = some k) (hn : noStar y = true) (ha : PEs F cl X Wx y a) :
    PEs F cl X Wx (.Call (.Name "isinstance" p) [y, .Name z p1] [] p2) (.isO k a) := by
  obtain ⟨g1, _⟩ := G.gl_of h1
  obtain ⟨g3, g4⟩ := G.gl_of h3
  obtain ⟨hm, hok⟩ := G.st.cls z k h4
  have hT : PE X (.Name z p1) (tC (.ref (cl k))) := pe_glob (v := .ref (cl k)) g3 hm rfl g4
  refine pe_imp (pe_callB call_is g1 (G.st.bl _ h2) (by decide +kernel) (pa_cons ha (pa_cons hT pa_nil (by rfl)) (star_of hn)) (by decide) (by decide) (star_of hn) (by rfl)) ?_
  rintro σ H Q ⟨W, r', m, Qd, R, hs, hr, hw, hc, hx⟩
  refine TEof.bind hs hr hw hx ?_
  rintro W1 v x m1 H1 e1 rv hr1 hs1 hx1 ⟨kk, hk, q⟩
  refine is_ok G.st.cf hr1 rv hk (.own _) (fun ho => ?_) (hc _ _ _ _ _ e1 (.bool _) hr1 q)
  cases hkk : kk.isOwn with
  | true =>
    cases kk <;> first | cases hkk | skip
    exact G.st.cf.kitO _ k (ho _ rfl) hok
  | false =>
    have e : kk.val = .type kk.name := by cases kk <;> first | rfl | cases hkk
    have e2 : isO k kk = false := by cases kk <;> first | rfl | cases hkk
    rw [e, e2]
    exact G.st.cf.kitB kk k hkk hok
theorem base_of {y : Expr} {name : Str} {env : PySem.Env} (h : baseOk y = true) : attributeBase y name env (eval y env) = eval y env := by
  cases y <;> first | rfl | skip
  rename_i fn args kws p
  cases fn <;> first | rfl | skip
  cases args <;> first | rfl | skip
  cases kws <;> first | rfl | cases h
theorem few_of {env : PySem.Env} {p : Pos} {z : Expr} {zs : List Expr} (hl : (z :: zs).length < 20) (h : (starEach (z :: zs) env).any (·.1) = false) : ((backTo p (starEach (z :: zs) env)).all (fun x => !x.1) && (backToKw p (keywordEach [] env)).all (fun x => x.1.isSome) && decide ((z :: zs).length + ([] : List Keyword).length + (if ([] : List Keyword).isEmpty then 0 else 1) < 30)) = true := by
  have h1 : (backTo p (starEach (z :: zs) env)).all (fun x => !x.1) = true := by
    rw [← any_back p] at h
    rw [List.all_eq_not_any_not]
    simpa using h
  rw [h1]
  simp [keywordEach, backToKw]
  simp at hl
  omega
theorem s_meth (G : Good F cl c X) {y z : Expr} {zs : List Expr} {t : Mt} {o args : E} {ap p : Pos} (h1 : (ap.endLine == p.line) = true) (h2 : baseOk y = true) (h3 : (z :: zs).length < 20) (ho : PEs F cl X Wx y o) (h4 : chkL c (z :: zs) args = true) (ha : PAs F cl X Wx (z :: zs) args) :
    PEs F cl X Wx (.Call (.Attribute y t.name ap) (z :: zs) [] p) (.meth t o args) := by
  obtain ⟨n1, n2⟩ := chkL_head h4
  have hpl : (backTo p (starEach zs X.env)).any (·.1) = false := by rw [any_back]; exact n2 _
  have key : PE X (.Call (.Attribute y t.name ap) (z :: zs) [] p) (tBM X.K t.ty (rMt X.K t) (TEof X.K cl Wx (wpE F o)) (TAof X.K cl Wx (wpA F args))) := by
    have hm := mt_all (X := X) t
    cases t with
    | append => exact pe_bm PySem.F.plainAttrs_list PySem.F.slot_list_append PySem.F.type_list_append hm ho ha (base_of h2) (few_of h3 (chkL_any h4)) h1 (star_of n1) hpl
    | split => exact pe_bm PySem.F.plainAttrs_str PySem.F.slot_str_split PySem.F.type_str_split hm ho ha (base_of h2) (few_of h3 (chkL_any h4)) h1 (star_of n1) hpl
    | join => exact pe_bm PySem.F.plainAttrs_str PySem.F.slot_str_join PySem.F.type_str_join hm ho ha (base_of h2) (few_of h3 (chkL_any h4)) h1 (star_of n1) hpl
  refine pe_imp key ?_
  rintro σ H Q ⟨W, r', m, Qd, R, hs, hr, hw, hc, hx⟩
  refine TEof.bind hs hr hw hx ?_
  rintro W1 v x m1 H1 e1 rv hr1 hs1 hx1 ⟨ht, hw1⟩
  refine ⟨mtT_ok rv hr1 ht, ?_⟩
  refine TAof.bind (Qd := fun vs m2 => mtW t v vs m2 Qd) hs1 hr1 hw1 hx1 ?_
  rintro W2 vs xs m2 H2 e2 rvs hr2 hs2 hx2 q
  exact mt_ok (rv.mono hr1 e2) rvs hr2 q (hc.mono (e1.trans e2))
/-! ### errors, instances -/
theorem fs_lookup {K : Frag} {W : Wd} {H : Hp} {f : Str} {v : Val} : ∀ {fs : List Str} {us : List Val} {xs : List V}, RVs K W H us xs → (fs.zip us).lookup f = some v → ∃ x, (fs.zip xs).lookup f = some x ∧ RV K W H v x
  | [], _, _, _, e => by simp [List.lookup] at e
  | g :: fs, _, _, .nil, e => by simp [List.lookup] at e
  | g :: fs, _, _, .cons r t, e => by
    simp only [List.zip_cons_cons, List.lookup] at e ⊢
    split at e
    · cases e; exact ⟨_, rfl, r⟩
    · exact fs_lookup t e
theorem fs_none {f : Str} : ∀ {fs : List Str} {xs : List V}, fs.contains f = false → (fs.zip xs).lookup f = none
  | [], _, _ => rfl
  | g :: fs, [], _ => rfl
  | g :: fs, x :: xs, h => by
    simp only [List.contains_cons, Bool.or_eq_false_iff] at h
    simp only [List.zip_cons_cons, List.lookup, h.1]
    exact fs_none h.2
theorem inst_at {K : Frag} {W : Wd} {H : Hp} {m : Store} (h : HR K W m H) {n : Nat} {a : Addr} {k : Nat} {fs : List Str} {us : List Val} (q : W.phi[n]? = some a) (e : m[n]? = some (.inst k fs us)) : ∃ dx xs, H a = some (.ins (cl k) dx (fs.zip xs)) ∧ okO k ∧ fs.length = xs.length ∧ RVs K W H us xs := by
  obtain ⟨b, e1, r⟩ := h.obj n _ e
  rw [q] at e1; cases e1
  exact r
theorem s_attr (G : Good F cl c X) {y : Expr} {f : Str} {a : E} {p : Pos} (h1 : c.ats.contains f = true) (h2 : baseOk y = true) (ha : PEs F cl X Wx y a) : PEs F cl X Wx (.Attribute y f p) (.attr f a) := by
  refine pe_imp (pe_attr ha (base_of h2)) ?_
  rintro σ H Q ⟨W, r', m, Qd, R, hs, hr, hw, hc, hx⟩
  refine TEof.bind hs hr hw hx ?_
  rintro W1 v x m1 H1 e1 rv hr1 hs1 hx1 ⟨u, hu, q⟩
  unfold attrF at hu
  split at hu
  · split at hu
    · rename_i k v0 hf
      cases hu
      subst hf
      cases rv with
      | err ho q1 q2 r =>
        obtain ⟨T, hno⟩ := G.st.cf.exc _ ho.1 ho.2
        exact .inl ⟨_, _, _, _, _, rfl, q1, q2, ⟨T.hg, T.hk, T.hs, T.hd⟩, hno, rfl, hc _ _ _ _ _ e1 r hr1 q⟩
    · cases hu
  · rename_i n
    cases rv with
    | loc q0 =>
      split at hu
      · rename_i k fs us hm
        obtain ⟨dx, xs, hh, ho, hl, r⟩ := inst_at hr1 q0 hm
        obtain ⟨z, hz, rz⟩ := fs_lookup r hu
        exact .inr ⟨_, _, dx, _, z, rfl, hh, (G.st.cf.own _ ho.1 ho.2).1, G.st.ats f h1 _ ho, hz, hc _ _ _ _ _ e1 rz hr1 q⟩
      · cases hu
  · cases hu
theorem s_prop (G : Good F cl c X) {y : Expr} {nm : Str} {k f : Nat} {o : E} {p : Pos} (h1 : c.prs.contains (nm, k, f) = true) (h2 : baseOk y = true) (ho : PEs F cl X Wx y o) : PEs F cl X Wx (.Attribute y nm p) (.prop k f nm o) := by
  obtain ⟨hk, ⟨pp, hp⟩, hb⟩ := G.st.prs nm k f h1
  obtain ⟨kk, m4, m5, m6⟩ := G.fna f
  refine pe_imp (pe_propG ho (G.st.cf.own _ hk.1 hk.2).1 hp m4 m5 G.guards hb (base_of h2)) ?_
  rintro σ H Q ⟨W, r', m, Qd, R, hs, hr, hw, hc, hx⟩
  refine TEof.bind hs hr hw hx ?_
  rintro W1 v x m1 H1 e1 rv hr1 hs1 hx1 ⟨⟨n, fs, us, rfl, hm⟩, q⟩
  cases rv with
  | loc q0 =>
    obtain ⟨dx, xs, hh, _, hl, r⟩ := inst_at hr1 q0 hm
    exact ⟨_, dx, _, rfl, hh, W1, [.loc n], m1, Qd, noR, m6 _ _ _ _ q, .cons (.loc q0) .nil, hr1, q, hc.mono e1, fun _ _ _ _ _ _ _ _ _ _ _ _ z => z.elim⟩
theorem s_mc (G : Good F cl c X) (tk : Takes X Wx) {y : Expr} {zs : List Expr} {nm : Str} {k f : Nat} {o args : E} {ap p : Pos} (h0 : c.mts.contains (nm, k, f) = true) (h1 : (ap.endLine == p.line) = true) (h2 : baseOk y = true) (h3 : zs.length < 20) (ho : PEs F cl X Wx y o) (h4 : chkL c zs args = true) (ha : PAs F cl X Wx zs args) :
    PEs F cl X Wx (.Call (.Attribute y nm ap) zs [] p) (.mc k f nm o args) := by
  obtain ⟨hk, hm, hb⟩ := G.st.mts nm k f h0
  obtain ⟨kk, m4, m5', m6⟩ := G.fna f
  have m5 := m5'.mono (Nat.le_succ kk)
  have hcl := (G.st.cf.own _ hk.1 hk.2).1
  have fin : ∀ {t : TA}, (∀ σ H (Q : List V → Hp → Prop), TAof X.K cl Wx (wpA F args) σ H Q → t σ H Q) → PE X (.Call (.Attribute y nm ap) zs [] p) (tMcG (cl k) nm (spG X.K cl (Kx.ps f).length (F f)) Wx (TEof X.K cl Wx (wpE F o)) t) → PEs F cl X Wx (.Call (.Attribute y nm ap) zs [] p) (.mc k f nm o args) := fun {t} ht hp => by
    refine pe_imp hp ?_
    rintro σ H Q ⟨W, r', m, Qd, R, hs, hr, hw, hc, hx⟩
    refine TEof.bind hs hr hw hx ?_
    rintro W1 v x m1 H1 e1 rv hr1 hs1 hx1 ⟨⟨n, fs, us, rfl, hmn, hnm⟩, q⟩
    cases rv with
    | loc q0 =>
      obtain ⟨dx, xs, hh, _, hl, r⟩ := inst_at hr1 q0 hmn
      refine ⟨_, dx, _, rfl, hh, fs_none hnm, ht _ _ _ (TAof.bind (Qd := fun vs m2 => F f (.loc n :: vs) m2 Qd R) hs1 hr1 q hx1 ?_)⟩
      rintro W2 vs ys m2 H2 e2 rvs hr2 hs2 hx2 q2
      have rv2 : RVs X.K W2 H2 (.loc n :: vs) (.ref _ :: ys) := .cons (.loc (phi_keep e2 q0)) rvs
      exact ⟨W2, .loc n :: vs, m2, Qd, R, by rw [← rv2.length]; exact m6 _ _ _ _ q2, rv2, hr2, q2, (hc.mono e1).mono e2, fun W' k v x d m' H' e' rv hr' ho hd q => hx2 W' k v x d m' H' e' rv hr' ho hd q⟩
  cases zs with
  | nil =>
    refine fin (t := tNil) ?_ (pe_mcG0 ho hcl hm m4 m5 G.guards hb tk (base_of h2) h1)
    rintro σ H Q ⟨W, r, m, Qd, R, hs, hr, hw, hc, hx⟩
    cases args <;> first | cases h4 | skip
    obtain ⟨vs, e, q⟩ := hw
    cases e
    exact hc W [] [] m H (.refl hr) .nil hr q
  | cons z zs =>
    obtain ⟨n1, n2⟩ := chkL_head h4
    exact fin (fun _ _ _ h => h) (pe_mcG ho hcl hm m4 m5 G.guards hb tk ha (star_of n1) (by rw [any_back]; exact n2 _) (base_of h2) (few_of h3 (chkL_any h4)) h1)
/-! ### tables of the module -/
theorem kd_bind {op : KOp} {kvs : List (Text × Val)} {k d : E} {σ : St} {H : Hp} {Q : VK} (h : TEof X.K cl Wx (wpE F (.kd op kvs k d)) σ H Q) (hd : d = .cst .non) :
    TEof X.K cl Wx (wpE F k) σ H fun y H1 => ∃ (W1 : Wd) (kv : Val) (m1 : Store) (Qd : Val → Store → Prop), RV X.K W1 H1 kv y ∧ HR X.K W1 m1 H1 ∧ kdW op kvs kv .non (fun v => Qd v m1) ∧ Cont X.K W1 H1 Qd Q := by
  obtain ⟨W, r, m, Qd, R, hs, hr, hw, hc, hx⟩ := h
  subst hd
  refine TEof.bind hs hr hw hx ?_
  rintro W1 v x m1 H1 e1 rv hr1 hs1 hx1 q
  exact ⟨W1, v, m1, Qd, rv, hr1, q, hc.mono e1⟩
theorem s_kget1 (G : Good F cl c X) {x : Str} {y : Expr} {kvs : List (Text × Val)} {k d : E} {xp ap p : Pos} (h1 : kdOk c x kvs = true) (h2 : (ap.endLine == p.line) = true) (hn : noStar y = true) (hd : d = .cst .non) (hk : PEs F cl X Wx y k) :
    PEs F cl X Wx (.Call (.Attribute (.Name x xp) "get" ap) [y] [] p) (.kd .get1 kvs k d) := by
  obtain ⟨g, l⟩ := kdOk_of h1
  obtain ⟨g1, g2⟩ := G.gl_of g
  obtain ⟨a, hm, es, n, D, KR⟩ := G.st.kd _ _ l
  have hs : starEach [y] X.env = [(false, eval y X.env)] := star_of hn
  refine pe_imp (pe_kget1 D (pe_glob g1 hm rfl g2) hk ⟨rfl, by rw [hs]; rfl, h2, by rw [hs]; rfl⟩) ?_
  intro σ H Q h
  obtain ⟨W, r, m, Qd, R, a1, a2, a3, a4, a5⟩ := kd_bind h hd
  refine ⟨W, r, m, Qd, R, a1, a2, a3, ?_, a5⟩
  intro W1 v x m1 H1 e1 rv hr1 q
  obtain ⟨W2, kv, m2, Q2, rv2, hr2, w2, c2⟩ := a4 W1 v x m1 H1 e1 rv hr1 q
  cases kv with
  | str t =>
    obtain ⟨r', ns, hr'⟩ := kd_ns D KR t
    refine ⟨_, r', rv2.str_inv, ns, fun z => ?_, fun u z => ?_⟩
    · have w3 : Q2 ((kvs.lookup t).getD .non) m2 := w2
      cases hl : kvs.lookup t with
      | none => rw [hl] at w3; exact c2.here hr2 .non w3
      | some v => rw [hl] at hr'; obtain ⟨u, xv, e, _⟩ := hr'; rw [z] at e; cases e
    · have w3 : Q2 ((kvs.lookup t).getD .non) m2 := w2
      cases hl : kvs.lookup t with
      | none => rw [hl] at hr'; rw [hr'] at z; cases z
      | some v => rw [hl] at hr' w3; obtain ⟨u', xv, e, rx, rall⟩ := hr'; rw [z] at e; cases e; exact ⟨xv, rx, c2.here hr2 (rall _ _) w3⟩
  | _ => exact w2.elim
theorem s_kget2 (G : Good F cl c X) {x : Str} {y z : Expr} {kvs : List (Text × Val)} {k d : E} {xp ap p : Pos} (h1 : kdOk c x kvs = true) (h2 : (ap.endLine == p.line) = true) (hn : noStar y = true) (hn2 : noStar z = true) (hk : PEs F cl X Wx y k) (hd : PEs F cl X Wx z d) :
    PEs F cl X Wx (.Call (.Attribute (.Name x xp) "get" ap) [y, z] [] p) (.kd .get2 kvs k d) := by
  obtain ⟨g, l⟩ := kdOk_of h1
  obtain ⟨g1, g2⟩ := G.gl_of g
  obtain ⟨a, hm, es, n, D, KR⟩ := G.st.kd _ _ l
  have hs : starEach [y, z] X.env = [(false, eval y X.env), (false, eval z X.env)] := by rw [star_of hn, star_of hn2]; rfl
  refine pe_imp (pe_kget2 D (pe_glob g1 hm rfl g2) hk hd ⟨rfl, by rw [hs]; rfl, h2, by rw [hs]; rfl⟩) ?_
  rintro σ H Q ⟨W, r, m, Qd, R, hs, hr, hw, hc, hx⟩
  refine TEof.bind hs hr hw hx ?_
  rintro W1 kv x m1 H1 e1 rv hr1 hs1 hx1 hw1
  refine TEof.bind hs1 hr1 hw1 hx1 ?_
  rintro W2 dv x2 m2 H2 e2 rd hr2 hs2 hx2 w2
  cases kv with
  | str t =>
    obtain ⟨r', ns, hr'⟩ := kd_ns D KR t
    refine ⟨_, r', rv.str_inv, ns, fun z => ?_, fun u z => ?_⟩
    · have w3 : Qd ((kvs.lookup t).getD dv) m2 := w2
      cases hl : kvs.lookup t with
      | none => rw [hl] at w3; exact hc _ _ _ _ _ (e1.trans e2) rd hr2 w3
      | some v => rw [hl] at hr'; obtain ⟨u, xv, e, _⟩ := hr'; rw [z] at e; cases e
    · have w3 : Qd ((kvs.lookup t).getD dv) m2 := w2
      cases hl : kvs.lookup t with
      | none => rw [hl] at hr'; rw [hr'] at z; cases z
      | some v => rw [hl] at hr' w3; obtain ⟨u', xv, e, rx, rall⟩ := hr'; rw [z] at e; cases e; exact ⟨xv, rx, hc _ _ _ _ _ (e1.trans e2) (rall _ _) hr2 w3⟩
  | _ => exact w2.elim
theorem s_kidx (G : Good F cl c X) {x : Str} {y : Expr} {kvs : List (Text × Val)} {k d : E} {xp p : Pos} (h1 : kdOk c x kvs = true) (h2 : PlainIx y) (hd : d = .cst .non) (hk : PEs F cl X Wx y k) :
    PEs F cl X Wx (.Subscript (.Name x xp) y p) (.kd .idx kvs k d) := by
  obtain ⟨g, l⟩ := kdOk_of h1
  obtain ⟨g1, g2⟩ := G.gl_of g
  obtain ⟨a, hm, es, n, D, KR⟩ := G.st.kd _ _ l
  refine pe_imp (pe_ix ix_kdict (pe_glob (v := .ref a) g1 hm rfl g2) hk h2) ?_
  intro σ H Q h
  obtain ⟨W, r, m, Qd, R, a1, a2, a3, a4, a5⟩ := kd_bind h hd
  refine ⟨W, r, m, Qd, R, a1, a2, a3, ?_, a5⟩
  intro W1 v x m1 H1 e1 rv hr1 q
  obtain ⟨W2, kv, m2, Q2, rv2, hr2, w2, c2⟩ := a4 W1 v x m1 H1 e1 rv hr1 q
  cases kv with
  | str t =>
    obtain ⟨r', ns, hr'⟩ := kd_ns D KR t
    obtain ⟨v, hl, w3⟩ : ∃ v, kvs.lookup t = some v ∧ Q2 v m2 := w2
    rw [hl] at hr'
    obtain ⟨u, xv, rfl, rx, rall⟩ := hr'
    exact ⟨a, _, xv, rfl, rv2.str_inv, ⟨es, n, u, D.at_, D.lit, ns, rx⟩, c2.here hr2 (rall _ _) w3⟩
  | _ => exact w2.elim
theorem s_kin (G : Good F cl c X) {x : Str} {l : Expr} {kvs : List (Text × Val)} {k d : E} {xp p : Pos} (h1 : kdOk c x kvs = true) (hd : d = .cst .non) (hk : PEs F cl X Wx l k) :
    PEs F cl X Wx (.Compare l [.In] [.Name x xp] p) (.kd .isin kvs k d) ∧ PTs' F cl X Wx (.Compare l [.In] [.Name x xp] p) (.kd .isin kvs k d) := by
  obtain ⟨g, lk⟩ := kdOk_of h1
  obtain ⟨g1, g2⟩ := G.gl_of g
  obtain ⟨a, hm, es, n, D, KR⟩ := G.st.kd _ _ lk
  have key : ∀ (kv : Val) (y : V) (W2 : Wd) (m2 : Store) (H1 : Hp) (Q2 : Val → Prop) (P : V → Hp → Prop), RV X.K W2 H1 kv y → kdW .isin kvs kv .non Q2 → (∀ b, Q2 (.bool b) → P (.bl b) H1) →
      ∃ (z : Str) (r : Option Value), y = .str z ∧ V.ref a = .ref a ∧ PySem.W.nsIn X.K a z = some r ∧ P (.bl r.isSome) H1 := by
    intro kv y W2 m2 H1 Q2 P rv2 w2 hP
    cases kv with
    | str t =>
      obtain ⟨r', ns, hr'⟩ := kd_ns D KR t
      refine ⟨_, r', rv2.str_inv, rfl, ns, hP _ ?_⟩
      have w3 : Q2 (.bool (kvs.lookup t).isSome) := w2
      cases hl : kvs.lookup t with
      | none => rw [hl] at hr' w3; rw [hr']; exact w3
      | some v => rw [hl] at hr' w3; obtain ⟨u', xv, e, rx, rall⟩ := hr'; rw [e]; exact w3
    | _ => exact w2.elim
  constructor
  · refine pe_imp (pe_cmpR (op_in_kd D) hk (pe_glob (v := .ref a) g1 hm rfl g2) rfl) ?_
    intro σ H Q h
    obtain ⟨W, r, m, Qd, R, a1, a2, a3, a4, a5⟩ := kd_bind h hd
    refine ⟨W, r, m, Qd, R, a1, a2, a3, ?_, a5⟩
    intro W1 v x m1 H1 e1 rv hr1 q
    obtain ⟨W2, kv, m2, Q2, rv2, hr2, w2, c2⟩ := a4 W1 v x m1 H1 e1 rv hr1 q
    exact key kv x W2 m2 H1 _ Q rv2 w2 fun b q => c2.here hr2 (.bool b) q
  · refine pt_imp (pt_cmpR (op_in_kd D) hk (pe_glob (v := .ref a) g1 hm rfl g2) rfl) ?_
    rintro σ H Q ⟨W, r, m, Qd, R, hs, hr, hw, hc, hx⟩
    subst hd
    refine TEof.bind hs hr hw hx ?_
    rintro W1 kv x m1 H1 e1 rv hr1 hs1 hx1 w2
    refine key kv x W1 m1 H1 (fun v => ∃ t, tru m1 v = some t ∧ Qd t m1) (fun x H' => ∃ k, x = V.bl k ∧ Q k H') rv w2 ?_
    rintro b ⟨t, ht, q⟩
    cases ht
    exact ⟨b, rfl, hc _ _ _ _ e1 hr1 q⟩
theorem s_knot (G : Good F cl c X) {x : Str} {l : Expr} {kvs : List (Text × Val)} {k d : E} {xp p : Pos} (h1 : kdOk c x kvs = true) (hd : d = .cst .non) (hk : PEs F cl X Wx l k) :
    PEs F cl X Wx (.Compare l [.NotIn] [.Name x xp] p) (.kd .notin kvs k d) ∧ PTs' F cl X Wx (.Compare l [.NotIn] [.Name x xp] p) (.kd .notin kvs k d) := by
  obtain ⟨g, lk⟩ := kdOk_of h1
  obtain ⟨g1, g2⟩ := G.gl_of g
  obtain ⟨a, hm, es, n, D, KR⟩ := G.st.kd _ _ lk
  have key : ∀ (kv : Val) (y : V) (W2 : Wd) (m2 : Store) (H1 : Hp) (Q2 : Val → Prop) (P : V → Hp → Prop), RV X.K W2 H1 kv y → kdW .notin kvs kv .non Q2 → (∀ b, Q2 (.bool b) → P (.bl b) H1) →
      ∃ (z : Str) (r : Option Value), y = .str z ∧ V.ref a = .ref a ∧ PySem.W.nsIn X.K a z = some r ∧ P (.bl (!r.isSome)) H1 := by
    intro kv y W2 m2 H1 Q2 P rv2 w2 hP
    cases kv with
    | str t =>
      obtain ⟨r', ns, hr'⟩ := kd_ns D KR t
      refine ⟨_, r', rv2.str_inv, rfl, ns, hP _ ?_⟩
      have w3 : Q2 (.bool (!(kvs.lookup t).isSome)) := w2
      cases hl : kvs.lookup t with
      | none => rw [hl] at hr' w3; rw [hr']; exact w3
      | some v => rw [hl] at hr' w3; obtain ⟨u', xv, e, rx, rall⟩ := hr'; rw [e]; exact w3
    | _ => exact w2.elim
  constructor
  · refine pe_imp (pe_cmpR (op_notIn_kd D) hk (pe_glob (v := .ref a) g1 hm rfl g2) rfl) ?_
    intro σ H Q h
    obtain ⟨W, r, m, Qd, R, a1, a2, a3, a4, a5⟩ := kd_bind h hd
    refine ⟨W, r, m, Qd, R, a1, a2, a3, ?_, a5⟩
    intro W1 v x m1 H1 e1 rv hr1 q
    obtain ⟨W2, kv, m2, Q2, rv2, hr2, w2, c2⟩ := a4 W1 v x m1 H1 e1 rv hr1 q
    exact key kv x W2 m2 H1 _ Q rv2 w2 fun b q => c2.here hr2 (.bool b) q
  · refine pt_imp (pt_cmpR (op_notIn_kd D) hk (pe_glob (v := .ref a) g1 hm rfl g2) rfl) ?_
    rintro σ H Q ⟨W, r, m, Qd, R, hs, hr, hw, hc, hx⟩
    subst hd
    refine TEof.bind hs hr hw hx ?_
    rintro W1 kv x m1 H1 e1 rv hr1 hs1 hx1 w2
    refine key kv x W1 m1 H1 (fun v => ∃ t, tru m1 v = some t ∧ Qd t m1) (fun x H' => ∃ k, x = V.bl k ∧ Q k H') rv w2 ?_
    rintro b ⟨t, ht, q⟩
    cases ht
    exact ⟨b, rfl, hc _ _ _ _ e1 hr1 q⟩
theorem ix_plain {y : Expr} (h : notSlice y = true) : PlainIx y := by
  intro o i
  cases y <;> first | rfl | cases h
theorem s_idx {x y : Expr} {a i : E} {p : Pos} (h : notSlice y = true) (ha : PEs F cl X Wx x a) (hi : PEs F cl X Wx y i) : PEs F cl X Wx (.Subscript x y p) (.idx a i) := by
  refine pe_imp (pe_ix ix_seq ha hi (ix_plain h)) ?_
  rintro σ H Q ⟨W, r', m, Qd, R, hs, hr, hw, hc, hx⟩
  refine TEof.bind hs hr hw hx ?_
  rintro W1 v x m1 H1 e1 rv hr1 hs1 hx1 hw1
  refine TEof.bind hs1 hr1 hw1 hx1 ?_
  rintro W2 u y m2 H2 e2 ru hr2 hs2 hx2 ⟨w, hq, q⟩
  exact idx_ok (rv.mono hr1 e2) ru hr2 hq q (hc.mono (e1.trans e2))
/-- a part of a slice: what it is worth -/
def TOof (K : Frag) (cl : Cls) (Wx : WX) (has : Bool) (wp : WE0) : TO := fun σ H Q =>
  ∃ (W : Wd) (r : Env) (m : Store) (Qd : Val → Store → Prop) (R : Rq), SR K W H r σ ∧ HR K W m H ∧ wp r m Qd R ∧
    (∀ (W' : Wd) (v : Val) (m' : Store) (H' : Hp), Ext W H W' H' → HR K W' m' H' → Qd v m' → ∃ i, partF has v = some i ∧ Q i H') ∧ ContX K cl W H σ R Wx
theorem po_of {lo : Option Expr} {l : E} {has : Bool} (h : (has = false ∧ lo = none ∧ l = .cst .non) ∨ ∃ y, has = true ∧ lo = some y ∧ PEs F cl X Wx y l) : PO X lo (TOof X.K cl Wx has (wpE F l)) := by
  rcases h with ⟨rfl, rfl, rfl⟩ | ⟨y, rfl, rfl, h⟩
  · refine ⟨fun pins s σ H Q I q => po_none.run pins s σ H Q I ?_⟩
    obtain ⟨W, r', m, Qd, R, hs, hr, hw, hc, hx⟩ := q
    obtain ⟨i, e, q⟩ := hc W _ m H (.refl hr) hr hw
    cases e
    exact q
  · refine ⟨fun pins s σ H Q I q => (po_some h).run pins s σ H Q I ?_⟩
    obtain ⟨W, r', m, Qd, R, hs, hr, hw, hc, hx⟩ := q
    refine TEof.bind hs hr hw hx ?_
    rintro W1 v x m1 H1 e1 rv hr1 hs1 hx1 q
    obtain ⟨i, e, q⟩ := hc W1 v m1 H1 e1 hr1 q
    cases v <;> first | (cases e; exact ⟨_, rv.int_inv, q⟩) | cases e
theorem TOof.bind {K : Frag} {has : Bool} {wp : WE0} {σ : St} {H : Hp} {W : Wd} {r : Env} {m : Store} {Qd : Val → Store → Prop} {R : Rq} {Q : Option Int → Hp → Prop} (s : SR K W H r σ) (h : HR K W m H) (w : wp r m Qd R) (cx : ContX K cl W H σ R Wx)
    (k : ∀ (W1 : Wd) (v : Val) (m1 : Store) (H1 : Hp), Ext W H W1 H1 → HR K W1 m1 H1 → SR K W1 H1 r σ → ContX K cl W1 H1 σ R Wx → Qd v m1 → ∃ i, partF has v = some i ∧ Q i H1) : TOof K cl Wx has wp σ H Q :=
  ⟨W, r, m, Qd, R, s, h, w, fun W1 v m1 H1 e hr q => k W1 v m1 H1 e hr (s.mono h e) (cx.mono e) q, cx⟩
theorem s_sl {x : Expr} {lo hi : Option Expr} {a l h : E} {hl hh : Bool} {p p2 : Pos} (ha : PEs F cl X Wx x a) (h1 : (hl = false ∧ lo = none ∧ l = .cst .non) ∨ ∃ y, hl = true ∧ lo = some y ∧ PEs F cl X Wx y l)
    (h2 : (hh = false ∧ hi = none ∧ h = .cst .non) ∨ ∃ y, hh = true ∧ hi = some y ∧ PEs F cl X Wx y h) : PEs F cl X Wx (.Subscript x (.Slice lo hi none p2) p) (.sl hl hh a l h) := by
  refine pe_imp (pe_slice sl_G ha (po_of h1) (po_of h2)) ?_
  rintro σ H Q ⟨W, r', m, Qd, R, hs, hr, hw, hc, hx⟩
  refine TEof.bind hs hr hw hx ?_
  rintro W1 v x m1 H1 e1 rv hr1 hs1 hx1 hw1
  refine TOof.bind hs1 hr1 hw1 hx1 ?_
  rintro W2 l' m2 H2 e2 hr2 hs2 hx2 ⟨i, hi', hw2⟩
  refine ⟨i, hi', TOof.bind hs2 hr2 hw2 hx2 ?_⟩
  rintro W3 u' m3 H3 e3 hr3 hs3 hx3 ⟨j, hj, z, hz, q⟩
  exact ⟨j, hj, slice_ok ((rv.mono hr1 e2).mono hr2 e3) hr3 hz q (hc.mono ((e1.trans e2).trans e3))⟩
/-! ### what is walked -/
def TIof (K : Frag) (cl : Cls) (Wx : WX) (wp : Env → Store → (List Val → (Store → Prop) → Store → Prop) → Rq → Prop) : TI := fun σ H Q =>
  ∃ (W : Wd) (r : Env) (m : Store) (P : List Val → (Store → Prop) → Store → Prop) (R : Rq), SR K W H r σ ∧ HR K W m H ∧ wp r m P R ∧
    (∀ (W' : Wd) (items : List Val) (live : Store → Prop) (m' : Store) (H' : Hp) (J : It), Ext W H W' H' → HR K W' m' H' → SR K W' H' r σ → ContX K cl W' H' σ R Wx → Walk K J items live W' H' → P items live m' → Q J H') ∧ ContX K cl W H σ R Wx
def wpI (F : Nat → FS) (ik : IK) (e1 e2 : E) : Env → Store → (List Val → (Store → Prop) → Store → Prop) → Rq → Prop := fun r m P R =>
  wpE F e1 r m (fun v1 m1 => wpE F e2 r m1 (fun v2 m2 => ∃ items, itF ik m2 v1 v2 = some items ∧ P items (fun m => itF ik m v1 v2 = some items) m2) R) R
theorem pi_imp {tg it : Expr} {t t' : TI} (h : PI X tg it t) (i : ∀ σ H R, t' σ H R → t σ H R) : PI X tg it t' := ⟨fun pins s σ H R I q => h.run pins s σ H R I (i σ H R q)⟩
/-- a list, a tuple or a text -/
def iAny (K : Frag) (te : TE) : TI := fun σ H R => te σ H fun x H1 => (∃ a xs, x = .ref a ∧ SqL K H1 a xs ∧ R (Itl K a) H1) ∨ (∃ a xs, x = .ref a ∧ SqT K H1 a xs ∧ R (Itt K a) H1) ∨ ∃ z, x = .str z ∧ R (Its z) H1
theorem pi_any {tg it : Expr} {te : TE} (h : PE X it te) : PI X tg it (iAny X.K te) := by
  constructor
  intro pins s σ H R I q
  refine thn (h.run pins s σ H _ I q) ?_
  rintro v s1 ⟨x, H1, I1, rx, q | q | q⟩
  · obtain ⟨a, xs, rfl, sl, q⟩ := q
    obtain rfl : v = .ref a := rx
    obtain ⟨its, rv, pl, hz⟩ := I1.list sl
    exact wpAny_pyIter_list pl.isList (pi_one (tk := s1.toks) I1 _ (turn_list a _) ⟨_, Heap.get?_push_size _ rfl, rfl, rfl⟩ q)
  · obtain ⟨a, xs, rfl, sl, q⟩ := q
    obtain rfl : v = .ref a := rx
    obtain ⟨its, rv, pl, hz⟩ := I1.tuple sl
    exact wpAny_pyIter_tuple pl (pi_one (tk := s1.toks) I1 _ (turn_tuple a _) ⟨_, Heap.get?_push_size _ rfl, rfl, rfl⟩ q)
  · obtain ⟨z, rfl, q⟩ := q
    obtain ⟨t, rfl⟩ := rx
    cases ha : z.cps.all (· < 128)
    · exact wpAny_pyIter_wide ha (pi_one (tk := s1.toks) I1 _ (turn_str _ z t "str_iterator" (.inr rfl)) ⟨_, Heap.get?_push_size _ rfl, rfl, rfl⟩ q)
    · exact wpAny_pyIter_ascii ha (pi_one (tk := s1.toks) I1 _ (turn_str _ z t "str_ascii_iterator" (.inl rfl)) ⟨_, Heap.get?_push_size _ rfl, rfl, rfl⟩ q)
theorem s_seq {tg it : Expr} {a : E} (h : PEs F cl X Wx it a) : PI X tg it (TIof X.K cl Wx (wpI F .seq a (.cst .non))) := by
  refine pi_imp (pi_any h) ?_
  rintro σ H Q ⟨W, r', m, P, R, hs, hr, hw, hc, hx⟩
  refine TEof.bind hs hr hw hx ?_
  rintro W1 v x m1 H1 e1 rv hr1 hs1 hx1 ⟨items, hi, q⟩
  cases v with
  | str s =>
    rw [rv.str_inv]
    cases hi
    exact .inr (.inr ⟨_, rfl, hc _ _ _ _ _ _ e1 hr1 hs1 hx1 walk_str q⟩)
  | tup vs =>
    obtain ⟨a, xs, rfl, sl, w⟩ := walk_T (live := fun m => itF .seq m (.tup vs) .non = some items) hr1 rv
    cases hi
    exact .inr (.inl ⟨a, xs, rfl, sl, hc _ _ _ _ _ _ e1 hr1 hs1 hx1 w q⟩)
  | il o vs =>
    obtain ⟨a, xs, rfl, sl, w⟩ := walk_L hr1 rv hi rfl
    exact .inl ⟨a, xs, rfl, sl, hc _ _ _ _ _ _ e1 hr1 hs1 hx1 w q⟩
  | loc n =>
    obtain ⟨a, xs, rfl, sl, w⟩ := walk_L hr1 rv hi rfl
    exact .inl ⟨a, xs, rfl, sl, hc _ _ _ _ _ _ e1 hr1 hs1 hx1 w q⟩
  | _ => cases hi
theorem s_rng1 (G : Good F cl c X) {tg y : Expr} {a : E} {p p2 : Pos} (h1 : isGl c "range" = true) (h2 : c.bl.contains "range" = true) (hn : noStar y = true) (h : PEs F cl X Wx y a) : PI X tg (.Call (.Name "range" p) [y] [] p2) (TIof X.K cl Wx (wpI F .rng1 a (.cst .non))) := by
  refine pi_imp (pi_range1 (G.gl_of h1).1 (G.st.bl _ h2) (pa_cons h pa_nil (star_of hn)) (star_of hn)) ?_
  rintro σ H Q ⟨W, r', m, P, R, hs, hr, hw, hc, hx⟩
  refine TEof.bind hs hr hw hx ?_
  rintro W1 v x m1 H1 e1 rv hr1 hs1 hx1 ⟨items, hi, q⟩
  cases v with
  | int n =>
    rw [rv.int_inv]
    have hi' := hi
    simp only [itF] at hi
    split at hi
    · rename_i hb
      cases hi
      exact ⟨n, rfl, hb.1, hb.2, hc _ _ _ _ _ _ e1 hr1 hs1 hx1 walk_rng q⟩
    · cases hi
  | _ => cases hi
theorem s_rng2 (G : Good F cl c X) {tg y z : Expr} {a b : E} {p p2 : Pos} (h1 : isGl c "range" = true) (h2 : c.bl.contains "range" = true) (hn : noStar y = true) (hn2 : noStar z = true) (h : PEs F cl X Wx y a) (hb : PEs F cl X Wx z b) : PI X tg (.Call (.Name "range" p) [y, z] [] p2) (TIof X.K cl Wx (wpI F .rng2 a b)) := by
  refine pi_imp (pi_range2 (G.gl_of h1).1 (G.st.bl _ h2) (pa_cons h (pa_cons hb pa_nil (star_of hn2)) (star_of hn)) (by rw [star_of hn, star_of hn2]; rfl) (star_of hn2)) ?_
  rintro σ H Q ⟨W, r', m, P, R, hs, hr, hw, hc, hx⟩
  refine TEof.bind hs hr hw hx ?_
  rintro W1 v x m1 H1 e1 rv hr1 hs1 hx1 hw1
  refine TEof.bind hs1 hr1 hw1 hx1 ?_
  rintro W2 u y m2 H2 e2 ru hr2 hs2 hx2 ⟨items, hi, q⟩
  cases v with
  | int n =>
    cases u with
    | int k =>
      rw [rv.int_inv, ru.int_inv]
      simp only [itF] at hi
      split at hi
      · rename_i hb
        cases hi
        exact ⟨n, k, rfl, hb, hc _ _ _ _ _ _ (e1.trans e2) hr2 hs2 hx2 walk_rng q⟩
      · cases hi
    | _ => cases hi
  | _ => cases hi
theorem s_zip (G : Good F cl c X) {t y z : Expr} {a b : E} {p p2 : Pos} (ht : isTupT t = true) (h1 : isGl c "zip" = true) (h2 : c.bl.contains "zip" = true) (hn : noStar y = true) (hn2 : noStar z = true) (h : PEs F cl X Wx y a) (hb : PEs F cl X Wx z b) : PI X t (.Call (.Name "zip" p) [y, z] [] p2) (TIof X.K cl Wx (wpI F .zip a b)) := by
  cases t <;> first | cases ht | skip
  refine pi_imp (DyZ.pi_zipG (G.gl_of h1).1 (G.st.bl _ h2) (pa_cons h (pa_cons hb pa_nil (star_of hn2)) (star_of hn)) (star_of hn) (by rw [any_back, star_of hn2]; rfl)) ?_
  rintro σ H Q ⟨W, r', m, P, R, hs, hr, hw, hc, hx⟩
  refine TEof.bind hs hr hw hx ?_
  rintro W1 v x m1 H1 e1 rv hr1 hs1 hx1 hw1
  refine TEof.bind hs1 hr1 hw1 hx1 ?_
  rintro W2 u y m2 H2 e2 ru hr2 hs2 hx2 ⟨items, hi, q⟩
  have hi' := hi
  simp only [itF, Option.bind_eq_some_iff, Option.map_eq_some_iff] at hi
  obtain ⟨us, eu, vs, ev, rfl⟩ := hi
  have inj : ∀ {a b : List (Val × Val)}, (a.map fun p => Val.tup [p.1, p.2]) = (b.map fun p => Val.tup [p.1, p.2]) → a = b := by
    intro a
    induction a with
    | nil => intro b h; cases b with
      | nil => rfl
      | cons _ _ => simp at h
    | cons p a ih => intro b h; cases b with
      | nil => simp at h
      | cons q b =>
        simp only [List.map_cons, List.cons.injEq, Val.tup.injEq] at h
        obtain ⟨⟨e1, e2, _⟩, e3⟩ := h
        rw [ih e3, show p = q from Prod.ext e1 e2]
  have lv : ∀ m3, itF .zip m3 v u = some ((us.zip vs).map fun p => Val.tup [p.1, p.2]) → ∃ us' vs', sq m3 v = some us' ∧ sq m3 u = some vs' ∧ us'.zip vs' = us.zip vs := by
    intro m3 h3
    simp only [itF, Option.bind_eq_some_iff, Option.map_eq_some_iff] at h3
    obtain ⟨us', eu', vs', ev', e⟩ := h3
    exact ⟨us', vs', eu', ev', inj e⟩
  obtain ⟨k1, k2, p, q', xs, ys, rfl, rfl, g1, g2, wk⟩ := walk_zip hr2 (rv.mono hr1 e2) ru eu ev lv
  exact ⟨k1, k2, p, q', xs, ys, rfl, g1, g2, hc _ _ _ _ _ _ (e1.trans e2) hr2 hs2 hx2 wk q⟩
end
end Dy

/-! Dq, part G: classes called, an own ==, written dicts. -/
namespace Dy
open PySem PySem.Spec L2
variable [Kx]
section
variable {F : Nat → FS} {c : Cc} {X : Cx} {Wx : WX}
/-! ### keywords -/
theorem kw_names : ∀ (kws : List Keyword) (ks : List Str) (pos : Pos) (env : PySem.Env), ks.map some = kws.map (·.arg) → (backToKw pos (keywordEach kws env)).all (·.1.isSome) = true ∧ (backToKw pos (keywordEach kws env)).filterMap (·.1) = ks ∧ (backToKw pos (keywordEach kws env)).any (·.1.isNone) = false
  | [], [], _, _, _ => ⟨rfl, rfl, rfl⟩
  | ⟨nm, v, p⟩ :: kws, s :: ks, pos, env, h => by
    simp only [List.map_cons, List.cons.injEq] at h
    obtain ⟨h1, h2⟩ := h
    subst h1
    obtain ⟨a, b, d⟩ := kw_names kws ks pos env h2
    rw [arm_keywordEach_cons]
    refine ⟨?_, ?_, ?_⟩
    · show (true && (backToKw pos (keywordEach kws env)).all (·.1.isSome)) = true
      rw [a]; rfl
    · show s :: (backToKw pos (keywordEach kws env)).filterMap (·.1) = s :: ks
      rw [b]
    · show (false || (backToKw pos (keywordEach kws env)).any (·.1.isNone)) = false
      rw [d]; rfl
  | [], _ :: _, _, _, h => by simp at h
  | _ :: _, [], _, _, h => by simp at h
theorem pk_nilE : PK X [] (TAof X.K cl Wx (wpA F .nil)) := by
  constructor
  rintro pos pins s σ H Q I ⟨W, r, m, Qd, R, hs, hr, ⟨vs, e, q⟩, hc, hx⟩
  cases e
  exact pk_nil.run pos pins s σ H Q I (hc W [] [] m H (.refl hr) .nil hr q)
theorem pk_consE {nm : Option Str} {e : Expr} {kp : Pos} {kws : List Keyword} {a b : E} (ha : PE X e (TEof X.K cl Wx (wpE F a))) (hb : PK X kws (TAof X.K cl Wx (wpA F b))) : PK X (⟨nm, e, kp⟩ :: kws) (TAof X.K cl Wx (wpA F (.cons a b))) := by
  constructor
  rintro pos pins s σ H Q I ⟨W, r, m, Qd, R, hs, hr, hw, hc, hx⟩
  refine (pk_cons ha hb).run pos pins s σ H Q I ?_
  refine TEof.bind hs hr hw hx ?_
  rintro W1 v x m1 H1 e1 rv hr1 hs1 hx1 hw1
  refine TAof.bind (Qd := fun vs m2 => ∃ vs', Val.tup (v :: vs) = .tup vs' ∧ Qd vs' m2) hs1 hr1 hw1 hx1 ?_
  rintro W2 vs xs m2 H2 e2 rvs hr2 hs2 hx2 ⟨vs', ev, q⟩
  cases ev
  exact hc W2 _ _ m2 H2 (e1.trans e2) (.cons (rv.mono hr1 e2) rvs) hr2 q
theorem tyx_of {K : Frag} {W : Wd} {H : Hp} {m : Store} {v : Val} {x : V} {k : Kd} (f : CF K) (h : HR K W m H) (r : RV K W H v x) (e : kd m v = some k) (hn : notErr v = true) : TyX K H x k.val ∧ ∀ c, k = .own c → Kx.ok c = true := by
  have no : ∀ {k : Kd}, k.isOwn = false → ∀ c, k = .own c → Kx.ok c = true := fun {k} h c z => by subst z; cases h
  cases r with
  | non => cases e; exact ⟨.base .non, no rfl⟩
  | bool y => cases e; exact ⟨.base (.bl y), no rfl⟩
  | int i => cases e; exact ⟨.base (.int i), no rfl⟩
  | str s => cases e; exact ⟨.base (.str _), no rfl⟩
  | tup s r =>
    cases e
    rcases s with (s | ⟨o, s⟩) | ⟨o, its, n, s, c, _⟩
    · exact ⟨.base (.tup s), no rfl⟩
    · exact ⟨.fTuple s, no rfl⟩
    · exact ⟨.kTuple s c, no rfl⟩
  | il1 i q r => cases e; exact ⟨.base (.lst q), no rfl⟩
  | il0 i s r =>
    cases e
    rcases s with (s | ⟨o, s⟩) | ⟨o, its, n, s, c, _⟩
    · exact ⟨.base (.lst s), no rfl⟩
    · exact ⟨.base (.frz s), no rfl⟩
    · exact ⟨.kList s c, no rfl⟩
  | ilk s r =>
    cases e
    rcases s with (s | ⟨o, s⟩) | ⟨o, its, n, s, c, _⟩
    · cases s
    · cases s
    · exact ⟨.kList s c, no rfl⟩
  | dic i n l q r => cases e; exact ⟨.base (.dK q), no rfl⟩
  | fn => cases e
  | err ho q1 q2 r => cases hn
  | loc q0 =>
    rename_i n a
    simp only [kd] at e
    cases hm : m[n]? with
    | none => rw [hm] at e; cases e
    | some o =>
      cases o with
      | list vs =>
        rw [hm] at e; cases e
        obtain ⟨xs, q1, r1⟩ := loc_at h q0 hm
        exact ⟨.base (.lst q1), no rfl⟩
      | inst c fs us =>
        rw [hm] at e; cases e
        obtain ⟨dx, xs, q1, ho, _⟩ := inst_at h q0 hm
        obtain ⟨c1, c2, c3, c4, c5⟩ := f.own c ho.1 ho.2
        exact ⟨.base (.ins q1 c1 c2 c3 c4 c5), fun c z => by cases z; exact ho.1⟩
theorem oeq_in (G : Good F cl c X) {k f : Nat} {neg : Bool} (h2 : c.eqs.contains (k, f) = true) {W2 : Wd} {m2 : Store} {H2 : Hp} {v u : Val} {x y : V} {P : Val → Store → Prop} {Q : VK} (rv : RV X.K W2 H2 v x) (ru : RV X.K W2 H2 u y) (hr2 : HR X.K W2 m2 H2)
    (h : isIn m2 k v ∧ ((kd m2 u).isSome = true ∧ notErr u = true) ∧ F f [v, u] m2 (fun w m3 => ∃ t, w = .bool t ∧ P (.bool (neg != t)) m3) noR)
    (hq : ∀ W3 m3 H3 t, Ext W2 H2 W3 H3 → HR X.K W3 m3 H3 → P (.bool t) m3 → Q (.bl t) H3) : rOeq X.K (cl k) (spG X.K cl (Kx.ps f).length (F f)) neg x y H2 Q := by
  obtain ⟨hk, T, bd, nf, nf2⟩ := G.st.eqs k f h2
  obtain ⟨kk, m4, m5, m6⟩ := G.fna f
  obtain ⟨⟨n, fs, us, rfl, hm⟩, ⟨hkd, hne⟩, q⟩ := h
  obtain ⟨kd, hkd⟩ := Option.isSome_iff_exists.mp hkd
  cases rv with
  | loc q0 =>
    obtain ⟨dx, xs, hh, _, hl, rr⟩ := inst_at hr2 q0 hm
    obtain ⟨ty, hok⟩ := tyx_of G.st.cf hr2 ru hkd hne
    refine ⟨_, dx, _, kd.val, rfl, hh, ty, ?_, W2, [.loc n, u], m2, _, noR, m6 _ _ _ _ q, .cons (.loc q0) (.cons ru .nil), hr2, q, ?_, fun _ _ _ _ _ _ _ _ _ _ _ _ z => z.elim⟩
    · cases hkk : kd.isOwn with
      | true =>
        cases kd <;> first | cases hkk | skip
        exact nf2 _ (hok _ rfl)
      | false =>
        have e : kd.val = .type kd.name := by cases kd <;> first | rfl | cases hkk
        rw [e]; exact nf kd hkk
    · intro W3 z y3 m3 H3 e3 rz hr3 hq'
      obtain ⟨t, rfl, hq'⟩ := hq'
      rw [rz.bool_inv]
      exact ⟨t, rfl, hq _ _ _ _ e3 hr3 hq'⟩
theorem s_oeq (G : Good F cl c X) {l r : Expr} {neg : Bool} {k f : Nat} {a b : E} {op : CmpOp} {p : Pos} (h1 : op = if neg then .NotEq else .Eq) (h2 : c.eqs.contains (k, f) = true) (hn : notSet r = true) (ha : PEs F cl X Wx l a) (hb : PEs F cl X Wx r b) :
    PEs F cl X Wx (.Compare l [op] [r] p) (.oeq neg k f a b) := by
  obtain ⟨hk, T, bd, nf, nf2⟩ := G.st.eqs k f h2
  obtain ⟨kk, m4, m5, m6⟩ := G.fna f
  subst h1
  refine pe_imp (pe_cmpR (op_oeq T m4 m5 G.guards bd neg) ha hb (mark_of hn)) ?_
  rintro σ H Q ⟨W, r', m, Qd, R, hs, hr, hw, hc, hx⟩
  refine TEof.bind hs hr hw hx ?_
  rintro W1 v x m1 H1 e1 rv hr1 hs1 hx1 hw1
  refine TEof.bind hs1 hr1 hw1 hx1 ?_
  rintro W2 u y m2 H2 e2 ru hr2 hs2 hx2 q
  exact oeq_in G h2 (rv.mono hr1 e2) ru hr2 q fun W3 m3 H3 t e3 hr3 q3 => hc _ _ _ _ _ ((e1.trans e2).trans e3) (.bool _) hr3 q3
theorem s_oeqT (G : Good F cl c X) {l r : Expr} {neg : Bool} {k f : Nat} {a b : E} {op : CmpOp} {p : Pos} (h1 : op = if neg then .NotEq else .Eq) (h2 : c.eqs.contains (k, f) = true) (hn : notSet r = true) (ha : PEs F cl X Wx l a) (hb : PEs F cl X Wx r b) :
    PTs' F cl X Wx (.Compare l [op] [r] p) (.oeq neg k f a b) := by
  obtain ⟨hk, T, bd, nf, nf2⟩ := G.st.eqs k f h2
  obtain ⟨kk, m4, m5, m6⟩ := G.fna f
  subst h1
  refine pt_imp (pt_cmpR (op_oeq T m4 m5 G.guards bd neg) ha hb (mark_of hn)) ?_
  rintro σ H Q ⟨W, r', m, Qd, R, hs, hr, hw, hc, hx⟩
  refine TEof.bind hs hr hw hx ?_
  rintro W1 v x m1 H1 e1 rv hr1 hs1 hx1 hw1
  refine TEof.bind hs1 hr1 hw1 hx1 ?_
  rintro W2 u y m2 H2 e2 ru hr2 hs2 hx2 q
  refine oeq_in (P := fun v m1 => ∃ t, tru m1 v = some t ∧ Qd t m1) G h2 (rv.mono hr1 e2) ru hr2 q fun W3 m3 H3 t e3 hr3 q3 => ?_
  obtain ⟨t', ht, q3⟩ := q3
  cases ht
  exact ⟨t, rfl, hc _ _ _ _ ((e1.trans e2).trans e3) hr3 q3⟩
theorem mks_of {mks : List MkI} {x : Str} {n : Nat} {ks : List (Option Str)} {k f : Nat} {pm : List (Nat ⊕ Val)} (h : mksHas mks x n ks k f pm = true) : ∃ i ∈ mks, i.x = x ∧ i.n = n ∧ i.ks.map some = ks ∧ i.c = k ∧ i.f = f ∧ i.pm = pm := by
  unfold mksHas at h
  rw [List.any_eq_true] at h
  obtain ⟨i, hi, h⟩ := h
  simp only [Bool.and_eq_true, beq_iff_eq, decide_eq_true_eq] at h
  obtain ⟨⟨⟨⟨⟨h1, h2⟩, h3⟩, h4⟩, h5⟩, h6⟩ := h
  exact ⟨i, hi, h1, h2, h3, h4, h5, pm_eq h6⟩
theorem s_mk (G : Good F cl c X) (tk : Takes X Wx) {x : Str} {es : List Expr} {kws : List Keyword} {k f : Nat} {pm : List (Nat ⊕ Val)} {args kargs : E} {p p' : Pos} (h1 : isGl c x = true) (h2 : mksHas c.mks x es.length (kws.map (·.arg)) k f pm = true) (h3 : chkL c es args = true)
    (ha : PAs F cl X Wx es args) (hk : PK X kws (TAof X.K cl Wx (wpA F kargs))) : PEs F cl X Wx (.Call (.Name x p) es kws p') (.mk k f es.length kws.length pm args kargs) := by
  obtain ⟨i, hi, rfl, hn, hks, rfl, rfl, rfl⟩ := mks_of h2
  obtain ⟨hok, hm, M, g, gV, kb, hfill⟩ := G.st.mks i hi
  obtain ⟨kk, m4, m5, m6⟩ := G.fna i.f
  obtain ⟨g1, g2⟩ := G.gl_of h1
  obtain ⟨a1, a2, a3⟩ := kw_names kws i.ks p' X.env hks
  have hlen : i.ks.length = kws.length := by have := congrArg List.length hks; simpa using this
  have fin : ∀ {t : TA}, (∀ σ H (Q : List V → Hp → Prop), TAof X.K cl Wx (wpA F args) σ H Q → t σ H Q) → PE X (.Call (.Name i.x p) es kws p') (tMkG (cl i.c) i.n i.ks.length (spG X.K cl (Kx.ps i.f).length (F i.f)) gV Wx t (TAof X.K cl Wx (wpA F kargs))) →
      PEs F cl X Wx (.Call (.Name i.x p) es kws p') (.mk i.c i.f es.length kws.length i.pm args kargs) := fun {t} ht hp => by
    refine pe_imp hp ?_
    rintro σ H Q ⟨W, r', m, Qd, R, hs, hr, hw, hc, hx⟩
    refine ht _ _ _ (TAof.bind (Qd := fun vs m1 => wpE F kargs r' m1 (fun w m2 => ∃ zs, w = .tup zs ∧ (vs.length = es.length ∧ zs.length = kws.length) ∧ ∃ ps, fillP i.pm (vs ++ zs) = some ps ∧
      F i.f (.loc m2.length :: ps) (m2 ++ [Ob.inst i.c [] []]) (fun u m3 => u = .non ∧ Qd (.loc m2.length) m3) R) R) hs hr hw hx ?_)
    rintro W1 vs xs m1 H1 e1 rvs hr1 hs1 hx1 hw1
    refine TAof.bind (Qd := fun zs m2 => (vs.length = es.length ∧ zs.length = kws.length) ∧ ∃ ps, fillP i.pm (vs ++ zs) = some ps ∧
      F i.f (.loc m2.length :: ps) (m2 ++ [Ob.inst i.c [] []]) (fun u m3 => u = .non ∧ Qd (.loc m2.length) m3) R) hs1 hr1 hw1 hx1 ?_
    rintro W2 zs ys m2 H2 e2 rzs hr2 hs2 hx2 ⟨⟨l1, l2⟩, ps, hf, q⟩
    have lx : xs.length = i.n := by rw [hn, ← l1]; exact rvs.length.symm
    have ly : ys.length = i.ks.length := by rw [hlen, ← l2]; exact rzs.length.symm
    refine ⟨lx, ly, fun a dx ha hd hne => ?_⟩
    obtain ⟨W3, e3, hr3, rl⟩ := new_inst hr2 ha hd hne hok
    have rall : RVs X.K W3 (upd (upd H2 dx (.own a)) a (.ins (cl i.c) dx [])) (vs ++ zs) (xs ++ ys) := (((rvs.mono hr1 e2).append rzs).mono hr2 e3)
    obtain ⟨qs, hg, rq⟩ := hfill W3 _ (.ref a) xs ys (vs ++ zs) ps rall lx ly hf
    rw [hg]
    have rv2 : RVs X.K W3 (upd (upd H2 dx (.own a)) a (.ins (cl i.c) dx [])) (.loc m2.length :: ps) (.ref a :: qs) := .cons rl rq
    refine ⟨W3, .loc m2.length :: ps, m2 ++ [Ob.inst i.c [] []], _, R, by rw [← rv2.length]; exact m6 _ _ _ _ q, rv2, hr3, q, ?_, fun W' k v x d m' H' e' rv hr' ho hd q => hx2 W' k v x d m' H' (e3.trans e') rv hr' ho hd q⟩
    intro W4 u z m4 H4 e4 ru hr4 hq
    obtain ⟨rfl, hq⟩ := hq
    exact ⟨ru.non_inv, hc W4 (.loc m2.length) (.ref a) m4 H4 (((e1.trans e2).trans e3).trans e4) (rl.mono hr3 e4) hr4 hq⟩
  cases es with
  | nil =>
    have hn0 : i.n = 0 := hn
    refine fin (t := tNil) ?_ ?_
    · rintro σ H Q ⟨W, r, m, Qd, R, hs, hr, hw, hc, hx⟩
      cases args <;> first | cases h3 | skip
      obtain ⟨vs, e, q⟩ := hw
      cases e
      exact hc W [] [] m H (.refl hr) .nil hr q
    · rw [hn0]
      rw [hn0] at kb
      exact pe_mkG0 M m4 m5 G.guards g1 hm kb tk hk a1 a2 g2 a3
  | cons z zs =>
    obtain ⟨n1, n2⟩ := chkL_head h3
    exact fin (fun _ _ _ h => h) (pe_mkG M m4 m5 G.guards g1 hm kb tk ha hk (star_of n1) (by rw [any_back]; exact n2 _) a1 a2 g2 a3)
/-! ### written dicts -/
def prsOf (F : Nat → FS) (K : Frag) (Wx : WX) : List Text → E → List (TE × TE)
  | t :: ts, .cons a b => (tC (.str (SX.S t)), TEof K cl Wx (wpE F a)) :: prsOf F K Wx ts b
  | _, _ => []
theorem pps_nilE {keys : List (Option Expr)} {ks : List Text} {pos : Pos} (h : keysAre keys ks = true) (hk : keys = []) : PPs X pos keys [] (prsOf F X.K Wx ks .nil) := by
  subst hk
  cases ks with
  | nil => exact pps_nil
  | cons t ts => simp [keysAre] at h
/-- the pairs, one after the other -/
theorem pairs_run (a : E) : ∀ (vs : List Expr) (ks : List Text), chkL c vs a = true → vs.length = ks.length → ∀ {σ : St} {H : Hp} {W : Wd} {r : Env} {m : Store} {Qd : List Val → Store → Prop} {R : Rq} {P : List (V × V) → Hp → Prop}, SR X.K W H r σ → HR X.K W m H → wpA F a r m Qd R → ContX X.K cl W H σ R Wx →
    (∀ W1 us xs m1 H1, Ext W H W1 H1 → RVs X.K W1 H1 us xs → HR X.K W1 m1 H1 → us.length = ks.length → Qd us m1 → P ((ks.map fun t => V.str (SX.S t)).zip xs) H1) → tPairs (prsOf F X.K Wx ks a) σ H P := by
  induction a with
  | nil =>
    intro vs ks h hl σ H W r m Qd R P hs hr hw hx k
    cases vs with
    | cons _ _ => simp [chkL] at h
    | nil =>
      cases ks with
      | cons _ _ => simp at hl
      | nil =>
        obtain ⟨us, e, q⟩ := hw
        cases e
        exact k W [] [] m H (.refl hr) .nil hr rfl q
  | cons a b _ ih =>
    intro vs ks h hl σ H W r m Qd R P hs hr hw hx k
    cases vs with
    | nil => simp [chkL] at h
    | cons x vs =>
      cases ks with
      | nil => simp at hl
      | cons t ks =>
        simp only [chkL, Bool.and_eq_true] at h
        show TEof X.K cl Wx (wpE F a) σ H fun y H2 => tPairs (prsOf F X.K Wx ks b) σ H2 fun ps H3 => P ((.str (SX.S t), y) :: ps) H3
        refine TEof.bind hs hr hw hx ?_
        rintro W1 v y m1 H1 e1 rv hr1 hs1 hx1 hw1
        refine ih vs ks h.2 (by simpa using hl) (Qd := fun us m2 => ∃ vs', Val.tup (v :: us) = .tup vs' ∧ Qd vs' m2) hs1 hr1 hw1 hx1 ?_
        rintro W2 us xs m2 H2 e2 rus hr2 hl2 ⟨vs', ev, q⟩
        cases ev
        exact k W2 (v :: us) (y :: xs) m2 H2 (e1.trans e2) (.cons (rv.mono hr1 e2) rus) hr2 (by simp [hl2]) q
  | _ =>
    intro vs ks h
    simp [chkL] at h
section
variable {K : Frag} {W : Wd} {H : Hp} {m : Store} {p : Addr} {u : HO} {kvs : List (Key × V)}
theorem ne_I (hi : ¬ W.I p) {a : Addr} (i : W.I a) : a ≠ p := fun z => hi (by rw [← z]; exact i)
mutual
theorem RV.swap (hp : H p = some (.dK kvs)) (hi : ¬ W.I p) : ∀ {v : Val} {x : V}, RV K W H v x → RV K (W.withI p) (upd H p u) v x
  | _, _, .non => .non
  | _, _, .bool b => .bool b
  | _, _, .int i => .int i
  | _, _, .str s => .str s
  | _, _, .tup s r => .tup (by
      rcases s with (s | ⟨o, s⟩) | s
      · exact .inl (.inl (by rw [upd_ne (fun z => by rw [z, hp] at s; cases s)]; exact s))
      · exact .inl (.inr ⟨o, by rw [upd_ne (fun z => by rw [z, hp] at s; cases s)]; exact s⟩)
      · exact .inr s) (RVs.swap hp hi r)
  | _, _, .il1 i q r => .il1 (.inl i) (by rw [upd_ne (ne_I hi i)]; exact q) (RVs.swap hp hi r)
  | _, _, .il0 i q r => .il0 (.inl i) (by
      rcases q with (q | ⟨o, q⟩) | q
      · exact .inl (.inl (by rw [upd_ne (ne_I hi i)]; exact q))
      · exact .inl (.inr ⟨o, by rw [upd_ne (ne_I hi i)]; exact q⟩)
      · exact .inr q) (RVs.swap hp hi r)
  | _, _, .ilk q r => .ilk q (RVs.swap hp hi r)
  | _, _, .loc q => .loc q
  | _, _, .err ok q1 q2 r => .err ok (by rw [upd_ne (fun z => by rw [z, hp] at q1; cases q1)]; exact q1) (by rw [upd_ne (fun z => by rw [z, hp] at q2; cases q2)]; exact q2) (RV.swap hp hi r)
  | _, _, .dic i n l q r => .dic (.inl i) n l (by rw [upd_ne (ne_I hi i)]; exact q) (RVs.swap hp hi r)
  | _, _, .fn => .fn
theorem RVs.swap (hp : H p = some (.dK kvs)) (hi : ¬ W.I p) : ∀ {vs : List Val} {xs : List V}, RVs K W H vs xs → RVs K (W.withI p) (upd H p u) vs xs
  | _, _, .nil => .nil
  | _, _, .cons r t => .cons (RV.swap hp hi r) (RVs.swap hp hi t)
end
theorem HR.swap (h : HR K W m H) (hp : H p = some (.dK kvs)) (hi : ¬ W.I p) : HR K (W.withI p) m (upd H p u) where
  len := h.len
  nd := h.nd
  dis := fun a ha z => z.elim (h.dis a ha) fun z => h.notin (z ▸ hp) rfl ha
  inh := fun a z => by
    by_cases e : a = p
    · subst e; rw [upd_same]; simp
    · rw [upd_ne e]
      exact h.inh a (z.resolve_right e)
  obj := fun n o q => by
    obtain ⟨a, e1, r⟩ := h.obj n o q
    have hne : a ≠ p := fun z => h.notin (z ▸ hp) rfl (List.mem_of_getElem? e1)
    refine ⟨a, e1, ?_⟩
    cases o with
    | list vs =>
      obtain ⟨xs, q1, r1⟩ := r
      exact ⟨xs, by rw [upd_ne hne]; exact q1, r1.swap hp hi⟩
    | inst c fs vs =>
      obtain ⟨dx, xs, q1, ho, hl, r1⟩ := r
      exact ⟨dx, xs, by rw [upd_ne hne]; exact q1, ho, hl, r1.swap hp hi⟩
end
theorem merge_nodup {ks : List Text} : ∀ {xs : List V} {acc : List (Key × V)}, (acc.map (·.1) ++ ks.map fun t => (Sum.inr (SX.S t) : Key)).Nodup → ks.length = xs.length → mergeK acc (dkv ks xs) = acc ++ dkv ks xs := by
  induction ks with
  | nil => intro xs acc _ _; simp [dkv, mergeK]
  | cons t ts ih =>
    intro xs acc hn hl
    cases xs with
    | nil => simp at hl
    | cons x xs =>
      have e : dkv (t :: ts) (x :: xs) = (Sum.inr (SX.S t), x) :: dkv ts xs := rfl
      rw [e]
      show mergeK (putK acc (Sum.inr (SX.S t)) x) (dkv ts xs) = _
      have hp : putK acc (Sum.inr (SX.S t) : Key) x = acc ++ [(Sum.inr (SX.S t), x)] := by
        unfold putK
        rw [if_neg]
        intro z
        rw [List.any_eq_true] at z
        obtain ⟨kv, h1, h2⟩ := z
        have h3 : kv.1 = Sum.inr (SX.S t) := by simpa using h2
        have h4 := (List.nodup_append.mp hn).2.2 kv.1 (List.mem_map_of_mem h1) (Sum.inr (SX.S t)) (by simp)
        exact h4 h3
      rw [hp, ih (by simpa using hn) (by simpa using hl)]
      simp
theorem SX_inj {a b : Text} (h : SX.S a = SX.S b) : a = b := by
  have := congrArg (fun s => s.cps.toList) h
  simpa using this
theorem keys_nodup {ks : List Text} (h : ks.Nodup) : (ks.map fun t => (Sum.inr (SX.S t) : Key)).Nodup := by
  refine List.Pairwise.map _ (fun a b hab z => hab ?_) h
  exact SX_inj (Sum.inr.inj z)
theorem keys_facts : ∀ {keys : List (Option Expr)} {ks : List Text}, keysAre keys ks = true → keys.all (·.isSome) = true ∧ keys.length = ks.length
  | [], [], _ => ⟨rfl, rfl⟩
  | [], _ :: _, h => by simp [keysAre] at h
  | some e :: r, [], h => by cases e <;> simp [keysAre] at h
  | none :: r, _, h => by simp [keysAre] at h
  | some e :: r, t :: ts, h => by
    cases e <;> first | (simp [keysAre] at h; done) | skip
    rename_i v _ _
    cases v <;> first | (simp [keysAre] at h; done) | skip
    simp only [keysAre, Bool.and_eq_true] at h
    obtain ⟨a, b⟩ := keys_facts h.2
    exact ⟨by simpa using a, by simp [b]⟩
theorem chkL_len {a : E} : ∀ {vs : List Expr}, chkL c vs a = true → vs = [] ∨ ∃ x r, vs = x :: r := fun {vs} _ => by
  cases vs with
  | nil => exact .inl rfl
  | cons x r => exact .inr ⟨x, r, rfl⟩
theorem dkv_map : ∀ (ks : List Text) (xs : List V), ((ks.map fun t => V.str (SX.S t)).zip xs) = (dkv ks xs).map (fun kv => (kV kv.1, kv.2))
  | [], _ => rfl
  | _ :: _, [] => rfl
  | t :: ts, x :: xs => by
    show (V.str (SX.S t), x) :: _ = (V.str (SX.S t), x) :: _
    exact congrArg _ (dkv_map ts xs)
theorem s_dsp (G : Good F cl c X) {keys : List (Option Expr)} {vs : List Expr} {ks : List Text} {es : E} {p : Pos} (h1 : keysAre keys ks = true) (h2 : chkL c vs es = true) (hl : keys.length = vs.length) (h15 : keys.length ≤ 15) (hp : PPs X p keys vs (prsOf F X.K Wx ks es)) :
    PEs F cl X Wx (.Dict keys vs p) (.dsp ks es) := by
  obtain ⟨k1, k2⟩ := keys_facts h1
  cases hk : keys with
  | nil =>
    subst hk
    have hv : vs = [] := by cases vs with | nil => rfl | cons _ _ => simp at hl
    have hks : ks = [] := by cases ks with | nil => rfl | cons _ _ => simp at k2
    subst hv hks
    refine pe_imp pe_dnewK ?_
    rintro σ H Q ⟨W, r', m, Qd, R, hs, hr, hw, hc, hx⟩ q hq
    have hes : es = .nil := by cases es <;> first | rfl | (simp [chkL] at h2; done)
    subst hes
    obtain ⟨us, e, ⟨n1, n2, _⟩, qd⟩ := hw
    cases e
    obtain ⟨e1, hr1⟩ := new_other hr hq (.dK [])
    have hi : ¬ W.I q := fun z => hr.inh q z hq
    have e2 := hr1.swap (u := .dK []) (p := q) (kvs := []) upd_same hi
    have hu : upd (upd H q (.dK [])) q (.dK []) = upd H q (.dK []) := upd_upd
    rw [hu] at e2
    refine hc (W.withI q) (.dic [] []) (.ref q) m _ ?_ (.dic (xs := []) (.inr rfl) List.nodup_nil rfl upd_same .nil) e2 qd
    exact ⟨⟨[], by simp [Wd.withI], fun a z => by cases z⟩, fun _ z => .inl z, fun a z => z.elim .inl fun z => .inr (z ▸ hq), e1.fr, e1.al⟩
  | cons k0 kr =>
    have h0 : keys ≠ [] := by rw [hk]; simp
    rw [← hk]
    refine pe_imp (pe_disp hp k1 hl h0 h15) ?_
    rintro σ H Q ⟨W, r', m, Qd, R, hs, hr, hw, hc, hx⟩ q hq
    obtain ⟨e1, hr1⟩ := new_other hr hq (.dK [])
    have hi : ¬ W.I q := fun z => hr.inh q z hq
    refine pairs_run es vs ks h2 (by omega) (Qd := fun us m1 => (ks.Nodup ∧ ks.length = us.length ∧ ks.length ≤ 15) ∧ Qd (.dic ks us) m1) (hs.mono hr e1) hr1 hw (hx.mono e1) ?_
    rintro W1 us xs m1 H1 e2 rus hr2 hlen ⟨⟨n1, n2, n3⟩, qd⟩
    have hq1 : H1 q = some (.dK []) := e2.fr q _ upd_same (hr1.notin upd_same rfl)
    have hi1 : ¬ W1.I q := fun z => by
      rcases e2.new q z with z | z
      · exact hi z
      · rw [upd_same] at z; cases z
    have hlx : ks.length = xs.length := by rw [n2]; exact rus.length
    refine ⟨hq1, dkv ks xs, ?_, by unfold dkv; simp; omega, ?_⟩
    · exact dkv_map ks xs
    · have hmerge : mergeK [] (dkv ks xs) = dkv ks xs := by
        have := merge_nodup (ks := ks) (xs := xs) (acc := []) (by simpa using keys_nodup n1) hlx
        simpa using this
      rw [hmerge]
      have r3 := rus.swap (u := .dK (dkv ks xs)) hq1 hi1
      have hr3 := hr2.swap (u := .dK (dkv ks xs)) hq1 hi1
      have e13 := e1.trans e2
      refine hc (W1.withI q) (.dic ks us) (.ref q) m1 _ ?_ (.dic (.inr rfl) n1 hlx upd_same r3) hr3 qd
      refine ⟨e13.pre, fun a z => .inl (e13.inc a z), fun a z => z.elim (e13.new a) fun z => .inr (z ▸ hq), fun b o hb hn => ?_, fun a ha => ?_⟩
      · rw [upd_ne (ne_of_none hb hq)]; exact e13.fr b o hb hn
      · by_cases z : a = q
        · subst z; rw [upd_same]; simp
        · rw [upd_ne z]; exact e13.al a ha
end
end Dy

/-! Dp, part H: targets, list comprehensions, all expressions at once. -/
namespace Dy
open PySem PySem.Spec L2
variable [Kx]
section
variable {K : Frag} {W W1 : Wd} {H H1 : Hp} {m : Store}
/-- a list that is tracked beside the store -/
structure Side (W : Wd) (H : Hp) (D : Addr) (xs : List V) : Prop where
  at_ : H D = some (.lst xs)
  np : D ∉ W.phi
  ni : ¬ W.I D
theorem Side.mono {D : Addr} {xs : List V} (s : Side W H D xs) (e : Ext W H W1 H1) : Side W1 H1 D xs where
  at_ := e.fr _ _ s.at_ s.np
  np := e.stays s.at_ s.np
  ni := fun z => by
    rcases e.new _ z with z | z
    · exact s.ni z
    · rw [s.at_] at z; cases z
theorem sqT_upd {D : Addr} {xs ys : List V} {o : HO} {a : Addr} (h : H D = some (.lst xs)) (s : SqT K H a ys) : SqT K (upd H D o) a ys := by
  have ne : ∀ z, H a = some z → (∀ l, z ≠ .lst l) → a ≠ D := fun z e n q => by subst q; rw [h] at e; cases e; exact n _ rfl
  rcases s with (s | ⟨b, s⟩) | s
  · exact .inl (.inl (by rw [upd_ne (ne _ s fun _ z => by cases z)]; exact s))
  · exact .inl (.inr ⟨b, by rw [upd_ne (ne _ s fun _ z => by cases z)]; exact s⟩)
  · exact .inr s
theorem sqL_upd {D : Addr} {ys : List V} {o : HO} {a : Addr} (ne : a ≠ D) (s : SqL K H a ys) : SqL K (upd H D o) a ys := by
  rcases s with (s | ⟨b, s⟩) | s
  · exact .inl (.inl (by rw [upd_ne ne]; exact s))
  · exact .inl (.inr ⟨b, by rw [upd_ne ne]; exact s⟩)
  · exact .inr s
mutual
theorem RV.side {D : Addr} {xs : List V} {o : HO} (s : Side W H D xs) : ∀ {v : Val} {x : V}, RV K W H v x → RV K W (upd H D o) v x
  | _, _, .non => .non
  | _, _, .bool b => .bool b
  | _, _, .int i => .int i
  | _, _, .str t => .str t
  | _, _, .tup q r => .tup (sqT_upd s.at_ q) (RVs.side s r)
  | _, _, .il1 (a := a) i q r => .il1 i (by rw [upd_ne (show a ≠ D from fun z => s.ni (z ▸ i))]; exact q) (RVs.side s r)
  | _, _, .il0 (a := a) i q r => .il0 i (sqL_upd (fun z => s.ni (z ▸ i)) q) (RVs.side s r)
  | _, _, .ilk q r => .ilk q (RVs.side s r)
  | _, _, .loc q => .loc q
  | _, _, .err ok q1 q2 r => .err ok (by rw [upd_ne (fun z => by rw [z, s.at_] at q1; cases q1)]; exact q1) (by rw [upd_ne (fun z => by rw [z, s.at_] at q2; cases q2)]; exact q2) (RV.side s r)
  | _, _, .dic (a := a) i n l q r => .dic i n l (by rw [upd_ne (show a ≠ D from fun z => s.ni (z ▸ i))]; exact q) (RVs.side s r)
  | _, _, .fn => .fn
theorem RVs.side {D : Addr} {xs : List V} {o : HO} (s : Side W H D xs) : ∀ {vs : List Val} {ys : List V}, RVs K W H vs ys → RVs K W (upd H D o) vs ys
  | _, _, .nil => .nil
  | _, _, .cons r t => .cons (RV.side s r) (RVs.side s t)
end
theorem HR.side {D : Addr} {xs ys : List V} (h : HR K W m H) (s : Side W H D xs) : HR K W m (upd H D (.lst ys)) where
  len := h.len
  nd := h.nd
  dis := h.dis
  inh := fun a ha => by rw [upd_ne (show a ≠ D from fun z => s.ni (z ▸ ha))]; exact h.inh a ha
  obj := fun n o q => by
    obtain ⟨a, e1, r⟩ := h.obj n o q
    have ne : a ≠ D := fun z => s.np (z ▸ List.mem_of_getElem? e1)
    refine ⟨a, e1, ?_⟩
    cases o with
    | list us =>
      obtain ⟨zs, q1, r1⟩ := r
      exact ⟨zs, by rw [upd_ne ne]; exact q1, r1.side s⟩
    | inst c fs us =>
      obtain ⟨dx, zs, q1, ho, hl, r1⟩ := r
      exact ⟨dx, zs, by rw [upd_ne ne]; exact q1, ho, hl, r1.side s⟩
theorem Ext.side {D : Addr} {ys : List V} (e : Ext W H W1 H1) (hD : H D = none) : Ext W H W1 (upd H1 D (.lst ys)) where
  pre := e.pre
  inc := e.inc
  new := e.new
  fr := fun b o q hb => by rw [upd_ne (ne_of_none q hD)]; exact e.fr b o q hb
  al := fun a ha => by
    by_cases z : a = D
    · subst z; rw [upd_same]; simp
    · rw [upd_ne z]; exact e.al a ha
mutual
theorem RV.addI {D : Addr} : ∀ {v : Val} {x : V}, RV K W H v x → RV K (W.withI D) H v x
  | _, _, .non => .non
  | _, _, .bool b => .bool b
  | _, _, .int i => .int i
  | _, _, .str t => .str t
  | _, _, .tup q r => .tup q (RVs.addI r)
  | _, _, .il1 i q r => .il1 (.inl i) q (RVs.addI r)
  | _, _, .il0 i q r => .il0 (.inl i) q (RVs.addI r)
  | _, _, .ilk q r => .ilk q (RVs.addI r)
  | _, _, .loc q => .loc q
  | _, _, .err ok q1 q2 r => .err ok q1 q2 (RV.addI r)
  | _, _, .dic i n l q r => .dic (.inl i) n l q (RVs.addI r)
  | _, _, .fn => .fn
theorem RVs.addI {D : Addr} : ∀ {vs : List Val} {ys : List V}, RVs K W H vs ys → RVs K (W.withI D) H vs ys
  | _, _, .nil => .nil
  | _, _, .cons r t => .cons (RV.addI r) (RVs.addI t)
end
mutual
theorem RV.addL {D : Addr} : ∀ {v : Val} {x : V}, RV K W H v x → RV K (W.withL D) H v x
  | _, _, .non => .non
  | _, _, .bool b => .bool b
  | _, _, .int i => .int i
  | _, _, .str t => .str t
  | _, _, .tup q r => .tup q (RVs.addL r)
  | _, _, .il1 i q r => .il1 i q (RVs.addL r)
  | _, _, .il0 i q r => .il0 i q (RVs.addL r)
  | _, _, .ilk q r => .ilk q (RVs.addL r)
  | _, _, .loc (n := n) q => .loc (by show (W.phi ++ [D])[n]? = _; rw [List.getElem?_append_left (List.getElem?_eq_some_iff.mp q).1]; exact q)
  | _, _, .err ok q1 q2 r => .err ok q1 q2 (RV.addL r)
  | _, _, .dic i n l q r => .dic i n l q (RVs.addL r)
  | _, _, .fn => .fn
theorem RVs.addL {D : Addr} : ∀ {vs : List Val} {ys : List V}, RVs K W H vs ys → RVs K (W.withL D) H vs ys
  | _, _, .nil => .nil
  | _, _, .cons r t => .cons (RV.addL r) (RVs.addL t)
end
/-- the list at D goes into the world -/
theorem side_end {W0 : Wd} {H0 : Hp} {D : Addr} {xs : List V} {acc : List Val} {mu : Bool} {Qd : Val → Store → Prop} {Q : VK} (h : HR K W m H) (s : Side W H D xs) (r : RVs K W H acc xs) (e : Ext W0 H0 W H) (hD : H0 D = none) (q : newL mu acc m Qd) (hc : Cont K W0 H0 Qd Q) : Q (.ref D) H := by
  unfold newL at q
  split at q
  · have el : (W.withL D).phi[m.length]? = some D := by show (W.phi ++ [D])[m.length]? = some D; rw [← h.len]; simp
    refine hc (W.withL D) _ _ _ H ⟨?_, e.inc, e.new, e.fr, e.al⟩ (.loc el) ⟨?_, ?_, ?_, h.inh, ?_⟩ q
    · obtain ⟨more, e1, e2⟩ := e.pre
      refine ⟨more ++ [D], by show W.phi ++ [D] = _; rw [e1, List.append_assoc], fun a ha => ?_⟩
      rcases List.mem_append.mp ha with z | z
      · exact e2 a z
      · simp at z; subst z; exact hD
    · show (W.phi ++ [D]).length = (m ++ [Ob.list acc]).length
      simp [h.len]
    · show (W.phi ++ [D]).Nodup
      refine List.nodup_append.mpr ⟨h.nd, by simp, fun a ha b hb => ?_⟩
      simp at hb; subst hb
      exact fun z => s.np (z ▸ ha)
    · intro a ha
      rcases List.mem_append.mp (show a ∈ W.phi ++ [D] from ha) with z | z
      · exact h.dis a z
      · simp at z; subst z; exact s.ni
    · intro n o q
      by_cases hn : n < m.length
      · rw [List.getElem?_append_left hn] at q
        obtain ⟨a, e1, r1⟩ := h.obj n o q
        refine ⟨a, by show (W.phi ++ [D])[n]? = _; rw [List.getElem?_append_left (by rw [h.len]; exact hn)]; exact e1, ?_⟩
        cases o with
        | list us =>
          obtain ⟨zs, q1, r2⟩ := r1
          exact ⟨zs, q1, r2.addL⟩
        | inst c fs us =>
          obtain ⟨dx, zs, q1, ho, hl, r2⟩ := r1
          exact ⟨dx, zs, q1, ho, hl, r2.addL⟩
      · rw [List.getElem?_append_right (by omega)] at q
        have hz : n = m.length := by
          cases hh : n - m.length with
          | zero => omega
          | succ k => rw [hh] at q; simp at q
        subst hz
        simp at q; subst q
        exact ⟨D, el, xs, s.at_, r.addL⟩
  · refine hc (W.withI D) _ _ _ H ⟨e.pre, fun a z => .inl (e.inc a z), fun a z => z.elim (e.new a) fun z => .inr (z ▸ hD), e.fr, e.al⟩ (.il1 (.inr rfl) s.at_ r.addI) ⟨h.len, h.nd, fun a ha z => z.elim (h.dis a ha) fun z => s.np (z ▸ ha), ?_, ?_⟩ q
    · intro a z
      rcases z with z | z
      · exact h.inh a z
      · subst z; rw [s.at_]; simp
    · intro n o q
      obtain ⟨a, e1, r1⟩ := h.obj n o q
      refine ⟨a, e1, ?_⟩
      cases o with
      | list us =>
        obtain ⟨zs, q1, r2⟩ := r1
        exact ⟨zs, q1, r2.addI⟩
      | inst c fs us =>
        obtain ⟨dx, zs, q1, ho, hl, r2⟩ := r1
        exact ⟨dx, zs, q1, ho, hl, r2.addI⟩
end
/-! ### targets -/
theorem wipe_set (σ : St) (i : Nat) (y : Option V) : ∀ vs : List Nat, L2.wipe (σ.set i y) vs = if i ∈ vs then L2.wipe σ vs else (L2.wipe σ vs).set i y
  | [] => rfl
  | v :: vs => by
    simp only [L2.wipe, wipe_set σ i y vs]
    by_cases h : i ∈ vs
    · rw [if_pos h, if_pos (List.mem_cons_of_mem _ h)]
    · rw [if_neg h]
      by_cases hv : i = v
      · subst hv
        rw [if_pos List.mem_cons_self, List.set_set]
      · rw [if_neg (by simp [h, hv]), List.set_comm _ _ hv]
theorem wipe_in {σ : St} {i : Nat} {y : Option V} {vs : List Nat} (h : i ∈ vs) : L2.wipe (σ.set i y) vs = L2.wipe σ vs := by rw [wipe_set, if_pos h]
theorem wipe_wipe (σ : St) : ∀ vs ws : List Nat, (∀ v ∈ vs, v ∈ ws) → L2.wipe (L2.wipe σ vs) ws = L2.wipe σ ws
  | [], _, _ => rfl
  | v :: vs, ws, h => by
    simp only [L2.wipe]
    rw [wipe_in (h v List.mem_cons_self)]
    exact wipe_wipe σ vs ws fun z hz => h z (List.mem_cons_of_mem _ hz)
section
variable {F : Nat → FS} {c : Cc} {X : Cx} {Wx : WX}
def TGof (K : Frag) (tg : Tg) : TG := fun x σ H Q => ∃ (W : Wd) (r : Env) (m : Store) (v : Val) (r' : Env), SR K W H r σ ∧ HR K W m H ∧ RV K W H v x ∧ tgF tg v r = some r' ∧
  ∀ σ', SR K W H r' σ' → (∀ own : List Nat, tgIn own tg = true → L2.wipe σ' own = L2.wipe σ own) → Q σ' H
theorem Good.set (G : Good F cl c X) {i : Nat} {x : Str} (h : canSet c i x = true) : X.N[i]? = some x ∧ L2.Loc X.env.scope x ∧ (X.fn x = true ∨ X.env.scope.names.lookup x = some .local) := by
  unfold canSet at h
  simp only [Bool.and_eq_true, Bool.or_eq_true, decide_eq_true_eq] at h
  refine ⟨by rw [G.hN]; exact h.1, ?_, ?_⟩
  · unfold L2.Loc
    rw [G.names]
    exact h.2.imp (fun z => z) fun z => z.2
  · rw [G.names]
    rcases h.2 with z | z
    · exact .inr z
    · exact .inl (G.top z.1 x)
theorem Good.pg (G : Good F cl c X) {i : Nat} {x : Str} {p : Pos} (h : canSet c i x = true) : PG X (.Name x p) (gName i) := by
  obtain ⟨h1, h2, h3⟩ := G.set h
  exact pg_name (by rw [G.hN]; exact G.nd) h1 h2 h3
def gsOf : List Nat → TGs
  | [] => gNil
  | i :: is => gCons (gName i) (gsOf is)
theorem pgs_of (G : Good F cl c X) : ∀ {es : List Expr} {is : List Nat}, chkNames c es is = true → PGs X es (gsOf is) ∧ (assignEach es X.env).length = is.length ∧ (assignEach es X.env).findIdx? (·.1) = none
  | [], [], _ => ⟨pgs_nil, rfl, rfl⟩
  | .Name x p :: r, i :: is, h => by
    simp only [chkNames, Bool.and_eq_true] at h
    obtain ⟨h1, h2, h3⟩ := pgs_of G h.2
    refine ⟨pgs_cons (G.pg h.1) h1 rfl, ?_, ?_⟩
    · show (assignEach r X.env).length + 1 = is.length + 1
      rw [h2]
    · show ((false, assign (.Name x p) X.env) :: assignEach r X.env).findIdx? (·.1) = none
      rw [List.findIdx?_cons]
      simp [h3]
  | [], _ :: _, h => by simp [chkNames] at h
  | e :: r, [], h => by cases e <;> simp [chkNames] at h
  | e :: r, i :: is, h => by
    cases e with
    | Name x p =>
      simp only [chkNames, Bool.and_eq_true] at h
      obtain ⟨h1, h2, h3⟩ := pgs_of G h.2
      refine ⟨pgs_cons (G.pg h.1) h1 rfl, ?_, ?_⟩
      · show (assignEach r X.env).length + 1 = is.length + 1
        rw [h2]
      · show ((false, assign (.Name x p) X.env) :: assignEach r X.env).findIdx? (·.1) = none
        rw [List.findIdx?_cons]
        simp [h3]
    | _ => simp [chkNames] at h
theorem setAll_ok {K : Frag} {W : Wd} {H : Hp} : ∀ {is : List Nat} {vs : List Val} {xs : List V} {r r' : Env} {σ : St} {Q : St → Hp → Prop}, SR K W H r σ → RVs K W H vs xs → setAll is vs r = some r' →
    (∀ σ', SR K W H r' σ' → (∀ own : List Nat, (is.all own.contains) = true → L2.wipe σ' own = L2.wipe σ own) → Q σ' H) → gsOf is xs σ H Q
  | [], [], _, r, r', σ, Q, hs, .nil, e, k => by
    cases e
    exact ⟨rfl, k σ hs fun _ _ => rfl⟩
  | i :: is, v :: vs, _, r, r', σ, Q, hs, .cons a b, e, k => by
    refine ⟨_, _, rfl, ?_⟩
    refine setAll_ok (hs.set a i) b e fun σ' h' hw => k σ' h' fun own ho => ?_
    simp only [List.all_cons, Bool.and_eq_true] at ho
    rw [hw own ho.2, wipe_in (by simpa using ho.1)]
  | [], _ :: _, _, _, _, _, _, _, _, e, _ => by simp [setAll] at e
  | _ :: _, [], _, _, _, _, _, _, _, e, _ => by simp [setAll] at e
theorem g_of (G : Good F cl c X) {t : Expr} {tg : Tg} (h : chkTg c t tg = true) : PG X t (TGof X.K tg) := by
  cases tg with
  | name i =>
    simp only [chkTg] at h
    split at h
    · refine ⟨fun pins s σ H v u Q I rv q => (G.pg h).run pins s σ H v u Q I rv ?_⟩
      obtain ⟨W, r, m, w', r', hs, hr, rv', e, k⟩ := q
      cases e
      exact k _ (hs.set rv' i) fun own ho => wipe_in (by simpa [tgIn] using ho)
    · cases h
  | tup is =>
    simp only [chkTg] at h
    split at h
    · obtain ⟨h1, h2, h3⟩ := pgs_of G h
      refine ⟨fun pins s σ H v u Q I rv q => (pg_tup G.calm h1 h2 h3).run pins s σ H v u Q I rv ?_⟩
      obtain ⟨W, r, m, w', r', hs, hr, rv', e, k⟩ := q
      cases w' with
      | tup vs =>
        obtain ⟨a, xs, rfl, sl, r1⟩ := rv'.tup_inv
        refine ⟨a, xs, rfl, sl, ?_, setAll_ok hs r1 e k⟩
        have hl : ∀ {is : List Nat} {vs : List Val} {r r' : Env}, setAll is vs r = some r' → is.length = vs.length := by
          intro is
          induction is with
          | nil => intro vs r r' e; cases vs <;> simp [setAll] at e; rfl
          | cons i is ih => intro vs r r' e; cases vs with
            | nil => simp [setAll] at e
            | cons v vs => simp only [setAll] at e; simp [ih e]
        rw [← r1.length, hl e]
      | _ => cases e
    · cases h
/-! ### list comprehensions -/
theorem ownOf_map (c : Cc) : ∀ is : List Nat, (ownOf c is).map (·.2) = is
  | [] => rfl
  | i :: is => by simp [ownOf, ownOf_map c is]
theorem blk_of (G : Good F cl c X) {scope : Scope} {own : List (Str × Nat)} (h : blkC c.N { kind := .function, names := c.names, isGenerator := false, isCoroutine := false } scope own = true) : BlkOk X.N X.env.scope scope own := by
  have k := blkOk_by h
  refine ⟨k.kind, k.uniq, fun p hp => by rw [G.hN]; exact k.ix p hp, fun y hy hf => by rw [G.names]; exact k.free y hy hf, fun y hy ho => by rw [G.hN]; exact k.own y hy ho⟩
theorem noR_contX {K : Frag} {W : Wd} {H : Hp} {σ : St} {Wx : WX} : ContX K cl W H σ noR Wx := fun _ _ _ _ _ _ _ _ _ _ _ _ z => z.elim
theorem pts_imp {X : Cx} {ifs : List Expr} {t t' : TT} (h : PTs X ifs t) (i : ∀ σ H Q, t' σ H Q → t σ H Q) : PTs X ifs t' := ⟨fun pins s σ H Q I q => h.run pins s σ H Q I (i σ H Q q)⟩
theorem fold_of {it : Expr} (h : notSet it = true) (env : PySem.Env) (x : Value) : foldedSetIterable it env x = pure x := by
  cases it <;> first | rfl | cases h
theorem lc_imp {mu : Bool} {own : List Nat} {tg : Tg} {ik : IK} {e1 e2 cond elt : E} (ht : tgIn own tg = true) : ∀ (σ : St) (H : Hp) (Q : VK), TEof X.K cl Wx (wpE F (.lc mu own tg ik e1 e2 cond elt)) σ H Q →
    tLc (TIof X.K cl Wx (wpI F ik e1 e2)) (TGof X.K tg) (TTof X.K cl (fun _ _ _ _ => False) (wpT F cond)) (TEof X.K cl (fun _ _ _ _ => False) (wpE F elt)) own σ H Q := by
  rintro σ H Q ⟨W, r, m, Qd, R, hs, hr, hw, hc, hx⟩
  let body : Val → Store → (Option Val → Store → Prop) → Prop := fun x m P => ∃ r2, tgF tg x (wipeE r own) = some r2 ∧ (wpB F cond).2 r2 m (fun t m1 => if t = true then (wpB F elt).1 r2 m1 (fun y m2 => P (some y) m2) noR else P none m1) noR
  let fin : List Val → Store → Prop := fun acc m3 => newL mu acc m3 Qd
  refine ⟨W, r, m, fun items live m2 => lcW live body items [] m2 fin, R, hs, hr, hw, ?_, hx⟩
  intro W1 items live m1 H1 J x1 hr1 hs1 hx1 wk hl D hD
  -- between two turns
  let Nv : Nat → Hp → Prop := fun i H' => i ≤ items.length ∧ ∃ (W' : Wd) (m' : Store) (acc : List Val) (xs : List V), Ext W1 H1 W' H' ∧ HR X.K W' m' H' ∧ Side W' H' D xs ∧ RVs X.K W' H' acc xs ∧ lcW live body (items.drop i) acc m' fin
  have np1 : D ∉ W1.phi := hr1.nophi hD
  have ni1 : ¬ W1.I D := fun z => hr1.inh D z hD
  refine ⟨fun i n H' => n = items.length - i ∧ Nv i H', ⟨items.length, rfl, Nat.zero_le _, ?_⟩, ?_⟩
  · obtain ⟨a, b, c'⟩ := new_il hr1 hD (vs := []) (xs := []) .nil
    refine ⟨W1, m1, [], [], (Ext.refl hr1).side hD, ?_, ⟨upd_same, np1, ni1⟩, .nil, hl⟩
    have hk : ∀ a, a ∈ W1.phi → upd H1 D (.lst []) a = H1 a := fun a ha => upd_ne fun z => np1 (z ▸ ha)
    exact hr1.grow ((Ext.refl hr1).side hD) rfl hr1.dis (fun _ z => .inl z) hk
  · rintro i n H' ⟨rfl, hi, W', m', acc, xs, x2, hr2, sd, ra, hl2⟩
    by_cases hil : i < items.length
    · refine .inr ?_
      have ed : items.drop i = items[i] :: items.drop (i + 1) := List.drop_eq_getElem_cons hil
      rw [ed] at hl2
      obtain ⟨lv, r2, et, hw2⟩ := hl2
      obtain ⟨_, wg⟩ := wk W' m' H' x2 hr2 lv
      obtain ⟨go, yl⟩ := wg i items[i] (List.getElem?_eq_getElem hil)
      refine ⟨go, Nv (i + 1), fun H'' q => ⟨_, by omega, rfl, q⟩, ?_⟩
      intro x H3 hy
      obtain ⟨W3, x3, hr3, rv3⟩ := yl x H3 hy
      have hs3 : SR X.K W3 H3 (wipeE r own) (L2.wipe σ own) := ((hs1.mono hr1 x2).mono hr2 x3).wipe own
      have sd3 := sd.mono x3
      refine ⟨W3, wipeE r own, m', items[i], r2, hs3, hr3, rv3, et, fun σ2 hs4 hw4 => ⟨?_, ?_⟩⟩
      · rw [hw4 own ht]
        exact wipe_wipe σ own own fun _ z => z
      · refine TTof.bind (wp := wpT F cond) hs4 hr3 hw2 noR_contX ?_
        rintro W5 b m5 H5 x5 hr5 hs5 hx5 q
        cases b with
        | false =>
          rw [if_neg Bool.false_ne_true] at q ⊢
          exact ⟨hil, W5, m5, acc, xs, (x2.trans x3).trans x5, hr5, sd3.mono x5, (ra.mono hr2 x3).mono hr3 x5, q⟩
        | true =>
          rw [if_pos rfl] at q ⊢
          refine TEof.bind (wp := wpE F elt) hs5 hr5 q noR_contX ?_
          rintro W6 v6 y6 m6 H6 x6 rv6 hr6 hs6 hx6 ⟨hl6, q⟩
          have sd6 := (sd3.mono x5).mono x6
          have ra6 := ((ra.mono hr2 x3).mono hr3 x5).mono hr5 x6
          refine ⟨xs, sd6.at_, by rw [← ra.length]; exact hl6, hil, W6, m6, acc ++ [v6], xs ++ [y6], (((x2.trans x3).trans x5).trans x6).side hD, hr6.side sd6, ⟨upd_same, sd6.np, sd6.ni⟩, (ra6.side sd6).append (.cons (rv6.side sd6) .nil), q⟩
    · refine .inl ?_
      have ed : items.drop i = [] := List.drop_eq_nil_of_le (by omega)
      rw [ed] at hl2
      obtain ⟨lv, q⟩ := hl2
      obtain ⟨ws, _⟩ := wk W' m' H' x2 hr2 lv
      exact ⟨ws i (by omega), side_end hr2 sd ra (x1.trans x2) (x1.back hD) q hc⟩
theorem s_lc (G : Good F cl c X) {y t it : Expr} {ifs : List Expr} {scope : Scope} {p : Pos} {mu : Bool} {own : List Nat} {tg : Tg} {ik : IK} {e1 e2 cond elt : E}
    (hb : blkC c.N { kind := .function, names := c.names, isGenerator := false, isCoroutine := false } scope (ownOf c own) = true) (ht : tgIn own tg = true) (htg : chkTg (c.blk scope) t tg = true) (hn : notSet it = true)
    (hi : PI X t it (TIof X.K cl Wx (wpI F ik e1 e2)))
    (hcond : ∀ (X' : Cx), X'.K = X.K → Good F cl (c.blk scope) X' → Takes X' (fun _ _ _ _ => False) → PTs X' ifs (TTof X'.K cl (fun _ _ _ _ => False) (wpT F cond)))
    (helt : ∀ (X' : Cx), X'.K = X.K → Good F cl (c.blk scope) X' → Takes X' (fun _ _ _ _ => False) → PEs F cl X' (fun _ _ _ _ => False) y elt) :
    PEs F cl X Wx (.ListComp y [⟨t, it, ifs, 0⟩] scope p) (.lc mu own tg ik e1 e2 cond elt) := by
  have ok := blk_of G hb
  have Gb : ∀ (s : Shared) (H : Hp) (C : Addr) (cls : List (Str × Addr)) (fp : List Addr), Good F cl (c.blk scope) (X.blk s H scope (compEnvC scope cls C X.env) fp) := fun s H C cls fp => G.blk scope ok.kind s H C cls fp
  refine pe_imp (pe_lc (g := TGof X.K tg) (tt := TTof X.K cl (fun _ _ _ _ => False) (wpT F cond)) (te := TEof X.K cl (fun _ _ _ _ => False) (wpE F elt)) G.calm (by rw [G.hN]; exact G.nd) hi ok (fun s H C cls fp => g_of (Gb s H C cls fp) htg) (fun s H C cls fp => hcond (X.blk s H scope (compEnvC scope cls C X.env) fp) rfl (Gb s H C cls fp) takes_blk) (fun s H C cls fp => helt (X.blk s H scope (compEnvC scope cls C X.env) fp) rfl (Gb s H C cls fp) takes_blk) (fold_of hn X.env)) ?_
  rw [ownOf_map]
  exact lc_imp ht
end
end Dy

/-! Dp, part I: all expressions at once. -/
namespace Dy
open PySem PySem.Spec L2
variable [Kx]
section
variable {F : Nat → FS}
structure SoundE (F : Nat → FS) (cl : Cls) (a : E) : Prop where
  e : ∀ (c : Cc) (X : Cx) (Wx : WX) (e : Expr), Good F cl c X → Takes X Wx → chk c e a = true → PEs F cl X Wx e a ∧ PTs' F cl X Wx e a
  l : ∀ (c : Cc) (X : Cx) (Wx : WX) (es : List Expr), Good F cl c X → Takes X Wx → chkL c es a = true → PAs F cl X Wx es a
  d : ∀ (c : Cc) (X : Cx) (Wx : WX) (es : List Expr), Good F cl c X → Takes X Wx → chkD c es a = true → PAs F cl X Wx es a
  k : ∀ (c : Cc) (X : Cx) (Wx : WX) (kws : List Keyword), Good F cl c X → Takes X Wx → chkL c (kws.map (·.value)) a = true → PK X kws (TAof X.K cl Wx (wpA F a))
  p : ∀ (c : Cc) (X : Cx) (Wx : WX) (keys : List (Option Expr)) (vs : List Expr) (ks : List Text) (pos : Pos), Good F cl c X → Takes X Wx → keysAre keys ks = true → chkL c vs a = true → keys.length = vs.length → PPs X pos keys vs (prsOf F X.K Wx ks a)
  b : ∀ (c : Cc) (X : Cx) (Wx : WX) (op : BoolOp) (es : List Expr) (p : Pos), Good F cl c X → Takes X Wx → chkB c op es a = true → PEs F cl X Wx (.BoolOp op es p) a ∧ PWs F cl X Wx (.BoolOp op es p) a
/-- a test by its value -/
theorem both {c : Cc} {X : Cx} {Wx : WX} {e : Expr} {a : E} (h : PEs F cl X Wx e a) (ha : plainE a = true) (he : plainT e = true) : PEs F cl X Wx e a ∧ PTs' F cl X Wx e a := ⟨h, pt_of ha h he⟩
theorem SoundE.only {a : E} (e : ∀ (c : Cc) (X : Cx) (Wx : WX) (e : Expr), Good F cl c X → Takes X Wx → chk c e a = true → PEs F cl X Wx e a ∧ PTs' F cl X Wx e a)
    (hl : ∀ c es, chkL c es a = false ∧ chkD c es a = false) (hb : ∀ c op es, chkB c op es a = false) : SoundE F cl a :=
  ⟨e, fun c X Wx es _ _ h => absurd h (by rw [(hl c es).1]; decide), fun c X Wx es _ _ h => absurd h (by rw [(hl c es).2]; decide), fun c X Wx kws _ _ h => absurd h (by rw [(hl c _).1]; decide), fun c X Wx keys vs ks pos _ _ _ h => absurd h (by rw [(hl c vs).1]; decide), fun c X Wx op es p _ _ h => absurd h (by rw [hb]; decide)⟩
theorem so_of {x : Bool} {o : Option Expr} {no : Bool} {f : Expr → Bool} (h : chkO x no o f = true) : (x = false ∧ o = none ∧ no = true) ∨ ∃ y, x = true ∧ o = some y ∧ f y = true := by
  unfold chkO at h
  cases o with
  | none => simp at h; exact .inl ⟨h.1, rfl, h.2⟩
  | some y => simp at h; exact .inr ⟨y, h.1, rfl, h.2⟩
theorem cst_of {a : E} (h : isCst a = true) : a = .cst .non := by
  unfold isCst at h
  split at h
  · rfl
  · cases h
theorem yes_of {a : E} (h : isYes a = true) : a = .cst (.bool true) := by
  unfold isYes at h
  split at h
  · rfl
  · cases h
theorem it_of {c : Cc} {X : Cx} {Wx : WX} (G : Good F cl c X) (tk : Takes X Wx) {t it : Expr} {ik : IK} {e1 e2 : E} (s1 : SoundE F cl e1) (s2 : SoundE F cl e2) (h : chkIt c t it ik (isCst e2) (fun z => chk c z e1) (fun z => chk c z e2) = true) :
    PI X t it (TIof X.K cl Wx (wpI F ik e1 e2)) := by
  unfold chkIt at h
  cases ik with
  | seq =>
    simp only [Bool.and_eq_true] at h
    rw [cst_of h.1]
    exact s_seq (s1.e c X Wx it G tk h.2).1
  | rng1 =>
    simp only at h
    split at h
    · simp only [Bool.and_eq_true, beq_iff_eq] at h
      obtain ⟨⟨⟨⟨⟨h1, h2⟩, h3⟩, h4⟩, h5⟩, h6⟩ := h
      subst h2
      rw [cst_of h5]
      exact s_rng1 G h1 h3 h4 (s1.e c X Wx _ G tk h6).1
    · cases h
  | rng2 =>
    simp only at h
    split at h
    · simp only [Bool.and_eq_true, beq_iff_eq] at h
      obtain ⟨⟨⟨⟨⟨⟨h1, h2⟩, h3⟩, h4⟩, h5⟩, h6⟩, h7⟩ := h
      subst h2
      exact s_rng2 G h1 h3 h4 h5 (s1.e c X Wx _ G tk h6).1 (s2.e c X Wx _ G tk h7).1
    · cases h
  | zip =>
    simp only at h
    split at h
    · simp only [Bool.and_eq_true, beq_iff_eq] at h
      obtain ⟨⟨⟨⟨⟨⟨⟨h0, h1⟩, h2⟩, h3⟩, h4⟩, h5⟩, h6⟩, h7⟩ := h
      subst h2
      exact s_zip G h0 h1 h3 h4 h5 (s1.e c X Wx _ G tk h6).1 (s2.e c X Wx _ G tk h7).1
    · cases h
theorem sound : ∀ a : E, SoundE F cl a := by
  intro a
  induction a with
  | var i =>
    refine .only (fun c X Wx e G tk h => ?_) (fun _ _ => ⟨rfl, rfl⟩) (fun _ _ _ => rfl)
    simp only [chk] at h
    split at h
    · simp only [Bool.and_eq_true, decide_eq_true_eq] at h
      exact both (c := c) (s_var G h.1.1 h.1.2 h.2) rfl rfl
    · cases h
  | cst v =>
    refine .only (fun c X Wx e G tk h => ?_) (fun _ _ => ⟨rfl, rfl⟩) (fun _ _ _ => rfl)
    simp only [chk] at h
    split at h
    · rw [veq_eq h]; exact both (c := c) (s_cst pe_non fun _ _ => .non) rfl rfl
    · rw [veq_eq h]; exact both (c := c) (s_cst pe_bl fun _ _ => .bool _) rfl rfl
    · rw [veq_eq h]; exact both (c := c) (s_cst pe_int fun _ _ => .int _) rfl rfl
    · rw [veq_eq h]; exact both (c := c) (s_cst pe_str fun _ _ => by rename_i s _ _ _ _; have := RV.str (K := X.K) (W := ‹Wd›) (H := ‹Hp›) s.cps.toList; rw [SX.S_tl] at this; exact this) rfl rfl
    · simp only [Bool.and_eq_true] at h
      obtain ⟨h1, h2⟩ := h
      obtain ⟨g1, g2⟩ := G.gl_of h1
      rw [Bool.or_eq_true] at h2
      rcases h2 with h2 | h2
      · split at h2
        · rename_i u hu
          rw [veq_eq h2]
          obtain ⟨w, xv, m1, m2, m3⟩ := G.st.gl _ _ hu
          exact both (c := c) (s_cst (pe_glob g1 m1 m2 g2) m3) rfl rfl
        · cases h2
      · split at h2
        · rename_i k
          obtain ⟨m1, _, _⟩ := G.st.fns _ k (of_decide_eq_true h2)
          exact both (c := c) (s_cst (pe_glob (v := .ref (Kx.fa k)) g1 m1 rfl g2) fun _ _ => .fn) rfl rfl
        · cases h2
    · cases h
  | nil =>
    refine ⟨fun c X Wx e G tk h => by simp [chk] at h, fun c X Wx es G tk h => ?_, fun c X Wx es G tk h => ?_, fun c X Wx kws G tk h => ?_, fun c X Wx keys vs ks pos G tk hk h hl => ?_, fun c X Wx op es p G tk h => by simp [chkB] at h⟩
    · cases es with
      | nil => exact pa_nilE
      | cons _ _ => simp [chkL] at h
    · cases es with
      | nil => exact pa_nilE
      | cons _ _ => simp [chkD] at h
    · cases kws with
      | nil => exact pk_nilE
      | cons _ _ => simp [chkL] at h
    · cases vs with
      | nil => exact pps_nilE hk (by cases keys with | nil => rfl | cons _ _ => simp at hl)
      | cons _ _ => simp [chkL] at h
  | cons a b ia ib =>
    refine ⟨fun c X Wx e G tk h => by simp [chk] at h, fun c X Wx es G tk h => ?_, fun c X Wx es G tk h => ?_, fun c X Wx kws G tk h => ?_, fun c X Wx keys vs ks pos G tk hk h hl => ?_, fun c X Wx op es p G tk h => by simp [chkB] at h⟩
    · cases es with
      | nil => simp [chkL] at h
      | cons x r =>
        simp only [chkL, Bool.and_eq_true] at h
        exact pa_consE h.1.1 (ia.e c X Wx x G tk h.1.2).1 (ib.l c X Wx r G tk h.2)
    · cases es with
      | nil => simp [chkD] at h
      | cons x r =>
        simp only [chkD, Bool.and_eq_true] at h
        exact pa_consE h.1.1 (ia.e c X Wx x G tk h.1.2).1 (ib.d c X Wx r G tk h.2)
    · cases kws with
      | nil => simp [chkL] at h
      | cons k r =>
        obtain ⟨nm, v, kp⟩ := k
        simp only [List.map_cons, chkL, Bool.and_eq_true] at h
        exact pk_consE (ia.e c X Wx v G tk h.1.2).1 (ib.k c X Wx r G tk h.2)
    · cases vs with
      | nil => simp [chkL] at h
      | cons x r =>
        simp only [chkL, Bool.and_eq_true] at h
        cases keys with
        | nil => simp at hl
        | cons ke kr =>
          cases ks with
          | nil =>
            cases ke with
            | none => simp [keysAre] at hk
            | some e => cases e <;> simp [keysAre] at hk
          | cons t ts =>
            cases ke with
            | none => simp [keysAre] at hk
            | some e =>
              cases e <;> first | (simp [keysAre] at hk; done) | skip
              rename_i cv _ _
              cases cv <;> first | (simp [keysAre] at hk; done) | skip
              simp only [keysAre, Bool.and_eq_true, decide_eq_true_eq] at hk
              obtain ⟨hk1, hk2⟩ := hk
              subst hk1
              exact pps_cons pe_str (ia.e c X Wx x G tk h.1.2).1 (ib.p c X Wx kr r ts pos G tk hk2 h.2 (by simpa using hl))
  | scons a b ia ib =>
    refine ⟨fun c X Wx e G tk h => by simp [chk] at h, fun c X Wx es G tk h => by simp [chkL] at h, fun c X Wx es G tk h => ?_, fun c X Wx kws G tk h => by simp [chkL] at h, fun c X Wx keys vs ks pos G tk hk h hl => by simp [chkL] at h, fun c X Wx op es p G tk h => by simp [chkB] at h⟩
    simp only [chkD] at h
    split at h
    · simp only [Bool.and_eq_true] at h
      exact pa_sconsE (ia.e c X Wx _ G tk h.1).1 (ib.d c X Wx _ G tk h.2)
    · cases h
  | kd op kvs k d ik id =>
    refine .only (fun c X Wx e G tk h => ?_) (fun _ _ => ⟨rfl, rfl⟩) (fun _ _ _ => rfl)
    cases op with
    | get1 =>
      simp only [chk] at h
      split at h
      · simp only [Bool.and_eq_true, beq_iff_eq] at h
        obtain ⟨⟨⟨⟨⟨h1, h2⟩, h3⟩, h4⟩, h5⟩, h6⟩ := h
        subst h2
        exact both (c := c) (s_kget1 G h1 (by rw [h3]; simp) h4 (cst_of h5) (ik.e c X Wx _ G tk h6).1) rfl rfl
      · cases h
    | get2 =>
      simp only [chk] at h
      split at h
      · simp only [Bool.and_eq_true, beq_iff_eq] at h
        obtain ⟨⟨⟨⟨⟨⟨h1, h2⟩, h3⟩, h4⟩, h5⟩, h6⟩, h7⟩ := h
        subst h2
        exact both (c := c) (s_kget2 G h1 (by rw [h3]; simp) h4 h5 (ik.e c X Wx _ G tk h6).1 (id.e c X Wx _ G tk h7).1) rfl rfl
      · cases h
    | idx =>
      simp only [chk] at h
      split at h
      · simp only [Bool.and_eq_true] at h
        obtain ⟨⟨⟨h1, h2⟩, h3⟩, h4⟩ := h
        exact both (c := c) (s_kidx G h1 (ix_plain h2) (cst_of h3) (ik.e c X Wx _ G tk h4).1) rfl rfl
      · cases h
    | isin =>
      simp only [chk] at h
      split at h
      · simp only [Bool.and_eq_true, decide_eq_true_eq] at h
        obtain ⟨⟨⟨h1, h2⟩, h3⟩, h4⟩ := h
        subst h1
        exact s_kin G h2 (cst_of h3) (ik.e c X Wx _ G tk h4).1
      · cases h
    | notin =>
      simp only [chk] at h
      split at h
      · simp only [Bool.and_eq_true, decide_eq_true_eq] at h
        obtain ⟨⟨⟨h1, h2⟩, h3⟩, h4⟩ := h
        subst h1
        exact s_knot G h2 (cst_of h3) (ik.e c X Wx _ G tk h4).1
      · cases h
  | tup es ih =>
    refine .only (fun c X Wx e G tk h => ?_) (fun _ _ => ⟨rfl, rfl⟩) (fun _ _ _ => rfl)
    simp only [chk] at h
    split at h
    · exact both (c := c) (s_tup (ih.d c X Wx _ G tk h)) rfl rfl
    · cases h
  | lst mu es ih =>
    refine .only (fun c X Wx e G tk h => ?_) (fun _ _ => ⟨rfl, rfl⟩) (fun _ _ _ => rfl)
    simp only [chk] at h
    split at h
    · exact both (c := c) (s_lst (ih.d c X Wx _ G tk h)) rfl rfl
    · cases h
  | bin o a b ia ib =>
    refine .only (fun c X Wx e G tk h => ?_) (fun _ _ => ⟨rfl, rfl⟩) (fun _ _ _ => rfl)
    simp only [chk] at h
    split at h
    · simp only [Bool.and_eq_true, decide_eq_true_eq] at h
      obtain ⟨⟨h1, h2⟩, h3⟩ := h
      subst h1
      exact both (c := c) (s_bin (ia.e c X Wx _ G tk h2).1 (ib.e c X Wx _ G tk h3).1) rfl rfl
    · cases h
  | neg a ia =>
    refine .only (fun c X Wx e G tk h => ?_) (fun _ _ => ⟨rfl, rfl⟩) (fun _ _ _ => rfl)
    simp only [chk] at h
    split at h
    · exact both (c := c) (s_neg (ia.e c X Wx _ G tk h).1) rfl rfl
    · cases h
  | cmp o a b ia ib =>
    refine .only (fun c X Wx e G tk h => ?_) (fun _ _ => ⟨rfl, rfl⟩) (fun _ _ _ => rfl)
    simp only [chk] at h
    split at h
    · simp only [Bool.and_eq_true, decide_eq_true_eq] at h
      obtain ⟨⟨⟨h1, h2⟩, h3⟩, h4⟩ := h
      subst h1
      exact ⟨s_cmp G h2 (ia.e c X Wx _ G tk h3).1 (ib.e c X Wx _ G tk h4).1, t_cmp G h2 (ia.e c X Wx _ G tk h3).1 (ib.e c X Wx _ G tk h4).1⟩
    · cases h
  | chain o1 o2 a b d ia ib id =>
    refine .only (fun c X Wx e G tk h => ?_) (fun _ _ => ⟨rfl, rfl⟩) (fun _ _ _ => rfl)
    simp only [chk] at h
    split at h
    · simp only [Bool.and_eq_true, decide_eq_true_eq] at h
      obtain ⟨⟨⟨⟨⟨h1, h2⟩, h3⟩, h4⟩, h5⟩, h6⟩ := h
      subst h1 h2
      exact ⟨s_chain G h3 (ia.e c X Wx _ G tk h4).1 (ib.e c X Wx _ G tk h5).1 (id.e c X Wx _ G tk h6).1, t_chain G h3 (ia.e c X Wx _ G tk h4).1 (ib.e c X Wx _ G tk h5).1 (id.e c X Wx _ G tk h6).1⟩
    · cases h
  | isN neg a ia =>
    refine .only (fun c X Wx e G tk h => ?_) (fun _ _ => ⟨rfl, rfl⟩) (fun _ _ _ => rfl)
    simp only [chk] at h
    split at h
    · simp only [Bool.and_eq_true, decide_eq_true_eq] at h
      obtain ⟨h1, h2⟩ := h
      subst h1
      exact ⟨s_isN (ia.e c X Wx _ G tk h2).1, t_isN (ia.e c X Wx _ G tk h2).1⟩
    · cases h
  | one a ia =>
    refine ⟨fun c X Wx e G tk h => by simp [chk] at h, fun c X Wx es G tk h => by simp [chkL] at h, fun c X Wx es G tk h => by simp [chkD] at h, fun c X Wx kws G tk h => by simp [chkL] at h, fun c X Wx keys vs ks pos G tk hk h hl => by simp [chkL] at h, fun c X Wx op es p G tk h => ?_⟩
    simp only [chkB] at h
    split at h
    · exact ⟨s_one (ia.e c X Wx _ G tk h).1, t_one (ia.e c X Wx _ G tk h).2⟩
    · cases h
  | and a b ia ib =>
    refine ⟨fun c X Wx e G tk h => ?_, fun c X Wx es G tk h => by simp [chkL] at h, fun c X Wx es G tk h => by simp [chkD] at h, fun c X Wx kws G tk h => by simp [chkL] at h, fun c X Wx keys vs ks pos G tk hk h hl => by simp [chkL] at h, fun c X Wx op es p G tk h => ?_⟩
    · simp only [chk] at h
      split at h
      · simp only [Bool.and_eq_true] at h
        exact ⟨s_and (ia.e c X Wx _ G tk h.1).1 (ib.b c X Wx _ _ _ G tk h.2).1, (t_and (ia.e c X Wx _ G tk h.1).2 (ib.b c X Wx _ _ _ G tk h.2).2).pt⟩
      · cases h
    · simp only [chkB] at h
      split at h
      · simp only [Bool.and_eq_true, decide_eq_true_eq] at h
        obtain ⟨⟨h1, h2⟩, h3⟩ := h
        subst h1
        exact ⟨s_and (ia.e c X Wx _ G tk h2).1 (ib.b c X Wx _ _ _ G tk h3).1, t_and (ia.e c X Wx _ G tk h2).2 (ib.b c X Wx _ _ _ G tk h3).2⟩
      · cases h
  | or a b ia ib =>
    refine ⟨fun c X Wx e G tk h => ?_, fun c X Wx es G tk h => by simp [chkL] at h, fun c X Wx es G tk h => by simp [chkD] at h, fun c X Wx kws G tk h => by simp [chkL] at h, fun c X Wx keys vs ks pos G tk hk h hl => by simp [chkL] at h, fun c X Wx op es p G tk h => ?_⟩
    · simp only [chk] at h
      split at h
      · simp only [Bool.and_eq_true] at h
        exact ⟨s_or (ia.e c X Wx _ G tk h.1).1 (ib.b c X Wx _ _ _ G tk h.2).1, (t_or (ia.e c X Wx _ G tk h.1).2 (ib.b c X Wx _ _ _ G tk h.2).2).pt⟩
      · cases h
    · simp only [chkB] at h
      split at h
      · simp only [Bool.and_eq_true, decide_eq_true_eq] at h
        obtain ⟨⟨h1, h2⟩, h3⟩ := h
        subst h1
        exact ⟨s_or (ia.e c X Wx _ G tk h2).1 (ib.b c X Wx _ _ _ G tk h3).1, t_or (ia.e c X Wx _ G tk h2).2 (ib.b c X Wx _ _ _ G tk h3).2⟩
      · cases h
  | not a ia =>
    refine .only (fun c X Wx e G tk h => ?_) (fun _ _ => ⟨rfl, rfl⟩) (fun _ _ _ => rfl)
    simp only [chk] at h
    split at h
    · exact ⟨s_not (ia.e c X Wx _ G tk h).1, t_not (ia.e c X Wx _ G tk h).2⟩
    · cases h
  | ite t a b it ia ib =>
    refine .only (fun c X Wx e G tk h => ?_) (fun _ _ => ⟨rfl, rfl⟩) (fun _ _ _ => rfl)
    simp only [chk] at h
    split at h
    · simp only [Bool.and_eq_true] at h
      obtain ⟨⟨h1, h2⟩, h3⟩ := h
      exact ⟨s_ite (it.e c X Wx _ G tk h1).2 (ia.e c X Wx _ G tk h2).1 (ib.e c X Wx _ G tk h3).1, t_ite (it.e c X Wx _ G tk h1).2 (ia.e c X Wx _ G tk h2).2 (ib.e c X Wx _ G tk h3).2⟩
    · cases h
  | call f args ih =>
    refine .only (fun c X Wx e G tk h => ?_) (fun _ _ => ⟨rfl, rfl⟩) (fun _ _ _ => rfl)
    simp only [chk] at h
    split at h
    · simp only [Bool.and_eq_true, decide_eq_true_eq] at h
      obtain ⟨⟨h1, h2⟩, h3⟩ := h
      exact both (c := c) (s_call G tk h1 h2 h3 (ih.l c X Wx _ G tk h3)) rfl rfl
    · cases h
  | bi b args ih =>
    refine .only (fun c X Wx e G tk h => ?_) (fun _ _ => ⟨rfl, rfl⟩) (fun _ _ _ => rfl)
    simp only [chk] at h
    split at h
    · simp only [Bool.and_eq_true, beq_iff_eq] at h
      obtain ⟨⟨⟨h1, h2⟩, h3⟩, h4⟩ := h
      exact both (c := c) (s_bi G h1 h2 h3 h4 (ih.l c X Wx _ G tk h4)) rfl rfl
    · cases h
  | isI t a ia =>
    refine .only (fun c X Wx e G tk h => ?_) (fun _ _ => ⟨rfl, rfl⟩) (fun _ _ _ => rfl)
    simp only [chk] at h
    split at h
    · simp only [Bool.and_eq_true, beq_iff_eq] at h
      obtain ⟨⟨⟨⟨⟨⟨⟨h1, h2⟩, h3⟩, h4⟩, h5⟩, h6⟩, h7⟩, h8⟩ := h
      subst h2 h5
      exact both (c := c) (s_isI G h1 h3 h4 h6 h7 (ia.e c X Wx _ G tk h8).1) rfl rfl
    · cases h
  | meth t o args io ih =>
    refine .only (fun c X Wx e G tk h => ?_) (fun _ _ => ⟨rfl, rfl⟩) (fun _ _ _ => rfl)
    simp only [chk] at h
    split at h
    · simp only [Bool.and_eq_true, beq_iff_eq, decide_eq_true_eq] at h
      obtain ⟨⟨⟨⟨⟨h1, h2⟩, h3⟩, h4⟩, h5⟩, h6⟩ := h
      subst h1
      exact both (c := c) (s_meth G (by rw [h2]; simp) h3 h4 (io.e c X Wx _ G tk h5).1 h6 (ih.l c X Wx _ G tk h6)) rfl rfl
    · cases h
  | idx a i ia ii =>
    refine .only (fun c X Wx e G tk h => ?_) (fun _ _ => ⟨rfl, rfl⟩) (fun _ _ _ => rfl)
    simp only [chk] at h
    split at h
    · simp only [Bool.and_eq_true] at h
      obtain ⟨⟨h1, h2⟩, h3⟩ := h
      exact both (c := c) (s_idx h1 (ia.e c X Wx _ G tk h2).1 (ii.e c X Wx _ G tk h3).1) rfl rfl
    · cases h
  | sl hl hh a lo hi ia il ih =>
    refine .only (fun c X Wx e G tk h => ?_) (fun _ _ => ⟨rfl, rfl⟩) (fun _ _ _ => rfl)
    simp only [chk] at h
    split at h
    · simp only [Bool.and_eq_true] at h
      obtain ⟨⟨h1, h2⟩, h3⟩ := h
      refine both (c := c) (s_sl (ia.e c X Wx _ G tk h1).1 ?_ ?_) rfl rfl
      · rcases so_of h2 with ⟨z1, z2, z3⟩ | ⟨y, z1, z2, z3⟩
        · exact .inl ⟨z1, z2, cst_of z3⟩
        · exact .inr ⟨y, z1, z2, (il.e c X Wx _ G tk z3).1⟩
      · rcases so_of h3 with ⟨z1, z2, z3⟩ | ⟨y, z1, z2, z3⟩
        · exact .inl ⟨z1, z2, cst_of z3⟩
        · exact .inr ⟨y, z1, z2, (ih.e c X Wx _ G tk z3).1⟩
    · cases h
  | lc mu own tg ik e1 e2 cond elt i1 i2 ic ie =>
    refine .only (fun c X Wx e G tk h => ?_) (fun _ _ => ⟨rfl, rfl⟩) (fun _ _ _ => rfl)
    simp only [chk] at h
    split at h
    · simp only [Bool.and_eq_true, decide_eq_true_eq] at h
      obtain ⟨⟨⟨⟨⟨⟨⟨h0, h1⟩, h2⟩, h3⟩, h4⟩, h5⟩, h6⟩, h7⟩ := h
      subst h0
      refine both (c := c) (s_lc G h1 h2 h3 h5 (it_of G tk i1 i2 h4) (fun X' _ G' tk' => ?_) fun X' _ G' tk' => (ie.e _ X' _ _ G' tk' h7).1) rfl rfl
      unfold chkC at h6
      split at h6
      · rw [yes_of h6]
        refine pts_imp pts_nil ?_
        rintro σ H Q ⟨W, r', m, Qd, R, hs, hr, ⟨t, et, q⟩, hc, hx⟩
        cases et
        exact hc W true m H (.refl hr) hr q
      · exact pts_one (ic.e _ X' _ _ G' tk' h6).2
      · cases h6
    · cases h
  | isO k a ia =>
    refine .only (fun c X Wx e G tk h => ?_) (fun _ _ => ⟨rfl, rfl⟩) (fun _ _ _ => rfl)
    simp only [chk] at h
    split at h
    · simp only [Bool.and_eq_true, beq_iff_eq, decide_eq_true_eq] at h
      obtain ⟨⟨⟨⟨⟨⟨h1, h2⟩, h3⟩, h4⟩, h5⟩, h6⟩, h7⟩ := h
      subst h2
      exact both (c := c) (s_isO G h1 h3 h4 h5 h6 (ia.e c X Wx _ G tk h7).1) rfl rfl
    · cases h
  | attr f a ia =>
    refine .only (fun c X Wx e G tk h => ?_) (fun _ _ => ⟨rfl, rfl⟩) (fun _ _ _ => rfl)
    simp only [chk] at h
    split at h
    · simp only [Bool.and_eq_true, beq_iff_eq] at h
      obtain ⟨⟨⟨h1, h2⟩, h3⟩, h4⟩ := h
      subst h1
      exact both (c := c) (s_attr G h2 h3 (ia.e c X Wx _ G tk h4).1) rfl rfl
    · cases h
  | dsp ks es ih =>
    refine .only (fun c X Wx e G tk h => ?_) (fun _ _ => ⟨rfl, rfl⟩) (fun _ _ _ => rfl)
    simp only [chk] at h
    split at h
    · simp only [Bool.and_eq_true, beq_iff_eq, decide_eq_true_eq] at h
      obtain ⟨⟨⟨h1, h2⟩, h3⟩, h4⟩ := h
      exact both (c := c) (s_dsp G h1 h4 h2 h3 (ih.p c X Wx _ _ _ _ G tk h1 h4 h2)) rfl rfl
    · cases h
  | mk k f nn mm pm args kargs ia ik =>
    refine .only (fun c X Wx e G tk h => ?_) (fun _ _ => ⟨rfl, rfl⟩) (fun _ _ _ => rfl)
    simp only [chk] at h
    split at h
    · simp only [Bool.and_eq_true, beq_iff_eq] at h
      obtain ⟨⟨⟨⟨⟨h1, h2⟩, h3⟩, h4⟩, h5⟩, h6⟩ := h
      subst h1 h2
      exact both (c := c) (s_mk G tk h3 h4 h5 (ia.l c X Wx _ G tk h5) (ik.k c X Wx _ G tk h6)) rfl rfl
    · cases h
  | mc k f nm o args io ia =>
    refine .only (fun c X Wx e G tk h => ?_) (fun _ _ => ⟨rfl, rfl⟩) (fun _ _ _ => rfl)
    simp only [chk] at h
    split at h
    · simp only [Bool.and_eq_true, decide_eq_true_eq] at h
      obtain ⟨⟨⟨⟨⟨⟨h1, h2⟩, h3⟩, h4⟩, h5⟩, h6⟩, h7⟩ := h
      rw [eq_of_beq h1]
      exact both (c := c) (s_mc G tk h2 h3 h4 h5 (io.e c X Wx _ G tk h6).1 h7 (ia.l c X Wx _ G tk h7)) rfl rfl
    · cases h
  | prop k f nm o io =>
    refine .only (fun c X Wx e G tk h => ?_) (fun _ _ => ⟨rfl, rfl⟩) (fun _ _ _ => rfl)
    simp only [chk] at h
    split at h
    · simp only [Bool.and_eq_true] at h
      obtain ⟨⟨⟨h1, h2⟩, h3⟩, h4⟩ := h
      rw [eq_of_beq h1]
      exact both (c := c) (s_prop G h2 h3 (io.e c X Wx _ G tk h4).1) rfl rfl
    · cases h
  | oeq neg k f a b ia ib =>
    refine .only (fun c X Wx e G tk h => ?_) (fun _ _ => ⟨rfl, rfl⟩) (fun _ _ _ => rfl)
    simp only [chk] at h
    split at h
    · simp only [Bool.and_eq_true, decide_eq_true_eq] at h
      obtain ⟨⟨⟨⟨h1, h2⟩, h3⟩, h4⟩, h5⟩ := h
      exact ⟨s_oeq G h1 h2 h3 (ia.e c X Wx _ G tk h4).1 (ib.e c X Wx _ G tk h5).1, s_oeqT G h1 h2 h3 (ia.e c X Wx _ G tk h4).1 (ib.e c X Wx _ G tk h5).1⟩
    · cases h
end
end Dy

/-! Dp, part J: statements. -/
namespace Dy
open PySem PySem.Spec L2
variable [Kx]
inductive S where
  | nil
  | cons (a b : S)
  | expr (e : E)
  | ret (e : E)
  | retN
  | asg (tg : Tg) (e : E)
  | par (is : List Nat) (es : E)
  | asgStar (is : List Nat) (j : Nat) (e : E)
  | setIx (o i e : E)
  | ite (c : E) (a b : S)
  | loop (tg : Tg) (ik : IK) (e1 e2 : E) (body : S)
  | whil (c : E) (body : S)
  | raise (k : Nat) (e : E)
  | tryK (body : S) (k i j : Nat)
  | setA (f : Str) (o e : E)
  | pass
  | brk
  | cont
  | never
structure En where
  nx : Env → Store → Prop
  rt : Val → Store → Prop
  bk : Env → Store → Prop
  ct : Env → Store → Prop
  rx : Env → Rq
/-- o[i] = v -/
def setW (o i v : Val) (m : Store) (Q : Store → Prop) : Prop :=
  match o, i with
  | .loc n, .int k => ∃ vs j, m[n]? = some (.list vs) ∧ ixN vs.length k = some j ∧ Q (m.set n (.list (vs.set j v)))
  | _, _ => False
def putFs (f : Str) : List Str → List Str
  | [] => [f]
  | g :: r => if g = f then g :: r else g :: putFs f r
def putVs {α : Type} (f : Str) (v : α) : List Str → List α → List α
  | [], _ => [v]
  | _ :: _, [] => [v]
  | g :: r, u :: us => if g = f then v :: us else u :: putVs f v r us
/-- o.f = v -/
def setAW (f : Str) (o v : Val) (m : Store) (Q : Store → Prop) : Prop :=
  match o with
  | .loc n => ∃ c fs us, m[n]? = some (.inst c fs us) ∧ fs.length < 1000 ∧ Q (m.set n (.inst c (putFs f fs) (putVs f v fs us)))
  | _ => False
/-- the turns of a for -/
def forW (live : Store → Prop) (step : Val → Env → Store → (Env → Store → Prop) → Prop) (k : Env → Store → Prop) : List Val → Env → Store → Prop
  | [], r, m => live m ∧ k r m
  | x :: xs, r, m => live m ∧ step x r m fun r1 m1 => forW live step k xs r1 m1
def wpS (F : Nat → FS) : S → Env → Store → En → Prop
  | .nil, r, m, D => D.nx r m
  | .cons a b, r, m, D => wpS F a r m { D with nx := fun r m => wpS F b r m D }
  | .expr e, r, m, D => wpE F e r m (fun _ m1 => D.nx r m1) (D.rx r)
  | .ret e, r, m, D => wpE F e r m D.rt (D.rx r)
  | .retN, _, m, D => D.rt .non m
  | .asg tg e, r, m, D => wpE F e r m (fun v m1 => ∃ r1, tgF tg v r = some r1 ∧ D.nx r1 m1) (D.rx r)
  | .par is es, r, m, D => wpA F es r m (fun vs m1 => ∃ r1, setAll is vs r = some r1 ∧ D.nx r1 m1) (D.rx r)
  | .asgStar is j e, r, m, D => wpE F e r m (fun v m1 => ∃ vs, sq m1 v = some vs ∧ is.length ≤ vs.length ∧ ∃ r1, setAll (is ++ [j]) (vs.take is.length ++ [.il true (vs.drop is.length)]) r = some r1 ∧ D.nx r1 m1) (D.rx r)
  | .setIx o i e, r, m, D => wpE F e r m (fun v m1 => wpE F o r m1 (fun ov m2 => wpE F i r m2 (fun iv m3 => setW ov iv v m3 fun m4 => D.nx r m4) (D.rx r)) (D.rx r)) (D.rx r)
  | .ite c a b, r, m, D => wpT F c r m (fun t m1 => if t = true then wpS F a r m1 D else wpS F b r m1 D) (D.rx r)
  | .loop tg ik e1 e2 body, r, m, D => wpI F ik e1 e2 r m (fun items live m1 => forW live (fun x r m nx => ∃ r1, tgF tg x r = some r1 ∧ wpS F body r1 m { D with nx := nx, ct := nx, bk := D.nx }) D.nx items r m1) (D.rx r)
  | .whil c body, r, m, D => ∃ I : Nat → Env → Store → Prop, (∃ n, I n r m) ∧ ∀ n r m, I n r m → wpT F c r m (fun t m1 => if t = true then wpS F body r m1 { D with nx := fun r m => ∃ k, k < n ∧ I k r m, ct := fun r m => ∃ k, k < n ∧ I k r m, bk := D.nx } else D.nx r m1) (D.rx r)
  | .raise k e, r, m, D => wpE F e r m (fun v m1 => D.rx r k v m1) (D.rx r)
  | .tryK body k i j, r, m, D => wpS F body r m { D with rx := fun r' c v m' => if subN c k = true then i < r'.length ∧ D.nx ((r'.set j (some (.err c v))).set i none) m' else D.rx r' c v m' }
  | .setA f o e, r, m, D => wpE F e r m (fun v m1 => wpE F o r m1 (fun ov m2 => setAW f ov v m2 fun m3 => D.nx r m3) (D.rx r)) (D.rx r)
  | .pass, r, m, D => D.nx r m
  | .brk, r, m, D => D.bk r m
  | .cont, r, m, D => D.ct r m
  | .never, _, _, _ => False
/-! ### the text -/
def notComp : Expr → Bool
  | .ListComp _ _ _ _ => false
  | .SetComp _ _ _ _ => false
  | .DictComp _ _ _ _ _ => false
  | _ => true
def notTup : Expr → Bool
  | .Tuple _ _ _ => false
  | _ => true
def isTup : Expr → Bool
  | .Tuple _ _ _ => true
  | .List _ _ => true
  | _ => false
/-- a target that is no plain local name -/
def oddT (ns : List (Str × NameKind)) : Expr → Bool
  | .Name y _ => !(ns.lookup y == some .local)
  | _ => true
/-- the stores are not exchanged -/
def noSwap (c : Cc) : Expr → Bool
  | .Tuple ts _ _ => ts.any (oddT c.names) || !(ts.length == 2 || ts.length == 3)
  | _ => false
def compLine (y : Str) (py : Pos) (c : Cc) : Expr → Bool
  | .ListComp _ _ scope pos => decide (c.names.lookup y = some .local) && (py.line == pos.line) && !(scope.names.any fun (n, k) => n == y && (k == .local || k == .cell))
  | _ => false
/-- both sides written: the stores are exchanged -/
def parOk (c : Cc) (ts vs : List Expr) (is : List Nat) : Bool :=
  (ts.length == vs.length) && (match ts, is with
    | [.Name x px, .Name y py], [i, j] => decide (c.N[i]? = some x) && decide (c.N[j]? = some y) && decide (c.names.lookup x = some .local) && decide (c.names.lookup y = some .local) && (py.line == px.line) && !(i == j)
    | [.Name x px, .Name y py, .Name z pz], [i, j, l] => decide (c.N[i]? = some x) && decide (c.N[j]? = some y) && decide (c.N[l]? = some z) && decide (c.names.lookup x = some .local) && decide (c.names.lookup y = some .local) && decide (c.names.lookup z = some .local)
        && (py.line == px.line) && (pz.line == px.line) && !(i == j) && !(i == l) && !(j == l)
    | _, _ => false) && !vs.all (foldedForSure 8) && !vs.all (constantsAlone 8)
/-- names, the last one with a star -/
def chkStar (c : Cc) : List Expr → List Nat → Nat → Bool
  | [.Starred (.Name x _) _], [], j => canSet c j x
  | .Name x _ :: r, i :: is, j => canSet c i x && chkStar c r is j
  | _, _, _ => false
mutual
def chkS (c : Cc) (st : Stmt) : S → Bool
  | .nil => false
  | .cons _ _ => false
  | .expr e => match st with
    | .Expr x _ => notComp x && chk c x e
    | _ => false
  | .ret e => match st with
    | .Return (some x) _ => chk c x e
    | _ => false
  | .retN => match st with
    | .Return none _ => true
    | _ => false
  | .asg tg e => match st with
    | .Assign [t] x _ => chkTg c t tg && chk c x e && ((notComp x && (notTup x || !isTup t || noSwap c t)) || (match t with | .Name y py => compLine y py c x | _ => false))
    | _ => false
  | .par is es => match st with
    | .Assign [.Tuple ts _ _] (.Tuple vs _ _) _ => parOk c ts vs is && chkL c vs es
    | _ => false
  | .asgStar is j e => match st with
    | .Assign [.Tuple ts _ _] x _ => chkStar c ts is j && notComp x && notTup x && chk c x e
    | _ => false
  | .setIx o i e => match st with
    | .Assign [.Subscript x y _] z _ => notSlice y && notComp z && chk c x o && chk c y i && chk c z e
    | _ => false
  | .ite t a b => match st with
    | .If x y z _ => chk c x t && chkSs c y a && chkSs c z b
    | _ => false
  | .loop tg ik e1 e2 body => match st with
    | .For t it bd [] _ => chkTg c t tg && notSet it && chkIt c t it ik (isCst e2) (fun z => chk c z e1) (fun z => chk c z e2) && chkSs c bd body
    | _ => false
  | .whil t body => match st with
    | .While x bd [] _ => chk c x t && chkSs c bd body
    | _ => false
  | .raise k e => match st with
    | .Raise (some (.Call (.Name x _) [y] [] _)) none _ => isGl c x && decide (c.cls.lookup x = some k) && decide (k < 100) && noStar y && chk c y e
    | _ => false
  | .tryK body k i j => match st with
    | .Try bd [.ExceptHandler (some (.Name x _)) (some n) [.Assign [.Name y _] (.Name n' _) _] _] [] [] _ => isGl c x && decide (c.cls.lookup x = some k) && decide (k < 100) && (n == n') && decide (c.N[i]? = some n) && decide (c.names.lookup n = some .local) && plainName n &&
        decide (c.N[j]? = some y) && decide (c.names.lookup y = some .local) && !(i == j) && chkSs c bd body
    | _ => false
  | .setA f o e => match st with
    | .Assign [.Attribute y name _] z _ => (name == f) && c.ats.contains f && notComp z && chk c y o && chk c z e
    | _ => false
  | .pass => match st with
    | .Pass _ => true
    | _ => false
  | .brk => match st with
    | .Break _ => true
    | _ => false
  | .cont => match st with
    | .Continue _ => true
    | _ => false
  | .never => true
def chkSs (c : Cc) (sts : List Stmt) : S → Bool
  | .nil => match sts with
    | [] => true
    | _ => false
  | .cons a b => match sts with
    | st :: r => chkS c st a && chkSs c r b
    | _ => false
  | .never => true
  | _ => false
end
/-! ### readings -/
structure EnOk (K : Frag) (cl : Cls) (Wx : WX) (W : Wd) (H : Hp) (D : Ends) (d : En) : Prop where
  nx : ∀ W' r' m' σ' H', Ext W H W' H' → SR K W' H' r' σ' → HR K W' m' H' → d.nx r' m' → D.nx σ' H'
  rt : Cont K W H d.rt D.rt
  bk : ∀ W' r' m' σ' H', Ext W H W' H' → SR K W' H' r' σ' → HR K W' m' H' → d.bk r' m' → D.bk σ' H'
  ct : ∀ W' r' m' σ' H', Ext W H W' H' → SR K W' H' r' σ' → HR K W' m' H' → d.ct r' m' → D.ct σ' H'
  rx : ∀ W' r' m' σ' H', Ext W H W' H' → SR K W' H' r' σ' → HR K W' m' H' → ContX K cl W' H' σ' (d.rx r') Wx
theorem EnOk.mono {K : Frag} {Wx : WX} {W W1 : Wd} {H H1 : Hp} {D : Ends} {d : En} (k : EnOk K cl Wx W H D d) (e : Ext W H W1 H1) : EnOk K cl Wx W1 H1 D d where
  nx := fun W' r' m' σ' H' e' => k.nx W' r' m' σ' H' (e.trans e')
  rt := k.rt.mono e
  bk := fun W' r' m' σ' H' e' => k.bk W' r' m' σ' H' (e.trans e')
  ct := fun W' r' m' σ' H' e' => k.ct W' r' m' σ' H' (e.trans e')
  rx := fun W' r' m' σ' H' e' => k.rx W' r' m' σ' H' (e.trans e')
def TSof (K : Frag) (cl : Cls) (Wx : WX) (wp : Env → Store → En → Prop) : TS := fun D σ H =>
  ∃ (W : Wd) (r : Env) (m : Store) (d : En), SR K W H r σ ∧ HR K W m H ∧ wp r m d ∧ EnOk K cl Wx W H D d
structure GoodS (F : Nat → FS) (cl : Cls) (c : Cc) (X : Cx) : Prop extends Good F cl c X where
  stk : X.stack = X.env :: X.outer
  frm : X.env.frame = some X.env.locals
  exn : X.ex = []
  po : PassesOwn (model X.prog X.w) X.A X.env X.xe
section
variable {F : Nat → FS} {c : Cc} {X : Cx} {Wx : WX}
abbrev PSt (F : Nat → FS) (cl : Cls) (X : Cx) (Wx : WX) (st : Stmt) (a : S) : Prop := PS X st (TSof X.K cl Wx (wpS F a))
abbrev PSts (F : Nat → FS) (cl : Cls) (X : Cx) (Wx : WX) (st : List Stmt) (a : S) : Prop := PSs X st (TSof X.K cl Wx (wpS F a))
theorem EnOk.x0 {K : Frag} {W : Wd} {H : Hp} {D : Ends} {d : En} {r : Env} {σ : St} {m : Store} (k : EnOk K cl Wx W H D d) (hs : SR K W H r σ) (hr : HR K W m H) : ContX K cl W H σ (d.rx r) Wx := k.rx W r m σ H (.refl hr) hs hr
theorem swap_no {e : Expr} (h : notComp e = true) (t : Option Expr) (l : Nat) (env : PySem.Env) : swapsWith e t l env = pure false := by
  cases e <;> first | rfl | cases h
theorem st_expr {x : Expr} {e : E} {p : Pos} (h : notComp x = true) (he : PEs F cl X Wx x e) : PSt F cl X Wx (.Expr x p) (.expr e) := by
  refine ps_imp (ps_expr he (swap_no h _ _ _)) ?_
  rintro D σ H ⟨W, r, m, d, hs, hr, hw, k⟩
  refine TEof.bind hs hr hw (k.x0 hs hr) ?_
  rintro W1 v x m1 H1 e1 rv hr1 hs1 hx1 q
  exact k.nx _ _ _ _ _ e1 hs1 hr1 q
theorem st_ret {x : Expr} {e : E} {p : Pos} (he : PEs F cl X Wx x e) : PSt F cl X Wx (.Return (some x) p) (.ret e) := by
  refine ps_imp (ps_ret he) ?_
  rintro D σ H ⟨W, r, m, d, hs, hr, hw, k⟩
  refine TEof.bind hs hr hw (k.x0 hs hr) ?_
  rintro W1 v x m1 H1 e1 rv hr1 hs1 hx1 q
  exact k.rt _ _ _ _ _ e1 rv hr1 q
theorem st_retN {p : Pos} : PSt F cl X Wx (.Return none p) .retN := by
  refine ps_imp ps_retN ?_
  rintro D σ H ⟨W, r, m, d, hs, hr, hw, k⟩
  exact k.rt.here hr .non hw
/-- an assignment by the target's reading -/
theorem asg_bind {tg : Tg} {e : E} {D : Ends} {σ : St} {H : Hp} (h : TSof X.K cl Wx (wpS F (.asg tg e)) D σ H) : tAsg (TEof X.K cl Wx (wpE F e)) (TGof X.K tg) D σ H := by
  obtain ⟨W, r, m, d, hs, hr, hw, k⟩ := h
  refine TEof.bind hs hr hw (k.x0 hs hr) ?_
  rintro W1 v x m1 H1 e1 rv hr1 hs1 hx1 ⟨r1, et, q⟩
  exact ⟨W1, r, m1, v, r1, hs1, hr1, rv, et, fun σ' hs' _ => k.nx _ _ _ _ _ e1 hs' hr1 q⟩
theorem tg_one {t : Expr} {tg : Tg} (h : chkTg c t tg = true) (env : PySem.Env) : (assignEach [t] env).map (·.2) = [assign t env] := by
  cases tg <;> simp only [chkTg] at h <;> split at h <;> first | rfl | cases h
theorem fm_lt {α β : Type} {f : α → Option β} : ∀ {l : List α}, (∃ a ∈ l, f a = none) → (l.filterMap f).length < l.length
  | [], ⟨_, h, _⟩ => by cases h
  | x :: r, ⟨a, h, e⟩ => by
    rw [List.filterMap_cons]
    cases hx : f x with
    | none =>
      simp only
      have := List.length_filterMap_le f r
      simp only [List.length_cons]
      omega
    | some b =>
      rcases List.mem_cons.mp h with z | z
      · subst z; rw [hx] at e; cases e
      · have := fm_lt ⟨a, z, e⟩
        simp only [List.length_cons]
        omega
theorem noswap_of {env : PySem.Env} {ts vs : List Expr} {k k2 : Nat} {p p2 : Pos} (h : (ts.any (fun e => match e with | .Name y _ => !(env.kindOf y == some .local) | _ => true) = true) ∨ ¬ (ts.length = 2 ∨ ts.length = 3)) : swappedStores [.Tuple ts k p] (.Tuple vs k2 p2) env = pure none := by
  unfold swappedStores
  simp only
  split
  · rfl
  · rename_i h1
    split
    · rfl
    · split
      · rfl
      · rename_i h3
        exfalso
        rcases h with h | h
        · apply h3
          rw [List.any_eq_true] at h
          obtain ⟨t, ht, q⟩ := h
          rw [Bool.or_eq_true]
          refine .inl ?_
          rw [bne_iff_ne]
          refine Nat.ne_of_lt (fm_lt ⟨t, ht, ?_⟩)
          cases t <;> first | rfl | skip
          simp only at q
          simp only [Bool.not_eq_true'] at q
          simp [q]
        · apply h1
          simp only [Bool.or_eq_true, Bool.not_eq_true', Bool.or_eq_false_iff, beq_eq_false_iff_ne]
          refine .inl (.inl ⟨fun z => h (.inl z), fun z => h (.inr z)⟩)
theorem st_asg (G : Good F cl c X) {t x : Expr} {tg : Tg} {e : E} {p : Pos} (h1 : chkTg c t tg = true) (h2 : notComp x = true) (h3 : (notTup x || !isTup t || noSwap c t) = true) (he : PEs F cl X Wx x e) : PSt F cl X Wx (.Assign [t] x p) (.asg tg e) := by
  refine ps_imp (ps_asg he (g_of G h1) (swap_no h2 _ _ _) ?_ (tg_one h1 _)) fun D σ H h => asg_bind h
  cases tg with
  | name i =>
    simp only [chkTg] at h1
    split at h1
    · rfl
    · cases h1
  | tup is =>
    simp only [chkTg] at h1
    split at h1
    · simp only [isTup, Bool.or_eq_true, Bool.not_true, Bool.false_eq_true, or_false] at h3
      rcases h3 with h3 | h3
      · cases x <;> first | rfl | cases h3
      · cases x <;> first | rfl | skip
        refine noswap_of ?_
        have e : ∀ y, X.env.kindOf y = c.names.lookup y := fun y => by show X.env.scope.names.lookup y = _; rw [G.names]
        simp only [noSwap, Bool.or_eq_true] at h3
        rcases h3 with h3 | h3
        · refine .inl ?_
          rw [List.any_eq_true] at h3 ⊢
          obtain ⟨t, ht, q⟩ := h3
          refine ⟨t, ht, ?_⟩
          cases t <;> first | rfl | (simp only [oddT] at q; simp only [e]; exact q)
        · exact .inr (by simpa using h3)
    · cases h1
/-- a comprehension that is stored within its own frame -/
theorem st_asgLc (G : Good F cl c X) {x : Str} {px : Pos} {i : Nat} {y t it : Expr} {ifs : List Expr} {scope : Scope} {p sp : Pos} {mu : Bool} {own : List Nat} {tg : Tg} {ik : IK} {e1 e2 cond elt : E}
    (hset : canSet c i x = true) (hcl : compLine x px c (.ListComp y [⟨t, it, ifs, 0⟩] scope p) = true)
    (hb : blkC c.N { kind := .function, names := c.names, isGenerator := false, isCoroutine := false } scope (ownOf c own) = true) (ht : tgIn own tg = true) (htg : chkTg (c.blk scope) t tg = true) (hn : notSet it = true)
    (hi : PI X t it (TIof X.K cl Wx (wpI F ik e1 e2)))
    (hcond : ∀ (X' : Cx), X'.K = X.K → Good F cl (c.blk scope) X' → Takes X' (fun _ _ _ _ => False) → PTs X' ifs (TTof X'.K cl (fun _ _ _ _ => False) (wpT F cond)))
    (helt : ∀ (X' : Cx), X'.K = X.K → Good F cl (c.blk scope) X' → Takes X' (fun _ _ _ _ => False) → PEs F cl X' (fun _ _ _ _ => False) y elt) :
    PSt F cl X Wx (.Assign [.Name x px] (.ListComp y [⟨t, it, ifs, 0⟩] scope p) sp) (.asg (.name i) (.lc mu own tg ik e1 e2 cond elt)) := by
  have ok := blk_of G hb
  have Gb : ∀ (s : Shared) (H : Hp) (C : Addr) (cls : List (Str × Addr)) (fp : List Addr), Good F cl (c.blk scope) (X.blk s H scope (compEnvC scope cls C X.env) fp) := fun s H C cls fp => G.blk scope ok.kind s H C cls fp
  unfold compLine at hcl
  simp only [Bool.and_eq_true, decide_eq_true_eq] at hcl
  obtain ⟨⟨l1, l2⟩, l3⟩ := hcl
  have hloc : X.env.scope.names.lookup x = some .local := by rw [G.names]; exact l1
  obtain ⟨n1, n2, n3⟩ := G.set hset
  refine ps_imp (ps_setLc (g := TGof X.K tg) (tt := TTof X.K cl (fun _ _ _ _ => False) (wpT F cond)) (te := TEof X.K cl (fun _ _ _ _ => False) (wpE F elt)) G.calm (by rw [G.hN]; exact G.nd) n1 hloc (sw_true G.kind hloc l2 (by simpa using l3)) hi ok (fun s H C cls fp => g_of (Gb s H C cls fp) htg)
    (fun s H C cls fp => hcond (X.blk s H scope (compEnvC scope cls C X.env) fp) rfl (Gb s H C cls fp) takes_blk) (fun s H C cls fp => helt (X.blk s H scope (compEnvC scope cls C X.env) fp) rfl (Gb s H C cls fp) takes_blk) (fold_of hn X.env)) ?_
  rw [ownOf_map]
  rintro D σ H ⟨W, r, m, d, hs, hr, hw, k⟩
  refine lc_imp ht σ H _ (TEof.bind hs hr hw (k.x0 hs hr) ?_)
  rintro W1 v z m1 H1 x1 rv hr1 hs1 hx1 ⟨r1, et, q⟩
  cases et
  exact k.nx _ _ _ _ _ x1 (hs1.set rv i) hr1 q
theorem nd_dups2 {x y : Str} (h : x ≠ y) : ([x, y] : List Str).eraseDups.length = 2 := by
  have : (y == x) = false := by simpa using fun z => h z.symm
  simp [List.eraseDups, List.eraseDupsBy, List.eraseDupsBy.loop, this]
theorem nd_dups3 {x y z : Str} (h : x ≠ y) (h2 : x ≠ z) (h3 : y ≠ z) : ([x, y, z] : List Str).eraseDups.length = 3 := by
  have a : (y == x) = false := by simpa using fun q => h q.symm
  have b : (z == x) = false := by simpa using fun q => h2 q.symm
  have d : (z == y) = false := by simpa using fun q => h3 q.symm
  simp [List.eraseDups, List.eraseDupsBy, List.eraseDupsBy.loop, a, b, d]
theorem swapped2 {env : PySem.Env} {x y : Str} {px py pt pv : Pos} {a b : Expr} {kt kv : Nat} (hk : env.blockKind = .function) (kx : env.kindOf x = some .local) (ky : env.kindOf y = some .local) (hl : py.line = px.line) (hxy : x ≠ y) (na : noStar a = true) (nb : noStar b = true)
    (h3 : [a, b].all (foldedForSure 8) = false) (h4 : [a, b].all (constantsAlone 8) = false) : swappedStores [.Tuple [.Name x px, .Name y py] kt pt] (.Tuple [a, b] kv pv) env = pure (some [x, y]) := by
  have hd := nd_dups2 hxy
  have sa : ∀ v p, a ≠ .Starred v p := fun v p z => by subst z; cases na
  have sb : ∀ v p, b ≠ .Starred v p := fun v p z => by subst z; cases nb
  unfold swappedStores
  simp only [hk, kx, ky, hl, h3, h4, hd, Expr.pos, List.head?_cons, Option.map_some, Option.getD_some, List.filterMap_cons, List.filterMap_nil, BEq.rfl, Bool.and_self, if_true, List.any_cons, List.any_nil]
  simp
theorem swapped3 {env : PySem.Env} {x y z : Str} {px py pz pt pv : Pos} {a b d : Expr} {kt kv : Nat} (hk : env.blockKind = .function) (kx : env.kindOf x = some .local) (ky : env.kindOf y = some .local) (kz : env.kindOf z = some .local) (hl : py.line = px.line) (hl2 : pz.line = px.line) (hxy : x ≠ y) (hxz : x ≠ z) (hyz : y ≠ z)
    (na : noStar a = true) (nb : noStar b = true) (nd : noStar d = true) (h3 : [a, b, d].all (foldedForSure 8) = false) (h4 : [a, b, d].all (constantsAlone 8) = false) : swappedStores [.Tuple [.Name x px, .Name y py, .Name z pz] kt pt] (.Tuple [a, b, d] kv pv) env = pure (some [x, y, z]) := by
  have hd := nd_dups3 hxy hxz hyz
  have sa : ∀ v p, a ≠ .Starred v p := fun v p z => by subst z; cases na
  have sb : ∀ v p, b ≠ .Starred v p := fun v p z => by subst z; cases nb
  have sd : ∀ v p, d ≠ .Starred v p := fun v p z => by subst z; cases nd
  unfold swappedStores
  simp only [hk, kx, ky, kz, hl, hl2, h3, h4, hd, Expr.pos, List.head?_cons, Option.map_some, Option.getD_some, List.filterMap_cons, List.filterMap_nil, BEq.rfl, Bool.and_self, if_true, List.any_cons, List.any_nil]
  simp
theorem chkL_ns {c : Cc} : ∀ {a : E} {x : Expr} {r : List Expr}, chkL c (x :: r) a = true → noStar x = true ∧ ∃ b, chkL c r b = true
  | .cons a b, x, r, h => by
    simp only [chkL, Bool.and_eq_true] at h
    exact ⟨h.1.1, b, h.2⟩
  | .nil, _, _, h => by simp [chkL] at h
  | .var _, _, _, h => by simp [chkL] at h
  | .cst _, _, _, h => by simp [chkL] at h
  | .tup _, _, _, h => by simp [chkL] at h
  | .lst _ _, _, _, h => by simp [chkL] at h
  | .bin _ _ _, _, _, h => by simp [chkL] at h
  | .neg _, _, _, h => by simp [chkL] at h
  | .cmp _ _ _, _, _, h => by simp [chkL] at h
  | .chain _ _ _ _ _, _, _, h => by simp [chkL] at h
  | .isN _ _, _, _, h => by simp [chkL] at h
  | .one _, _, _, h => by simp [chkL] at h
  | .and _ _, _, _, h => by simp [chkL] at h
  | .or _ _, _, _, h => by simp [chkL] at h
  | .not _, _, _, h => by simp [chkL] at h
  | .ite _ _ _, _, _, h => by simp [chkL] at h
  | .call _ _, _, _, h => by simp [chkL] at h
  | .bi _ _, _, _, h => by simp [chkL] at h
  | .isI _ _, _, _, h => by simp [chkL] at h
  | .meth _ _ _, _, _, h => by simp [chkL] at h
  | .idx _ _, _, _, h => by simp [chkL] at h
  | .sl _ _ _ _ _, _, _, h => by simp [chkL] at h
  | .lc _ _ _ _ _ _ _ _, _, _, h => by simp [chkL] at h
  | .scons _ _, _, _, h => by simp [chkL] at h
  | .kd _ _ _ _, _, _, h => by simp [chkL] at h
theorem st_par (G : Good F cl c X) {ts vs : List Expr} {is : List Nat} {es : E} {kt kv : Nat} {pt pv p : Pos} (h : parOk c ts vs is = true) (hL : chkL c vs es = true) (ha : PAs F cl X Wx vs es) : PSt F cl X Wx (.Assign [.Tuple ts kt pt] (.Tuple vs kv pv) p) (.par is es) := by
  have hh := h
  unfold parOk at h
  simp only [Bool.and_eq_true] at h
  obtain ⟨⟨⟨h1, h2⟩, h3⟩, h4⟩ := h
  simp only [Bool.not_eq_true'] at h3 h4
  have hbk : X.env.blockKind = .function := by unfold PySem.Env.blockKind; rw [G.kind]; rfl
  have hlen : ts.length = vs.length := by simpa using h1
  have ndN : X.N.Nodup := by rw [G.hN]; exact G.nd
  have neN : ∀ {i j : Nat} {x y : Str}, c.N[i]? = some x → c.N[j]? = some y → (i == j) = false → x ≠ y := fun {i j x y} e1 e2 hij z => by
    subst z
    have := nodup_ix G.nd e1 e2
    subst this
    simp at hij
  split at h2
  · rename_i x px y py i j
    simp only [Bool.and_eq_true, decide_eq_true_eq, Bool.not_eq_true', beq_iff_eq] at h2
    obtain ⟨⟨⟨⟨⟨k1, k2⟩, k3⟩, k4⟩, k5⟩, k6⟩ := h2
    have kx : X.env.kindOf x = some .local := by show X.env.scope.names.lookup x = _; rw [G.names]; exact k3
    have ky : X.env.kindOf y = some .local := by show X.env.scope.names.lookup y = _; rw [G.names]; exact k4
    have hxy : x ≠ y := neN k1 k2 k6
    match vs, hlen with
    | [a, b], _ =>
      obtain ⟨na, b1, hL1⟩ := chkL_ns hL
      obtain ⟨nb, _⟩ := chkL_ns hL1
      have hw := swapped2 (kt := kt) (kv := kv) (pt := pt) (pv := pv) (px := px) (py := py) hbk kx ky k5 hxy na nb h3 h4
      refine ps_imp (ps_par G.calm ndN (by rw [G.hN]; exact k1) (by rw [G.hN]; exact k2) (by simpa using k6) kx ky ha hw rfl) ?_
      rintro D σ H ⟨W, r, m, d, hs, hr, hw, k⟩
      refine TAof.bind hs hr hw (k.x0 hs hr) ?_
      rintro W1 ws xs m1 H1 x1 rvs hr1 hs1 hx1 ⟨r1, et, q⟩
      cases rvs with
      | nil => simp [setAll] at et
      | cons r1 t1 => cases t1 with
        | nil => simp [setAll] at et
        | cons r2 t2 => cases t2 with
          | cons _ _ => simp [setAll] at et
          | nil =>
            cases et
            exact ⟨_, _, rfl, k.nx _ _ _ _ _ x1 ((hs1.set r1 i).set r2 j) hr1 q⟩
  · rename_i x px y py z pz i j l
    simp only [Bool.and_eq_true, decide_eq_true_eq, Bool.not_eq_true', beq_iff_eq] at h2
    obtain ⟨⟨⟨⟨⟨⟨⟨⟨⟨⟨k1, k2⟩, k3⟩, k4⟩, k5⟩, k6⟩, k7⟩, k8⟩, k9⟩, ka⟩, kb⟩ := h2
    have kx : X.env.kindOf x = some .local := by show X.env.scope.names.lookup x = _; rw [G.names]; exact k4
    have ky : X.env.kindOf y = some .local := by show X.env.scope.names.lookup y = _; rw [G.names]; exact k5
    have kz : X.env.kindOf z = some .local := by show X.env.scope.names.lookup z = _; rw [G.names]; exact k6
    match vs, hlen with
    | [a, b, e], _ =>
      obtain ⟨na, b1, hL1⟩ := chkL_ns hL
      obtain ⟨nb, b2, hL2⟩ := chkL_ns hL1
      obtain ⟨ne, _⟩ := chkL_ns hL2
      have hw := swapped3 (kt := kt) (kv := kv) (pt := pt) (pv := pv) (px := px) (py := py) (pz := pz) hbk kx ky kz k7 k8 (neN k1 k2 k9) (neN k1 k3 ka) (neN k2 k3 kb) na nb ne h3 h4
      refine ps_imp (ps_par3 G.calm ndN (by rw [G.hN]; exact k1) (by rw [G.hN]; exact k2) (by rw [G.hN]; exact k3) (by simpa using k9) (by simpa using ka) (by simpa using kb) kx ky kz ha hw rfl) ?_
      rintro D σ H ⟨W, r, m, d, hs, hr, hw, k⟩
      refine TAof.bind hs hr hw (k.x0 hs hr) ?_
      rintro W1 ws xs m1 H1 x1 rvs hr1 hs1 hx1 ⟨r1, et, q⟩
      cases rvs with
      | nil => simp [setAll] at et
      | cons r1 t1 => cases t1 with
        | nil => simp [setAll] at et
        | cons r2 t2 => cases t2 with
          | nil => simp [setAll] at et
          | cons r3 t3 => cases t3 with
            | cons _ _ => simp [setAll] at et
            | nil =>
              cases et
              exact ⟨_, _, _, rfl, k.nx _ _ _ _ _ x1 (((hs1.set r1 i).set r2 j).set r3 l) hr1 q⟩
  · cases h2
theorem pgs_star (G : Good F cl c X) : ∀ {es : List Expr} {is : List Nat} {j : Nat}, chkStar c es is j = true → PGs X es (gsOf (is ++ [j])) ∧ (assignEach es X.env).length = is.length + 1 ∧ (assignEach es X.env).findIdx? (·.1) = some is.length := by
  intro es is
  induction is generalizing es with
  | nil =>
    intro j h
    unfold chkStar at h
    split at h
    · exact ⟨pgs_last (G.pg h), rfl, rfl⟩
    · rename_i e; cases e
    · cases h
  | cons i is ih =>
    intro j h
    unfold chkStar at h
    split at h
    · rename_i e; cases e
    · rename_i x p r i' is' e
      cases e
      simp only [Bool.and_eq_true] at h
      obtain ⟨h1, h2, h3⟩ := ih h.2
      refine ⟨pgs_cons (G.pg h.1) h1 rfl, ?_, ?_⟩
      · show (assignEach r X.env).length + 1 = _
        rw [h2]; rfl
      · show ((false, assign (.Name x p) X.env) :: assignEach r X.env).findIdx? (·.1) = _
        rw [List.findIdx?_cons]
        simp [h3]
    · cases h
theorem setAll_okN {K : Frag} {W : Wd} {H : Hp} {is : List Nat} {vs : List Val} {xs : List V} {r r' : Env} {σ : St} {Q : St → Hp → Prop} (hs : SR K W H r σ) (rv : RVs K W H vs xs) (e : setAll is vs r = some r') (k : ∀ σ', SR K W H r' σ' → Q σ' H) : gsOf is xs σ H Q :=
  setAll_ok hs rv e fun σ' h _ => k σ' h
theorem st_asgStar (G : Good F cl c X) {ts : List Expr} {x : Expr} {is : List Nat} {j : Nat} {e : E} {kt : Nat} {pt p : Pos} (h1 : chkStar c ts is j = true) (h2 : notComp x = true) (h3 : notTup x = true) (he : PEs F cl X Wx x e) : PSt F cl X Wx (.Assign [.Tuple ts kt pt] x p) (.asgStar is j e) := by
  obtain ⟨g1, g2, g3⟩ := pgs_star G h1
  refine ps_imp (ps_asg he (pg_star G.calm g1 g2 g3) (swap_no h2 (some (.Tuple ts kt pt)) p.line X.env) (by cases x <;> first | rfl | cases h3) rfl) ?_
  rintro D σ H ⟨W, r, m, d, hs, hr, hw, k⟩
  refine TEof.bind hs hr hw (k.x0 hs hr) ?_
  rintro W1 v x m1 H1 e1 rv hr1 hs1 hx1 ⟨vs, hv, hl, r1, et, q⟩
  obtain ⟨kd, a, xs, rfl, sq, rx, _⟩ := sq_G hr1 rv hv
  refine ⟨kd, a, xs, rfl, sq, by rw [← rx.length]; exact hl, fun p hp => ?_⟩
  obtain ⟨e2, hr2, rl⟩ := new_il hr1 hp (rx.drop is.length)
  have rt : RVs X.K (W1.withI p) (upd H1 p (.lst (xs.drop is.length))) (vs.take is.length ++ [.il true (vs.drop is.length)]) (xs.take is.length ++ [.ref p]) := ((rx.take _).mono hr1 e2).append (.cons rl .nil)
  exact setAll_okN (hs1.mono hr1 e2) rt et fun σ' hs' => k.nx _ _ _ _ _ (e1.trans e2) hs' hr2 q
theorem st_setIx {x y z : Expr} {o i e : E} {p p2 : Pos} (h1 : notSlice y = true) (h2 : notComp z = true) (ho : PEs F cl X Wx x o) (hi : PEs F cl X Wx y i) (he : PEs F cl X Wx z e) : PSt F cl X Wx (.Assign [.Subscript x y p2] z p) (.setIx o i e) := by
  refine ps_imp (ps_asg he (pg_sub ho hi set_list (fun v => ?_)) (swap_no h2 (some (.Subscript x y p2)) p.line X.env) rfl rfl) ?_
  · cases y <;> first | rfl | cases h1
  rintro D σ H ⟨W, r, m, d, hs, hr, hw, k⟩
  have kx := k.x0 hs hr
  refine TEof.bind hs hr hw kx ?_
  rintro W1 v xv m1 H1 x1 rv hr1 hs1 hx1 hw1
  refine TEof.bind hs1 hr1 hw1 hx1 ?_
  rintro W2 ov xo m2 H2 x2 ro hr2 hs2 hx2 hw2
  refine TEof.bind hs2 hr2 hw2 hx2 ?_
  rintro W3 iv xi m3 H3 x3 ri hr3 hs3 hx3 q
  unfold setW at q
  split at q
  · obtain ⟨vs, j, e1, e2, q⟩ := q
    cases ro with
    | loc q0 =>
      have q0' := phi_keep x3 q0
      rw [ri.int_inv]
      obtain ⟨ys, q1, r1⟩ := loc_at hr3 q0' e1
      have rv3 := (rv.mono hr1 x2).mono hr2 x3
      obtain ⟨ex, h4⟩ := set_loc hr3 e1 q0' (r1.set rv3 j)
      exact ⟨_, ys, _, j, rfl, rfl, q1, by rw [← r1.length]; exact e2, k.nx _ _ _ _ _ (((x1.trans x2).trans x3).trans ex) (hs3.mono hr3 ex) h4 q⟩
  · exact q.elim
theorem st_ite {x : Expr} {y z : List Stmt} {t : E} {a b : S} {p : Pos} (ht : PTs' F cl X Wx x t) (ha : PSts F cl X Wx y a) (hb : PSts F cl X Wx z b) : PSt F cl X Wx (.If x y z p) (.ite t a b) := by
  refine ps_imp (ps_if ht ha hb) ?_
  rintro D σ H ⟨W, r, m, d, hs, hr, hw, k⟩
  refine TTof.bind hs hr hw (k.x0 hs hr) ?_
  rintro W1 b m1 H1 x1 hr1 hs1 hx1 q
  cases b with
  | true => rw [if_pos rfl] at q ⊢; exact ⟨W1, r, m1, d, hs1, hr1, q, k.mono x1⟩
  | false => rw [if_neg Bool.false_ne_true] at q ⊢; exact ⟨W1, r, m1, d, hs1, hr1, q, k.mono x1⟩
theorem st_loop (G : GoodS F cl c X) {t it : Expr} {bd : List Stmt} {tg : Tg} {ik : IK} {e1 e2 : E} {body : S} {p : Pos} (h1 : chkTg c t tg = true) (h2 : notSet it = true) (hi : PI X t it (TIof X.K cl Wx (wpI F ik e1 e2))) (hb : PSts F cl X Wx bd body) :
    PSt F cl X Wx (.For t it bd [] p) (.loop tg ik e1 e2 body) := by
  refine ps_imp (ps_for G.po G.calm hi (g_of G.toGood h1) hb (fold_of h2 X.env)) ?_
  rintro D σ H ⟨W, r, m, d, hs, hr, hw, k⟩
  refine ⟨W, r, m, _, d.rx r, hs, hr, hw, ?_, k.x0 hs hr⟩
  intro W1 items live m1 H1 J x1 hr1 hs1 hx1 wk hl
  refine ⟨fun i n σ' H' => n = items.length - i ∧ i ≤ items.length ∧ ∃ W' r' m', Ext W1 H1 W' H' ∧ HR X.K W' m' H' ∧ SR X.K W' H' r' σ' ∧
    forW live (fun x r m nx => ∃ r1, tgF tg x r = some r1 ∧ wpS F body r1 m { d with nx := nx, ct := nx, bk := d.nx }) d.nx (items.drop i) r' m', ⟨items.length, rfl, Nat.zero_le _, W1, r, m1, .refl hr1, hr1, hs1, hl⟩, ?_⟩
  rintro i n σ' H' ⟨rfl, hi, W', r', m', x2, hr2, hs2, hl2⟩
  by_cases hil : i < items.length
  · refine .inr ?_
    have ed : items.drop i = items[i] :: items.drop (i + 1) := List.drop_eq_getElem_cons hil
    rw [ed] at hl2
    obtain ⟨lv, r1, et, hw2⟩ := hl2
    obtain ⟨_, wg⟩ := wk W' m' H' x2 hr2 lv
    obtain ⟨go, yl⟩ := wg i items[i] (List.getElem?_eq_getElem hil)
    refine ⟨go, fun σ'' H'' => i + 1 ≤ items.length ∧ ∃ W' r' m', Ext W1 H1 W' H'' ∧ HR X.K W' m' H'' ∧ SR X.K W' H'' r' σ'' ∧
      forW live (fun x r m nx => ∃ r1, tgF tg x r = some r1 ∧ wpS F body r1 m { d with nx := nx, ct := nx, bk := d.nx }) d.nx (items.drop (i + 1)) r' m', fun σ'' H'' q => ⟨_, by omega, rfl, q⟩, ?_⟩
    intro x H3 hy
    obtain ⟨W3, x3, hr3, rv3⟩ := yl x H3 hy
    refine ⟨W3, r', m', items[i], r1, hs2.mono hr2 x3, hr3, rv3, et, fun σ2 hs4 _ => ?_⟩
    have k3 := k.mono ((x1.trans x2).trans x3)
    refine ⟨W3, r1, m', _, hs4, hr3, hw2, ⟨?_, k3.rt, k3.nx, ?_, k3.rx⟩⟩
    · intro W5 r5 m5 σ5 H5 x5 hs5 hr5 q
      exact ⟨hil, W5, r5, m5, (x2.trans x3).trans x5, hr5, hs5, q⟩
    · intro W5 r5 m5 σ5 H5 x5 hs5 hr5 q
      exact ⟨hil, W5, r5, m5, (x2.trans x3).trans x5, hr5, hs5, q⟩
  · refine .inl ?_
    have ed : items.drop i = [] := List.drop_eq_nil_of_le (by omega)
    rw [ed] at hl2
    obtain ⟨lv, q⟩ := hl2
    obtain ⟨ws, _⟩ := wk W' m' H' x2 hr2 lv
    exact ⟨ws i (by omega), k.nx _ _ _ _ _ (x1.trans x2) hs2 hr2 q⟩
theorem st_whil (G : GoodS F cl c X) {x : Expr} {bd : List Stmt} {t : E} {body : S} {p : Pos} (ht : PTs' F cl X Wx x t) (hb : PSts F cl X Wx bd body) : PSt F cl X Wx (.While x bd [] p) (.whil t body) := by
  refine ps_imp (ps_while G.po ht hb) ?_
  rintro D σ H ⟨W, r, m, d, hs, hr, ⟨I, ⟨n0, h0⟩, hI⟩, k⟩
  refine ⟨fun n σ' H' => ∃ W' r' m', Ext W H W' H' ∧ HR X.K W' m' H' ∧ SR X.K W' H' r' σ' ∧ I n r' m', ⟨n0, W, r, m, .refl hr, hr, hs, h0⟩, ?_⟩
  rintro n σ' H' ⟨W', r', m', x1, hr1, hs1, hi⟩
  refine TTof.bind hs1 hr1 (hI n r' m' hi) (k.rx _ _ _ _ _ x1 hs1 hr1) ?_
  rintro W2 b m2 H2 x2 hr2 hs2 hx2 q
  cases b with
  | false => rw [if_neg Bool.false_ne_true] at q ⊢; exact k.nx _ _ _ _ _ (x1.trans x2) hs2 hr2 q
  | true =>
    rw [if_pos rfl] at q ⊢
    have k3 := k.mono (x1.trans x2)
    refine ⟨fun σ'' H'' => ∃ n', n' < n ∧ ∃ W' r' m', Ext W H W' H'' ∧ HR X.K W' m' H'' ∧ SR X.K W' H'' r' σ'' ∧ I n' r' m', fun σ'' H'' ⟨n', hn, q⟩ => ⟨n', hn, q⟩, W2, r', m2, _, hs2, hr2, q, ⟨?_, k3.rt, k3.nx, ?_, k3.rx⟩⟩
    · rintro W5 r5 m5 σ5 H5 x5 hs5 hr5 ⟨n', hn, q⟩
      exact ⟨n', hn, W5, r5, m5, (x1.trans x2).trans x5, hr5, hs5, q⟩
    · rintro W5 r5 m5 σ5 H5 x5 hs5 hr5 ⟨n', hn, q⟩
      exact ⟨n', hn, W5, r5, m5, (x1.trans x2).trans x5, hr5, hs5, q⟩
theorem st_raise (G : Good F cl c X) (tk : Takes X Wx) {x : Str} {y : Expr} {k : Nat} {e : E} {p p2 p3 : Pos} (h1 : isGl c x = true) (h2 : c.cls.lookup x = some k) (h3 : k < 100) (h4 : noStar y = true) (he : PEs F cl X Wx y e) :
    PSt F cl X Wx (.Raise (some (.Call (.Name x p) [y] [] p2)) none p3) (.raise k e) := by
  obtain ⟨g1, g2⟩ := G.gl_of h1
  obtain ⟨hm, hok⟩ := G.st.cls x k h2
  obtain ⟨GG, hps, hG⟩ := ps_raiseE (p := p) (pos := p2) (pos' := p3) G.calm G.room tk (G.st.rai x k h2 h3) g1 hm g2 he (star_of h4)
  refine ps_imp hps ?_
  rintro D σ H ⟨W, r, m, d, hs, hr, hw, kk⟩
  refine TEof.bind hs hr hw (kk.x0 hs hr) ?_
  rintro W1 v x m1 H1 e1 rv hr1 hs1 hx1 q
  refine hG _ _ _ fun dd hd => ?_
  obtain ⟨e2, hr2⟩ := new_other hr1 hd (.xd [("value", x)])
  exact hx1 W1 k v x dd m1 _ e2 (rv.mono hr1 e2) hr2 ⟨hok, h3⟩ upd_same q
theorem putF_zip {f : Str} {y : V} : ∀ {fs : List Str} {xs : List V}, fs.length = xs.length → putF f y (fs.zip xs) = (putFs f fs).zip (putVs f y fs xs) ∧ (putFs f fs).length = (putVs f y fs xs).length
  | [], [], _ => ⟨rfl, rfl⟩
  | [], _ :: _, h => by simp at h
  | _ :: _, [], h => by simp at h
  | g :: fs, x :: xs, h => by
    obtain ⟨a, b⟩ := putF_zip (f := f) (y := y) (fs := fs) (xs := xs) (by simpa using h)
    simp only [List.zip_cons_cons, putF, putFs, putVs]
    by_cases hg : g = f
    · simp only [hg, if_true, List.zip_cons_cons]
      exact ⟨trivial, by simpa using h⟩
    · simp only [hg, if_false, List.zip_cons_cons, a]
      exact ⟨trivial, by simp [b]⟩
theorem putVs_rel {K : Frag} {W : Wd} {H : Hp} {f : Str} {v : Val} {y : V} (r : RV K W H v y) : ∀ {fs : List Str} {us : List Val} {xs : List V}, RVs K W H us xs → RVs K W H (putVs f v fs us) (putVs f y fs xs)
  | [], _, _, _ => .cons r .nil
  | _ :: _, _, _, .nil => .cons r .nil
  | g :: fs, _, _, .cons a t => by
    simp only [putVs]
    by_cases hg : g = f
    · simp only [hg, if_true]; exact .cons r t
    · simp only [hg, if_false]; exact .cons a (putVs_rel r t)
theorem st_setA (G : Good F cl c X) {y z : Expr} {f : Str} {o e : E} {p p2 : Pos} (h1 : c.ats.contains f = true) (h2 : notComp z = true) (ho : PEs F cl X Wx y o) (he : PEs F cl X Wx z e) : PSt F cl X Wx (.Assign [.Attribute y f p2] z p) (.setA f o e) := by
  refine ps_imp (ps_fld ho he (swap_no h2 _ _ _)) ?_
  rintro D σ H ⟨W, r, m, d, hs, hr, hw, k⟩
  have kx := k.x0 hs hr
  refine TEof.bind hs hr hw kx ?_
  rintro W1 v xv m1 H1 x1 rv hr1 hs1 hx1 hw1
  refine TEof.bind hs1 hr1 hw1 hx1 ?_
  rintro W2 ov xo m2 H2 x2 ro hr2 hs2 hx2 q
  unfold setAW at q
  split at q
  · obtain ⟨kc, fs, us, hm, hl, q⟩ := q
    cases ro with
    | loc q0 =>
      obtain ⟨dx, xs, hh, hok, hlen, rr⟩ := inst_at hr2 q0 hm
      have rv2 := rv.mono hr1 x2
      obtain ⟨a1, a2⟩ := putF_zip (f := f) (y := xv) hlen
      obtain ⟨ex, h4⟩ := set_ob (u := .ins (cl kc) dx (putF f xv (fs.zip xs))) (o := .inst kc (putFs f fs) (putVs f v fs us)) hr2 hm q0 fun e => ⟨dx, putVs f xv fs xs, by rw [upd_same, a1], hok, a2, (putVs_rel rv2 rr).mono hr2 e⟩
      refine ⟨_, _, dx, _, rfl, hh, (G.st.cf.own _ hok.1 hok.2).1, G.st.ats f h1 _ hok, by simp; omega, ?_⟩
      exact k.nx _ _ _ _ _ ((x1.trans x2).trans ex) (hs2.mono hr2 ex) h4 q
  · exact q.elim
theorem GoodS.tr (G : GoodS F cl c X) (pn : List (Addr × Obj)) (xe : Value → Shared → Prop) (po : PassesOwn (model X.prog X.w) X.A X.env xe) : GoodS F cl c (X.tr pn xe) :=
  ⟨⟨G.hN, G.nd, G.kind, G.names, G.top, G.calm, G.guards, G.room, G.st, G.fna⟩, G.stk, G.frm, G.exn, po⟩
theorem st_tryK (G : GoodS F cl c X) (tk : Takes X Wx) {x n y : Str} {bd : List Stmt} {body : S} {k i j : Nat} {np p1 p2 p3 p4 p5 : Pos} (h1 : isGl c x = true) (h2 : c.cls.lookup x = some k) (h3 : k < 100) (h4 : c.N[i]? = some n) (h5 : c.names.lookup n = some .local) (h6 : plainName n = true)
    (h7 : c.N[j]? = some y) (h8 : c.names.lookup y = some .local) (hij : (i == j) = false)
    (hb : ∀ (Wx' : WX) (pn : List (Addr × Obj)) (xe : Value → Shared → Prop), Takes (X.tr pn xe) Wx' → PassesOwn (model X.prog X.w) X.A X.env xe → PSts F cl (X.tr pn xe) Wx' bd body) :
    PSt F cl X Wx (.Try bd [.ExceptHandler (some (.Name x np)) (some n) [.Assign [.Name y p1] (.Name n p2) p3] p4] [] [] p5) (.tryK body k i j) := by
  obtain ⟨g1, g2⟩ := G.toGood.gl_of h1
  obtain ⟨hm, hok⟩ := G.st.cls x k h2
  have hN : X.N.Nodup := by rw [G.hN]; exact G.nd
  have hi : X.N[i]? = some n := by rw [G.hN]; exact h4
  have hj : X.N[j]? = some y := by rw [G.hN]; exact h7
  have hln : X.env.kindOf n = some .local := by show X.env.scope.names.lookup n = _; rw [G.names]; exact h5
  have hly : X.env.scope.names.lookup y = some .local := by rw [G.names]; exact h8
  unfold plainName at h6
  simp only [Bool.and_eq_true, Bool.not_eq_true'] at h6
  have suite : ∀ (a : Addr) (pn : List (Addr × Obj)), PSs (X.suite a pn) [.Assign [.Name y p1] (.Name n p2) p3] (tSeq (tAsg (tVar i) (gName j)) tNext) := fun a pn =>
    pss_cons (ps_asg (pe_var hi (.inl hln) h6.1 h6.2) (pg_name hN hj (.inl hly) (.inr hly))) pss_nil
  refine ps_imp (DyX.ps_try_err (tb := fun W => TSof X.K cl W (wpS F body)) G.stk G.frm G.exn hN hi hln ⟨g1, g2, .inl hm⟩ tk hb suite) ?_
  rintro D σ H ⟨W, r, m, d, hs, hr, hw, kk⟩
  refine ⟨W, r, m, _, hs, hr, hw, ⟨kk.nx, kk.rt, kk.bk, kk.ct, ?_⟩⟩
  intro W1 r1 m1 σ1 H1 e1 hs1 hr1 W2 ce v xv dd m2 H2 e2 rv hr2 hoe hd q
  refine ⟨subN ce k, G.st.cf.exm ce k hoe ⟨hok, h3⟩, fun hb => ⟨_, dd, rfl, rfl, fun a ha => ?_⟩, fun hb => ?_⟩
  · have q' : i < r1.length ∧ d.nx ((r1.set j (some (.err ce v))).set i none) m2 := by
      have z := q
      simp only [hb, if_true] at z
      exact z
    obtain ⟨hil, q'⟩ := q'
    obtain ⟨e3, hr3⟩ := new_other hr2 ha (DyX.errO a (cl ce) dd)
    have hs3 : SR X.K W2 (upd H2 a (DyX.errO a (cl ce) dd)) r1 σ1 := (hs1.mono hr1 e2).mono hr2 e3
    have rv3 : RV X.K W2 (upd H2 a (DyX.errO a (cl ce) dd)) (.err ce v) (.ref a) := .err hoe upd_same (by rw [upd_ne (ne_of_none hd ha)]; exact hd) (rv.mono hr2 e3)
    refine ⟨.ref a, ?_, ?_⟩
    · rw [List.getElem?_set_self (by rw [← hs3.len]; exact hil)]
    · have hs4 := ((hs3.set rv3 i).set rv3 j).wipe [i]
      have e4 : wipeE ((r1.set i (some (.err ce v))).set j (some (.err ce v))) [i] = (r1.set j (some (.err ce v))).set i none := by
        have hne : i ≠ j := fun z => by subst z; simp at hij
        show (((r1.set i (some (.err ce v))).set j (some (.err ce v))).set i none) = _
        rw [List.set_comm (some (Val.err ce v)) (some (Val.err ce v)) hne, List.set_set]
      rw [e4] at hs4
      exact kk.nx _ _ _ _ _ ((e1.trans e2).trans e3) hs4 hr3 q'
  · have q' : d.rx r1 ce v m2 := by
      have z := q
      simp only [hb, Bool.false_eq_true, if_false] at z
      exact z
    exact kk.rx W1 r1 m1 σ1 H1 e1 hs1 hr1 W2 ce v xv dd m2 H2 e2 rv hr2 hoe hd q'
theorem sts_nil : PSts F cl X Wx [] .nil := by
  refine pss_imp pss_nil ?_
  rintro D σ H ⟨W, r, m, d, hs, hr, hw, k⟩
  exact k.nx _ _ _ _ _ (.refl hr) hs hr hw
theorem sts_cons {st : Stmt} {sts : List Stmt} {a b : S} (ha : PSt F cl X Wx st a) (hb : PSts F cl X Wx sts b) : PSts F cl X Wx (st :: sts) (.cons a b) := by
  refine pss_imp (pss_cons ha hb) ?_
  rintro D σ H ⟨W, r, m, d, hs, hr, hw, k⟩
  refine ⟨W, r, m, _, hs, hr, hw, ⟨?_, k.rt, k.bk, k.ct, k.rx⟩⟩
  intro W1 r1 m1 σ1 H1 x1 hs1 hr1 q
  exact ⟨W1, r1, m1, d, hs1, hr1, q, k.mono x1⟩
/-! ### all statements at once -/
structure SoundS (F : Nat → FS) (cl : Cls) (a : S) : Prop where
  s : ∀ (c : Cc) (X : Cx) (Wx : WX) (st : Stmt), GoodS F cl c X → Takes X Wx → chkS c st a = true → PSt F cl X Wx st a
  ss : ∀ (c : Cc) (X : Cx) (Wx : WX) (sts : List Stmt), GoodS F cl c X → Takes X Wx → chkSs c sts a = true → PSts F cl X Wx sts a
theorem SoundS.only {a : S} (e : ∀ (c : Cc) (X : Cx) (Wx : WX) (st : Stmt), GoodS F cl c X → Takes X Wx → chkS c st a = true → PSt F cl X Wx st a) (hl : ∀ c es, chkSs c es a = false) : SoundS F cl a :=
  ⟨e, fun c X Wx es _ _ h => absurd h (by rw [hl]; decide)⟩
theorem soundS : ∀ a : S, SoundS F cl a := by
  intro a
  induction a with
  | nil =>
    refine ⟨fun c X Wx st G tk h => by simp [chkS] at h, fun c X Wx sts G tk h => ?_⟩
    cases sts with
    | nil => exact sts_nil
    | cons _ _ => simp [chkSs] at h
  | cons a b ia ib =>
    refine ⟨fun c X Wx st G tk h => by simp [chkS] at h, fun c X Wx sts G tk h => ?_⟩
    cases sts with
    | nil => simp [chkSs] at h
    | cons st r =>
      simp only [chkSs, Bool.and_eq_true] at h
      exact sts_cons (ia.s c X Wx st G tk h.1) (ib.ss c X Wx r G tk h.2)
  | expr e =>
    refine .only (fun c X Wx st G tk h => ?_) fun _ _ => by simp [chkSs]
    unfold chkS at h
    split at h
    · simp only [Bool.and_eq_true] at h
      exact st_expr h.1 ((sound e).e c X Wx _ G.toGood tk h.2).1
    · cases h
  | ret e =>
    refine .only (fun c X Wx st G tk h => ?_) fun _ _ => by simp [chkSs]
    unfold chkS at h
    split at h
    · exact st_ret ((sound e).e c X Wx _ G.toGood tk h).1
    · cases h
  | retN =>
    refine .only (fun c X Wx st G tk h => ?_) fun _ _ => by simp [chkSs]
    unfold chkS at h
    split at h
    · exact st_retN
    · cases h
  | asg tg e =>
    refine .only (fun c X Wx st G tk h => ?_) fun _ _ => by simp [chkSs]
    unfold chkS at h
    split at h
    · rename_i t x p
      simp only [Bool.and_eq_true, Bool.or_eq_true] at h
      obtain ⟨⟨h1, h2⟩, h3 | h3⟩ := h
      · exact st_asg G.toGood h1 h3.1 (by simpa [or_assoc] using h3.2) ((sound e).e c X Wx _ G.toGood tk h2).1
      · split at h3
        · rename_i y py
          have hx : ∃ el gens sc ps, x = .ListComp el gens sc ps := by
            cases x <;> simp [compLine] at h3
            exact ⟨_, _, _, _, rfl⟩
          obtain ⟨el, gens, sc, ps, rfl⟩ := hx
          cases tg with
          | tup is => simp [chkTg] at h1
          | name i =>
            cases e <;> simp only [chk] at h2 <;> first | cases h2 | (rename_i op _ _ _; cases op <;> cases h2) | skip
            rename_i mu own tg ik e1 e2 cond elt
            split at h2
            · rename_i y' t it ifs as scope p' heq
              cases heq
              simp only [Bool.and_eq_true, decide_eq_true_eq] at h2
              obtain ⟨⟨⟨⟨⟨⟨⟨k0, k1⟩, k2⟩, k3⟩, k4⟩, k5⟩, k6⟩, k7⟩ := h2
              subst k0
              refine st_asgLc G.toGood (by simpa [chkTg] using h1) h3 k1 k2 k3 k5 (it_of G.toGood tk (sound e1) (sound e2) k4) (fun X' _ G' tk' => ?_) fun X' _ G' tk' => ((sound elt).e _ X' _ _ G' tk' k7).1
              unfold chkC at k6
              split at k6
              · rw [yes_of k6]
                refine pts_imp pts_nil ?_
                rintro σ H Q ⟨W, r', m, Qd, R, hs, hr, ⟨t, et, q⟩, hc, hx⟩
                cases et
                exact hc W true m H (.refl hr) hr q
              · exact pts_one ((sound cond).e _ X' _ _ G' tk' k6).2
              · cases k6
            · cases h2
        · cases h3
    · cases h
  | par is es =>
    refine .only (fun c X Wx st G tk h => ?_) fun _ _ => by simp [chkSs]
    unfold chkS at h
    split at h
    · simp only [Bool.and_eq_true] at h
      exact st_par G.toGood h.1 h.2 ((sound es).l c X Wx _ G.toGood tk h.2)
    · cases h
  | asgStar is j e =>
    refine .only (fun c X Wx st G tk h => ?_) fun _ _ => by simp [chkSs]
    unfold chkS at h
    split at h
    · simp only [Bool.and_eq_true] at h
      obtain ⟨⟨⟨h1, h2⟩, h3⟩, h4⟩ := h
      exact st_asgStar G.toGood h1 h2 h3 ((sound e).e c X Wx _ G.toGood tk h4).1
    · cases h
  | setIx o i e =>
    refine .only (fun c X Wx st G tk h => ?_) fun _ _ => by simp [chkSs]
    unfold chkS at h
    split at h
    · simp only [Bool.and_eq_true] at h
      obtain ⟨⟨⟨⟨h1, h2⟩, h3⟩, h4⟩, h5⟩ := h
      exact st_setIx h1 h2 ((sound o).e c X Wx _ G.toGood tk h3).1 ((sound i).e c X Wx _ G.toGood tk h4).1 ((sound e).e c X Wx _ G.toGood tk h5).1
    · cases h
  | ite t a b ia ib =>
    refine .only (fun c X Wx st G tk h => ?_) fun _ _ => by simp [chkSs]
    unfold chkS at h
    split at h
    · simp only [Bool.and_eq_true] at h
      obtain ⟨⟨h1, h2⟩, h3⟩ := h
      exact st_ite ((sound t).e c X Wx _ G.toGood tk h1).2 (ia.ss c X Wx _ G tk h2) (ib.ss c X Wx _ G tk h3)
    · cases h
  | loop tg ik e1 e2 body ib =>
    refine .only (fun c X Wx st G tk h => ?_) fun _ _ => by simp [chkSs]
    unfold chkS at h
    split at h
    · simp only [Bool.and_eq_true] at h
      obtain ⟨⟨⟨h1, h2⟩, h3⟩, h4⟩ := h
      exact st_loop G h1 h2 (it_of G.toGood tk (sound e1) (sound e2) h3) (ib.ss c X Wx _ G tk h4)
    · cases h
  | whil t body ib =>
    refine .only (fun c X Wx st G tk h => ?_) fun _ _ => by simp [chkSs]
    unfold chkS at h
    split at h
    · simp only [Bool.and_eq_true] at h
      exact st_whil G ((sound t).e c X Wx _ G.toGood tk h.1).2 (ib.ss c X Wx _ G tk h.2)
    · cases h
  | raise k e =>
    refine .only (fun c X Wx st G tk h => ?_) fun _ _ => by simp [chkSs]
    unfold chkS at h
    split at h
    · simp only [Bool.and_eq_true, decide_eq_true_eq] at h
      obtain ⟨⟨⟨⟨h1, h2⟩, h3⟩, h4⟩, h5⟩ := h
      exact st_raise G.toGood tk h1 h2 h3 h4 ((sound e).e c X Wx _ G.toGood tk h5).1
    · cases h
  | setA f o e =>
    refine .only (fun c X Wx st G tk h => ?_) fun _ _ => by simp [chkSs]
    unfold chkS at h
    split at h
    · simp only [Bool.and_eq_true] at h
      obtain ⟨⟨⟨⟨h1, h2⟩, h3⟩, h4⟩, h5⟩ := h
      rw [eq_of_beq h1]
      exact st_setA G.toGood h2 h3 ((sound o).e c X Wx _ G.toGood tk h4).1 ((sound e).e c X Wx _ G.toGood tk h5).1
    · cases h
  | tryK body k i j ib =>
    refine .only (fun c X Wx st G tk h => ?_) fun _ _ => by simp [chkSs]
    unfold chkS at h
    split at h
    · simp only [Bool.and_eq_true, decide_eq_true_eq, Bool.not_eq_true'] at h
      obtain ⟨⟨⟨⟨⟨⟨⟨⟨⟨⟨h1, h2⟩, h3⟩, h4⟩, h5⟩, h6⟩, h7⟩, h8⟩, h9⟩, ha⟩, hb⟩ := h
      rw [← eq_of_beq h4]
      exact st_tryK G tk h1 h2 h3 h5 h6 h7 h8 h9 ha fun Wx' pn xe tk' po => ib.ss c (X.tr pn xe) Wx' _ (G.tr pn xe po) tk' hb
    · cases h
  | pass =>
    refine .only (fun c X Wx st G tk h => ?_) fun _ _ => by simp [chkSs]
    unfold chkS at h
    split at h
    · refine ps_imp ps_pass ?_
      rintro D σ H ⟨W, r, m, d, hs, hr, hw, k⟩
      exact k.nx _ _ _ _ _ (.refl hr) hs hr hw
    · cases h
  | brk =>
    refine .only (fun c X Wx st G tk h => ?_) fun _ _ => by simp [chkSs]
    unfold chkS at h
    split at h
    · refine ps_imp ps_break ?_
      rintro D σ H ⟨W, r, m, d, hs, hr, hw, k⟩
      exact k.bk _ _ _ _ _ (.refl hr) hs hr hw
    · cases h
  | cont =>
    refine .only (fun c X Wx st G tk h => ?_) fun _ _ => by simp [chkSs]
    unfold chkS at h
    split at h
    · refine ps_imp ps_continue ?_
      rintro D σ H ⟨W, r, m, d, hs, hr, hw, k⟩
      exact k.ct _ _ _ _ _ (.refl hr) hs hr hw
    · cases h
  | never =>
    exact ⟨fun c X Wx st G tk h => ps_imp ps_never (by rintro D σ H ⟨W, r, m, d, hs, hr, hw, k⟩; exact hw), fun c X Wx st G tk h => pss_imp pss_never (by rintro D σ H ⟨W, r, m, d, hs, hr, hw, k⟩; exact hw)⟩
end
end Dy

/-! Dp, part K: defs from their bodies; the end of a law. -/
namespace Dy
open PySem PySem.Spec PyProof.Rows L2
variable [Kx]
/-! ### what names no object beyond n -/
mutual
def cV (n : Nat) : Val → Bool
  | .loc k => decide (k < n)
  | .tup vs => cVs n vs
  | .il _ vs => cVs n vs
  | .err _ v => cV n v
  | .dic _ vs => cVs n vs
  | _ => true
def cVs (n : Nat) : List Val → Bool
  | [] => true
  | v :: vs => cV n v && cVs n vs
end
def cO (n : Nat) : Ob → Bool
  | .list vs => cVs n vs
  | .inst _ _ vs => cVs n vs
def cM (n : Nat) (m : Store) : Bool := m.all (cO n)
section
variable {K : Frag} {W W1 : Wd} {H H1 : Hp} {m : Store}
mutual
theorem RV.closed : ∀ {v : Val} {x : V}, RV K W H v x → cV W.phi.length v = true
  | _, _, .non => rfl
  | _, _, .bool b => rfl
  | _, _, .int i => rfl
  | _, _, .str t => rfl
  | _, _, .tup q r => by simp only [cV]; exact RVs.closed r
  | _, _, .il1 i q r => by simp only [cV]; exact RVs.closed r
  | _, _, .il0 i q r => by simp only [cV]; exact RVs.closed r
  | _, _, .ilk q r => by simp only [cV]; exact RVs.closed r
  | _, _, .loc q => by simp only [cV, decide_eq_true_eq]; exact (List.getElem?_eq_some_iff.mp q).1
  | _, _, .err _ _ _ r => by simp only [cV]; exact RV.closed r
  | _, _, .dic _ _ _ _ r => by simp only [cV]; exact RVs.closed r
  | _, _, .fn => rfl
theorem RVs.closed : ∀ {vs : List Val} {ys : List V}, RVs K W H vs ys → cVs W.phi.length vs = true
  | _, _, .nil => rfl
  | _, _, .cons r t => by simp only [cVs, Bool.and_eq_true]; exact ⟨RV.closed r, RVs.closed t⟩
end
def Wd.cut (W : Wd) (n : Nat) : Wd := ⟨W.phi.take n, W.I⟩
mutual
theorem RV.cut {n : Nat} : ∀ {v : Val} {x : V}, RV K W H v x → cV n v = true → RV K (W.cut n) H v x
  | _, _, .non, _ => .non
  | _, _, .bool b, _ => .bool b
  | _, _, .int i, _ => .int i
  | _, _, .str t, _ => .str t
  | _, _, .tup q r, h => .tup q (RVs.cut r (by simpa only [cV] using h))
  | _, _, .il1 i q r, h => .il1 i q (RVs.cut r (by simpa only [cV] using h))
  | _, _, .il0 i q r, h => .il0 i q (RVs.cut r (by simpa only [cV] using h))
  | _, _, .ilk q r, h => .ilk q (RVs.cut r (by simpa only [cV] using h))
  | _, _, .loc q, h => .loc (by
      simp only [cV, decide_eq_true_eq] at h
      show (W.phi.take n)[_]? = _
      rw [List.getElem?_take, if_pos h]; exact q)
  | _, _, .err ok q1 q2 r, h => .err ok q1 q2 (RV.cut r (by simpa only [cV] using h))
  | _, _, .dic i nn l q r, h => .dic i nn l q (RVs.cut r (by simpa only [cV] using h))
  | _, _, .fn, _ => .fn
theorem RVs.cut {n : Nat} : ∀ {vs : List Val} {ys : List V}, RVs K W H vs ys → cVs n vs = true → RVs K (W.cut n) H vs ys
  | _, _, .nil, _ => .nil
  | _, _, .cons r t, h => by
    simp only [cVs, Bool.and_eq_true] at h
    exact .cons (RV.cut r h.1) (RVs.cut t h.2)
end
theorem HR.closed (h : HR K W m H) : cM m.length m = true := by
  unfold cM
  rw [List.all_eq_true]
  intro o ho
  obtain ⟨n, hn, e⟩ := List.mem_iff_getElem.mp ho
  obtain ⟨a, _, r⟩ := h.obj n o (by rw [List.getElem?_eq_getElem hn, e])
  cases o with
  | list vs =>
    obtain ⟨xs, _, r⟩ := r
    show cVs m.length vs = true
    rw [← h.len]
    exact r.closed
  | inst c fs vs =>
    obtain ⟨dx, xs, _, _, _, r⟩ := r
    show cVs m.length vs = true
    rw [← h.len]
    exact r.closed
theorem HR.cut (h : HR K W m H) {n : Nat} (hc : cM n (m.take n) = true) : HR K (W.cut n) (m.take n) H where
  len := by show (W.phi.take n).length = _; simp [h.len]
  nd := h.nd.sublist (List.take_sublist n W.phi)
  dis := fun a ha => h.dis a (List.mem_of_mem_take ha)
  inh := h.inh
  obj := fun k o q => by
    have hk : k < n := by
      have := (List.getElem?_eq_some_iff.mp q).1
      simp at this; omega
    have q' : m[k]? = some o := by rw [List.getElem?_take, if_pos hk] at q; exact q
    obtain ⟨a, e1, r⟩ := h.obj k o q'
    refine ⟨a, by show (W.phi.take n)[k]? = _; rw [List.getElem?_take, if_pos hk]; exact e1, ?_⟩
    have ho : cO n o = true := (List.all_eq_true.mp hc) o (List.mem_of_getElem? q)
    cases o with
    | list vs =>
      obtain ⟨xs, q1, r1⟩ := r
      exact ⟨xs, q1, r1.cut ho⟩
    | inst c fs vs =>
      obtain ⟨dx, xs, q1, k1, l1, r1⟩ := r
      exact ⟨dx, xs, q1, k1, l1, r1.cut ho⟩
theorem Ext.cut (e : Ext W H W1 H1) {n : Nat} (hn : W.phi.length ≤ n) : Ext W H (W1.cut n) H1 where
  pre := by
    obtain ⟨more, e1, e2⟩ := e.pre
    refine ⟨more.take (n - W.phi.length), ?_, fun a ha => e2 a (List.mem_of_mem_take ha)⟩
    show W1.phi.take n = _
    rw [e1, List.take_append, List.take_of_length_le hn]
  inc := e.inc
  new := e.new
  fr := e.fr
  al := e.al
end
/-- a def's end: what it made and nobody holds is forgotten -/
def ret (n0 : Nat) (Q : Val → Store → Prop) (v : Val) (m : Store) : Prop := Q v m ∨ ∃ n, n0 ≤ n ∧ cV n v = true ∧ cM n (m.take n) = true ∧ Q v (m.take n)
theorem ret_cont {K : Frag} {W : Wd} {H : Hp} {m : Store} {Qd : Val → Store → Prop} {Q : VK} (h : HR K W m H) (k : Cont K W H Qd Q) : Cont K W H (ret m.length Qd) Q := by
  intro W' v x m' H' e rv hr q
  rcases q with q | ⟨n, h1, h2, h3, q⟩
  · exact k W' v x m' H' e rv hr q
  · exact k (W'.cut n) v x (m'.take n) H' (e.cut (by rw [h.len]; exact h1)) (rv.cut h2) (hr.cut h3) q
def retX (n0 : Nat) (R : Rq) : Rq := fun c => ret n0 (R c)
theorem retX_cont {K : Frag} {W : Wd} {H : Hp} {m : Store} {R : Rq} {E : XK} (h : HR K W m H) (k : ContE K cl W H R E) : ContE K cl W H (retX m.length R) E := by
  intro W' c v x d m' H' e rv hr ho hd q
  rcases q with q | ⟨n, h1, h2, h3, q⟩
  · exact k W' c v x d m' H' e rv hr ho hd q
  · exact k (W'.cut n) c v x d (m'.take n) H' (e.cut (by rw [h.len]; exact h1)) (rv.cut h2) (hr.cut h3) ho hd q
/-- the ends of a body -/
def bodyEn (n0 : Nat) (Q : Val → Store → Prop) (R : Rq) : En where
  nx := fun _ m => ret n0 Q .non m
  rt := ret n0 Q
  bk := fun _ _ => False
  ct := fun _ _ => False
  rx := fun _ => retX n0 R
def startE (n : Nat) (args : List Val) : Env := args.map some ++ List.replicate (n - args.length) none
/-- what is to be shown of a def -/
def Meets (F : Nat → FS) (n : Nat) (body : S) (fs : FS) : Prop :=
  ∀ args m Q R, cM m.length m = true → cVs m.length args = true → fs args m Q R → wpS F body (startE n args) m (bodyEn m.length Q R)
theorem start_rel {K : Frag} {W : Wd} {H : Hp} {N : List Str} {args : List Val} {vs : List V} (r : RVs K W H args vs) : SR K W H (startE N.length args) (L2.start N vs) := by
  unfold startE L2.start
  rw [r.length]
  refine ⟨by simp [r.length], fun i v q => ?_⟩
  by_cases hi : i < args.length
  · rw [List.getElem?_append_left (by simpa using hi), List.getElem?_map] at q
    rw [List.getElem?_append_left (by rw [List.length_map, ← r.length]; exact hi), List.getElem?_map]
    simp only [Option.map_eq_some_iff] at q
    obtain ⟨w, e1, e2⟩ := q
    cases e2
    obtain ⟨x, e3, rv⟩ := r.get e1
    exact ⟨x, by rw [e3]; rfl, rv⟩
  · rw [List.getElem?_append_right (by simp; omega)] at q
    obtain ⟨_, e⟩ := List.getElem?_eq_some_iff.mp q
    simp at e
/-! ### a def's promise from its body -/
theorem fnG_body {P : Program} {w : World} {K : Frag} {mg : Str → Option Value} {base : Heap} {k : Nat} {f : Addr} {x qual : Str} {st : Stmt} {fd : FuncData} {N ps : List Str} {sp : Sp} (T : Fun K x qual st f fd) (S : FnScope N ps (defScope st))
    (hlen : ∀ vs H Q E, sp vs H Q E → vs.length = ps.length)
    (hb : ∀ (cdv : Value) (A : Around) (outer : List PySem.Env) (s : Shared) (H : Hp) (vs : List V) (Q : VK) (E : XK), Room k (A.deeper (envOfC qual (defScope st) s.heap.objs.size f cdv)) → A.guards = some [] → sp vs H Q E →
      ∃ t, PSs (cxOf (L2.CX P w) P w K mg base N qual (defScope st) f cdv A outer s H E) (defBody st) t ∧ t { nx := fun _ H1 => Q .non H1, rt := Q } (L2.start N vs) H) :
    FnG P w K mg base (k + 1) f fd ps sp := by
  obtain ⟨oc, od, kV, doc, pm, an, cdv, ct, osl, rfl, lk, hcd⟩ := T.ex
  constructor
  · exact hlen
  intro A outer s H args us vs Q E room hg e0 bd rel hsp
  have old : ∀ b o, base.get? b = some o → s.heap.get? b = some o := fun b o z => (e0.bs b o z).1
  have inK : K.In s.heap := e0.mod.kin.keeps old
  refine codeAny_call_function room.depth (inK _ _ lk) rfl S.co S.gen rfl (PySem.W.codeRec_of inK hcd) (bd _ _ _ _ ?_)
  refine wpAny_newFunctionEnv_cells S.kind ?par ?go
  case par =>
    rintro ⟨n, v⟩ hy
    rcases S.par n (List.of_mem_zip hy).1 with z | z
    · exact .inl z
    · exact .inr ⟨z, PySem.W.cellsFrom_some _ _ _ (.inl z)⟩
  case go =>
    rintro env rfl s1 ic
    refine ⟨(e0.mod.nolimit.keeps old).keeps ic.toInCall.keep, codeAny_func ?_⟩
    obtain ⟨t, h1, h2⟩ := hb cdv A outer s H vs Q E (room.deeper _) hg hsp
    have inv := inv_start (CX := L2.CX P w) (E := E) S room.hd e0 (hlen _ _ _ _ hsp) rel ic
    refine wpAny_mono (h1.run [] s1 _ H _ inv h2) ?_ fun _ _ z => z
    intro fl s2 z
    match fl, z with
    | .ret u, ⟨v, σ2, H2, J, rv, q⟩ => exact ⟨v, H2, J.os, J.bare, J.base, J.hok, rv, q⟩
    | .next, ⟨σ2, H2, J, q⟩ => exact ⟨.non, H2, J.os, J.bare, J.base, J.hok, rfl, q⟩
    | .brk, ⟨_, _, _, q⟩ => exact q.elim
    | .cont, ⟨_, _, _, q⟩ => exact q.elim
theorem def_ok {P : Program} {w : World} {K : Frag} {mg : Str → Option Value} {base : Heap} {F : Nat → FS} {lev : Nat} {c : Cc} {f : Addr} {x qual : Str} {st : Stmt} {fd : FuncData} {N ps : List Str} {body : S} {fs : FS}
    (G : Stat P w K mg base c) (hF : ∀ g, ∃ k, FnG P w K mg base k (Kx.fa g) (Kx.fd g) (Kx.ps g) (spG K cl (Kx.ps g).length (F g)) ∧ k + 1 ≤ lev ∧ ∀ vs m Q R, F g vs m Q R → vs.length = (Kx.ps g).length) (hlev : 2 ≤ lev)
    (hcN : c.N = N) (hcn : c.names = (defScope st).names) (T : Fun K x qual st f fd) (S : FnScope N ps (defScope st)) (hc : chkSs c (defBody st) body = true) (hm : Meets F N.length body fs) :
    FnG P w K mg base (lev + 1) f fd ps (spG K cl ps.length fs) := by
  refine fnG_body T S (fun vs H Q E h => ?_) (fun cdv A outer s H vs Q E room hg h => ?_)
  · obtain ⟨_, _, _, _, _, hl, _⟩ := h
    exact hl
  · obtain ⟨W, args, m, Qd, R, hl, ra, hr, hf, kc, kx⟩ := h
    refine ⟨_, (soundS (F := F) body).ss c _ (fun cls d _ H1 => E cls d H1) _ ⟨⟨hcN.symm, by rw [hcN]; exact S.nd, S.kind, hcn.symm, fun _ _ => rfl, rfl, hg, room.mono hlev, G, fun g => ?_⟩, rfl, rfl, rfl, passes_of rfl⟩ (takes_of rfl rfl rfl rfl) hc, ?_⟩
    · obtain ⟨k, h1, h2, h3⟩ := hF g
      exact ⟨k, h1, room.mono h2, h3⟩
    · have hcl : cVs m.length args = true := by rw [← hr.len]; exact ra.closed
      refine ⟨W, startE N.length args, m, bodyEn m.length Qd R, start_rel ra, hr, hm args m Qd R hr.closed hcl hf, ⟨?_, ret_cont hr kc, ?_, ?_, ?_⟩⟩
      · intro W1 r1 m1 σ1 H1 e1 hs1 hr1 q
        exact ret_cont hr kc W1 .non .non m1 H1 e1 .non hr1 q
      · intro W1 r1 m1 σ1 H1 e1 hs1 hr1 q
        exact q.elim
      · intro W1 r1 m1 σ1 H1 e1 hs1 hr1 q
        exact q.elim
      · intro W1 r1 m1 σ1 H1 e1 hs1 hr1
        intro W2 c v x d m2 H2 e2 rv hr2 ho hd q
        exact retX_cont hr kx W2 c v x d m2 H2 (e1.trans e2) rv hr2 ho hd q
/-! ### the law -/
/-- the world in which the law begins -/
def world0 (H : Hp) : Wd := ⟨[], fun b => H b ≠ none⟩
theorem world0_ok (K : Frag) (H : Hp) : HR K (world0 H) [] H where
  len := rfl
  nd := List.nodup_nil
  dis := fun a z => by cases z
  inh := fun a z => z
  obj := fun n o q => by simp at q
theorem ints_rel {K : Frag} {W : Wd} {H : Hp} : ∀ ns : List Int, RVs K W H (ns.map .int) (ns.map V.int)
  | [] => .nil
  | n :: ns => .cons (.int n) (ints_rel ns)
theorem script_rel {K : Frag} {H : Hp} {a : Addr} {ns : List Int} (h : SqL K H a (ns.map V.int)) : RV K (world0 H) H (.il false (ns.map .int)) (.ref a) := by
  by_cases z : H a = none
  · refine .ilk ?_ (ints_rel ns)
    rcases h with (h | ⟨o, h⟩) | h
    · rw [z] at h; cases h
    · rw [z] at h; cases h
    · exact .inr h
  · exact .il0 z h (ints_rel ns)
/-- the law's call: every script is handed in as a list that is read alone -/
theorem lawG {P : Program} {w : World} {K : Frag} {mg mb : Str → Option Value} {k : Nat} {fa a : Addr} {fd : FuncData} {x : Str} {fs : FS} {s1 : Shared} {us : List Value} {ns : List Int} (inK : K.In s1.heap) (hm : s1.heap.Ns mainGlobals mg) (hb : s1.heap.Ns builtinsNs mb)
    (hbb : ∀ x : Str, x ≠ "__name__" → mb x = bootBuiltins x) (lim : s1.heap.NoLimit) (hg : s1.gens = #[]) (ha : s1.heap.get? a = some { cls := .type "list", data := .seq us.toArray }) (hi : IntsAre us ns) (hl : ns.length ≤ sizeLine) (room : Room k callerA)
    (F : ∀ base : Heap, K.In base → base.Ns mainGlobals mg → FnG P w K mg base k fa fd [x] (spG K cl 1 fs)) (bd : ∀ (s : Shared) (u : Value), BindsTo s fd ⟨[u], []⟩ [(x, u)]) (law : fs [.il false (ns.map .int)] [] (fun v _ => v = .bool true) noR) :
    codeAny (model P w) callerA (.call (.ref fa) ⟨[.ref a], []⟩) (fun z t => z = .ok (.ret (.bool true)) ∧ OldK s1.heap t.heap ∧ t.os = s1.os ∧ AllBare t.gens) s1 := by
  have rel : Vals (ns.map V.int) us := vals_ints hi
  -- the abstract heap: nothing, or the script alone, locked
  obtain ⟨H, hS, hok, hO⟩ : ∃ H : Hp, SqL K H a (ns.map V.int) ∧ HOk P w H s1.heap ∧ ∀ b, H b = none ∨ (b = a ∧ K.lookup a = none ∧ H b = some (.frz { cls := .type "list", data := .seq us.toArray } (.lst (ns.map V.int)))) := by
    cases hk : K.lookup a with
    | some o =>
      have e := inK a o hk
      rw [ha] at e
      cases e
      exact ⟨fun _ => none, .inr ⟨_, us.toArray, _, hk, rfl, rfl, rfl, by rw [List.size_toArray, hi.length]; exact hl, by simpa using rel⟩, fun b u z => (by simp at z), fun b => .inl rfl⟩
    | none =>
      refine ⟨fun b => if b = a then some (.frz { cls := .type "list", data := .seq us.toArray } (.lst (ns.map V.int))) else none, .inl (.inr ⟨_, if_pos rfl⟩), fun b u z => ?_, fun b => ?_⟩
      · simp only at z
        split at z
        · rename_i hb
          cases z
          subst hb
          exact ⟨ha, by rw [List.length_map]; exact hl, us, _, rel, ha⟩
        · cases z
      · by_cases hb : b = a
        · exact .inr ⟨hb, rfl, if_pos hb⟩
        · exact .inl (if_neg hb)
  have free : ∀ b o, s1.heap.get? b = some o → (∀ us n, o.data ≠ .seq us n) → H b = none := fun b o e hd => by
    rcases hO b with z | ⟨z, _, _⟩
    · exact z
    · subst z; rw [ha] at e; cases e
      exact absurd rfl (hd _ _)
  have nsK : ∀ b m, s1.heap.Ns b m → (hidT s1.heap H).Ns b m := fun b m ⟨o, es, ep, e, d, r⟩ => ⟨o, es, ep, hidT_get e (free b o e fun us n z => by rw [d] at z; cases z), d, r⟩
  have hidK : K.In (hidT s1.heap H) := fun b o e => hidT_get (inK b o e) (by
    rcases hO b with z | ⟨z, z2, _⟩
    · exact z
    · subst z; rw [z2] at e; cases e)
  have md : Mod K mg (hidT s1.heap H) := by
    obtain ⟨mc, c1, c2⟩ := lim
    exact ⟨hidK, nsK _ _ hm, ⟨mb, nsK _ _ hb, hbb⟩, mc, nsK _ _ c1, c2⟩
  have e0 : Env0 P w K mg (hidT s1.heap H) callerA [] s1 H := ⟨rfl, md, fun b o e => of_hidT e, Nat.le_of_eq (hidT_size _ _), trivial, fun b z => (nomatch (show b ∈ ([] : List Addr) from z)), hok, .of_eq hg⟩
  refine codeAny_mono ((F _ hidK (nsK _ _ hm)).run callerA [] s1 H ⟨[.ref a], []⟩ [.ref a] [.ref a] (fun v _ => v = .bl true) (fun _ _ _ => False) room rfl e0 (bd s1 (.ref a)) (.cons rfl .nil)
    ⟨world0 H, [.il false (ns.map .int)], [], _, noR, rfl, .cons (script_rel hS) .nil, world0_ok K H, law, fun W' v y m' H' e rv hr q => ?_, fun _ _ _ _ _ _ _ _ _ _ _ _ z => z.elim⟩) ?_
  · have q' : v = .bool true := q
    subst q'
    exact rv.bool_inv
  · intro z t hz
    match z, hz with
    | .error e, hz =>
      obtain ⟨_, _, _, _, _, _, _, _, _, _, _, _, q⟩ := hz
      exact q.elim
    | .ok (.ret u), ⟨v, H2, os, bare, un, hok2, rv, q⟩ =>
      have q' : v = .bl true := q
      subst q'
      obtain rfl : u = Value.bool true := rv
      refine ⟨rfl, OldK.of_keep fun b o e => ?_, os, bare⟩
      rcases hO b with z | ⟨_, _, z⟩
      · exact un.keep b o e z (fun y => (nomatch (show b ∈ ([] : List Addr) from y))) (fun y => (nomatch y))
      · obtain ⟨e1, _⟩ := hok b _ z
        obtain ⟨e2, _⟩ := hok2 b _ (un.frzs b _ _ z)
        rw [e] at e1; cases e1
        exact e2
end Dy
namespace Dy
open PySem PySem.Spec PyProof.Rows L2
theorem walkG {l : PySem.W.OpenLaw} {n k : Nat} {q : Program} {loose : List Str} {XP : (Str → Option Value) → Heap → Prop} {YP : World → Heap → Prop} {d : DefRec} {K : Params → Frag} {fs : FS} {x : Str} (hn : l.most = some n) (hn2 : n ≤ sizeLine) (hdf : d.params.defaults = []) (room : Room k callerA)
    (hY : ∀ (w : World) (h : Heap), YP w h → (K w.params).In h)
    (F : ∀ (w : World) (mg : Str → Option Value) (fa : Addr) (h : Heap), (K w.params).In h → h.Ns mainGlobals mg → mg d.name = some (.ref fa) → ∃ (kx : Kx) (fd : FuncData), (∀ (s : Shared) (u : Value), BindsTo s fd ⟨[u], []⟩ [(x, u)]) ∧
      ∀ base : Heap, (K w.params).In base → base.Ns mainGlobals mg → FnG l.prog w (K w.params) mg base k fa fd [x] (spG (K w.params) kx.cl 1 fs))
    (law : ∀ ns : List Int, ns.length ≤ n → fs [.il false (ns.map .int)] [] (fun v _ => v = .bool true) noR) : PySem.W.WalkO q loose XP YP l.row.toRowW d [] (fun f vs => PySem.call f vs) := by
  refine Att.attach_call hn hdf ?_
  intro w s0 s1 mg mb fa o pm cd doc a us ns G Y ho hd hcd hmg hobj hints hlen hg
  obtain ⟨kx, fd, bd, hF⟩ := F w mg fa _ (hY w _ Y) G.T.g hmg
  letI := kx
  exact lawG (hY w _ Y) G.T.g G.T.b G.T.builtins G.T.nolimit hg hobj hints (Nat.le_trans hlen hn2) room hF bd (law ns hlen)
end Dy

/-! Dp, part L: equations for simp. -/
namespace Dy
open PySem L2
section
variable (F : Nat → FS) (r : Env) (m : Store) (Q : Val → Store → Prop) (T : Bool → Store → Prop) (R : Rq)
@[simp] theorem wpE_var (i : Nat) : wpE F (.var i) r m Q R = ∃ v, r[i]? = some (some v) ∧ Q v m := rfl
@[simp] theorem wpE_cst (v : Val) : wpE F (.cst v) r m Q R = Q v m := rfl
@[simp] theorem wpE_nil : wpE F .nil r m Q R = Q (.tup []) m := rfl
@[simp] theorem wpE_cons (a b : E) : wpE F (.cons a b) r m Q R = wpE F a r m (fun v m1 => wpE F b r m1 (fun w m2 => ∃ vs, w = .tup vs ∧ Q (.tup (v :: vs)) m2) R) R := rfl
@[simp] theorem wpE_tup (es : E) : wpE F (.tup es) r m Q R = wpE F es r m (fun v m1 => ∃ vs, v = .tup vs ∧ vs.length ≤ sizeLine ∧ Q (.tup vs) m1) R := rfl
@[simp] theorem wpE_lst (mu : Bool) (es : E) : wpE F (.lst mu es) r m Q R = wpE F es r m (fun v m1 => ∃ vs, v = .tup vs ∧ vs.length ≤ sizeLine ∧ newL mu vs m1 Q) R := rfl
@[simp] theorem wpE_bin (op : BOp) (a b : E) : wpE F (.bin op a b) r m Q R = wpE F a r m (fun v m1 => wpE F b r m1 (fun w m2 => binW op v w m2 Q) R) R := rfl
@[simp] theorem wpE_neg (a : E) : wpE F (.neg a) r m Q R = wpE F a r m (fun v m1 => ∃ i, v = .int i ∧ Q (.int (-i)) m1) R := rfl
@[simp] theorem wpE_cmp (op : COp) (a b : E) : wpE F (.cmp op a b) r m Q R = wpE F a r m (fun v m1 => wpE F b r m1 (fun w m2 => cmpW op v w m2 fun t => Q (.bool t) m2) R) R := rfl
@[simp] theorem wpE_chain (o1 o2 : COp) (a b c : E) : wpE F (.chain o1 o2 a b c) r m Q R = wpE F a r m (fun v m1 => wpE F b r m1 (fun w m2 => cmpW o1 v w m2 fun t =>
    if t = true then wpE F c r m2 (fun u m3 => cmpW o2 w u m3 fun t => Q (.bool t) m3) R else Q (.bool false) m2) R) R := rfl
@[simp] theorem wpE_isN (neg : Bool) (a : E) : wpE F (.isN neg a) r m Q R = wpE F a r m (fun v m1 => Q (.bool (neg != isNon v)) m1) R := rfl
@[simp] theorem wpE_one (a : E) : wpE F (.one a) r m Q R = wpE F a r m Q R := rfl
@[simp] theorem wpE_and (a b : E) : wpE F (.and a b) r m Q R = wpE F a r m (fun v m1 => ∃ t, tru m1 v = some t ∧ if t = true then wpE F b r m1 Q R else Q v m1) R := rfl
@[simp] theorem wpE_or (a b : E) : wpE F (.or a b) r m Q R = wpE F a r m (fun v m1 => ∃ t, tru m1 v = some t ∧ if t = true then Q v m1 else wpE F b r m1 Q R) R := rfl
@[simp] theorem wpE_not (a : E) : wpE F (.not a) r m Q R = wpE F a r m (fun v m1 => ∃ t, tru m1 v = some t ∧ Q (.bool (!t)) m1) R := rfl
@[simp] theorem wpE_ite (c a b : E) : wpE F (.ite c a b) r m Q R = wpT F c r m (fun t m1 => if t = true then wpE F a r m1 Q R else wpE F b r m1 Q R) R := rfl
@[simp] theorem wpE_call (f : Nat) (args : E) : wpE F (.call f args) r m Q R = wpE F args r m (fun v m1 => ∃ vs, v = .tup vs ∧ F f vs m1 Q R) R := rfl
@[simp] theorem wpE_bi (b : Bi) (args : E) : wpE F (.bi b args) r m Q R = wpE F args r m (fun v m1 => ∃ vs, v = .tup vs ∧ biW b vs m1 Q) R := rfl
@[simp] theorem wpE_isI (t : Ty) (a : E) : wpE F (.isI t a) r m Q R = wpE F a r m (fun v m1 => ∃ kk, kd m1 v = some kk ∧ Q (.bool (isK t kk)) m1) R := rfl
@[simp] theorem wpE_meth (t : Mt) (o args : E) : wpE F (.meth t o args) r m Q R = wpE F o r m (fun v m1 => mtT m1 t v ∧ wpE F args r m1 (fun w m2 => ∃ vs, w = .tup vs ∧ mtW t v vs m2 Q) R) R := rfl
@[simp] theorem wpE_idx (a i : E) : wpE F (.idx a i) r m Q R = wpE F a r m (fun v m1 => wpE F i r m1 (fun w m2 => ∃ u, idxF m2 v w = some u ∧ Q u m2) R) R := rfl
@[simp] theorem wpE_sl (hl hh : Bool) (a lo hi : E) : wpE F (.sl hl hh a lo hi) r m Q R = wpE F a r m (fun v m1 => wpE F lo r m1 (fun l m2 => ∃ i, partF hl l = some i ∧ wpE F hi r m2 (fun u m3 => ∃ j, partF hh u = some j ∧ ∃ z, sliceF m3 v i j = some z ∧ Q z m3) R) R) R := rfl
@[simp] theorem wpE_lc (mu : Bool) (own : List Nat) (tg : Tg) (ik : IK) (e1 e2 cond elt : E) : wpE F (.lc mu own tg ik e1 e2 cond elt) r m Q R = wpE F e1 r m (fun v1 m1 => wpE F e2 r m1 (fun v2 m2 => ∃ items, itF ik m2 v1 v2 = some items ∧
    lcW (fun m => itF ik m v1 v2 = some items) (fun x m P => ∃ r2, tgF tg x (wipeE r own) = some r2 ∧ wpT F cond r2 m (fun t m1 => if t = true then wpE F elt r2 m1 (fun y m2 => P (some y) m2) noR else P none m1) noR) items [] m2 fun acc m3 => newL mu acc m3 Q) R) R := rfl
@[simp] theorem wpE_scons (a b : E) : wpE F (.scons a b) r m Q R = wpE F a r m (fun v m1 => ∃ us, sq m1 v = some us ∧ wpE F b r m1 (fun w m2 => ∃ vs, w = .tup vs ∧ Q (.tup (us ++ vs)) m2) R) R := rfl
@[simp] theorem wpE_kd (op : KOp) (kvs : List (Text × Val)) (k d : E) : wpE F (.kd op kvs k d) r m Q R = wpE F k r m (fun kv m1 => wpE F d r m1 (fun dv m2 => kdW op kvs kv dv fun v => Q v m2) R) R := rfl
@[simp] theorem wpE_isO (k : Nat) (a : E) : wpE F (.isO k a) r m Q R = wpE F a r m (fun v m1 => ∃ kk, kd m1 v = some kk ∧ Q (.bool (isO k kk)) m1) R := rfl
@[simp] theorem wpE_attr (f : Str) (a : E) : wpE F (.attr f a) r m Q R = wpE F a r m (fun v m1 => ∃ w, attrF m1 f v = some w ∧ Q w m1) R := rfl
@[simp] theorem wpE_dsp (ks : List Text) (es : E) : wpE F (.dsp ks es) r m Q R = wpE F es r m (fun v m1 => ∃ vs, v = .tup vs ∧ (ks.Nodup ∧ ks.length = vs.length ∧ ks.length ≤ 15) ∧ Q (.dic ks vs) m1) R := rfl
@[simp] theorem wpE_mk (c f nn mm : Nat) (pm : List (Nat ⊕ Val)) (args kargs : E) : wpE F (.mk c f nn mm pm args kargs) r m Q R = wpE F args r m (fun v m1 => ∃ vs, v = .tup vs ∧ wpE F kargs r m1 (fun w m2 => ∃ zs, w = .tup zs ∧ (vs.length = nn ∧ zs.length = mm) ∧ ∃ ps, fillP pm (vs ++ zs) = some ps ∧
      F f (.loc m2.length :: ps) (m2 ++ [.inst c [] []]) (fun u m3 => u = .non ∧ Q (.loc m2.length) m3) R) R) R := rfl
@[simp] theorem wpE_mc (c f : Nat) (nm : Str) (o args : E) : wpE F (.mc c f nm o args) r m Q R = wpE F o r m (fun v m1 => isInN m1 c nm v ∧ wpE F args r m1 (fun w m2 => ∃ vs, w = .tup vs ∧ F f (v :: vs) m2 Q R) R) R := rfl
@[simp] theorem wpE_prop (c f : Nat) (nm : Str) (o : E) : wpE F (.prop c f nm o) r m Q R = wpE F o r m (fun v m1 => isIn m1 c v ∧ F f [v] m1 Q noR) R := rfl
@[simp] theorem wpE_oeq (neg : Bool) (c f : Nat) (a b : E) : wpE F (.oeq neg c f a b) r m Q R = wpE F a r m (fun v m1 => wpE F b r m1 (fun w m2 => isIn m2 c v ∧ ((kd m2 w).isSome = true ∧ notErr w = true) ∧ F f [v, w] m2 (fun u m3 => ∃ t, u = .bool t ∧ Q (.bool (neg != t)) m3) noR) R) R := rfl
@[simp] theorem wpT_one (a : E) : wpT F (.one a) r m T R = wpT F a r m T R := rfl
@[simp] theorem wpT_and (a b : E) : wpT F (.and a b) r m T R = wpT F a r m (fun t m1 => if t = true then wpT F b r m1 T R else T false m1) R := rfl
@[simp] theorem wpT_or (a b : E) : wpT F (.or a b) r m T R = wpT F a r m (fun t m1 => if t = true then T true m1 else wpT F b r m1 T R) R := rfl
@[simp] theorem wpT_not (a : E) : wpT F (.not a) r m T R = wpT F a r m (fun t m1 => T (!t) m1) R := rfl
@[simp] theorem wpT_ite (c a b : E) : wpT F (.ite c a b) r m T R = wpT F c r m (fun t m1 => if t = true then wpT F a r m1 T R else wpT F b r m1 T R) R := rfl
/-- a test by its value -/
def tst (T : Bool → Store → Prop) : Val → Store → Prop := fun v m1 => ∃ t, tru m1 v = some t ∧ T t m1
@[simp] theorem tst_bool (b : Bool) : tst T (.bool b) m = T b m := by simp [tst, tru]
@[simp] theorem tst_int (i : Int) : tst T (.int i) m = T (i != 0) m := by simp [tst, tru]
@[simp] theorem tst_non : tst T .non m = T false m := by simp [tst, tru]
@[simp] theorem wpT_var (i : Nat) : wpT F (.var i) r m T R = wpE F (.var i) r m (tst T) R := rfl
@[simp] theorem wpT_cst (v : Val) : wpT F (.cst v) r m T R = wpE F (.cst v) r m (tst T) R := rfl
@[simp] theorem wpT_tup (a : E) : wpT F (.tup a) r m T R = wpE F (.tup a) r m (tst T) R := rfl
@[simp] theorem wpT_lst (mu : Bool) (a : E) : wpT F (.lst mu a) r m T R = wpE F (.lst mu a) r m (tst T) R := rfl
@[simp] theorem wpT_bin (op : BOp) (a b : E) : wpT F (.bin op a b) r m T R = wpE F (.bin op a b) r m (tst T) R := rfl
@[simp] theorem wpT_cmp (op : COp) (a b : E) : wpT F (.cmp op a b) r m T R = wpE F (.cmp op a b) r m (tst T) R := rfl
@[simp] theorem wpT_chain (o1 o2 : COp) (a b c : E) : wpT F (.chain o1 o2 a b c) r m T R = wpE F (.chain o1 o2 a b c) r m (tst T) R := rfl
@[simp] theorem wpT_isN (neg : Bool) (a : E) : wpT F (.isN neg a) r m T R = wpE F (.isN neg a) r m (tst T) R := rfl
@[simp] theorem wpT_call (f : Nat) (a : E) : wpT F (.call f a) r m T R = wpE F (.call f a) r m (tst T) R := rfl
@[simp] theorem wpT_bi (b : Bi) (a : E) : wpT F (.bi b a) r m T R = wpE F (.bi b a) r m (tst T) R := rfl
@[simp] theorem wpT_isI (t : Ty) (a : E) : wpT F (.isI t a) r m T R = wpE F (.isI t a) r m (tst T) R := rfl
@[simp] theorem wpT_meth (t : Mt) (a b : E) : wpT F (.meth t a b) r m T R = wpE F (.meth t a b) r m (tst T) R := rfl
@[simp] theorem wpT_idx (a b : E) : wpT F (.idx a b) r m T R = wpE F (.idx a b) r m (tst T) R := rfl
@[simp] theorem wpT_kd (op : KOp) (kvs : List (Text × Val)) (k d : E) : wpT F (.kd op kvs k d) r m T R = wpE F (.kd op kvs k d) r m (tst T) R := rfl
@[simp] theorem wpT_isO (k : Nat) (a : E) : wpT F (.isO k a) r m T R = wpE F (.isO k a) r m (tst T) R := rfl
@[simp] theorem wpT_attr (f : Str) (a : E) : wpT F (.attr f a) r m T R = wpE F (.attr f a) r m (tst T) R := rfl
@[simp] theorem wpT_dsp (ks : List Text) (es : E) : wpT F (.dsp ks es) r m T R = wpE F (.dsp ks es) r m (tst T) R := rfl
@[simp] theorem wpT_mk (c f nn mm : Nat) (pm : List (Nat ⊕ Val)) (x y : E) : wpT F (.mk c f nn mm pm x y) r m T R = wpE F (.mk c f nn mm pm x y) r m (tst T) R := rfl
@[simp] theorem wpT_mc (c f : Nat) (nm : Str) (o x : E) : wpT F (.mc c f nm o x) r m T R = wpE F (.mc c f nm o x) r m (tst T) R := rfl
@[simp] theorem wpT_prop (c f : Nat) (nm : Str) (o : E) : wpT F (.prop c f nm o) r m T R = wpE F (.prop c f nm o) r m (tst T) R := rfl
@[simp] theorem wpT_oeq (neg : Bool) (c f : Nat) (a b : E) : wpT F (.oeq neg c f a b) r m T R = wpE F (.oeq neg c f a b) r m (tst T) R := rfl
@[simp] theorem newL_t (vs : List Val) : newL true vs m Q = Q (.loc m.length) (m ++ [.list vs]) := by simp [newL]
@[simp] theorem newL_f (vs : List Val) : newL false vs m Q = Q (.il true vs) m := by simp [newL]
variable (D : En)
@[simp] theorem wpS_nil : wpS F .nil r m D = D.nx r m := rfl
@[simp] theorem wpS_cons (a b : S) : wpS F (.cons a b) r m D = wpS F a r m { D with nx := fun r m => wpS F b r m D } := rfl
@[simp] theorem wpS_expr (e : E) : wpS F (.expr e) r m D = wpE F e r m (fun _ m1 => D.nx r m1) (D.rx r) := rfl
@[simp] theorem wpS_ret (e : E) : wpS F (.ret e) r m D = wpE F e r m D.rt (D.rx r) := rfl
@[simp] theorem wpS_retN : wpS F .retN r m D = D.rt .non m := rfl
@[simp] theorem wpS_asg (tg : Tg) (e : E) : wpS F (.asg tg e) r m D = wpE F e r m (fun v m1 => ∃ r1, tgF tg v r = some r1 ∧ D.nx r1 m1) (D.rx r) := rfl
@[simp] theorem wpS_par (is : List Nat) (es : E) : wpS F (.par is es) r m D = wpE F es r m (fun v m1 => ∃ vs, v = .tup vs ∧ ∃ r1, setAll is vs r = some r1 ∧ D.nx r1 m1) (D.rx r) := rfl
@[simp] theorem wpS_setIx (o i e : E) : wpS F (.setIx o i e) r m D = wpE F e r m (fun v m1 => wpE F o r m1 (fun ov m2 => wpE F i r m2 (fun iv m3 => setW ov iv v m3 fun m4 => D.nx r m4) (D.rx r)) (D.rx r)) (D.rx r) := rfl
@[simp] theorem wpS_ite (c : E) (a b : S) : wpS F (.ite c a b) r m D = wpT F c r m (fun t m1 => if t = true then wpS F a r m1 D else wpS F b r m1 D) (D.rx r) := rfl
@[simp] theorem wpS_loop (tg : Tg) (ik : IK) (e1 e2 : E) (body : S) : wpS F (.loop tg ik e1 e2 body) r m D = wpE F e1 r m (fun v1 m1 => wpE F e2 r m1 (fun v2 m2 => ∃ items, itF ik m2 v1 v2 = some items ∧
    forW (fun m => itF ik m v1 v2 = some items) (fun x r m nx => ∃ r1, tgF tg x r = some r1 ∧ wpS F body r1 m { D with nx := nx, ct := nx, bk := D.nx }) D.nx items r m2) (D.rx r)) (D.rx r) := rfl
@[simp] theorem wpS_raise (k : Nat) (e : E) : wpS F (.raise k e) r m D = wpE F e r m (fun v m1 => D.rx r k v m1) (D.rx r) := rfl
@[simp] theorem wpS_tryK (body : S) (k i j : Nat) : wpS F (.tryK body k i j) r m D = wpS F body r m { D with rx := fun r' c v m' => if subN c k = true then i < r'.length ∧ D.nx ((r'.set j (some (.err c v))).set i none) m' else D.rx r' c v m' } := rfl
@[simp] theorem wpS_setA (f : Str) (o e : E) : wpS F (.setA f o e) r m D = wpE F e r m (fun v m1 => wpE F o r m1 (fun ov m2 => setAW f ov v m2 fun m3 => D.nx r m3) (D.rx r)) (D.rx r) := rfl
@[simp] theorem wpS_never : wpS F .never r m D = False := rfl
@[simp] theorem wpS_pass : wpS F .pass r m D = D.nx r m := rfl
@[simp] theorem body_nx (n : Nat) : (bodyEn n Q R).nx r m = ret n Q .non m := rfl
@[simp] theorem body_rt (n : Nat) (v : Val) : (bodyEn n Q R).rt v m = ret n Q v m := rfl
@[simp] theorem body_rx (n : Nat) : (bodyEn n Q R).rx r = retX n R := rfl
end
@[simp] theorem startE_def (n : Nat) (args : List Val) : startE n args = args.map some ++ List.replicate (n - args.length) none := rfl
@[simp] theorem tgF_name (i : Nat) (v : Val) (r : Env) : tgF (.name i) v r = some (r.set i (some v)) := rfl
@[simp] theorem tgF_tup (is : List Nat) (vs : List Val) (r : Env) : tgF (.tup is) (.tup vs) r = setAll is vs r := rfl
@[simp] theorem setAll_nil (r : Env) : setAll [] [] r = some r := rfl
@[simp] theorem setAll_cons (i : Nat) (is : List Nat) (v : Val) (vs : List Val) (r : Env) : setAll (i :: is) (v :: vs) r = setAll is vs (r.set i (some v)) := rfl
@[simp] theorem wipeE_nil (r : Env) : wipeE r [] = r := rfl
@[simp] theorem wipeE_cons (r : Env) (v : Nat) (vs : List Nat) : wipeE r (v :: vs) = (wipeE r vs).set v none := rfl
section
variable (m : Store) (Q : Val → Store → Prop) (T : Bool → Prop)
@[simp] theorem bin_addI (a b : Int) : binW .add (.int a) (.int b) m Q = Q (.int (a + b)) m := rfl
@[simp] theorem bin_addS (a b : Text) : binW .add (.str a) (.str b) m Q = (a.length + b.length ≤ sizeLine ∧ Q (.str (a ++ b)) m) := rfl
@[simp] theorem bin_addL (a b : List Val) : binW .add (.il true a) (.il true b) m Q = (a.length + b.length ≤ sizeLine ∧ Q (.il true (a ++ b)) m) := rfl
@[simp] theorem bin_subI (a b : Int) : binW .sub (.int a) (.int b) m Q = Q (.int (a - b)) m := rfl
@[simp] theorem bin_mulI (a b : Int) : binW .mul (.int a) (.int b) m Q = (mulOk a b ∧ Q (.int (a * b)) m) := rfl
@[simp] theorem bin_mulL (a : List Val) (k : Int) : binW .mul (.il true a) (.int k) m Q = ((-(2 ^ 63) ≤ k ∧ k < 2 ^ 63 ∧ a.length * k.toNat ≤ sizeLine) ∧ Q (.il true (List.replicate k.toNat a).flatten) m) := rfl
@[simp] theorem bin_fdiv (a b : Int) : binW .fdiv (.int a) (.int b) m Q = (divOk b ∧ Q (.int (a / b)) m) := rfl
@[simp] theorem bin_mod (a b : Int) : binW .mod (.int a) (.int b) m Q = (0 < b ∧ Q (.int (a % b)) m) := rfl
@[simp] theorem bin_pow (a b : Int) : binW .pow (.int a) (.int b) m Q = (powOk a b ∧ Q (.int (a ^ b.toNat)) m) := rfl
@[simp] theorem cmp_lt (a b : Int) : cmpW .lt (.int a) (.int b) m T = T (decide (a < b)) := rfl
@[simp] theorem cmp_le (a b : Int) : cmpW .le (.int a) (.int b) m T = T (decide (a ≤ b)) := rfl
@[simp] theorem cmp_gt (a b : Int) : cmpW .gt (.int a) (.int b) m T = T (decide (b < a)) := rfl
@[simp] theorem cmp_ge (a b : Int) : cmpW .ge (.int a) (.int b) m T = T (decide (b ≤ a)) := rfl
theorem eqv_str (a b : Text) : PyData.eqv (.str (SX.S a)) (.str (SX.S b)) = decide (a = b) := by
  show (SX.S a == SX.S b) = decide (a = b)
  exact SX.S_beq_eq
theorem eqv_int (a b : Int) : PyData.eqv (.int a) (.int b) = decide (a = b) := by
  show (a == b) = decide (a = b)
  by_cases h : a = b <;> simp [h]
@[simp] theorem cmp_eqI (a b : Int) : cmpW .eq (.int a) (.int b) m T = T (decide (a = b)) := by simp [cmpW, pdm, pd, eqOk, scalP, eqv_int, eqE, isL]
@[simp] theorem cmp_neI (a b : Int) : cmpW .ne (.int a) (.int b) m T = T (!decide (a = b)) := by simp [cmpW, pdm, pd, eqOk, scalP, eqv_int, eqE, isL]
@[simp] theorem cmp_eqS (a b : Text) : cmpW .eq (.str a) (.str b) m T = T (decide (a = b)) := by simp [cmpW, pdm, pd, eqOk, scalP, eqv_str, eqE, isL]
@[simp] theorem cmp_neS (a b : Text) : cmpW .ne (.str a) (.str b) m T = T (!decide (a = b)) := by simp [cmpW, pdm, pd, eqOk, scalP, eqv_str, eqE, isL]
@[simp] theorem cmp_inS (c : Nat) (z : Text) : cmpW .isin (.str [c]) (.str z) m T = T (decide (c ∈ z)) := by simp [cmpW, inW]
@[simp] theorem cmp_notS (c : Nat) (z : Text) : cmpW .notin (.str [c]) (.str z) m T = T (!decide (c ∈ z)) := by simp [cmpW, inW]
@[simp] theorem bi_lenS (s : Text) : biW .len [.str s] m Q = (s.length ≤ sizeLine ∧ Q (.int s.length) m) := rfl
@[simp] theorem bi_lenT (vs : List Val) : biW .len [.tup vs] m Q = Q (.int vs.length) m := by simp [biW, sq]
@[simp] theorem bi_lenL (o : Bool) (vs : List Val) : biW .len [.il o vs] m Q = Q (.int vs.length) m := by simp [biW, sq]
@[simp] theorem bi_abs (i : Int) : biW .abs [.int i] m Q = Q (.int (if i < 0 then -i else i)) m := rfl
@[simp] theorem bi_intI (i : Int) : biW .int [.int i] m Q = Q (.int i) m := rfl
@[simp] theorem bi_intB (b : Bool) : biW .int [.bool b] m Q = Q (.int (if b then 1 else 0)) m := rfl
@[simp] theorem bi_intS (s : Text) : biW .int [.str s] m Q = ∃ n, PySem.intText? (SX.S s) = some n ∧ s.length ≤ 640 ∧ Q (.int n) m := rfl
@[simp] theorem bi_strI (i : Int) : biW .str [.int i] m Q = (i.natAbs.log2 < 1920 ∧ Q (.str (numT i)) m) := rfl
@[simp] theorem bi_strS (s : Text) : biW .str [.str s] m Q = Q (.str s) m := rfl
@[simp] theorem bi_tupL (o : Bool) (vs : List Val) : biW .tuple [.il o vs] m Q = Q (.tup vs) m := by simp [biW, sq]
@[simp] theorem bi_tupT (vs : List Val) : biW .tuple [.tup vs] m Q = Q (.tup vs) m := by simp [biW, sq]
@[simp] theorem bi_tupM (n : Nat) : biW .tuple [.loc n] m Q = ∃ vs, m[n]? = some (.list vs) ∧ Q (.tup vs) m := by
  simp only [biW, sq]
  cases h : m[n]? with
  | none => simp
  | some o => cases o <;> simp
@[simp] theorem bi_lstL (o : Bool) (vs : List Val) : biW .list [.il o vs] m Q = Q (.il true vs) m := by simp [biW, sq]
@[simp] theorem bi_allL (o : Bool) (vs : List Val) : biW .all [.il o vs] m Q = ∃ bs, boolsOf vs = some bs ∧ Q (.bool (bs.all id)) m := by simp [biW, sq, isL]
@[simp] theorem bi_anyL (o : Bool) (vs : List Val) : biW .any [.il o vs] m Q = ∃ bs, boolsOf vs = some bs ∧ Q (.bool (bs.any id)) m := by simp [biW, sq, isL]
@[simp] theorem bi_max (i j : Int) : biW .max [.int i, .int j] m Q = Q (.int (if j > i then j else i)) m := rfl
@[simp] theorem bi_min (i j : Int) : biW .min [.int i, .int j] m Q = Q (.int (if j < i then j else i)) m := rfl
@[simp] theorem bi_repr (v : Val) : biW .repr [v] m Q = ∃ d, prm m v = some d ∧ reprOk d ∧ Q (.str d.shown.cps.toList) m := rfl
@[simp] theorem mtT_app (n : Nat) : mtT m .append (.loc n) = ∃ vs, m[n]? = some (.list vs) := rfl
@[simp] theorem mtT_split (s : Text) : mtT m .split (.str s) = True := rfl
@[simp] theorem mtT_join (s : Text) : mtT m .join (.str s) = True := rfl
@[simp] theorem mt_app (n : Nat) (v : Val) : mtW .append (.loc n) [v] m Q = ∃ vs, m[n]? = some (.list vs) ∧ vs.length < sizeLine ∧ Q .non (m.set n (.list (vs ++ [v]))) := rfl
@[simp] theorem mt_splitE (a b : Text) : mtW .split (.str a) [.str b] m Q = ((b ≠ [] ∧ b.all (· < 256) = true ∧ a.length + 2 ≤ sizeLine) ∧ Q (.il true ((TL.spl b 0 [] a).map .str)) m) := rfl
@[simp] theorem mt_joinL (a : Text) (o : Bool) (vs : List Val) : mtW .join (.str a) [.il o vs] m Q = ∃ ts : List Text, vs = ts.map .str ∧ (ts.map (·.length)).sum + ts.length * a.length ≤ 16777216 ∧ Q (.str (TL.joinL a ts)) m := by simp [mtW, sq]
@[simp] theorem idx_il (o : Bool) (vs : List Val) (i : Int) : idxF m (.il o vs) (.int i) = atI vs i := rfl
@[simp] theorem idx_tup (vs : List Val) (i : Int) : idxF m (.tup vs) (.int i) = atI vs i := rfl
@[simp] theorem idx_str (s : Text) (i : Int) : idxF m (.str s) (.int i) = if s.length ≤ sizeLine then (atI s i).map fun c => .str [c] else none := rfl
@[simp] theorem idx_loc (n : Nat) (i : Int) (u : Val) : (idxF m (.loc n) (.int i) = some u) = ∃ vs, m[n]? = some (.list vs) ∧ atI vs i = some u := by
  simp only [idxF, sq]
  cases h : m[n]? with
  | none => simp
  | some o => cases o <;> simp
@[simp] theorem it_str (s : Text) (v : Val) : itF .seq m (.str s) v = some (s.map fun c => .str [c]) := rfl
@[simp] theorem it_tup (vs : List Val) (v : Val) : itF .seq m (.tup vs) v = some vs := rfl
@[simp] theorem it_il (o : Bool) (vs : List Val) (v : Val) : itF .seq m (.il o vs) v = some vs := rfl
@[simp] theorem set_loc_eq (n : Nat) (k : Int) (v : Val) (P : Store → Prop) : setW (.loc n) (.int k) v m P = ∃ vs j, m[n]? = some (.list vs) ∧ ixN vs.length k = some j ∧ P (m.set n (.list (vs.set j v))) := rfl
@[simp] theorem kd_non  : kd m (.non : Val) = some .non := rfl
@[simp] theorem kd_bool (b : Bool) : kd m (.bool b) = some .bool := rfl
@[simp] theorem kd_int (i : Int) : kd m (.int i) = some .int := rfl
@[simp] theorem kd_str (s : Text) : kd m (.str s) = some .str := rfl
@[simp] theorem kd_tup (vs : List Val) : kd m (.tup vs) = some .tuple := rfl
@[simp] theorem kd_il (o : Bool) (vs : List Val) : kd m (.il o vs) = some .list := rfl
@[simp] theorem kd_dic (ks : List Text) (vs : List Val) : kd m (.dic ks vs) = some .dict := rfl
@[simp] theorem kd_err (c : Nat) (v : Val) : kd m (.err c v) = some (.own c) := rfl
@[simp] theorem isNon_non : isNon .non = true := rfl
@[simp] theorem isNon_bool (b : Bool) : isNon (.bool b) = false := rfl
@[simp] theorem isNon_int (i : Int) : isNon (.int i) = false := rfl
@[simp] theorem isNon_str (s : Text) : isNon (.str s) = false := rfl
@[simp] theorem isNon_tup (vs : List Val) : isNon (.tup vs) = false := rfl
@[simp] theorem isNon_il (o : Bool) (vs : List Val) : isNon (.il o vs) = false := rfl
@[simp] theorem isNon_dic (ks : List Text) (vs : List Val) : isNon (.dic ks vs) = false := rfl
@[simp] theorem isNon_err (c : Nat) (v : Val) : isNon (.err c v) = false := rfl
@[simp] theorem isNon_loc (n : Nat) : isNon (.loc n) = false := rfl
@[simp] theorem tru_bool (b : Bool) : tru m (.bool b) = some b := rfl
@[simp] theorem tru_non : tru m .non = some false := rfl
@[simp] theorem boolsOf_nil : boolsOf [] = some [] := rfl
@[simp] theorem boolsOf_cons (b : Bool) (r : List Val) : boolsOf (.bool b :: r) = (boolsOf r).map fun bs => b :: bs := rfl
@[simp] theorem lcW_nil (live : Store → Prop) (body : Val → Store → (Option Val → Store → Prop) → Prop) (acc : List Val) (P : List Val → Store → Prop) : lcW live body [] acc m P = (live m ∧ P acc m) := rfl
@[simp] theorem forW_nil (live : Store → Prop) (step : Val → Env → Store → (Env → Store → Prop) → Prop) (k : Env → Store → Prop) (r : Env) : forW live step k [] r m = (live m ∧ k r m) := rfl
end
@[simp] theorem isK_int_non : isK .int .non = false := rfl
@[simp] theorem isK_int_bool : isK .int .bool = true := rfl
@[simp] theorem isK_int_int : isK .int .int = true := rfl
@[simp] theorem isK_int_str : isK .int .str = false := rfl
@[simp] theorem isK_int_tuple : isK .int .tuple = false := rfl
@[simp] theorem isK_int_list : isK .int .list = false := rfl
@[simp] theorem isK_bool_non : isK .bool .non = false := rfl
@[simp] theorem isK_bool_bool : isK .bool .bool = true := rfl
@[simp] theorem isK_bool_int : isK .bool .int = false := rfl
@[simp] theorem isK_bool_str : isK .bool .str = false := rfl
@[simp] theorem isK_bool_tuple : isK .bool .tuple = false := rfl
@[simp] theorem isK_bool_list : isK .bool .list = false := rfl
@[simp] theorem isK_str_non : isK .str .non = false := rfl
@[simp] theorem isK_str_bool : isK .str .bool = false := rfl
@[simp] theorem isK_str_int : isK .str .int = false := rfl
@[simp] theorem isK_str_str : isK .str .str = true := rfl
@[simp] theorem isK_str_tuple : isK .str .tuple = false := rfl
@[simp] theorem isK_str_list : isK .str .list = false := rfl
@[simp] theorem isK_tuple_non : isK .tuple .non = false := rfl
@[simp] theorem isK_tuple_bool : isK .tuple .bool = false := rfl
@[simp] theorem isK_tuple_int : isK .tuple .int = false := rfl
@[simp] theorem isK_tuple_str : isK .tuple .str = false := rfl
@[simp] theorem isK_tuple_tuple : isK .tuple .tuple = true := rfl
@[simp] theorem isK_tuple_list : isK .tuple .list = false := rfl
@[simp] theorem isK_list_non : isK .list .non = false := rfl
@[simp] theorem isK_list_bool : isK .list .bool = false := rfl
@[simp] theorem isK_list_int : isK .list .int = false := rfl
@[simp] theorem isK_list_str : isK .list .str = false := rfl
@[simp] theorem isK_list_tuple : isK .list .tuple = false := rfl
@[simp] theorem isK_list_list : isK .list .list = true := rfl
@[simp] theorem isK_dict_non : isK .dict .non = false := rfl
@[simp] theorem isK_dict_bool : isK .dict .bool = false := rfl
@[simp] theorem isK_dict_int : isK .dict .int = false := rfl
@[simp] theorem isK_dict_str : isK .dict .str = false := rfl
@[simp] theorem isK_dict_tuple : isK .dict .tuple = false := rfl
@[simp] theorem isK_dict_list : isK .dict .list = false := rfl
@[simp] theorem isK_int_dict : isK .int .dict = false := rfl
@[simp] theorem isK_bool_dict : isK .bool .dict = false := rfl
@[simp] theorem isK_str_dict : isK .str .dict = false := rfl
@[simp] theorem isK_tuple_dict : isK .tuple .dict = false := rfl
@[simp] theorem isK_list_dict : isK .list .dict = false := rfl
@[simp] theorem isK_dict_dict : isK .dict .dict = true := rfl
@[simp] theorem isK_verr_dict : isK .verr .dict = false := rfl
@[simp] theorem isK_verr_non : isK .verr .non = false := rfl
@[simp] theorem isK_verr_bool : isK .verr .bool = false := rfl
@[simp] theorem isK_verr_int : isK .verr .int = false := rfl
@[simp] theorem isK_verr_str : isK .verr .str = false := rfl
@[simp] theorem isK_verr_tuple : isK .verr .tuple = false := rfl
@[simp] theorem isK_verr_list : isK .verr .list = false := rfl
@[simp] theorem isK_int_own (c : Nat) : isK .int (.own c) = false := rfl
@[simp] theorem isK_bool_own (c : Nat) : isK .bool (.own c) = false := rfl
@[simp] theorem isK_str_own (c : Nat) : isK .str (.own c) = false := rfl
@[simp] theorem isK_tuple_own (c : Nat) : isK .tuple (.own c) = false := rfl
@[simp] theorem isK_list_own (c : Nat) : isK .list (.own c) = false := rfl
@[simp] theorem isK_dict_own (c : Nat) : isK .dict (.own c) = false := rfl
@[simp] theorem isK_verr_own (c : Nat) : isK .verr (.own c) = decide (c < 100) := rfl
@[simp] theorem isO_non (c : Nat) : isO c .non = false := rfl
@[simp] theorem isO_bool (c : Nat) : isO c .bool = false := rfl
@[simp] theorem isO_int (c : Nat) : isO c .int = false := rfl
@[simp] theorem isO_str (c : Nat) : isO c .str = false := rfl
@[simp] theorem isO_tuple (c : Nat) : isO c .tuple = false := rfl
@[simp] theorem isO_list (c : Nat) : isO c .list = false := rfl
@[simp] theorem isO_dict (c : Nat) : isO c .dict = false := rfl
@[simp] theorem isO_own (c k : Nat) : isO k (.own c) = subN c k := rfl
theorem ofStr_inj {a b : String} (h : Str.ofString a = Str.ofString b) : a = b := by
  rw [Str.ofString_eq_toList, Str.ofString_eq_toList] at h
  have h1 : (a.toList.map Char.toNat).toArray = (b.toList.map Char.toNat).toArray := congrArg Str.cps h
  have h2 : a.toList.map Char.toNat = b.toList.map Char.toNat := by simpa using h1
  have h3 : a.toList = b.toList := (List.map_inj_right (fun x y e => Char.toNat_inj.mp e)).mp h2
  exact String.toList_inj.mp h3
@[simp] theorem ofStr_eq (a b : String) : (Str.ofString a = Str.ofString b) = (a = b) := propext ⟨ofStr_inj, fun h => by rw [h]⟩
@[simp] theorem ofStr_beq (a b : String) : (Str.ofString a == Str.ofString b) = (a == b) := by
  by_cases h : a = b
  · simp [h]
  · rw [beq_eq_false_iff_ne.mpr h, beq_eq_false_iff_ne.mpr fun z => h (ofStr_inj z)]
theorem sizeLine_is : sizeLine = 16777216 := by decide
end Dy

/-! Dp, part M: the laws' own draws. -/
namespace Dy
open PySem L2
theorem bits_le {x : Int} {n : Nat} (h0 : 0 ≤ x) (h : x < 2 ^ n) (hn : 0 < n) : Builtin.Int.intBits x ≤ n := by
  unfold Builtin.Int.intBits
  split
  · omega
  · have hx : x.natAbs < 2 ^ n := by
      have : ((x.natAbs : Nat) : Int) < ((2 ^ n : Nat) : Int) := by rw [Int.natAbs_of_nonneg h0]; simpa using h
      exact_mod_cast this
    have := PySem.Flt.log2_lt_of hn hx
    omega
theorem div_ok {n : Int} (h0 : 0 < n) (h : n < 2 ^ 30) : divOk n := by
  refine ⟨h0, ?_⟩
  have hx : n.natAbs < 2 ^ 30 := by omega
  have := PySem.Flt.log2_lt_of (by decide : 0 < 30) hx
  omega
theorem mul_right {i j : Int} (h0 : -(2 ^ 64) < j) (h : j < 2 ^ 64) : mulOk i j := .inl (.inr ⟨h0, h⟩)
theorem mul_left {i j : Int} (h0 : -(2 ^ 64) < i) (h : i < 2 ^ 64) : mulOk i j := .inl (.inl ⟨h0, h⟩)
/-- a pot of draws: the cell's own digits, a mixed number, how many were drawn -/
structure Pot where
  a : Int
  b : Int
  c : Int
def Pot.ok (p : Pot) (lim : Int) : Prop := 0 ≤ p.a ∧ 0 ≤ p.b ∧ p.b < 2 ^ 61 ∧ 0 ≤ p.c ∧ p.c ≤ lim
def Pot.ob (p : Pot) : Ob := .list [.int p.a, .int p.b, .int p.c]
/-- no pot has more draws -/
def LIM : Int := 1000000
/-- a pot at place p that has k draws left at least -/
def PotAt (m : Store) (p : Nat) (a : Pot) (k : Nat) : Prop := m[p]? = some a.ob ∧ a.ok (LIM - k)
def potB : S :=
  (.cons (.asg (.name 2) (.ite (.cmp .lt (.var 1) (.bi .len (.cons (.var 0) .nil))) (.idx (.var 0) (.var 1)) (.bin .add (.bin .mul (.cst (.int 41)) (.var 1)) (.cst (.int 13)))))
    (.cons (.asg (.name 3) (.bin .mul (.bin .mod (.bi .int (.cons (.bi .abs (.cons (.var 2) .nil)) .nil)) (.bin .pow (.bin .pow (.cst (.int 10)) (.cst (.int 60))) (.cst (.int 5)))) (.bi .int (.cons (.cmp .ge (.bi .abs (.cons (.var 2) .nil)) (.bin .pow (.cst (.int 10)) (.cst (.int 18)))) .nil))))
    (.cons (.asg (.name 4) (.bin .add (.bin .add (.bin .mul (.bin .mod (.bi .int (.cons (.var 2) .nil)) (.cst (.int 2305843009213693951))) (.cst (.int 70913))) (.bin .mul (.bin .mul (.cst (.int 6701)) (.var 1)) (.var 1))) (.cst (.int 59))))
    (.cons (.ret (.lst true (.cons (.var 3) (.cons (.bin .mod (.bi .int (.cons (.var 4) .nil)) (.cst (.int 2305843009213693921))) (.cons (.cst (.int 0)) .nil)))))
    .nil))))
/-- a new pot, of whatever digits -/
def fsPot : FS := fun args m Q _ => ∃ (o : Bool) (ns : List Int) (k : Nat), args = [.il o (ns.map .int), .int (k : Nat)] ∧ k < 1000 ∧ ∀ a : Pot, a.ok 0 → Q (.loc m.length) (m ++ [a.ob])
theorem pot_meets {F : Nat → FS} : Meets F 5 potB fsPot := by
  rintro args m Q R hm ha ⟨o, ns, k, rfl, hk, hQ⟩
  have p60 : powOk 10 60 := ⟨by decide, by decide +kernel⟩
  have p5 : powOk 1000000000000000000000000000000000000000000000000000000000000 5 := ⟨by decide, by decide +kernel⟩
  have p18 : powOk 10 18 := ⟨by decide, by decide +kernel⟩
  -- the end, whatever the cell is
  have key : ∀ cell : Int, wpS F (.cons (.asg (.name 3) (.bin .mul (.bin .mod (.bi .int (.cons (.bi .abs (.cons (.var 2) .nil)) .nil)) (.bin .pow (.bin .pow (.cst (.int 10)) (.cst (.int 60))) (.cst (.int 5)))) (.bi .int (.cons (.cmp .ge (.bi .abs (.cons (.var 2) .nil)) (.bin .pow (.cst (.int 10)) (.cst (.int 18)))) .nil))))
    (.cons (.asg (.name 4) (.bin .add (.bin .add (.bin .mul (.bin .mod (.bi .int (.cons (.var 2) .nil)) (.cst (.int 2305843009213693951))) (.cst (.int 70913))) (.bin .mul (.bin .mul (.cst (.int 6701)) (.var 1)) (.var 1))) (.cst (.int 59))))
    (.cons (.ret (.lst true (.cons (.var 3) (.cons (.bin .mod (.bi .int (.cons (.var 4) .nil)) (.cst (.int 2305843009213693921))) (.cons (.cst (.int 0)) .nil)))))
    .nil))) [some (.il o (ns.map .int)), some (.int k), some (.int cell), none, none] m (bodyEn m.length Q R) := by
    intro cell
    have hpos : (0 : Int) < ((10 : Int) ^ 60) ^ 5 := by decide
    have e60 : (60 : Int).toNat = 60 := rfl
    have e5 : (5 : Int).toNat = 5 := rfl
    have e18 : (18 : Int).toNat = 18 := rfl
    simp only [wpS_cons, wpS_asg, wpE_bin, wpE_bi, wpE_cons, wpE_var, wpE_nil, wpE_cst, wpE_cmp, wpS_ret, wpE_lst, wpS_nil, tgF_name]
    simp [p60, p5, p18, e60, e5, e18, hpos]
    refine ⟨mul_right ?_ ?_, mul_right (by decide) (by decide), mul_left (by decide) (by decide), mul_right (by omega) (by omega), by rw [sizeLine_is]; decide, ?_⟩
    · split <;> split <;> omega
    · split <;> split <;> omega
    refine .inl (hQ ⟨_, _, 0⟩ ⟨?_, ?_, ?_, Int.le_refl 0, Int.le_refl 0⟩)
    · refine Int.mul_nonneg (Int.emod_nonneg _ (by decide)) ?_
      split <;> split <;> omega
    · exact Int.emod_nonneg _ (by decide)
    · exact Int.lt_trans (Int.emod_lt_of_pos _ (by decide)) (by decide)
  unfold potB
  rw [wpS_cons, wpS_asg]
  simp only [wpE_ite, wpT_cmp, wpE_cmp, wpE_bin, wpE_bi, wpE_cons, wpE_var, wpE_nil, wpE_cst, wpE_idx, startE_def, tgF_name]
  simp
  by_cases h : k < ns.length
  · have e : atI (List.map Val.int ns) (k : Int) = some (.int ns[k]) := atI_nat (by simp [h])
    rw [if_pos (by simpa using h)]
    refine ⟨_, e, ?_⟩
    simpa [List.replicate] using key ns[k]
  · rw [if_neg (by simpa using h)]
    refine ⟨mul_left (by decide) (by decide), ?_⟩
    simpa [List.replicate] using key (41 * (k : Int) + 13)
def takeB : S :=
  (.cons (.ite (.cmp .gt (.idx (.var 0) (.cst (.int 0))) (.cst (.int 0)))
    (.cons (.asg (.name 4) (.bin .mod (.bi .int (.cons (.idx (.var 0) (.cst (.int 0))) .nil)) (.var 1)))
    (.cons (.setIx (.var 0) (.cst (.int 0)) (.bin .fdiv (.idx (.var 0) (.cst (.int 0))) (.var 1)))
    (.cons (.ret (.var 4))
    .nil)))
    .nil)
    (.cons (.setIx (.var 0) (.cst (.int 2)) (.bin .add (.idx (.var 0) (.cst (.int 2))) (.cst (.int 1))))
    (.cons (.asg (.name 2) (.idx (.lst false (.cons (.cst (.int 2147483647)) (.cons (.cst (.int 2147483629)) (.cons (.cst (.int 2147483587)) (.cons (.cst (.int 2147483579)) (.cons (.cst (.int 2147483563)) .nil)))))) (.bin .mod (.bi .int (.cons (.idx (.var 0) (.cst (.int 2))) .nil)) (.cst (.int 5)))))
    (.cons (.asg (.name 3) (.bin .mod (.bi .int (.cons (.bin .pow (.bi .int (.cons (.bin .add (.bin .add (.idx (.var 0) (.cst (.int 1))) (.bin .mul (.bin .mul (.cst (.int 98999)) (.idx (.var 0) (.cst (.int 2)))) (.idx (.var 0) (.cst (.int 2))))) (.cst (.int 43))) .nil)) (.cst (.int 3))) .nil)) (.var 2)))
    (.cons (.asg (.name 3) (.bin .mod (.bi .int (.cons (.bin .mul (.var 3) (.bin .add (.bin .mod (.bi .int (.cons (.var 3) .nil)) (.cst (.int 10007))) (.bin .mul (.cst (.int 79)) (.idx (.var 0) (.cst (.int 2)))))) .nil)) (.cst (.int 2305843009213693907))))
    (.cons (.ret (.bin .mod (.bi .int (.cons (.bin .fdiv (.var 3) (.cst (.int 103))) .nil)) (.var 1)))
    .nil))))))
/-- at most k draws from the pot at p, a value of which Post holds -/
def drawS (m : Store) (p k : Nat) (Post : Val → Prop) (Q : Val → Store → Prop) : Prop := ∃ a : Pot, PotAt m p a k ∧ ∀ (v : Val) (a' : Pot), Post v → a'.ok (a.c + k) → Q v (m.set p a'.ob)
def fsTake : FS := fun args m Q _ => ∃ (p : Nat) (n : Int), args = [.loc p, .int n] ∧ (0 < n ∧ n < 2 ^ 30) ∧ drawS m p 1 (fun v => ∃ d, v = .int d ∧ 0 ≤ d ∧ d < n) Q
@[simp] theorem atI0 {α : Type} (x : α) (r : List α) : atI (x :: r) 0 = some x := atI_nat (xs := x :: r) (j := 0) rfl
@[simp] theorem atI1 {α : Type} (x y : α) (r : List α) : atI (x :: y :: r) 1 = some y := atI_nat (xs := x :: y :: r) (j := 1) rfl
@[simp] theorem atI2 {α : Type} (x y z : α) (r : List α) : atI (x :: y :: z :: r) 2 = some z := atI_nat (xs := x :: y :: z :: r) (j := 2) rfl
@[simp] theorem atI3 {α : Type} (x y z u : α) (r : List α) : atI (x :: y :: z :: u :: r) 3 = some u := atI_nat (xs := x :: y :: z :: u :: r) (j := 3) rfl
theorem prime_at (i : Int) (h0 : 0 ≤ i) (h : i < 5) : ∃ u : Int, atI [Val.int 2147483647, .int 2147483629, .int 2147483587, .int 2147483579, .int 2147483563] i = some (.int u) ∧ 0 < u ∧ u < 2 ^ 31 := by
  have : i = 0 ∨ i = 1 ∨ i = 2 ∨ i = 3 ∨ i = 4 := by omega
  rcases this with z | z | z | z | z <;> subst z <;> exact ⟨_, rfl, by decide, by decide⟩
theorem take_meets {F : Nat → FS} : Meets F 5 takeB fsTake := by
  rintro args m Q R hm ha ⟨p, n, rfl, ⟨hn0, hn1⟩, ⟨a, b, c⟩, ⟨hp, h0, h1, h2, h3, h4⟩, hQ⟩
  have hl : p < m.length := (List.getElem?_eq_some_iff.mp hp).1
  have hp' : m[p]? = some (.list [.int a, .int b, .int c]) := hp
  simp only [LIM] at h4
  unfold takeB
  simp only [wpS_cons, wpS_ite, wpT_cmp, wpE_cmp, wpE_idx, wpE_var, wpE_cst, wpS_asg, wpE_bin, wpE_bi, wpE_cons, wpE_nil, wpS_setIx, wpS_ret, wpS_nil, wpE_lst, startE_def, tgF_name]
  simp [hp', atI0, atI1, atI2]
  by_cases hz : 0 < a
  · rw [if_pos hz]
    refine ⟨hn0, div_ok hn0 (by omega), 0, by simp [ixN], ?_⟩
    refine .inl (hQ _ ⟨a / n, b, c⟩ ⟨_, rfl, Int.emod_nonneg _ (by omega), Int.emod_lt_of_pos _ hn0⟩ ⟨?_, h1, h2, h3, ?_⟩)
    · exact Int.ediv_nonneg (by omega) (by omega)
    · show c ≤ c + 1
      omega
  · rw [if_neg hz]
    refine ⟨2, by simp [ixN], ?_⟩
    have hc : 0 ≤ c := h3
    have hb0 : 0 ≤ b := h1
    have hb1 : b < 2 ^ 61 := h2
    have hc4 : c ≤ 999999 := by simpa using h4
    obtain ⟨pr, e, hp0, hp1⟩ := prime_at ((c + 1) % 5) (Int.emod_nonneg _ (by decide)) (Int.emod_lt_of_pos _ (by decide))
    have hcc : (98999 * (c + 1)) * (c + 1) ≤ 98999 * 1000000 * 1000000 := Int.mul_le_mul (by omega) (by omega) (by omega) (by decide)
    have hcc0 : 0 ≤ (98999 * (c + 1)) * (c + 1) := Int.mul_nonneg (by omega) (by omega)
    have hpw : powOk (b + 98999 * (c + 1) * (c + 1) + 43) 3 := by
      refine ⟨by decide, ?_⟩
      have := bits_le (x := b + 98999 * (c + 1) * (c + 1) + 43) (n := 63) (by omega) (by omega) (by decide)
      omega
    have e3 : (3 : Int).toNat = 3 := rfl
    simp [hl, sizeLine_is, e, hp0, hpw, e3]
    refine ⟨mul_left (by decide) (by decide), mul_right (by omega) (by omega), mul_left (by decide) (by decide), ?_, div_ok (by decide) (by decide), hn0, ?_⟩
    · have g1 : 0 ≤ (b + 98999 * (c + 1) * (c + 1) + 43) ^ 3 % pr := Int.emod_nonneg _ (by omega)
      have g2 : (b + 98999 * (c + 1) * (c + 1) + 43) ^ 3 % pr < pr := Int.emod_lt_of_pos _ hp0
      exact mul_left (by omega) (by omega)
    · refine .inl (hQ _ ⟨a, b, c + 1⟩ ⟨_, rfl, Int.emod_nonneg _ (by omega), Int.emod_lt_of_pos _ hn0⟩ ⟨h0, h1, h2, ?_, ?_⟩)
      · show 0 ≤ c + 1
        omega
      · show c + 1 ≤ c + 1
        omega
/-! ### picks, lists of draws, loops of draws -/
def pick : Val → Option (List Val)
  | .str t => some (t.map fun c => .str [c])
  | .il _ vs => some vs
  | .tup vs => some vs
  | _ => none
def ofB (t : Nat) : S := .cons (.ret (.idx (.var 1) (.call t (.cons (.var 0) (.cons (.bi .len (.cons (.var 1) .nil)) .nil))))) .nil
def fsOf : FS := fun args m Q _ => ∃ (p : Nat) (s : Val) (vs : List Val), args = [.loc p, s] ∧ pick s = some vs ∧ vs ≠ [] ∧ vs.length < 2 ^ 20 ∧ drawS m p 1 (fun v => v ∈ vs) Q
theorem atI_mem {α : Type} {xs : List α} {d : Int} (h0 : 0 ≤ d) (h : d < xs.length) : ∃ v, v ∈ xs ∧ atI xs d = some v := by
  obtain ⟨n, rfl⟩ := Int.eq_ofNat_of_zero_le h0
  have hn : n < xs.length := by omega
  exact ⟨xs[n], List.getElem_mem hn, atI_nat (List.getElem?_eq_getElem hn)⟩
theorem of_meets {F : Nat → FS} {t : Nat} (hF : F t = fsTake) : Meets F 2 (ofB t) fsOf := by
  rintro args m Q R hm ha ⟨p, s, vs, rfl, hs, hne, hl, a, hp, hQ⟩
  unfold ofB
  have hpos : 0 < vs.length := List.length_pos_iff.mpr hne
  cases s with
  | str t =>
    cases hs
    simp at hl hpos
    simp [hF, fsTake, sizeLine_is]
    refine ⟨by omega, p, t.length, ⟨rfl, rfl⟩, ⟨by omega, by omega⟩, a, hp, ?_⟩
    rintro v a' ⟨d, rfl, h0, h1⟩ hok
    obtain ⟨c, hc, e⟩ := atI_mem h0 h1
    have hz : t.length ≤ 16777216 := by omega
    simp [hz, e]
    exact ⟨_, ⟨by rw [sizeLine_is]; exact hz, rfl⟩, .inl (hQ _ a' (List.mem_map.mpr ⟨c, hc, rfl⟩) hok)⟩
  | il o ws =>
    cases hs
    simp [hF, fsTake]
    refine ⟨p, vs.length, ⟨rfl, rfl⟩, ⟨by omega, by omega⟩, a, hp, ?_⟩
    rintro v a' ⟨d, rfl, h0, h1⟩ hok
    obtain ⟨c, hc, e⟩ := atI_mem h0 h1
    exact ⟨c, by simpa using e, .inl (hQ _ a' hc hok)⟩
  | tup ws =>
    cases hs
    simp [hF, fsTake]
    refine ⟨p, vs.length, ⟨rfl, rfl⟩, ⟨by omega, by omega⟩, a, hp, ?_⟩
    rintro v a' ⟨d, rfl, h0, h1⟩ hok
    obtain ⟨c, hc, e⟩ := atI_mem h0 h1
    exact ⟨c, by simpa using e, .inl (hQ _ a' hc hok)⟩
  | _ => cases hs
theorem PotAt.lt {m : Store} {p : Nat} {a : Pot} {k : Nat} (h : PotAt m p a k) : p < m.length := (List.getElem?_eq_some_iff.mp h.1).1
theorem PotAt.mono {m : Store} {p : Nat} {a : Pot} {k j : Nat} (h : PotAt m p a k) (hj : j ≤ k) : PotAt m p a j := by
  obtain ⟨h1, h2, h3, h4, h5, h6⟩ := h
  exact ⟨h1, h2, h3, h4, h5, by omega⟩
theorem PotAt.next {m : Store} {p : Nat} {a a' : Pot} {k j : Nat} (h : PotAt m p a (k + j)) (h' : a'.ok (a.c + k)) : PotAt (m.set p a'.ob) p a' j := by
  have hl := h.lt
  obtain ⟨h1, h2, h3, h4, h5, h6⟩ := h
  obtain ⟨g2, g3, g4, g5, g6⟩ := h'
  refine ⟨by rw [List.getElem?_set_self hl], g2, g3, g4, g5, ?_⟩
  push_cast at h6
  omega
theorem PotAt.self {m : Store} {p : Nat} {a : Pot} {k : Nat} (h : PotAt m p a k) : m.set p a.ob = m := by
  apply List.ext_getElem?
  intro i
  by_cases hi : i = p
  · subst hi; rw [List.getElem?_set_self h.lt, h.1]
  · rw [List.getElem?_set_ne (Ne.symm hi)]
theorem Pot.ok_self {a : Pot} {l : Int} {k : Int} (h : a.ok l) (hk : 0 ≤ k) : a.ok (a.c + k) := ⟨h.1, h.2.1, h.2.2.1, h.2.2.2.1, by omega⟩
theorem Pot.ok_mono {a : Pot} {l l' : Int} (h : a.ok l) (hk : l ≤ l') : a.ok l' := ⟨h.1, h.2.1, h.2.2.1, h.2.2.2.1, Int.le_trans h.2.2.2.2 hk⟩
/-- first some draws, then others -/
theorem draw_seq {m : Store} {p k j : Nat} {a : Pot} {Q : Pot → Store → Prop} (h : PotAt m p a (k + j)) (hQ : ∀ a' : Pot, a'.ok (a.c + (k + j : Nat)) → Q a' (m.set p a'.ob)) {a1 : Pot} (h1 : a1.ok (a.c + k)) :
    PotAt (m.set p a1.ob) p a1 j ∧ ∀ a' : Pot, a'.ok (a1.c + j) → Q a' ((m.set p a1.ob).set p a'.ob) := by
  refine ⟨h.next h1, fun a' h' => ?_⟩
  rw [List.set_set]
  refine hQ a' (Pot.ok_mono h' ?_)
  have := h1.2.2.2.2
  push_cast
  omega
theorem lc_draw {live : Store → Prop} {body : Val → Store → (Option Val → Store → Prop) → Prop} {fin : List Val → Store → Prop} {p k : Nat} {Post : Val → Prop} (hlive : ∀ m, live m)
    (hb : ∀ x m P, drawS m p k Post (fun v m' => P (some v) m') → body x m P) : ∀ (items acc : List Val) (m : Store) (a : Pot), PotAt m p a (k * items.length) → acc.length + items.length ≤ sizeLine →
      (∀ (ws : List Val) (a' : Pot), ws.length = items.length → (∀ v ∈ ws, Post v) → a'.ok (a.c + (k * items.length : Nat)) → fin (acc ++ ws) (m.set p a'.ob)) → lcW live body items acc m fin
  | [], acc, m, a, hp, hl, h => by
    have := h [] a rfl (fun _ z => by cases z) (Pot.ok_self hp.2 (by simp))
    rw [hp.self, List.append_nil] at this
    exact ⟨hlive m, this⟩
  | x :: xs, acc, m, a, hp, hl, h => by
    refine ⟨hlive m, hb x m _ ?_⟩
    simp only [List.length_cons] at hp hl h
    have e : k * (xs.length + 1) = k + k * xs.length := by rw [Nat.mul_add, Nat.mul_one, Nat.add_comm]
    rw [e] at hp
    refine ⟨a, hp.mono (by omega), fun v a1 hv h1 => ⟨by omega, ?_⟩⟩
    refine lc_draw hlive hb xs (acc ++ [v]) (m.set p a1.ob) a1 (hp.next h1) (by simp; omega) fun ws a' hw hP ho => ?_
    rw [List.set_set, List.append_assoc]
    refine h (v :: ws) a' (by simp [hw]) (fun z hz => ?_) (Pot.ok_mono ho ?_)
    · rcases List.mem_cons.mp hz with rfl | hz
      · exact hv
      · exact hP z hz
    · have := h1.2.2.2.2
      rw [e]
      push_cast
      omega
theorem for_draw {live : Store → Prop} {step : Val → Env → Store → (Env → Store → Prop) → Prop} {fin : Env → Store → Prop} {p k : Nat} (I : Env → Prop) (hlive : ∀ m, live m)
    (hb : ∀ x r m nx a, I r → PotAt m p a k → (∀ (r' : Env) (a' : Pot), I r' → a'.ok (a.c + k) → nx r' (m.set p a'.ob)) → step x r m nx) : ∀ (items : List Val) (r : Env) (m : Store) (a : Pot), I r → PotAt m p a (k * items.length) →
      (∀ (r' : Env) (a' : Pot), I r' → a'.ok (a.c + (k * items.length : Nat)) → fin r' (m.set p a'.ob)) → forW live step fin items r m
  | [], r, m, a, hi, hp, h => by
    have := h r a hi (Pot.ok_self hp.2 (by simp))
    rw [hp.self] at this
    exact ⟨hlive m, this⟩
  | x :: xs, r, m, a, hi, hp, h => by
    simp only [List.length_cons] at hp h
    have e : k * (xs.length + 1) = k + k * xs.length := by rw [Nat.mul_add, Nat.mul_one, Nat.add_comm]
    rw [e] at hp
    refine ⟨hlive m, hb x r m _ a hi (hp.mono (by omega)) fun r' a1 hi' h1 => ?_⟩
    refine for_draw I hlive hb xs r' (m.set p a1.ob) a1 hi' (hp.next h1) fun r2 a' hi2 ho => ?_
    rw [List.set_set]
    refine h r2 a' hi2 (Pot.ok_mono ho ?_)
    have := h1.2.2.2.2
    rw [e]
    push_cast
    omega
/-- a comprehension whose turns are plain functions -/
theorem lc_pure {live : Store → Prop} {body : Val → Store → (Option Val → Store → Prop) → Prop} {fin : List Val → Store → Prop} {f : Val → Val} {m : Store} (hl : live m) :
    ∀ (items acc : List Val), (∀ x ∈ items, ∀ P, P (some (f x)) m → body x m P) → acc.length + items.length ≤ sizeLine → fin (acc ++ items.map f) m → lcW live body items acc m fin
  | [], acc, _, _, h => ⟨hl, by simpa using h⟩
  | c :: t, acc, hb, hz, h => by
    refine ⟨hl, hb c List.mem_cons_self _ ⟨by simp at hz; omega, lc_pure hl t _ (fun x hx => hb x (List.mem_cons_of_mem _ hx)) (by simp at hz ⊢; omega) ?_⟩⟩
    simpa using h
/-- a comprehension of truths of signs -/
theorem lc_signs {live : Store → Prop} {body : Val → Store → (Option Val → Store → Prop) → Prop} {fin : List Val → Store → Prop} {f : Nat → Bool} {m : Store} (hl : live m) (hb : ∀ c P, P (some (.bool (f c))) m → body (.str [c]) m P) :
    ∀ (t : Text) (acc : List Val), acc.length + t.length ≤ sizeLine → fin (acc ++ t.map fun c => .bool (f c)) m → lcW live body (t.map fun c => .str [c]) acc m fin
  | [], acc, _, h => ⟨hl, by simpa using h⟩
  | c :: t, acc, hz, h => by
    refine ⟨hl, hb c _ ⟨by simp at hz; omega, lc_signs hl hb t _ (by simp at hz ⊢; omega) ?_⟩⟩
    simpa using h
end Dy

/-! Dp, part N: data compared, searched, shown. -/
namespace Dy
open PySem L2
/-- signs that there are -/
def signs (s : Text) : Bool := s.all (· < 0x110000)
mutual
/-- plain data -/
def lay : Val → Bool
  | .str s => signs s
  | .tup vs => lays vs
  | .il _ vs => lays vs
  | .non => true
  | .bool _ => true
  | .int _ => true
  | _ => false
def lays : List Val → Bool
  | [] => true
  | v :: vs => lay v && lays vs
end
mutual
def dep : Val → Nat
  | .tup vs => deps vs + 1
  | .il _ vs => deps vs + 1
  | .dic _ vs => deps vs + 1
  | _ => 0
def deps : List Val → Nat
  | [] => 0
  | v :: vs => max (dep v) (deps vs)
end
mutual
/-- equal as Python has it -/
def veqv : Val → Val → Bool
  | .non, .non => true
  | .bool a, .bool b => a == b
  | .bool a, .int j => (if a then 1 else 0) == j
  | .int i, .bool b => i == (if b then 1 else 0)
  | .int i, .int j => i == j
  | .str x, .str y => x == y
  | .il _ xs, .il _ ys => veqvs xs ys
  | .tup xs, .tup ys => veqvs xs ys
  | _, _ => false
def veqvs : List Val → List Val → Bool
  | [], [] => true
  | x :: xs, y :: ys => veqv x y && veqvs xs ys
  | _, _ => false
end
mutual
theorem lay_pd : ∀ {v : Val}, lay v = true → ∃ d, pd v = some d ∧ d.canLay0 = true ∧ d.depth = dep v ∧ d.hasDict = false
  | .non, _ => ⟨_, rfl, rfl, rfl, rfl⟩
  | .bool b, _ => ⟨_, rfl, rfl, rfl, rfl⟩
  | .int i, _ => ⟨_, rfl, rfl, rfl, rfl⟩
  | .str s, h => ⟨_, rfl, by simp only [lay, signs] at h; simp only [PyData.canLay0, PyData.strOk]; simpa using h, rfl, rfl⟩
  | .tup vs, h => by
    obtain ⟨ds, e, h1, h2, h3⟩ := lays_pds (vs := vs) (by simpa only [lay] using h)
    exact ⟨.tuple ds, by simp only [pd, e, Option.map_some], by simp only [PyData.canLay0]; exact h1, by simp only [PyData.depth, dep, h2], by simp only [PyData.hasDict]; exact h3⟩
  | .il o vs, h => by
    obtain ⟨ds, e, h1, h2, h3⟩ := lays_pds (vs := vs) (by simpa only [lay] using h)
    exact ⟨.list ds, by simp only [pd, e, Option.map_some], by simp only [PyData.canLay0]; exact h1, by simp only [PyData.depth, dep, h2], by simp only [PyData.hasDict]; exact h3⟩
  | .loc n, h => by simp [lay] at h
  | .err _ _, h => by simp [lay] at h
  | .dic _ _, h => by simp [lay] at h
  | .fn _, h => by simp [lay] at h
theorem lays_pds : ∀ {vs : List Val}, lays vs = true → ∃ ds, pds vs = some ds ∧ PyData.canLayAll0 ds = true ∧ PyData.depthAll ds = deps vs ∧ PyData.hasDictAll ds = false
  | [], _ => ⟨[], rfl, rfl, rfl, rfl⟩
  | v :: vs, h => by
    simp only [lays, Bool.and_eq_true] at h
    obtain ⟨d, e, h1, h2, h3⟩ := lay_pd h.1
    obtain ⟨ds, e', g1, g2, g3⟩ := lays_pds h.2
    exact ⟨d :: ds, by simp only [pds, e, e', Option.bind_some, Option.map_some], by simp only [PyData.canLayAll0, h1, g1, Bool.and_self], by simp only [PyData.depthAll, deps, h2, g2], by simp only [PyData.hasDictAll, h3, g3, Bool.or_self]⟩
end
mutual
theorem eqv_veqv : ∀ {a b : Val} {d e : PyData}, pd a = some d → pd b = some e → PyData.eqv d e = veqv a b
  | .non, b, d, e, h1, h2 => by
    cases h1
    cases b <;> simp only [pd, Option.map_eq_some_iff, Option.some.injEq] at h2 <;> first | (obtain ⟨_, _, rfl⟩ := h2; simp [PyData.eqv, veqv]) | (subst h2; simp [PyData.eqv, veqv]) | cases h2
  | .bool x, b, d, e, h1, h2 => by
    cases h1
    cases b <;> simp only [pd, Option.map_eq_some_iff, Option.some.injEq] at h2 <;> first | (obtain ⟨_, _, rfl⟩ := h2; simp [PyData.eqv, veqv]) | (subst h2; simp [PyData.eqv, veqv]) | cases h2
  | .int x, b, d, e, h1, h2 => by
    cases h1
    cases b <;> simp only [pd, Option.map_eq_some_iff, Option.some.injEq] at h2 <;> first | (obtain ⟨_, _, rfl⟩ := h2; simp [PyData.eqv, veqv]) | (subst h2; simp [PyData.eqv, veqv]) | cases h2
  | .str x, b, d, e, h1, h2 => by
    cases h1
    cases b with
    | str y => cases h2; simp only [PyData.eqv, veqv]; exact SX.S_beq x y
    | tup ys =>
      simp only [pd, Option.map_eq_some_iff] at h2
      obtain ⟨es, e2, rfl⟩ := h2
      simp [PyData.eqv, veqv]
    | il o ys =>
      simp only [pd, Option.map_eq_some_iff] at h2
      obtain ⟨es, e2, rfl⟩ := h2
      simp [PyData.eqv, veqv]
    | loc n => cases h2
    | err _ _ => cases h2
    | dic _ _ => cases h2
    | fn _ => cases h2
    | _ => cases h2; simp [PyData.eqv, veqv]
  | .tup xs, b, d, e, h1, h2 => by
    simp only [pd, Option.map_eq_some_iff] at h1
    obtain ⟨ds, e1, rfl⟩ := h1
    cases b with
    | tup ys =>
      simp only [pd, Option.map_eq_some_iff] at h2
      obtain ⟨es, e2, rfl⟩ := h2
      simp only [PyData.eqv, veqv]
      exact eqvs_veqvs e1 e2
    | il o ys =>
      simp only [pd, Option.map_eq_some_iff] at h2
      obtain ⟨es, e2, rfl⟩ := h2
      simp [PyData.eqv, veqv]
    | loc n => cases h2
    | err _ _ => cases h2
    | dic _ _ => cases h2
    | fn _ => cases h2
    | _ => cases h2; simp [PyData.eqv, veqv]
  | .il o xs, b, d, e, h1, h2 => by
    simp only [pd, Option.map_eq_some_iff] at h1
    obtain ⟨ds, e1, rfl⟩ := h1
    cases b with
    | il o ys =>
      simp only [pd, Option.map_eq_some_iff] at h2
      obtain ⟨es, e2, rfl⟩ := h2
      simp only [PyData.eqv, veqv]
      exact eqvs_veqvs e1 e2
    | tup ys =>
      simp only [pd, Option.map_eq_some_iff] at h2
      obtain ⟨es, e2, rfl⟩ := h2
      simp [PyData.eqv, veqv]
    | loc n => cases h2
    | err _ _ => cases h2
    | dic _ _ => cases h2
    | fn _ => cases h2
    | _ => cases h2; simp [PyData.eqv, veqv]
  | .loc n, _, _, _, h1, _ => by cases h1
  | .err _ _, _, _, _, h1, _ => by cases h1
  | .dic _ _, _, _, _, h1, _ => by cases h1
  | .fn _, _, _, _, h1, _ => by cases h1
theorem eqvs_veqvs : ∀ {a b : List Val} {d e : List PyData}, pds a = some d → pds b = some e → PyData.eqvAll d e = veqvs a b
  | [], [], d, e, h1, h2 => by cases h1; cases h2; simp [PyData.eqvAll, veqvs]
  | [], y :: ys, d, e, h1, h2 => by
    cases h1
    simp only [pds, Option.bind_eq_some_iff, Option.map_eq_some_iff] at h2
    obtain ⟨_, _, _, _, rfl⟩ := h2
    simp [PyData.eqvAll, veqvs]
  | x :: xs, [], d, e, h1, h2 => by
    cases h2
    simp only [pds, Option.bind_eq_some_iff, Option.map_eq_some_iff] at h1
    obtain ⟨_, _, _, _, rfl⟩ := h1
    simp [PyData.eqvAll, veqvs]
  | x :: xs, y :: ys, d, e, h1, h2 => by
    simp only [pds, Option.bind_eq_some_iff, Option.map_eq_some_iff] at h1 h2
    obtain ⟨a1, b1, c1, d1, rfl⟩ := h1
    obtain ⟨a2, b2, c2, d2, rfl⟩ := h2
    simp only [PyData.eqvAll, veqvs, eqv_veqv b1 b2, eqvs_veqvs d1 d2]
end
/-- data that may be compared -/
def cmpV (v : Val) : Bool := lay v && decide (dep v ≤ 64)
theorem pdm_lay {m : Store} {v : Val} (h : lay v = true) : pdm m v = pd v := by
  cases v <;> first | rfl | simp [lay] at h
theorem cmpV_pd {m : Store} {v : Val} (h : cmpV v = true) : ∃ d, pdm m v = some d ∧ pd v = some d ∧ SeqAt.shaped d = true := by
  unfold cmpV at h
  simp only [Bool.and_eq_true, decide_eq_true_eq] at h
  obtain ⟨d, e, h1, h2, _⟩ := lay_pd h.1
  exact ⟨d, by rw [pdm_lay h.1]; exact e, e, by unfold SeqAt.shaped; rw [h1, h2]; simpa using h.2⟩
section
variable {m : Store} {T : Bool → Prop} {a b : Val}
theorem cmp_eqG (h1 : cmpV a = true) (h2 : cmpV b = true) (h : T (veqv a b)) : cmpW .eq a b m T := by
  obtain ⟨d, e1, e2, e3⟩ := cmpV_pd (m := m) h1
  obtain ⟨e, f1, f2, f3⟩ := cmpV_pd (m := m) h2
  refine .inl ⟨d, e, e1, f1, ?_, by rw [eqv_veqv e2 f2]; exact h⟩
  unfold eqOk
  rw [e3, f3]; simp
theorem cmp_neG (h1 : cmpV a = true) (h2 : cmpV b = true) (h : T (!veqv a b)) : cmpW .ne a b m T := by
  obtain ⟨d, e1, e2, e3⟩ := cmpV_pd (m := m) h1
  obtain ⟨e, f1, f2, f3⟩ := cmpV_pd (m := m) h2
  refine .inl ⟨d, e, e1, f1, ?_, by rw [eqv_veqv e2 f2]; exact h⟩
  unfold eqOk
  rw [e3, f3]; simp
theorem any_veqv {x : Val} {d : PyData} (hx : pd x = some d) : ∀ {vs : List Val} {ds : List PyData}, pds vs = some ds → (ds.any fun z => PyData.eqv z d) = vs.any fun z => veqv z x
  | [], ds, h => by cases h; rfl
  | v :: vs, ds, h => by
    simp only [pds, Option.bind_eq_some_iff, Option.map_eq_some_iff] at h
    obtain ⟨e, h1, es, h2, rfl⟩ := h
    rw [List.any_cons, List.any_cons, eqv_veqv h1 hx, any_veqv hx h2]
theorem inL {neg : Bool} {o : Bool} {vs : List Val} (ha : ∀ s, a ≠ .str s ∨ True) (h1 : cmpV a = true) (h2 : cmpV (.il o vs) = true) (h : T (neg != vs.any fun z => veqv z a)) : inW neg a (.il o vs) m T := by
  obtain ⟨d, e1, e2, e3⟩ := cmpV_pd (m := m) h1
  obtain ⟨e, f1, f2, f3⟩ := cmpV_pd (m := m) h2
  simp only [pd, Option.map_eq_some_iff] at f2
  obtain ⟨ds, g1, rfl⟩ := f2
  have key : ∃ d e, pdm m a = some d ∧ pdm m (.il o vs) = some e ∧ inOk d e = true ∧ T (neg != (itemsP e).any fun z => PyData.eqv z d) :=
    ⟨d, _, e1, f1, by simp only [inOk, e3, f3, Bool.and_self], by simp only [itemsP]; rw [any_veqv e2 g1]; exact h⟩
  unfold inW
  split
  · rename_i hq; cases hq
  · exact key
/-- plain things -/
def flatS : Val → Bool
  | .non => true
  | .bool _ => true
  | .int _ => true
  | .str _ => true
  | _ => false
theorem flatS_pd {v : Val} (h : flatS v = true) : ∃ d, pd v = some d ∧ flatP d = true ∧ ∀ m, pdm m v = some d := by
  cases v <;> first | exact ⟨_, rfl, rfl, fun _ => rfl⟩ | cases h
theorem flatS_pds : ∀ {vs : List Val}, vs.all flatS = true → ∃ ds, pds vs = some ds ∧ ds.all flatP = true
  | [], _ => ⟨[], rfl, rfl⟩
  | v :: vs, h => by
    rw [List.all_cons, Bool.and_eq_true] at h
    obtain ⟨d, e, f, _⟩ := flatS_pd h.1
    obtain ⟨ds, e', f'⟩ := flatS_pds h.2
    exact ⟨d :: ds, by simp only [pds, e, e', Option.bind_some, Option.map_some], by rw [List.all_cons, f, f']; rfl⟩
theorem inT {neg : Bool} {vs : List Val} (h1 : flatS a = true) (h2 : vs.all flatS = true) (h : T (neg != vs.any fun z => veqv z a)) : inW neg a (.tup vs) m T := by
  obtain ⟨d, e1, e2, e3⟩ := flatS_pd h1
  obtain ⟨ds, f1, f2⟩ := flatS_pds h2
  have key : ∃ d e, pdm m a = some d ∧ pdm m (.tup vs) = some e ∧ inOk d e = true ∧ T (neg != (itemsP e).any fun z => PyData.eqv z d) :=
    ⟨d, .tuple ds, e3 m, by simp only [pdm, pd, f1, Option.map_some], by simp only [inOk, e2, f2, Bool.and_self], by simp only [itemsP]; rw [any_veqv e1 f1]; exact h⟩
  unfold inW
  split
  · rename_i hq; cases hq
  · exact key
end
/-! ### shown -/
mutual
/-- can be shown -/
def shw : Val → Bool
  | .non => true
  | .bool _ => true
  | .int i => decide (i.natAbs.log2 < 1920)
  | .str s => signs s
  | .tup vs => shws vs
  | .il _ vs => shws vs
  | .dic ks vs => ks.all signs && (ks.length == vs.length) && shws vs
  | _ => false
def shws : List Val → Bool
  | [] => true
  | v :: vs => shw v && shws vs
end
def ksz : List Text → Nat
  | [] => 0
  | k :: ks => 10 * k.length + 4 + ksz ks
mutual
/-- no longer than this -/
def rsz : Val → Nat
  | .non => 4
  | .bool _ => 5
  | .int i => i.natAbs.log2 + 2
  | .str s => 10 * s.length + 2
  | .tup vs => rszs vs + 4
  | .il _ vs => rszs vs + 4
  | .dic ks vs => ksz ks + rszs vs + 4
  | _ => 0
def rszs : List Val → Nat
  | [] => 0
  | v :: vs => rsz v + 2 + rszs vs
end
def lensum : List Str → Nat
  | [] => 0
  | x :: r => x.length + 2 + lensum r
theorem strlen_app (a b : Str) : (a ++ b).length = a.length + b.length := by rw [Str.length_append]
theorem join_le : ∀ ts : List Str, (Str.join ", " ts).length ≤ lensum ts
  | [] => Nat.zero_le _
  | [x] => by show x.length ≤ x.length + 2 + 0; omega
  | x :: y :: r => by
    have ih := join_le (y :: r)
    show (x ++ ", " ++ Str.join ", " (y :: r)).length ≤ x.length + 2 + lensum (y :: r)
    rw [strlen_app, strlen_app]
    have e2 : ((", " : String) : Str).length = 2 := rfl
    omega
theorem from_le : ∀ (ts : List Str) (k : Nat) (acc : Str), (textFrom k acc ts).length ≤ acc.length + lensum ts
  | [], _, _ => Nat.le_refl _
  | t :: r, k, acc => by
    have ih := from_le r (k + 1) (acc ++ (if k > 0 then ", " else "" : String) ++ t)
    show (textFrom (k + 1) (acc ++ (if k > 0 then ", " else "" : String) ++ t) r).length ≤ acc.length + (t.length + 2 + lensum r)
    rw [strlen_app, strlen_app] at ih
    have e2 : (((if k > 0 then ", " else "" : String)) : Str).length ≤ 2 := by split <;> decide
    omega
theorem str_shown {s : Text} (h : signs s = true) : (PyData.str (SX.S s)).shown.length ≤ 10 * s.length + 2 := by
  have := StrLaws.reprText_len (SX.S s) (fun c hc => by
    simp only [signs, List.all_eq_true, decide_eq_true_eq] at h
    have := h c (by simpa using hc)
    have e : (16 : Nat) ^ 8 = 4294967296 := by decide
    omega)
  rw [SX.S_len] at this
  exact this
/-- a dict's entries -/
theorem kv_shown : ∀ {ks : List Text} {ds : List PyData} {n : Nat}, ks.all signs = true → ks.length = ds.length → PyData.showableAll ds = true → lensum (PyData.shownAll ds) ≤ n →
    PyData.showableKv ((ks.map fun t => PyData.str (SX.S t)).zip ds) = true ∧ PyData.depthKv ((ks.map fun t => PyData.str (SX.S t)).zip ds) = PyData.depthAll ds ∧ lensum (PyData.shownKv ((ks.map fun t => PyData.str (SX.S t)).zip ds)) ≤ ksz ks + n
  | [], [], n, _, _, _, _ => ⟨rfl, rfl, Nat.zero_le _⟩
  | [], _ :: _, _, _, hl, _, _ => by simp at hl
  | _ :: _, [], _, _, hl, _, _ => by simp at hl
  | k :: ks, d :: ds, n, hk, hl, hs, hn => by
    rw [List.all_cons, Bool.and_eq_true] at hk
    simp only [PyData.showableAll, Bool.and_eq_true] at hs
    simp only [PyData.shownAll, lensum] at hn
    obtain ⟨a, b, c⟩ := kv_shown (ks := ks) (ds := ds) (n := n - (d.shown.length + 2)) hk.2 (by simpa using hl) hs.2 (by omega)
    have hz := str_shown hk.1
    refine ⟨?_, ?_, ?_⟩
    · simp only [List.map_cons, List.zip_cons_cons, PyData.showableKv, Bool.and_eq_true]
      exact ⟨⟨rfl, hs.1⟩, a⟩
    · simp only [List.map_cons, List.zip_cons_cons, PyData.depthKv, PyData.depthAll, b]
      simp [PyData.depth]
    · simp only [List.map_cons, List.zip_cons_cons, PyData.shownKv, lensum, ksz]
      rw [strlen_app, strlen_app]
      have e2 : ((": " : String) : Str).length = 2 := rfl
      omega
mutual
theorem shw_pr : ∀ {v : Val}, shw v = true → ∃ d, pr v = some d ∧ d.showable = true ∧ d.depth = dep v ∧ d.shown.length ≤ rsz v
  | .non, _ => ⟨_, rfl, rfl, rfl, by decide +kernel⟩
  | .bool b, _ => ⟨_, rfl, rfl, rfl, by cases b <;> decide +kernel⟩
  | .int i, h => by
    have h' : i.natAbs.log2 < 1920 := by simpa only [shw, decide_eq_true_eq] using h
    refine ⟨_, rfl, by simpa only [PyData.showable, decide_eq_true_eq] using h', rfl, ?_⟩
    have := int_text_length_le (a := i) (k := i.natAbs.log2 + 1) (by omega) (by omega)
    show (Str.ofString (toString i)).length ≤ i.natAbs.log2 + 2
    have e : (Str.ofString (toString i)).length = (toString i).length := by
      show (Str.ofString (toString i)).cps.size = _
      rw [← Array.length_toList]
      show (TL.tl (Str.ofString (toString i))).length = _
      rw [TL.tl_ofString, List.length_map, String.length_toList]
    omega
  | .str s, h => ⟨_, rfl, rfl, rfl, str_shown (by simpa only [shw] using h)⟩
  | .tup vs, h => by
    obtain ⟨ds, e, h1, h2, h4, _⟩ := shws_prs (vs := vs) (by simpa only [shw] using h)
    refine ⟨.tuple ds, by simp only [pr, e, Option.map_some], by simp only [PyData.showable]; exact h1, by simp only [PyData.depth, dep, h2], ?_⟩
    simp only [PyData.shown, tupleText, rsz]
    rw [strlen_app, strlen_app]
    have e1 : (("(" : String) : Str).length = 1 := rfl
    have e2 : (((if (PyData.shownAll ds).length == 1 then ",)" else ")" : String)) : Str).length ≤ 2 := by split <;> decide
    have := join_le (PyData.shownAll ds)
    omega
  | .il o vs, h => by
    obtain ⟨ds, e, h1, h2, h4, _⟩ := shws_prs (vs := vs) (by simpa only [shw] using h)
    refine ⟨.list ds, by simp only [pr, e, Option.map_some], by simp only [PyData.showable]; exact h1, by simp only [PyData.depth, dep, h2], ?_⟩
    simp only [PyData.shown, listText, rsz]
    rw [strlen_app]
    have e1 : (("[" : String) : Str).length = 1 := rfl
    have e2 : (("]" : String) : Str).length = 1 := rfl
    have := from_le (PyData.shownAll ds) 0 "["
    omega
  | .dic ks vs, h => by
    simp only [shw, Bool.and_eq_true, beq_iff_eq] at h
    obtain ⟨ds, e, h1, h2, h4, h5⟩ := shws_prs (vs := vs) h.2
    obtain ⟨k1, k2, k3⟩ := kv_shown (n := rszs vs) h.1.1 (by rw [h.1.2, h5]) h1 h4
    refine ⟨.dict ((ks.map fun t => PyData.str (SX.S t)).zip ds), by simp only [pr, e, Option.map_some], by simp only [PyData.showable]; exact k1, by simp only [PyData.depth, dep, k2, h2], ?_⟩
    simp only [PyData.shown, dictText, rsz]
    rw [strlen_app, strlen_app]
    have e1 : (("{" : String) : Str).length = 1 := rfl
    have e2 : (("}" : String) : Str).length = 1 := rfl
    have := join_le (PyData.shownKv ((ks.map fun t => PyData.str (SX.S t)).zip ds))
    omega
  | .loc n, h => by simp [shw] at h
  | .err _ _, h => by simp [shw] at h
  | .fn _, h => by simp [shw] at h
theorem shws_prs : ∀ {vs : List Val}, shws vs = true → ∃ ds, prs vs = some ds ∧ PyData.showableAll ds = true ∧ PyData.depthAll ds = deps vs ∧ lensum (PyData.shownAll ds) ≤ rszs vs ∧ vs.length = ds.length
  | [], _ => ⟨[], rfl, rfl, rfl, Nat.le_refl _, rfl⟩
  | v :: vs, h => by
    simp only [shws, Bool.and_eq_true] at h
    obtain ⟨d, e, h1, h2, h4⟩ := shw_pr h.1
    obtain ⟨ds, e', g1, g2, g4, g5⟩ := shws_prs h.2
    refine ⟨d :: ds, by simp only [prs, e, e', Option.bind_some, Option.map_some], by simp only [PyData.showableAll, h1, g1, Bool.and_self], by simp only [PyData.depthAll, deps, h2, g2], ?_, by simp [g5]⟩
    simp only [PyData.shownAll, lensum, rszs]
    omega
end
/-- what repr tells -/
def reprV (v : Val) : Text := match pr v with | some d => d.shown.cps.toList | none => []
theorem bi_reprG {m : Store} {v : Val} {Q : Val → Store → Prop} (h1 : shw v = true) (h2 : dep v ≤ 60) (h3 : rsz v ≤ sizeLine) (h : Q (.str (reprV v)) m) : biW .repr [v] m Q := by
  obtain ⟨d, e, g1, g2, g4⟩ := shw_pr h1
  refine ⟨d, ?_, ⟨g1, by omega, by omega⟩, ?_⟩
  · cases v <;> first | exact e | simp [shw] at h1
  · unfold reprV at h
    rw [e] at h
    exact h
/-- the same of a changing list -/
theorem bi_reprM {m : Store} {n : Nat} {vs : List Val} {Q : Val → Store → Prop} (hm : m[n]? = some (.list vs)) (h1 : shws vs = true) (h2 : deps vs ≤ 59) (h3 : rszs vs + 4 ≤ sizeLine) (h : Q (.str (reprV (.il true vs))) m) : biW .repr [.loc n] m Q := by
  obtain ⟨d, e, g1, g2, g4⟩ := shw_pr (v := .il true vs) (by simpa only [shw] using h1)
  have hd : dep (.il true vs) = deps vs + 1 := by simp only [dep]
  have hr : rsz (.il true vs) = rszs vs + 4 := by simp only [rsz]
  refine ⟨d, ?_, ⟨g1, by omega, by omega⟩, ?_⟩
  · simp only [prm, hm]
    simp only [pr] at e
    exact e
  · unfold reprV at h
    rw [e] at h
    exact h
end Dy

/-! Dp, part P: the same readings, laid out so that simp walks them from the front and leaves what comes later alone. -/
namespace Dy
open PySem L2
inductive Tok {α : Type} : α → Type
  | mk {a : α} : Tok a
def ex {α : Type} (o : Option α) (P : α → Prop) (t : Tok P) : Prop := ∃ v, o = some v ∧ P v
@[simp ↓] theorem ex_some {α : Type} (v : α) (P : α → Prop) (t : Tok P) : ex (some v) P t = P v := by simp [ex]
@[simp ↓] theorem ex_none {α : Type} (P : α → Prop) (t : Tok P) : ex none P t = False := by simp [ex]
theorem ex_i {α : Type} {o : Option α} {v : α} {P : α → Prop} {t : Tok P} (h : o = some v) (q : P v) : ex o P t := ⟨v, h, q⟩
def asT (w : Val) (P : List Val → Prop) (t : Tok P) : Prop := ∃ vs, w = .tup vs ∧ P vs
@[simp ↓] theorem asT_tup (vs : List Val) (P : List Val → Prop) (t : Tok P) : asT (.tup vs) P t = P vs := by simp [asT]
def asI (w : Val) (P : Int → Prop) (t : Tok P) : Prop := ∃ i, w = .int i ∧ P i
@[simp ↓] theorem asI_int (i : Int) (P : Int → Prop) (t : Tok P) : asI (.int i) P t = P i := by simp [asI]
def callF (f : FS) (vs : List Val) (m : Store) (Q : Val → Store → Prop) (R : Rq) (t : Tok Q) (u : Tok R) : Prop := f vs m Q R
def binX (op : BOp) (a b : Val) (m : Store) (Q : Val → Store → Prop) (t : Tok Q) : Prop := binW op a b m Q
def cmpX (op : COp) (a b : Val) (m : Store) (T : Bool → Prop) (t : Tok T) : Prop := cmpW op a b m T
def biX (b : Bi) (vs : List Val) (m : Store) (Q : Val → Store → Prop) (t : Tok Q) : Prop := biW b vs m Q
def mtX (k : Mt) (v : Val) (vs : List Val) (m : Store) (Q : Val → Store → Prop) (t : Tok Q) : Prop := mtW k v vs m Q
def setX (o i v : Val) (m : Store) (P : Store → Prop) (t : Tok P) : Prop := setW o i v m P
def setAX (f : Str) (o v : Val) (m : Store) (P : Store → Prop) (t : Tok P) : Prop := setAW f o v m P
def lcX (live : Store → Prop) (body : Val → Store → (Option Val → Store → Prop) → Prop) (items acc : List Val) (m : Store) (fin : List Val → Store → Prop) (t1 : Tok live) (t2 : Tok body) (t3 : Tok fin) : Prop := lcW live body items acc m fin
def forX (live : Store → Prop) (step : Val → Dy.Env → Store → (Dy.Env → Store → Prop) → Prop) (k : Dy.Env → Store → Prop) (items : List Val) (r : Dy.Env) (m : Store) (t1 : Tok live) (t2 : Tok step) (t3 : Tok k) : Prop := forW live step k items r m
def kdX (op : KOp) (kvs : List (Text × Val)) (k d : Val) (P : Val → Prop) (t : Tok P) : Prop := kdW op kvs k d P
section
variable (kvs : List (Text × Val)) (t : Text) (d : Val) (P : Val → Prop) (tk : Tok P)
@[simp ↓] theorem kdX_get1 : kdX .get1 kvs (.str t) d P tk = P ((kvs.lookup t).getD .non) := id rfl
@[simp ↓] theorem kdX_get2 : kdX .get2 kvs (.str t) d P tk = P ((kvs.lookup t).getD d) := id rfl
@[simp ↓] theorem kdX_idx : kdX .idx kvs (.str t) d P tk = ex (kvs.lookup t) P .mk := id rfl
@[simp ↓] theorem kdX_isin : kdX .isin kvs (.str t) d P tk = P (.bool (kvs.lookup t).isSome) := id rfl
@[simp ↓] theorem kdX_notin : kdX .notin kvs (.str t) d P tk = P (.bool (!(kvs.lookup t).isSome)) := id rfl
end
def tsx (T : Bool → Store → Prop) (v : Val) (m : Store) (t : Tok T) : Prop := ∃ t, tru m v = some t ∧ T t m
section
variable (T : Bool → Store → Prop) (m : Store) (tk : Tok T)
@[simp ↓] theorem tsx_bool (b : Bool) : tsx T (.bool b) m tk = T b m := by simp [tsx, tru]
@[simp ↓] theorem tsx_int (i : Int) : tsx T (.int i) m tk = T (i != 0) m := by simp [tsx, tru]
@[simp ↓] theorem tsx_non : tsx T .non m tk = T false m := by simp [tsx, tru]
theorem tsx_i {t : Bool} {v : Val} (h : tru m v = some t) (q : T t m) : tsx T v m tk := ⟨t, h, q⟩
end
section
variable (m : Store) (Q : Val → Store → Prop) (T : Bool → Prop) (tq : Tok Q) (tt : Tok T)
@[simp ↓] theorem X_bin_addI (a b : Int) : binX .add (.int a) (.int b) m Q tq = (Q (.int (a + b)) m) := id (bin_addI m Q a b)
@[simp ↓] theorem X_bin_addS (a b : Text) : binX .add (.str a) (.str b) m Q tq = ((a.length + b.length ≤ sizeLine ∧ Q (.str (a ++ b)) m)) := id (bin_addS m Q a b)
@[simp ↓] theorem X_bin_addL (a b : List Val) : binX .add (.il true a) (.il true b) m Q tq = ((a.length + b.length ≤ sizeLine ∧ Q (.il true (a ++ b)) m)) := id (bin_addL m Q a b)
@[simp ↓] theorem X_bin_addT (a b : List Val) : binX .add (.tup a) (.tup b) m Q tq = ((a.length + b.length ≤ sizeLine ∧ Q (.tup (a ++ b)) m)) := id rfl
@[simp ↓] theorem X_bin_subI (a b : Int) : binX .sub (.int a) (.int b) m Q tq = (Q (.int (a - b)) m) := id (bin_subI m Q a b)
@[simp ↓] theorem X_bin_mulI (a b : Int) : binX .mul (.int a) (.int b) m Q tq = ((mulOk a b ∧ Q (.int (a * b)) m)) := id (bin_mulI m Q a b)
@[simp ↓] theorem X_bin_mulL (a : List Val) (k : Int) : binX .mul (.il true a) (.int k) m Q tq = (((-(2 ^ 63) ≤ k ∧ k < 2 ^ 63 ∧ a.length * k.toNat ≤ sizeLine) ∧ Q (.il true (List.replicate k.toNat a).flatten) m)) := id (bin_mulL m Q a k)
@[simp ↓] theorem X_bin_fdiv (a b : Int) : binX .fdiv (.int a) (.int b) m Q tq = ((divOk b ∧ Q (.int (a / b)) m)) := id (bin_fdiv m Q a b)
@[simp ↓] theorem X_bin_mod (a b : Int) : binX .mod (.int a) (.int b) m Q tq = ((0 < b ∧ Q (.int (a % b)) m)) := id (bin_mod m Q a b)
@[simp ↓] theorem X_bin_pow (a b : Int) : binX .pow (.int a) (.int b) m Q tq = ((powOk a b ∧ Q (.int (a ^ b.toNat)) m)) := id (bin_pow m Q a b)
@[simp ↓] theorem X_cmp_lt (a b : Int) : cmpX .lt (.int a) (.int b) m T tt = (T (decide (a < b))) := id (cmp_lt m T a b)
@[simp ↓] theorem X_cmp_le (a b : Int) : cmpX .le (.int a) (.int b) m T tt = (T (decide (a ≤ b))) := id (cmp_le m T a b)
@[simp ↓] theorem X_cmp_gt (a b : Int) : cmpX .gt (.int a) (.int b) m T tt = (T (decide (b < a))) := id (cmp_gt m T a b)
@[simp ↓] theorem X_cmp_ge (a b : Int) : cmpX .ge (.int a) (.int b) m T tt = (T (decide (b ≤ a))) := id (cmp_ge m T a b)
@[simp ↓] theorem X_cmp_eqI (a b : Int) : cmpX .eq (.int a) (.int b) m T tt = (T (decide (a = b))) := id (cmp_eqI m T a b)
@[simp ↓] theorem X_cmp_neI (a b : Int) : cmpX .ne (.int a) (.int b) m T tt = (T (!decide (a = b))) := id (cmp_neI m T a b)
@[simp ↓] theorem X_cmp_eqS (a b : Text) : cmpX .eq (.str a) (.str b) m T tt = (T (decide (a = b))) := id (cmp_eqS m T a b)
@[simp ↓] theorem X_cmp_neS (a b : Text) : cmpX .ne (.str a) (.str b) m T tt = (T (!decide (a = b))) := id (cmp_neS m T a b)
@[simp ↓] theorem X_cmp_inS (c : Nat) (z : Text) : cmpX .isin (.str [c]) (.str z) m T tt = (T (decide (c ∈ z))) := id (cmp_inS m T c z)
@[simp ↓] theorem X_cmp_notS (c : Nat) (z : Text) : cmpX .notin (.str [c]) (.str z) m T tt = (T (!decide (c ∈ z))) := id (cmp_notS m T c z)
@[simp ↓] theorem X_bi_lenS (s : Text) : biX .len [.str s] m Q tq = ((s.length ≤ sizeLine ∧ Q (.int s.length) m)) := id (bi_lenS m Q s)
@[simp ↓] theorem X_bi_lenT (vs : List Val) : biX .len [.tup vs] m Q tq = (Q (.int vs.length) m) := id (bi_lenT m Q vs)
@[simp ↓] theorem X_bi_lenL (o : Bool) (vs : List Val) : biX .len [.il o vs] m Q tq = (Q (.int vs.length) m) := id (bi_lenL m Q o vs)
@[simp ↓] theorem X_bi_abs (i : Int) : biX .abs [.int i] m Q tq = (Q (.int (if i < 0 then -i else i)) m) := id (bi_abs m Q i)
@[simp ↓] theorem X_bi_intI (i : Int) : biX .int [.int i] m Q tq = (Q (.int i) m) := id (bi_intI m Q i)
@[simp ↓] theorem X_bi_intB (b : Bool) : biX .int [.bool b] m Q tq = (Q (.int (if b then 1 else 0)) m) := id (bi_intB m Q b)
@[simp ↓] theorem X_bi_intS (s : Text) : biX .int [.str s] m Q tq = (ex (PySem.intText? (SX.S s)) (fun n => s.length ≤ 640 ∧ Q (.int n) m) .mk) := id (bi_intS m Q s)
@[simp ↓] theorem X_bi_strI (i : Int) : biX .str [.int i] m Q tq = ((i.natAbs.log2 < 1920 ∧ Q (.str (numT i)) m)) := id (bi_strI m Q i)
@[simp ↓] theorem X_bi_strS (s : Text) : biX .str [.str s] m Q tq = (Q (.str s) m) := id (bi_strS m Q s)
@[simp ↓] theorem X_bi_tupL (o : Bool) (vs : List Val) : biX .tuple [.il o vs] m Q tq = (Q (.tup vs) m) := id (bi_tupL m Q o vs)
@[simp ↓] theorem X_bi_tupT (vs : List Val) : biX .tuple [.tup vs] m Q tq = (Q (.tup vs) m) := id (bi_tupT m Q vs)
@[simp ↓] theorem X_bi_lstL (o : Bool) (vs : List Val) : biX .list [.il o vs] m Q tq = (Q (.il true vs) m) := id (bi_lstL m Q o vs)
@[simp ↓] theorem X_bi_allL (o : Bool) (vs : List Val) : biX .all [.il o vs] m Q tq = (ex (boolsOf vs) (fun bs => Q (.bool (bs.all id)) m) .mk) := id (bi_allL m Q o vs)
@[simp ↓] theorem X_bi_anyL (o : Bool) (vs : List Val) : biX .any [.il o vs] m Q tq = (ex (boolsOf vs) (fun bs => Q (.bool (bs.any id)) m) .mk) := id (bi_anyL m Q o vs)
@[simp ↓] theorem X_bi_max (i j : Int) : biX .max [.int i, .int j] m Q tq = (Q (.int (if j > i then j else i)) m) := id (bi_max m Q i j)
@[simp ↓] theorem X_bi_min (i j : Int) : biX .min [.int i, .int j] m Q tq = (Q (.int (if j < i then j else i)) m) := id (bi_min m Q i j)
@[simp ↓] theorem X_mt_splitE (a b : Text) : mtX .split (.str a) [.str b] m Q tq = (((b ≠ [] ∧ b.all (· < 256) = true ∧ a.length + 2 ≤ sizeLine) ∧ Q (.il true ((TL.spl b 0 [] a).map .str)) m)) := id (mt_splitE m Q a b)
end
def xE (F : Nat → FS) (e : E) (r : Dy.Env) (m : Store) (Q : Val → Store → Prop) (R : Rq) : Prop := wpE F e r m Q R
def xT (F : Nat → FS) (e : E) (r : Dy.Env) (m : Store) (T : Bool → Store → Prop) (R : Rq) : Prop := wpT F e r m T R
def xS (F : Nat → FS) (b : S) (r : Dy.Env) (m : Store) (D : En) : Prop := wpS F b r m D
section
variable (F : Nat → FS) (r : Dy.Env) (m : Store) (Q : Val → Store → Prop) (T : Bool → Store → Prop) (R : Rq)
@[simp ↓] theorem xE_var (i : Nat) : xE F (.var i) r m Q R = ex r[i]? (fun o => ex o (fun v => Q v m) .mk) .mk := by
  show wpE F (.var i) r m Q R = _
  simp only [wpE_var, ex]
  refine propext ⟨fun ⟨v, a, b⟩ => ⟨some v, a, v, rfl, b⟩, fun ⟨o, a, v, b, c⟩ => ⟨v, by rw [a, b], c⟩⟩
@[simp ↓] theorem xE_cst (v : Val) : xE F (.cst v) r m Q R = Q v m := id rfl
@[simp ↓] theorem xE_nil : xE F .nil r m Q R = Q (.tup []) m := id rfl
@[simp ↓] theorem xE_cons (a b : E) : xE F (.cons a b) r m Q R = xE F a r m (fun v m1 => xE F b r m1 (fun w m2 => asT w (fun vs => Q (.tup (v :: vs)) m2) .mk) R) R := id rfl
@[simp ↓] theorem xE_tup (es : E) : xE F (.tup es) r m Q R = xE F es r m (fun v m1 => asT v (fun vs => vs.length ≤ sizeLine ∧ Q (.tup vs) m1) .mk) R := id rfl
@[simp ↓] theorem xE_lstT (es : E) : xE F (.lst true es) r m Q R = xE F es r m (fun v m1 => asT v (fun vs => vs.length ≤ sizeLine ∧ Q (.loc m1.length) (m1 ++ [.list vs])) .mk) R := id rfl
@[simp ↓] theorem xE_lstF (es : E) : xE F (.lst false es) r m Q R = xE F es r m (fun v m1 => asT v (fun vs => vs.length ≤ sizeLine ∧ Q (.il true vs) m1) .mk) R := id rfl
@[simp ↓] theorem xE_bin (op : BOp) (a b : E) : xE F (.bin op a b) r m Q R = xE F a r m (fun v m1 => xE F b r m1 (fun w m2 => binX op v w m2 Q .mk) R) R := id rfl
@[simp ↓] theorem xE_neg (a : E) : xE F (.neg a) r m Q R = xE F a r m (fun v m1 => asI v (fun i => Q (.int (-i)) m1) .mk) R := id rfl
@[simp ↓] theorem xE_cmp (op : COp) (a b : E) : xE F (.cmp op a b) r m Q R = xE F a r m (fun v m1 => xE F b r m1 (fun w m2 => cmpX op v w m2 (fun t => Q (.bool t) m2) .mk) R) R := id rfl
@[simp ↓] theorem xE_chain (o1 o2 : COp) (a b c : E) : xE F (.chain o1 o2 a b c) r m Q R = xE F a r m (fun v m1 => xE F b r m1 (fun w m2 => cmpX o1 v w m2 (fun t => if t = true then xE F c r m2 (fun u m3 => cmpX o2 w u m3 (fun t => Q (.bool t) m3) .mk) R else Q (.bool false) m2) .mk) R) R := id rfl
@[simp ↓] theorem xE_isN (neg : Bool) (a : E) : xE F (.isN neg a) r m Q R = xE F a r m (fun v m1 => Q (.bool (neg != isNon v)) m1) R := id rfl
@[simp ↓] theorem xE_one (a : E) : xE F (.one a) r m Q R = xE F a r m Q R := id rfl
@[simp ↓] theorem xE_and (a b : E) : xE F (.and a b) r m Q R = xE F a r m (fun v m1 => tsx (fun t m1 => if t = true then xE F b r m1 Q R else Q v m1) v m1 .mk) R := id rfl
@[simp ↓] theorem xE_or (a b : E) : xE F (.or a b) r m Q R = xE F a r m (fun v m1 => tsx (fun t m1 => if t = true then Q v m1 else xE F b r m1 Q R) v m1 .mk) R := id rfl
@[simp ↓] theorem xE_not (a : E) : xE F (.not a) r m Q R = xE F a r m (fun v m1 => tsx (fun t m1 => Q (.bool (!t)) m1) v m1 .mk) R := id rfl
@[simp ↓] theorem xE_ite (c a b : E) : xE F (.ite c a b) r m Q R = xT F c r m (fun t m1 => if t = true then xE F a r m1 Q R else xE F b r m1 Q R) R := id rfl
@[simp ↓] theorem xE_call (f : Nat) (args : E) : xE F (.call f args) r m Q R = xE F args r m (fun v m1 => asT v (fun vs => callF (F f) vs m1 Q R .mk .mk) .mk) R := id rfl
@[simp ↓] theorem xE_bi (b : Bi) (args : E) : xE F (.bi b args) r m Q R = xE F args r m (fun v m1 => asT v (fun vs => biX b vs m1 Q .mk) .mk) R := id rfl
@[simp ↓] theorem xE_isI (t : Ty) (a : E) : xE F (.isI t a) r m Q R = xE F a r m (fun v m1 => ex (kd m1 v) (fun kk => Q (.bool (isK t kk)) m1) .mk) R := id rfl
@[simp ↓] theorem xE_isO (k : Nat) (a : E) : xE F (.isO k a) r m Q R = xE F a r m (fun v m1 => ex (kd m1 v) (fun kk => Q (.bool (isO k kk)) m1) .mk) R := id rfl
@[simp ↓] theorem xE_attr (f : Str) (a : E) : xE F (.attr f a) r m Q R = xE F a r m (fun v m1 => ex (attrF m1 f v) (fun w => Q w m1) .mk) R := id rfl
@[simp ↓] theorem xE_dsp (ks : List Text) (es : E) : xE F (.dsp ks es) r m Q R = xE F es r m (fun v m1 => asT v (fun vs => (ks.Nodup ∧ ks.length = vs.length ∧ ks.length ≤ 15) ∧ Q (.dic ks vs) m1) .mk) R := id rfl
@[simp ↓] theorem xE_mk (c f nn mm : Nat) (pm : List (Nat ⊕ Val)) (args kargs : E) : xE F (.mk c f nn mm pm args kargs) r m Q R = xE F args r m (fun v m1 => asT v (fun vs => xE F kargs r m1 (fun w m2 => asT w (fun zs => (vs.length = nn ∧ zs.length = mm) ∧ ex (fillP pm (vs ++ zs)) (fun ps =>
      callF (F f) (.loc m2.length :: ps) (m2 ++ [.inst c [] []]) (fun u m3 => u = .non ∧ Q (.loc m2.length) m3) R .mk .mk) .mk) .mk) R) .mk) R := id rfl
@[simp ↓] theorem xE_mc (c f : Nat) (nm : Str) (o args : E) : xE F (.mc c f nm o args) r m Q R = xE F o r m (fun v m1 => isInN m1 c nm v ∧ xE F args r m1 (fun w m2 => asT w (fun vs => callF (F f) (v :: vs) m2 Q R .mk .mk) .mk) R) R := id rfl
@[simp ↓] theorem xE_prop (c f : Nat) (nm : Str) (o : E) : xE F (.prop c f nm o) r m Q R = xE F o r m (fun v m1 => Dy.isIn m1 c v ∧ callF (F f) [v] m1 Q noR .mk .mk) R := id rfl
@[simp ↓] theorem xE_oeq (neg : Bool) (c f : Nat) (a b : E) : xE F (.oeq neg c f a b) r m Q R = xE F a r m (fun v m1 => xE F b r m1 (fun w m2 => Dy.isIn m2 c v ∧ ((kd m2 w).isSome = true ∧ notErr w = true) ∧ callF (F f) [v, w] m2 (fun u m3 => ∃ t, u = .bool t ∧ Q (.bool (neg != t)) m3) noR .mk .mk) R) R := id rfl
@[simp ↓] theorem xE_meth (t : Mt) (o args : E) : xE F (.meth t o args) r m Q R = xE F o r m (fun v m1 => mtT m1 t v ∧ xE F args r m1 (fun w m2 => asT w (fun vs => mtX t v vs m2 Q .mk) .mk) R) R := id rfl
@[simp ↓] theorem xE_idx (a i : E) : xE F (.idx a i) r m Q R = xE F a r m (fun v m1 => xE F i r m1 (fun w m2 => ex (idxF m2 v w) (fun u => Q u m2) .mk) R) R := id rfl
@[simp ↓] theorem xE_sl (hl hh : Bool) (a lo hi : E) : xE F (.sl hl hh a lo hi) r m Q R = xE F a r m (fun v m1 => xE F lo r m1 (fun l m2 => ex (partF hl l) (fun i => xE F hi r m2 (fun u m3 => ex (partF hh u) (fun j => ex (sliceF m3 v i j) (fun z => Q z m3) .mk) .mk) R) .mk) R) R := id rfl
@[simp ↓] theorem xE_lcF (own : List Nat) (tg : Tg) (ik : IK) (e1 e2 cond elt : E) : xE F (.lc false own tg ik e1 e2 cond elt) r m Q R = xE F e1 r m (fun v1 m1 => xE F e2 r m1 (fun v2 m2 => ex (itF ik m2 v1 v2) (fun items => lcX (fun m => itF ik m v1 v2 = some items) (fun x m P => ex (tgF tg x (wipeE r own)) (fun r2 => xT F cond r2 m (fun t m1 => if t = true then xE F elt r2 m1 (fun y m2 => P (some y) m2) noR else P none m1) noR) .mk) items [] m2 (fun acc m3 => Q (.il true acc) m3) .mk .mk .mk) .mk) R) R := id rfl
@[simp ↓] theorem xE_lcT (own : List Nat) (tg : Tg) (ik : IK) (e1 e2 cond elt : E) : xE F (.lc true own tg ik e1 e2 cond elt) r m Q R = xE F e1 r m (fun v1 m1 => xE F e2 r m1 (fun v2 m2 => ex (itF ik m2 v1 v2) (fun items => lcX (fun m => itF ik m v1 v2 = some items) (fun x m P => ex (tgF tg x (wipeE r own)) (fun r2 => xT F cond r2 m (fun t m1 => if t = true then xE F elt r2 m1 (fun y m2 => P (some y) m2) noR else P none m1) noR) .mk) items [] m2 (fun acc m3 => Q (.loc m3.length) (m3 ++ [.list acc])) .mk .mk .mk) .mk) R) R := id rfl
@[simp ↓] theorem xE_scons (a b : E) : xE F (.scons a b) r m Q R = xE F a r m (fun v m1 => ex (sq m1 v) (fun us => xE F b r m1 (fun w m2 => asT w (fun vs => Q (.tup (us ++ vs)) m2) .mk) R) .mk) R := id rfl
@[simp ↓] theorem xE_kd (op : KOp) (kvs : List (Text × Val)) (k d : E) : xE F (.kd op kvs k d) r m Q R = xE F k r m (fun kv m1 => xE F d r m1 (fun dv m2 => kdX op kvs kv dv (fun v => Q v m2) .mk) R) R := id rfl
@[simp ↓] theorem xT_kd (op : KOp) (kvs : List (Text × Val)) (k d : E) : xT F (.kd op kvs k d) r m T R = xE F (.kd op kvs k d) r m (fun v m1 => tsx T v m1 .mk) R := id rfl
@[simp ↓] theorem xT_one (a : E) : xT F (.one a) r m T R = xT F a r m T R := id rfl
@[simp ↓] theorem xT_and (a b : E) : xT F (.and a b) r m T R = xT F a r m (fun t m1 => if t = true then xT F b r m1 T R else T false m1) R := id rfl
@[simp ↓] theorem xT_or (a b : E) : xT F (.or a b) r m T R = xT F a r m (fun t m1 => if t = true then T true m1 else xT F b r m1 T R) R := id rfl
@[simp ↓] theorem xT_not (a : E) : xT F (.not a) r m T R = xT F a r m (fun t m1 => T (!t) m1) R := id rfl
@[simp ↓] theorem xT_ite (c a b : E) : xT F (.ite c a b) r m T R = xT F c r m (fun t m1 => if t = true then xT F a r m1 T R else xT F b r m1 T R) R := id rfl
@[simp ↓] theorem xT_var (i : Nat) : xT F (.var i) r m T R = xE F (.var i) r m (fun v m1 => tsx T v m1 .mk) R := id rfl
@[simp ↓] theorem xT_cst (v : Val) : xT F (.cst v) r m T R = xE F (.cst v) r m (fun v m1 => tsx T v m1 .mk) R := id rfl
@[simp ↓] theorem xT_tup (a : E) : xT F (.tup a) r m T R = xE F (.tup a) r m (fun v m1 => tsx T v m1 .mk) R := id rfl
@[simp ↓] theorem xT_lst (mu : Bool) (a : E) : xT F (.lst mu a) r m T R = xE F (.lst mu a) r m (fun v m1 => tsx T v m1 .mk) R := id rfl
@[simp ↓] theorem xT_bin (op : BOp) (a b : E) : xT F (.bin op a b) r m T R = xE F (.bin op a b) r m (fun v m1 => tsx T v m1 .mk) R := id rfl
@[simp ↓] theorem xT_cmp (op : COp) (a b : E) : xT F (.cmp op a b) r m T R = xE F (.cmp op a b) r m (fun v m1 => tsx T v m1 .mk) R := id rfl
@[simp ↓] theorem xT_chain (o1 o2 : COp) (a b c : E) : xT F (.chain o1 o2 a b c) r m T R = xE F (.chain o1 o2 a b c) r m (fun v m1 => tsx T v m1 .mk) R := id rfl
@[simp ↓] theorem xT_isN (neg : Bool) (a : E) : xT F (.isN neg a) r m T R = xE F (.isN neg a) r m (fun v m1 => tsx T v m1 .mk) R := id rfl
@[simp ↓] theorem xT_call (f : Nat) (a : E) : xT F (.call f a) r m T R = xE F (.call f a) r m (fun v m1 => tsx T v m1 .mk) R := id rfl
@[simp ↓] theorem xT_bi (b : Bi) (a : E) : xT F (.bi b a) r m T R = xE F (.bi b a) r m (fun v m1 => tsx T v m1 .mk) R := id rfl
@[simp ↓] theorem xT_isI (t : Ty) (a : E) : xT F (.isI t a) r m T R = xE F (.isI t a) r m (fun v m1 => tsx T v m1 .mk) R := id rfl
@[simp ↓] theorem xT_meth (t : Mt) (a b : E) : xT F (.meth t a b) r m T R = xE F (.meth t a b) r m (fun v m1 => tsx T v m1 .mk) R := id rfl
@[simp ↓] theorem xT_idx (a b : E) : xT F (.idx a b) r m T R = xE F (.idx a b) r m (fun v m1 => tsx T v m1 .mk) R := id rfl
@[simp ↓] theorem xT_isO (k : Nat) (a : E) : xT F (.isO k a) r m T R = xE F (.isO k a) r m (fun v m1 => tsx T v m1 .mk) R := id rfl
@[simp ↓] theorem xT_attr (f : Str) (a : E) : xT F (.attr f a) r m T R = xE F (.attr f a) r m (fun v m1 => tsx T v m1 .mk) R := id rfl
@[simp ↓] theorem xT_dsp (ks : List Text) (es : E) : xT F (.dsp ks es) r m T R = xE F (.dsp ks es) r m (fun v m1 => tsx T v m1 .mk) R := id rfl
@[simp ↓] theorem xT_mk (c f nn mm : Nat) (pm : List (Nat ⊕ Val)) (x y : E) : xT F (.mk c f nn mm pm x y) r m T R = xE F (.mk c f nn mm pm x y) r m (fun v m1 => tsx T v m1 .mk) R := id rfl
@[simp ↓] theorem xT_mc (c f : Nat) (nm : Str) (o x : E) : xT F (.mc c f nm o x) r m T R = xE F (.mc c f nm o x) r m (fun v m1 => tsx T v m1 .mk) R := id rfl
@[simp ↓] theorem xT_prop (c f : Nat) (nm : Str) (o : E) : xT F (.prop c f nm o) r m T R = xE F (.prop c f nm o) r m (fun v m1 => tsx T v m1 .mk) R := id rfl
@[simp ↓] theorem xT_oeq (neg : Bool) (c f : Nat) (a b : E) : xT F (.oeq neg c f a b) r m T R = xE F (.oeq neg c f a b) r m (fun v m1 => tsx T v m1 .mk) R := id rfl
variable (D : En)
@[simp ↓] theorem xS_nil : xS F .nil r m D = D.nx r m := id rfl
@[simp ↓] theorem xS_cons (a b : S) : xS F (.cons a b) r m D = xS F a r m { D with nx := fun r m => xS F b r m D } := id rfl
@[simp ↓] theorem xS_expr (e : E) : xS F (.expr e) r m D = xE F e r m (fun _ m1 => D.nx r m1) (D.rx r) := id rfl
@[simp ↓] theorem xS_ret (e : E) : xS F (.ret e) r m D = xE F e r m D.rt (D.rx r) := id rfl
@[simp ↓] theorem xS_retN : xS F .retN r m D = D.rt .non m := id rfl
@[simp ↓] theorem xS_asg (tg : Tg) (e : E) : xS F (.asg tg e) r m D = xE F e r m (fun v m1 => ex (tgF tg v r) (fun r1 => D.nx r1 m1) .mk) (D.rx r) := id rfl
@[simp ↓] theorem xS_par (is : List Nat) (es : E) : xS F (.par is es) r m D = xE F es r m (fun v m1 => asT v (fun vs => ex (setAll is vs r) (fun r1 => D.nx r1 m1) .mk) .mk) (D.rx r) := id rfl
@[simp ↓] theorem xS_asgStar (is : List Nat) (j : Nat) (e : E) : xS F (.asgStar is j e) r m D = xE F e r m (fun v m1 => ex (sq m1 v) (fun vs => is.length ≤ vs.length ∧ ex (setAll (is ++ [j]) (vs.take is.length ++ [.il true (vs.drop is.length)]) r) (fun r1 => D.nx r1 m1) .mk) .mk) (D.rx r) := id rfl
@[simp ↓] theorem xS_setIx (o i e : E) : xS F (.setIx o i e) r m D = xE F e r m (fun v m1 => xE F o r m1 (fun ov m2 => xE F i r m2 (fun iv m3 => setX ov iv v m3 (fun m4 => D.nx r m4) .mk) (D.rx r)) (D.rx r)) (D.rx r) := id rfl
@[simp ↓] theorem xS_ite (c : E) (a b : S) : xS F (.ite c a b) r m D = xT F c r m (fun t m1 => if t = true then xS F a r m1 D else xS F b r m1 D) (D.rx r) := id rfl
@[simp ↓] theorem xS_loop (tg : Tg) (ik : IK) (e1 e2 : E) (body : S) : xS F (.loop tg ik e1 e2 body) r m D = xE F e1 r m (fun v1 m1 => xE F e2 r m1 (fun v2 m2 => ex (itF ik m2 v1 v2) (fun items => forX (fun m => itF ik m v1 v2 = some items) (fun x r m nx => ex (tgF tg x r) (fun r1 => xS F body r1 m { D with nx := nx, ct := nx, bk := D.nx }) .mk) D.nx items r m2 .mk .mk .mk) .mk) (D.rx r)) (D.rx r) := id rfl
@[simp ↓] theorem xS_raise (k : Nat) (e : E) : xS F (.raise k e) r m D = xE F e r m (fun v m1 => D.rx r k v m1) (D.rx r) := id rfl
@[simp ↓] theorem xS_tryK (body : S) (k i j : Nat) : xS F (.tryK body k i j) r m D = xS F body r m { D with rx := fun r' c v m' => if subN c k = true then i < r'.length ∧ D.nx ((r'.set j (some (.err c v))).set i none) m' else D.rx r' c v m' } := id rfl
@[simp ↓] theorem xS_setA (f : Str) (o e : E) : xS F (.setA f o e) r m D = xE F e r m (fun v m1 => xE F o r m1 (fun ov m2 => setAX f ov v m2 (fun m3 => D.nx r m3) .mk) (D.rx r)) (D.rx r) := id rfl
@[simp ↓] theorem xS_brk : xS F .brk r m D = D.bk r m := id rfl
@[simp ↓] theorem xS_cont : xS F .cont r m D = D.ct r m := id rfl
@[simp ↓] theorem xS_never : xS F .never r m D = False := id rfl
@[simp ↓] theorem xS_pass : xS F .pass r m D = D.nx r m := id rfl
end
@[simp] theorem sizeLine_at : sizeLine = 16777216 := sizeLine_is
theorem Meets.x {F : Nat → FS} {n : Nat} {body : S} {fs : FS} (h : ∀ args m Q R, cM m.length m = true → cVs m.length args = true → fs args m Q R → xS F body (startE n args) m (bodyEn m.length Q R)) : Meets F n body fs := h
theorem idx_locX {m : Store} {n : Nat} {i : Int} {P : Val → Prop} {tk : Tok P} {vs : List Val} {u : Val} (h : m[n]? = some (.list vs)) (h2 : atI vs i = some u) (q : P u) : ex (idxF m (.loc n) (.int i)) P tk := by
  refine ⟨u, ?_, q⟩
  simp [idxF, sq, h, h2]
theorem x_app {m : Store} {n : Nat} {v : Val} {vs : List Val} {Q : Val → Store → Prop} {tk : Tok Q} (h : m[n]? = some (.list vs)) (hl : vs.length < sizeLine) (q : Q .non (m.set n (.list (vs ++ [v])))) : mtX .append (.loc n) [v] m Q tk := ⟨vs, h, hl, q⟩
theorem x_tupM {m : Store} {n : Nat} {vs : List Val} {Q : Val → Store → Prop} {tk : Tok Q} (h : m[n]? = some (.list vs)) (q : Q (.tup vs) m) : biX .tuple [.loc n] m Q tk := by
  show biW .tuple [.loc n] m Q
  rw [bi_tupM]
  exact ⟨vs, h, q⟩
theorem x_join {a : Text} {o : Bool} {vs : List Val} {m : Store} {Q : Val → Store → Prop} {tk : Tok Q} (ts : List Text) (e : vs = ts.map .str) (h : (ts.map fun x => List.length x).sum + ts.length * a.length ≤ 16777216) (q : Q (.str (TL.joinL a ts)) m) : mtX .join (.str a) [.il o vs] m Q tk := by
  show mtW .join (.str a) [.il o vs] m Q
  rw [mt_joinL]
  exact ⟨ts, e, h, q⟩
theorem x_eqG {a b : Val} {m : Store} {T : Bool → Prop} {tk : Tok T} (h1 : cmpV a = true) (h2 : cmpV b = true) (h : T (veqv a b)) : cmpX .eq a b m T tk := cmp_eqG h1 h2 h
theorem x_neG {a b : Val} {m : Store} {T : Bool → Prop} {tk : Tok T} (h1 : cmpV a = true) (h2 : cmpV b = true) (h : T (!veqv a b)) : cmpX .ne a b m T tk := cmp_neG h1 h2 h
theorem for_inv {live : Store → Prop} {step : Val → Dy.Env → Store → (Dy.Env → Store → Prop) → Prop} {fin : Dy.Env → Store → Prop} (J : List Val → Dy.Env → Store → Prop) (hl : ∀ m, live m)
    (hs : ∀ x xs r m nx, J (x :: xs) r m → (∀ r' m', J xs r' m' → nx r' m') → step x r m nx) (hf : ∀ r m, J [] r m → fin r m) : ∀ {items : List Val} {r : Dy.Env} {m : Store}, J items r m → forW live step fin items r m
  | [], r, m, h => ⟨hl m, hf r m h⟩
  | x :: xs, r, m, h => ⟨hl m, hs x xs r m _ h fun r' m' h' => for_inv J hl hs hf h'⟩
theorem cmp_notinL {a : Val} {o : Bool} {vs : List Val} {m : Store} {T : Bool → Prop} (h1 : cmpV a = true) (h2 : cmpV (.il o vs) = true) (h : T (!vs.any fun z => veqv z a)) : cmpW .notin a (.il o vs) m T :=
  inL (neg := true) (fun _ => .inr trivial) h1 h2 (by simpa using h)
theorem cmp_inL {a : Val} {o : Bool} {vs : List Val} {m : Store} {T : Bool → Prop} (h1 : cmpV a = true) (h2 : cmpV (.il o vs) = true) (h : T (vs.any fun z => veqv z a)) : cmpW .isin a (.il o vs) m T :=
  inL (neg := false) (fun _ => .inr trivial) h1 h2 (by simpa using h)
theorem lc_map {α : Type} {live : Store → Prop} {body : Val → Store → (Option Val → Store → Prop) → Prop} {fin : List Val → Store → Prop} {f : α → Val} (g : α → Val) {m : Store} (hl : live m) :
    ∀ (xs : List α) (acc : List Val), (∀ x ∈ xs, ∀ P, P (some (g x)) m → body (f x) m P) → acc.length + xs.length ≤ sizeLine → fin (acc ++ xs.map g) m → lcW live body (xs.map f) acc m fin
  | [], acc, _, _, h => ⟨hl, by simpa using h⟩
  | x :: xs, acc, hb, hs, h => by
    refine ⟨hl, hb x List.mem_cons_self _ ?_⟩
    simp only [List.length_cons] at hs
    exact ⟨by omega, lc_map g hl xs _ (fun y hy => hb y (List.mem_cons_of_mem _ hy)) (by simp only [List.length_append, List.length_cons, List.length_nil]; omega) (by simpa using h)⟩
theorem for_invX {live : Store → Prop} {step : Val → Dy.Env → Store → (Dy.Env → Store → Prop) → Prop} {fin : Dy.Env → Store → Prop} {t1 : Tok live} {t2 : Tok step} {t3 : Tok fin} (J : List Val → Dy.Env → Store → Prop) (hl : ∀ m, live m)
    (hs : ∀ x xs r m nx, J (x :: xs) r m → (∀ r' m', J xs r' m' → nx r' m') → step x r m nx) (hf : ∀ r m, J [] r m → fin r m) {items : List Val} {r : Dy.Env} {m : Store} (h : J items r m) : forX live step fin items r m t1 t2 t3 := for_inv J hl hs hf h
theorem lc_map0 {α : Type} {live : Store → Prop} {body : Val → Store → (Option Val → Store → Prop) → Prop} {fin : List Val → Store → Prop} {f : α → Val} (g : α → Val) {m : Store} (hl : live m)
    (xs : List α) (hb : ∀ x ∈ xs, ∀ P, P (some (g x)) m → body (f x) m P) (hs : xs.length ≤ sizeLine) (q : fin (xs.map g) m) {t1 : Tok live} {t2 : Tok body} {t3 : Tok fin} : lcX live body (xs.map f) [] m fin t1 t2 t3 :=
  lc_map g hl xs [] hb (by simpa using hs) (by simpa using q)
theorem forX_cons {live : Store → Prop} {step : Val → Dy.Env → Store → (Dy.Env → Store → Prop) → Prop} {k : Dy.Env → Store → Prop} {x : Val} {xs : List Val} {r : Dy.Env} {m : Store} {t1 t2 t3} : forX live step k (x :: xs) r m t1 t2 t3 = (live m ∧ step x r m fun r1 m1 => forX live step k xs r1 m1 .mk .mk .mk) := rfl
theorem forX_nil {live : Store → Prop} {step : Val → Dy.Env → Store → (Dy.Env → Store → Prop) → Prop} {k : Dy.Env → Store → Prop} {r : Dy.Env} {m : Store} {t1 t2 t3} : forX live step k [] r m t1 t2 t3 = (live m ∧ k r m) := rfl
theorem lcX_cons {live : Store → Prop} {body : Val → Store → (Option Val → Store → Prop) → Prop} {fin : List Val → Store → Prop} {x : Val} {xs acc : List Val} {m : Store} {t1 t2 t3} : lcX live body (x :: xs) acc m fin t1 t2 t3 = (live m ∧ body x m fun o m1 => match o with
    | some v => acc.length < sizeLine ∧ lcX live body xs (acc ++ [v]) m1 fin .mk .mk .mk
    | none => lcX live body xs acc m1 fin .mk .mk .mk) := rfl
theorem lcX_nil {live : Store → Prop} {body : Val → Store → (Option Val → Store → Prop) → Prop} {fin : List Val → Store → Prop} {acc : List Val} {m : Store} {t1 t2 t3} : lcX live body [] acc m fin t1 t2 t3 = (live m ∧ fin acc m) := rfl
theorem x_repr {v : Val} {m : Store} {Q : Val → Store → Prop} {tk : Tok Q} (h1 : shw v = true) (h2 : dep v ≤ 60) (h3 : rsz v ≤ sizeLine) (q : Q (.str (reprV v)) m) : biX .repr [v] m Q tk := bi_reprG h1 h2 h3 q
theorem x_reprM {n : Nat} {vs : List Val} {m : Store} {Q : Val → Store → Prop} {tk : Tok Q} (hm : m[n]? = some (.list vs)) (h1 : shws vs = true) (h2 : deps vs ≤ 59) (h3 : rszs vs + 4 ≤ sizeLine) (q : Q (.str (reprV (.il true vs))) m) : biX .repr [.loc n] m Q tk := bi_reprM hm h1 h2 h3 q
theorem x_addL {a b : Val} {us vs : List Val} {m : Store} {Q : Val → Store → Prop} {tk : Tok Q} (h1 : tq m a = some us) (h2 : tq m b = some vs) (hl : us.length + vs.length ≤ sizeLine) (q : Q (.il true (us ++ vs)) m) : binX .add a b m Q tk := by
  show binW .add a b m Q
  unfold binW
  cases a <;> first | cases h1 | skip
  · rename_i o ws
    cases o <;> cases h1
    cases b <;> first | cases h2 | skip
    · rename_i o ws
      cases o <;> cases h2
      exact ⟨hl, q⟩
    · exact ⟨_, _, rfl, h2, hl, q⟩
  · exact ⟨_, _, h1, h2, hl, q⟩
@[simp] theorem tq_il (m : Store) (vs : List Val) : tq m (.il true vs) = some vs := id rfl
theorem tq_loc {m : Store} {n : Nat} {vs : List Val} (h : m[n]? = some (.list vs)) : tq m (.loc n) = some vs := by simp [tq, h]
theorem x_eqE {a b : Val} {m : Store} {T : Bool → Prop} {tk : Tok T} (us vs : List Val) (h1 : isL a = true) (h2 : isL b = true) (e1 : sq m a = some us) (e2 : sq m b = some vs) (he : us = [] ∨ vs = []) (h : T (us.isEmpty && vs.isEmpty)) : cmpX .eq a b m T tk := .inr ⟨h1, h2, us, vs, e1, e2, he, h⟩
theorem x_neE {a b : Val} {m : Store} {T : Bool → Prop} {tk : Tok T} (us vs : List Val) (h1 : isL a = true) (h2 : isL b = true) (e1 : sq m a = some us) (e2 : sq m b = some vs) (he : us = [] ∨ vs = []) (h : T (!(us.isEmpty && vs.isEmpty))) : cmpX .ne a b m T tk := .inr ⟨h1, h2, us, vs, e1, e2, he, h⟩
/-! ### what can be shown is plain -/
mutual
theorem shw_closed {n : Nat} : ∀ {v : Val}, shw v = true → cV n v = true
  | .non, _ => rfl
  | .bool _, _ => rfl
  | .int _, _ => rfl
  | .str _, _ => rfl
  | .tup vs, h => by simp only [shw] at h; simp only [cV]; exact shws_closed h
  | .il _ vs, h => by simp only [shw] at h; simp only [cV]; exact shws_closed h
  | .dic _ vs, h => by simp only [shw, Bool.and_eq_true] at h; simp only [cV]; exact shws_closed h.2
  | .loc _, h => by simp [shw] at h
  | .err _ _, h => by simp [shw] at h
  | .fn _, h => by simp [shw] at h
theorem shws_closed {n : Nat} : ∀ {vs : List Val}, shws vs = true → cVs n vs = true
  | [], _ => rfl
  | v :: vs, h => by
    simp only [shws, Bool.and_eq_true] at h
    simp only [cVs, Bool.and_eq_true]
    exact ⟨shw_closed h.1, shws_closed h.2⟩
end
def kd0 : Val → Kd
  | .non => .non
  | .bool _ => .bool
  | .int _ => .int
  | .str _ => .str
  | .tup _ => .tuple
  | .il _ _ => .list
  | .dic _ _ => .dict
  | .err c _ => .own c
  | _ => .non
theorem kd_shw {m : Store} {v : Val} (h : shw v = true) : kd m v = some (kd0 v) := by
  cases v <;> first | rfl | simp [shw] at h
theorem notErr_shw {v : Val} (h : shw v = true) : notErr v = true := by
  cases v <;> first | rfl | simp [shw] at h
/-! ### instances -/
theorem isIn_i {m : Store} {c n : Nat} {fs : List Str} {us : List Val} (h : m[n]? = some (.inst c fs us)) : Dy.isIn m c (.loc n) := ⟨n, fs, us, rfl, h⟩
theorem isInN_i {m : Store} {c n : Nat} {nm : Str} {fs : List Str} {us : List Val} (h : m[n]? = some (.inst c fs us)) (h2 : fs.contains nm = false) : isInN m c nm (.loc n) := ⟨n, fs, us, rfl, h, h2⟩
theorem attr_i {m : Store} {n c : Nat} {f : Str} {fs : List Str} {us : List Val} {w : Val} {P : Val → Prop} {tk : Tok P} (h : m[n]? = some (.inst c fs us)) (h2 : (fs.zip us).lookup f = some w) (q : P w) : ex (attrF m f (.loc n)) P tk := ⟨w, by simp [attrF, h, h2], q⟩
theorem attrF_i {m : Store} {n c : Nat} {f : Str} {fs : List Str} {us : List Val} {w : Val} (h : m[n]? = some (.inst c fs us)) (h2 : (fs.zip us).lookup f = some w) : attrF m f (.loc n) = some w := by simp [attrF, h, h2]
@[simp] theorem attr_err (m : Store) (c : Nat) (v : Val) : attrF m "value" (.err c v) = some v := by simp [attrF]
theorem kd_inst {m : Store} {n c : Nat} {fs : List Str} {us : List Val} (h : m[n]? = some (.inst c fs us)) : kd m (.loc n) = some (.own c) := by simp [kd, h]
theorem kd_list {m : Store} {n : Nat} {us : List Val} (h : m[n]? = some (.list us)) : kd m (.loc n) = some .list := by simp [kd, h]
theorem x_setA {m : Store} {n c : Nat} {f : Str} {v : Val} {fs : List Str} {us : List Val} {P : Store → Prop} {tk : Tok P} (h : m[n]? = some (.inst c fs us)) (hl : fs.length < 1000) (q : P (m.set n (.inst c (putFs f fs) (putVs f v fs us)))) : setAX f (.loc n) v m P tk := ⟨c, fs, us, h, hl, q⟩
/-! ### sequences, slices -/
@[simp] theorem sq_tup (m : Store) (vs : List Val) : sq m (.tup vs) = some vs := id rfl
@[simp] theorem sq_il (m : Store) (o : Bool) (vs : List Val) : sq m (.il o vs) = some vs := id rfl
theorem sq_loc {m : Store} {n : Nat} {vs : List Val} (h : m[n]? = some (.list vs)) : sq m (.loc n) = some vs := by simp [sq, h]
@[simp] theorem sl_tup (m : Store) (vs : List Val) (lo hi : Option Int) : sliceF m (.tup vs) lo hi = some (.tup (cutL vs lo hi)) := id rfl
@[simp] theorem sl_il (m : Store) (o : Bool) (vs : List Val) (lo hi : Option Int) : sliceF m (.il o vs) lo hi = some (.il true (cutL vs lo hi)) := id rfl
@[simp] theorem sl_str (m : Store) (s : Text) (lo hi : Option Int) : sliceF m (.str s) lo hi = if s.length ≤ sizeLine then some (.str (cutL s lo hi)) else none := id rfl
@[simp] theorem part_no (v : Val) : partF false v = some none := id rfl
@[simp] theorem part_yes (i : Int) : partF true (.int i) = some (some i) := id rfl
@[simp] theorem cut_all {α : Type} (xs : List α) : cutL xs none none = xs := by simp [cutL, HT.sIx]
theorem cut_lo {α : Type} (xs : List α) (k : Int) (h : 0 ≤ k) : cutL xs (some k) none = xs.drop k.toNat := by
  obtain ⟨n, rfl⟩ := Int.eq_ofNat_of_zero_le h
  unfold cutL
  rw [HT.sIx_nat, HT.sIx_none, Int.toNat_natCast]
  by_cases hn : n ≤ xs.length
  · rw [Nat.min_eq_left hn, List.take_of_length_le (by simp)]
  · rw [Nat.min_eq_right (by omega), List.drop_of_length_le (Nat.le_refl _), List.drop_of_length_le (by omega)]
    simp
theorem cut_hi {α : Type} (xs : List α) (k : Int) (h : 0 ≤ k) : cutL xs none (some k) = xs.take k.toNat := by
  obtain ⟨n, rfl⟩ := Int.eq_ofNat_of_zero_le h
  unfold cutL
  rw [HT.sIx_nat, HT.sIx_none, Int.toNat_natCast, List.drop_zero, Nat.sub_zero]
  by_cases hn : n ≤ xs.length
  · rw [Nat.min_eq_left hn]
  · rw [Nat.min_eq_right (by omega), List.take_of_length_le (Nat.le_refl _), List.take_of_length_le (by omega)]
@[simp] theorem cut_1 {α : Type} (xs : List α) : cutL xs (some 1) none = xs.drop 1 := cut_lo xs 1 (by decide)
@[simp] theorem cut_nat {α : Type} (xs : List α) (n : Nat) : cutL xs (some (n : Int)) none = xs.drop n := cut_lo xs n (by omega)
@[simp] theorem cut_to {α : Type} (xs : List α) (n : Nat) : cutL xs none (some (n : Int)) = xs.take n := cut_hi xs n (by omega)
@[simp] theorem it_zip (m : Store) (a b : Val) : itF .zip m a b = (sq m a).bind fun us => (sq m b).map fun vs => (us.zip vs).map fun p => .tup [p.1, p.2] := by
  cases a <;> rfl
theorem zip_strs (a b : List Text) : ((a.map Val.str).zip (b.map Val.str)).map (fun p => Val.tup [p.1, p.2]) = (a.zip b).map fun p => Val.tup [.str p.1, .str p.2] := by
  rw [List.zip_map, List.map_map]
  rfl
theorem lookup_map {α β : Type} (f : α → β) (t : Text) : ∀ l : List (Text × α), (l.map fun p => (p.1, f p.2)).lookup t = (l.lookup t).map f
  | [] => rfl
  | (s, a) :: l => by
    simp only [List.map_cons, List.lookup]
    split
    · rfl
    · exact lookup_map f t l
/-! ### in, by plain things -/
@[simp] theorem flatS_str (s : Text) : flatS (.str s) = true := id rfl
@[simp] theorem flatS_int (i : Int) : flatS (.int i) = true := id rfl
@[simp] theorem flatS_bool (b : Bool) : flatS (.bool b) = true := id rfl
@[simp] theorem flatS_non : flatS .non = true := id rfl
def flatAll (vs : List Val) : Bool := vs.all flatS
@[simp] theorem flatAll_nil : flatAll [] = true := id rfl
@[simp] theorem flatAll_cons (v : Val) (vs : List Val) : flatAll (v :: vs) = (flatS v && flatAll vs) := id rfl
@[simp] theorem flatAll_app (us vs : List Val) : flatAll (us ++ vs) = (flatAll us && flatAll vs) := by simp [flatAll]
@[simp] theorem flatAll_strs (ts : List Text) : flatAll (ts.map .str) = true := by simp [flatAll]
@[simp] theorem flatAll_nats (ns : List Nat) : flatAll (ns.map fun n => .int (n : Nat)) = true := by simp [flatAll]
@[simp] theorem veqv_ss (a b : Text) : veqv (.str a) (.str b) = (a == b) := by simp [veqv]
@[simp] theorem veqv_ii (a b : Int) : veqv (.int a) (.int b) = (a == b) := by simp [veqv]
@[simp] theorem veqv_is (a : Int) (b : Text) : veqv (.int a) (.str b) = false := by simp [veqv]
@[simp] theorem veqv_si (a : Text) (b : Int) : veqv (.str a) (.int b) = false := by simp [veqv]
@[simp] theorem veqv_ns (b : Text) : veqv .non (.str b) = false := by simp [veqv]
@[simp] theorem veqv_sn (b : Text) : veqv (.str b) .non = false := by simp [veqv]
@[simp] theorem veqv_ni (b : Int) : veqv .non (.int b) = false := by simp [veqv]
@[simp] theorem veqv_in (b : Int) : veqv (.int b) .non = false := by simp [veqv]
@[simp] theorem veqv_nn : veqv .non .non = true := by simp [veqv]
@[simp] theorem veqv_tn (b : List Val) : veqv (.tup b) .non = false := by simp [veqv]
section
variable (m : Store) (T : Bool → Prop) (tt : Tok T) {a : Val} {vs : List Val}
theorem inW_T (neg : Bool) (h1 : flatS a = true) (h2 : vs.all flatS = true) : inW neg a (.tup vs) m T = T (neg != vs.any fun z => veqv z a) := by
  refine propext ⟨fun h => ?_, fun h => inT h1 h2 h⟩
  obtain ⟨d, e1, e2, e3⟩ := flatS_pd h1
  obtain ⟨ds, f1, f2⟩ := flatS_pds h2
  unfold inW at h
  split at h
  · rename_i hq; cases hq
  · obtain ⟨d', e', g1, g2, _, q⟩ := h
    rw [e3 m] at g1; cases g1
    simp only [pdm, pd, f1, Option.map_some, Option.some.injEq] at g2
    subst g2
    simp only [itemsP] at q
    rw [any_veqv e1 f1] at q
    exact q
@[simp] theorem X_inT (h1 : flatS a = true) (h2 : flatAll vs = true) : cmpX .isin a (.tup vs) m T tt = T (vs.any fun z => veqv z a) := by
  show inW false a (.tup vs) m T = _
  rw [inW_T m T false h1 h2]; simp
@[simp] theorem X_notinT (h1 : flatS a = true) (h2 : flatAll vs = true) : cmpX .notin a (.tup vs) m T tt = T (!vs.any fun z => veqv z a) := by
  show inW true a (.tup vs) m T = _
  rw [inW_T m T true h1 h2]; simp
end
theorem x_inL {a : Val} {o : Bool} {vs : List Val} {m : Store} {T : Bool → Prop} {tk : Tok T} (h1 : cmpV a = true) (h2 : cmpV (.il o vs) = true) (h : T (vs.any fun z => veqv z a)) : cmpX .isin a (.il o vs) m T tk := cmp_inL h1 h2 h
theorem x_notinL {a : Val} {o : Bool} {vs : List Val} {m : Store} {T : Bool → Prop} {tk : Tok T} (h1 : cmpV a = true) (h2 : cmpV (.il o vs) = true) (h : T (!vs.any fun z => veqv z a)) : cmpX .notin a (.il o vs) m T tk := cmp_notinL h1 h2 h
/-- some of the items, each by itself -/
theorem lc_optW {α : Type} {live : Store → Prop} {body : Val → Store → (Option Val → Store → Prop) → Prop} {fin : List Val → Store → Prop} {f : α → Val} (g : α → Option Val) {m : Store} (hl : live m) :
    ∀ (xs : List α) (acc : List Val), (∀ x ∈ xs, ∀ P, P (g x) m → body (f x) m P) → acc.length + xs.length ≤ sizeLine → fin (acc ++ xs.filterMap g) m → lcW live body (xs.map f) acc m fin
  | [], acc, _, _, h => ⟨hl, by simpa using h⟩
  | x :: xs, acc, hb, hs, h => by
    refine ⟨hl, hb x List.mem_cons_self _ ?_⟩
    simp only [List.length_cons] at hs
    cases e : g x with
    | none =>
      refine lc_optW g hl xs _ (fun y hy => hb y (List.mem_cons_of_mem _ hy)) (by omega) ?_
      rw [List.filterMap_cons, e] at h
      exact h
    | some v =>
      refine ⟨by omega, lc_optW g hl xs _ (fun y hy => hb y (List.mem_cons_of_mem _ hy)) (by simp only [List.length_append, List.length_cons, List.length_nil]; omega) ?_⟩
      rw [List.filterMap_cons, e] at h
      simpa using h
theorem lc_opt0 {α : Type} {live : Store → Prop} {body : Val → Store → (Option Val → Store → Prop) → Prop} {fin : List Val → Store → Prop} {f : α → Val} (g : α → Option Val) {m : Store} (hl : live m)
    (xs : List α) (hb : ∀ x ∈ xs, ∀ P, P (g x) m → body (f x) m P) (hs : xs.length ≤ sizeLine) (q : fin (xs.filterMap g) m) {t1 : Tok live} {t2 : Tok body} {t3 : Tok fin} : lcX live body (xs.map f) [] m fin t1 t2 t3 :=
  lc_optW g hl xs [] hb (by simpa using hs) (by simpa using q)
end Dy

/-! Dp, part Q: draws, followed through a def. -/
namespace Dy
open PySem L2
/-- m1 is m0 after k draws of K, with more objects behind it -/
structure At (m0 : Store) (p : Nat) (a0 : Pot) (K k : Nat) (more : List Ob) (m1 : Store) : Prop where
  h0 : PotAt m0 p a0 K
  hk : k ≤ K
  st : ∃ a1 : Pot, m1 = m0.set p a1.ob ++ more ∧ a1.ok (a0.c + k)
section
variable {m0 m m1 : Store} {p K k : Nat} {a0 : Pot} {more : List Ob} {Post : Val → Prop} {Q : Val → Store → Prop}
theorem At.start {m : Store} {a : Pot} (h : PotAt m p a K) : At m p a K 0 [] m := ⟨h, Nat.zero_le _, a, by rw [h.self, List.append_nil], Pot.ok_self h.2 (by simp)⟩
theorem At.mono (h : At m0 p a0 K k more m) {k' : Nat} (h1 : k ≤ k') (h2 : k' ≤ K) : At m0 p a0 K k' more m := by
  obtain ⟨g, hk, a1, e, o⟩ := h
  exact ⟨g, h2, a1, e, Pot.ok_mono o (by omega)⟩
theorem At.len (h : At m0 p a0 K k more m) : m.length = m0.length + more.length := by
  obtain ⟨g, hk, a1, e, o⟩ := h
  rw [e]; simp
theorem At.push (h : At m0 p a0 K k more m) (o : Ob) : At m0 p a0 K k (more ++ [o]) (m ++ [o]) := by
  obtain ⟨g, hk, a1, e, q⟩ := h
  exact ⟨g, hk, a1, by rw [e, List.append_assoc], q⟩
theorem At.get (h : At m0 p a0 K k more m) (j : Nat) : m[m0.length + j]? = more[j]? := by
  obtain ⟨g, hk, a1, e, q⟩ := h
  rw [e, List.getElem?_append_right (by simp)]
  simp
theorem At.get0 (h : At m0 p a0 K k more m) : m[m0.length]? = more[0]? := h.get 0
theorem At.set (h : At m0 p a0 K k more m) (j : Nat) (o : Ob) : At m0 p a0 K k (more.set j o) (m.set (m0.length + j) o) := by
  obtain ⟨g, hk, a1, e, q⟩ := h
  refine ⟨g, hk, a1, ?_, q⟩
  rw [e, List.set_append_right _ _ (by simp)]
  simp
theorem At.set0 (h : At m0 p a0 K k more m) (o : Ob) : At m0 p a0 K k (more.set 0 o) (m.set m0.length o) := h.set 0 o
theorem At.pot (h : At m0 p a0 K k more m) {j : Nat} (hj : k + j ≤ K) : ∃ a1 : Pot, m = m0.set p a1.ob ++ more ∧ a1.ok (a0.c + k) ∧ PotAt m p a1 j := by
  obtain ⟨g, hk, a1, e, o⟩ := h
  refine ⟨a1, e, o, ?_, Pot.ok_mono o ?_⟩
  · rw [e]
    have := g.lt
    rw [List.getElem?_append_left (by simpa using this)]
    simp [this]
  · have := g.2.2.2.2.2
    omega
theorem At.next (h : At m0 p a0 K k more m) {j : Nat} (hj : k + j ≤ K) {a1 a' : Pot} (e : m = m0.set p a1.ob ++ more) (o : a1.ok (a0.c + k)) (h' : a'.ok (a1.c + j)) : At m0 p a0 K (k + j) more (m.set p a'.ob) := by
  refine ⟨h.h0, hj, a', ?_, Pot.ok_mono h' ?_⟩
  · rw [e, List.set_append_left _ _ (by have := h.h0.lt; simpa using this), List.set_set]
  · have := o.2.2.2.2
    push_cast
    omega
theorem At.draw (j : Nat) (h : At m0 p a0 K k more m) (hj : k + j ≤ K) (q : ∀ v m', Post v → At m0 p a0 K (k + j) more m' → Q v m') : drawS m p j Post Q := by
  obtain ⟨a1, e, o, hp⟩ := h.pot hj
  exact ⟨a1, hp, fun v a' hv h' => q v _ hv (h.next hj e o h')⟩
theorem At.fin (h : At m0 p a0 K k [] m1) (hQ : ∀ (v : Val) (a' : Pot), Post v → a'.ok (a0.c + K) → Q v (m0.set p a'.ob)) {v : Val} (hv : Post v) : Q v m1 := by
  obtain ⟨g, hk, a1, e, o⟩ := h
  rw [e, List.append_nil]
  exact hQ v a1 hv (Pot.ok_mono o (by omega))
theorem pot_closed (n : Nat) (a : Pot) : cO n a.ob = true := by simp [Pot.ob, cO, cVs, cV]
theorem cM_set {n : Nat} {o : Ob} (ho : cO n o = true) : ∀ {m : Store} (i : Nat), cM n m = true → cM n (m.set i o) = true := by
  intro m i h
  unfold cM at h ⊢
  rw [List.all_eq_true] at h ⊢
  intro x hx
  rcases List.mem_or_eq_of_mem_set hx with z | rfl
  · exact h x z
  · exact ho
/-- a def's end: what was made is forgotten -/
theorem At.ret (h : At m0 p a0 K k more m1) (hm : cM m0.length m0 = true) (hQ : ∀ (v : Val) (a' : Pot), Post v → a'.ok (a0.c + K) → Q v (m0.set p a'.ob)) {v : Val} (hc : cV m0.length v = true) (hv : Post v) : Dy.ret m0.length Q v m1 := by
  obtain ⟨g, hk, a1, e, o⟩ := h
  have et : m1.take m0.length = m0.set p a1.ob := by
    rw [e, List.take_append_of_le_length (by simp), List.take_of_length_le (by simp)]
  refine .inr ⟨m0.length, Nat.le_refl _, hc, ?_, ?_⟩
  · rw [et]; exact cM_set (pot_closed _ _) _ hm
  · rw [et]; exact hQ v a1 hv (Pot.ok_mono o (by omega))
theorem ret_app {m : Store} {more : List Ob} {Q : Val → Store → Prop} {v : Val} (hm : cM m.length m = true) (hc : cV m.length v = true) (q : Q v m) : Dy.ret m.length Q v (m ++ more) := by
  have e : (m ++ more).take m.length = m := by simp
  exact .inr ⟨m.length, Nat.le_refl _, hc, by rw [e]; exact hm, by rw [e]; exact q⟩
theorem x_take {n : Int} {R : Rq} {tk : Tok Q} {uk : Tok R} (h : At m0 p a0 K k more m) (hj : k + 1 ≤ K) (h0 : 0 < n) (h1 : n < 2 ^ 30) (q : ∀ d m', 0 ≤ d → d < n → At m0 p a0 K (k + 1) more m' → Q (.int d) m') : callF fsTake [.loc p, .int n] m Q R tk uk :=
  ⟨p, n, rfl, ⟨h0, h1⟩, h.draw 1 hj fun v m' ⟨d, e, h2, h3⟩ ha => by rw [e]; exact q d m' h2 h3 ha⟩
theorem x_of {s : Val} {R : Rq} {tk : Tok Q} {uk : Tok R} (vs : List Val) (h : At m0 p a0 K k more m) (hj : k + 1 ≤ K) (hp : pick s = some vs) (h0 : vs ≠ []) (h1 : vs.length < 2 ^ 20) (q : ∀ v m', v ∈ vs → At m0 p a0 K (k + 1) more m' → Q v m') : callF fsOf [.loc p, s] m Q R tk uk :=
  ⟨p, s, vs, rfl, hp, h0, h1, h.draw 1 hj q⟩
/-- a def that draws -/
def fsDraw (k : Nat) (Post : Val → Prop) : FS := fun args m Q _ => ∃ p, args = [.loc p] ∧ drawS m p k Post Q
theorem x_draw {j : Nat} {R : Rq} {tk : Tok Q} {uk : Tok R} (h : At m0 p a0 K k more m) (hj : k + j ≤ K) (q : ∀ v m', Post v → At m0 p a0 K (k + j) more m' → Q v m') : callF (fsDraw j Post) [.loc p] m Q R tk uk := ⟨p, rfl, h.draw j hj q⟩
theorem x_pot {o : Bool} {ns : List Int} {j : Nat} {R : Rq} {tk : Tok Q} {uk : Tok R} (h : j < 1000) (q : ∀ a : Pot, PotAt (m ++ [a.ob]) m.length a 1000000 → Q (.loc m.length) (m ++ [a.ob])) : callF fsPot [.il o (ns.map .int), .int (j : Nat)] m Q R tk uk :=
  ⟨o, ns, j, rfl, h, fun a ha => q a ⟨by simp, Pot.ok_mono ha (by simp [LIM])⟩⟩
theorem lc_at {live : Store → Prop} {body : Val → Store → (Option Val → Store → Prop) → Prop} {fin : List Val → Store → Prop} (j : Nat) (Post : Val → Prop) {items acc : List Val} (hlive : ∀ m, live m)
    (hb : ∀ x m a P, At m p a j 0 [] m → (∀ v m', Post v → At m p a j j [] m' → P (some v) m') → body x m P) (h : At m0 p a0 K k more m) (hj : k + j * items.length ≤ K) (hs : acc.length + items.length ≤ sizeLine)
    (q : ∀ (ws : List Val) m', ws.length = items.length → (∀ v ∈ ws, Post v) → At m0 p a0 K (k + j * items.length) more m' → fin (acc ++ ws) m') : lcW live body items acc m fin := by
  obtain ⟨a1, e, o, hp⟩ := h.pot hj
  refine lc_draw (k := j) (Post := Post) hlive (fun x m P hd => ?_) items acc m a1 hp hs fun ws a' h1 h2 h3 => q ws _ h1 h2 (h.next hj e o h3)
  obtain ⟨a, ha, hq⟩ := hd
  exact hb x m a P (.start ha) fun v m' hv hm => hm.fin hq hv
theorem lc_at0 {live : Store → Prop} {body : Val → Store → (Option Val → Store → Prop) → Prop} {fin : List Val → Store → Prop} {t1 : Tok live} {t2 : Tok body} {t3 : Tok fin} (j : Nat) (Post : Val → Prop) {items : List Val} (hlive : ∀ m, live m)
    (hb : ∀ x m a P, At m p a j 0 [] m → (∀ v m', Post v → At m p a j j [] m' → P (some v) m') → body x m P) (h : At m0 p a0 K k more m) (hj : k + j * items.length ≤ K) (hs : items.length ≤ sizeLine)
    (q : ∀ (ws : List Val) m', ws.length = items.length → (∀ v ∈ ws, Post v) → At m0 p a0 K (k + j * items.length) more m' → fin ws m') : lcX live body items [] m fin t1 t2 t3 :=
  lc_at j Post hlive hb h hj (by simpa using hs) fun ws m' h1 h2 h3 => by rw [List.nil_append]; exact q ws m' h1 h2 h3
theorem for_at {live : Store → Prop} {step : Val → Dy.Env → Store → (Dy.Env → Store → Prop) → Prop} {fin : Dy.Env → Store → Prop} {t1 : Tok live} {t2 : Tok step} {t3 : Tok fin} (j : Nat) (I : Dy.Env → Prop) {items : List Val} {r : Dy.Env} (hlive : ∀ m, live m)
    (hb : ∀ x r m a nx, I r → At m p a j 0 [] m → (∀ r' m', I r' → At m p a j j [] m' → nx r' m') → step x r m nx) (hi : I r) (h : At m0 p a0 K k more m) (hj : k + j * items.length ≤ K)
    (q : ∀ r' m', I r' → At m0 p a0 K (k + j * items.length) more m' → fin r' m') : forX live step fin items r m t1 t2 t3 := by
  obtain ⟨a1, e, o, hp⟩ := h.pot hj
  refine for_draw (k := j) I hlive (fun x r m nx a hi ha hn => ?_) items r m a1 hi hp fun r' a' h1 h3 => q r' _ h1 (h.next hj e o h3)
  refine hb x r m a nx hi (.start ha) fun r' m' hi' hm => ?_
  obtain ⟨g, hk, a1, e, o⟩ := hm
  rw [e, List.append_nil]
  exact hn r' a1 hi' o
/-- the rounds of a for that draws and changes what it made -/
theorem for_more {live : Store → Prop} {step : Val → Dy.Env → Store → (Dy.Env → Store → Prop) → Prop} {fin : Dy.Env → Store → Prop} {t1 : Tok live} {t2 : Tok step} {t3 : Tok fin} (j : Nat) (I : Nat → Dy.Env → List Ob → Prop) {items : List Val} {r : Dy.Env} (hlive : ∀ m, live m)
    (hb : ∀ x n r k' more m1 nx, n < items.length → I n r more → At m0 p a0 K k' more m1 → k' + j ≤ K → (∀ r' more' m', I (n + 1) r' more' → At m0 p a0 K (k' + j) more' m' → nx r' m') → step x r m1 nx) (hi : I 0 r more) (h : At m0 p a0 K k more m) (hj : k + j * items.length ≤ K)
    (q : ∀ r' more' m', I items.length r' more' → At m0 p a0 K (k + j * items.length) more' m' → fin r' m') : forX live step fin items r m t1 t2 t3 := by
  refine for_invX (fun rem r m1 => ∃ n more, n + rem.length = items.length ∧ I n r more ∧ At m0 p a0 K (k + j * n) more m1) hlive ?_ ?_ ⟨0, more, by simp, hi, by simpa using h⟩
  · rintro x xs r m1 nx ⟨n, more, hl, hi, hA⟩ hn
    simp only [List.length_cons] at hl
    have hle : j * (n + 1) ≤ j * items.length := Nat.mul_le_mul (Nat.le_refl _) (by omega)
    rw [Nat.mul_add, Nat.mul_one] at hle
    refine hb x n r (k + j * n) more m1 nx (by omega) hi hA (by omega) fun r' more' m' hi' hA' => hn r' m' ⟨n + 1, more', by omega, hi', ?_⟩
    rw [Nat.mul_add, Nat.mul_one, ← Nat.add_assoc]
    exact hA'
  · rintro r m1 ⟨n, more, hl, hi, hA⟩
    simp only [List.length_nil, Nat.add_zero] at hl
    subst hl
    exact q r more m1 hi hA
end
theorem it_rng1 (m : Store) (n : Int) (v : Val) : itF .rng1 m (.int n) v = if -(2 ^ 62) ≤ n ∧ n < 2 ^ 62 then some (intsUp 0 n.toNat) else none := rfl
theorem it_rng {m : Store} {n : Int} {v : Val} (h0 : -(2 ^ 62) ≤ n) (h1 : n < 2 ^ 62) : itF .rng1 m (.int n) v = some (intsUp 0 n.toNat) := if_pos ⟨h0, h1⟩
theorem x_rng {m : Store} {n : Int} {v : Val} {P : List Val → Prop} {tk : Tok P} (h0 : 0 ≤ n) (h1 : n < 1000000) (q : P (intsUp 0 n.toNat)) : ex (itF .rng1 m (.int n) v) P tk := ⟨_, it_rng (by omega) (by omega), q⟩
@[simp] theorem intsUp_len (a : Int) (n : Nat) : (intsUp a n).length = n := by simp [intsUp]
theorem intsUp_mem {a : Int} {n : Nat} {x : Val} (h : x ∈ intsUp a n) : ∃ i : Nat, i < n ∧ x = .int (a + i) := by
  simp only [intsUp, List.mem_map, List.mem_range] at h
  obtain ⟨i, hi, e⟩ := h
  exact ⟨i, hi, e.symm⟩
end Dy

/-! Dp, part R: the defs of a module, one after the other. -/
namespace Dy
open PySem L2
variable [Kx]
/-- the module has a constant -/
def HasC (K : Frag) (x : Str) (v : Val) : Prop := ∃ u xv, PySem.W.nsIn K mainGlobals x = some (some u) ∧ RelV xv u ∧ ∀ W H, RV K W H v xv
theorem hasI {K : Frag} {x : Str} {i j : Int} {t} (a : PySem.W.nsIn K mainGlobals x = some (some (.int i t))) (e : i = j) : HasC K x (.int j) := ⟨_, .int j, a, ⟨t, by rw [e]⟩, fun _ _ => .int j⟩
theorem hasS {K : Frag} {x : Str} {s : Str} {cs : Text} {t} (a : PySem.W.nsIn K mainGlobals x = some (some (.str s t))) (e : s = SX.S cs) : HasC K x (.str cs) := ⟨_, .str (SX.S cs), a, ⟨t, by rw [e]⟩, fun _ _ => .str cs⟩
/-- a value of the written part -/
def HasV (K : Frag) (u : Value) (v : Val) : Prop := ∃ xv, RelV xv u ∧ ∀ W H, RV K W H v xv
def HasVs (K : Frag) : List Value → List Val → Prop
  | [], [] => True
  | u :: us, v :: vs => HasV K u v ∧ HasVs K us vs
  | _, _ => False
theorem hasVS {K : Frag} {s : Str} {cs : Text} {t} (e : s = SX.S cs) : HasV K (.str s t) (.str cs) := ⟨.str (SX.S cs), ⟨t, by rw [e]⟩, fun _ _ => .str cs⟩
theorem hasVI {K : Frag} {i j : Int} {t} (e : i = j) : HasV K (.int i t) (.int j) := ⟨.int j, ⟨t, by rw [e]⟩, fun _ _ => .int j⟩
theorem hasVN {K : Frag} : HasV K .none .non := ⟨.non, rfl, fun _ _ => .non⟩
theorem hasVB {K : Frag} {b : Bool} : HasV K (.bool b) (.bool b) := ⟨.bl b, rfl, fun _ _ => .bool b⟩
theorem hasVs_all {K : Frag} : ∀ {us : List Value} {vs : List Val}, HasVs K us vs → ∃ xs, Vals xs us ∧ ∀ W H, RVs K W H vs xs
  | [], [], _ => ⟨[], .nil, fun _ _ => .nil⟩
  | u :: us, v :: vs, ⟨⟨x, r, h⟩, h2⟩ => by
    obtain ⟨xs, rs, hs⟩ := hasVs_all h2
    exact ⟨x :: xs, .cons r rs, fun W H => .cons (h W H) (hs W H)⟩
  | [], _ :: _, h => h.elim
  | _ :: _, [], h => h.elim
theorem hasVT {K : Frag} {a : Addr} {dd : Option Addr} {its : Array Value} {us : List Value} {n : Nat} {sl : Array (Option Value)} {vs : List Val} (h : K.lookup a = some ⟨.type "tuple", dd, (.seq its n), sl⟩) (hi : its = us.toArray) (hz : us.length ≤ sizeLine) (hv : HasVs K us vs) : HasV K (.ref a) (.tup vs) := by
  obtain ⟨xs, rs, hs⟩ := hasVs_all hv
  subst hi
  refine ⟨.ref a, rfl, fun W H => .tup (xs := xs) (.inr ⟨_, us.toArray, n, h, rfl, rfl, by simpa using hz, by simpa using rs⟩) (hs W H)⟩
theorem hasCV {K : Frag} {x : Str} {u : Value} {v : Val} (a : PySem.W.nsIn K mainGlobals x = some (some u)) (h : HasV K u v) : HasC K x v := by
  obtain ⟨xv, r, q⟩ := h
  exact ⟨u, xv, a, r, q⟩
def AllC (K : Frag) : List (Str × Val) → Prop
  | [] => True
  | p :: r => HasC K p.1 p.2 ∧ AllC K r
theorem AllC.get {K : Frag} {x : Str} {v : Val} : ∀ {l : List (Str × Val)}, AllC K l → l.lookup x = some v → HasC K x v
  | [], _, h => by cases h
  | (y, w) :: r, ⟨h1, h2⟩, h => by
    simp only [List.lookup] at h
    split at h
    · rename_i e
      cases h
      rw [eq_of_beq e]
      exact h1
    · exact h2.get h
def AllN (K : Frag) : List Str → Prop
  | [] => True
  | x :: r => PySem.W.nsIn K mainGlobals x = some none ∧ AllN K r
theorem AllN.get {K : Frag} {x : Str} : ∀ {l : List Str}, AllN K l → l.contains x = true → PySem.W.nsIn K mainGlobals x = some none
  | [], _, h => by cases h
  | y :: r, ⟨h1, h2⟩, h => by
    simp only [List.contains_cons, Bool.or_eq_true] at h
    rcases h with h | h
    · rw [eq_of_beq h]; exact h1
    · exact h2.get h
/-- a def of the text: its name, its whole name, its statement, its parameters -/
structure DefT where
  x : Str
  qual : Str
  st : Stmt
  ps : List Str
/-- what is known of a def: which one it is (k), its level; vw: for the j-th def the place in the list at which its promise stands -/
structure DefI where
  k : Nat
  N : List Str
  body : S
  fs : FS
  lv : Nat
  vw : Nat → Nat := id
def noFS : FS := fun _ _ _ _ => False
/-- what an entry may lean on: what stands at lower levels -/
def Fst (ds : List DefI) (d : DefI) : Nat → FS := fun j => match ds[d.vw j]? with
  | some e => if e.lv < d.lv then e.fs else noFS
  | none => noFS
structure GoodD (cc : List Str → List (Str × NameKind) → Cc) (tab : List DefT) (ds : List DefI) (d : DefI) (t : DefT) : Prop where
  sc : FnScope d.N t.ps (defScope t.st)
  ck : chkSs (cc d.N (defScope t.st).names) (defBody t.st) d.body = true
  me : Meets (Fst ds d) d.N.length d.body d.fs
  ln : ∀ vs m Q R, d.fs vs m Q R → vs.length = t.ps.length
/-- the module's dicts -/
def HasK (K : Frag) (w : World) (x : Str) (kvs : List (Text × Val)) : Prop := ∃ a, PySem.W.nsIn K mainGlobals x = some (some (.ref a)) ∧ KdAt K w a kvs
theorem hasK {K : Frag} {w : World} {x : Str} {a : Addr} {es : Array DictEntry} {n : Nat} {kvs : List (Text × Val)} (h1 : PySem.W.nsIn K mainGlobals x = some (some (.ref a))) (h2 : K.lookup a = some ⟨.type "dict", none, .dict es n, #[]⟩) (h3 : PySem.W.KeysLit w.params es.toList) (h4 : (a == sysModules) = false) (h5 : KRel K es.toList kvs) : HasK K w x kvs :=
  ⟨a, h1, es, n, ⟨h2, h3, h4⟩, h5⟩
theorem krel_nil {K : Frag} : KRel K [] [] := trivial
theorem krel_cons {K : Frag} {h : Int} {s : Str} {t : PySem.Tok} {u : Value} {es : List DictEntry} {c : Text} {v : Val} {kvs : List (Text × Val)} (e : s = SX.S c) (hv : HasV K u v) (hr : KRel K es kvs) : KRel K (⟨h, .str s t, u⟩ :: es) ((c, v) :: kvs) := by
  obtain ⟨xv, r, q⟩ := hv
  exact ⟨⟨t, by rw [e]⟩, ⟨xv, r, q⟩, hr⟩
def AllK (K : Frag) (w : World) : List (Str × List (Text × Val)) → Prop
  | [] => True
  | p :: r => HasK K w p.1 p.2 ∧ AllK K w r
theorem AllK.get {K : Frag} {w : World} {x : Str} {v : List (Text × Val)} : ∀ {l : List (Str × List (Text × Val))}, AllK K w l → l.lookup x = some v → HasK K w x v
  | [], _, h => by cases h
  | (y, u) :: r, ⟨h1, h2⟩, h => by
    simp only [List.lookup] at h
    split at h
    · rename_i e
      cases h
      rw [eq_of_beq e]
      exact h1
    · exact h2.get h
/-- the places that an entry looks at hold promises of these very defs -/
def ViewOk (ds : List DefI) (n : Nat) (d : DefI) : Prop := ∀ j, j < n → ∀ e, ds[d.vw j]? = some e → e.k = j
def viewB (ds : List DefI) (n : Nat) (d : DefI) : Bool := (List.range n).all fun j => match ds[d.vw j]? with | some e => e.k == j | none => true
theorem view_of {ds : List DefI} {n : Nat} {d : DefI} (h : viewB ds n d = true) : ViewOk ds n d := by
  intro j hj e he
  have := (List.all_eq_true.mp h) j (List.mem_range.mpr hj)
  rw [he] at this
  simpa using this
theorem fng_no {P : Program} {w : World} {K : Frag} {mg : Str → Option Value} {base : Heap} {k n : Nat} {f : Addr} {fd : FuncData} {ps : List Str} : FnG P w K mg base k f fd ps (spG K cl n noFS) := by
  refine ⟨?_, ?_⟩
  · rintro vs H Q E ⟨_, _, _, _, _, _, _, _, z, _⟩
    exact z.elim
  · intros
    rename_i z
    obtain ⟨_, _, _, _, _, _, _, _, z, _⟩ := z
    exact z.elim
section
variable {P : Program} {w : World} {K : Frag} {mg : Str → Option Value} {base : Heap} {cc : List Str → List (Str × NameKind) → Cc} {ds : List DefI} {tab : List DefT}
theorem stage (hcN : ∀ N ns, (cc N ns).N = N ∧ (cc N ns).names = ns) (hS : ∀ N ns, Stat P w K mg base (cc N ns)) (hT : ∀ (j : Nat) (t : DefT), tab[j]? = some t → Fun K t.x t.qual t.st (Kx.fa j) (Kx.fd j) ∧ Kx.ps j = t.ps)
    (hg : ∀ d ∈ ds, ∃ t, tab[d.k]? = some t ∧ GoodD cc tab ds d t) (hv : ∀ d ∈ ds, ViewOk ds tab.length d) (hvo : ∀ d ∈ ds, ∀ j, tab.length ≤ j → ds[d.vw j]? = none) :
    ∀ (n : Nat) (d : DefI), d ∈ ds → d.lv = n → FnG P w K mg base (2 * n + 3) (Kx.fa d.k) (Kx.fd d.k) (Kx.ps d.k) (spG K cl (Kx.ps d.k).length d.fs) := by
  intro n
  induction n using Nat.strongRecOn with
  | _ n ih =>
    intro d hd hn
    obtain ⟨t, ht, g⟩ := hg d hd
    obtain ⟨T, hps⟩ := hT d.k t ht
    obtain ⟨c1, c2⟩ := hcN d.N (defScope t.st).names
    rw [hps]
    refine def_ok (lev := 2 * n + 2) (F := Fst ds d) (c := cc d.N (defScope t.st).names) (hS _ _) (fun j => ?_) (by omega) c1 c2 T g.sc g.ck g.me
    unfold Fst
    cases he : ds[d.vw j]? with
    | none => exact ⟨0, fng_no, by omega, fun _ _ _ _ z => z.elim⟩
    | some e =>
      have hj : j < tab.length := Nat.lt_of_not_le fun z => by rw [hvo d hd j z] at he; cases he
      have ek : e.k = j := hv d hd j hj e he
      have hm := List.mem_of_getElem? he
      by_cases hl : e.lv < d.lv
      · simp only [hl, if_true]
        have hE := ih e.lv (by omega) e hm rfl
        rw [ek] at hE
        refine ⟨2 * e.lv + 3, hE, by omega, fun vs m Q R q => ?_⟩
        obtain ⟨t', ht', g'⟩ := hg e hm
        rw [ek] at ht'
        rw [(hT j t' ht').2]
        exact g'.ln vs m Q R q
      · simp only [hl, if_false]
        exact ⟨0, fng_no, by omega, fun _ _ _ _ z => z.elim⟩
end
end Dy

/-! Dp, part S: what the written part says of classes, by looks. -/
namespace Dy
open PySem PySem.Spec L2
/-- the classes by number and where they lie; where the defs lie -/
structure Lay where
  cas : List (Nat × Addr)
  fas : List (Addr × FuncData × List Str)
def Lay.cl (L : Lay) (k : Nat) : Addr := (L.cas.lookup k).getD 0
def Lay.fa (L : Lay) (j : Nat) : Addr := ((L.fas[j]?).map (·.1)).getD 0
def fd0 : FuncData := PySem.W.fnOf "" "" ⟨[], [], none, [], [], none, []⟩ [] { kind := .function, names := [], isGenerator := false, isCoroutine := false } .none .none .none .none none .none .none
def Lay.fd (L : Lay) (j : Nat) : FuncData := ((L.fas[j]?).map (·.2.1)).getD fd0
def Lay.ps (L : Lay) (j : Nat) : List Str := ((L.fas[j]?).map (·.2.2)).getD []
def Lay.ok (L : Lay) (k : Nat) : Bool := (L.cas.lookup k).isSome
@[reducible] def Lay.kx (L : Lay) : Kx := ⟨L.cl, L.fa, L.fd, L.ps, L.ok⟩
/-! ### looks -/
open PySem.W in
def errB (K : Frag) (C : Addr) : Bool := decide (findIn K (.ref C) "__getattribute__" = some (some (.builtin "BaseException.__getattribute__"))) && decide (findIn K (.ref C) "__getattr__" = some none) && decide (subIn K (.ref C) (.type "BaseException") = some true) && hasDictIn K C &&
  decide (findIn K (.ref C) "__class__" = some (some (.builtin "object.__class__"))) && decide (specialIn K (.builtin "object.__class__") "__get__" = some (some (.builtin "getset_descriptor.__get__"))) && decide (takesIn K (.builtin "object.__class__") = some true) && decide (mroIn K C (.type "object") = some true) &&
  decide (findIn K (.ref C) "value" = some none)
open PySem.W in
def ownB (K : Frag) (C : Addr) : Bool := plainGet K C Str.empty && hasDictIn K C && plainOver K C && decide (findIn K (.ref C) "__setattr__" = some (some (.builtin "object.__setattr__"))) &&
  decide (findIn K (.ref C) "__class__" = some (some (.builtin "object.__class__"))) && decide (specialIn K (.builtin "object.__class__") "__get__" = some (some (.builtin "getset_descriptor.__get__"))) && decide (takesIn K (.builtin "object.__class__") = some true) && decide (mroIn K C (.type "object") = some true)
def allTy : List Ty := [.int, .bool, .str, .tuple, .list, .dict, .verr]
def allKd : List Kd := [.non, .bool, .int, .str, .tuple, .list, .dict]
theorem kd_mem {kd : Kd} (h : kd.isOwn = false) : kd ∈ allKd := by
  cases kd with
  | own c => exact Bool.noConfusion h
  | _ => simp [allKd]
open PySem.W in
def kitB1 (K : Frag) (c : Nat) (C : Addr) : Bool := allTy.all (fun t => decide (kitOne K (.ref C) (.type t.name) = some (isK t (.own c)))) && allKd.all (fun k => decide (kitOne K (.type k.name) (.ref C) = some false))
open PySem.W in
def kitB2 (K : Frag) (cas : List (Nat × Addr)) (c : Nat) (C : Addr) : Bool := cas.all fun q => decide (kitOne K (.ref C) (.ref q.2) = some (subN c q.1)) && (!(decide (c < 100) && decide (q.1 < 100)) || decide (exmOne K (.ref C) (.ref q.2) = some (subN c q.1)))
def clsB (K : Frag) (cas : List (Nat × Addr)) : Bool := cas.all fun p => (if p.1 < 100 then errB K p.2 else ownB K p.2) && kitB1 K p.1 p.2 && kitB2 K cas p.1 p.2
theorem lookup_mem {α β : Type} [BEq α] [LawfulBEq α] {k : α} {v : β} : ∀ {l : List (α × β)}, l.lookup k = some v → (k, v) ∈ l
  | [], h => by cases h
  | (a, b) :: r, h => by
    simp only [List.lookup] at h
    split at h
    · rename_i e
      cases h
      rw [eq_of_beq e]
      exact List.mem_cons_self
    · exact List.mem_cons_of_mem _ (lookup_mem h)
theorem Lay.ok_at {L : Lay} {k : Nat} (h : L.ok k = true) : (k, L.cl k) ∈ L.cas := by
  unfold Lay.ok at h
  obtain ⟨a, e⟩ := Option.isSome_iff_exists.mp h
  have := lookup_mem e
  unfold Lay.cl
  rw [e]
  exact this
theorem cf_of {K : Frag} {L : Lay} (h : clsB K L.cas = true) : @CF L.kx K := by
  letI := L.kx
  have all : ∀ k, L.ok k = true → ((if k < 100 then errB K (L.cl k) else ownB K (L.cl k)) && kitB1 K k (L.cl k) && kitB2 K L.cas k (L.cl k)) = true := fun k hk => (List.all_eq_true.mp h) _ (L.ok_at hk)
  refine ⟨fun c hc hl => ?_, fun c hc hl => ?_, fun c t hc => ?_, fun c k hc hk => ?_, fun kd k hn hk => ?_, fun c k hc hk => ?_⟩
  · have z := all c hc
    rw [if_pos hl] at z
    simp only [Bool.and_eq_true] at z
    have e := z.1.1
    simp only [errB, Bool.and_eq_true, decide_eq_true_eq] at e
    obtain ⟨⟨⟨⟨⟨⟨⟨⟨e1, e2⟩, e3⟩, e4⟩, e5⟩, e6⟩, e7⟩, e8⟩, e9⟩ := e
    exact ⟨⟨e1, e2, e3, e4, e5, e6, e7, e8⟩, e9⟩
  · have z := all c hc
    rw [if_neg hl] at z
    simp only [Bool.and_eq_true] at z
    have e := z.1.1
    simp only [ownB, Bool.and_eq_true, decide_eq_true_eq] at e
    obtain ⟨⟨⟨⟨⟨⟨⟨e1, e2⟩, e3⟩, e4⟩, e5⟩, e6⟩, e7⟩, e8⟩ := e
    exact ⟨⟨e1, e2, e3, e4⟩, e5, e6, e7, e8⟩
  · have z := all c hc
    simp only [Bool.and_eq_true] at z
    have e := z.1.2
    simp only [kitB1, Bool.and_eq_true] at e
    have := (List.all_eq_true.mp e.1) t (by cases t <;> simp [allTy])
    exact of_decide_eq_true this
  · have z := all c hc
    simp only [Bool.and_eq_true] at z
    have := (List.all_eq_true.mp z.2) _ (L.ok_at hk)
    simp only [Bool.and_eq_true, decide_eq_true_eq] at this
    exact this.1
  · have z := all k hk
    simp only [Bool.and_eq_true] at z
    have e := z.1.2
    simp only [kitB1, Bool.and_eq_true] at e
    have := (List.all_eq_true.mp e.2) kd (kd_mem hn)
    exact of_decide_eq_true this
  · have z := all c hc.1
    simp only [Bool.and_eq_true] at z
    have := (List.all_eq_true.mp z.2) _ (L.ok_at hk.1)
    have h1 : c < 100 := hc.2
    have h2 : k < 100 := hk.2
    simp only [Bool.and_eq_true, decide_eq_true_eq, h1, h2, decide_true, Bool.and_self, Bool.not_true, Bool.false_or] at this
    exact this.2
open PySem.W in
def mtB (K : Frag) (L : Lay) (p : Str × Nat × Nat) : Bool := L.ok p.2.1 && !decide (p.2.1 < 100) && decide (findIn K (.ref (L.cl p.2.1)) p.1 = some (some (.ref (L.fa p.2.2)))) && isFn K (.ref (L.fa p.2.2)) && keepIn K (.ref (L.fa p.2.2))
theorem mt_of {K : Frag} {L : Lay} {nm : Str} {k f : Nat} (h : mtB K L (nm, k, f) = true) : @okO L.kx k ∧ Meth K (L.cl k) nm (L.fa f) := by
  simp only [mtB, Bool.and_eq_true, decide_eq_true_eq, Bool.not_eq_true', decide_eq_false_iff_not] at h
  obtain ⟨⟨⟨⟨h1, h2⟩, h3⟩, h4⟩, h5⟩ := h
  exact ⟨⟨h1, h2⟩, ⟨h3, h4, h5⟩⟩
open PySem.W in
def prB (K : Frag) (L : Lay) (p : Str × Nat × Nat) : Bool := L.ok p.2.1 && !decide (p.2.1 < 100) && (match findIn K (.ref (L.cl p.2.1)) p.1 with
  | some (some (.ref pp)) => decide (specialIn K (.ref pp) "__get__" = some (some (.builtin "property.__get__"))) && decide (takesIn K (.ref pp) = some true) && (match recIn K pp "property" with | some (.ref g :: _) => g == L.fa p.2.2 | _ => false)
  | _ => false)
theorem pr_of {K : Frag} {L : Lay} {nm : Str} {k f : Nat} (h : prB K L (nm, k, f) = true) : @okO L.kx k ∧ ∃ pp, PropOf K (L.cl k) nm pp (L.fa f) := by
  simp only [prB, Bool.and_eq_true, Bool.not_eq_true', decide_eq_false_iff_not] at h
  obtain ⟨⟨h1, h2⟩, h3⟩ := h
  refine ⟨⟨h1, h2⟩, ?_⟩
  split at h3
  · rename_i pp e
    simp only [Bool.and_eq_true, decide_eq_true_eq] at h3
    obtain ⟨⟨a, b⟩, c⟩ := h3
    split at c
    · rename_i g r e2
      rw [beq_iff_eq] at c
      subst c
      exact ⟨pp, e, a, b, r, e2⟩
    · cases c
  · cases h3
open PySem.W in
def mkB (K : Frag) (L : Lay) (i : MkI) : Bool := L.ok i.c && !decide (i.c < 100) && decide (nsIn K mainGlobals i.x = some (some (.ref (L.cl i.c)))) && makesIn K (L.cl i.c) && decide (findIn K (.ref (L.cl i.c)) "__init__" = some (some (.ref (L.fa i.f)))) && isFn K (.ref (L.fa i.f)) && keepIn K (.ref (L.cl i.c))
theorem mk_of {K : Frag} {L : Lay} {i : MkI} (h : mkB K L i = true) : @okO L.kx i.c ∧ PySem.W.nsIn K mainGlobals i.x = some (some (.ref (L.cl i.c))) ∧ Mk K (L.cl i.c) (L.fa i.f) := by
  simp only [mkB, Bool.and_eq_true, decide_eq_true_eq, Bool.not_eq_true', decide_eq_false_iff_not] at h
  obtain ⟨⟨⟨⟨⟨⟨h1, h2⟩, h3⟩, h4⟩, h5⟩, h6⟩, h7⟩ := h
  exact ⟨⟨h1, h2⟩, h3, ⟨h4, h5, h6, h7⟩⟩
open PySem.W in
def eqB (K : Frag) (L : Lay) (p : Nat × Nat) : Bool := L.ok p.1 && !decide (p.1 < 100) && decide (findIn K (.ref (L.cl p.1)) "__eq__" = some (some (.ref (L.fa p.2)))) && isFn K (.ref (L.fa p.2)) && decide (findIn K (.ref (L.cl p.1)) "__ne__" = some (some (.builtin "object.__ne__"))) && decide (subIn K (.ref (L.cl p.1)) (.type "object") = some true) &&
  allKd.all (fun k => notFirst K (L.cl p.1) (.type k.name)) && L.cas.all (fun q => notFirst K (L.cl p.1) (.ref q.2))
theorem eq_of {K : Frag} {L : Lay} {k f : Nat} (h : eqB K L (k, f) = true) : @okO L.kx k ∧ EqC K (L.cl k) (L.fa f) ∧ (∀ kd : Kd, kd.isOwn = false → PySem.W.notFirst K (L.cl k) (.type kd.name) = true) ∧ ∀ c', L.ok c' = true → PySem.W.notFirst K (L.cl k) (.ref (L.cl c')) = true := by
  simp only [eqB, Bool.and_eq_true, decide_eq_true_eq, Bool.not_eq_true', decide_eq_false_iff_not] at h
  obtain ⟨⟨⟨⟨⟨⟨⟨h1, h2⟩, h3⟩, h4⟩, h5⟩, h6⟩, h7⟩, h8⟩ := h
  refine ⟨⟨h1, h2⟩, ⟨h3, h4, h5, h6⟩, fun kd hk => ?_, fun c hc => (List.all_eq_true.mp h8) _ (L.ok_at hc)⟩
  exact (List.all_eq_true.mp h7) kd (kd_mem hk)
open PySem.W in
def atB (K : Frag) (L : Lay) (f : Str) : Bool := L.cas.all fun q => decide (q.1 < 100) || decide (findIn K (.ref q.2) f = some none)
theorem at_of {K : Frag} {L : Lay} {f : Str} (h : atB K L f = true) (k : Nat) (hk : @okO L.kx k) : NoAttr K (L.cl k) f := by
  have := (List.all_eq_true.mp h) _ (L.ok_at hk.1)
  simp only [Bool.or_eq_true, decide_eq_true_eq] at this
  exact this.resolve_left hk.2
open PySem.W in
def clB (K : Frag) (L : Lay) (p : Str × Nat) : Bool := L.ok p.2 && decide (nsIn K mainGlobals p.1 = some (some (.ref (L.cl p.2))))
open PySem.W in
/-- a def of the module by name -/
def fnB (K : Frag) (L : Lay) (p : Str × Nat) : Bool := decide (nsIn K mainGlobals p.1 = some (some (.ref (L.fa p.2)))) && keepIn K (.ref (L.fa p.2))
/-! ### errors -/
open PySem.W in
def raiB (K : Frag) (D fI C : Addr) : Bool := decide (findIn K (.ref C) "__setattr__" = some (some (.builtin "object.__setattr__"))) && decide (subIn K (.ref C) (.type "BaseException") = some true) && decide (typeIn K (.ref C) = some (.type "type")) && keepIn K (.ref C) &&
  decide (findIn K (.ref C) "__init__" = some (some (.ref fI))) && decide (typeIn K (.ref fI) = some (.type "function")) && (match clsIn K C with | some cd => decide (alongIn K "__init__" ((cd.mro.dropWhile (· != .ref D)).drop 1) = some (some (.builtin "ValueError.__init__"))) | none => false) &&
  decide (subIn K (.ref C) (.type "ValueError") = some true) && decide (mroIn K C (.ref D) = some true) && decide (findIn K (.ref C) "value" = some none)
/-- the class object itself -/
def ExcO (K : Frag) (C : Addr) : Prop := ∃ nm q N bs bm sn sub ab col dd k0 k1 k2 k3 k5, K.lookup C = some (PySem.excClassObj nm q C N bs bm true sn sub ab col dd k0 k1 k2 k3 k5 "ValueError.__new__") ∧ PySem.HandSPX.refsVE bm = true
theorem raise_of {P : Program} {w : World} {K : Frag} {mg : Str → Option Value} {base : Heap} {D fI C : Addr} {fd : FuncData} (h : raiB K D fI C = true) (ho : ExcO K C) (F : FnOk P w K mg base (L2.CX P w) 1 fI fd ["self", "value"] (DyX.spLog K D)) (hb : Binds K fd ["self", "value"] []) : RaiseC P w K mg base C := by
  simp only [raiB, Bool.and_eq_true, decide_eq_true_eq] at h
  obtain ⟨⟨⟨⟨⟨⟨⟨⟨⟨h1, h2⟩, h3⟩, h4⟩, h5⟩, h6⟩, h7⟩, h8⟩, h9⟩, h10⟩ := h
  split at h7
  · rename_i cd e
    exact ⟨⟨ho, h1, h2, h3, h4⟩, ⟨D, fI, fd, cd, h5, h6, F, hb, e, of_decide_eq_true h7, h8, h9⟩, h10⟩
  · cases h7
/-! ### all of it -/
/-- what must be told of the tables -/
def statB (K : Frag) (L : Lay) (c : Cc) : Bool := clsB K L.cas && c.fns.all (fnB K L) && c.cls.all (clB K L) && c.mts.all (mtB K L) && c.prs.all (prB K L) && c.mks.all (mkB K L) && c.eqs.all (eqB K L) && c.ats.all (atB K L)
theorem stat_of {P : Program} {w : World} {K : Frag} {mg : Str → Option Value} {base h0 : Heap} {L : Lay} {c : Cc} (X : K.In h0) (G : h0.Ns mainGlobals mg) (h : statB K L c = true)
    (hc : @AllC L.kx K c.gl) (hn : AllN K c.bl) (hk : @AllK L.kx K w c.kd) {bi : List Nat} (hb : ∀ j, bi.contains j = true → Binds K (L.fd j) (L.ps j) []) (hbi : (c.fns.all (fun p => bi.contains p.2) && c.mts.all (fun p => bi.contains p.2.2) && c.prs.all (fun p => bi.contains p.2.2) && c.eqs.all (fun p => bi.contains p.2)) = true)
    (hr : ∀ x k, c.cls.lookup x = some k → k < 100 → RaiseC P w K mg base (L.cl k))
    (hmk : ∀ i ∈ c.mks, ∃ g gV, KBn K (L.fd i.f) (L.ps i.f) (i.n + 1) i.ks g gV ∧
      ∀ W H x vs zs us qs, @RVs L.kx K W H us (vs ++ zs) → vs.length = i.n → zs.length = i.ks.length → fillP i.pm us = some qs → ∃ ys, gV (x :: vs) zs = x :: ys ∧ @RVs L.kx K W H qs ys) : @Stat L.kx P w K mg base c := by
  letI := L.kx
  simp only [statB, Bool.and_eq_true] at h
  obtain ⟨⟨⟨⟨⟨⟨⟨s1, s2⟩, s3⟩, s4⟩, s5⟩, s6⟩, s7⟩, s8⟩ := h
  simp only [Bool.and_eq_true] at hbi
  obtain ⟨⟨⟨t1, t2⟩, t3⟩, t4⟩ := hbi
  have hf := List.all_eq_true.mp t1
  have hm := List.all_eq_true.mp t2
  have hp := List.all_eq_true.mp t3
  have he := List.all_eq_true.mp t4
  refine ⟨?_, ?_, ?_, ?_, cf_of s1, ?_, ?_, ?_, ?_, ?_, ?_, ?_⟩
  · intro x v e
    obtain ⟨u, xv, a, b, c⟩ := hc.get e
    exact ⟨u, xv, PySem.W.mg_of X G a, b, c⟩
  · intro x e
    exact PySem.W.mg_none_of X G (hn.get e)
  · intro x f e
    have hm := lookup_mem e
    have := (List.all_eq_true.mp s2) _ hm
    simp only [fnB, Bool.and_eq_true, decide_eq_true_eq] at this
    exact ⟨PySem.W.mg_of X G this.1, this.2, hb f (hf _ hm)⟩
  · intro x kvs e
    obtain ⟨a, h1, h2⟩ := hk.get e
    exact ⟨a, PySem.W.mg_of X G h1, h2⟩
  · intro x k e
    have := (List.all_eq_true.mp s3) _ (lookup_mem e)
    simp only [clB, Bool.and_eq_true, decide_eq_true_eq] at this
    exact ⟨PySem.W.mg_of X G this.2, this.1⟩
  · exact hr
  · intro nm k f e
    have hmem : (nm, k, f) ∈ c.mts := by simpa using e
    obtain ⟨a, b⟩ := mt_of ((List.all_eq_true.mp s4) _ hmem)
    exact ⟨a, b, hb f (hm _ hmem)⟩
  · intro nm k f e
    have hmem : (nm, k, f) ∈ c.prs := by simpa using e
    obtain ⟨a, b⟩ := pr_of ((List.all_eq_true.mp s5) _ hmem)
    exact ⟨a, b, hb f (hp _ hmem)⟩
  · intro i hi
    obtain ⟨a, b, d⟩ := mk_of ((List.all_eq_true.mp s6) _ hi)
    obtain ⟨g, gV, k1, k2⟩ := hmk i hi
    exact ⟨a, PySem.W.mg_of X G b, d, g, gV, k1, k2⟩
  · intro k f e
    have hmem : (k, f) ∈ c.eqs := by simpa using e
    obtain ⟨a, b, d, e⟩ := eq_of ((List.all_eq_true.mp s7) _ hmem)
    exact ⟨a, b, hb f (he _ hmem), d, e⟩
  · intro f e k hk
    have hmem : f ∈ c.ats := by simpa using e
    exact at_of ((List.all_eq_true.mp s8) _ hmem) k hk
/-! ### how classes are called -/
theorem kbn_pos {K : Frag} {fd : FuncData} {ps : List Str} {n : Nat} (hb : Binds K fd ps []) (hl : ps.length = n + 1) : KBn K fd ps (n + 1) [] (fun us _ => us) (fun vs _ => vs) := by
  refine ⟨fun s us ws X l1 l2 => ?_, fun r _ => r⟩
  have := hb s us X (by rw [List.append_nil, l1, hl])
  simpa using this
theorem fill_all {n : Nat} {us qs : List Val} (hl : us.length = n) (h : fillP ((List.range n).map Sum.inl) us = some qs) : qs = us := by
  have key : ∀ (l : List Nat) (qs : List Val), fillP (l.map Sum.inl) us = some qs → (∀ i ∈ l, i < us.length) → qs = l.filterMap fun i => us[i]? := by
    intro l
    induction l with
    | nil => intro qs h _; cases h; rfl
    | cons i l ih =>
      intro qs h hl
      simp only [List.map_cons, fillP, Option.bind_eq_some_iff, Option.map_eq_some_iff] at h
      obtain ⟨v, e1, ys, e2, rfl⟩ := h
      rw [List.filterMap_cons, e1]
      simp only
      rw [ih ys e2 fun j hj => hl j (List.mem_cons_of_mem _ hj)]
  rw [key _ _ h (fun i hi => by rw [List.mem_range] at hi; omega), ← hl]
  clear key h hl
  apply List.ext_getElem?
  intro i
  have : (List.range us.length).filterMap (fun i => us[i]?) = us := by
    clear i
    induction us with
    | nil => rfl
    | cons a r ih =>
      rw [List.length_cons, List.range_succ_eq_map, List.filterMap_cons]
      simp only [List.getElem?_cons_zero, List.filterMap_map]
      congr 1
  rw [this]
theorem mk_pos {K : Frag} {L : Lay} {i : MkI} (hb : Binds K (L.fd i.f) (L.ps i.f) []) (hl : (L.ps i.f).length = i.n + 1) (hk : i.ks = []) (hpm : i.pm = (List.range i.n).map Sum.inl) : ∃ g gV, KBn K (L.fd i.f) (L.ps i.f) (i.n + 1) i.ks g gV ∧
      ∀ W H x vs zs us qs, @RVs L.kx K W H us (vs ++ zs) → vs.length = i.n → zs.length = i.ks.length → fillP i.pm us = some qs → ∃ ys, gV (x :: vs) zs = x :: ys ∧ @RVs L.kx K W H qs ys := by
  letI := L.kx
  rw [hk]
  refine ⟨_, _, kbn_pos hb hl, ?_⟩
  intro W H x vs zs us qs r l1 l2 hf
  have hz : zs = [] := by simpa using l2
  subst hz
  rw [List.append_nil] at r
  refine ⟨vs, rfl, ?_⟩
  rw [hpm] at hf
  rw [fill_all (by rw [r.length, l1]) hf]
  exact r
end Dy

/-! Dp, part T: the errors' __init__; the end's facts put together. -/
namespace Dy
open PySem PySem.Spec PySem.W PySem.Calls PyProof.Rows L2
/-- where the errors' __init__ lies, and what it closes over -/
structure LogAt (P : Program) (K : PySem.W.Frag) (s : Stmt) (fI D : Addr) (fd : FuncData) : Prop where
  ex : ∃ (oc : Value) (od an : Option Addr) (kV doc pm ct : Value) (osl : Array (Option Value)) (cc cda : Addr) (ccl cl : Value) (cdd cld : Option Addr) (vs : Array Value) (ccs csl : Array (Option Value)) (file : Str) (tf : PySem.Tok) (cdD : ClassData),
    fd = fnX "__init__" "LogError.__init__" (defArgs s) (defBody s) (defScope s) [("__class__", cc)] .none kV doc pm an (.ref cda) ct ∧ K.lookup fI = some ⟨oc, od, .func fd, osl⟩ ∧ codeIn K (.ref cda) "LogError.__init__" = true ∧ K.lookup cda = some ⟨ccl, cdd, .fields vs, ccs⟩ ∧ vs[2]? = some (.str file tf) ∧ ((P.main.file : Str) == file) = true ∧
    K.lookup cc = some ⟨cl, cld, .cell (some (.ref D)), csl⟩ ∧ clsIn K D = some cdD
theorem logAt {P : Program} {K : PySem.W.Frag} {s : Stmt} {fI D : Addr} {oc : Value} {od an : Option Addr} {kV doc pm ct : Value} {osl : Array (Option Value)} {cc cda : Addr} {ccl cl : Value} {cdd cld : Option Addr} {vs : Array Value} {ccs csl : Array (Option Value)} {file : Str} {tf : PySem.Tok} {cdD : ClassData}
    (h1 : K.lookup fI = some ⟨oc, od, .func (fnX "__init__" "LogError.__init__" (defArgs s) (defBody s) (defScope s) [("__class__", cc)] .none kV doc pm an (.ref cda) ct), osl⟩) (h2 : codeIn K (.ref cda) "LogError.__init__" = true) (h3 : K.lookup cda = some ⟨ccl, cdd, .fields vs, ccs⟩) (h4 : vs[2]? = some (.str file tf)) (h5 : ((P.main.file : Str) == file) = true)
    (h6 : K.lookup cc = some ⟨cl, cld, .cell (some (.ref D)), csl⟩) (h7 : clsIn K D = some cdD) : LogAt P K s fI D (fnX "__init__" "LogError.__init__" (defArgs s) (defBody s) (defScope s) [("__class__", cc)] .none kV doc pm an (.ref cda) ct) :=
  ⟨_, _, _, _, _, _, _, _, _, _, _, _, _, _, _, _, _, _, _, _, rfl, h1, h2, h3, h4, h5, h6, h7⟩
/-- what its text says -/
structure LogText (P : Program) (s : Stmt) : Prop where
  body : ∃ p0 p1 p2 p3 p4 p5 p6 p7 p8, defBody s = DyX.logBody p0 p1 p2 p3 p4 p5 p6 p7 p8 ∧ DyX.LogEv p0 p1 p2 p3
  sc : NdefX.NScope ["self", "value", "__class__"] ["self", "value"] ["__class__"] (defScope s)
  par : ∃ ar : Arg, ((defArgs s).posonlyargs ++ (defArgs s).args).head? = some ar ∧ ar.arg = "self"
  sup : (defScope s).names.lookup ("super" : Str) = some .globalImplicit
  top : (P.main.scope.names.lookup ("super" : Str)).isSome = false
  bd : ∀ (kV doc pm ct : Value) (an : Option Addr) (cc cda : Addr) (us : List Value), us.length = 2 → bindArgs (fnX "__init__" "LogError.__init__" (defArgs s) (defBody s) (defScope s) [("__class__", cc)] .none kV doc pm an (.ref cda) ct) ⟨us, []⟩ = pure ((["self", "value"] : List Str).zip us)
theorem log_init {P : Program} {w : World} {K : PySem.W.Frag} {mg : Str → Option Value} {base h0 : Heap} {s : Stmt} {fI D : Addr} {fd : FuncData} (X : K.In h0) (G : h0.Ns mainGlobals mg) (L : LogAt P K s fI D fd) (T : LogText P s) (hm : nsIn K mainGlobals "super" = some none) (hop : nsIn K cStatics "thirdparty.any" = some none) :
    FnOk P w K mg base (L2.CX P w) 1 fI fd ["self", "value"] (DyX.spLog K D) ∧ Binds K fd ["self", "value"] [] := by
  obtain ⟨oc, od, an, kV, doc, pm, ct, osl, cc, cda, ccl, cl, cdd, cld, vs, ccs, csl, file, tf, cdD, rfl, h1, h2, h3, h4, h5, h6, h7⟩ := L.ex
  refine ⟨?_, .all (T.bd kV doc pm ct an cc cda)⟩
  obtain ⟨p0, p1, p2, p3, p4, p5, p6, p7, p8, e, ev⟩ := T.body
  obtain ⟨ar, a1, a2⟩ := T.par
  rw [e] at h1 ⊢
  exact DyX.logInit_ok h1 h2 h3 h4 h5 h6 h7 (mg_none_of X G hm) a1 a2 T.sc T.sup T.top hop ev
theorem excO {K : PySem.W.Frag} {C : Addr} {nm q : Str} {N : Addr} {bs : List Value} {bm} {sn sub ab col dd k0 k1 k2 k3 k5} (h : K.lookup C = some (PySem.excClassObj nm q C N bs bm true sn sub ab col dd k0 k1 k2 k3 k5 "ValueError.__new__")) (h2 : PySem.HandSPX.refsVE bm = true) : ExcO K C := ⟨nm, q, N, bs, bm, sn, sub, ab, col, dd, k0, k1, k2, k3, k5, h, h2⟩
/-- all own errors -/
theorem rai_all {P : Program} {w : World} {K : PySem.W.Frag} {mg : Str → Option Value} {base h0 : Heap} {s : Stmt} {fI D : Addr} {fd : FuncData} {L : Lay} {cs : List (Str × Nat)} (X : K.In h0) (G : h0.Ns mainGlobals mg) (A : LogAt P K s fI D fd) (T : LogText P s) (hm : nsIn K mainGlobals "super" = some none) (hop : nsIn K cStatics "thirdparty.any" = some none)
    (hr : (cs.all fun p => !decide (p.2 < 100) || raiB K D fI (L.cl p.2)) = true) (ho : ∀ p ∈ cs, p.2 < 100 → ExcO K (L.cl p.2)) : ∀ x k, cs.lookup x = some k → k < 100 → RaiseC P w K mg base (L.cl k) := by
  intro x k e hk
  have hmem := lookup_mem e
  obtain ⟨F, hb⟩ := log_init (w := w) (base := base) X G A T hm hop
  have h1 := (List.all_eq_true.mp hr) _ hmem
  simp only [Bool.or_eq_true, Bool.not_eq_true', decide_eq_false_iff_not] at h1
  exact raise_of (h1.resolve_left fun z => z hk) (ho _ hmem hk) F hb
/-! ### lists of facts -/
def AllP {α : Type} (P : α → Prop) : List α → Prop
  | [] => True
  | d :: r => P d ∧ AllP P r
theorem AllP.get {α : Type} {P : α → Prop} : ∀ {l : List α}, AllP P l → ∀ d ∈ l, P d
  | _ :: _, ⟨h1, h2⟩, d, hd => by
    rcases List.mem_cons.mp hd with rfl | z
    · exact h1
    · exact h2.get d z
  | [], _, d, hd => by cases hd
def AllF (K : PySem.W.Frag) : List DefT → List (Addr × FuncData × List Str) → Prop
  | [], [] => True
  | t :: ts, f :: fs => (Fun K t.x t.qual t.st f.1 f.2.1 ∧ f.2.2 = t.ps) ∧ AllF K ts fs
  | _, _ => False
theorem AllF.get {K : PySem.W.Frag} : ∀ {ts : List DefT} {fs : List (Addr × FuncData × List Str)} {cas : List (Nat × Addr)}, AllF K ts fs → ∀ (j : Nat) (t : DefT), ts[j]? = some t → Fun K t.x t.qual t.st (Lay.fa ⟨cas, fs⟩ j) (Lay.fd ⟨cas, fs⟩ j) ∧ Lay.ps ⟨cas, fs⟩ j = t.ps
  | [], [], _, _, j, t, h => by simp at h
  | [], _ :: _, _, h, _, _, _ => h.elim
  | _ :: _, [], _, h, _, _, _ => h.elim
  | t :: ts, f :: fs, cas, ⟨h1, _⟩, 0, u, h => by
    simp at h
    subst h
    exact h1
  | t :: ts, f :: fs, cas, ⟨_, h2⟩, j + 1, u, h => by
    have := h2.get (cas := cas) j u (by simpa using h)
    exact this
theorem contains_get {B : Nat → Prop} {l : List Nat} (h : AllP B l) (j : Nat) (hj : l.contains j = true) : B j := h.get j (by simpa using hj)
/-- a def with keyword-only defaults -/
def KwsAt (K : PySem.W.Frag) (D : Addr) : List (Str × V) → Prop
  | [] => True
  | q :: r => (∃ u, nsIn K D q.1 = some (some u) ∧ RelV q.2 u) ∧ KwsAt K D r
theorem KwsAt.get {K : PySem.W.Frag} {D : Addr} : ∀ {l : List (Str × V)}, KwsAt K D l → ∀ q ∈ l, ∃ u, nsIn K D q.1 = some (some u) ∧ RelV q.2 u
  | _ :: _, ⟨h1, h2⟩, q, hq => by
    rcases List.mem_cons.mp hq with rfl | z
    · exact h1
    · exact h2.get q z
  | [], _, q, hq => by cases hq
theorem funD_mk {K : PySem.W.Frag} {x qual : Str} {st : Stmt} {f D : Addr} {oc : Value} {od an : Option Addr} {osl : Array (Option Value)} {doc pm cdv ct : Value} {kws : List (Str × V)} (l : K.lookup f = some ⟨oc, od, .func (PySem.W.fnOf x qual (defArgs st) (defBody st) (defScope st) .none (.ref D) doc pm an cdv ct), osl⟩)
    (c : codeIn K cdv qual = true) (k : keepIn K (.ref f) = true) (q : KwsAt K D kws) : FunD K x qual (defArgs st) (defBody st) (defScope st) [] kws f (PySem.W.fnOf x qual (defArgs st) (defBody st) (defScope st) .none (.ref D) doc pm an cdv ct) :=
  ⟨⟨oc, od, .none, .ref D, doc, pm, an, cdv, ct, osl, rfl, l, c, .inl ⟨rfl, rfl⟩, .inr ⟨D, rfl, q.get⟩⟩, k⟩
theorem fun_of {K : PySem.W.Frag} {x qual : Str} {st : Stmt} {f : Addr} {fd : FuncData} {kws : List (Str × V)} (F : FunD K x qual (defArgs st) (defBody st) (defScope st) [] kws f fd) : Fun K x qual st f fd := by
  obtain ⟨oc, od, dV, kV, doc, pm, an, cdv, ct, osl, rfl, lk, hcd, hD, _⟩ := F.ex
  rcases hD with ⟨_, rfl⟩ | ⟨e, _⟩
  · exact ⟨⟨oc, od, kV, doc, pm, an, cdv, ct, osl, rfl, lk, hcd⟩, F.kp⟩
  · exact absurd rfl e
theorem kws_cons {K : PySem.W.Frag} {D : Addr} {n : Str} {v : V} {u : Value} {r : List (Str × V)} (h1 : nsIn K D n = some (some u)) (h2 : RelV v u) (h3 : KwsAt K D r) : KwsAt K D ((n, v) :: r) := ⟨⟨u, h1, h2⟩, h3⟩
theorem prop_loc {K : PySem.W.Frag} {a f pp : Addr} {nm : Str} {rest : List Value} (h1 : findIn K (.ref a) nm = some (some (.ref pp))) (h2 : recIn K pp "property" = some (.ref f :: rest)) : ∃ pp rest, findIn K (.ref a) nm = some (some (.ref pp)) ∧ recIn K pp "property" = some (.ref f :: rest) := ⟨pp, rest, h1, h2⟩
end Dy

namespace LR
open PySem L2 Dy
def topS (i : Nat) : Stmt := PySem.Challenge.pw_loggedruns_k11_recorders_of_any_value.main.body.getD i (.Pass ⟨0, 0, 0, 0⟩)
def inS (i j : Nat) : Stmt := match topS i with | .ClassDef _ _ _ b _ _ _ _ _ _ _ => b.getD j (.Pass ⟨0, 0, 0, 0⟩) | s => s
def gl : List (Str × Val) := [("MOST_LEVEL", (.int 3)), ("MOST_EVERY", (.int 4))]
def kdT : List (Str × List (Text × Val)) := []
def bl : List Str := ["ValueError", "abs", "all", "any", "bool", "int", "isinstance", "len", "list", "max", "min", "range", "repr", "tuple", "zip"]
def i_is_integer : Nat := 0
def i_is_between : Nat := 1
def i_is_truth : Nat := 2
def i_Recorder_init : Nat := 3
def i_Recorder_eq : Nat := 4
def i_Recorder_all_three : Nat := 5
def i_Recorder_level : Nat := 6
def i_Recorder_every : Nat := 7
def i_Recorder_names : Nat := 8
def i_law_pot : Nat := 9
def i_law_take : Nat := 10
def i_law_of : Nat := 11
def i_law_odd : Nat := 12
def i_law_made : Nat := 13
def i_law_bad : Nat := 14
def i_law_heard : Nat := 15
def i_law_right : Nat := 16
def i_law : Nat := 17
def fns : List (Str × Nat) := [("is_integer", 0), ("is_between", 1), ("is_truth", 2), ("_law_pot", 9), ("_law_take", 10), ("_law_of", 11), ("_law_odd", 12), ("_law_made", 13), ("_law_bad", 14), ("_law_heard", 15), ("_law_right", 16), ("law", 17)]
def cls : List (Str × Nat) := [("LogError", 0), ("BadRecorder", 1), ("Recorder", 100)]
def mts : List (Str × Nat × Nat) := [("all_three", 100, 5)]
def prs : List (Str × Nat × Nat) := [("names", 100, 8), ("every", 100, 7), ("level", 100, 6)]
def mk_0 : MkI := ⟨"Recorder", 0, ["level", "names"], 100, 3, [.inl 0, .inr (.int 0), .inl 1]⟩
def mk_1 : MkI := ⟨"Recorder", 0, [], 100, 3, [.inr (.int 1), .inr (.int 0), .inr (.bool true)]⟩
def mk_2 : MkI := ⟨"Recorder", 0, ["every"], 100, 3, [.inr (.int 1), .inl 0, .inr (.bool true)]⟩
def mk_3 : MkI := ⟨"Recorder", 0, ["names", "level", "every"], 100, 3, [.inl 1, .inl 2, .inl 0]⟩
def mks : List MkI := [mk_0, mk_1, mk_2, mk_3]
def eqs : List (Nat × Nat) := [(100, 4)]
def ats : List Str := ["own_names", "own_every", "own_level", "value"]
def cc (N : List Str) (ns : List (Str × NameKind)) : Cc := ⟨N, ns, true, gl, bl, fns, kdT, cls, mts, prs, mks, eqs, ats⟩
/-! is_integer -/
def n_is_integer : List Str := ["value"]
def p_is_integer : List Str := ["value"]
def s_is_integer : Stmt := topS 4
def b_is_integer : S :=
  (.cons (.ret (.and (.isI .int (.var 0)) (.one (.not (.isI .bool (.var 0))))))
    .nil)
theorem c_is_integer : chkSs (cc n_is_integer (defScope s_is_integer).names) (defBody s_is_integer) b_is_integer = true := by decide +kernel
theorem sc_is_integer : FnScope n_is_integer p_is_integer (defScope s_is_integer) := ⟨rfl, rfl, rfl, by decide +kernel, rfl, by decide +kernel, by decide +kernel⟩
/-! is_between -/
def n_is_between : List Str := ["value", "low", "high"]
def p_is_between : List Str := ["value", "low", "high"]
def s_is_between : Stmt := topS 5
def b_is_between : S :=
  (.cons (.ret (.and (.call i_is_integer (.cons (.var 0) .nil)) (.one (.chain .le .le (.var 1) (.var 0) (.var 2)))))
    .nil)
theorem c_is_between : chkSs (cc n_is_between (defScope s_is_between).names) (defBody s_is_between) b_is_between = true := by decide +kernel
theorem sc_is_between : FnScope n_is_between p_is_between (defScope s_is_between) := ⟨rfl, rfl, rfl, by decide +kernel, rfl, by decide +kernel, by decide +kernel⟩
/-! is_truth -/
def n_is_truth : List Str := ["value"]
def p_is_truth : List Str := ["value"]
def s_is_truth : Stmt := topS 6
def b_is_truth : S :=
  (.cons (.ret (.isI .bool (.var 0)))
    .nil)
theorem c_is_truth : chkSs (cc n_is_truth (defScope s_is_truth).names) (defBody s_is_truth) b_is_truth = true := by decide +kernel
theorem sc_is_truth : FnScope n_is_truth p_is_truth (defScope s_is_truth) := ⟨rfl, rfl, rfl, by decide +kernel, rfl, by decide +kernel, by decide +kernel⟩
/-! Recorder.__init__ -/
def n_Recorder_init : List Str := ["self", "level", "every", "names"]
def p_Recorder_init : List Str := ["self", "level", "every", "names"]
def s_Recorder_init : Stmt := inS 10 0
def b_Recorder_init : S :=
  (.cons (.ite (.not (.call i_is_between (.cons (.var 1) (.cons (.cst (.int 1)) (.cons (.cst (.int 3)) .nil)))))
    (.cons (.raise 1 (.var 1))
    .nil)
    .nil)
    (.cons (.ite (.or (.not (.call i_is_between (.cons (.var 2) (.cons (.cst (.int 0)) (.cons (.cst (.int 4)) .nil))))) (.one (.cmp .eq (.var 2) (.cst (.int 1)))))
    (.cons (.raise 1 (.var 2))
    .nil)
    .nil)
    (.cons (.ite (.not (.call i_is_truth (.cons (.var 3) .nil)))
    (.cons (.raise 1 (.var 3))
    .nil)
    .nil)
    (.cons (.setA "own_level" (.var 0) (.var 1))
    (.cons (.setA "own_every" (.var 0) (.var 2))
    (.cons (.setA "own_names" (.var 0) (.var 3))
    .nil))))))
theorem c_Recorder_init : chkSs (cc n_Recorder_init (defScope s_Recorder_init).names) (defBody s_Recorder_init) b_Recorder_init = true := by decide +kernel
theorem sc_Recorder_init : FnScope n_Recorder_init p_Recorder_init (defScope s_Recorder_init) := ⟨rfl, rfl, rfl, by decide +kernel, rfl, by decide +kernel, by decide +kernel⟩
/-! Recorder.__eq__ -/
def n_Recorder_eq : List Str := ["self", "other"]
def p_Recorder_eq : List Str := ["self", "other"]
def s_Recorder_eq : Stmt := inS 10 1
def b_Recorder_eq : S :=
  (.cons (.ret (.and (.isO 100 (.var 1)) (.one (.cmp .eq (.mc 100 i_Recorder_all_three "all_three" (.var 0) .nil) (.mc 100 i_Recorder_all_three "all_three" (.var 1) .nil)))))
    .nil)
theorem c_Recorder_eq : chkSs (cc n_Recorder_eq (defScope s_Recorder_eq).names) (defBody s_Recorder_eq) b_Recorder_eq = true := by decide +kernel
theorem sc_Recorder_eq : FnScope n_Recorder_eq p_Recorder_eq (defScope s_Recorder_eq) := ⟨rfl, rfl, rfl, by decide +kernel, rfl, by decide +kernel, by decide +kernel⟩
/-! Recorder.all_three -/
def n_Recorder_all_three : List Str := ["self"]
def p_Recorder_all_three : List Str := ["self"]
def s_Recorder_all_three : Stmt := inS 10 2
def b_Recorder_all_three : S :=
  (.cons (.ret (.tup (.cons (.attr "own_level" (.var 0)) (.cons (.attr "own_every" (.var 0)) (.cons (.attr "own_names" (.var 0)) .nil)))))
    .nil)
theorem c_Recorder_all_three : chkSs (cc n_Recorder_all_three (defScope s_Recorder_all_three).names) (defBody s_Recorder_all_three) b_Recorder_all_three = true := by decide +kernel
theorem sc_Recorder_all_three : FnScope n_Recorder_all_three p_Recorder_all_three (defScope s_Recorder_all_three) := ⟨rfl, rfl, rfl, by decide +kernel, rfl, by decide +kernel, by decide +kernel⟩
/-! Recorder.level -/
def n_Recorder_level : List Str := ["self"]
def p_Recorder_level : List Str := ["self"]
def s_Recorder_level : Stmt := inS 10 3
def b_Recorder_level : S :=
  (.cons (.ret (.attr "own_level" (.var 0)))
    .nil)
theorem c_Recorder_level : chkSs (cc n_Recorder_level (defScope s_Recorder_level).names) (defBody s_Recorder_level) b_Recorder_level = true := by decide +kernel
theorem sc_Recorder_level : FnScope n_Recorder_level p_Recorder_level (defScope s_Recorder_level) := ⟨rfl, rfl, rfl, by decide +kernel, rfl, by decide +kernel, by decide +kernel⟩
/-! Recorder.every -/
def n_Recorder_every : List Str := ["self"]
def p_Recorder_every : List Str := ["self"]
def s_Recorder_every : Stmt := inS 10 4
def b_Recorder_every : S :=
  (.cons (.ret (.attr "own_every" (.var 0)))
    .nil)
theorem c_Recorder_every : chkSs (cc n_Recorder_every (defScope s_Recorder_every).names) (defBody s_Recorder_every) b_Recorder_every = true := by decide +kernel
theorem sc_Recorder_every : FnScope n_Recorder_every p_Recorder_every (defScope s_Recorder_every) := ⟨rfl, rfl, rfl, by decide +kernel, rfl, by decide +kernel, by decide +kernel⟩
/-! Recorder.names -/
def n_Recorder_names : List Str := ["self"]
def p_Recorder_names : List Str := ["self"]
def s_Recorder_names : Stmt := inS 10 5
def b_Recorder_names : S :=
  (.cons (.ret (.attr "own_names" (.var 0)))
    .nil)
theorem c_Recorder_names : chkSs (cc n_Recorder_names (defScope s_Recorder_names).names) (defBody s_Recorder_names) b_Recorder_names = true := by decide +kernel
theorem sc_Recorder_names : FnScope n_Recorder_names p_Recorder_names (defScope s_Recorder_names) := ⟨rfl, rfl, rfl, by decide +kernel, rfl, by decide +kernel, by decide +kernel⟩
/-! _law_pot -/
def n_law_pot : List Str := ["_law_script", "_law_k", "_law_cell", "_law_own", "_law_mixed"]
def p_law_pot : List Str := ["_law_script", "_law_k"]
def s_law_pot : Stmt := topS 12
def b_law_pot : S :=
  (.cons (.asg (.name 2) (.ite (.cmp .lt (.var 1) (.bi .len (.cons (.var 0) .nil))) (.idx (.var 0) (.var 1)) (.bin .add (.bin .mul (.cst (.int 41)) (.var 1)) (.cst (.int 13)))))
    (.cons (.asg (.name 3) (.bin .mul (.bin .mod (.bi .int (.cons (.bi .abs (.cons (.var 2) .nil)) .nil)) (.bin .pow (.bin .pow (.cst (.int 10)) (.cst (.int 60))) (.cst (.int 5)))) (.bi .int (.cons (.cmp .ge (.bi .abs (.cons (.var 2) .nil)) (.bin .pow (.cst (.int 10)) (.cst (.int 18)))) .nil))))
    (.cons (.asg (.name 4) (.bin .add (.bin .add (.bin .mul (.bin .mod (.bi .int (.cons (.var 2) .nil)) (.cst (.int 2305843009213693951))) (.cst (.int 70913))) (.bin .mul (.bin .mul (.cst (.int 6701)) (.var 1)) (.var 1))) (.cst (.int 59))))
    (.cons (.ret (.lst true (.cons (.var 3) (.cons (.bin .mod (.bi .int (.cons (.var 4) .nil)) (.cst (.int 2305843009213693921))) (.cons (.cst (.int 0)) .nil)))))
    .nil))))
theorem c_law_pot : chkSs (cc n_law_pot (defScope s_law_pot).names) (defBody s_law_pot) b_law_pot = true := by decide +kernel
theorem sc_law_pot : FnScope n_law_pot p_law_pot (defScope s_law_pot) := ⟨rfl, rfl, rfl, by decide +kernel, rfl, by decide +kernel, by decide +kernel⟩
/-! _law_take -/
def n_law_take : List Str := ["_law_pot_here", "_law_upto", "_law_prime", "_law_mixed", "_law_digit"]
def p_law_take : List Str := ["_law_pot_here", "_law_upto"]
def s_law_take : Stmt := topS 13
def b_law_take : S :=
  (.cons (.ite (.cmp .gt (.idx (.var 0) (.cst (.int 0))) (.cst (.int 0)))
    (.cons (.asg (.name 4) (.bin .mod (.bi .int (.cons (.idx (.var 0) (.cst (.int 0))) .nil)) (.var 1)))
    (.cons (.setIx (.var 0) (.cst (.int 0)) (.bin .fdiv (.idx (.var 0) (.cst (.int 0))) (.var 1)))
    (.cons (.ret (.var 4))
    .nil)))
    .nil)
    (.cons (.setIx (.var 0) (.cst (.int 2)) (.bin .add (.idx (.var 0) (.cst (.int 2))) (.cst (.int 1))))
    (.cons (.asg (.name 2) (.idx (.lst false (.cons (.cst (.int 2147483647)) (.cons (.cst (.int 2147483629)) (.cons (.cst (.int 2147483587)) (.cons (.cst (.int 2147483579)) (.cons (.cst (.int 2147483563)) .nil)))))) (.bin .mod (.bi .int (.cons (.idx (.var 0) (.cst (.int 2))) .nil)) (.cst (.int 5)))))
    (.cons (.asg (.name 3) (.bin .mod (.bi .int (.cons (.bin .pow (.bi .int (.cons (.bin .add (.bin .add (.idx (.var 0) (.cst (.int 1))) (.bin .mul (.bin .mul (.cst (.int 98999)) (.idx (.var 0) (.cst (.int 2)))) (.idx (.var 0) (.cst (.int 2))))) (.cst (.int 43))) .nil)) (.cst (.int 3))) .nil)) (.var 2)))
    (.cons (.asg (.name 3) (.bin .mod (.bi .int (.cons (.bin .mul (.var 3) (.bin .add (.bin .mod (.bi .int (.cons (.var 3) .nil)) (.cst (.int 10007))) (.bin .mul (.cst (.int 79)) (.idx (.var 0) (.cst (.int 2)))))) .nil)) (.cst (.int 2305843009213693907))))
    (.cons (.ret (.bin .mod (.bi .int (.cons (.bin .fdiv (.var 3) (.cst (.int 103))) .nil)) (.var 1)))
    .nil))))))
theorem c_law_take : chkSs (cc n_law_take (defScope s_law_take).names) (defBody s_law_take) b_law_take = true := by decide +kernel
theorem sc_law_take : FnScope n_law_take p_law_take (defScope s_law_take) := ⟨rfl, rfl, rfl, by decide +kernel, rfl, by decide +kernel, by decide +kernel⟩
/-! _law_of -/
def n_law_of : List Str := ["_law_pot_here", "_law_some"]
def p_law_of : List Str := ["_law_pot_here", "_law_some"]
def s_law_of : Stmt := topS 14
def b_law_of : S :=
  (.cons (.ret (.idx (.var 1) (.call i_law_take (.cons (.var 0) (.cons (.bi .len (.cons (.var 1) .nil)) .nil)))))
    .nil)
theorem c_law_of : chkSs (cc n_law_of (defScope s_law_of).names) (defBody s_law_of) b_law_of = true := by decide +kernel
theorem sc_law_of : FnScope n_law_of p_law_of (defScope s_law_of) := ⟨rfl, rfl, rfl, by decide +kernel, rfl, by decide +kernel, by decide +kernel⟩
/-! _law_odd -/
def n_law_odd : List Str := ["_law_pot_here", "_law_some", "_law_other", "_law_found", "_law_turn"]
def p_law_odd : List Str := ["_law_pot_here", "_law_some"]
def s_law_odd : Stmt := topS 15
def b_law_odd : S :=
  (.cons (.asg (.name 2) (.lst false (.cons (.cst .non) (.cons (.cst (.bool true)) (.cons (.cst (.bool false)) (.cons (.cst (.int 0)) (.cons (.cst (.int 1)) (.cons (.cst (.int 2)) (.cons (.cst (.int 3)) (.cons (.cst (.int 4)) (.cons (.cst (.int 5)) (.cons (.neg (.cst (.int 1))) (.cons (.bin .pow (.cst (.int 10)) (.cst (.int 20))) (.cons (.cst (.str [])) (.cons (.cst (.str [97])) (.cons (.tup .nil) (.cons (.lst false .nil) (.cons (.dsp [] .nil) (.cons (.tup (.cons (.cst (.str [100, 111])) .nil)) .nil)))))))))))))))))))
    (.cons (.asg (.name 3) (.call i_law_of (.cons (.var 0) (.cons (.bin .add (.bin .mul (.bi .list (.cons (.var 1) .nil)) (.cst (.int 2))) (.var 2)) .nil))))
    (.cons (.loop (.name 4) .rng1 (.call i_law_of (.cons (.var 0) (.cons (.lst false (.cons (.cst (.int 0)) (.cons (.cst (.int 0)) (.cons (.cst (.int 0)) (.cons (.cst (.int 0)) (.cons (.cst (.int 1)) (.cons (.cst (.int 2)) (.cons (.cst (.int 27)) .nil)))))))) .nil))) (.cst .non)
    (.cons (.asg (.name 3) (.call i_law_of (.cons (.var 0) (.cons (.lst false (.cons (.tup (.cons (.var 3) .nil)) (.cons (.lst false (.cons (.var 3) .nil)) (.cons (.dsp [[97]] (.cons (.var 3) .nil)) .nil)))) .nil))))
    .nil))
    (.cons (.ret (.var 3))
    .nil))))
theorem c_law_odd : chkSs (cc n_law_odd (defScope s_law_odd).names) (defBody s_law_odd) b_law_odd = true := by decide +kernel
theorem sc_law_odd : FnScope n_law_odd p_law_odd (defScope s_law_odd) := ⟨rfl, rfl, rfl, by decide +kernel, rfl, by decide +kernel, by decide +kernel⟩
/-! _law_made -/
def n_law_made : List Str := ["_law_bill", "_law_way"]
def p_law_made : List Str := ["_law_bill", "_law_way"]
def s_law_made : Stmt := topS 16
def b_law_made : S :=
  (.cons (.ite (.cmp .eq (.var 1) (.cst (.int 0)))
    (.cons (.ret (.mk 100 i_Recorder_init 0 3 [.inl 1, .inl 2, .inl 0] .nil (.cons (.idx (.var 0) (.cst (.int 2))) (.cons (.idx (.var 0) (.cst (.int 0))) (.cons (.idx (.var 0) (.cst (.int 1))) .nil)))))
    .nil)
    .nil)
    (.cons (.ite (.cmp .eq (.var 1) (.cst (.int 1)))
    (.cons (.ret (.mk 100 i_Recorder_init 0 1 [.inr (.int 1), .inl 0, .inr (.bool true)] .nil (.cons (.idx (.var 0) (.cst (.int 1))) .nil)))
    .nil)
    .nil)
    (.cons (.ret (.ite (.cmp .eq (.var 1) (.cst (.int 2))) (.mk 100 i_Recorder_init 0 2 [.inl 0, .inr (.int 0), .inl 1] .nil (.cons (.idx (.var 0) (.cst (.int 0))) (.cons (.idx (.var 0) (.cst (.int 2))) .nil))) (.mk 100 i_Recorder_init 0 0 [.inr (.int 1), .inr (.int 0), .inr (.bool true)] .nil .nil)))
    .nil)))
theorem c_law_made : chkSs (cc n_law_made (defScope s_law_made).names) (defBody s_law_made) b_law_made = true := by decide +kernel
theorem sc_law_made : FnScope n_law_made p_law_made (defScope s_law_made) := ⟨rfl, rfl, rfl, by decide +kernel, rfl, by decide +kernel, by decide +kernel⟩
/-! _law_bad -/
def n_law_bad : List Str := ["_law_whole", "_law_found", "_law_value", "_law_some"]
def p_law_bad : List Str := ["_law_whole"]
def s_law_bad : Stmt := topS 17
def b_law_bad : S :=
  (.cons (.asg (.name 1) (.lst true .nil))
    (.cons (.loop (.tup [2, 3]) .zip (.var 0) (.lst false (.cons (.tup (.cons (.cst (.int 1)) (.cons (.cst (.int 2)) (.cons (.cst (.int 3)) .nil)))) (.cons (.tup (.cons (.cst (.int 0)) (.cons (.cst (.int 2)) (.cons (.cst (.int 3)) (.cons (.cst (.int 4)) .nil))))) .nil)))
    (.cons (.ite (.or (.not (.isI .int (.var 2))) (.or (.isI .bool (.var 2)) (.one (.cmp .notin (.var 2) (.var 3)))))
    (.cons (.expr (.meth .append (.var 1) (.cons (.var 2) .nil)))
    .nil)
    .nil)
    .nil))
    (.cons (.ret (.bin .add (.var 1) (.ite (.isI .bool (.idx (.var 0) (.cst (.int 2)))) (.lst false .nil) (.lst false (.cons (.idx (.var 0) (.cst (.int 2))) .nil)))))
    .nil)))
theorem c_law_bad : chkSs (cc n_law_bad (defScope s_law_bad).names) (defBody s_law_bad) b_law_bad = true := by decide +kernel
theorem sc_law_bad : FnScope n_law_bad p_law_bad (defScope s_law_bad) := ⟨rfl, rfl, rfl, by decide +kernel, rfl, by decide +kernel, by decide +kernel⟩
/-! _law_heard -/
def n_law_heard : List Str := ["_law_bill", "_law_way", "_law_raised", "error"]
def p_law_heard : List Str := ["_law_bill", "_law_way"]
def s_law_heard : Stmt := topS 18
def b_law_heard : S :=
  (.cons (.asg (.name 2) (.cst .non))
    (.cons (.tryK (.cons (.expr (.call i_law_made (.cons (.var 0) (.cons (.var 1) .nil))))
    .nil) 0 3 2)
    (.cons (.ite (.isN false (.var 2))
    (.cons (.ret (.lst false .nil))
    .nil)
    .nil)
    (.cons (.ret (.ite (.and (.isO 1 (.var 2)) (.one (.isI .verr (.var 2)))) (.lst false (.cons (.attr "value" (.var 2)) .nil)) (.lst false (.cons (.cst (.str [111, 116, 104, 101, 114])) (.cons (.var 2) .nil)))))
    .nil))))
theorem c_law_heard : chkSs (cc n_law_heard (defScope s_law_heard).names) (defBody s_law_heard) b_law_heard = true := by decide +kernel
theorem sc_law_heard : FnScope n_law_heard p_law_heard (defScope s_law_heard) := ⟨rfl, rfl, rfl, by decide +kernel, rfl, by decide +kernel, by decide +kernel⟩
/-! _law_right -/
def n_law_right : List Str := ["_law_pot_here", "_law_bill", "_law_turn", "_law_whole", "_law_bad_here", "_law_others", "_law_way", "_law_kept", "_law_mine", "_law_its", "_law_k", "_law_thing"]
def p_law_right : List Str := ["_law_pot_here"]
def s_law_right : Stmt := topS 19
def b_law_right : S :=
  (.cons (.asg (.name 1) (.lst true (.cons (.call i_law_of (.cons (.var 0) (.cons (.lst false (.cons (.cst (.int 1)) (.cons (.cst (.int 2)) (.cons (.cst (.int 3)) .nil)))) .nil))) (.cons (.call i_law_of (.cons (.var 0) (.cons (.lst false (.cons (.cst (.int 0)) (.cons (.cst (.int 2)) (.cons (.cst (.int 3)) (.cons (.cst (.int 4)) .nil))))) .nil))) (.cons (.cmp .eq (.call i_law_take (.cons (.var 0) (.cons (.cst (.int 2)) .nil))) (.cst (.int 0))) .nil)))))
    (.cons (.loop (.name 2) .rng1 (.call i_law_take (.cons (.var 0) (.cons (.cst (.int 3)) .nil))) (.cst .non)
    (.cons (.setIx (.var 1) (.call i_law_take (.cons (.var 0) (.cons (.cst (.int 3)) .nil))) (.call i_law_odd (.cons (.var 0) (.cons (.lst false .nil) .nil))))
    .nil))
    (.cons (.asg (.tup [6, 7]) (.tup (.cons (.call i_law_take (.cons (.var 0) (.cons (.cst (.int 4)) .nil))) (.cons (.bi .repr (.cons (.var 1) .nil)) .nil))))
    (.cons (.asg (.name 3) (.lc false [10] (.name 10) .rng1 (.cst (.int 3)) (.cst .non) (.cst (.bool true)) (.ite (.cmp .isin (.var 10) (.idx (.lst false (.cons (.lst false (.cons (.cst (.int 0)) (.cons (.cst (.int 1)) (.cons (.cst (.int 2)) .nil)))) (.cons (.lst false (.cons (.cst (.int 1)) .nil)) (.cons (.lst false (.cons (.cst (.int 0)) (.cons (.cst (.int 2)) .nil))) (.cons (.lst false .nil) .nil))))) (.var 6))) (.idx (.var 1) (.var 10)) (.idx (.lst false (.cons (.cst (.int 1)) (.cons (.cst (.int 0)) (.cons (.cst (.bool true)) .nil)))) (.var 10)))))
    (.cons (.asg (.name 4) (.call i_law_bad (.cons (.var 3) .nil)))
    (.cons (.ite (.cmp .ne (.var 4) (.lst false .nil))
    (.cons (.ret (.and (.cmp .eq (.bi .repr (.cons (.call i_law_heard (.cons (.var 1) (.cons (.var 6) .nil))) .nil)) (.bi .repr (.cons (.sl false true (.var 4) (.cst .non) (.cst (.int 1))) .nil))) (.one (.cmp .eq (.bi .repr (.cons (.var 1) .nil)) (.var 7)))))
    .nil)
    .nil)
    (.cons (.asg (.tup [8, 9]) (.tup (.cons (.call i_law_made (.cons (.var 1) (.cons (.var 6) .nil))) (.cons (.call i_law_made (.cons (.var 3) (.cons (.cst (.int 0)) .nil))) .nil))))
    (.cons (.ite (.or (.cmp .ne (.bi .repr (.cons (.lst false (.cons (.prop 100 i_Recorder_level "level" (.var 8)) (.cons (.prop 100 i_Recorder_every "every" (.var 8)) (.cons (.prop 100 i_Recorder_names "names" (.var 8)) .nil)))) .nil)) (.bi .repr (.cons (.var 3) .nil))) (.or (.not (.oeq false 100 i_Recorder_eq (.var 8) (.var 9))) (.one (.oeq true 100 i_Recorder_eq (.var 8) (.var 9)))))
    (.cons (.ret (.cst (.bool false)))
    .nil)
    .nil)
    (.cons (.asg (.name 5) (.lst false (.cons (.call i_law_of (.cons (.var 0) (.cons (.lst false (.cons (.cst (.int 1)) (.cons (.cst (.int 2)) (.cons (.cst (.int 3)) .nil)))) .nil))) (.cons (.call i_law_of (.cons (.var 0) (.cons (.lst false (.cons (.cst (.int 0)) (.cons (.cst (.int 2)) (.cons (.cst (.int 3)) (.cons (.cst (.int 4)) .nil))))) .nil))) (.cons (.cmp .eq (.call i_law_take (.cons (.var 0) (.cons (.cst (.int 2)) .nil))) (.cst (.int 0))) .nil)))))
    (.cons (.ite (.cmp .ne (.oeq false 100 i_Recorder_eq (.var 8) (.call i_law_made (.cons (.var 5) (.cons (.cst (.int 0)) .nil)))) (.cmp .eq (.var 5) (.var 3)))
    (.cons (.ret (.cst (.bool false)))
    .nil)
    .nil)
    (.cons (.ret (.and (.not (.bi .any (.cons (.lc false [11] (.name 11) .seq (.tup (.cons (.cst .non) (.cons (.bi .tuple (.cons (.var 3) .nil)) (.cons (.var 3) (.cons (.cst (.int 0)) .nil))))) (.cst .non) (.cst (.bool true)) (.oeq false 100 i_Recorder_eq (.var 8) (.var 11))) .nil))) (.one (.cmp .eq (.bi .repr (.cons (.var 1) .nil)) (.var 7)))))
    .nil)))))))))))
theorem c_law_right : chkSs (cc n_law_right (defScope s_law_right).names) (defBody s_law_right) b_law_right = true := by decide +kernel
theorem sc_law_right : FnScope n_law_right p_law_right (defScope s_law_right) := ⟨rfl, rfl, rfl, by decide +kernel, rfl, by decide +kernel, by decide +kernel⟩
/-! law -/
def n_law : List Str := ["_law_script", "_law_k", "_law_pot_here", "_law_turn"]
def p_law : List Str := ["_law_script"]
def s_law : Stmt := topS 20
def b_law : S :=
  (.cons (.loop (.name 1) .rng1 (.bi .max (.cons (.cst (.int 1)) (.cons (.bi .min (.cons (.cst (.int 3)) (.cons (.bi .len (.cons (.var 0) .nil)) .nil))) .nil))) (.cst .non)
    (.cons (.asg (.name 2) (.call i_law_pot (.cons (.var 0) (.cons (.var 1) .nil))))
    (.cons (.ite (.not (.bi .all (.cons (.lc false [3] (.name 3) .rng1 (.cst (.int 15)) (.cst .non) (.cst (.bool true)) (.call i_law_right (.cons (.var 2) .nil))) .nil)))
    (.cons (.ret (.cst (.bool false)))
    .nil)
    .nil)
    .nil)))
    (.cons (.ret (.cst (.bool true)))
    .nil))
theorem c_law : chkSs (cc n_law (defScope s_law).names) (defBody s_law) b_law = true := by decide +kernel
theorem sc_law : FnScope n_law p_law (defScope s_law) := ⟨rfl, rfl, rfl, by decide +kernel, rfl, by decide +kernel, by decide +kernel⟩
def tab : List DefT := [⟨"is_integer", "is_integer", s_is_integer, p_is_integer⟩, ⟨"is_between", "is_between", s_is_between, p_is_between⟩, ⟨"is_truth", "is_truth", s_is_truth, p_is_truth⟩, ⟨"__init__", "Recorder.__init__", s_Recorder_init, p_Recorder_init⟩, ⟨"__eq__", "Recorder.__eq__", s_Recorder_eq, p_Recorder_eq⟩, ⟨"all_three", "Recorder.all_three", s_Recorder_all_three, p_Recorder_all_three⟩, ⟨"level", "Recorder.level", s_Recorder_level, p_Recorder_level⟩, ⟨"every", "Recorder.every", s_Recorder_every, p_Recorder_every⟩, ⟨"names", "Recorder.names", s_Recorder_names, p_Recorder_names⟩, ⟨"_law_pot", "_law_pot", s_law_pot, p_law_pot⟩, ⟨"_law_take", "_law_take", s_law_take, p_law_take⟩, ⟨"_law_of", "_law_of", s_law_of, p_law_of⟩, ⟨"_law_odd", "_law_odd", s_law_odd, p_law_odd⟩, ⟨"_law_made", "_law_made", s_law_made, p_law_made⟩, ⟨"_law_bad", "_law_bad", s_law_bad, p_law_bad⟩, ⟨"_law_heard", "_law_heard", s_law_heard, p_law_heard⟩, ⟨"_law_right", "_law_right", s_law_right, p_law_right⟩, ⟨"law", "law", s_law, p_law⟩]
end LR

/-! recorders -/
namespace LR
open PySem L2 Dy
def isIntV : Val → Bool
  | .int _ => true
  | _ => false
def isBoolV : Val → Bool
  | .bool _ => true
  | _ => false
def betw : Val → Int → Int → Bool
  | .int i, a, b => decide (a ≤ i) && decide (i ≤ b)
  | _, _, _ => false
def isOne : Val → Bool
  | .int i => decide (i = 1)
  | _ => false
def fs_is_integer : FS := fun args m Q _ => ∃ v, args = [v] ∧ shw v = true ∧ Q (.bool (isIntV v)) m
def fs_is_between : FS := fun args m Q _ => ∃ v a b, args = [v, .int a, .int b] ∧ shw v = true ∧ Q (.bool (betw v a b)) m
def fs_is_truth : FS := fun args m Q _ => ∃ v, args = [v] ∧ shw v = true ∧ Q (.bool (isBoolV v)) m
theorem m_is_integer {F : Nat → FS} : Meets F 1 b_is_integer fs_is_integer := by
  refine Meets.x ?_
  rintro args m Q R hm ha ⟨v, rfl, hs, hQ⟩
  unfold b_is_integer
  cases v <;> first | (simp [shw] at hs; done) | skip
  all_goals simp
  all_goals exact .inl hQ
theorem m_is_between {F : Nat → FS} (h : F i_is_integer = fs_is_integer) : Meets F 3 b_is_between fs_is_between := by
  refine Meets.x ?_
  rintro args m Q R hm ha ⟨v, a, b, rfl, hs, hQ⟩
  unfold b_is_between
  simp [h]
  refine ⟨v, rfl, hs, ?_⟩
  cases v <;> first | (simp [shw] at hs; done) | skip
  all_goals simp [isIntV]
  case int i =>
    by_cases h1 : a ≤ i
    · simp [h1]
      have e : betw (.int i) a b = decide (i ≤ b) := by simp [betw, h1]
      rw [← e]
      exact .inl hQ
    · simp [h1]
      have e : betw (.int i) a b = false := by simp [betw, h1]
      rw [← e]
      exact .inl hQ
  all_goals exact .inl hQ
theorem m_is_truth {F : Nat → FS} : Meets F 1 b_is_truth fs_is_truth := by
  refine Meets.x ?_
  rintro args m Q R hm ha ⟨v, rfl, hs, hQ⟩
  unfold b_is_truth
  cases v <;> first | (simp [shw] at hs; done) | skip
  all_goals simp
  all_goals exact .inl hQ
theorem x_is_between {v : Val} {a b : Int} {m : Store} {Q : Val → Store → Prop} {R : Rq} {tk : Tok Q} {uk : Tok R} (h : shw v = true) (q : Q (.bool (betw v a b)) m) : callF fs_is_between [v, .int a, .int b] m Q R tk uk := ⟨v, a, b, rfl, h, q⟩
theorem x_is_truth {v : Val} {m : Store} {Q : Val → Store → Prop} {R : Rq} {tk : Tok Q} {uk : Tok R} (h : shw v = true) (q : Q (.bool (isBoolV v)) m) : callF fs_is_truth [v] m Q R tk uk := ⟨v, rfl, h, q⟩
/-- the first value that is none -/
def recBad (l e nm : Val) : Option Val := if betw l 1 3 = false then some l else if betw e 0 4 = false ∨ isOne e = true then some e else if isBoolV nm = false then some nm else none
def recFs : List Str := ["own_level", "own_every", "own_names"]
def recO (l e nm : Val) : Ob := .inst 100 recFs [l, e, nm]
def fs_Recorder_init : FS := fun args m Q R => ∃ n l e nm, args = [.loc n, l, e, nm] ∧ m[n]? = some (.inst 100 [] []) ∧ (shw l = true ∧ shw e = true ∧ shw nm = true) ∧ match recBad l e nm with
  | some v => R 1 v m
  | none => Q .non (m.set n (recO l e nm))
theorem m_Recorder_init {F : Nat → FS} (h1 : F i_is_between = fs_is_between) (h2 : F i_is_truth = fs_is_truth) : Meets F 4 b_Recorder_init fs_Recorder_init := by
  refine Meets.x ?_
  rintro args m Q R hm ha ⟨n, l, e, nm, rfl, hn, ⟨sl, se, sn⟩, hQ⟩
  have hlt : n < m.length := (List.getElem?_eq_some_iff.mp hn).1
  unfold b_Recorder_init
  simp [h1]
  refine x_is_between sl ?_
  unfold recBad at hQ
  cases e1 : betw l 1 3 with
  | false =>
    simp [e1] at hQ
    simp
    exact .inl hQ
  | true =>
    simp [e1] at hQ
    simp [h1]
    refine x_is_between se ?_
    cases e2 : betw e 0 4 with
    | false =>
      simp [e2] at hQ
      simp
      exact .inl hQ
    | true =>
      cases e <;> first | (simp [betw] at e2; done) | skip
      rename_i i
      simp [e2, isOne] at hQ
      by_cases h3 : i = 1
      · simp [h3] at hQ
        simp [h3]
        exact .inl hQ
      · simp [h3] at hQ
        simp [h3, h2]
        refine x_is_truth sn ?_
        cases e3 : isBoolV nm with
        | false =>
          simp [e3] at hQ
          simp
          exact .inl hQ
        | true =>
          simp [e3] at hQ
          simp
          refine x_setA hn (by simp) ?_
          simp [putFs, putVs]
          refine x_setA (c := 100) (fs := ["own_level"]) (us := [l]) (by simp [hlt]) (by simp) ?_
          simp [putFs, putVs]
          refine x_setA (c := 100) (fs := ["own_level", "own_every"]) (us := [l, .int i]) (by simp [hlt]) (by simp) ?_
          simp [putFs, putVs]
          exact .inl hQ
theorem rec_at {m : Store} {n : Nat} {l e nm : Val} (h : m[n]? = some (recO l e nm)) : (attrF m "own_level" (.loc n) = some l ∧ attrF m "own_every" (.loc n) = some e ∧ attrF m "own_names" (.loc n) = some nm) ∧ (Dy.isIn m 100 (.loc n) ∧ kd m (.loc n) = some (.own 100)) ∧ isInN m 100 "all_three" (.loc n) := by
  have h' : m[n]? = some (.inst 100 ["own_level", "own_every", "own_names"] [l, e, nm]) := h
  refine ⟨⟨attrF_i h' (by simp), attrF_i h' ?_, attrF_i h' ?_⟩, ⟨isIn_i h', kd_inst h'⟩, isInN_i h' (by decide)⟩
  · simp [List.lookup]
  · simp [List.lookup]
def fs_Recorder_level : FS := fun args m Q _ => ∃ n l e nm, args = [.loc n] ∧ m[n]? = some (recO l e nm) ∧ Q l m
def fs_Recorder_every : FS := fun args m Q _ => ∃ n l e nm, args = [.loc n] ∧ m[n]? = some (recO l e nm) ∧ Q e m
def fs_Recorder_names : FS := fun args m Q _ => ∃ n l e nm, args = [.loc n] ∧ m[n]? = some (recO l e nm) ∧ Q nm m
def fs_Recorder_all_three : FS := fun args m Q _ => ∃ n l e nm, args = [.loc n] ∧ m[n]? = some (recO l e nm) ∧ Q (.tup [l, e, nm]) m
theorem m_Recorder_level {F : Nat → FS} : Meets F 1 b_Recorder_level fs_Recorder_level := by
  refine Meets.x ?_
  rintro args m Q R hm ha ⟨n, l, e, nm, rfl, hn, hQ⟩
  unfold b_Recorder_level
  simp [(rec_at hn).1.1]
  exact .inl hQ
theorem m_Recorder_every {F : Nat → FS} : Meets F 1 b_Recorder_every fs_Recorder_every := by
  refine Meets.x ?_
  rintro args m Q R hm ha ⟨n, l, e, nm, rfl, hn, hQ⟩
  unfold b_Recorder_every
  simp [(rec_at hn).1.2.1]
  exact .inl hQ
theorem m_Recorder_names {F : Nat → FS} : Meets F 1 b_Recorder_names fs_Recorder_names := by
  refine Meets.x ?_
  rintro args m Q R hm ha ⟨n, l, e, nm, rfl, hn, hQ⟩
  unfold b_Recorder_names
  simp [(rec_at hn).1.2.2]
  exact .inl hQ
theorem m_Recorder_all_three {F : Nat → FS} : Meets F 1 b_Recorder_all_three fs_Recorder_all_three := by
  refine Meets.x ?_
  rintro args m Q R hm ha ⟨n, l, e, nm, rfl, hn, hQ⟩
  unfold b_Recorder_all_three
  simp [(rec_at hn).1.1, (rec_at hn).1.2.1, (rec_at hn).1.2.2]
  exact .inl hQ
/-- what a recorder holds -/
def recOk (l e nm : Val) : Prop := isIntV l = true ∧ isIntV e = true ∧ isBoolV nm = true
/-- how another value looks beside a recorder -/
def eqRec (m : Store) (l e nm : Val) (w : Val) : Option Bool := match w with
  | .loc k => match m[k]? with
    | some (.inst 100 fs [l2, e2, nm2]) => if fs = recFs then some (veqv l l2 && veqv e e2 && veqv nm nm2) else none
    | _ => none
  | w => if shw w = true then some false else none
def fs_Recorder_eq : FS := fun args m Q _ => ∃ n l e nm w b, args = [.loc n, w] ∧ m[n]? = some (recO l e nm) ∧ recOk l e nm ∧ ((∃ k l2 e2 nm2, w = .loc k ∧ m[k]? = some (recO l2 e2 nm2) ∧ recOk l2 e2 nm2 ∧ b = (veqv l l2 && (veqv e e2 && veqv nm nm2))) ∨ (shw w = true ∧ b = false)) ∧ Q (.bool b) m
theorem x_all_three {n : Nat} {l e nm : Val} {m : Store} {Q : Val → Store → Prop} {R : Rq} {tk : Tok Q} {uk : Tok R} (h : m[n]? = some (recO l e nm)) (q : Q (.tup [l, e, nm]) m) : callF fs_Recorder_all_three [.loc n] m Q R tk uk := ⟨n, l, e, nm, rfl, h, q⟩
theorem rec_cmp {l e nm : Val} (h : recOk l e nm) : cmpV (.tup [l, e, nm]) = true := by
  obtain ⟨h1, h2, h3⟩ := h
  cases l <;> first | cases h1 | skip
  cases e <;> first | cases h2 | skip
  cases nm <;> first | cases h3 | skip
  simp [cmpV, lay, lays, dep, deps]
theorem m_Recorder_eq {F : Nat → FS} (h : F i_Recorder_all_three = fs_Recorder_all_three) : Meets F 2 b_Recorder_eq fs_Recorder_eq := by
  refine Meets.x ?_
  rintro args m Q R hm ha ⟨n, l, e, nm, w, b, rfl, hn, hok, hw, hQ⟩
  unfold b_Recorder_eq
  rcases hw with ⟨k, l2, e2, nm2, rfl, hk, hok2, rfl⟩ | ⟨hs, rfl⟩
  · simp [(rec_at hk).2.1.2, subN, (rec_at hn).2.2, (rec_at hk).2.2, h]
    refine x_all_three hn ?_
    simp [(rec_at hk).2.2, h]
    refine x_all_three hk ?_
    refine x_eqG (rec_cmp hok) (rec_cmp hok2) ?_
    have ev : veqv (.tup [l, e, nm]) (.tup [l2, e2, nm2]) = (veqv l l2 && (veqv e e2 && veqv nm nm2)) := by simp [veqv, veqvs]
    rw [ev]
    exact .inl hQ
  · simp [kd_shw hs]
    have e0 : isO 100 (kd0 w) = false := by cases w <;> first | rfl | simp [shw] at hs
    simp [e0]
    exact .inl hQ
end LR

/-! the law's values and its recorders -/
namespace LR
open PySem L2 Dy
theorem m_law_pot {F : Nat → FS} : Meets F 5 b_law_pot fsPot := pot_meets
theorem m_law_take {F : Nat → FS} : Meets F 5 b_law_take fsTake := take_meets
theorem m_law_of {F : Nat → FS} (h : F i_law_take = fsTake) : Meets F 2 b_law_of fsOf := of_meets h
/-- a value of any kind, k times within others -/
def OddP (k : Nat) (v : Val) : Prop := shw v = true ∧ dep v ≤ k + 1 ∧ rsz v ≤ 120 + 20 * k
theorem OddP.mono {j k : Nat} {v : Val} (h : OddP j v) (hk : j ≤ k) : OddP k v := ⟨h.1, by have := h.2.1; omega, by have := h.2.2; omega⟩
theorem odd_tup {k : Nat} {v : Val} (h : OddP k v) : OddP (k + 1) (.tup [v]) := by
  obtain ⟨a, b, c⟩ := h
  exact ⟨by simp [shw, shws, a], by simp [dep, deps]; omega, by simp [rsz, rszs]; omega⟩
theorem odd_il {k : Nat} {v : Val} (h : OddP k v) : OddP (k + 1) (.il true [v]) := by
  obtain ⟨a, b, c⟩ := h
  exact ⟨by simp [shw, shws, a], by simp [dep, deps]; omega, by simp [rsz, rszs]; omega⟩
theorem odd_dic {k : Nat} {v : Val} (h : OddP k v) : OddP (k + 1) (.dic [[97]] [v]) := by
  obtain ⟨a, b, c⟩ := h
  exact ⟨by simp [shw, shws, a, signs], by simp [dep, deps]; omega, by simp [rsz, rszs, ksz]; omega⟩
def others : List Val := [.non, .bool true, .bool false, .int 0, .int 1, .int 2, .int 3, .int 4, .int 5, .int (-1), .int 100000000000000000000, .str [], .str [97], .tup [], .il true [], .dic [] [], .tup [.str [100, 111]]]
theorem odd_others : ∀ v ∈ others, OddP 0 v := by
  have hb : ∀ v ∈ others, (shw v && decide (dep v ≤ 1) && decide (rsz v ≤ 120)) = true := by
    rw [← List.all_eq_true]
    decide +kernel
  intro v hv
  have := hb v hv
  simp only [Bool.and_eq_true, decide_eq_true_eq] at this
  exact ⟨this.1.1, this.1.2, this.2⟩
def fs_law_odd : FS := fun args m Q _ => ∃ p, args = [.loc p, .il true []] ∧ drawS m p 29 (OddP 27) Q
theorem m_law_odd {F : Nat → FS} (h : F i_law_of = fsOf) : Meets F 5 b_law_odd fs_law_odd := by
  refine Meets.x ?_
  rintro args m Q R hm ha ⟨p, rfl, a, hp, hQ⟩
  have p20 : powOk 10 20 := ⟨by decide, by decide +kernel⟩
  unfold b_law_odd
  simp [p20]
  have eo : [Val.non, .bool true, .bool false, .int 0, .int 1, .int 2, .int 3, .int 4, .int 5, .int (-1), .int 100000000000000000000, .str [], .str [97], .tup [], .il true [], .dic [] [], .tup [.str [100, 111]]] = others := rfl
  rw [eo]
  simp [h]
  refine x_of others (.start hp) (by omega) (by simp [pick, List.replicate]) (by simp [others]) (by simp [others]) fun v m1 hv hA => ?_
  have ho := odd_others v hv
  simp [h]
  refine x_of [.int 0, .int 0, .int 0, .int 0, .int 1, .int 2, .int 27] hA (by omega) rfl (by simp) (by simp) fun u m2 hu hA2 => ?_
  obtain ⟨n, hn, rfl⟩ : ∃ n : Nat, n ≤ 27 ∧ u = .int n := by
    simp at hu
    rcases hu with rfl | rfl | rfl | rfl
    · exact ⟨0, by omega, rfl⟩
    · exact ⟨1, by omega, rfl⟩
    · exact ⟨2, by omega, rfl⟩
    · exact ⟨27, by omega, rfl⟩
  simp
  refine x_rng (by omega) (by omega) ?_
  refine for_more 1 (fun k r more => more = [] ∧ ∃ w t, OddP k w ∧ r = [some (.loc p), some (.il true []), some (.il true others), some w, t]) (fun _ => it_rng (by omega) (by omega)) ?_ ⟨rfl, v, none, ho, rfl⟩ hA2 (by simp; omega) ?_
  · rintro x k r k' more m3 nx hk ⟨rfl, w, t, hw, rfl⟩ hA3 hK q
    simp [h]
    refine x_of [.tup [w], .il true [w], .dic [[97]] [w]] hA3 (by omega) rfl (by simp) (by simp) fun u m4 hu hA4 => ?_
    simp
    refine q _ [] m4 ⟨rfl, u, _, ?_, rfl⟩ hA4
    simp at hu
    rcases hu with rfl | rfl | rfl
    · exact odd_tup hw
    · exact odd_il hw
    · exact odd_dic hw
  · rintro r more m3 ⟨rfl, w, t, hw, rfl⟩ hA3
    simp at hw hA3
    simp
    exact .inl ((hA3.mono (k' := 29) (by omega) (by omega)).fin hQ (hw.mono hn))
theorem x_odd {m0 m : Store} {p K k : Nat} {a0 : Pot} {more : List Ob} {Q : Val → Store → Prop} {R : Rq} {tk : Tok Q} {uk : Tok R} (h : At m0 p a0 K k more m) (hj : k + 29 ≤ K) (q : ∀ v m', OddP 27 v → At m0 p a0 K (k + 29) more m' → Q v m') : callF fs_law_odd [.loc p, .il true []] m Q R tk uk := ⟨p, rfl, h.draw 29 hj q⟩
/-- the three values that are told in such a way -/
def eff (w : Int) (l e nm : Val) : Val × Val × Val := if w = 0 then (l, e, nm) else if w = 1 then (.int 1, e, .bool true) else if w = 2 then (l, .int 0, nm) else (.int 1, .int 0, .bool true)
def fs_law_made : FS := fun args m Q R => ∃ b w l e nm, args = [b, .int w] ∧ sq m b = some [l, e, nm] ∧ (shw l = true ∧ shw e = true ∧ shw nm = true) ∧ match recBad (eff w l e nm).1 (eff w l e nm).2.1 (eff w l e nm).2.2 with
  | some v => R 1 v m
  | none => Q (.loc m.length) (m ++ [recO (eff w l e nm).1 (eff w l e nm).2.1 (eff w l e nm).2.2])
theorem take_app {m : Store} {o : Ob} : (m ++ [o]).take m.length = m := by simp
/-- a recorder is made -/
theorem rec_made {m : Store} {l e nm : Val} {Q : Val → Store → Prop} {R : Rq} {tk} {uk} (hm : cM m.length m = true) (sl : shw l = true) (se : shw e = true) (sn : shw nm = true)
    (hQ : match recBad l e nm with | some v => R 1 v m | none => Q (.loc m.length) (m ++ [recO l e nm])) : callF fs_Recorder_init [.loc m.length, l, e, nm] (m ++ [.inst 100 [] []]) (fun u m3 => u = .non ∧ Dy.ret m.length Q (.loc m.length) m3) (retX m.length R) tk uk := by
  refine ⟨m.length, l, e, nm, rfl, by simp, ⟨sl, se, sn⟩, ?_⟩
  cases hb : recBad l e nm with
  | some v =>
    rw [hb] at hQ
    refine .inr ⟨m.length, Nat.le_refl _, ?_, by rw [take_app]; exact hm, by rw [take_app]; exact hQ⟩
    have : v = l ∨ v = e ∨ v = nm := by
      unfold recBad at hb
      split at hb
      · cases hb; exact .inl rfl
      · split at hb
        · cases hb; exact .inr (.inl rfl)
        · split at hb
          · cases hb; exact .inr (.inr rfl)
          · cases hb
    rcases this with rfl | rfl | rfl
    · exact shw_closed sl
    · exact shw_closed se
    · exact shw_closed sn
  | none =>
    rw [hb] at hQ
    refine ⟨rfl, .inl ?_⟩
    simpa using hQ
theorem atI_2 {α : Type} (x y z : α) : atI [x, y, z] 2 = some z := atI2 x y z []
theorem idx_sq {m : Store} {b : Val} {vs : List Val} {i : Int} {u : Val} (h : sq m b = some vs) (h2 : atI vs i = some u) : idxF m b (.int i) = some u := by
  cases b <;> first | (simp [sq] at h; done) | skip
  · simp only [sq] at h; cases h; exact h2
  · simp only [sq] at h; cases h; exact h2
  · show (sq m (.loc _)).bind _ = _
    rw [h]
    exact h2
theorem m_law_made {F : Nat → FS} (h : F i_Recorder_init = fs_Recorder_init) : Meets F 2 b_law_made fs_law_made := by
  refine Meets.x ?_
  rintro args m Q R hm ha ⟨b, w, l, e, nm, rfl, hb, ⟨sl, se, sn⟩, hQ⟩
  have i0 : idxF m b (.int 0) = some l := idx_sq hb (atI0 _ _)
  have i1 : idxF m b (.int 1) = some e := idx_sq hb (atI1 _ _ _)
  have i2 : idxF m b (.int 2) = some nm := idx_sq hb (atI2 _ _ _ _)
  unfold b_law_made
  by_cases w0 : w = 0
  · subst w0
    simp [eff] at hQ
    simp [i0, i1, i2, fillP, h]
    exact rec_made hm sl se sn hQ
  · by_cases w1 : w = 1
    · subst w1
      simp [eff] at hQ
      simp [i1, fillP, h]
      exact rec_made hm (by decide +kernel) se (by decide +kernel) hQ
    · by_cases w2 : w = 2
      · subst w2
        simp [eff] at hQ
        simp [i0, i2, fillP, h]
        exact rec_made hm sl (by decide +kernel) sn hQ
      · simp [eff, w0, w1, w2] at hQ
        simp [w0, w1, w2, fillP, h]
        exact rec_made hm (by decide +kernel) (by decide +kernel) (by decide +kernel) hQ
/-- what is none, of three -/
def bads (l e nm : Val) : List Val := (if betw l 1 3 = true then [] else [l]) ++ ((if betw e 0 4 = true ∧ isOne e = false then [] else [e]) ++ (if isBoolV nm = true then [] else [nm]))
theorem bads_head (l e nm : Val) : (bads l e nm).head? = recBad l e nm := by
  unfold bads recBad
  cases betw l 1 3 <;> cases betw e 0 4 <;> cases isOne e <;> cases isBoolV nm <;> simp
def fs_law_bad : FS := fun args m Q _ => ∃ l e nm, args = [.il true [l, e, nm]] ∧ (shw l = true ∧ shw e = true ∧ shw nm = true) ∧ Q (.il true (bads l e nm)) m
theorem in3 {v : Val} (hi : isIntV v = true) : ([Val.int 1, .int 2, .int 3].any fun z => veqv z v) = betw v 1 3 := by
  cases v <;> first | cases hi | skip
  rename_i i
  have : (1 ≤ i ∧ i ≤ 3) ↔ (1 = i ∨ 2 = i ∨ 3 = i) := by omega
  simp only [List.any_cons, List.any_nil, veqv_ii, betw]
  rw [Bool.eq_iff_iff]
  simp [this]
theorem in4 {v : Val} (hi : isIntV v = true) : ([Val.int 0, .int 2, .int 3, .int 4].any fun z => veqv z v) = (betw v 0 4 && !isOne v) := by
  cases v <;> first | cases hi | skip
  rename_i i
  have : ((0 ≤ i ∧ i ≤ 4) ∧ ¬ i = 1) ↔ (0 = i ∨ 2 = i ∨ 3 = i ∨ 4 = i) := by omega
  simp only [List.any_cons, List.any_nil, veqv_ii, betw, isOne]
  rw [Bool.eq_iff_iff]
  simp [this]
def badB : S := .cons (.ite (.or (.not (.isI .int (.var 2))) (.or (.isI .bool (.var 2)) (.one (.cmp .notin (.var 2) (.var 3)))))
    (.cons (.expr (.meth .append (.var 1) (.cons (.var 2) .nil))) .nil) .nil) .nil
theorem x_badB {F : Nat → FS} {v x0 : Val} {vs acc : List Val} {m : Store} {D : En} (hs : shw v = true) (hf : flatAll vs = true) (hl : acc.length ≤ 3) (q : D.nx [some x0, some (.loc m.length), some v, some (.tup vs)] (m ++ [Ob.list (acc ++ if (isIntV v && vs.any fun z => veqv z v) = true then [] else [v])])) :
    xS F badB [some x0, some (.loc m.length), some v, some (.tup vs)] (m ++ [Ob.list acc]) D := by
  have app : ∀ w, D.nx [some x0, some (.loc m.length), some v, some (.tup vs)] (m ++ [Ob.list (acc ++ [w])]) → mtX .append (.loc m.length) [w] (m ++ [Ob.list acc]) (fun _ m1 => D.nx [some x0, some (.loc m.length), some v, some (.tup vs)] m1) .mk := fun w h => by
    refine x_app (vs := acc) (by simp) (by simp; omega) ?_
    simpa using h
  unfold badB
  cases v <;> first | (simp [shw] at hs; done) | skip
  case int i =>
    cases hb : (vs.any fun z => veqv z (.int i)) with
    | true =>
      rw [hb] at q
      simp [hf, hb]
      simpa [isIntV] using q
    | false =>
      rw [hb] at q
      simp [hf, hb]
      exact app _ (by simpa [isIntV] using q)
  all_goals simp
  all_goals exact app _ (by simpa [isIntV] using q)
theorem shws_app : ∀ (us vs : List Val), shws (us ++ vs) = (shws us && shws vs)
  | [], _ => by simp [shws]
  | u :: us, vs => by simp [shws, shws_app us vs, Bool.and_assoc]
theorem m_law_bad {F : Nat → FS} : Meets F 4 b_law_bad fs_law_bad := by
  refine Meets.x ?_
  rintro args m Q R hm ha ⟨l, e, nm, rfl, ⟨sl, se, sn⟩, hQ⟩
  unfold b_law_bad
  simp
  rw [forX_cons]
  refine ⟨by simp, ?_⟩
  have b1 : (isIntV l && [Val.int 1, .int 2, .int 3].any fun z => veqv z l) = betw l 1 3 := by
    cases hi : isIntV l with
    | true => rw [in3 hi]; rfl
    | false => cases l <;> first | rfl | cases hi
  have b2 : (isIntV e && [Val.int 0, .int 2, .int 3, .int 4].any fun z => veqv z e) = (betw e 0 4 && !isOne e) := by
    cases hi : isIntV e with
    | true => rw [in4 hi]; rfl
    | false => cases e <;> first | rfl | cases hi
  -- behind both turns
  have fin : ∀ (acc : List Val) (r2 r3 : Option Val), acc.length ≤ 5 → shws acc = true → Q (.il true (acc ++ if isBoolV nm = true then [] else [nm])) m → xS F (.cons (.ret (.bin .add (.var 1) (.ite (.isI .bool (.idx (.var 0) (.cst (.int 2)))) (.lst false .nil) (.lst false (.cons (.idx (.var 0) (.cst (.int 2))) .nil))))) .nil)
      [some (.il true [l, e, nm]), some (.loc m.length), r2, r3] (m ++ [.list acc]) (bodyEn m.length Q R) := by
    intro acc r2 r3 hl hsa q
    have hz : atI [l, e, nm] 2 = some nm := atI2 _ _ _ _
    simp [hz, kd_shw sn]
    have hk : isK .bool (kd0 nm) = isBoolV nm := by cases nm <;> first | rfl | simp [shw] at sn
    simp [hk]
    cases hb : isBoolV nm with
    | true =>
      simp [hb] at q
      simp
      refine x_addL (us := acc) (vs := []) (tq_loc (by simp)) rfl (by simp; omega) ?_
      exact ret_app hm (by simp only [cV, List.append_nil]; exact shws_closed hsa) (by simpa using q)
    | false =>
      simp [hb] at q
      simp [hz]
      refine x_addL (us := acc) (vs := [nm]) (tq_loc (by simp)) rfl (by simp; omega) ?_
      exact ret_app hm (by simp only [cV]; exact shws_closed (by rw [shws_app, hsa]; simp [shws, sn])) q
  have eb : S.cons (.ite (.or (.not (.isI .int (.var 2))) (.or (.isI .bool (.var 2)) (.one (.cmp .notin (.var 2) (.var 3))))) (.cons (.expr (.meth .append (.var 1) (.cons (.var 2) .nil))) .nil) .nil) .nil = badB := rfl
  rw [eb]
  refine ⟨_, rfl, x_badB sl (by simp) (by simp) ?_⟩
  rw [b1]
  refine ⟨by simp, _, rfl, x_badB se (by simp) (by split <;> simp) ?_⟩
  rw [b2]
  refine ⟨by simp, fin _ _ _ ?_ ?_ ?_⟩
  · split <;> split <;> simp
  · rw [shws_app, List.nil_append]
    split <;> split <;> simp [shws, sl, se]
  · unfold bads at hQ
    have e1 : (if (betw e 0 4 && !isOne e) = true then ([] : List Val) else [e]) = if betw e 0 4 = true ∧ isOne e = false then [] else [e] := by
      cases betw e 0 4 <;> cases isOne e <;> rfl
    rw [e1, List.nil_append, List.append_assoc]
    exact hQ
end LR

/-! what the law hears; the law -/
namespace LR
open PySem L2 Dy
def heardL (o : Option Val) : List Val := match o with | some v => [v] | none => []
def fs_law_heard : FS := fun args m Q _ => ∃ b w l e nm, args = [b, .int w] ∧ cV m.length b = true ∧ sq m b = some [l, e, nm] ∧ (shw l = true ∧ shw e = true ∧ shw nm = true) ∧ Q (.il true (heardL (recBad (eff w l e nm).1 (eff w l e nm).2.1 (eff w l e nm).2.2))) m
theorem recBad_mem {l e nm v : Val} (h : recBad l e nm = some v) : v = l ∨ v = e ∨ v = nm := by
  unfold recBad at h
  split at h
  · cases h; exact .inl rfl
  · split at h
    · cases h; exact .inr (.inl rfl)
    · split at h
      · cases h; exact .inr (.inr rfl)
      · cases h
theorem eff_shw {w : Int} {l e nm : Val} (h : shw l = true ∧ shw e = true ∧ shw nm = true) : shw (eff w l e nm).1 = true ∧ shw (eff w l e nm).2.1 = true ∧ shw (eff w l e nm).2.2 = true := by
  have c1 : shw (.int 1) = true := by decide +kernel
  have c2 : shw (.int 0) = true := by decide +kernel
  have c3 : shw (.bool true) = true := rfl
  unfold eff
  split
  · exact h
  · split
    · exact ⟨c1, h.2.1, c3⟩
    · split
      · exact ⟨h.1, c2, h.2.2⟩
      · exact ⟨c1, c2, c3⟩
theorem m_law_heard {F : Nat → FS} (h : F i_law_made = fs_law_made) : Meets F 4 b_law_heard fs_law_heard := by
  refine Meets.x ?_
  rintro args m Q R hm ha ⟨b, w, l, e, nm, rfl, hcb, hb, hs, hQ⟩
  obtain ⟨s1, s2, s3⟩ := eff_shw (w := w) hs
  unfold b_law_heard
  simp [h]
  refine ⟨b, w, l, e, nm, rfl, hb, hs, ?_⟩
  cases hr : recBad (eff w l e nm).1 (eff w l e nm).2.1 (eff w l e nm).2.2 with
  | none =>
    rw [hr] at hQ
    simp
    exact ret_app hm rfl hQ
  | some v =>
    rw [hr] at hQ
    have sv : shw v = true := by rcases recBad_mem hr with rfl | rfl | rfl <;> assumption
    simp [subN]
    exact .inl hQ
theorem recOk_of {l e nm : Val} (h : recBad l e nm = none) : recOk l e nm := by
  unfold recBad at h
  split at h
  · cases h
  · split at h
    · cases h
    · split at h
      · cases h
      · rename_i h1 h2 h3
        refine ⟨?_, ?_, ?_⟩
        · cases l <;> first | rfl | (simp [betw] at h1)
        · cases e <;> first | rfl | (simp [betw] at h2)
        · cases nm <;> first | rfl | (simp [isBoolV] at h3)
theorem eqv_self {l e nm : Val} (h : recOk l e nm) : (veqv l l && (veqv e e && veqv nm nm)) = true := by
  obtain ⟨h1, h2, h3⟩ := h
  cases l <;> first | cases h1 | skip
  cases e <;> first | cases h2 | skip
  cases nm <;> first | cases h3 | skip
  simp [veqv]
theorem eq_sym {l e nm l2 e2 nm2 : Val} (h : recOk l e nm) (h2 : recOk l2 e2 nm2) : veqv (.bool (false != (veqv l l2 && (veqv e e2 && veqv nm nm2)))) (.bool (veqv (.il true [l2, e2, nm2]) (.il true [l, e, nm]))) = true := by
  obtain ⟨g1, g2, g3⟩ := h
  obtain ⟨f1, f2, f3⟩ := h2
  cases l <;> first | cases g1 | skip
  cases e <;> first | cases g2 | skip
  cases nm <;> first | cases g3 | skip
  cases l2 <;> first | cases f1 | skip
  cases e2 <;> first | cases f2 | skip
  cases nm2 <;> first | cases f3 | skip
  rename_i a1 a2 a3 a4 a5 a6
  simp only [veqv, veqvs, Bool.and_true, Bool.false_bne]
  rw [show (a3 == a6) = (a6 == a3) from BEq.comm, show (a1 == a4) = (a4 == a1) from BEq.comm, show (a2 == a5) = (a5 == a2) from BEq.comm]
  exact beq_self_eq_true _
/-- a bill's bounds -/
def billOk (l e nm : Val) : Prop := OddP 27 l ∧ OddP 27 e ∧ OddP 27 nm
theorem bill_shw {l e nm : Val} (h : billOk l e nm) : shw l = true ∧ shw e = true ∧ shw nm = true := ⟨h.1.1, h.2.1.1, h.2.2.1⟩
theorem bill_repr {l e nm : Val} (h : billOk l e nm) : shws [l, e, nm] = true ∧ deps [l, e, nm] ≤ 59 ∧ rszs [l, e, nm] + 4 ≤ sizeLine := by
  obtain ⟨⟨a1, a2, a3⟩, ⟨b1, b2, b3⟩, ⟨c1, c2, c3⟩⟩ := h
  refine ⟨by simp [shws, a1, b1, c1], by simp [deps]; omega, by simp [rszs]; omega⟩
theorem odd_int (i : Int) (h : i.natAbs ≤ 100) : OddP 27 (.int i) := by
  have : i.natAbs.log2 ≤ 100 := by
    have : i.natAbs.log2 ≤ i.natAbs := Nat.log2_le_self _
    omega
  exact ⟨by simp [shw]; omega, by simp [dep], by simp [rsz]; omega⟩
theorem odd_bool (b : Bool) : OddP 27 (.bool b) := ⟨rfl, by simp [dep], by simp [rsz]⟩
theorem eff_bill {w : Int} {l e nm : Val} (h : billOk l e nm) : billOk (eff w l e nm).1 (eff w l e nm).2.1 (eff w l e nm).2.2 := by
  unfold eff
  split
  · exact h
  · split
    · exact ⟨odd_int _ (by decide), h.2.1, odd_bool _⟩
    · split
      · exact ⟨h.1, odd_int _ (by decide), h.2.2⟩
      · exact ⟨odd_int _ (by decide), odd_int _ (by decide), odd_bool _⟩
theorem x_setIx {m : Store} {n j : Nat} {k : Int} {v : Val} {vs : List Val} {P : Store → Prop} {tk : Tok P} (h : m[n]? = some (.list vs)) (hj : ixN vs.length k = some j) (q : P (m.set n (.list (vs.set j v)))) : setX (.loc n) (.int k) v m P tk := ⟨vs, j, h, hj, q⟩
def tl : S → S
  | .cons _ b => b
  | s => s
def restR : S := tl (tl (tl (tl b_law_right)))
def fs_law_right : FS := fsDraw 70 fun v => v = .bool true
theorem x_heard {b : Val} {w : Int} {l e nm : Val} {m : Store} {Q : Val → Store → Prop} {R : Rq} {tk : Tok Q} {uk : Tok R} (h0 : cV m.length b = true) (h : sq m b = some [l, e, nm]) (hs : shw l = true ∧ shw e = true ∧ shw nm = true) (q : Q (.il true (heardL (recBad (eff w l e nm).1 (eff w l e nm).2.1 (eff w l e nm).2.2))) m) : callF fs_law_heard [b, .int w] m Q R tk uk :=
  ⟨b, w, l, e, nm, rfl, h0, h, hs, q⟩
theorem x_bad {l e nm : Val} {m : Store} {Q : Val → Store → Prop} {R : Rq} {tk : Tok Q} {uk : Tok R} (hs : shw l = true ∧ shw e = true ∧ shw nm = true) (q : Q (.il true (bads l e nm)) m) : callF fs_law_bad [.il true [l, e, nm]] m Q R tk uk := ⟨l, e, nm, rfl, hs, q⟩
/-- a recorder that can be made -/
theorem x_made {b : Val} {w : Int} {l e nm l' e' nm' : Val} {m : Store} {Q : Val → Store → Prop} {R : Rq} {tk : Tok Q} {uk : Tok R} (h : sq m b = some [l, e, nm]) (hs : shw l = true ∧ shw e = true ∧ shw nm = true) (he : eff w l e nm = (l', e', nm')) (hr : recBad l' e' nm' = none) (q : Q (.loc m.length) (m ++ [recO l' e' nm'])) : callF fs_law_made [b, .int w] m Q R tk uk := by
  refine ⟨b, w, l, e, nm, rfl, h, hs, ?_⟩
  rw [he]
  simp only [hr]
  exact q
theorem m_law_right {F : Nat → FS} (h1 : F i_law_take = fsTake) (h2 : F i_law_of = fsOf) (h3 : F i_law_odd = fs_law_odd) (h4 : F i_law_bad = fs_law_bad) (h5 : F i_law_heard = fs_law_heard) (h6 : F i_law_made = fs_law_made)
    (h7 : F i_Recorder_level = fs_Recorder_level) (h8 : F i_Recorder_every = fs_Recorder_every) (h9 : F i_Recorder_names = fs_Recorder_names) (h10 : F i_Recorder_eq = fs_Recorder_eq) : Meets F 12 b_law_right fs_law_right := by
  refine Meets.x ?_
  rintro args m Q R hm ha ⟨p, rfl, a, hp, hQ⟩
  unfold b_law_right
  simp [h2]
  refine x_of _ (.start hp) (by omega) rfl (by simp) (by simp) fun l m1 hl hA => ?_
  simp [h2]
  refine x_of _ hA (by omega) rfl (by simp) (by simp) fun e m2 he hA => ?_
  simp [h1]
  refine x_take hA (by omega) (by decide) (by decide) fun d m3 d0 d1 hA => ?_
  have l3 : m3.length = m.length := by simpa using hA.len
  simp [h1, l3]
  have hbill : billOk l e (.bool (decide (d = 0))) := by
    refine ⟨?_, ?_, odd_bool _⟩
    · simp at hl; rcases hl with rfl | rfl | rfl <;> exact odd_int _ (by decide)
    · simp at he; rcases he with rfl | rfl | rfl | rfl <;> exact odd_int _ (by decide)
  generalize (Val.bool (decide (d = 0))) = nm at hbill ⊢
  clear hl he
  have hA := hA.push (.list [l, e, nm])
  simp at hA
  refine x_take hA (by omega) (by decide) (by decide) fun n m4 n0 n1 hA => ?_
  simp
  refine x_rng (by omega) (by omega) ?_
  have lenN : (intsUp 0 n.toNat).length ≤ 2 := by simp; omega
  refine for_more 30 (fun k r more => ∃ l e nm t, billOk l e nm ∧ more = [.list [l, e, nm]] ∧ r = [some (.loc p), some (.loc m.length), t, none, none, none, none, none, none, none, none, none]) (fun _ => it_rng (by omega) (by omega)) ?_ ⟨l, e, nm, none, hbill, rfl, by simp [l3]⟩ hA (by omega) ?_
  · rintro x k r k' more m5 nx hk ⟨l, e, nm, t, hbill, rfl, rfl⟩ hA hK q
    simp [h3]
    refine x_odd hA (by omega) fun v m6 hv hA => ?_
    simp [h1]
    refine x_take hA (by omega) (by decide) (by decide) fun i m7 i0 i1 hA => ?_
    have hi : i = 0 ∨ i = 1 ∨ i = 2 := by omega
    rcases hi with rfl | rfl | rfl
    · refine x_setIx (j := 0) (by rw [hA.get0]; rfl) (by simp [ixN]) ?_
      simp
      exact q _ _ _ ⟨v, e, nm, _, ⟨hv, hbill.2.1, hbill.2.2⟩, rfl, rfl⟩ (hA.set0 _)
    · refine x_setIx (j := 1) (by rw [hA.get0]; rfl) (by simp [ixN]) ?_
      simp
      exact q _ _ _ ⟨l, v, nm, _, ⟨hbill.1, hv, hbill.2.2⟩, rfl, rfl⟩ (hA.set0 _)
    · refine x_setIx (j := 2) (by rw [hA.get0]; rfl) (by simp [ixN]) ?_
      simp
      exact q _ _ _ ⟨l, e, v, _, ⟨hbill.1, hbill.2.1, hv⟩, rfl, rfl⟩ (hA.set0 _)
  · rintro r more m5 ⟨l, e, nm, t, hbill, rfl, rfl⟩ hA
    have hA := hA.mono (k' := 64) (by simp; omega) (by omega)
    obtain ⟨b1, b2, b3⟩ := bill_repr hbill
    simp [h1]
    refine x_take hA (by omega) (by decide) (by decide) fun w m6 w0 w1 hA => ?_
    have hbl : m6[m.length]? = some (.list [l, e, nm]) := by rw [hA.get0]; rfl
    simp
    refine x_reprM hbl b1 b2 b3 ?_
    have ix0 : idxF m6 (.loc m.length) (.int 0) = some l := idx_sq (sq_loc hbl) (atI0 _ _)
    have ix1 : idxF m6 (.loc m.length) (.int 1) = some e := idx_sq (sq_loc hbl) (atI1 _ _ _)
    have ix2 : idxF m6 (.loc m.length) (.int 2) = some nm := idx_sq (sq_loc hbl) (atI2 _ _ _ _)
    have key : ∀ l' e' nm', eff w l e nm = (l', e', nm') → xS F restR [some (.loc p), some (.loc m.length), t, some (.il true [l', e', nm']), none, none, some (.int w), some (.str (reprV (.il true [l, e, nm]))), none, none, none, none] m6 (bodyEn m.length Q R) := by
      intro l' e' nm' he
      have hb' : billOk l' e' nm' := by have := eff_bill (w := w) hbill; rw [he] at this; exact this
      have hs' := bill_shw hb'
      obtain ⟨c1, c2, c3⟩ := bill_repr hb'
      unfold restR b_law_right
      simp only [tl]
      simp [h4]
      refine x_bad hs' ?_
      simp
      refine x_neE (bads l' e' nm') [] rfl rfl rfl rfl (.inr rfl) ?_
      have hbh := bads_head l' e' nm'
      cases hbl2 : bads l' e' nm' with
      | cons v vs =>
        rw [hbl2] at hbh
        simp at hbh
        simp [h5]
        refine x_heard (by simp [cV, hA.len]) (sq_loc hbl) (bill_shw hbill) ?_
        rw [he]
        simp only
        rw [← hbh]
        have sv : OddP 27 v := by
          rcases recBad_mem hbh.symm with rfl | rfl | rfl
          · exact hb'.1
          · exact hb'.2.1
          · exact hb'.2.2
        have rv : shw (.il true [v]) = true ∧ dep (.il true [v]) ≤ 60 ∧ rsz (.il true [v]) ≤ sizeLine := by
          obtain ⟨s1, s2, s3⟩ := sv
          exact ⟨by simp [shw, shws, s1], by simp [dep, deps]; omega, by simp [rsz, rszs]; omega⟩
        simp [heardL]
        refine x_repr rv.1 rv.2.1 rv.2.2 ?_
        simp
        have ec : cutL (v :: vs) none (some 1) = [v] := by rw [cut_hi _ _ (by decide)]; rfl
        rw [ec]
        refine x_repr rv.1 rv.2.1 rv.2.2 ?_
        simp
        refine x_reprM hbl b1 b2 b3 ?_
        simp
        exact hA.ret hm hQ rfl rfl
      | nil =>
        rw [hbl2] at hbh
        simp at hbh
        have hr : recBad l' e' nm' = none := hbh.symm
        have hok := recOk_of hr
        simp [h6]
        refine x_made (sq_loc hbl) (bill_shw hbill) he hr ?_
        have hA := hA.push (recO l' e' nm')
        have l6 : m6.length = m.length + 1 := by have := hA.len; simp at this; omega
        simp [h6, l6]
        refine x_made rfl hs' (show eff 0 l' e' nm' = (l', e', nm') from rfl) hr ?_
        have hA := hA.push (recO l' e' nm')
        have l7 : (m6 ++ [recO l' e' nm']).length = m.length + 2 := by simp [l6]
        rw [show m6 ++ [recO l' e' nm'] ++ [recO l' e' nm'] = m6 ++ [recO l' e' nm', recO l' e' nm'] by simp] at hA
        have r1 : (m6 ++ [recO l' e' nm', recO l' e' nm'])[m.length + 1]? = some (recO l' e' nm') := by rw [hA.get 1]; rfl
        have r2 : (m6 ++ [recO l' e' nm', recO l' e' nm'])[m.length + 1 + 1]? = some (recO l' e' nm') := by rw [show m.length + 1 + 1 = m.length + 2 by omega, hA.get 2]; rfl
        have hbl : (m6 ++ [recO l' e' nm', recO l' e' nm'])[m.length]? = some (.list [l, e, nm]) := by rw [hA.get0]; rfl
        simp only [List.cons_append, List.nil_append] at hA
        obtain ⟨_, ⟨i1, k1⟩, _⟩ := rec_at r1
        obtain ⟨_, ⟨i2, k2⟩, _⟩ := rec_at r2
        simp [l6, i1, h7]
        generalize m6 ++ [recO l' e' nm', recO l' e' nm'] = m8 at *
        refine ⟨_, l', e', nm', rfl, r1, ?_⟩
        simp [i1, h8]
        refine ⟨_, l', e', nm', rfl, r1, ?_⟩
        simp [i1, h9]
        refine ⟨_, l', e', nm', rfl, r1, ?_⟩
        have rw' : shw (.il true [l', e', nm']) = true ∧ dep (.il true [l', e', nm']) ≤ 60 ∧ rsz (.il true [l', e', nm']) ≤ sizeLine := ⟨by simpa [shw] using c1, by simp only [dep]; omega, by simp only [rsz]; exact c3⟩
        simp
        refine x_repr rw'.1 rw'.2.1 rw'.2.2 ?_
        simp
        refine x_repr rw'.1 rw'.2.1 rw'.2.2 ?_
        have eqs : ∀ {n2 : Nat} {Q' : Val → Store → Prop} {R' : Rq} {tk : Tok Q'} {uk : Tok R'}, m8[n2]? = some (recO l' e' nm') → Q' (.bool true) m8 → callF fs_Recorder_eq [.loc (m.length + 1), .loc n2] m8 Q' R' tk uk := fun {n2 Q' R' tk uk} h2' q =>
          ⟨_, l', e', nm', _, true, rfl, r1, hok, .inl ⟨n2, l', e', nm', rfl, h2', hok, (eqv_self hok).symm⟩, q⟩
        simp [i1, k2, notErr, h10]
        refine eqs r2 ?_
        simp [i1, k2, notErr, h10]
        refine eqs r2 ?_
        simp [h2]
        refine x_of _ hA (by omega) rfl (by simp) (by simp) fun l2 m9 hl2 hA => ?_
        simp [h2]
        refine x_of _ hA (by omega) rfl (by simp) (by simp) fun e2 m10 he2 hA => ?_
        simp [h1]
        refine x_take hA (by omega) (by decide) (by decide) fun d2 m11 d20 d21 hA => ?_
        simp [h6]
        have ok2 : recBad l2 e2 (.bool (decide (d2 = 0))) = none := by
          simp at hl2 he2
          rcases hl2 with rfl | rfl | rfl <;> rcases he2 with rfl | rfl | rfl | rfl <;> rfl
        have sh2 : shw l2 = true ∧ shw e2 = true := by
          simp at hl2 he2
          constructor
          · rcases hl2 with rfl | rfl | rfl <;> decide +kernel
          · rcases he2 with rfl | rfl | rfl | rfl <;> decide +kernel
        generalize decide (d2 = 0) = bb at ok2 ⊢
        have hok2 := recOk_of ok2
        refine x_made rfl ⟨sh2.1, sh2.2, rfl⟩ (show eff 0 l2 e2 (.bool bb) = (l2, e2, .bool bb) from rfl) ok2 ?_
        have hA := hA.push (recO l2 e2 (.bool bb))
        have l11 : m11.length = m.length + 3 := by have := hA.len; simp at this; omega
        have r1 : (m11 ++ [recO l2 e2 (.bool bb)])[m.length + 1]? = some (recO l' e' nm') := by rw [hA.get 1]; rfl
        have r3 : (m11 ++ [recO l2 e2 (.bool bb)])[m.length + 3]? = some (recO l2 e2 (.bool bb)) := by rw [hA.get 3]; rfl
        have hbl : (m11 ++ [recO l2 e2 (.bool bb)])[m.length]? = some (.list [l, e, nm]) := by rw [hA.get0]; rfl
        obtain ⟨_, ⟨i1, k1⟩, _⟩ := rec_at r1
        obtain ⟨_, ⟨i3, k3⟩, _⟩ := rec_at r3
        simp [l11, i1, k3, notErr, h10]
        generalize m11 ++ [recO l2 e2 (.bool bb)] = m12 at *
        refine ⟨_, l', e', nm', _, _, rfl, r1, hok, .inl ⟨_, l2, e2, _, rfl, r3, hok2, rfl⟩, ?_⟩
        simp
        have cl : ∀ {x y z : Val}, recOk x y z → cmpV (.il true [x, y, z]) = true := fun {x y z} h => by
          obtain ⟨h1, h2, h3⟩ := h
          cases x <;> first | cases h1 | skip
          cases y <;> first | cases h2 | skip
          cases z <;> first | cases h3 | skip
          simp [cmpV, lay, lays, dep, deps]
        refine x_eqG (cl hok2) (cl hok) ?_
        refine x_neG rfl rfl ?_
        rw [eq_sym hok hok2]
        simp
        rw [lcX_cons]
        have no : ∀ {w' : Val} {Q' : Val → Store → Prop} {R' : Rq} {tk : Tok Q'} {uk : Tok R'}, shw w' = true → Q' (.bool false) m12 → callF fs_Recorder_eq [.loc (m.length + 1), w'] m12 Q' R' tk uk := fun {w' Q' R' tk uk} hw q =>
          ⟨_, l', e', nm', _, false, rfl, r1, hok, .inr ⟨hw, rfl⟩, q⟩
        refine ⟨by simp, ?_⟩
        simp [i1, notErr, h10]
        refine no rfl ?_
        simp
        rw [lcX_cons]
        refine ⟨by simp, ?_⟩
        simp [i1, notErr, h10]
        refine no (by simpa [shw] using c1) ?_
        simp
        rw [lcX_cons]
        refine ⟨by simp, ?_⟩
        simp [i1, notErr, h10]
        refine no (by simpa [shw] using c1) ?_
        simp
        rw [lcX_cons]
        refine ⟨by simp, ?_⟩
        simp [i1, notErr, h10]
        refine no (by decide +kernel) ?_
        simp
        rw [lcX_nil]
        refine ⟨by simp, ?_⟩
        simp
        refine x_reprM hbl b1 b2 b3 ?_
        simp
        exact hA.ret hm hQ rfl rfl
    have ew : w = 0 ∨ w = 1 ∨ w = 2 ∨ w = 3 := by omega
    have up : intsUp 0 3 = [.int 0, .int 1, .int 2] := rfl
    simp
    refine x_rng (by omega) (by omega) ?_
    have e3 : (3 : Int).toNat = 3 := rfl
    rw [e3, up, lcX_cons]
    rcases ew with rfl | rfl | rfl | rfl
    · refine ⟨it_rng (by omega) (by omega), ?_⟩
      simp
      refine x_inL (by decide +kernel) (by decide +kernel) ?_
      simp [ix0]
      rw [lcX_cons]
      refine ⟨it_rng (by omega) (by omega), ?_⟩
      simp
      refine x_inL (by decide +kernel) (by decide +kernel) ?_
      simp [ix1]
      rw [lcX_cons]
      refine ⟨it_rng (by omega) (by omega), ?_⟩
      simp
      refine x_inL (by decide +kernel) (by decide +kernel) ?_
      simp [ix2]
      rw [lcX_nil]
      refine ⟨it_rng (by omega) (by omega), ?_⟩
      have z := key _ _ _ rfl
      unfold restR b_law_right at z
      simp only [tl] at z
      simp at z
      simp
      exact z
    · refine ⟨it_rng (by omega) (by omega), ?_⟩
      simp
      refine x_inL (by decide +kernel) (by decide +kernel) ?_
      simp [ix0]
      rw [lcX_cons]
      refine ⟨it_rng (by omega) (by omega), ?_⟩
      simp
      refine x_inL (by decide +kernel) (by decide +kernel) ?_
      simp [ix1]
      rw [lcX_cons]
      refine ⟨it_rng (by omega) (by omega), ?_⟩
      simp
      refine x_inL (by decide +kernel) (by decide +kernel) ?_
      simp [ix2]
      rw [lcX_nil]
      refine ⟨it_rng (by omega) (by omega), ?_⟩
      have z := key _ _ _ rfl
      unfold restR b_law_right at z
      simp only [tl] at z
      simp at z
      simp
      exact z
    · refine ⟨it_rng (by omega) (by omega), ?_⟩
      simp
      refine x_inL (by decide +kernel) (by decide +kernel) ?_
      simp [ix0]
      rw [lcX_cons]
      refine ⟨it_rng (by omega) (by omega), ?_⟩
      simp
      refine x_inL (by decide +kernel) (by decide +kernel) ?_
      simp [ix1]
      rw [lcX_cons]
      refine ⟨it_rng (by omega) (by omega), ?_⟩
      simp
      refine x_inL (by decide +kernel) (by decide +kernel) ?_
      simp [ix2]
      rw [lcX_nil]
      refine ⟨it_rng (by omega) (by omega), ?_⟩
      have z := key _ _ _ rfl
      unfold restR b_law_right at z
      simp only [tl] at z
      simp at z
      simp
      exact z
    · refine ⟨it_rng (by omega) (by omega), ?_⟩
      simp
      refine x_inL (by decide +kernel) (by decide +kernel) ?_
      simp [ix0]
      rw [lcX_cons]
      refine ⟨it_rng (by omega) (by omega), ?_⟩
      simp
      refine x_inL (by decide +kernel) (by decide +kernel) ?_
      simp [ix1]
      rw [lcX_cons]
      refine ⟨it_rng (by omega) (by omega), ?_⟩
      simp
      refine x_inL (by decide +kernel) (by decide +kernel) ?_
      simp [ix2]
      rw [lcX_nil]
      refine ⟨it_rng (by omega) (by omega), ?_⟩
      have z := key _ _ _ rfl
      unfold restR b_law_right at z
      simp only [tl] at z
      simp at z
      simp
      exact z
def fs_law : FS := fun args _ Q _ => ∃ ns : List Int, ns.length ≤ 1000 ∧ args = [.il false (ns.map .int)] ∧ ∀ m', Q (.bool true) m'
theorem bools_true : ∀ {ws : List Val}, (∀ v ∈ ws, v = .bool true) → boolsOf ws = some (List.replicate ws.length true)
  | [], _ => rfl
  | w :: ws, h => by
    rw [h w (by simp)]
    simp [bools_true fun v hv => h v (List.mem_cons_of_mem _ hv), List.replicate_succ]
theorem m_law {F : Nat → FS} (h1 : F i_law_pot = fsPot) (h2 : F i_law_right = fs_law_right) : Meets F 4 b_law fs_law := by
  refine Meets.x ?_
  rintro args m Q R hm ha ⟨ns, hns, rfl, hQ⟩
  unfold b_law
  simp
  refine x_rng (by split <;> split <;> omega) (by split <;> split <;> omega) ?_
  refine for_invX (fun rem r _ => (∃ x1 x2 x3, r = [some (.il false (ns.map .int)), x1, x2, x3]) ∧ ∀ x ∈ rem, ∃ i : Nat, i < 4 ∧ x = .int i) ?_ ?_ ?_ ⟨⟨_, _, _, rfl⟩, ?_⟩
  · intro _
    simp only [List.length_map, gt_iff_lt]
    refine it_rng ?_ ?_ <;> (split <;> split <;> omega)
  · rintro x xs r m nx ⟨⟨x1, x2, x3, rfl⟩, hx⟩ hn
    obtain ⟨i, hi, rfl⟩ := hx x List.mem_cons_self
    simp [h1]
    refine x_pot (by omega) fun a ha => ?_
    simp
    refine x_rng (by omega) (by omega) ?_
    refine lc_at0 70 (fun v => v = .bool true) (fun _ => it_rng (by omega) (by omega)) ?_ (.start ha) (by simp) (by simp) ?_
    · intro x m a P hA q
      simp [h2]
      exact x_draw hA (by omega) fun v m' hv hA' => q v m' hv hA'
    · intro ws m2 hl hw hA2
      simp [bools_true hw]
      exact hn _ _ ⟨⟨_, _, _, rfl⟩, fun y hy => hx y (List.mem_cons_of_mem _ hy)⟩
  · rintro r m1 ⟨⟨x1, x2, x3, rfl⟩, _⟩
    simp
    exact .inl (hQ _)
  · intro x hx
    obtain ⟨i, hi, rfl⟩ := intsUp_mem hx
    refine ⟨i, ?_, by simp⟩
    revert hi
    split <;> split <;> omega
end LR

namespace LR
open PySem L2 Dy
def posL : List Nat := [0, 1, 2, 3, 4, 5, 6, 7, 8, 9, 10, 11, 12, 13, 14, 15, 16, 17]
def vw0 : Nat → Nat := fun f => posL.getD f 100000
theorem l_fs_is_integer : ∀ (vs : List Val) (m : Store) (Q : Val → Store → Prop) (R : Rq), fs_is_integer vs m Q R → vs.length = 1 := by
  intro vs m Q R h
  first | (obtain ⟨rfl, _⟩ := h; rfl) | (obtain ⟨_, rfl, _⟩ := h; rfl) | (obtain ⟨_, _, rfl, _⟩ := h; rfl) | (obtain ⟨_, _, _, rfl, _⟩ := h; rfl) | (obtain ⟨_, _, _, _, rfl, _⟩ := h; rfl) | (obtain ⟨_, _, _, _, _, rfl, _⟩ := h; rfl) | (obtain ⟨_, _, _, _, _, _, rfl, _⟩ := h; rfl) | (obtain ⟨_, _, _, _, _, _, _, rfl, _⟩ := h; rfl) | (obtain ⟨_, _, _, _, _, _, _, _, rfl, _⟩ := h; rfl)
theorem l_fs_is_between : ∀ (vs : List Val) (m : Store) (Q : Val → Store → Prop) (R : Rq), fs_is_between vs m Q R → vs.length = 3 := by
  intro vs m Q R h
  first | (obtain ⟨rfl, _⟩ := h; rfl) | (obtain ⟨_, rfl, _⟩ := h; rfl) | (obtain ⟨_, _, rfl, _⟩ := h; rfl) | (obtain ⟨_, _, _, rfl, _⟩ := h; rfl) | (obtain ⟨_, _, _, _, rfl, _⟩ := h; rfl) | (obtain ⟨_, _, _, _, _, rfl, _⟩ := h; rfl) | (obtain ⟨_, _, _, _, _, _, rfl, _⟩ := h; rfl) | (obtain ⟨_, _, _, _, _, _, _, rfl, _⟩ := h; rfl) | (obtain ⟨_, _, _, _, _, _, _, _, rfl, _⟩ := h; rfl)
theorem l_fs_is_truth : ∀ (vs : List Val) (m : Store) (Q : Val → Store → Prop) (R : Rq), fs_is_truth vs m Q R → vs.length = 1 := by
  intro vs m Q R h
  first | (obtain ⟨rfl, _⟩ := h; rfl) | (obtain ⟨_, rfl, _⟩ := h; rfl) | (obtain ⟨_, _, rfl, _⟩ := h; rfl) | (obtain ⟨_, _, _, rfl, _⟩ := h; rfl) | (obtain ⟨_, _, _, _, rfl, _⟩ := h; rfl) | (obtain ⟨_, _, _, _, _, rfl, _⟩ := h; rfl) | (obtain ⟨_, _, _, _, _, _, rfl, _⟩ := h; rfl) | (obtain ⟨_, _, _, _, _, _, _, rfl, _⟩ := h; rfl) | (obtain ⟨_, _, _, _, _, _, _, _, rfl, _⟩ := h; rfl)
theorem l_fs_Recorder_init : ∀ (vs : List Val) (m : Store) (Q : Val → Store → Prop) (R : Rq), fs_Recorder_init vs m Q R → vs.length = 4 := by
  intro vs m Q R h
  first | (obtain ⟨rfl, _⟩ := h; rfl) | (obtain ⟨_, rfl, _⟩ := h; rfl) | (obtain ⟨_, _, rfl, _⟩ := h; rfl) | (obtain ⟨_, _, _, rfl, _⟩ := h; rfl) | (obtain ⟨_, _, _, _, rfl, _⟩ := h; rfl) | (obtain ⟨_, _, _, _, _, rfl, _⟩ := h; rfl) | (obtain ⟨_, _, _, _, _, _, rfl, _⟩ := h; rfl) | (obtain ⟨_, _, _, _, _, _, _, rfl, _⟩ := h; rfl) | (obtain ⟨_, _, _, _, _, _, _, _, rfl, _⟩ := h; rfl)
theorem l_fs_Recorder_eq : ∀ (vs : List Val) (m : Store) (Q : Val → Store → Prop) (R : Rq), fs_Recorder_eq vs m Q R → vs.length = 2 := by
  intro vs m Q R h
  first | (obtain ⟨rfl, _⟩ := h; rfl) | (obtain ⟨_, rfl, _⟩ := h; rfl) | (obtain ⟨_, _, rfl, _⟩ := h; rfl) | (obtain ⟨_, _, _, rfl, _⟩ := h; rfl) | (obtain ⟨_, _, _, _, rfl, _⟩ := h; rfl) | (obtain ⟨_, _, _, _, _, rfl, _⟩ := h; rfl) | (obtain ⟨_, _, _, _, _, _, rfl, _⟩ := h; rfl) | (obtain ⟨_, _, _, _, _, _, _, rfl, _⟩ := h; rfl) | (obtain ⟨_, _, _, _, _, _, _, _, rfl, _⟩ := h; rfl)
theorem l_fs_Recorder_all_three : ∀ (vs : List Val) (m : Store) (Q : Val → Store → Prop) (R : Rq), fs_Recorder_all_three vs m Q R → vs.length = 1 := by
  intro vs m Q R h
  first | (obtain ⟨rfl, _⟩ := h; rfl) | (obtain ⟨_, rfl, _⟩ := h; rfl) | (obtain ⟨_, _, rfl, _⟩ := h; rfl) | (obtain ⟨_, _, _, rfl, _⟩ := h; rfl) | (obtain ⟨_, _, _, _, rfl, _⟩ := h; rfl) | (obtain ⟨_, _, _, _, _, rfl, _⟩ := h; rfl) | (obtain ⟨_, _, _, _, _, _, rfl, _⟩ := h; rfl) | (obtain ⟨_, _, _, _, _, _, _, rfl, _⟩ := h; rfl) | (obtain ⟨_, _, _, _, _, _, _, _, rfl, _⟩ := h; rfl)
theorem l_fs_Recorder_level : ∀ (vs : List Val) (m : Store) (Q : Val → Store → Prop) (R : Rq), fs_Recorder_level vs m Q R → vs.length = 1 := by
  intro vs m Q R h
  first | (obtain ⟨rfl, _⟩ := h; rfl) | (obtain ⟨_, rfl, _⟩ := h; rfl) | (obtain ⟨_, _, rfl, _⟩ := h; rfl) | (obtain ⟨_, _, _, rfl, _⟩ := h; rfl) | (obtain ⟨_, _, _, _, rfl, _⟩ := h; rfl) | (obtain ⟨_, _, _, _, _, rfl, _⟩ := h; rfl) | (obtain ⟨_, _, _, _, _, _, rfl, _⟩ := h; rfl) | (obtain ⟨_, _, _, _, _, _, _, rfl, _⟩ := h; rfl) | (obtain ⟨_, _, _, _, _, _, _, _, rfl, _⟩ := h; rfl)
theorem l_fs_Recorder_every : ∀ (vs : List Val) (m : Store) (Q : Val → Store → Prop) (R : Rq), fs_Recorder_every vs m Q R → vs.length = 1 := by
  intro vs m Q R h
  first | (obtain ⟨rfl, _⟩ := h; rfl) | (obtain ⟨_, rfl, _⟩ := h; rfl) | (obtain ⟨_, _, rfl, _⟩ := h; rfl) | (obtain ⟨_, _, _, rfl, _⟩ := h; rfl) | (obtain ⟨_, _, _, _, rfl, _⟩ := h; rfl) | (obtain ⟨_, _, _, _, _, rfl, _⟩ := h; rfl) | (obtain ⟨_, _, _, _, _, _, rfl, _⟩ := h; rfl) | (obtain ⟨_, _, _, _, _, _, _, rfl, _⟩ := h; rfl) | (obtain ⟨_, _, _, _, _, _, _, _, rfl, _⟩ := h; rfl)
theorem l_fs_Recorder_names : ∀ (vs : List Val) (m : Store) (Q : Val → Store → Prop) (R : Rq), fs_Recorder_names vs m Q R → vs.length = 1 := by
  intro vs m Q R h
  first | (obtain ⟨rfl, _⟩ := h; rfl) | (obtain ⟨_, rfl, _⟩ := h; rfl) | (obtain ⟨_, _, rfl, _⟩ := h; rfl) | (obtain ⟨_, _, _, rfl, _⟩ := h; rfl) | (obtain ⟨_, _, _, _, rfl, _⟩ := h; rfl) | (obtain ⟨_, _, _, _, _, rfl, _⟩ := h; rfl) | (obtain ⟨_, _, _, _, _, _, rfl, _⟩ := h; rfl) | (obtain ⟨_, _, _, _, _, _, _, rfl, _⟩ := h; rfl) | (obtain ⟨_, _, _, _, _, _, _, _, rfl, _⟩ := h; rfl)
theorem l_fsPot : ∀ (vs : List Val) (m : Store) (Q : Val → Store → Prop) (R : Rq), fsPot vs m Q R → vs.length = 2 := by
  intro vs m Q R h
  first | (obtain ⟨rfl, _⟩ := h; rfl) | (obtain ⟨_, rfl, _⟩ := h; rfl) | (obtain ⟨_, _, rfl, _⟩ := h; rfl) | (obtain ⟨_, _, _, rfl, _⟩ := h; rfl) | (obtain ⟨_, _, _, _, rfl, _⟩ := h; rfl) | (obtain ⟨_, _, _, _, _, rfl, _⟩ := h; rfl) | (obtain ⟨_, _, _, _, _, _, rfl, _⟩ := h; rfl) | (obtain ⟨_, _, _, _, _, _, _, rfl, _⟩ := h; rfl) | (obtain ⟨_, _, _, _, _, _, _, _, rfl, _⟩ := h; rfl)
theorem l_fsTake : ∀ (vs : List Val) (m : Store) (Q : Val → Store → Prop) (R : Rq), fsTake vs m Q R → vs.length = 2 := by
  intro vs m Q R h
  first | (obtain ⟨rfl, _⟩ := h; rfl) | (obtain ⟨_, rfl, _⟩ := h; rfl) | (obtain ⟨_, _, rfl, _⟩ := h; rfl) | (obtain ⟨_, _, _, rfl, _⟩ := h; rfl) | (obtain ⟨_, _, _, _, rfl, _⟩ := h; rfl) | (obtain ⟨_, _, _, _, _, rfl, _⟩ := h; rfl) | (obtain ⟨_, _, _, _, _, _, rfl, _⟩ := h; rfl) | (obtain ⟨_, _, _, _, _, _, _, rfl, _⟩ := h; rfl) | (obtain ⟨_, _, _, _, _, _, _, _, rfl, _⟩ := h; rfl)
theorem l_fsOf : ∀ (vs : List Val) (m : Store) (Q : Val → Store → Prop) (R : Rq), fsOf vs m Q R → vs.length = 2 := by
  intro vs m Q R h
  first | (obtain ⟨rfl, _⟩ := h; rfl) | (obtain ⟨_, rfl, _⟩ := h; rfl) | (obtain ⟨_, _, rfl, _⟩ := h; rfl) | (obtain ⟨_, _, _, rfl, _⟩ := h; rfl) | (obtain ⟨_, _, _, _, rfl, _⟩ := h; rfl) | (obtain ⟨_, _, _, _, _, rfl, _⟩ := h; rfl) | (obtain ⟨_, _, _, _, _, _, rfl, _⟩ := h; rfl) | (obtain ⟨_, _, _, _, _, _, _, rfl, _⟩ := h; rfl) | (obtain ⟨_, _, _, _, _, _, _, _, rfl, _⟩ := h; rfl)
theorem l_fs_law_odd : ∀ (vs : List Val) (m : Store) (Q : Val → Store → Prop) (R : Rq), fs_law_odd vs m Q R → vs.length = 2 := by
  intro vs m Q R h
  first | (obtain ⟨rfl, _⟩ := h; rfl) | (obtain ⟨_, rfl, _⟩ := h; rfl) | (obtain ⟨_, _, rfl, _⟩ := h; rfl) | (obtain ⟨_, _, _, rfl, _⟩ := h; rfl) | (obtain ⟨_, _, _, _, rfl, _⟩ := h; rfl) | (obtain ⟨_, _, _, _, _, rfl, _⟩ := h; rfl) | (obtain ⟨_, _, _, _, _, _, rfl, _⟩ := h; rfl) | (obtain ⟨_, _, _, _, _, _, _, rfl, _⟩ := h; rfl) | (obtain ⟨_, _, _, _, _, _, _, _, rfl, _⟩ := h; rfl)
theorem l_fs_law_made : ∀ (vs : List Val) (m : Store) (Q : Val → Store → Prop) (R : Rq), fs_law_made vs m Q R → vs.length = 2 := by
  intro vs m Q R h
  first | (obtain ⟨rfl, _⟩ := h; rfl) | (obtain ⟨_, rfl, _⟩ := h; rfl) | (obtain ⟨_, _, rfl, _⟩ := h; rfl) | (obtain ⟨_, _, _, rfl, _⟩ := h; rfl) | (obtain ⟨_, _, _, _, rfl, _⟩ := h; rfl) | (obtain ⟨_, _, _, _, _, rfl, _⟩ := h; rfl) | (obtain ⟨_, _, _, _, _, _, rfl, _⟩ := h; rfl) | (obtain ⟨_, _, _, _, _, _, _, rfl, _⟩ := h; rfl) | (obtain ⟨_, _, _, _, _, _, _, _, rfl, _⟩ := h; rfl)
theorem l_fs_law_bad : ∀ (vs : List Val) (m : Store) (Q : Val → Store → Prop) (R : Rq), fs_law_bad vs m Q R → vs.length = 1 := by
  intro vs m Q R h
  first | (obtain ⟨rfl, _⟩ := h; rfl) | (obtain ⟨_, rfl, _⟩ := h; rfl) | (obtain ⟨_, _, rfl, _⟩ := h; rfl) | (obtain ⟨_, _, _, rfl, _⟩ := h; rfl) | (obtain ⟨_, _, _, _, rfl, _⟩ := h; rfl) | (obtain ⟨_, _, _, _, _, rfl, _⟩ := h; rfl) | (obtain ⟨_, _, _, _, _, _, rfl, _⟩ := h; rfl) | (obtain ⟨_, _, _, _, _, _, _, rfl, _⟩ := h; rfl) | (obtain ⟨_, _, _, _, _, _, _, _, rfl, _⟩ := h; rfl)
theorem l_fs_law_heard : ∀ (vs : List Val) (m : Store) (Q : Val → Store → Prop) (R : Rq), fs_law_heard vs m Q R → vs.length = 2 := by
  intro vs m Q R h
  first | (obtain ⟨rfl, _⟩ := h; rfl) | (obtain ⟨_, rfl, _⟩ := h; rfl) | (obtain ⟨_, _, rfl, _⟩ := h; rfl) | (obtain ⟨_, _, _, rfl, _⟩ := h; rfl) | (obtain ⟨_, _, _, _, rfl, _⟩ := h; rfl) | (obtain ⟨_, _, _, _, _, rfl, _⟩ := h; rfl) | (obtain ⟨_, _, _, _, _, _, rfl, _⟩ := h; rfl) | (obtain ⟨_, _, _, _, _, _, _, rfl, _⟩ := h; rfl) | (obtain ⟨_, _, _, _, _, _, _, _, rfl, _⟩ := h; rfl)
theorem l_fs_law_right : ∀ (vs : List Val) (m : Store) (Q : Val → Store → Prop) (R : Rq), fs_law_right vs m Q R → vs.length = 1 := by
  intro vs m Q R h
  first | (obtain ⟨rfl, _⟩ := h; rfl) | (obtain ⟨_, rfl, _⟩ := h; rfl) | (obtain ⟨_, _, rfl, _⟩ := h; rfl) | (obtain ⟨_, _, _, rfl, _⟩ := h; rfl) | (obtain ⟨_, _, _, _, rfl, _⟩ := h; rfl) | (obtain ⟨_, _, _, _, _, rfl, _⟩ := h; rfl) | (obtain ⟨_, _, _, _, _, _, rfl, _⟩ := h; rfl) | (obtain ⟨_, _, _, _, _, _, _, rfl, _⟩ := h; rfl) | (obtain ⟨_, _, _, _, _, _, _, _, rfl, _⟩ := h; rfl)
theorem l_fs_law : ∀ (vs : List Val) (m : Store) (Q : Val → Store → Prop) (R : Rq), fs_law vs m Q R → vs.length = 1 := by
  intro vs m Q R h
  first | (obtain ⟨rfl, _⟩ := h; rfl) | (obtain ⟨_, rfl, _⟩ := h; rfl) | (obtain ⟨_, _, rfl, _⟩ := h; rfl) | (obtain ⟨_, _, _, rfl, _⟩ := h; rfl) | (obtain ⟨_, _, _, _, rfl, _⟩ := h; rfl) | (obtain ⟨_, _, _, _, _, rfl, _⟩ := h; rfl) | (obtain ⟨_, _, _, _, _, _, rfl, _⟩ := h; rfl) | (obtain ⟨_, _, _, _, _, _, _, rfl, _⟩ := h; rfl) | (obtain ⟨_, _, _, _, _, _, _, _, rfl, _⟩ := h; rfl)
def d_0 : DefI := ⟨0, n_is_integer, b_is_integer, fs_is_integer, 0, vw0⟩
def d_1 : DefI := ⟨1, n_is_between, b_is_between, fs_is_between, 1, vw0⟩
def d_2 : DefI := ⟨2, n_is_truth, b_is_truth, fs_is_truth, 0, vw0⟩
def d_3 : DefI := ⟨3, n_Recorder_init, b_Recorder_init, fs_Recorder_init, 2, vw0⟩
def d_4 : DefI := ⟨4, n_Recorder_eq, b_Recorder_eq, fs_Recorder_eq, 1, vw0⟩
def d_5 : DefI := ⟨5, n_Recorder_all_three, b_Recorder_all_three, fs_Recorder_all_three, 0, vw0⟩
def d_6 : DefI := ⟨6, n_Recorder_level, b_Recorder_level, fs_Recorder_level, 0, vw0⟩
def d_7 : DefI := ⟨7, n_Recorder_every, b_Recorder_every, fs_Recorder_every, 0, vw0⟩
def d_8 : DefI := ⟨8, n_Recorder_names, b_Recorder_names, fs_Recorder_names, 0, vw0⟩
def d_9 : DefI := ⟨9, n_law_pot, b_law_pot, fsPot, 0, vw0⟩
def d_10 : DefI := ⟨10, n_law_take, b_law_take, fsTake, 0, vw0⟩
def d_11 : DefI := ⟨11, n_law_of, b_law_of, fsOf, 1, vw0⟩
def d_12 : DefI := ⟨12, n_law_odd, b_law_odd, fs_law_odd, 2, vw0⟩
def d_13 : DefI := ⟨13, n_law_made, b_law_made, fs_law_made, 3, vw0⟩
def d_14 : DefI := ⟨14, n_law_bad, b_law_bad, fs_law_bad, 0, vw0⟩
def d_15 : DefI := ⟨15, n_law_heard, b_law_heard, fs_law_heard, 4, vw0⟩
def d_16 : DefI := ⟨16, n_law_right, b_law_right, fs_law_right, 5, vw0⟩
def d_17 : DefI := ⟨17, n_law, b_law, fs_law, 6, vw0⟩
def ds : List DefI := [d_0, d_1, d_2, d_3, d_4, d_5, d_6, d_7, d_8, d_9, d_10, d_11, d_12, d_13, d_14, d_15, d_16, d_17]
theorem g_0 : GoodD cc tab ds d_0 ⟨"is_integer", "is_integer", s_is_integer, p_is_integer⟩ := ⟨sc_is_integer, c_is_integer, (m_is_integer ), l_fs_is_integer⟩
theorem g_1 : GoodD cc tab ds d_1 ⟨"is_between", "is_between", s_is_between, p_is_between⟩ := ⟨sc_is_between, c_is_between, (m_is_between rfl), l_fs_is_between⟩
theorem g_2 : GoodD cc tab ds d_2 ⟨"is_truth", "is_truth", s_is_truth, p_is_truth⟩ := ⟨sc_is_truth, c_is_truth, (m_is_truth ), l_fs_is_truth⟩
theorem g_3 : GoodD cc tab ds d_3 ⟨"__init__", "Recorder.__init__", s_Recorder_init, p_Recorder_init⟩ := ⟨sc_Recorder_init, c_Recorder_init, (m_Recorder_init rfl rfl), l_fs_Recorder_init⟩
theorem g_4 : GoodD cc tab ds d_4 ⟨"__eq__", "Recorder.__eq__", s_Recorder_eq, p_Recorder_eq⟩ := ⟨sc_Recorder_eq, c_Recorder_eq, (m_Recorder_eq rfl), l_fs_Recorder_eq⟩
theorem g_5 : GoodD cc tab ds d_5 ⟨"all_three", "Recorder.all_three", s_Recorder_all_three, p_Recorder_all_three⟩ := ⟨sc_Recorder_all_three, c_Recorder_all_three, (m_Recorder_all_three ), l_fs_Recorder_all_three⟩
theorem g_6 : GoodD cc tab ds d_6 ⟨"level", "Recorder.level", s_Recorder_level, p_Recorder_level⟩ := ⟨sc_Recorder_level, c_Recorder_level, (m_Recorder_level ), l_fs_Recorder_level⟩
theorem g_7 : GoodD cc tab ds d_7 ⟨"every", "Recorder.every", s_Recorder_every, p_Recorder_every⟩ := ⟨sc_Recorder_every, c_Recorder_every, (m_Recorder_every ), l_fs_Recorder_every⟩
theorem g_8 : GoodD cc tab ds d_8 ⟨"names", "Recorder.names", s_Recorder_names, p_Recorder_names⟩ := ⟨sc_Recorder_names, c_Recorder_names, (m_Recorder_names ), l_fs_Recorder_names⟩
theorem g_9 : GoodD cc tab ds d_9 ⟨"_law_pot", "_law_pot", s_law_pot, p_law_pot⟩ := ⟨sc_law_pot, c_law_pot, (m_law_pot ), l_fsPot⟩
theorem g_10 : GoodD cc tab ds d_10 ⟨"_law_take", "_law_take", s_law_take, p_law_take⟩ := ⟨sc_law_take, c_law_take, (m_law_take ), l_fsTake⟩
theorem g_11 : GoodD cc tab ds d_11 ⟨"_law_of", "_law_of", s_law_of, p_law_of⟩ := ⟨sc_law_of, c_law_of, (m_law_of rfl), l_fsOf⟩
theorem g_12 : GoodD cc tab ds d_12 ⟨"_law_odd", "_law_odd", s_law_odd, p_law_odd⟩ := ⟨sc_law_odd, c_law_odd, (m_law_odd rfl), l_fs_law_odd⟩
theorem g_13 : GoodD cc tab ds d_13 ⟨"_law_made", "_law_made", s_law_made, p_law_made⟩ := ⟨sc_law_made, c_law_made, (m_law_made rfl), l_fs_law_made⟩
theorem g_14 : GoodD cc tab ds d_14 ⟨"_law_bad", "_law_bad", s_law_bad, p_law_bad⟩ := ⟨sc_law_bad, c_law_bad, (m_law_bad ), l_fs_law_bad⟩
theorem g_15 : GoodD cc tab ds d_15 ⟨"_law_heard", "_law_heard", s_law_heard, p_law_heard⟩ := ⟨sc_law_heard, c_law_heard, (m_law_heard rfl), l_fs_law_heard⟩
theorem g_16 : GoodD cc tab ds d_16 ⟨"_law_right", "_law_right", s_law_right, p_law_right⟩ := ⟨sc_law_right, c_law_right, (m_law_right rfl rfl rfl rfl rfl rfl rfl rfl rfl rfl), l_fs_law_right⟩
theorem g_17 : GoodD cc tab ds d_17 ⟨"law", "law", s_law, p_law⟩ := ⟨sc_law, c_law, (m_law rfl rfl), l_fs_law⟩
theorem allG : AllP (fun d => ∃ t, tab[d.k]? = some t ∧ GoodD cc tab ds d t) ds := ⟨⟨_, rfl, g_0⟩, ⟨_, rfl, g_1⟩, ⟨_, rfl, g_2⟩, ⟨_, rfl, g_3⟩, ⟨_, rfl, g_4⟩, ⟨_, rfl, g_5⟩, ⟨_, rfl, g_6⟩, ⟨_, rfl, g_7⟩, ⟨_, rfl, g_8⟩, ⟨_, rfl, g_9⟩, ⟨_, rfl, g_10⟩, ⟨_, rfl, g_11⟩, ⟨_, rfl, g_12⟩, ⟨_, rfl, g_13⟩, ⟨_, rfl, g_14⟩, ⟨_, rfl, g_15⟩, ⟨_, rfl, g_16⟩, ⟨_, rfl, g_17⟩, trivial⟩
theorem views : (ds.all (viewB ds tab.length)) = true := by decide +kernel
theorem vw0_out (j : Nat) (h : tab.length ≤ j) : ds[vw0 j]? = none := by
  have e : vw0 j = 100000 := by
    unfold vw0
    rw [List.getD_eq_getElem?_getD, List.getElem?_eq_none (show posL.length ≤ j from h)]
    rfl
  rw [e]
  exact List.getElem?_eq_none (by decide)
theorem outs : AllP (fun d : DefI => ∀ j, tab.length ≤ j → ds[d.vw j]? = none) ds := ⟨vw0_out, vw0_out, vw0_out, vw0_out, vw0_out, vw0_out, vw0_out, vw0_out, vw0_out, vw0_out, vw0_out, vw0_out, vw0_out, vw0_out, vw0_out, vw0_out, vw0_out, vw0_out, trivial⟩
def s_LE : Stmt := inS 1 0
theorem log_text : LogText PySem.Challenge.rw_loggedruns_k11_recorders_of_any_value.prog s_LE where
  body := ⟨_, _, _, _, _, _, _, _, _, rfl, fun _ => ⟨_, rfl⟩⟩
  sc := by constructor <;> first | rfl | decide +kernel
  par := ⟨_, rfl, rfl⟩
  sup := by decide +kernel
  top := by decide +kernel
  bd := fun _ _ _ _ _ _ _ us hl => match us, hl with | [_, _], _ => rfl
def lay (a0 a1 a100 f0 f1 f2 f3 f4 f5 f6 f7 f8 f9 f10 f11 f12 f13 f14 f15 f16 f17 : Addr) (e0 e1 e2 e3 e4 e5 e6 e7 e8 e9 e10 e11 e12 e13 e14 e15 e16 e17 : FuncData) : Lay := ⟨[(0, a0), (1, a1), (100, a100)], [(f0, e0, p_is_integer), (f1, e1, p_is_between), (f2, e2, p_is_truth), (f3, e3, p_Recorder_init), (f4, e4, p_Recorder_eq), (f5, e5, p_Recorder_all_three), (f6, e6, p_Recorder_level), (f7, e7, p_Recorder_every), (f8, e8, p_Recorder_names), (f9, e9, p_law_pot), (f10, e10, p_law_take), (f11, e11, p_law_of), (f12, e12, p_law_odd), (f13, e13, p_law_made), (f14, e14, p_law_bad), (f15, e15, p_law_heard), (f16, e16, p_law_right), (f17, e17, p_law)]⟩
def bidx : List Nat := [0, 1, 2, 4, 5, 6, 7, 8, 9, 10, 11, 12, 13, 14, 15, 16, 17]
theorem bidx_ok : ((cc [] []).fns.all (fun p => bidx.contains p.2) && (cc [] []).mts.all (fun p => bidx.contains p.2.2) && (cc [] []).prs.all (fun p => bidx.contains p.2.2) && (cc [] []).eqs.all (fun p => bidx.contains p.2)) = true := by decide +kernel
theorem bd_0 {K : Frag} {f : Addr} {e : FuncData} (F : Fun K "is_integer" "is_integer" s_is_integer f e) : Binds K e p_is_integer [] := F.binds (fun _ _ _ _ _ _ us hl => match us, hl with | [_], _ => rfl)
theorem bd_1 {K : Frag} {f : Addr} {e : FuncData} (F : Fun K "is_between" "is_between" s_is_between f e) : Binds K e p_is_between [] := F.binds (fun _ _ _ _ _ _ us hl => match us, hl with | [_, _, _], _ => rfl)
theorem bd_2 {K : Frag} {f : Addr} {e : FuncData} (F : Fun K "is_truth" "is_truth" s_is_truth f e) : Binds K e p_is_truth [] := F.binds (fun _ _ _ _ _ _ us hl => match us, hl with | [_], _ => rfl)
theorem bd_4 {K : Frag} {f : Addr} {e : FuncData} (F : Fun K "__eq__" "Recorder.__eq__" s_Recorder_eq f e) : Binds K e p_Recorder_eq [] := F.binds (fun _ _ _ _ _ _ us hl => match us, hl with | [_, _], _ => rfl)
theorem bd_5 {K : Frag} {f : Addr} {e : FuncData} (F : Fun K "all_three" "Recorder.all_three" s_Recorder_all_three f e) : Binds K e p_Recorder_all_three [] := F.binds (fun _ _ _ _ _ _ us hl => match us, hl with | [_], _ => rfl)
theorem bd_6 {K : Frag} {f : Addr} {e : FuncData} (F : Fun K "level" "Recorder.level" s_Recorder_level f e) : Binds K e p_Recorder_level [] := F.binds (fun _ _ _ _ _ _ us hl => match us, hl with | [_], _ => rfl)
theorem bd_7 {K : Frag} {f : Addr} {e : FuncData} (F : Fun K "every" "Recorder.every" s_Recorder_every f e) : Binds K e p_Recorder_every [] := F.binds (fun _ _ _ _ _ _ us hl => match us, hl with | [_], _ => rfl)
theorem bd_8 {K : Frag} {f : Addr} {e : FuncData} (F : Fun K "names" "Recorder.names" s_Recorder_names f e) : Binds K e p_Recorder_names [] := F.binds (fun _ _ _ _ _ _ us hl => match us, hl with | [_], _ => rfl)
theorem bd_9 {K : Frag} {f : Addr} {e : FuncData} (F : Fun K "_law_pot" "_law_pot" s_law_pot f e) : Binds K e p_law_pot [] := F.binds (fun _ _ _ _ _ _ us hl => match us, hl with | [_, _], _ => rfl)
theorem bd_10 {K : Frag} {f : Addr} {e : FuncData} (F : Fun K "_law_take" "_law_take" s_law_take f e) : Binds K e p_law_take [] := F.binds (fun _ _ _ _ _ _ us hl => match us, hl with | [_, _], _ => rfl)
theorem bd_11 {K : Frag} {f : Addr} {e : FuncData} (F : Fun K "_law_of" "_law_of" s_law_of f e) : Binds K e p_law_of [] := F.binds (fun _ _ _ _ _ _ us hl => match us, hl with | [_, _], _ => rfl)
theorem bd_12 {K : Frag} {f : Addr} {e : FuncData} (F : Fun K "_law_odd" "_law_odd" s_law_odd f e) : Binds K e p_law_odd [] := F.binds (fun _ _ _ _ _ _ us hl => match us, hl with | [_, _], _ => rfl)
theorem bd_13 {K : Frag} {f : Addr} {e : FuncData} (F : Fun K "_law_made" "_law_made" s_law_made f e) : Binds K e p_law_made [] := F.binds (fun _ _ _ _ _ _ us hl => match us, hl with | [_, _], _ => rfl)
theorem bd_14 {K : Frag} {f : Addr} {e : FuncData} (F : Fun K "_law_bad" "_law_bad" s_law_bad f e) : Binds K e p_law_bad [] := F.binds (fun _ _ _ _ _ _ us hl => match us, hl with | [_], _ => rfl)
theorem bd_15 {K : Frag} {f : Addr} {e : FuncData} (F : Fun K "_law_heard" "_law_heard" s_law_heard f e) : Binds K e p_law_heard [] := F.binds (fun _ _ _ _ _ _ us hl => match us, hl with | [_, _], _ => rfl)
theorem bd_16 {K : Frag} {f : Addr} {e : FuncData} (F : Fun K "_law_right" "_law_right" s_law_right f e) : Binds K e p_law_right [] := F.binds (fun _ _ _ _ _ _ us hl => match us, hl with | [_], _ => rfl)
theorem bd_17 {K : Frag} {f : Addr} {e : FuncData} (F : Fun K "law" "law" s_law f e) : Binds K e p_law [] := F.binds (fun _ _ _ _ _ _ us hl => match us, hl with | [_], _ => rfl)
theorem mkf_0 {K : Frag} {f : Addr} {e : FuncData} (F : FunD K "__init__" "Recorder.__init__" (defArgs s_Recorder_init) (defBody s_Recorder_init) (defScope s_Recorder_init) [] [("level", (.int 1)), ("every", (.int 0)), ("names", (.bl true))] f e) : ∃ g gV, KBn K e p_Recorder_init (0 + 1) mk_0.ks g gV ∧ ∀ (kx : Kx) W H x vs zs us qs, RVs K W H us (vs ++ zs) → vs.length = mk_0.n → zs.length = mk_0.ks.length → fillP mk_0.pm us = some qs → ∃ ys, gV (x :: vs) zs = x :: ys ∧ RVs K W H qs ys := by
  obtain ⟨mv, hK⟩ := F.kbinds0 (ps := p_Recorder_init) 1 mk_0.ks [("every", (.int 0))] (fun us mv ws => us.take 1 ++ ((ws.drop 0).take 1 ++ ((mv.drop 0).take 1 ++ ((ws.drop 1).take 1)))) (by simp) (by decide +kernel) (fun r1 r2 r3 => ((r1.take 1).append (((r3.drop 0).take 1).append (((r2.drop 0).take 1).append ((r3.drop 1).take 1))))) (fun D doc pm an cdv ct us mv ws l1 l2 l3 => match us, l1, mv, l2, ws, l3 with | [_], _, [_], _, [_, _], _ => ⟨_, _, _, _, _, _, rfl, rfl, rfl⟩)
  refine ⟨_, _, hK, ?_⟩
  intro kx W H x vs zs us qs r l1 l2 hf
  match vs, l1, zs, l2, us, r with
  | [], _, [_, _], _, [_, _], .cons r0 (.cons r1 .nil) => cases hf; exact ⟨_, rfl, (.cons r0 (.cons (.int _) (.cons r1 .nil)))⟩
theorem mkf_1 {K : Frag} {f : Addr} {e : FuncData} (F : FunD K "__init__" "Recorder.__init__" (defArgs s_Recorder_init) (defBody s_Recorder_init) (defScope s_Recorder_init) [] [("level", (.int 1)), ("every", (.int 0)), ("names", (.bl true))] f e) : ∃ g gV, KBn K e p_Recorder_init (0 + 1) mk_1.ks g gV ∧ ∀ (kx : Kx) W H x vs zs us qs, RVs K W H us (vs ++ zs) → vs.length = mk_1.n → zs.length = mk_1.ks.length → fillP mk_1.pm us = some qs → ∃ ys, gV (x :: vs) zs = x :: ys ∧ RVs K W H qs ys := by
  obtain ⟨mv, hK⟩ := F.kbinds0 (ps := p_Recorder_init) 1 mk_1.ks [("level", (.int 1)), ("every", (.int 0)), ("names", (.bl true))] (fun us mv ws => us.take 1 ++ ((mv.drop 0).take 1 ++ ((mv.drop 1).take 1 ++ ((mv.drop 2).take 1)))) (by simp) (by decide +kernel) (fun r1 r2 r3 => ((r1.take 1).append (((r2.drop 0).take 1).append (((r2.drop 1).take 1).append ((r2.drop 2).take 1))))) (fun D doc pm an cdv ct us mv ws l1 l2 l3 => match us, l1, mv, l2, ws, l3 with | [_], _, [_, _, _], _, [], _ => ⟨_, _, _, _, _, _, rfl, rfl, ⟨_, _, _, _, _, _, rfl, rfl, ⟨_, _, _, _, _, _, rfl, rfl, rfl⟩⟩⟩)
  refine ⟨_, _, hK, ?_⟩
  intro kx W H x vs zs us qs r l1 l2 hf
  match vs, l1, zs, l2, us, r with
  | [], _, [], _, [], .nil => cases hf; exact ⟨_, rfl, (.cons (.int _) (.cons (.int _) (.cons (.bool _) .nil)))⟩
theorem mkf_2 {K : Frag} {f : Addr} {e : FuncData} (F : FunD K "__init__" "Recorder.__init__" (defArgs s_Recorder_init) (defBody s_Recorder_init) (defScope s_Recorder_init) [] [("level", (.int 1)), ("every", (.int 0)), ("names", (.bl true))] f e) : ∃ g gV, KBn K e p_Recorder_init (0 + 1) mk_2.ks g gV ∧ ∀ (kx : Kx) W H x vs zs us qs, RVs K W H us (vs ++ zs) → vs.length = mk_2.n → zs.length = mk_2.ks.length → fillP mk_2.pm us = some qs → ∃ ys, gV (x :: vs) zs = x :: ys ∧ RVs K W H qs ys := by
  obtain ⟨mv, hK⟩ := F.kbinds0 (ps := p_Recorder_init) 1 mk_2.ks [("level", (.int 1)), ("names", (.bl true))] (fun us mv ws => us.take 1 ++ ((mv.drop 0).take 1 ++ ((ws.drop 0).take 1 ++ ((mv.drop 1).take 1)))) (by simp) (by decide +kernel) (fun r1 r2 r3 => ((r1.take 1).append (((r2.drop 0).take 1).append (((r3.drop 0).take 1).append ((r2.drop 1).take 1))))) (fun D doc pm an cdv ct us mv ws l1 l2 l3 => match us, l1, mv, l2, ws, l3 with | [_], _, [_, _], _, [_], _ => ⟨_, _, _, _, _, _, rfl, rfl, ⟨_, _, _, _, _, _, rfl, rfl, rfl⟩⟩)
  refine ⟨_, _, hK, ?_⟩
  intro kx W H x vs zs us qs r l1 l2 hf
  match vs, l1, zs, l2, us, r with
  | [], _, [_], _, [_], .cons r0 .nil => cases hf; exact ⟨_, rfl, (.cons (.int _) (.cons r0 (.cons (.bool _) .nil)))⟩
theorem mkf_3 {K : Frag} {f : Addr} {e : FuncData} (F : FunD K "__init__" "Recorder.__init__" (defArgs s_Recorder_init) (defBody s_Recorder_init) (defScope s_Recorder_init) [] [("level", (.int 1)), ("every", (.int 0)), ("names", (.bl true))] f e) : ∃ g gV, KBn K e p_Recorder_init (0 + 1) mk_3.ks g gV ∧ ∀ (kx : Kx) W H x vs zs us qs, RVs K W H us (vs ++ zs) → vs.length = mk_3.n → zs.length = mk_3.ks.length → fillP mk_3.pm us = some qs → ∃ ys, gV (x :: vs) zs = x :: ys ∧ RVs K W H qs ys := by
  obtain ⟨mv, hK⟩ := F.kbinds0 (ps := p_Recorder_init) 1 mk_3.ks [] (fun us mv ws => us.take 1 ++ ((ws.drop 1).take 1 ++ ((ws.drop 2).take 1 ++ ((ws.drop 0).take 1)))) (by simp) (by decide +kernel) (fun r1 r2 r3 => ((r1.take 1).append (((r3.drop 1).take 1).append (((r3.drop 2).take 1).append ((r3.drop 0).take 1))))) (fun D doc pm an cdv ct us mv ws l1 l2 l3 => match us, l1, mv, l2, ws, l3 with | [_], _, [], _, [_, _, _], _ => rfl)
  refine ⟨_, _, hK, ?_⟩
  intro kx W H x vs zs us qs r l1 l2 hf
  match vs, l1, zs, l2, us, r with
  | [], _, [_, _, _], _, [_, _, _], .cons r0 (.cons r1 (.cons r2 .nil)) => cases hf; exact ⟨_, rfl, (.cons r1 (.cons r2 (.cons r0 .nil)))⟩
theorem all_mk {w : World} {K : Frag} {h : Heap} {mg : Str → Option Value} {fa : Addr} {a0 a1 a100 f0 f1 f2 f3 f4 f5 f6 f7 f8 f9 f10 f11 f12 f13 f14 f15 f16 f17 fI : Addr} {e0 e1 e2 e3 e4 e5 e6 e7 e8 e9 e10 e11 e12 e13 e14 e15 e16 e17 eI : FuncData} (X : K.In h) (G : h.Ns mainGlobals mg) (hfa : mg "law" = some (.ref fa))
    (q_c0 : PySem.W.nsIn K mainGlobals "LogError" = some (some (.ref a0)))
    (q_c1 : PySem.W.nsIn K mainGlobals "BadRecorder" = some (some (.ref a1)))
    (q_c100 : PySem.W.nsIn K mainGlobals "Recorder" = some (some (.ref a100)))
    (q_d0 : (PySem.W.nsIn K mainGlobals "is_integer" = some (some (.ref f0))) ∧ Fun K "is_integer" "is_integer" s_is_integer f0 e0)
    (q_d1 : (PySem.W.nsIn K mainGlobals "is_between" = some (some (.ref f1))) ∧ Fun K "is_between" "is_between" s_is_between f1 e1)
    (q_d2 : (PySem.W.nsIn K mainGlobals "is_truth" = some (some (.ref f2))) ∧ Fun K "is_truth" "is_truth" s_is_truth f2 e2)
    (q_d3 : (PySem.W.findIn K (.ref a100) "__init__" = some (some (.ref f3))) ∧ FunD K "__init__" "Recorder.__init__" (defArgs s_Recorder_init) (defBody s_Recorder_init) (defScope s_Recorder_init) [] [("level", (.int 1)), ("every", (.int 0)), ("names", (.bl true))] f3 e3)
    (q_d4 : (PySem.W.findIn K (.ref a100) "__eq__" = some (some (.ref f4))) ∧ Fun K "__eq__" "Recorder.__eq__" s_Recorder_eq f4 e4)
    (q_d5 : (PySem.W.findIn K (.ref a100) "all_three" = some (some (.ref f5))) ∧ Fun K "all_three" "Recorder.all_three" s_Recorder_all_three f5 e5)
    (q_d6 : (∃ pp rest, PySem.W.findIn K (.ref a100) "level" = some (some (.ref pp)) ∧ PySem.W.recIn K pp "property" = some (.ref f6 :: rest)) ∧ Fun K "level" "Recorder.level" s_Recorder_level f6 e6)
    (q_d7 : (∃ pp rest, PySem.W.findIn K (.ref a100) "every" = some (some (.ref pp)) ∧ PySem.W.recIn K pp "property" = some (.ref f7 :: rest)) ∧ Fun K "every" "Recorder.every" s_Recorder_every f7 e7)
    (q_d8 : (∃ pp rest, PySem.W.findIn K (.ref a100) "names" = some (some (.ref pp)) ∧ PySem.W.recIn K pp "property" = some (.ref f8 :: rest)) ∧ Fun K "names" "Recorder.names" s_Recorder_names f8 e8)
    (q_d9 : (PySem.W.nsIn K mainGlobals "_law_pot" = some (some (.ref f9))) ∧ Fun K "_law_pot" "_law_pot" s_law_pot f9 e9)
    (q_d10 : (PySem.W.nsIn K mainGlobals "_law_take" = some (some (.ref f10))) ∧ Fun K "_law_take" "_law_take" s_law_take f10 e10)
    (q_d11 : (PySem.W.nsIn K mainGlobals "_law_of" = some (some (.ref f11))) ∧ Fun K "_law_of" "_law_of" s_law_of f11 e11)
    (q_d12 : (PySem.W.nsIn K mainGlobals "_law_odd" = some (some (.ref f12))) ∧ Fun K "_law_odd" "_law_odd" s_law_odd f12 e12)
    (q_d13 : (PySem.W.nsIn K mainGlobals "_law_made" = some (some (.ref f13))) ∧ Fun K "_law_made" "_law_made" s_law_made f13 e13)
    (q_d14 : (PySem.W.nsIn K mainGlobals "_law_bad" = some (some (.ref f14))) ∧ Fun K "_law_bad" "_law_bad" s_law_bad f14 e14)
    (q_d15 : (PySem.W.nsIn K mainGlobals "_law_heard" = some (some (.ref f15))) ∧ Fun K "_law_heard" "_law_heard" s_law_heard f15 e15)
    (q_d16 : (PySem.W.nsIn K mainGlobals "_law_right" = some (some (.ref f16))) ∧ Fun K "_law_right" "_law_right" s_law_right f16 e16)
    (q_d17 : (PySem.W.nsIn K mainGlobals "law" = some (some (.ref f17))) ∧ Fun K "law" "law" s_law f17 e17)
    (q_lg : PySem.W.findIn K (.ref a0) "__init__" = some (some (.ref fI)) ∧ LogAt PySem.Challenge.rw_loggedruns_k11_recorders_of_any_value.prog K s_LE fI a0 eI)
    (q_su : PySem.W.nsIn K mainGlobals "super" = some none)
    (q_op : PySem.W.nsIn K cStatics "thirdparty.any" = some none)
    (q_x0 : ExcO K a0)
    (q_x1 : ExcO K a1)
    (q_ra : (cls.all fun p => !decide (p.2 < 100) || raiB K a0 fI ((lay a0 a1 a100 f0 f1 f2 f3 f4 f5 f6 f7 f8 f9 f10 f11 f12 f13 f14 f15 f16 f17 e0 e1 e2 e3 e4 e5 e6 e7 e8 e9 e10 e11 e12 e13 e14 e15 e16 e17).cl p.2)) = true)
    (q_hc : ∀ kx : Kx, AllC K gl)
    (q_hn : AllN K bl)
    (q_hk : ∀ kx : Kx, AllK K w kdT)
    (q_st : statB K (lay a0 a1 a100 f0 f1 f2 f3 f4 f5 f6 f7 f8 f9 f10 f11 f12 f13 f14 f15 f16 f17 e0 e1 e2 e3 e4 e5 e6 e7 e8 e9 e10 e11 e12 e13 e14 e15 e16 e17) (cc [] []) = true) :
    ∃ (kx : Kx) (fd : FuncData), (∀ (s : Shared) (u : Value), BindsTo s fd ⟨[u], []⟩ [("_law_script", u)]) ∧ ∀ base : Heap, K.In base → base.Ns mainGlobals mg → FnG PySem.Challenge.rw_loggedruns_k11_recorders_of_any_value.prog w K mg base 15 fa fd ["_law_script"] (spG K kx.cl 1 fs_law) := by
  have e : f17 = fa := by
    have z := (PySem.W.mg_of X G q_d17.1).symm.trans hfa
    injection z with z
    injection z
  subst e
  have aF : AllF K tab (lay a0 a1 a100 f0 f1 f2 f3 f4 f5 f6 f7 f8 f9 f10 f11 f12 f13 f14 f15 f16 f17 e0 e1 e2 e3 e4 e5 e6 e7 e8 e9 e10 e11 e12 e13 e14 e15 e16 e17).fas := ⟨⟨q_d0.2, rfl⟩, ⟨q_d1.2, rfl⟩, ⟨q_d2.2, rfl⟩, ⟨(fun_of q_d3.2), rfl⟩, ⟨q_d4.2, rfl⟩, ⟨q_d5.2, rfl⟩, ⟨q_d6.2, rfl⟩, ⟨q_d7.2, rfl⟩, ⟨q_d8.2, rfl⟩, ⟨q_d9.2, rfl⟩, ⟨q_d10.2, rfl⟩, ⟨q_d11.2, rfl⟩, ⟨q_d12.2, rfl⟩, ⟨q_d13.2, rfl⟩, ⟨q_d14.2, rfl⟩, ⟨q_d15.2, rfl⟩, ⟨q_d16.2, rfl⟩, ⟨q_d17.2, rfl⟩, trivial⟩
  have bs : ∀ j, bidx.contains j = true → Binds K ((lay a0 a1 a100 f0 f1 f2 f3 f4 f5 f6 f7 f8 f9 f10 f11 f12 f13 f14 f15 f16 f17 e0 e1 e2 e3 e4 e5 e6 e7 e8 e9 e10 e11 e12 e13 e14 e15 e16 e17).fd j) ((lay a0 a1 a100 f0 f1 f2 f3 f4 f5 f6 f7 f8 f9 f10 f11 f12 f13 f14 f15 f16 f17 e0 e1 e2 e3 e4 e5 e6 e7 e8 e9 e10 e11 e12 e13 e14 e15 e16 e17).ps j) [] := contains_get (B := fun j => Binds K ((lay a0 a1 a100 f0 f1 f2 f3 f4 f5 f6 f7 f8 f9 f10 f11 f12 f13 f14 f15 f16 f17 e0 e1 e2 e3 e4 e5 e6 e7 e8 e9 e10 e11 e12 e13 e14 e15 e16 e17).fd j) ((lay a0 a1 a100 f0 f1 f2 f3 f4 f5 f6 f7 f8 f9 f10 f11 f12 f13 f14 f15 f16 f17 e0 e1 e2 e3 e4 e5 e6 e7 e8 e9 e10 e11 e12 e13 e14 e15 e16 e17).ps j) []) ⟨bd_0 q_d0.2, bd_1 q_d1.2, bd_2 q_d2.2, bd_4 q_d4.2, bd_5 q_d5.2, bd_6 q_d6.2, bd_7 q_d7.2, bd_8 q_d8.2, bd_9 q_d9.2, bd_10 q_d10.2, bd_11 q_d11.2, bd_12 q_d12.2, bd_13 q_d13.2, bd_14 q_d14.2, bd_15 q_d15.2, bd_16 q_d16.2, bd_17 q_d17.2, trivial⟩
  have ho : ∀ p ∈ cls, p.2 < 100 → ExcO K ((lay a0 a1 a100 f0 f1 f2 f3 f4 f5 f6 f7 f8 f9 f10 f11 f12 f13 f14 f15 f16 f17 e0 e1 e2 e3 e4 e5 e6 e7 e8 e9 e10 e11 e12 e13 e14 e15 e16 e17).cl p.2) := AllP.get (P := fun p : Str × Nat => p.2 < 100 → ExcO K ((lay a0 a1 a100 f0 f1 f2 f3 f4 f5 f6 f7 f8 f9 f10 f11 f12 f13 f14 f15 f16 f17 e0 e1 e2 e3 e4 e5 e6 e7 e8 e9 e10 e11 e12 e13 e14 e15 e16 e17).cl p.2)) ⟨fun _ => q_x0, fun _ => q_x1, fun z => absurd z (by decide), trivial⟩
  refine ⟨(lay a0 a1 a100 f0 f1 f2 f3 f4 f5 f6 f7 f8 f9 f10 f11 f12 f13 f14 f15 f16 f17 e0 e1 e2 e3 e4 e5 e6 e7 e8 e9 e10 e11 e12 e13 e14 e15 e16 e17).kx, e17, fun s u => ?_, fun base _ _ => ?_⟩
  · have F := q_d17.2
    obtain ⟨oc, od, kV, doc, pm, an, cdv, ct, osl, rfl, lk, hcd⟩ := F.ex
    exact .of_eq rfl
  · letI := (lay a0 a1 a100 f0 f1 f2 f3 f4 f5 f6 f7 f8 f9 f10 f11 f12 f13 f14 f15 f16 f17 e0 e1 e2 e3 e4 e5 e6 e7 e8 e9 e10 e11 e12 e13 e14 e15 e16 e17).kx
    have hS : ∀ N ns, Stat PySem.Challenge.rw_loggedruns_k11_recorders_of_any_value.prog w K mg base (cc N ns) := fun N ns => stat_of (L := lay a0 a1 a100 f0 f1 f2 f3 f4 f5 f6 f7 f8 f9 f10 f11 f12 f13 f14 f15 f16 f17 e0 e1 e2 e3 e4 e5 e6 e7 e8 e9 e10 e11 e12 e13 e14 e15 e16 e17) (c := cc N ns) (bi := bidx) X G q_st (q_hc _) q_hn (q_hk _) bs bidx_ok (rai_all (cs := cls) X G q_lg.2 log_text q_su q_op q_ra ho)
      (AllP.get (P := fun i : MkI => ∃ g gV, KBn K ((lay a0 a1 a100 f0 f1 f2 f3 f4 f5 f6 f7 f8 f9 f10 f11 f12 f13 f14 f15 f16 f17 e0 e1 e2 e3 e4 e5 e6 e7 e8 e9 e10 e11 e12 e13 e14 e15 e16 e17).fd i.f) ((lay a0 a1 a100 f0 f1 f2 f3 f4 f5 f6 f7 f8 f9 f10 f11 f12 f13 f14 f15 f16 f17 e0 e1 e2 e3 e4 e5 e6 e7 e8 e9 e10 e11 e12 e13 e14 e15 e16 e17).ps i.f) (i.n + 1) i.ks g gV ∧ ∀ W H x vs zs us qs, RVs K W H us (vs ++ zs) → vs.length = i.n → zs.length = i.ks.length → fillP i.pm us = some qs → ∃ ys, gV (x :: vs) zs = x :: ys ∧ RVs K W H qs ys) ⟨by obtain ⟨g, gV, k1, k2⟩ := mkf_0 q_d3.2; exact ⟨g, gV, k1, k2 _⟩, by obtain ⟨g, gV, k1, k2⟩ := mkf_1 q_d3.2; exact ⟨g, gV, k1, k2 _⟩, by obtain ⟨g, gV, k1, k2⟩ := mkf_2 q_d3.2; exact ⟨g, gV, k1, k2 _⟩, by obtain ⟨g, gV, k1, k2⟩ := mkf_3 q_d3.2; exact ⟨g, gV, k1, k2 _⟩, trivial⟩)
    exact stage (fun _ _ => ⟨rfl, rfl⟩) hS (aF.get (cas := [(0, a0), (1, a1), (100, a100)])) allG.get (fun d hd => view_of ((List.all_eq_true.mp views) d hd)) outs.get 6 d_17 (List.mem_of_getElem? (i := 17) rfl) rfl
theorem walk {q : Program} {loose : List Str} {XP : (Str → Option Value) → Heap → Prop} {YP : World → Heap → Prop} {d : DefRec} {K : Params → Frag} (hdf : d.params.defaults = [])
    (hY : ∀ (w : World) (h : Heap), YP w h → (K w.params).In h)
    (F : ∀ (w : World) (mg : Str → Option Value) (fa : Addr) (h : Heap), (K w.params).In h → h.Ns mainGlobals mg → mg d.name = some (.ref fa) → ∃ (kx : Kx) (fd : FuncData), (∀ (s : Shared) (u : Value), BindsTo s fd ⟨[u], []⟩ [("_law_script", u)]) ∧
      ∀ base : Heap, (K w.params).In base → base.Ns mainGlobals mg → FnG PySem.Challenge.rw_loggedruns_k11_recorders_of_any_value.prog w (K w.params) mg base 15 fa fd ["_law_script"] (spG (K w.params) kx.cl 1 fs_law)) :
    PySem.W.WalkO q loose XP YP PySem.Challenge.rw_loggedruns_k11_recorders_of_any_value.row.toRowW d [] (fun f vs => PySem.call f vs) :=
  walkG (l := PySem.Challenge.rw_loggedruns_k11_recorders_of_any_value) (n := 63) rfl (by decide) hdf ⟨rfl, by decide, by decide⟩ hY F fun ns hl => ⟨ns, by omega, rfl, fun _ => rfl⟩
end LR

open PySem PySem.W PyProof.Rows
set_option maxRecDepth 100000 in
set_option maxHeartbeats 0 in
theorem PySem.Challenge.cw_loggedruns_k11_recorders_of_any_value_holds : PySem.Challenge.rw_loggedruns_k11_recorders_of_any_value.Holds := by
  w_on; o_law; k_head; (case hw => w_witness2)
  k_fill
  refine LR.walk rfl (fun w h Y => PySem.W.kIn_of Y) ?qF
  case qF =>
    intro w mg fa h KX G hmg
    apply LR.all_mk KX G hmg
    case q_c0 => k_is
    case q_c1 => k_is
    case q_c100 => k_is
    case q_d0 => (refine ⟨?_, ?_⟩; (· k_is); (· (apply L2.fun_mk; (· k_is); (· k_is); (· k_is))))
    case q_d1 => (refine ⟨?_, ?_⟩; (· k_is); (· (apply L2.fun_mk; (· k_is); (· k_is); (· k_is))))
    case q_d2 => (refine ⟨?_, ?_⟩; (· k_is); (· (apply L2.fun_mk; (· k_is); (· k_is); (· k_is))))
    case q_d3 => (refine ⟨?_, ?_⟩; (· k_is); (· (apply Dy.funD_mk; (· k_is); (· k_is); (· k_is); (· (apply Dy.kws_cons; (· k_is); (· exact ⟨_, rfl⟩); (· (apply Dy.kws_cons; (· k_is); (· exact ⟨_, rfl⟩); (· (apply Dy.kws_cons; (· k_is); (· rfl); (· exact trivial))))))))))
    case q_d4 => (refine ⟨?_, ?_⟩; (· k_is); (· (apply L2.fun_mk; (· k_is); (· k_is); (· k_is))))
    case q_d5 => (refine ⟨?_, ?_⟩; (· k_is); (· (apply L2.fun_mk; (· k_is); (· k_is); (· k_is))))
    case q_d6 => (refine ⟨?_, ?_⟩; (· (apply Dy.prop_loc; (· k_is); (· k_is))); (· (apply L2.fun_mk; (· k_is); (· k_is); (· k_is))))
    case q_d7 => (refine ⟨?_, ?_⟩; (· (apply Dy.prop_loc; (· k_is); (· k_is))); (· (apply L2.fun_mk; (· k_is); (· k_is); (· k_is))))
    case q_d8 => (refine ⟨?_, ?_⟩; (· (apply Dy.prop_loc; (· k_is); (· k_is))); (· (apply L2.fun_mk; (· k_is); (· k_is); (· k_is))))
    case q_d9 => (refine ⟨?_, ?_⟩; (· k_is); (· (apply L2.fun_mk; (· k_is); (· k_is); (· k_is))))
    case q_d10 => (refine ⟨?_, ?_⟩; (· k_is); (· (apply L2.fun_mk; (· k_is); (· k_is); (· k_is))))
    case q_d11 => (refine ⟨?_, ?_⟩; (· k_is); (· (apply L2.fun_mk; (· k_is); (· k_is); (· k_is))))
    case q_d12 => (refine ⟨?_, ?_⟩; (· k_is); (· (apply L2.fun_mk; (· k_is); (· k_is); (· k_is))))
    case q_d13 => (refine ⟨?_, ?_⟩; (· k_is); (· (apply L2.fun_mk; (· k_is); (· k_is); (· k_is))))
    case q_d14 => (refine ⟨?_, ?_⟩; (· k_is); (· (apply L2.fun_mk; (· k_is); (· k_is); (· k_is))))
    case q_d15 => (refine ⟨?_, ?_⟩; (· k_is); (· (apply L2.fun_mk; (· k_is); (· k_is); (· k_is))))
    case q_d16 => (refine ⟨?_, ?_⟩; (· k_is); (· (apply L2.fun_mk; (· k_is); (· k_is); (· k_is))))
    case q_d17 => (refine ⟨?_, ?_⟩; (· k_is); (· (apply L2.fun_mk; (· k_is); (· k_is); (· k_is))))
    case q_lg => (refine ⟨?_, ?_⟩; (· k_is); (· (apply Dy.logAt; (· k_is); (· k_is); (· k_is); (· rfl); (· decide +kernel); (· k_is); (· k_is))))
    case q_su => k_is
    case q_op => k_is
    case q_x0 => (apply Dy.excO; (· k_is); (· decide +kernel))
    case q_x1 => (apply Dy.excO; (· k_is); (· decide +kernel))
    case q_ra => kernel_rfl
    case q_hc =>
      intro kx
      refine ⟨?qc_0, ?qc_1, trivial⟩
      case qc_0 => (apply Dy.hasCV; (· k_is); (· (apply Dy.hasVI; decide +kernel)))
      case qc_1 => (apply Dy.hasCV; (· k_is); (· (apply Dy.hasVI; decide +kernel)))
    case q_hn =>
      refine ⟨?qz_0, ?qz_1, ?qz_2, ?qz_3, ?qz_4, ?qz_5, ?qz_6, ?qz_7, ?qz_8, ?qz_9, ?qz_10, ?qz_11, ?qz_12, ?qz_13, ?qz_14, trivial⟩
      case qz_0 => k_is
      case qz_1 => k_is
      case qz_2 => k_is
      case qz_3 => k_is
      case qz_4 => k_is
      case qz_5 => k_is
      case qz_6 => k_is
      case qz_7 => k_is
      case qz_8 => k_is
      case qz_9 => k_is
      case qz_10 => k_is
      case qz_11 => k_is
      case qz_12 => k_is
      case qz_13 => k_is
      case qz_14 => k_is
    case q_hk => exact fun _ => trivial
    case q_st => kernel_rfl
