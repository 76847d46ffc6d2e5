import PyProof.Rows.All
import Wide.All
import OpenK.AllK
import Wide.FinOn
import KE.KExcSuper
import HandS.ForMost
import HandS.ForExc
import HandS.ExcInit
import HandS.Nested
import HandS.ExcField
import HandS.ExcIs
import KE.KIsAll
import KE.KTryMore
import HandS.HotCalls
import KE.KSuper
import HandS.Defaults
import HandS.HeadEnd
import HandS.HeadHook1
import HandS.HeadHook2
import HandS.Wide
import HandS.Evl
import HandS.EndBits
import HandS.Style
import HandS.Head0
import HandS.Head1
import HandS.Head2
import PySem.Challenge.RW_openrings_k00_errors_made_from_their_fie
set_option Elab.async false
set_option linter.all false
set_option maxRecDepth 100000
set_option maxHeartbeats 4000000
/-! E1: the __init__ of an own error class over ValueError (through further own classes) that begins with super().__init__(a text). -/
namespace OR
open PySem PySem.Calls PySem.Spec PyProof.Rows L2 NdefX
/-- the statement super().__init__('..') -/
abbrev superSt (msg : Str) (p0 p1 p2 p3 p4 p5 : Pos) : Stmt :=
  .Expr (.Call (.Attribute (.Call (.Name "super" p0) [] [] p1) "__init__" p2) [.Constant (.str msg) 0 p3] [] p4) p5
section
open PySem.W
variable {prog : Program} {w : World} {A : Around} {E : Value → Shared → Prop} {h : Heap} {g : Array GenState} {d : Drawn} {t : Nat} {os : OsState}
variable {nm q : Str} {C N : Addr} {bs bm : List Value} {hdct : Bool} {sn : List Str} {sub : List Value} {ab : Bool} {col : Option Bool} {dd : Option Addr} {k0 k1 k2 k3 k5 : Option Value}
/-- the bound ValueError.__init__ at u is called -/
theorem call_mw {u e t0 : Addr} {rest : List Value} {Q : Value → Shared → Prop}
    (hC : h.get? C = some (excClassObj nm q C N bs bm hdct sn sub ab col dd k0 k1 k2 k3 k5 "ValueError.__new__")) (he : h.get? e = some (PySem.HandSPX.excO C t0)) (hu : h.get? u = some (kxs_mw "ValueError.__init__" e)) (hr : rest.length ≤ sizeLine)
    (hq : ∀ h' t1, (∀ b o, b ≠ e → h.get? b = some o → h'.get? b = some o) → h'.get? e = some (PySem.HandSPX.excO C t1) → Q .none ⟨h', g, d, t, os⟩) :
    wpAny (model prog w) A (call (.ref u) rest) Q E ⟨h, g, d, t, os⟩ := by
  have FB := F.excBase_ValueError
  refine wpAny_call (codeAny_of_tree ?_)
  show wpAny _ A.in1 (callAny (.ref u) ⟨rest, []⟩) _ _ _
  simp only [callAny]
  refine wpAny_bind (wpAny_load hu ?_)
  simp only [kxs_mw, show (Value.type "method-wrapper" == Value.type "method" || Value.type "method-wrapper" == Value.type "builtin_function_or_method" || Value.type "method-wrapper" == Value.type "method-wrapper") = true by decide, if_true]
  refine KFB.if_so (by decide) ?_
  refine wpAny_bind (check_bound_init FB.toExcCallFacts hC he rfl ?_)
  refine wpAny_bind (wpAny_pure (wpAny_pure ?_))
  refine ⟨plainId_quiet FB.init.plain _, codeAny_builtin FB.initEntry ?_⟩
  exact exc_init_tree (cls := .ref C) (t0 := t0) (dv := none) (c2 := .none) (c3 := .none) (b4 := .bool false) he hr fun h' k e' _ => hq h' _ k e'
end
/-- what the written part says of an error class at C, its __init__ at f, that one's code object at cda, the cell of __class__ at cc -/
structure SupC (P : Program) (K : PySem.W.Frag) (mg : Str → Option Value) (C cc cda : Addr) : Prop where
  T : OexC K C
  cell : ∃ cl cld csl, K.lookup cc = some (⟨cl, cld, .cell (some (.ref C)), csl⟩ : Obj)
  code : ∃ ccl cdd vs ccs file tf, K.lookup cda = some (⟨ccl, cdd, .fields vs, ccs⟩ : Obj) ∧ vs[2]? = some (.str file tf) ∧ ((P.main.file : Str) == file) = true
  sup : mg "super" = none
  opq : PySem.W.nsIn K PySem.cStatics "thirdparty.any" = some none
  ini : PySem.W.ks_superIn K C C "__init__" = some (some (.builtin "ValueError.__init__"))
  isV : PySem.W.subIn K (.ref C) (.type "ValueError") = some true
  isC : PySem.W.mroIn K C (.ref C) = some true
  top : (P.main.scope.names.lookup ("super" : Str)).isSome = false
section
variable {P : Program} {w : World} {K : PySem.W.Frag} {mg : Str → Option Value} {base : Heap} {k : Nat} {f C cc cda : Addr} {qual msg : Str} {params : Arguments} {scope : Scope} {rest : List Stmt} {N ps : List Str} {sp : Sp}
  {oc doc pm ct : Value} {od : Option Addr} {osl : Array (Option Value)} {p0 p1 p2 p3 p4 p5 : Pos} {ar : Arg}
theorem init_super
    (lk : K.lookup f = some ⟨oc, od, .func (PySem.W.fnX "__init__" qual params (superSt msg p0 p1 p2 p3 p4 p5 :: rest) scope [("__class__", cc)] .none .none doc pm none (.ref cda) ct), osl⟩)
    (hcd : PySem.W.codeIn K (.ref cda) qual = true) (S : NScope N ps ["__class__"] scope) (U : SupC P K mg C cc cda)
    (hp : (params.posonlyargs ++ params.args).head? = some ar) (har : ps[0]? = some ar.arg) (hks : scope.names.lookup ("super" : Str) = some .globalImplicit)
    (hev : ∀ env : Env, ∃ pl : Sem Bool, eval (.Call (.Attribute (.Call (.Name "super" p0) [] [] p1) "__init__" p2) [.Constant (.str msg) 0 p3] [] p4) env = (do
        let ov ← attributeBase (.Call (.Name "super" p0) [] [] p1) "__init__" env (eval (.Call (.Name "super" p0) [] [] p1) env)
        standAt p2.atName
        let (f, first) ← holding [ov] (getMethod ov "__init__" pl)
        callWith p4 f first (backTo p4 (starEach [.Constant (.str msg) 0 p3] env)) []))
    (len : ∀ vs H Q E, sp vs H Q E → vs.length = ps.length) (hsp : ∀ vs H Q E, sp vs H Q E → ∃ (a : Addr) (r : List V), vs = .ref a :: r ∧ H a = some (exo a C none))
    (hbody : ∀ (A : Around) (outer : List Env) (s : Shared) (H : Hp) (vs : List V) (Q : VK) (E : XK), sp vs H Q E →
      ∃ t, PSs (ncx CX0 P w K mg base N ⟨"__init__", qual, params, superSt msg p0 p1 p2 p3 p4 p5 :: rest, scope, [("__class__", cc)], cda⟩ f A outer s H E) rest t ∧ t { nx := fun _ H' => Q .non H', rt := Q } (startF N vs [some (.ref C)]) H) :
    FnOk P w K mg base CX0 (k + 1) f (PySem.W.fnX "__init__" qual params (superSt msg p0 p1 p2 p3 p4 p5 :: rest) scope [("__class__", cc)] .none .none doc pm none (.ref cda) ct) ps sp := by
  refine ⟨len, fun A outer s H args us vs Q E hr e0 hbnd r hs => ?_⟩
  have hl := len _ _ _ _ hs
  have KX : K.In s.heap := e0.mod.kin.keeps fun b o e => (e0.bs b o e).1
  have lim : s.heap.NoLimit := e0.mod.nolimit.keeps fun b o e => (e0.bs b o e).1
  have hkc : scope.names.lookup ("__class__" : Str) = some .free := S.frk _ (by simp)
  obtain ⟨cl, cld, csl, hcell⟩ := U.cell
  obtain ⟨ccl, cdd, vsc, ccs, file, tf, hcode, hvs, hfile⟩ := U.code
  have T := U.T
  obtain ⟨a, r0, rfl, ha⟩ := hsp _ _ _ _ hs
  have CA : CellsAt [("__class__", cc)] ["__class__"] [some (.ref C)] s.heap H := by
    have hb := e0.mod.kin _ _ hcell
    refine ⟨rfl, fun y c e => ?_, fun x y c e1 e2 => ?_, fun i y e => ?_⟩
    · have q : y = "__class__" ∧ c = cc := by
        have m := PySem.mem_of_lookup e
        simp at m
        exact m
      rw [q.2]
      exact ⟨(e0.bs _ _ hb).2, _, ⟨_, (e0.bs _ _ hb).1, rfl⟩⟩
    · have m1 := PySem.mem_of_lookup e1
      have m2 := PySem.mem_of_lookup e2
      simp at m1 m2
      rw [m1.1, m2.1]
    · match i, e with
      | 0, e =>
        simp at e
        subst e
        refine ⟨cc, rfl, fun v ev => ?_⟩
        simp at ev
        subst ev
        exact ⟨.ref C, rfl, ⟨_, (e0.bs _ _ hb).1, rfl⟩⟩
      | i + 1, e => simp at e
  refine ks_codeAny_call_defAt (body := superSt msg p0 p1 p2 p3 p4 p5 :: rest) (binds := ps.zip us) hr.depth (KX _ _ lk) rfl lim (PySem.W.codeRec_of KX hcd) rfl hbnd S.nocell (fun ⟨n, _⟩ hy => S.par n (List.of_mem_zip hy).1) (fun h₁ hns kp => ?_) S.co S.gen S.kind
  obtain ⟨t, ht, hq⟩ := hbody A outer s H _ Q E hs
  have I : Inv (ncx CX0 P w K mg base N ⟨"__init__", qual, params, superSt msg p0 p1 p2 p3 p4 p5 :: rest, scope, [("__class__", cc)], cda⟩ f A outer s H E) [] (startF N (.ref a :: r0) [some (.ref C)]) H { s with heap := h₁, toks := s.toks + (ps.zip us).length } :=
    inv_startN (F := ⟨"__init__", qual, params, superSt msg p0 p1 p2 p3 p4 p5 :: rest, scope, [("__class__", cc)], cda⟩) S hr.hd e0 hl r CA hns kp
  have X₁ : K.In h₁ := KX.keeps kp
  obtain ⟨t0, hoe⟩ := exo_at I.hok ha
  obtain ⟨nm, q, Nn, bs, bm, sn, sub, ab, col, dd, k0, k1, k2, k3, k5, hC, hbm⟩ := T.cls
  have hC₁ := X₁ _ _ hC
  have hself : (ps.zip us).reverse.lookup ar.arg = some (.ref a) := by
    cases r with
    | @cons _ u0 _ ur ra rr =>
      obtain rfl : u0 = Value.ref a := ra
      have ndP : ps.Nodup := by
        have z := S.nd.sublist (List.take_sublist (ps.length + 1) N)
        have z2 : List.take (ps.length + 1) N = ps ++ [("__class__" : Str)] := S.pre
        rw [z2] at z
        exact (List.nodup_append.mp z).1
      exact zip_look ndP har rfl
  have hka : scope.names.lookup ar.arg = some .local := S.par _ (List.mem_of_getElem? har)
  obtain ⟨pl, hpl⟩ := hev (envF ⟨"__init__", qual, params, superSt msg p0 p1 p2 p3 p4 p5 :: rest, scope, [("__class__", cc)], cda⟩ f s.heap.objs.size)
  refine ks_wpAt_execs_cons (ks_wpAt_Expr_any (ks_wpAt_MethodCall ?_ hpl) I.quiet)
  obtain ⟨mb, hmb, hbt⟩ := e0.mod.blt
  have kb : ∀ b o, base.get? b = some o → h₁.get? b = some o := fun b o e => kp b o (e0.bs b o e).1
  refine ks_wpAt_super_base (env := envF ⟨"__init__", qual, params, superSt msg p0 p1 p2 p3 p4 p5 :: rest, scope, [("__class__", cc)], cda⟩ f s.heap.objs.size) hks hkc rfl rfl (X₁ _ _ lk) rfl hp rfl (X₁ _ _ hcode) rfl hvs hfile U.top ?_
  refine PySem.W.ks_loadName_global S.kind hks (loadGlobal_builtin (e0.mod.glob.keeps kb) U.sup (hmb.keeps kb) ((hbt _ (by decide)).trans (by first | rfl | decide +kernel | kernel_rfl)) ⟨rfl, ?_⟩)
  refine wpAny_loadName_free S.kind hkc rfl ⟨_, X₁ _ _ hcell, rfl⟩ ?_
  refine wpAny_loadName_local S.kind hka hns hself ?_
  refine ks_wpAny_isType_cls hC₁ rfl ⟨rfl, ?_⟩
  refine ks_wpAny_call_super hC₁ rfl hoe rfl (fun c e => by cases e) (PySem.W.looks_mroIn X₁ U.isC) (fun h2 e2 kk2 => ?_)
  have X₂ : K.In h2 := X₁.keeps kk2
  have hne : a ≠ C := fun z => by
    subst z
    have z2 := hoe.symm.trans hC₁
    cases z2
  have hni : ∃ cd, PySem.W.clsIn K C = some cd ∧ PySem.W.alongIn K "__init__" ((cd.mro.dropWhile (· != .ref C)).drop 1) = some (some (.builtin "ValueError.__init__")) := by
    have z := U.ini
    unfold PySem.W.ks_superIn at z
    cases hc : PySem.W.clsIn K C with
    | none => rw [hc] at z; cases z
    | some cd => rw [hc] at z; exact ⟨cd, rfl, z⟩
  obtain ⟨cd, hc, hm⟩ := hni
  have IA : PySem.W.InstAt h2 a (PySem.HandSPX.excO C t0) C none := ⟨kk2 _ _ hoe, rfl, rfl, trivial⟩
  refine PySem.W.kxs_getMethod PySem.W.kxs_ValueError e2 (PySem.W.looks_opaque X₂ U.opq) (l₀ := cd.mro) (fun A Q E s k q => wpAny_bind ((PySem.W.looks_clsIn X₂ hc) A _ E s k (wpAny_pure q))) rfl X₂ hm (IA.type.andThen (PySem.W.looks_subIn X₂ U.isV)) hne rfl ?_
  have I2 := I.kept (t' := s.toks + (ps.zip us).length) kk2
  have I3 := I2.kept (h' := h2.push (PySem.W.kxs_mw "ValueError.__init__" a)) (t' := s.toks + (ps.zip us).length + 1) fun b o e => Heap.get?_push_of_some _ e
  have I4 := I3.pins_of (pins' := [(h2.objs.size, PySem.W.kxs_mw "ValueError.__init__" a)]) fun p hp => by
    have z : p = (h2.objs.size, PySem.W.kxs_mw "ValueError.__init__" a) := by simpa using hp
    subst z
    exact ⟨Heap.get?_push_size _ rfl, I2.hok.fresh (Nat.le_refl _), Nat.ne_of_gt I2.lt, I2.nofs (Nat.le_refl _), fun v z => by cases z⟩
  refine PySem.W.kxs_callWith (i := "ValueError.__init__") (x := a) rfl (evalArgs_plain ?_)
  refine thn ((pa_cons (X := ncx CX0 P w K mg base N ⟨"__init__", qual, params, superSt msg p0 p1 p2 p3 p4 p5 :: rest, scope, [("__class__", cc)], cda⟩ f A outer s H E) (pe_str (x := msg) (j := 0) (pos := p3)) pa_nil).run p4 _ _ _ _ (fun vs H1 => vs = [.str msg] ∧ H1 = H) I4 ⟨rfl, rfl⟩) fun us2 s1 ⟨vs2, H1, I5, r5, hv5, hH5⟩ => ?_
  subst hH5
  have hpin := (I5.pin (h2.objs.size, PySem.W.kxs_mw "ValueError.__init__" a) (List.mem_append_right _ (by simp))).1
  refine ⟨hpin, ?_⟩
  obtain ⟨t5, hoe5⟩ := exo_at I5.hok ha
  obtain ⟨hp5, g5, d5, tk5, os5⟩ := s1
  have hlen : us2.length ≤ sizeLine := by
    rw [← Paired.length r5, hv5, sizeLine_eq]
    exact (by decide : 1 ≤ 16777216)
  refine call_mw (I5.kIn _ _ hC) hoe5 hpin hlen fun h6 t6 k6 hx6 => ?_
  have J := (I5.pins_of (pins' := []) fun p hp => by cases hp).write (t' := tk5) (x := a) (e := a) (o := exo a C none) (by rw [ha]; exact True.intro) (.inl rfl) k6 ⟨_, hx6⟩ (exo_ok hx6)
  have eu : upd H1 a (exo a C none) = H1 := by
    funext b
    by_cases hb : b = a
    · rw [hb, upd_same, ha]
    · rw [upd_ne hb]
  rw [eu] at J
  refine wpAt_of_wpAny ?_
  refine wpAny_mono (ht.run [] _ _ H1 _ J hq) (fun fl s' hs => ?_) fun e s' hs => hs
  have fin : ∀ {σ' : L2.St} {H' : Hp} {v : V} {u : Value}, Inv (ncx CX0 P w K mg base N ⟨"__init__", qual, params, superSt msg p0 p1 p2 p3 p4 p5 :: rest, scope, [("__class__", cc)], cda⟩ f A outer s H1 E) [] σ' H' s' → L2.RelV v u → Q v H' → CE outer P w H1 s Q u s' :=
    fun {σ' H' v u} J rv q => ⟨v, H', J.os, J.bare, J.base, J.hok, rv, q⟩
  cases fl with
  | ret u =>
    obtain ⟨v, σ', H', J, rv, q⟩ := hs
    exact fin J rv q
  | next =>
    obtain ⟨σ', H', J, q⟩ := hs
    exact fin (v := V.non) (u := Value.none) J rfl q
  | brk =>
    obtain ⟨_, _, _, q⟩ := hs
    exact False.elim q
  | cont =>
    obtain ⟨_, _, _, q⟩ := hs
    exact False.elim q
end
end OR
set_option Elab.async false
set_option linter.all false
set_option maxRecDepth 100000
set_option maxHeartbeats 4000000
/-! E2: try with several except clauses, each with or without a name; isinstance of a caught error that has fields. -/
namespace OR
open PySem PySem.Calls PySem.Spec PyProof.Rows L2
/-- a clause: its class, the slot of its name (if it has one), its suite's reading -/
abbrev Cl := Value × Option Nat × (Addr → Value → Option Addr → TS)
/-- what follows a suite whose name goes -/
def goes (i : Nat) (D : Ends) : Ends := { nx := fun σ' H' => D.nx (σ'.set i none) H', rt := D.rt, bk := fun σ' H' => D.bk (σ'.set i none) H', ct := fun σ' H' => D.ct (σ'.set i none) H' }
def wCl (D : Ends) (i : Option Nat) (ts : Addr → Value → Option Addr → TS) (a : Addr) (cls : Value) (d : Option Addr) (σ : L2.St) (H : Hp) : Prop :=
  match i with
  | none => ts a cls d D σ H
  | some i => ts a cls d (goes i D) (σ.set i (some (.ref a))) H
/-- what the clauses wish of an exception of the body -/
def wCls (K : PySem.W.Frag) (Wout : WX) (D : Ends) : List Cl → WX
  | [] => Wout
  | (c, i, ts) :: r => fun cls d σ H => ∃ b, PySem.W.exmOne K cls c = some b ∧ (b = true → ∀ a, H a = none → wCl D i ts a cls d σ H) ∧ (b = false → wCls K Wout D r cls d σ H)
/-- the clauses' own rules -/
inductive ClsOk (X : Cx) : List ExceptHandler → List Cl → Prop
  | nil : ClsOk X [] []
  | cons {x : Str} {c : Value} {ts : Addr → Value → Option Addr → TS} {b₀ : Stmt} {suite : List Stmt} {np pos' : Pos} {hds : List ExceptHandler} {l : List Cl} (hc : Names X x c)
      (hsu : ∀ (a : Addr) (oe : Obj) (cls : Value) (d : Option Addr) (pn : List (Addr × Obj)), Zc cls d oe → (∃ vs, oe.data = .fields vs) → PSs (X.suite a ((a, oe) :: pn)) (b₀ :: suite) (ts a cls d)) (r : ClsOk X hds l) :
      ClsOk X (.ExceptHandler (some (.Name x np)) none (b₀ :: suite) pos' :: hds) ((c, none, ts) :: l)
  | named {x n : Str} {i : Nat} {c : Value} {ts : Addr → Value → Option Addr → TS} {b₀ : Stmt} {suite : List Stmt} {np pos' : Pos} {hds : List ExceptHandler} {l : List Cl} (hc : Names X x c) (hi : X.N[i]? = some n) (hln : X.env.kindOf n = some .local)
      (hsu : ∀ (a : Addr) (oe : Obj) (cls : Value) (d : Option Addr) (pn : List (Addr × Obj)), Zc cls d oe → (∃ vs, oe.data = .fields vs) → PSs (X.suite a ((a, oe) :: pn)) (b₀ :: suite) (ts a cls d)) (r : ClsOk X hds l) :
      ClsOk X (.ExceptHandler (some (.Name x np)) (some n) (b₀ :: suite) pos' :: hds) ((c, some i, ts) :: l)
section
variable {X : Cx} {body : List Stmt} {h₀ : ExceptHandler} {hds : List ExceptHandler} {l : List Cl} {pos : Pos} {tb : WX → TS} {Wout : WX}
/-- an exception of the body in the hands of the clauses -/
theorem hands (hs : X.stack = X.env :: X.outer) (hf : X.env.frame = some X.env.locals) (hN : X.N.Nodup) (tk : Takes X Wout) {D : Ends} {pins : List (Addr × Obj)} {σ : L2.St} {H : Hp} {sI s : Shared} {a : Addr} {B : Heap} {cls : Value} {d : Option Addr}
    (J : Inv X pins σ H sI) (nb : ∀ b o, sI.heap.get? b = some o → b ∉ frs X.stack → B.get? b = some o) (up : sI.heap.UpToSlots s.heap) (fl : PySem.HandSPX.FlyingZ B (X.env :: X.outer) a (Zc cls d) s.heap) (na : H a = none) (os : s.os = sI.os)
    (ag : AllBare s.gens) (hk : ClsOk X hds l) (w : wCls X.K Wout D l cls d σ H) : wpAny (model X.prog X.w) X.A (handleBy (.ref a) X.env hds) (SP X pins D) X.xe s := by
  have ok := J.ok
  have J3 : Inv X pins σ H s := J.landed nb fl.1 up os ag
  obtain ⟨oe3, vs3, he3, hz3, hd3⟩ := fl.there
  have nfr : a ∉ frs (X.env :: X.outer) := fun hm => by
    obtain ⟨_, o', e', hnf⟩ := fl.2.2.1.mem hm
    rw [he3] at e'; cases e'
    exact hnf _ hd3
  have nL : a ≠ X.env.locals := fun z => nfr (List.mem_filterMap.mpr ⟨X.env, List.mem_cons_self, by rw [hf, z]⟩)
  have nF : a ∉ X.fs := fun hm => by
    obtain ⟨e, he, q⟩ := List.mem_filterMap.mp hm
    exact nfr (List.mem_filterMap.mpr ⟨e, List.mem_cons_of_mem _ he, q⟩)
  have S3 := J3.suite he3 hd3 na nL nF
  have LT : PySem.W.Looks (model X.prog X.w) s.heap (typeOf (.ref a)) cls := fun A Q E s k q => wpAny_typeOf_ref (k _ _ he3) (by rw [hz3.1]; exact q)
  -- the clause's class is asked
  have test : ∀ {x : Str} {c : Value} {np : Pos} {Q : Value → Shared → Prop} {E : Value → Shared → Prop}, Names X x c → Q c s → wpAny (model X.prog X.w) (X.A.mark (some (.ref a))) (eval (.Name x np) X.env) Q E s := fun {x c np Q E} hc q => by
    obtain ⟨hg, hdbg, hm | ⟨hm, hv, hnn⟩⟩ := hc
    · exact ld_glob (X := X.suite a ((a, oe3) :: (X.pn ++ pins))) S3 hg hm q hdbg
    · exact ld_blt (X := X.suite a ((a, oe3) :: (X.pn ++ pins))) S3 hg hm hv q hnn hdbg
  -- a suite's state
  have land : ∀ {Q : Unit → Shared → Prop} {A : Around} {E : Value → Shared → Prop}, (∀ (s4 : Shared) (oe4 : Obj), Zc cls d oe4 → (∃ vs, oe4.data = .fields vs) → Inv (X.suite a ((a, oe4) :: (X.pn ++ pins))) [] σ H s4 → Q () s4) →
      wpAny (model X.prog X.w) A (setFlight (.ref a) none) Q E s := fun {Q A E} k => by
    refine PySem.HandSPX.lands_againZ fl fun h4 fl4 up4 => ?_
    have J4 : Inv X pins σ H { s with heap := h4 } := J.landed nb fl4.1 (up.trans up4) os ag
    obtain ⟨oe4, vs4, he4, hz4, hd4⟩ := fl4.there
    exact k _ oe4 hz4 ⟨_, hd4⟩ (J4.suite he4 hd4 na nL nF)
  induction hk with
  | nil =>
    refine wpAny_handleBy_nil ?_
    obtain ⟨k1, k2, k3, oe, vs, T, oT, ts', he, hz, hd, h1, hr⟩ := id fl
    unfold PySem.passOn
    refine wpAny_bind (wpAny_field he hd h1 ?_)
    rw [if_neg (show ¬ ((Value.ref T == Value.none) = true) from by simp)]
    have fin : wpAny (model X.prog X.w) X.A (setFlight (.ref a) X.env.frame) (fun _ s4 => wpAny (model X.prog X.w) X.A (throw (.ref a) : Sem Flow) (SP X pins D) X.xe s4) X.xe s := by
      rw [hf]
      refine PySem.HandSPX.setFlight_upZ fl fun h4 hh4 up4 => wpAny_throw (tk _ _ ?_)
      exact ⟨a, B, sI, pins, σ, H, cls, d, rfl, J, nb, up.trans up4, .inr (.inr (by rw [hs]; exact hh4)), na, os, ag, w⟩
    first
      | exact wpAny_bind (wpAny_pure (wpAny_bind fin))
      | exact wpAny_bind fin
  | @cons x c ts b₀ suite np pos' hds2 l2 hc hsu r ih =>
    obtain ⟨b, hb1, hyes, hno⟩ := w
    have LM := PySem.W.exm_one (M := model X.prog X.w) J3.kIn LT hb1
    refine wpAny_handleBy_cons (codeAny_handlers_test ?_) (by intro q; cases q)
    refine test hc (LM.here ?_)
    cases b with
    | false =>
      show wpAny _ X.A (handleBy (.ref a) X.env hds2) _ _ _
      exact ih (hno rfl)
    | true =>
      refine codeAny_handlers_suite (land fun s4 oe4 hz4 hd4 S4 => ?_)
      refine wpAny_mono ((hsu a oe4 cls d (X.pn ++ pins) hz4 hd4).run [] _ _ H _ S4 (hyes rfl a na)) (fun f s6 hsp => ?_) (fun _ _ z => False.elim z)
      cases f with
      | next => obtain ⟨σ6, H6, S6, q6⟩ := hsp; exact ⟨_, _, S6.unsuite ok, q6⟩
      | brk => obtain ⟨σ6, H6, S6, q6⟩ := hsp; exact ⟨_, _, S6.unsuite ok, q6⟩
      | cont => obtain ⟨σ6, H6, S6, q6⟩ := hsp; exact ⟨_, _, S6.unsuite ok, q6⟩
      | ret u => obtain ⟨v6, σ6, H6, S6, r6, q6⟩ := hsp; exact ⟨_, _, _, S6.unsuite ok, r6, q6⟩
  | @named x n i c ts b₀ suite np pos' hds2 l2 hc hi hln hsu r ih =>
    obtain ⟨b, hb1, hyes, hno⟩ := w
    have LM := PySem.W.exm_one (M := model X.prog X.w) J3.kIn LT hb1
    refine wpAny_handleBy_cons (codeAny_handlers_test ?_) (by intro q; cases q)
    refine test hc (LM.here ?_)
    cases b with
    | false =>
      show wpAny _ X.A (handleBy (.ref a) X.env hds2) _ _ _
      exact ih (hno rfl)
    | true =>
      refine codeAny_handlers_suite_as (land fun s4 oe4 hz4 hd4 S4 => ?_)
      refine store_ok (X := X.suite a ((a, oe4) :: (X.pn ++ pins))) (v := .ref a) S4 hN hi (.inl hln) rfl (fun s5 S5 => ?_) (.inr hln)
      refine wpAny_mono ((hsu a oe4 cls d (X.pn ++ pins) hz4 hd4).run [] s5 _ H _ S5 (hyes rfl a na)) (fun f s6 hsp => ?_) (fun _ _ z => False.elim z)
      have end_ : ∀ {σ6 : L2.St} {H6 : Hp} {Q : Shared → Prop}, Inv (X.suite a ((a, oe4) :: (X.pn ++ pins))) [] σ6 H6 s6 → (∀ s7, Inv X pins (σ6.set i none) H6 s7 → Q s7) →
          wpAny (model X.prog X.w) X.A (do bindName X.env n .none; unbindBehindTheSuite X.env n pos') (fun _ s7 => Q s7) X.xe s6 := fun {σ6 H6 Q} S6 hq => gone_ok (S6.unsuite ok) hN hi hln hq
      cases f with
      | next => obtain ⟨σ6, H6, S6, q6⟩ := hsp; exact end_ S6 fun s7 J7 => ⟨_, _, J7, q6⟩
      | brk => obtain ⟨σ6, H6, S6, q6⟩ := hsp; exact end_ S6 fun s7 J7 => ⟨_, _, J7, q6⟩
      | cont => obtain ⟨σ6, H6, S6, q6⟩ := hsp; exact end_ S6 fun s7 J7 => ⟨_, _, J7, q6⟩
      | ret u => obtain ⟨v6, σ6, H6, S6, r6, q6⟩ := hsp; exact end_ S6 fun s7 J7 => ⟨_, _, _, J7, r6, q6⟩
/-- try: body, several clauses -/
theorem ps_tryC (hs : X.stack = X.env :: X.outer) (hf : X.env.frame = some X.env.locals) (hN : X.N.Nodup) (tk : Takes X Wout)
    (hb : ∀ (W : WX) (pn : List (Addr × Obj)) (xe : Value → Shared → Prop), Takes (X.tr pn xe) W → PassesOwn (model X.prog X.w) X.A X.env xe → PSs (X.tr pn xe) body (tb W))
    (hh : ClsOk X (h₀ :: hds) l) : PS X (.Try body (h₀ :: hds) [] [] pos) (fun D σ H => tb (wCls X.K Wout D l) D σ H) := by
  refine ⟨fun pins s σ H D I h => ?_⟩
  have ok := I.ok
  have hfr : X.A.frames = some (X.env :: X.outer) := by rw [ok.frames, hs]
  refine wpAny_Try_except ?_
  refine wpAny_mono ((hb (wCls X.K Wout D l) (X.pn ++ pins) (fun e s₁ => wpAny (model X.prog X.w) X.A (noteFrame e X.env) (fun _ s₂ => wpAny (model X.prog X.w) X.A (setFlight e none) (fun _ s₃ =>
    wpAny (model X.prog X.w) X.A (handleBy e X.env (h₀ :: hds)) (SP X pins D) X.xe s₃) X.xe s₂) X.xe s₁) (fun u s' xx => ?_) PassesOwn.looking).run [] s σ H D (I.toTry _) h) (fun f s1 hsp => ?_) (fun e s1 he => he)
  · obtain ⟨a, B, sI, pins', σ', H', cls, d, rfl, J', nb, up, sky, na, os, ag, w⟩ := xx
    have sky' : Sky B (X.env :: X.outer) a (Zc cls d) X.env.locals s'.heap := by rw [← hs]; exact sky
    show wpAny (model X.prog X.w) X.A (noteFrame (.ref a) X.env) _ _ _
    exact Sky.land Zc.steady hfr hf sky' fun h3 fl3 up3 => hands hs hf hN tk (J'.ofTry ok) nb (up.trans up3) fl3 na os ag hh w
  · cases f with
    | next => obtain ⟨σ', H', J', q⟩ := hsp; exact wpAny_execs_nil ⟨σ', H', J'.ofTry ok, q⟩
    | brk => obtain ⟨σ', H', J', q⟩ := hsp; exact ⟨σ', H', J'.ofTry ok, q⟩
    | cont => obtain ⟨σ', H', J', q⟩ := hsp; exact ⟨σ', H', J'.ofTry ok, q⟩
    | ret u => obtain ⟨v, σ', H', J', r, q⟩ := hsp; exact ⟨v, σ', H', J'.ofTry ok, r, q⟩
end
end OR
set_option Elab.async false
set_option linter.all false
set_option maxRecDepth 100000
set_option maxHeartbeats 4000000
/-! E3: a def that is called in an except suite with the caught error; isinstance of that error (it may have fields). -/
namespace OR
open PySem PySem.Calls PySem.Spec PyProof.Rows L2 L2H
/-! ### isinstance of a caught error with its own dict -/
section
open PySem.W
variable {prog : Program} {w : World} {A : Around} {E : Value → Shared → Prop} {s : Shared} {K : Frag} {x D : Addr} {ox : Obj} {od : Option Obj}
theorem findObj_dataO {C : Addr} {name : Str} {a g : Value} (hc : (clsIn K C).isSome = true) (ha : findIn K (.ref C) name = some (some a)) (hg : specialIn K a "__get__" = some (some g)) (ht : takesIn K a = some true) : findObj K C od name = some (.bind g a) := by
  obtain ⟨cd, hc⟩ := Option.isSome_iff_exists.mp hc
  simp [findObj, hc, ha, hg, ht]
theorem class_of_exc (T : ExcC K D) {Q : Option Value → Shared → Prop} (X : K.In s.heap) (I : InstAt s.heap x ox D od) (h : Q (some (.ref D)) { s with toks := s.toks + 1 }) : wpAny (model prog w) A (getAttr? (.ref x) "__class__") Q E s := by
  have hf : findObj K D od "__class__" = some (.bind (.builtin "getset_descriptor.__get__") (.builtin "object.__class__")) := findObj_dataO (by obtain ⟨cd, hc, _⟩ := any_some T.hd; rw [hc]; rfl) T.ha T.hn T.ht
  obtain ⟨hp, g, d, t, os⟩ := s
  have L0 := I.type (M := model prog w)
  have L1 := looks_findIn (M := model prog w) X T.hg
  have L2 := looks_findIn (M := model prog w) X T.hk
  have L3 := looks_find (M := model prog w) X I hf
  have sub : Looks (model prog w) hp (isInstance (.ref x) (.type "BaseException")) true := L0.andThen (looks_subIn X T.hs)
  have hx0 : (false && onTheHeap (Value.builtin "BaseException.__getattribute__")) = false := rfl
  have hx2 : (Value.builtin "BaseException.__getattribute__" == Value.builtin "object.__getattribute__") = false := by decide +kernel
  have hx1 : (onTheHeap (Value.ref D) && Value.builtin "BaseException.__getattribute__" == Value.builtin "object.__getattribute__") = false := by rw [hx2]; rfl
  unfold getAttr? getAttrBy? getAttrBy
  refine wpAny_bind (wpAny_mkText (wpAny_bind (wpAny_attempt (wpAny_holding (wpAny_bind (L0.at (wpAny_bind (L1.at ?_))))))))
  show wpAny _ _ (if (onTheHeap (Value.ref D) && Value.builtin "BaseException.__getattribute__" == Value.builtin "object.__getattribute__") = true then _ else _) _ _ _
  rw [hx1, if_neg Bool.false_ne_true]
  unfold getAttrByItsOwn hookBefore
  refine wpAny_bind ?_
  rw [if_pos (show onTheHeap (Value.ref D) = true from rfl)]
  refine L2.at (wpAny_bind (wpAny_attempt (wpAny_holding ?_)))
  unfold callGetattribute
  rw [hx0, if_neg Bool.false_ne_true]
  unfold boundAndCalled
  rw [PySem.F.excAttr_ValueError.ga.bind (.ref x)]
  refine wpAny_bind (wpAny_pure ?_)
  show wpAny _ _ (call (.builtin "BaseException.__getattribute__") [.ref x, .str "__class__" t]) _ _ _
  refine wpAny_call (codeAny_call_builtin PySem.F.excAttr_ValueError.ga.plain PySem.F.entry_bexc_ga ?_)
  refine @check_slot (model prog w) _ _ ⟨hp, g, d, t + 1, os⟩ "BaseException.__getattribute__" "BaseException" "__getattribute__" (.ref x) [.str "__class__" t] [] _ (by decide +kernel) (by decide +kernel) sub (PySem.F.args_bexc_ga (.ref x) (.str "__class__" t)) ?_
  unfold Builtin.«object.__getattribute__»
  refine wpAny_bind (wpAny_of_eq (a := ((Value.ref x : Value), [Value.str "__class__" t])) (by first | rfl | (simp only [slotArgs]; rfl)) ?_)
  refine wpAny_bind (wpAny_pure (wpAny_bind (L0.at (wpAny_bind (L3.at ?_)))))
  show wpAny _ _ (holding [Value.builtin "object.__class__"] (call (.builtin "getset_descriptor.__get__") [.builtin "object.__class__", .ref x, .ref D]) >>= ret) _ _ _
  refine wpAny_bind (wpAny_holding (wpAny_call (class_get (s := ⟨hp, g, d, t + 1, os⟩) (ox := ox) (od := od) X I T.hm ?_)))
  refine wpAny_pure ?_
  show wpAny _ _ (handedOut (.ref D)) _ _ _
  rw [handedOut_of (v := .ref D) rfl]
  first
    | exact wpAny_pure (wpAny_pure h)
    | exact wpAny_pure h
    | exact wpAny_pure (wpAny_bind (wpAny_pure (wpAny_pure h)))
theorem kitx_exc (T : ExcC K D) : KitX K (.ref x) (.ref D) (fun h => InstAt h x ox D od) where
  ty := fun _ _ _ I => I.type
  it := fun _ _ X _ => by
    obtain ⟨cdD, hcD, _⟩ := any_some T.hd
    unfold clsIn at hcD
    split at hcD
    · rename_i c' d' cd' sl' ho
      intro A' Q' E' s' k q
      unfold isType loadHead
      exact wpAny_bind (wpAny_loadPart (k _ _ (X _ _ ho)) (wpAny_pure q))
    · cases hcD
  ne := fun h tp dd its n sl X htp => by
    obtain ⟨cdD, hcD, _⟩ := any_some T.hd
    refine Bool.eq_false_iff.mpr fun q => ?_
    have e : D = tp := Value.ref.inj (beq_iff_eq.mp q)
    subst e
    unfold clsIn at hcD
    split at hcD
    · rename_i c' d' cd' sl' ho
      have z := (X _ _ ho).symm.trans htp
      cases z
    · cases hcD
  ca := fun X I k => class_of_exc T X I k
end
/-- an error's own dict: none, or tracked -/
def DOk (d : Option Addr) (H : Hp) : Prop := d = none ∨ ∃ dd fs, d = some dd ∧ H dd = some (.xd fs)
/-- isinstance(e, c), e the error at a that is pinned -/
def rIsP (K : PySem.W.Frag) (a : Addr) (cls : Value) (d : Option Addr) : List V → Hp → VK → Prop := fun xs H Q => ∃ (D : Addr) (c : V) (cv : Value) (b : Bool), cls = .ref D ∧ ExcC K D ∧ xs = [.ref a, c] ∧ (∀ u, RelV c u → u = cv) ∧ DOk d H ∧ PySem.W.kitOne K (.ref D) cv = some b ∧ Q (.bl b) H
theorem call_isP {X : Cx} {a : Addr} {cls : Value} {oe : Obj} {d : Option Addr} (hz : Zc cls d oe) (hf : ∃ vs, oe.data = .fields vs) (hp : (a, oe) ∈ X.pn) : CallR X (.builtin "isinstance") (rIsP X.K a cls d) := by
  intro pins s σ H xs us Q I r h
  obtain ⟨D, c, cv, b, rfl, C, rfl, hcv, hd, e, q⟩ := h
  cases r with
  | cons rx rr =>
    cases rr with
    | cons rt rr =>
      cases rr
      cases rx
      have ec := hcv _ rt
      subst ec
      obtain ⟨hget, _⟩ := I.pin (a, oe) (List.mem_append.mpr (.inl hp))
      obtain ⟨vs, hv⟩ := hf
      have J : ∃ od, PySem.W.InstAt s.heap a oe D od := by
        obtain ⟨oc, od, oda, osl⟩ := oe
        obtain ⟨h1, h2⟩ := hz
        dsimp only at h1 h2 hv
        subst h1 h2 hv
        rcases hd with hd | ⟨dd, fs, hd, hx⟩
        · subst hd
          exact ⟨none, hget, rfl, rfl, trivial⟩
        · subst hd
          obtain ⟨mA, ⟨o, _, _, ho, _⟩, _⟩ := (show ObjOk X.prog X.w H s.heap dd (.xd fs) from I.hok dd _ hx)
          exact ⟨some o, hget, rfl, rfl, ho⟩
      obtain ⟨od, J⟩ := J
      exact PySem.W.kia_one (kitx_exc C) I.kIn J e (fun z => nomatch z) fun tk => ⟨.bl b, H, I.kept (t' := tk) fun _ _ z => z, rfl, q⟩
/-- the same in the suite itself -/
theorem call_isS {X : Cx} {a : Addr} {cls : Value} {oe : Obj} {d : Option Addr} {pn : List (Addr × Obj)} (hz : Zc cls d oe) (hf : ∃ vs, oe.data = .fields vs) : CallR (X.suite a ((a, oe) :: pn)) (.builtin "isinstance") (rIsP X.K a cls d) :=
  call_isP (X := X.suite a ((a, oe) :: pn)) hz hf (List.mem_cons_self ..)
theorem dok_same {d : Option Addr} {H H' : Hp} (h : DOk d H) (e : Same H H') : DOk d H' := by
  rcases h with h | ⟨dd, fs, h, h2⟩
  · exact .inl h
  · exact .inr ⟨dd, fs, h, e _ _ h2⟩
/-! ### a def called there -/
structure FnE (P : Program) (w : World) (K : PySem.W.Frag) (mg : Str → Option Value) (base : Heap) (k : Nat) (f : Addr) (fd : FuncData) (ps : List Str) (sp : Addr → Value → Option Addr → Sp) : Prop where
  len : ∀ a cls d vs H Q E, sp a cls d vs H Q E → vs.length = ps.length
  run : ∀ (A : Around) (outer : List Env) (s : Shared) (H : Hp) (args : Args) (us : List Value) (vs : List V) (Q : VK) (a : Addr) (oe : Obj) (cls : Value) (d : Option Addr), RoomH k A → PinOk outer H s (a, oe) → Zc cls d oe → (∃ vs, oe.data = .fields vs) → Env0 P w K mg base A outer s H → BindsTo s fd args (ps.zip us) → Vals vs us → sp a cls d vs H Q E0 →
    codeAny (model P w) A (.call (.ref f) args) (CR CX0 outer P w H s Q E0) s
section
variable {P : Program} {w : World} {K : PySem.W.Frag} {mg : Str → Option Value} {base : Heap} {k : Nat} {f : Addr} {name qual : Str} {params : Arguments} {body : List Stmt} {scope : Scope} {dV kV doc pm cdv ct oc : Value} {an od : Option Addr}
    {osl : Array (Option Value)} {N ps : List Str} {sp : Addr → Value → Option Addr → Sp}
theorem fn_ofE (lk : K.lookup f = some ⟨oc, od, .func (PySem.W.fnOf name qual params body scope dV kV doc pm an cdv ct), osl⟩) (hcd : PySem.W.codeIn K cdv qual = true) (S : FnScope N ps scope)
    (len : ∀ a cls d vs H Q E, sp a cls d vs H Q E → vs.length = ps.length)
    (hbody : ∀ (A : Around) (outer : List Env) (s : Shared) (H : Hp) (vs : List V) (Q : VK) (a : Addr) (oe : Obj) (cls : Value) (d : Option Addr), RoomH k (A.deeper (envOfC qual scope s.heap.objs.size f cdv)) → Zc cls d oe → (∃ vs, oe.data = .fields vs) → sp a cls d vs H Q E0 →
      ∃ t, PSs (cxH CX0 P w K mg base N qual scope f cdv A outer s H E0 (a, oe)) body t ∧ t { nx := fun _ H' => Q .non H', rt := Q } (L2.start N vs) H) :
    FnE P w K mg base (k + 1) f (PySem.W.fnOf name qual params body scope dV kV doc pm an cdv ct) ps sp := by
  refine ⟨len, fun A outer s H args us vs Q a oe cls d hr hpin hz hf e0 hb r hsp => ?_⟩
  have hl := len _ _ _ _ _ _ _ hsp
  have KX : K.In s.heap := e0.mod.kin.keeps fun b o e => (e0.bs b o e).1
  have lim : s.heap.NoLimit := e0.mod.nolimit.keeps fun b o e => (e0.bs b o e).1
  have hkind : ∀ y ∈ ps.zip us, scope.names.lookup y.1 = some .local ∨ (scope.names.lookup y.1 = some .cell ∧ ((cellsFrom (s.heap.objs.size + 1) scope.names []).lookup y.1).isSome = true) := fun ⟨n, v⟩ hy =>
    (S.par n (List.of_mem_zip hy).1).imp id fun q => ⟨q, PySem.W.cellsFrom_some _ _ _ (.inl q)⟩
  refine codeAny_call_function hr.depth (KX _ _ lk) rfl S.co S.gen rfl (PySem.W.codeRec_of KX hcd) (hb _ _ _ _ ?_)
  refine wpAny_newFunctionEnv_cells S.kind hkind fun env he s1 x => ?_
  subst he
  refine ⟨lim.keeps x.toInCall.keep, codeAny_func ?_⟩
  obtain ⟨t, ht, hq⟩ := hbody A outer s H vs Q a oe cls d (hr.deeper _) hz hf hsp
  have I := inv_startH (CX := CX0) (E := E0) (N := N) S hpin e0 hl r x
  refine wpAny_mono (ht.run [] s1 (L2.start N vs) H _ I hq) (fun fl s' hs => ?_) fun e s' hs => hs
  cases fl with
  | ret u =>
    obtain ⟨v, σ', H', J, rv, q⟩ := hs
    exact ⟨v, H', J.os, J.bare, J.base, J.hok, rv, q⟩
  | next =>
    obtain ⟨σ', H', J, q⟩ := hs
    exact ⟨.non, H', J.os, J.bare, J.base, J.hok, rfl, q⟩
  | brk =>
    obtain ⟨_, _, _, q⟩ := hs
    exact False.elim q
  | cont =>
    obtain ⟨_, _, _, q⟩ := hs
    exact False.elim q
end
section
variable {X : Cx} {k : Nat} {f a : Addr} {oe : Obj} {fd : FuncData} {ps : List Str} {sp : Addr → Value → Option Addr → Sp} {x : Str} {q pos : Pos} {e : Expr} {es : List Expr} {t : TA}
theorem pe_callE (F : FnE X.prog X.w X.K X.mg X.base k f fd ps sp) {cls : Value} {d : Option Addr} (hr : RoomH k X.A) (hz : Zc cls d oe) (hf : ∃ vs, oe.data = .fields vs) (hp : (a, oe) ∈ X.pn) (hg : Gl X x) (hm : X.mg x = some (.ref f)) (hk : PySem.W.keepIn X.K (.ref f) = true) (hb : Binds X.K fd ps [])
    (ha : PA X (e :: es) t) (hdb : (x == ("__debug__" : Str)) = false := by decide) (he : starEach (e :: es) X.env = (false, eval e X.env) :: starEach es X.env := by rfl) (hpl : (backTo pos (starEach es X.env)).any (·.1) = false := by rfl) :
    PE X (.Call (.Name x q) (e :: es) [] pos) (tCall (sp a cls d) [] E0 t) := by
  refine ⟨fun pins s σ H Q I h => ?_⟩
  refine wpAny_Call_Name_kw (ld_glob I hg hm ?_ hdb)
  refine PySem.W.callWith_K (h₀ := X.base) I.ok.mod.kin hk (thn (ha.run pos pins s σ H _ I h) fun us s1 ⟨vs, H1, I1, r, q⟩ => ⟨I1.kIn, ?_⟩) he hpl
  have q : sp a cls d vs H1 Q E0 := by
    have z : sp a cls d (vs ++ []) H1 Q E0 := q
    rw [List.append_nil] at z
    exact z
  have hl : us.length = ps.length := by rw [← r.length]; exact F.len _ _ _ _ _ _ _ q
  have b := hb s1 us I1.kIn (by rw [List.append_nil]; exact hl)
  rw [List.append_nil] at b
  have P1 := I1.pin (a, oe) (List.mem_append_left _ hp)
  have hpin : PinOk X.stack H1 s1 (a, oe) := ⟨P1.1, P1.2.1, fun hm => (List.mem_cons.mp (I1.stkSub a hm)).elim P1.2.2.1 P1.2.2.2.1, P1.2.2.2.2⟩
  refine wpAny_call (codeAny_mono (F.run X.A X.stack s1 H1 ⟨us, []⟩ us vs Q a oe cls d hr hpin hz hf I1.env0 b r q) fun r s' hq => ?_)
  cases r with
  | error e => exact False.elim hq
  | ok fl =>
    cases fl with
    | ret u => exact I1.after hq
    | next => exact False.elim hq
    | brk => exact False.elim hq
    | cont => exact False.elim hq
end
end OR
set_option Elab.async false
set_option linter.all false
set_option maxRecDepth 100000
set_option maxHeartbeats 4000000
/-! E4: the error classes of this set: X(e, ..) made, its fields told by the arguments; X() without a field. -/
namespace OR
open PySem PySem.Calls PySem.Spec PyProof.Rows L2 NdefX
/-- what such an __init__ promises: n arguments, the fields of its dict -/
def spIni (C : Addr) (n : Nat) (flds : List V → List (Str × V)) : Sp := fun vs H Q _ => ∃ (a : Addr) (ws : List V), vs = .ref a :: ws ∧ ws.length = n ∧ H a = some (exo a C none) ∧
  ∀ dx, H dx = none → dx ≠ a → Q .non (upd (upd H dx (exd dx (flds ws))) a (exo a C (some dx)))
def spIni0 (C : Addr) : Sp := fun vs H Q _ => ∃ a : Addr, vs = [.ref a] ∧ H a = some (exo a C none) ∧ Q .non H
theorem upd_swap {H : Hp} {a b : Addr} {o u : HO} (h : a ≠ b) : upd (upd H a o) b u = upd (upd H b u) a o := by
  funext c
  by_cases ha : c = a
  · rw [ha, upd_ne h, upd_same, upd_same]
  · by_cases hb : c = b
    · rw [hb, upd_same, upd_ne (Ne.symm h), upd_same]
    · rw [upd_ne hb, upd_ne ha, upd_ne ha, upd_ne hb]
theorem del_made {H : Hp} {a d : Addr} {o1 o2 o3 o4 : HO} (ha : H a = none) (h : d ≠ a) : upd (del (upd (upd (upd H a o1) d o2) a o3) a) d o4 = upd H d o4 := by
  funext c
  by_cases hd : c = d
  · rw [hd, upd_same, upd_same]
  · rw [upd_ne hd, upd_ne hd]
    by_cases hc : c = a
    · rw [hc, del_same, ha]
    · rw [del_ne hc, upd_ne hc, upd_ne hd, upd_ne hc]
theorem del_made0 {H : Hp} {a : Addr} {o1 : HO} (ha : H a = none) : del (upd H a o1) a = H := by
  funext c
  by_cases hc : c = a
  · rw [hc, del_same, ha]
  · rw [del_ne hc, upd_ne hc]
/-- a reading's closure: what is shown of the values and the heap may be weakened -/
def upA (t : TA) : TA := fun σ H Q => ∃ Q0, t σ H Q0 ∧ ∀ vs H1, Q0 vs H1 → Q vs H1
theorem pa_up {X : Cx} {es : List Expr} {t : TA} (h : PA X es t) : PA X es (upA t) := ⟨fun pos pins s σ H Q I ⟨Q0, h0, hq⟩ =>
  wpAny_mono (h.run pos pins s σ H Q0 I h0) (fun us s1 ⟨vs, H1, I1, r, q⟩ => ⟨vs, H1, I1, r, hq vs H1 q⟩) fun _ _ z => z⟩
/-- what is known of an error class at C -/
structure ErrOk (P : Program) (w : World) (K : PySem.W.Frag) (mg : Str → Option Value) (base : Heap) (x : Str) (C : Addr) (sp : Sp) (n : Nat) : Prop where
  T : OexC K C
  gC : mg x = some (.ref C)
  ini : ∃ (fI : Addr) (fd : FuncData) (ps : List Str), PySem.W.findIn K (.ref C) "__init__" = some (some (.ref fI)) ∧ PySem.W.typeIn K (.ref fI) = some (.type "function") ∧ FnOk P w K mg base CX0 1 fI fd ps sp ∧ Binds K fd ps [] ∧ ps.length = n + 1
/-- X(e, ..): the error's dict is new; nothing else is -/
def tMkE (C : Addr) (n : Nat) (flds : List V → List (Str × V)) (ta : TA) : L2.St → Hp → XK → Prop := fun σ H Q => ta σ H fun vs H1 => vs.length = n ∧ ∀ d, H1 d = none → Q (.ref C) (some d) (upd H1 d (.xd (flds vs)))
def tMkE0 (C : Addr) : L2.St → Hp → XK → Prop := fun _ H Q => Q (.ref C) none H
section
variable {X : Cx} {x : Str} {C : Addr} {n : Nat} {flds : List V → List (Str × V)} {e : Expr} {es : List Expr} {ta : TA} {p pos : Pos}
theorem pmk_err (T : ErrOk X.prog X.w X.K X.mg X.base x C (spIni C n flds) n) (hn : n ≤ 900) (hr : Room 2 X.A) (ha : PA X (e :: es) ta) (hg : Gl X x)
    (hdb : (x == ("__debug__" : Str)) = false := by decide) (he : starEach (e :: es) X.env = (false, eval e X.env) :: starEach es X.env := by rfl) (hpl : (backTo pos (starEach es X.env)).any (·.1) = false := by rfl) :
    PMk X (.Call (.Name x p) (e :: es) [] pos) (tMkE C n flds ta) := by
  obtain ⟨fI, fd, ps, iC, tI, F, hb, _⟩ := T.ini
  intro pins s σ H Q I h
  refine pmk_oex T.T iC tI F hr hb .nil pass0 hg T.gC (pa_up ha) hdb he hpl pins s σ H Q I ?_
  exact ⟨_, h, fun vs H1 ⟨hl, hq⟩ => ⟨by omega, fun a ha1 => ⟨a, vs, by rw [List.append_nil], hl, upd_same, fun dx hd hne => ⟨rfl, dx, flds vs, upd_same, by rw [upd_ne hne, upd_same], by rw [upd_ne hne] at hd; exact hd, by
    rw [del_made ha1 hne]
    exact hq dx (by rw [upd_ne hne] at hd; exact hd)⟩⟩⟩⟩
/-- a new error without a dict is let go -/
theorem mk_bare {pins : List (Addr × Obj)} {σ : L2.St} {H1 : Hp} {hp hp2 h2 : Heap} {g1 g2 : Array GenState} {d1 d2 : Drawn} {t1 t2 : Nat} {os1 os2 : OsState} {a : Addr} (I1 : Inv X pins σ H1 ⟨hp, g1, d1, t1, os1⟩)
    (ha : hp.objs.size ≤ a) (k : ∀ b o, hp.get? b = some o → hp2.get? b = some o) (un : Un (frs X.stack) [] (upd H1 a (exo a C none)) (upd H1 a (exo a C none)) hp2 h2) (hok : HOk X.prog X.w (upd H1 a (exo a C none)) h2) (ho : os2 = os1) (hb : AllBare g2) :
    ∃ (t0 : Addr) (G : Heap), Inv X pins σ H1 ⟨G, g2, d2, t2, os2⟩ ∧ (∀ b o, G.get? b = some o → h2.get? b = some o) ∧ G.get? a = none ∧
      h2.get? a = some ({ cls := .ref C, dict := none, data := .fields #[.ref t0, .none, .none, .none, .bool false, .none] } : Obj) := by
  obtain ⟨t0, hoe⟩ := exo_at hok upd_same
  have hn : H1 a = none := I1.hok.fresh ha
  obtain ⟨G, g1', g2'⟩ := restrict h2 fun b => decide (b ≠ a)
  have gk : ∀ b, b ≠ a → G.get? b = h2.get? b := fun b hb => g1' b (decide_eq_true hb)
  have ge : G.get? a = none := g2' a (by simp)
  have nha : ∀ {b : Addr} {o : Obj}, hp.get? b = some o → b ≠ a := fun {b o} z => Nat.ne_of_lt (Nat.lt_of_lt_of_le (Heap.lt_size z) ha)
  have up : ∀ {b : Addr}, b ≠ a → H1 b = none → upd H1 a (exo a C none) b = none := fun {b} hb n => by rw [upd_ne hb]; exact n
  have U : Un (frs X.stack) [] H1 H1 hp G := {
    keep := fun b o z n hf hx => by rw [gk b (nha z)]; exact un.keep b o (k b o z) (up (nha z) n) hf hx
    slot := fun b o z n hf hx => by rw [gk b (nha z)]; exact un.slot b o (k b o z) (up (nha z) n) hf hx
    free := fun b o z n hx => n
    there := fun b o z hx => by rw [gk b (nha z)]; exact un.there b o (k b o z) hx
    tups := fun b xs z => z
    frzs := fun b o v z => z
    tbls := fun b ps z => ⟨#[], by rw [z]; simp⟩ }
  have hok3 : HOk X.prog X.w H1 G := fun b o z => by
    have hba : b ≠ a := ne_of_none z hn
    have q := hok b o (by rw [upd_ne hba]; exact z)
    have noa : ∀ {c : Addr} {u : HO}, upd H1 a (exo a C none) c = some u → exo a C none ≠ u → H1 c = some u := fun {c u} hc hne => by
      by_cases e : c = a
      · rw [e, upd_same] at hc
        exact absurd (Option.some.inj hc) hne
      · rw [upd_ne e] at hc
        exact hc
    exact q.stay (fun c v hc y => by
        have hca : c ≠ a := by
          rcases hc with hc | hc
          · rw [hc]; exact hba
          · exact ne_of_none (noa hc exo_own) hn
        rw [gk c hca]
        exact y)
      (fun c hc => noa hc exo_own) (fun c xs hc => noa hc exo_tup)
  have J : Inv X pins σ H1 ⟨G, g2, d2, t2, os2⟩ := I1.call' (ch := []) ho U hok3 hb (fun b z => absurd z (by simp))
  refine ⟨t0, G, J, fun b o z => ?_, ge, hoe⟩
  by_cases hba : b = a
  · rw [hba, ge] at z
    cases z
  · exact (gk b hba).symm.trans z
/-- X(): no field, no dict -/
theorem pmk_err0 (T : ErrOk X.prog X.w X.K X.mg X.base x C (spIni0 C) 0) (hr : Room 2 X.A) (hg : Gl X x) (hdb : (x == ("__debug__" : Str)) = false := by decide) :
    PMk X (.Call (.Name x p) [] [] pos) (tMkE0 C) := by
  obtain ⟨fI, fd, ps, iC, tI, FI, hb, hps⟩ := T.ini
  intro pins s σ H1 Q I1 q1
  obtain ⟨nm, q, N, bs, bm, sn, sub, ab, col, dd, k0, k1, k2, k3, k5, hC, hbm⟩ := T.T.cls
  refine wpAny_Call_Name_kw (ld_glob I1 hg T.gC ?_ hdb)
  refine PySem.W.callWith_K0 I1.kIn T.T.kC ?_
  obtain ⟨hp, g, dr, tk, os⟩ := s
  have hsz : hp.objs.size ≤ hp.objs.size + 1 := Nat.le_succ _
  have hn : H1 (hp.objs.size + 1) = none := I1.hok.fresh hsz
  have kk : ∀ b o, hp.get? b = some o → ((hp.push (PySem.W.kdv_tup [])).push (PySem.HandSPX.excO C hp.objs.size)).get? b = some o := fun b o e => Heap.get?_push_of_some _ (Heap.get?_push_of_some _ e)
  have hget : ((hp.push (PySem.W.kdv_tup [])).push (PySem.HandSPX.excO C hp.objs.size)).get? (hp.objs.size + 1) = some (PySem.HandSPX.excO C hp.objs.size) := by heap_get
  have I2 : Inv X pins σ (upd H1 (hp.objs.size + 1) (exo (hp.objs.size + 1) C none)) ⟨(hp.push (PySem.W.kdv_tup [])).push (PySem.HandSPX.excO C hp.objs.size), g, dr, tk, os⟩ :=
    I1.laid (t' := tk) (a := hp.objs.size + 1) (o := exo (hp.objs.size + 1) C none) (h' := (hp.push (PySem.W.kdv_tup [])).push (PySem.HandSPX.excO C hp.objs.size)) kk hsz (exo_ok hget)
  have b0 := hb ⟨(hp.push (PySem.W.kdv_tup [])).push (PySem.HandSPX.excO C hp.objs.size), g, dr, tk, os⟩ [Value.ref (hp.objs.size + 1)] I2.kIn (by rw [List.append_nil, hps]; rfl)
  have r2 : Vals [V.ref (hp.objs.size + 1)] [Value.ref (hp.objs.size + 1)] := .cons rfl .nil
  refine wpAny_call (PySem.HandSPX.call_own F.excBase_ValueError (fun Y => PySem.HandSPX.refsVE_contains Y bm hbm) (I1.kIn _ _ hC) (PySem.W.looks_findIn I1.kIn iC) (fun self => PySem.W.bind_fn I1.kIn self tI) (Nat.zero_le _)
    (codeAny_mono (FI.run _ X.stack _ _ ⟨[Value.ref (hp.objs.size + 1)], []⟩ _ _ (fun v H2 => v = .non ∧ H2 = upd H1 (hp.objs.size + 1) (exo (hp.objs.size + 1) C none)) (fun _ _ _ => False) (hr.make C [] []) (I2.env0.make C [] []) b0 r2 ⟨_, rfl, upd_same, rfl, rfl⟩) fun r s' hq' => ?_))
  cases r with
  | error er => exact False.elim hq'
  | ok fl =>
    cases fl with
    | ret u =>
      obtain ⟨v, H2, os2, bare2, un2, hok2, rv, ev, eH⟩ := hq'
      subst ev
      subst eH
      obtain ⟨h2, g2, d2, t2, os'⟩ := s'
      refine ⟨rv, ?_⟩
      obtain ⟨t0, G, J, kG, ge, hoe⟩ := mk_bare (d2 := d2) (t2 := t2) I1 hsz kk un2 hok2 os2 bare2
      exact ⟨_, _, _, ⟨G, g2, d2, t2, os'⟩, _, .ref C, none, rfl, J, kG, ge, hoe, ⟨rfl, rfl⟩, rfl, rfl, hn, rfl, bare2, raises_own T.T.exC T.T.tyC, q1⟩
    | next => exact False.elim hq'
    | brk => exact False.elim hq'
    | cont => exact False.elim hq'
end
end OR
set_option Elab.async false
set_option linter.all false
set_option maxRecDepth 100000
set_option maxHeartbeats 4000000
/-! HK: what the head tells: facts, defs, the error classes. -/
namespace OR
open PySem PySem.Calls PySem.Spec PyProof.Rows L2 NdefX He
/-- an error class: its name, its __init__ as the text has it, its fields' names -/
structure ErrD where
  x : Str
  qual : Str
  params : Arguments
  body : List Stmt
  scope : Scope
  flds : List Str
def oexB (K : PySem.W.Frag) (C : Addr) : Bool := match K.lookup C with
  | some ⟨.type "type", _, .cls cd, sl⟩ => (match cd.mro, sl.toList with
    | .ref C' :: bm, [_, _, _, _, some (.builtin n), _] => C' == C && n == "ValueError.__new__" && !cd.hasDel && cd.hasDict && PySem.HandSPX.refsVE bm
    | _, _ => false)
  | _ => false
theorem oexB_ok {K : PySem.W.Frag} {C : Addr} (q : oexB K C = true) : ∃ nm qn N bs bm sn sub ab col dd k0 k1 k2 k3 k5, K.lookup C = some (excClassObj nm qn C N bs bm true sn sub ab col dd k0 k1 k2 k3 k5 "ValueError.__new__") ∧ PySem.HandSPX.refsVE bm = true := by
  unfold oexB at q
  split at q
  · rename_i dd cd sl ho
    split at q
    · rename_i C' bm k0 k1 k2 k3 n k5 hm hs
      simp only [Bool.and_eq_true, beq_iff_eq, Bool.not_eq_true'] at q
      obtain ⟨⟨⟨⟨rfl, rfl⟩, hdel⟩, hdict⟩, ht⟩ := q
      obtain ⟨nm, bs, mro, ns, qn, hd, sn, sub, ab, col, del⟩ := cd
      dsimp only at hm hdel hdict
      subst hm hdel hdict
      have hsl : sl = #[k0, k1, k2, k3, some (.builtin "ValueError.__new__"), k5] := by
        obtain ⟨l⟩ := sl
        simp only at hs
        rw [hs]
      subst hsl
      exact ⟨nm, qn, ns, bs, bm, sn, sub, ab, col, dd, k0, k1, k2, k3, k5, ho, ht⟩
    · cases q
  · cases q
/-- the __init__ of the class x -/
def iniAt (K : PySem.W.Frag) (x : Str) : Addr := ma K (ga K x) "__init__"
/-- the function's own data, but its text -/
def iniB (file : Str) (K : PySem.W.Frag) (x qual : Str) : Bool := match K.lookup (iniAt K x) with
  | some ⟨_, _, .func fd, _⟩ => (match fd.closure, fd.defaults, fd.kwdefaults, fd.annotations, fd.code with
    | [(_, cc)], .none, .none, none, .ref cda => PySem.W.codeIn K (.ref cda) qual && (match K.lookup cc with
        | some ⟨_, _, .cell (some (.ref D)), _⟩ => D == ga K x
        | _ => false) && (match K.lookup cda with
        | some ⟨_, _, .fields vs, _⟩ => (match (vs[2]? : Option Value) with
          | some (Value.str f _) => file == f
          | _ => false)
        | _ => false)
    | _, _, _, _, _ => false)
  | _ => false
def errB (file : Str) (K : PySem.W.Frag) (d : ErrD) : Bool :=
  eqO (PySem.W.nsIn K mainGlobals d.x) (some (some (.ref (ga K d.x)))) && (oexB K (ga K d.x) && (eqO (PySem.W.findIn K (.ref (ga K d.x)) "__setattr__") (some (some (.builtin "object.__setattr__"))) &&
  (decide (PySem.W.subIn K (.ref (ga K d.x)) (.type "BaseException") = some true) && (decide (PySem.W.typeIn K (.ref (ga K d.x)) = some (.type "type")) && (PySem.W.keepIn K (.ref (ga K d.x)) &&
  (eqO (PySem.W.nsIn K PySem.cStatics "thirdparty.any") (some none) && (eqO (PySem.W.ks_superIn K (ga K d.x) (ga K d.x) "__init__") (some (some (.builtin "ValueError.__init__"))) &&
  (decide (PySem.W.subIn K (.ref (ga K d.x)) (.type "ValueError") = some true) && (decide (PySem.W.mroIn K (ga K d.x) (.ref (ga K d.x)) = some true) &&
  (eqO (PySem.W.findIn K (.ref (ga K d.x)) "__init__") (some (some (.ref (iniAt K d.x)))) && (decide (PySem.W.typeIn K (.ref (iniAt K d.x)) = some (.type "function")) &&
  (iniB file K d.x d.qual && (xfB K (ga K d.x) && d.flds.all fun f => eqO (PySem.W.findIn K (.ref (ga K d.x)) f) (some none))))))))))))))
abbrev FnC : Type := Option (Str × Str × Arguments × FuncBody × Scope × Addr × List Str × Addr)
def fnC (K : PySem.W.Frag) (x : Str) : FnC := match K.lookup (iniAt K x) with
  | some ⟨_, _, .func fd, _⟩ => some (fd.name, fd.qualname, fd.params, fd.body, fd.scope, fd.globals, fd.closure.map (·.1), fd.builtins)
  | _ => none
def ErrD.val (d : ErrD) : FnC := some ("__init__", d.qual, d.params, .stmts d.body, d.scope, mainGlobals, ["__class__"], builtinsNs)
/-- what is known of an error class, its __init__ not yet walked -/
structure ErrF (P : Program) (K : PySem.W.Frag) (mg : Str → Option Value) (d : ErrD) (f cc cda : Addr) : Prop where
  gC : mg d.x = some (.ref (ga K d.x))
  U : SupC P K mg (ga K d.x) cc cda
  iC : PySem.W.findIn K (.ref (ga K d.x)) "__init__" = some (some (.ref f))
  tI : PySem.W.typeIn K (.ref f) = some (.type "function")
  lk : ∃ oc od doc pm ct osl, K.lookup f = some (⟨oc, od, .func (PySem.W.fnX "__init__" d.qual d.params d.body d.scope [("__class__", cc)] .none .none doc pm none (.ref cda) ct), osl⟩ : Obj)
  cd : PySem.W.codeIn K (.ref cda) d.qual = true
  xf : XfC K (ga K d.x)
  no : ∀ g ∈ d.flds, PySem.W.findIn K (.ref (ga K d.x)) g = some none
theorem errF_of {P : Program} {K : PySem.W.Frag} {h : Heap} {mg : Str → Option Value} {d : ErrD} (X : K.In h) (G : h.Ns mainGlobals mg) (hs : mg "super" = none) (htop : (P.main.scope.names.lookup ("super" : Str)).isSome = false)
    (c : errB P.main.file K d = true) (e : fnC K d.x = d.val) : ∃ f cc cda, ErrF P K mg d f cc cda := by
  obtain ⟨c1, c⟩ := ba c
  obtain ⟨c2, c⟩ := ba c
  obtain ⟨c3, c⟩ := ba c
  obtain ⟨c4, c⟩ := ba c
  obtain ⟨c5, c⟩ := ba c
  obtain ⟨c6, c⟩ := ba c
  obtain ⟨c7, c⟩ := ba c
  obtain ⟨c8, c⟩ := ba c
  obtain ⟨c9, c⟩ := ba c
  obtain ⟨c10, c⟩ := ba c
  obtain ⟨c11, c⟩ := ba c
  obtain ⟨c12, c⟩ := ba c
  obtain ⟨c13, c⟩ := ba c
  obtain ⟨c14, c15⟩ := ba c
  unfold iniB at c13
  unfold fnC at e
  cases q : K.lookup (iniAt K d.x) with
  | none => rw [q] at c13; cases c13
  | some o =>
    obtain ⟨oc, od, dt, osl⟩ := o
    rw [q] at c13 e
    cases dt with
    | func fd =>
      obtain ⟨n1, n2, n3, n4, n5, n6, n7, n8, n9, n10, n11, n12, n13, n14, n15⟩ := fd
      have e2 : (some (n1, n2, n3, n4, n5, n6, n7.map (·.1), n15) : FnC) = (some (("__init__" : Str), d.qual, d.params, FuncBody.stmts d.body, d.scope, mainGlobals, [("__class__" : Str)], builtinsNs) : FnC) := e
      simp only [Option.some.injEq, Prod.mk.injEq] at e2
      obtain ⟨h1, h2, h3, h4, h5, h6, h7, h8⟩ := e2
      subst h1 h2 h3 h4 h5 h6 h8
      dsimp only at c13
      split at c13
      · rename_i x1 x2 x3 x4 y cc cda
        obtain ⟨c13a, c13c⟩ := ba c13
        obtain ⟨c13a, c13b⟩ := ba c13a
        have hy : y = "__class__" := by simpa using h7
        subst hy
        have cell : ∃ cl cld csl, K.lookup cc = some (⟨cl, cld, .cell (some (.ref (ga K d.x))), csl⟩ : Obj) := by
          split at c13b
          · rename_i cl cld D csl hq
            have eD : D = ga K d.x := by simpa using c13b
            rw [eD] at hq
            exact ⟨_, _, _, hq⟩
          · cases c13b
        have code : ∃ ccl cdd vs ccs f tf, K.lookup cda = some (⟨ccl, cdd, .fields vs, ccs⟩ : Obj) ∧ vs[2]? = some (.str f tf) ∧ ((P.main.file : Str) == f) = true := by
          split at c13c
          · rename_i ccl cdd vs ccs hq
            split at c13c
            · rename_i f tf hv
              exact ⟨_, _, _, _, f, tf, hq, hv, c13c⟩
            · cases c13c
          · cases c13c
        exact ⟨iniAt K d.x, cc, cda, PySem.W.mg_of X G (eqO_ok c1), ⟨⟨oexB_ok c2, eqO_ok c3, of_decide_eq_true c4, of_decide_eq_true c5, c6⟩, cell, code, hs, eqO_ok c7, eqO_ok c8, of_decide_eq_true c9, of_decide_eq_true c10, htop⟩,
          eqO_ok c11, of_decide_eq_true c12, ⟨_, _, _, _, _, _, q⟩, c13a, xfB_ok c14, fun g hg => eqO_ok (List.all_eq_true.mp c15 g hg)⟩
      · cases c13
    | _ => cases c13
/-! ### the Hook -/
def asX (g : Addr → Option Obj) : Nat → List Addr
  | 0 => [mainGlobals, PySem.cStatics]
  | n + 1 => growD g (asX g n)
abbrev AlX : Type := Bool × List FnW × List FnC
def obsX (file : Str) (more : PySem.W.Frag → Bool) (fa : List Fa) (fn : List DefD) (er : List ErrD) (K : PySem.W.Frag) : AlX :=
  ((fa.all fun f => f.ok K) && ((fn.all fun d => d.ok K) && ((er.all fun d => errB file K d) && more K)), fn.map fun d => fnW K d.at_, er.map fun d => fnC K d.x)
def valX (fn : List DefD) (er : List ErrD) : AlX := (true, fn.map DefD.val, er.map ErrD.val)
def SaysX (file : Str) (more : PySem.W.Frag → Bool) (fa : List Fa) (fn : List DefD) (er : List ErrD) (K : PySem.W.Frag) : Prop := obsX file more fa fn er K = valX fn er
def obsXG (file : Str) (more : PySem.W.Frag → Bool) (n : Nat) (fa : List Fa) (fn : List DefD) (er : List ErrD) (g : Addr → Option Obj) : AlX := obsX file more fa fn er (frG g (asX g n))
def hookX (file : Str) (more : PySem.W.Frag → Bool) (n : Nat) (fa : List Fa) (fn : List DefD) (er : List ErrD) : PySem.W.Hook where
  α := AlX
  obs := fun s => obsXG file more n fa fn er s.heap.get?
  val := fun _ => valX fn er
  says := fun _ h => ∃ K : PySem.W.Frag, K.In h ∧ SaysX file more fa fn er K
  of := fun _ _ e => ⟨_, frG_in, e⟩
  keeps := fun _ _ _ ⟨K, hK, c⟩ k => ⟨K, PySem.W.Frag.In.keeps hK k, c⟩
theorem obsXG_eq {file : Str} {more : PySem.W.Frag → Bool} {n : Nat} {fa : List Fa} {fn : List DefD} {er : List ErrD} {g : Addr → Option Obj} {s : Shared} (h : ∀ a, g a = s.heap.get? a) : obsXG file more n fa fn er g = (hookX file more n fa fn er).obs s := by
  have e : g = s.heap.get? := funext h
  rw [e] <;> rfl
section
variable {file : Str} {more : PySem.W.Frag → Bool} {fa : List Fa} {fn : List DefD} {er : List ErrD} {K : PySem.W.Frag}
theorem SaysX.all (c : SaysX file more fa fn er K) : (fa.all fun f => f.ok K) = true ∧ (fn.all fun d => d.ok K) = true ∧ (er.all fun d => errB file K d) = true ∧ more K = true := by
  obtain ⟨c1, c⟩ := ba (show ((fa.all fun f => f.ok K) && ((fn.all fun d => d.ok K) && ((er.all fun d => errB file K d) && more K))) = true from congrArg (fun z : AlX => z.1) c)
  obtain ⟨c2, c⟩ := ba c
  obtain ⟨c3, c4⟩ := ba c
  exact ⟨c1, c2, c3, c4⟩
theorem SaysX.fact (c : SaysX file more fa fn er K) {f : Fa} (h : f ∈ fa) : f.ok K = true := List.all_eq_true.mp c.all.1 f h
theorem SaysX.def_ (c : SaysX file more fa fn er K) (i : Nat) {d : DefD} (h : fn[i]? = some d := by rfl) : ∃ fd, FunD K d.name d.qual d.params d.body d.scope (d.dvs K) (d.kws K) (fAd K d.at_) fd := by
  have e : fn.map (fun d => fnW K d.at_) = fn.map DefD.val := congrArg (fun z : AlX => z.2.1) c
  have e2 : (fn.map fun d => fnW K d.at_)[i]? = (fn.map DefD.val)[i]? := by rw [e]
  rw [List.getElem?_map, List.getElem?_map, h] at e2
  exact DefD.funD (Option.some.inj e2) (List.all_eq_true.mp c.all.2.1 d (List.mem_of_getElem? h))
theorem SaysX.err (c : SaysX file more fa fn er K) (i : Nat) {d : ErrD} (h : er[i]? = some d := by rfl) : errB file K d = true ∧ fnC K d.x = d.val := by
  have e : er.map (fun d => fnC K d.x) = er.map ErrD.val := congrArg (fun z : AlX => z.2.2) c
  have e2 : (er.map fun d => fnC K d.x)[i]? = (er.map ErrD.val)[i]? := by rw [e]
  rw [List.getElem?_map, List.getElem?_map, h] at e2
  exact ⟨List.all_eq_true.mp c.all.2.2.1 d (List.mem_of_getElem? h), Option.some.inj e2⟩
end
end OR
set_option Elab.async false
set_option linter.all false
set_option maxRecDepth 100000
set_option maxHeartbeats 4000000
/-! E5: the three shapes of an error's __init__: one field, three, none. -/
namespace OR
open PySem PySem.Calls PySem.Spec PyProof.Rows L2 NdefX He
/-- what super().__init__(text) is, by its tree -/
def SupTree (msg : Str) (p0 p1 p2 p3 p4 : Pos) : Prop := ∀ env : Env, ∃ pl : Sem Bool, eval (.Call (.Attribute (.Call (.Name "super" p0) [] [] p1) "__init__" p2) [.Constant (.str msg) 0 p3] [] p4) env = (do
  let ov ← attributeBase (.Call (.Name "super" p0) [] [] p1) "__init__" env (eval (.Call (.Name "super" p0) [] [] p1) env)
  standAt p2.atName
  let (f, first) ← holding [ov] (getMethod ov "__init__" pl)
  callWith p4 f first (backTo p4 (starEach [.Constant (.str msg) 0 p3] env)) [])
/-- self.x = x -/
abbrev selfSt (x : Str) (q1 q2 q3 q4 : Pos) : Stmt := .Assign [.Attribute (.Name "self" q1) x q2] (.Name x q3) q4
/-- the text of such an __init__: its fields, in order -/
structure IniT (d : ErrD) (xs : List Str) : Prop where
  S : NScope (("self" : Str) :: (xs ++ [("__class__" : Str)])) (("self" : Str) :: xs) ["__class__"] d.scope
  hp : ∃ ar : Arg, (d.params.posonlyargs ++ d.params.args).head? = some ar ∧ ar.arg = "self"
  hks : d.scope.names.lookup ("super" : Str) = some .globalImplicit
  hb : ∀ (cl : List (Str × Addr)) (kV doc pm : Value) (an : Option Addr) (cdv ct : Value) (us : List Value), us.length = (("self" : Str) :: xs).length → bindArgs (PySem.W.fnX "__init__" d.qual d.params d.body d.scope cl .none kV doc pm an cdv ct) ⟨us, []⟩ = pure ((("self" : Str) :: xs).zip us)
  nd : ∀ x ∈ xs, (x == ("__debug__" : Str)) = false ∧ (x == ("__classdict__" : Str)) = false ∧ x ∈ d.flds
structure Ini1 (d : ErrD) (x : Str) : Prop extends IniT d [x] where
  body : ∃ msg p0 p1 p2 p3 p4 p5 q1 q2 q3 q4, d.body = [superSt msg p0 p1 p2 p3 p4 p5, selfSt x q1 q2 q3 q4] ∧ SupTree msg p0 p1 p2 p3 p4
structure Ini3 (d : ErrD) (x y z : Str) : Prop extends IniT d [x, y, z] where
  body : ∃ msg p0 p1 p2 p3 p4 p5 q1 q2 q3 q4 r1 r2 r3 r4 t1 t2 t3 t4, d.body = [superSt msg p0 p1 p2 p3 p4 p5, selfSt x q1 q2 q3 q4, selfSt y r1 r2 r3 r4, selfSt z t1 t2 t3 t4] ∧ SupTree msg p0 p1 p2 p3 p4
structure Ini0 (d : ErrD) : Prop extends IniT d [] where
  body : ∃ msg p0 p1 p2 p3 p4 p5, d.body = [superSt msg p0 p1 p2 p3 p4 p5] ∧ SupTree msg p0 p1 p2 p3 p4
abbrev fl1 (x : Str) : List V → List (Str × V) := fun vs => [(x, vs.getD 0 .non)]
abbrev fl3 (x y z : Str) : List V → List (Str × V) := fun vs => [(z, vs.getD 2 .non), (y, vs.getD 1 .non), (x, vs.getD 0 .non)]
section
variable {P : Program} {w : World} {K : PySem.W.Frag} {mg : Str → Option Value} {base : Heap} {d : ErrD} {f cc cda : Addr} {x y z : Str}
theorem spIni_len {C : Addr} {n : Nat} {fl : List V → List (Str × V)} {ps : List Str} (h : ps.length = n + 1) : ∀ vs H Q E, spIni C n fl vs H Q E → vs.length = ps.length := fun vs H Q E ⟨a, ws, e, l, _⟩ => by
  rw [e, List.length_cons, l, h]
theorem errOk1 (F : ErrF P K mg d f cc cda) (I : Ini1 d x) : ErrOk P w K mg base d.x (ga K d.x) (spIni (ga K d.x) 1 (fl1 x)) 1 := by
  obtain ⟨msg, p0, p1, p2, p3, p4, p5, q1, q2, q3, q4, hbd, hev⟩ := I.body
  obtain ⟨oc, od, doc, pm, ct, osl, lk⟩ := F.lk
  obtain ⟨ar, hp, har⟩ := I.hp
  refine ⟨F.U.T, F.gC, f, PySem.W.fnX "__init__" d.qual d.params d.body d.scope [("__class__", cc)] .none .none doc pm none (.ref cda) ct, ["self", x], F.iC, F.tI, ?_, .all (I.hb [("__class__", cc)] .none doc pm none (.ref cda) ct), rfl⟩
  rw [hbd] at lk ⊢
  refine init_super lk F.cd I.S F.U hp (by rw [har]; rfl) I.hks hev (spIni_len rfl) (fun vs H Q E ⟨a, ws, e, _, ha, _⟩ => ⟨a, ws, e, ha⟩) (fun A outer s H vs Q E h => ?_)
  obtain ⟨a, ws, rfl, hl, ha, k⟩ := h
  obtain ⟨v, rfl⟩ : ∃ v, ws = [v] := by
    match ws, hl with
    | [v], _ => exact ⟨v, rfl⟩
  obtain ⟨n1, n2, n3⟩ := I.nd x (by simp)
  exact ⟨_, pss_one (ps_ost (pv 0 (x := "self") rfl (.inl (I.S.par _ (by simp)))) (pv 1 (x := x) rfl (.inl (I.S.par _ (by simp))) n1 n2)), _, rfl, _, rfl, a, _, rfl, F.U.T, F.no x n3, .inl ⟨ha, fun dx hd hne => k dx hd hne⟩⟩
theorem errOk0 (F : ErrF P K mg d f cc cda) (I : Ini0 d) : ErrOk P w K mg base d.x (ga K d.x) (spIni0 (ga K d.x)) 0 := by
  obtain ⟨msg, p0, p1, p2, p3, p4, p5, hbd, hev⟩ := I.body
  obtain ⟨oc, od, doc, pm, ct, osl, lk⟩ := F.lk
  obtain ⟨ar, hp, har⟩ := I.hp
  refine ⟨F.U.T, F.gC, f, PySem.W.fnX "__init__" d.qual d.params d.body d.scope [("__class__", cc)] .none .none doc pm none (.ref cda) ct, ["self"], F.iC, F.tI, ?_, .all (I.hb [("__class__", cc)] .none doc pm none (.ref cda) ct), rfl⟩
  rw [hbd] at lk ⊢
  refine init_super lk F.cd I.S F.U hp (by rw [har]; rfl) I.hks hev (fun vs H Q E ⟨a, e, _⟩ => by rw [e]; rfl) (fun vs H Q E ⟨a, e, ha, _⟩ => ⟨a, [], e, ha⟩) (fun A outer s H vs Q E h => ?_)
  obtain ⟨a, rfl, ha, k⟩ := h
  exact ⟨_, pss_nil, k⟩
theorem errOk3 (F : ErrF P K mg d f cc cda) (I : Ini3 d x y z) : ErrOk P w K mg base d.x (ga K d.x) (spIni (ga K d.x) 3 (fl3 x y z)) 3 := by
  obtain ⟨msg, p0, p1, p2, p3, p4, p5, q1, q2, q3, q4, r1, r2, r3, r4, t1, t2, t3, t4, hbd, hev⟩ := I.body
  obtain ⟨oc, od, doc, pm, ct, osl, lk⟩ := F.lk
  obtain ⟨ar, hp, har⟩ := I.hp
  refine ⟨F.U.T, F.gC, f, PySem.W.fnX "__init__" d.qual d.params d.body d.scope [("__class__", cc)] .none .none doc pm none (.ref cda) ct, ["self", x, y, z], F.iC, F.tI, ?_, .all (I.hb [("__class__", cc)] .none doc pm none (.ref cda) ct), rfl⟩
  rw [hbd] at lk ⊢
  refine init_super lk F.cd I.S F.U hp (by rw [har]; rfl) I.hks hev (spIni_len rfl) (fun vs H Q E ⟨a, ws, e, _, ha, _⟩ => ⟨a, ws, e, ha⟩) (fun A outer s H vs Q E h => ?_)
  obtain ⟨a, ws, rfl, hl, ha, k⟩ := h
  obtain ⟨u, v, w', rfl⟩ : ∃ u v w', ws = [u, v, w'] := by
    match ws, hl with
    | [u, v, w'], _ => exact ⟨u, v, w', rfl⟩
  obtain ⟨n1, n2, n3⟩ := I.nd x (by simp)
  obtain ⟨m1, m2, m3⟩ := I.nd y (by simp)
  obtain ⟨l1, l2, l3⟩ := I.nd z (by simp)
  refine ⟨_, pss_cons (ps_ost (pv 0 (x := "self") rfl (.inl (I.S.par _ (by simp)))) (pv 1 (x := x) rfl (.inl (I.S.par _ (by simp))) n1 n2)) (pss_cons (ps_ost (pv 0 (x := "self") rfl (.inl (I.S.par _ (by simp)))) (pv 2 (x := y) rfl (.inl (I.S.par _ (by simp))) m1 m2))
    (pss_one (ps_ost (pv 0 (x := "self") rfl (.inl (I.S.par _ (by simp)))) (pv 3 (x := z) rfl (.inl (I.S.par _ (by simp))) l1 l2)))), ?_⟩
  refine ⟨_, rfl, _, rfl, a, _, rfl, F.U.T, F.no x n3, .inl ⟨ha, fun dx hd hne => ?_⟩⟩
  have hda : ∀ {o1 o2}, upd (upd H dx o1) a o2 dx = some o1 := fun {o1 o2} => by rw [upd_ne hne, upd_same]
  refine ⟨_, rfl, _, rfl, a, _, rfl, F.U.T, F.no y m3, .inr ⟨dx, _, upd_same, hda, by show 1 ≤ 900; decide, ?_⟩⟩
  rw [upd_swap (Ne.symm hne), upd_upd]
  refine ⟨_, rfl, _, rfl, a, _, rfl, F.U.T, F.no z l3, .inr ⟨dx, _, upd_same, hda, by show 2 ≤ 900; decide, ?_⟩⟩
  rw [upd_swap (Ne.symm hne), upd_upd]
  exact k dx hd hne
end
end OR
set_option Elab.async false
set_option linter.all false
set_option maxRecDepth 100000
set_option maxHeartbeats 4000000
/-! BG: the bag of draws that every law of this set has: its dict, what a draw promises (any row). -/
namespace OR
open PySem PySem.Calls PySem.Spec PyProof.Rows L2
/-- the bag's pairs, in the order in which they are laid -/
def bagK (c : Addr) (i dg n f : Int) : List (Key × V) := [(.inr "cells", .ref c), (.inr "at", .int i), (.inr "digits", .int dg), (.inr "count", .int n), (.inr "fold", .int f)]
section
variable {H : Hp} {b c : Addr} {i dg n f x : Int}
theorem g_cells (h : H b = some (.dK (bagK c i dg n f))) : DGet H b (.str "cells") (some (.ref c)) := .inl ⟨_, .inr "cells", .inl h, rfl, by kernel_rfl⟩
theorem g_at (h : H b = some (.dK (bagK c i dg n f))) : DGet H b (.str "at") (some (.int i)) := .inl ⟨_, .inr "at", .inl h, rfl, by kernel_rfl⟩
theorem g_digits (h : H b = some (.dK (bagK c i dg n f))) : DGet H b (.str "digits") (some (.int dg)) := .inl ⟨_, .inr "digits", .inl h, rfl, by kernel_rfl⟩
theorem g_count (h : H b = some (.dK (bagK c i dg n f))) : DGet H b (.str "count") (some (.int n)) := .inl ⟨_, .inr "count", .inl h, rfl, by kernel_rfl⟩
theorem g_fold (h : H b = some (.dK (bagK c i dg n f))) : DGet H b (.str "fold") (some (.int f)) := .inl ⟨_, .inr "fold", .inl h, rfl, by kernel_rfl⟩
theorem bag_len : (bagK c i dg n f).length < sizeLine := small1000 (by show 5 ≤ 1000; decide)
theorem p_at (h : H b = some (.dK (bagK c i dg n f))) : DPut H b (.str "at") (.int x) (upd H b (.dK (bagK c x dg n f))) := .inl ⟨_, .inr "at", h, rfl, bag_len, by kernel_rfl⟩
theorem p_digits (h : H b = some (.dK (bagK c i dg n f))) : DPut H b (.str "digits") (.int x) (upd H b (.dK (bagK c i x n f))) := .inl ⟨_, .inr "digits", h, rfl, bag_len, by kernel_rfl⟩
theorem p_count (h : H b = some (.dK (bagK c i dg n f))) : DPut H b (.str "count") (.int x) (upd H b (.dK (bagK c i dg x f))) := .inl ⟨_, .inr "count", h, rfl, bag_len, by kernel_rfl⟩
theorem p_fold (h : H b = some (.dK (bagK c i dg n f))) : DPut H b (.str "fold") (.int x) (upd H b (.dK (bagK c i dg n x))) := .inl ⟨_, .inr "fold", h, rfl, bag_len, by kernel_rfl⟩
end
/-- a bag stands at b; at most N draws were made -/
structure Bag (b c : Addr) (i dg n f : Int) (cs : List Int) (N : Nat) (H : Hp) : Prop where
  hb : H b = some (.dK (bagK c i dg n f))
  hc : H c = some (.lst (cs.map V.int))
  hi : 0 ≤ i ∧ i ≤ cs.length
  hd : 0 ≤ dg
  hn : 0 ≤ n ∧ n ≤ N
  hf : 0 ≤ f ∧ f < 2147483587
  hl : cs.length ≤ 63
def BagAt (b : Addr) (N : Nat) (H : Hp) : Prop := ∃ c i dg n f cs, Bag b c i dg n f cs N H
/-- all stands but the bag -/
def But (b : Addr) (H H' : Hp) : Prop := ∀ p o, p ≠ b → H p = some o → H' p = some o
theorem But.refl {b : Addr} {H : Hp} : But b H H := fun _ _ _ h => h
theorem But.trans {b : Addr} {H H1 H2 : Hp} (x : But b H H1) (y : But b H1 H2) : But b H H2 := fun p o n h => y p o n (x p o n h)
theorem But.new {b p : Addr} {H : Hp} {o : HO} (h : H p = none) : But b H (upd H p o) := fun q u _ e => by
  rw [upd_ne (ne_of_none e h)]
  exact e
theorem BagAt.mono {b : Addr} {N M : Nat} {H : Hp} (x : BagAt b N H) (h : N ≤ M) : BagAt b M H := by
  obtain ⟨c, i, dg, n, f, cs, x⟩ := x
  exact ⟨c, i, dg, n, f, cs, x.hb, x.hc, x.hi, x.hd, ⟨x.hn.1, by have := x.hn.2; omega⟩, x.hf, x.hl⟩
/-- a new object -/
theorem BagAt.new {b p : Addr} {N : Nat} {H : Hp} {o : HO} (x : BagAt b N H) (h : H p = none) : BagAt b N (upd H p o) := by
  obtain ⟨c, i, dg, n, f, cs, x⟩ := x
  exact ⟨c, i, dg, n, f, cs, by rw [upd_ne (ne_of_none x.hb h)]; exact x.hb, by rw [upd_ne (ne_of_none x.hc h)]; exact x.hc, x.hi, x.hd, x.hn, x.hf, x.hl⟩
theorem BagAt.same {b : Addr} {N : Nat} {H H' : Hp} (x : BagAt b N H) (e : Same H H') : BagAt b N H' := by
  obtain ⟨c, i, dg, n, f, cs, x⟩ := x
  exact ⟨c, i, dg, n, f, cs, e _ _ x.hb, e _ _ x.hc, x.hi, x.hd, x.hn, x.hf, x.hl⟩
/-- a list is no bag -/
theorem BagAt.ne_lst {b p : Addr} {N : Nat} {H : Hp} {xs : List V} (x : BagAt b N H) (h : H p = some (.lst xs)) : p ≠ b := by
  obtain ⟨c, i, dg, n, f, cs, x⟩ := x
  exact ne_of h x.hb (by intro z; cases z)
theorem BagAt.ne_tup {b p : Addr} {N : Nat} {H : Hp} {xs : List V} (x : BagAt b N H) (h : H p = some (.tup xs)) : p ≠ b := by
  obtain ⟨c, i, dg, n, f, cs, x⟩ := x
  exact ne_of h x.hb (by intro z; cases z)
theorem But.of {b : Addr} {H H' : Hp} (e : Same H H') : But b H H' := fun p o _ h => e p o h
/-- what a draw promises -/
def spDraw : Sp := fun vs H Q _ => ∃ (b : Addr) (l : Int) (N : Nat), vs = [.ref b, .int l] ∧ BagAt b N H ∧ N < 2 ^ 40 ∧ 0 < l ∧ l < 2 ^ 200 ∧
  ∀ (d : Int) (H' : Hp), 0 ≤ d → d < l → BagAt b (N + 1) H' → (∀ p, p ≠ b → H' p = H p) → Q (.int d) H'
/-- what the bag's making promises -/
def spBag (K : PySem.W.Frag) : Sp := fun vs H Q _ => ∃ (a : Addr) (ns : List Int), vs = [.ref a] ∧ SqL K H a (ns.map V.int) ∧ ns.length ≤ 63 ∧
  ∀ (b : Addr) (H' : Hp), H b = none → BagAt b 0 H' → (∀ p o, H p = some o → H' p = some o) → Q (.ref b) H'
end OR
set_option Elab.async false
set_option linter.all false
set_option maxRecDepth 100000
set_option maxHeartbeats 4000000
namespace K00
open PySem PySem.Calls PySem.Spec PyProof.Rows L2 OR
def top (i : Nat) : Stmt := PySem.Challenge.pw_openrings_k00_errors_made_from_their_fie.main.body.getD i (.Pass ⟨0, 0, 0, 0⟩)
abbrev s_bag : Stmt := top 16
abbrev s_draw : Stmt := top 17
theorem sc_bag : FnScope ["script", "fold", "cell"] ["script"] (defScope s_bag) := ⟨rfl, rfl, rfl, by decide +kernel, rfl, by decide +kernel, by decide +kernel⟩
theorem sc_draw : FnScope ["bag", "limit", "cell", "digit", "base"] ["bag", "limit"] (defScope s_draw) := ⟨rfl, rfl, rfl, by decide +kernel, rfl, by decide +kernel, by decide +kernel⟩
section
variable {P : Program} {w : World} {K : PySem.W.Frag} {mg : Str → Option Value} {base : Heap}
theorem ok_bag {f : Addr} {fd : FuncData} (F : Fun K "_law_bag" "_law_bag" s_bag f fd) (mg_int : mg "int" = none) (mg_list : mg "list" = none) : FnOk P w K mg base CX0 1 f fd ["script"] (spBag K) := by
  refine F.ok sc_bag (fun vs H Q E h => ?_) (fun cdv A outer s H vs Q E hr h => ?_)
  · obtain ⟨a, ns, rfl, _⟩ := h
    rfl
  · obtain ⟨a, ns, rfl, hS, hl, k⟩ := h
    refine ⟨_, (pss_cons (ps_set (i := 1) sc_bag.nd rfl (.inl rfl) pe_int)
      (pss_cons (ps_for PassesOwn.never rfl (pi_list (pv 0)) (pg_name (i := 2) sc_bag.nd rfl (.inl rfl)) (pss_one (ps_set (i := 1) sc_bag.nd rfl (.inl rfl) (pe_op op_mod (pe_callTy call_int1 (by rfl) mg_int (by decide +kernel) (pa_cons (pe_op op_add (pe_op op_mul (pv 1) pe_int) (pv 2)) pa_nil)) pe_int))))
      (pss_one (ps_ret (pe_disp (pps_cons pe_str (pe_callTy call_list_of (by rfl) mg_list (by decide +kernel) (pa_cons (pv 0) pa_nil)) (pps_cons pe_str pe_int (pps_cons pe_str pe_int (pps_cons pe_str pe_int (pps_cons pe_str (pv 1) pps_nil))))) (by rfl) (by rfl) (fun z => by cases z) (by decide)))))), ?_⟩
    refine ⟨_, rfl, a, rfl, ⟨_, hS⟩, for_list (xs := ns.map V.int) (fun i σ H' => H' = H ∧ ∃ (f : Int) (z : Option V), σ = [some (.ref a), some (.int f), z] ∧ 0 ≤ f ∧ f < 1000000009) ⟨rfl, 0, none, rfl, by decide, by decide⟩ (fun i σ H' hi p => ?_) (fun i x σ H' hx p => ?_) (fun σ H' p => ?_)⟩
    · obtain ⟨rfl, _⟩ := p
      exact hS
    · obtain ⟨rfl, f, z, rfl, h0, h1⟩ := p
      obtain ⟨n, rfl⟩ : ∃ n, x = V.int n := by
        rw [List.getElem?_map] at hx
        cases e : ns[i]? with
        | none => rw [e] at hx; cases hx
        | some n => rw [e] at hx; exact ⟨n, (Option.some.inj hx).symm⟩
      refine ⟨_, rfl, _, _, rfl, rfl, .inr ⟨by decide, by decide⟩, _, rfl, _, _, rfl, rfl, .inl ⟨_, rfl, _, _, rfl, rfl, (by show (0 : Int) < 1000000009; decide), ?_⟩⟩
      exact ⟨rfl, (f * 37 + n) % 1000000009, some (.int n), rfl, Int.emod_nonneg _ (by decide), Int.emod_lt_of_pos _ (by decide)⟩
    · obtain ⟨rfl, f, z, rfl, h0, h1⟩ := p
      intro p hp
      have e1 : Same H' (upd H' p (.dK [])) := fun b o e => by rw [upd_ne (ne_of_none e hp)]; exact e
      refine ⟨_, rfl, a, _, rfl, .inl (e1.seq hS), fun l hlp => ?_⟩
      have nlp : p ≠ l := ne_of_none upd_same hlp
      have hl' : H' l = none := by rw [upd_ne (Ne.symm nlp)] at hlp; exact hlp
      refine ⟨_, rfl, by rw [upd_ne nlp, upd_same], [(.inr "cells", .ref l), (.inr "at", .int 0), (.inr "digits", .int 0), (.inr "count", .int 0), (.inr "fold", .int f)], rfl, by show 5 ≤ 15; decide, ?_⟩
      have em : mergeK [] [((.inr "cells" : Key), V.ref l), (.inr "at", .int 0), (.inr "digits", .int 0), (.inr "count", .int 0), (.inr "fold", .int f)] = bagK l 0 0 0 f := by kernel_rfl
      rw [em]
      refine k p _ hp ⟨l, 0, 0, 0, f, ns, upd_same, by rw [upd_ne (Ne.symm nlp), upd_same], ⟨by decide, by omega⟩, by decide, ⟨by decide, by decide⟩, ⟨h0, by omega⟩, hl⟩ fun q o e => ?_
      rw [upd_ne (ne_of_none e hp), upd_ne (ne_of_none e hl'), upd_ne (ne_of_none e hp)]
      exact e
theorem ok_draw {f : Addr} {fd : FuncData} (F : Fun K "_law_draw" "_law_draw" s_draw f fd) (mg_int : mg "int" = none) (mg_len : mg "len" = none) : FnOk P w K mg base CX0 1 f fd ["bag", "limit"] spDraw := by
  refine F.ok sc_draw (fun vs H Q E h => ?_) (fun cdv A outer s H vs Q E hr h => ?_)
  · obtain ⟨b, l, N, rfl, _⟩ := h
    rfl
  · obtain ⟨b, l, N, rfl, hB, hN, hl0, hl1, k⟩ := h
    have hu := hu_of hr
    refine ⟨_, (pss_cons (ps_dput hu (pv 0) pe_str (pe_op op_add (pe_dget hu (pv 0) pe_str (fun _ _ => rfl)) pe_int) rfl)
      (Evl.pss_cut (ps_if (PW.pt (pw_and (pt_cmpR op_eq (pe_dget hu (pv 0) pe_str (fun _ _ => rfl)) pe_int (nomark _)) (pw_and1 (pt_cmpR op_lt (pe_dget hu (pv 0) pe_str (fun _ _ => rfl)) (pe_callB call_len_seq (by rfl) mg_len PySem.boot_len (pa_cons (pe_dget hu (pv 0) pe_str (fun _ _ => rfl)) pa_nil)) (nomark _))))) (pss_cons (ps_set (i := 2) sc_draw.nd rfl (.inl rfl) (pe_ix ix_list (pe_dget hu (pv 0) pe_str (fun _ _ => rfl)) (pe_dget hu (pv 0) pe_str (fun _ _ => rfl)) (fun _ _ => rfl)))
      (pss_cons (ps_dput hu (pv 0) pe_str (pe_op op_add (pe_dget hu (pv 0) pe_str (fun _ _ => rfl)) pe_int) rfl)
      (pss_one (ps_if (pt_cmpR op_ge (pv 2) (pe_op op_pow pe_int pe_int) (nomark _)) (pss_one (ps_dput hu (pv 0) pe_str (pe_op op_sub (pv 2) (pe_op op_pow pe_int pe_int)) rfl)) (pss_one (ps_dput hu (pv 0) pe_str (pe_op op_mod (pe_callTy call_int1 (by rfl) mg_int (by decide +kernel) (pa_cons (pe_op op_add (pe_op op_mul (pe_dget hu (pv 0) pe_str (fun _ _ => rfl)) pe_int) (pv 2)) pa_nil)) pe_int) rfl)))))) pss_nil)
      (pss_cons (ps_if (pt_cmpR op_gt (pe_dget hu (pv 0) pe_str (fun _ _ => rfl)) pe_int (nomark _)) (pss_cons (ps_set (i := 3) sc_draw.nd rfl (.inl rfl) (pe_op op_mod (pe_callTy call_int1 (by rfl) mg_int (by decide +kernel) (pa_cons (pe_dget hu (pv 0) pe_str (fun _ _ => rfl)) pa_nil)) (pv 1)))
      (pss_cons (ps_dput hu (pv 0) pe_str (pe_op op_fdivW (pe_dget hu (pv 0) pe_str (fun _ _ => rfl)) (pv 1)) rfl)
      (pss_one (ps_ret (pv 3))))) pss_nil)
      (pss_cons (ps_set (i := 4) sc_draw.nd rfl (.inl rfl) (pe_op op_add (pe_op op_add (pe_dget hu (pv 0) pe_str (fun _ _ => rfl)) (pe_op op_mul (pe_dget hu (pv 0) pe_str (fun _ _ => rfl)) pe_int)) pe_int))
      (pss_one (ps_ret (pe_op op_mod (pe_op op_fdivW (pe_callTy call_int1 (by rfl) mg_int (by decide +kernel) (pa_cons (pe_op op_mod (pe_op op_pow (pv 4) pe_int) pe_int) pa_nil)) pe_int) (pv 1)))))))), ?_⟩
    obtain ⟨c, i, dg, n, f, cs, B⟩ := hB
    have ncb : c ≠ b := ne_of B.hc B.hb (by intro z; cases z)
    -- bag["count"] = bag["count"] + 1
    refine ⟨_, rfl, b, _, rfl, g_count B.hb, _, _, rfl, rfl, _, rfl, b, _, rfl, p_count B.hb, ?_⟩
    refine ⟨fun σ' H' => ∃ (i dg f : Int) (z : Option V), σ' = [some (.ref b), some (.int l), z, none, none] ∧ Bag b c i dg (n + 1) f cs (N + 1) H' ∧ ∀ p, p ≠ b → H' p = H p, ?_, ?_⟩
    · have hb1 : upd H b (.dK (bagK c i dg (n + 1) f)) b = some (.dK (bagK c i dg (n + 1) f)) := upd_same
      have hc1 : ∀ {kv}, upd H b (.dK kv) c = some (.lst (cs.map V.int)) := fun {kv} => by rw [upd_ne ncb]; exact B.hc
      have off : ∀ {kv} (p : Addr), p ≠ b → upd H b (.dK kv) p = H p := fun {kv} p hp => upd_ne hp
      have hn1 : 0 ≤ n + 1 ∧ n + 1 ≤ ((N + 1 : Nat) : Int) := ⟨by have := B.hn; omega, by have := B.hn; omega⟩
      have B1 : Bag b c i dg (n + 1) f cs (N + 1) (upd H b (.dK (bagK c i dg (n + 1) f))) := ⟨hb1, hc1, B.hi, B.hd, hn1, B.hf, B.hl⟩
      refine ⟨_, rfl, b, _, rfl, g_digits hb1, rfl, _, rfl, ite2 (fun h => ?_) (fun h => ?_)⟩
      · refine ⟨_, rfl, b, _, rfl, g_at hb1, _, rfl, b, _, rfl, g_cells hb1, c, _, rfl, .inl (SqL.of hc1), _, _, rfl, rfl, _, rfl, ite2 (fun h2 => ?_) (fun h2 => ?_)⟩
        · have h2 : i < ((cs.map V.int).length : Int) := of_decide_eq_true h2
          rw [List.length_map] at h2
          obtain ⟨j, hj⟩ : ∃ j : Nat, i = (j : Int) := ⟨i.toNat, by have := B.hi.1; omega⟩
          have hlt : j < cs.length := by omega
          refine ⟨_, rfl, b, _, rfl, g_cells hb1, _, rfl, b, _, rfl, g_at hb1, c, _, i, _, rfl, rfl, SqL.of hc1, at_of (v := V.int cs[j]) hj (by rw [List.getElem?_map, List.getElem?_eq_getElem hlt]; rfl), ?_⟩
          refine ⟨_, rfl, b, _, rfl, g_at hb1, _, _, rfl, rfl, _, rfl, b, _, rfl, p_at hb1, ?_⟩
          rw [upd_upd]
          refine ⟨_, rfl, _, _, rfl, rfl, ⟨by decide, by decide, by decide⟩, _, _, rfl, rfl, _, rfl, ite2 (fun h3 => ?_) (fun h3 => ?_)⟩
          · have h3 : (10 : Int) ^ (18 : Int).toNat ≤ cs[j] := of_decide_eq_true h3
            refine ⟨_, rfl, _, _, rfl, rfl, ⟨by decide, by decide, by decide⟩, _, _, rfl, rfl, _, rfl, b, _, rfl, p_digits upd_same, ?_⟩
            rw [upd_upd]
            exact ⟨i + 1, _, f, _, rfl, ⟨upd_same, hc1, by omega, by omega, hn1, B.hf, B.hl⟩, off⟩
          · refine ⟨_, rfl, b, _, rfl, g_fold upd_same, _, _, rfl, rfl, .inr ⟨by decide, by decide⟩, _, rfl, _, _, rfl, rfl, .inl ⟨_, rfl, _, _, rfl, rfl, (by show (0 : Int) < 2147483587; decide), _, rfl, b, _, rfl, p_fold upd_same, ?_⟩⟩
            rw [upd_upd]
            exact ⟨i + 1, dg, _, _, rfl, ⟨upd_same, hc1, by omega, B.hd, hn1, ⟨Int.emod_nonneg _ (by decide), Int.emod_lt_of_pos _ (by decide)⟩, B.hl⟩, off⟩
        · exact ⟨i, dg, f, none, rfl, B1, off⟩
      · refine iteF ?_
        exact ⟨i, dg, f, none, rfl, B1, off⟩
    · rintro σ' H' ⟨i, dg, f, z, rfl, B2, e2⟩
      have off2 : ∀ {kv} (p : Addr), p ≠ b → upd H' b (.dK kv) p = H p := fun {kv} p hp => (upd_ne hp).trans (e2 p hp)
      have hc2 : ∀ {kv}, upd H' b (.dK kv) c = some (.lst (cs.map V.int)) := fun {kv} => by rw [upd_ne ncb]; exact B2.hc
      refine ⟨_, rfl, b, _, rfl, g_digits B2.hb, _, _, rfl, rfl, _, rfl, ite2 (fun h => ?_) (fun h => ?_)⟩
      · have h : (0 : Int) < dg := of_decide_eq_true h
        refine ⟨_, rfl, b, _, rfl, g_digits B2.hb, .inl ⟨_, rfl, _, rfl, _, _, rfl, rfl, hl0, ?_⟩⟩
        refine ⟨_, rfl, b, _, rfl, g_digits B2.hb, _, rfl, _, _, rfl, rfl, wide_div (b := 200) hl0 (by omega) (by decide) (by decide), _, rfl, b, _, rfl, p_digits B2.hb, _, rfl, ?_⟩
        exact k _ _ (Int.emod_nonneg _ (by omega)) (Int.emod_lt_of_pos _ hl0) ⟨c, i, _, n + 1, f, cs, upd_same, hc2, B2.hi, Int.ediv_nonneg (by omega) (by omega), B2.hn, B2.hf, B2.hl⟩ off2
      · refine ⟨_, rfl, b, _, rfl, g_fold B2.hb, _, rfl, b, _, rfl, g_count B2.hb, _, _, rfl, rfl, .inr ⟨by decide, by decide⟩, _, _, rfl, rfl, _, _, rfl, rfl, ?_⟩
        have hpow : (f + (n + 1) * 7907 + 31).natAbs < 2 ^ 64 := by
          have h1 := B2.hf
          have h2 := B2.hn
          omega
        refine ⟨_, rfl, _, _, rfl, rfl, ⟨by decide, by decide, hpow⟩, _, _, rfl, rfl, (by show (0 : Int) < 2305843009213693951; decide), .inl ⟨_, rfl, _, _, rfl, rfl, wide_div (b := 8) (by decide) (by decide) (by decide) (by decide), _, rfl, _, _, rfl, rfl, hl0, ?_⟩⟩
        exact k _ _ (Int.emod_nonneg _ (by omega)) (Int.emod_lt_of_pos _ hl0) ⟨c, i, dg, n + 1, f, cs, B2⟩ e2
end
end K00
set_option Elab.async false
set_option linter.all false
set_option maxRecDepth 100000
set_option maxHeartbeats 4000000
namespace K00
open PySem PySem.Calls PySem.Spec PyProof.Rows L2 L2H OR He
/-- the names of the errors, by their numbers -/
def eN (k : Nat) : Str := (["BadKind", "BadWay", "BadLine", "Refused", "BadRing", "BadHanded", "BadPromise", "NoLine", "BadSize", "BadName", "NoDeed", "NothingToUndo", "TooMany"] : List Str).getD k ""
def eG (k : Nat) : Str := (["kind", "way", "line", "line", "ring", "handed", "promise", "line", "n", "name", "name"] : List Str).getD k ""
abbrev eC (K : PySem.W.Frag) (k : Nat) : Addr := ga K (eN k)
def eFs (k : Nat) : List Str := if k < 11 then [eG k] else if k = 12 then ["what", "many", "most"] else []
def eV (k : Nat) (a b c : V) : List (Str × V) := if k < 11 then [(eG k, a)] else [("most", c), ("many", b), ("what", a)]
/-- the error number k with its fields, behind the heap H -/
def Raised (k : Nat) (a b c : V) (H : Hp) (d : Option Addr) (H' : Hp) : Prop := (k = 11 ∧ d = none ∧ H' = H) ∨ (k ≠ 11 ∧ ∃ dd, d = some dd ∧ H dd = none ∧ H' = upd H dd (.xd (eV k a b c)))
theorem Raised.same {k : Nat} {a b c : V} {H H' : Hp} {d : Option Addr} (h : Raised k a b c H d H') : Same H H' := by
  rcases h with ⟨_, _, rfl⟩ | ⟨_, dd, _, hd, rfl⟩
  · exact Same.refl _
  · exact fun q o e => by rw [upd_ne (ne_of_none e hd)]; exact e
theorem Raised.dok {k : Nat} {a b c : V} {H H' : Hp} {d : Option Addr} (h : Raised k a b c H d H') : DOk d H' := by
  rcases h with ⟨_, rfl, rfl⟩ | ⟨_, dd, rfl, hd, rfl⟩
  · exact .inl rfl
  · exact .inr ⟨dd, _, rfl, upd_same⟩
def errs : List ErrD := [⟨"BadKind", "BadKind.__init__", defArgs (inClass (top 2) 0), defBody (inClass (top 2) 0), defScope (inClass (top 2) 0), ["kind"]⟩,
  ⟨"BadWay", "BadWay.__init__", defArgs (inClass (top 3) 0), defBody (inClass (top 3) 0), defScope (inClass (top 3) 0), ["way"]⟩,
  ⟨"BadLine", "BadLine.__init__", defArgs (inClass (top 4) 0), defBody (inClass (top 4) 0), defScope (inClass (top 4) 0), ["line"]⟩,
  ⟨"Refused", "Refused.__init__", defArgs (inClass (top 5) 0), defBody (inClass (top 5) 0), defScope (inClass (top 5) 0), ["line"]⟩,
  ⟨"BadRing", "BadRing.__init__", defArgs (inClass (top 6) 0), defBody (inClass (top 6) 0), defScope (inClass (top 6) 0), ["ring"]⟩,
  ⟨"BadHanded", "BadHanded.__init__", defArgs (inClass (top 7) 0), defBody (inClass (top 7) 0), defScope (inClass (top 7) 0), ["handed"]⟩,
  ⟨"BadPromise", "BadPromise.__init__", defArgs (inClass (top 8) 0), defBody (inClass (top 8) 0), defScope (inClass (top 8) 0), ["promise"]⟩,
  ⟨"NoLine", "NoLine.__init__", defArgs (inClass (top 9) 0), defBody (inClass (top 9) 0), defScope (inClass (top 9) 0), ["line"]⟩,
  ⟨"BadSize", "BadSize.__init__", defArgs (inClass (top 10) 0), defBody (inClass (top 10) 0), defScope (inClass (top 10) 0), ["n"]⟩,
  ⟨"BadName", "BadName.__init__", defArgs (inClass (top 11) 0), defBody (inClass (top 11) 0), defScope (inClass (top 11) 0), ["name"]⟩,
  ⟨"NoDeed", "NoDeed.__init__", defArgs (inClass (top 12) 0), defBody (inClass (top 12) 0), defScope (inClass (top 12) 0), ["name"]⟩,
  ⟨"NothingToUndo", "NothingToUndo.__init__", defArgs (inClass (top 13) 0), defBody (inClass (top 13) 0), defScope (inClass (top 13) 0), []⟩,
  ⟨"TooMany", "TooMany.__init__", defArgs (inClass (top 14) 0), defBody (inClass (top 14) 0), defScope (inClass (top 14) 0), ["what", "many", "most"]⟩]
structure Tx (P : Program) (w : World) (K : PySem.W.Frag) (mg : Str → Option Value) (base : Heap) : Prop where
  e : ∀ k, k < 11 → ErrOk P w K mg base (eN k) (eC K k) (spIni (eC K k) 1 (fl1 (eG k))) 1
  e11 : ErrOk P w K mg base (eN 11) (eC K 11) (spIni0 (eC K 11)) 0
  e12 : ErrOk P w K mg base (eN 12) (eC K 12) (spIni (eC K 12) 3 (fl3 "what" "many" "most")) 3
  g : ∀ k, k < 13 → mg (eN k) = some (.ref (eC K k))
  xf : ∀ k, k < 13 → XfC K (eC K k)
  no : ∀ k, k < 13 → ∀ f ∈ eFs k, PySem.W.findIn K (.ref (eC K k)) f = some none
  xc : ∀ k, k < 13 → ExcC K (eC K k)
  exm : ∀ k j, k < 13 → j < 13 → PySem.W.exmOne K (.ref (eC K k)) (.ref (eC K j)) = some (decide (j = k))
  exmR : ∀ k, k < 13 → PySem.W.exmOne K (.ref (eC K k)) (.ref (ga K "RingError")) = some true
  kit : ∀ k j, k < 13 → j < 13 → PySem.W.kitOne K (.ref (eC K k)) (.ref (eC K j)) = some (decide (j = k))
  kitV : ∀ k, k < 13 → PySem.W.kitOne K (.ref (eC K k)) (.type "ValueError") = some true
  mg_RingError : mg "RingError" = some (.ref (ga K "RingError"))
  mg_ValueError : mg "ValueError" = none
  mg_isinstance : mg "isinstance" = none
  mg_range : mg "range" = none
  mg_int : mg "int" = none
  mg_list : mg "list" = none
  mg_len : mg "len" = none

abbrev s_thing : Stmt := top 18
abbrev s_r0 : Stmt := top 19
abbrev s_r1 : Stmt := top 20
abbrev s_r : Stmt := top 21
theorem sc_thing : FnScope ["bag"] ["bag"] (defScope s_thing) := ⟨rfl, rfl, rfl, by decide +kernel, rfl, by decide +kernel, by decide +kernel⟩
theorem sc_r0 : FnScope ["k", "a", "b", "c"] ["k", "a", "b", "c"] (defScope s_r0) := ⟨rfl, rfl, rfl, by decide +kernel, rfl, by decide +kernel, by decide +kernel⟩
theorem sc_r1 : FnScope ["k", "a", "b", "c"] ["k", "a", "b", "c"] (defScope s_r1) := ⟨rfl, rfl, rfl, by decide +kernel, rfl, by decide +kernel, by decide +kernel⟩
theorem sc_r : FnScope ["k", "a", "b", "c"] ["k", "a", "b", "c"] (defScope s_r) := ⟨rfl, rfl, rfl, by decide +kernel, rfl, by decide +kernel, by decide +kernel⟩
/-- data that == may ask, at most three deep -/
def Thg (K : PySem.W.Frag) (H : Hp) (v : V) : Prop := ∃ d, Dp K H v d ∧ d.canLay0 = true ∧ d.depth ≤ 3
def spThing (K : PySem.W.Frag) : Sp := fun vs H Q _ => ∃ (b : Addr) (N : Nat), vs = [.ref b] ∧ BagAt b N H ∧ N < 2 ^ 39 ∧ ∀ v H', BagAt b (N + 2) H' → But b H H' → Thg K H' v → Q v H'
/-- the errors from lo up to hi are raised -/
def spRaised (K : PySem.W.Frag) (lo hi : Nat) : Sp := fun vs H _ E => ∃ (k : Nat) (a b c : V), vs = [.int k, a, b, c] ∧ lo ≤ k ∧ k < hi ∧ ∀ d H', Raised k a b c H d H' → E (.ref (eC K k)) d H'
section
variable {P : Program} {w : World} {K : PySem.W.Frag} {mg : Str → Option Value} {base : Heap} {f : Addr} {fd : FuncData}
theorem thg_flat {H : Hp} {v : V} {d : PyData} (h : Dp K H v d) (h1 : d.canLay0 = true) (h2 : d.depth ≤ 3) : Thg K H v := ⟨d, h, h1, h2⟩
theorem ok_thing {fD : Addr} {fdD : FuncData} (F : Fun K "_law_thing" "_law_thing" s_thing f fd) (T : Tx P w K mg base) (G : FnOk P w K mg base CX0 1 fD fdD ["bag", "limit"] spDraw) (kp : PySem.W.keepIn K (.ref fD) = true) (bD : Binds K fdD ["bag", "limit"] []) (gD : mg "_law_draw" = some (.ref fD)) :
    FnOk P w K mg base CX0 2 f fd ["bag"] (spThing K) := by
  refine F.ok sc_thing (fun vs H Q E h => ?_) (fun cdv A outer s H vs Q E hr h => ?_)
  · obtain ⟨b, N, rfl, _⟩ := h
    rfl
  · obtain ⟨b, N, rfl, hB, hN, k⟩ := h
    refine ⟨_, (pss_one (ps_ret (pe_ix ix_list (pe_lst (pa_cons (pe_op op_sub (pe_call G hr (by rfl) gD kp bD .nil pass0 (pa_cons (pv 0) (pa_cons (pe_op op_pow pe_int pe_int) pa_nil))) (pe_op op_pow pe_int pe_int)) (pa_cons pe_str (pa_cons pe_str (pa_cons pe_non (pa_cons pe_bl (pa_cons (pe_tup (pa_cons pe_int (pa_cons pe_str pa_nil))) (pa_cons (pe_lst pa_nil) (pa_cons (pe_lst (pa_cons pe_int pa_nil)) (pa_cons pe_int pa_nil)))))))))) (pe_call G hr (by rfl) gD kp bD .nil pass0 (pa_cons (pv 0) (pa_cons pe_int pa_nil))) (fun _ _ => rfl)))), ?_⟩
    refine ⟨_, rfl, _, _, rfl, rfl, ⟨by decide, by decide, by decide⟩, b, _, N, rfl, hB, by omega, by decide, by decide, fun d1 H1 d0 d2 B1 e1 => ?_⟩
    have f1 : But b H H1 := fun p o n e => by rw [e1 p n]; exact e
    refine ⟨_, _, rfl, rfl, ⟨by decide, by decide, by decide⟩, _, _, rfl, rfl, (by show 2 ≤ sizeLine; decide), fun t ht => ?_⟩
    refine ⟨(by show 0 ≤ sizeLine; decide), fun l1 hl1 => ⟨(by show 1 ≤ sizeLine; decide), fun l2 hl2 => ⟨(by show 9 ≤ sizeLine; decide), fun L hL => ?_⟩⟩⟩
    have B5 := (((B1.new (o := .tup [V.int 1, V.str "a"]) ht).new (o := .lst []) hl1).new (o := .lst [V.int 3]) hl2)
    have f5 := ((f1.trans (But.new (o := .tup [V.int 1, V.str "a"]) ht)).trans (But.new (o := .lst []) hl1)).trans (But.new (o := .lst [V.int 3]) hl2)
    refine ⟨_, rfl, b, _, N + 1, rfl, B5.new hL, by omega, by decide, by decide, fun d H6 h0 h9 B6 e6 => ?_⟩
    have nb : L ≠ b := fun z => by
      obtain ⟨c, i, dg, n, f, cs, B⟩ := B5
      rw [z, B.hb] at hL
      cases hL
    have e6L : ∀ p o, p ≠ b → upd _ L _ p = some o → H6 p = some o := fun p o n e => by rw [e6 p n]; exact e
    have tT : ∀ {o}, upd (upd (upd (upd H1 t (.tup [V.int 1, V.str "a"])) l1 (.lst [])) l2 (.lst [V.int 3])) L o t = some (.tup [V.int 1, V.str "a"]) := fun {o} => by
      have n1 : t ≠ l1 := ne_of_none upd_same hl1
      have n2 : t ≠ l2 := ne_of_none (by rw [upd_ne n1, upd_same]) hl2
      have n3 : t ≠ L := ne_of_none (by rw [upd_ne n2, upd_ne n1, upd_same]) hL
      rw [upd_ne n3, upd_ne n2, upd_ne n1, upd_same]
    have tl1 : ∀ {o}, upd (upd (upd (upd H1 t (.tup [V.int 1, V.str "a"])) l1 (.lst [])) l2 (.lst [V.int 3])) L o l1 = some (.lst []) := fun {o} => by
      have n2 : l1 ≠ l2 := ne_of_none upd_same hl2
      have n3 : l1 ≠ L := ne_of_none (by rw [upd_ne n2, upd_same]) hL
      rw [upd_ne n3, upd_ne n2, upd_same]
    have tl2 : ∀ {o}, upd (upd (upd (upd H1 t (.tup [V.int 1, V.str "a"])) l1 (.lst [])) l2 (.lst [V.int 3])) L o l2 = some (.lst [V.int 3]) := fun {o} => by
      have n3 : l2 ≠ L := ne_of_none upd_same hL
      rw [upd_ne n3, upd_same]
    have tn : t ≠ b ∧ l1 ≠ b ∧ l2 ≠ b := by
      obtain ⟨c, i, dg, n, f, cs, B⟩ := B5.new (o := .lst []) hL
      refine ⟨fun z => ?_, fun z => ?_, fun z => ?_⟩
      · have q := B.hb
        rw [← z, tT] at q
        cases q
      · have q := B.hb
        rw [← z, tl1] at q
        cases q
      · have q := B.hb
        rw [← z, tl2] at q
        cases q
    obtain ⟨j, rfl⟩ : ∃ j : Nat, d = (j : Int) := ⟨d.toNat, by omega⟩
    have hj : j < 9 := by omega
    refine ⟨L, _, _, ([.int (d1 - 10 ^ (19 : Int).toNat), .str "", .str "p1", .non, .bl true, .ref t, .ref l1, .ref l2, .int 0] : List V).getD j .non, rfl, rfl, SqL.of (by rw [e6 L nb, upd_same]), ?_, ?_⟩
    · refine atI_nat ?_
      match j, hj with
      | 0, _ => rfl
      | 1, _ => rfl
      | 2, _ => rfl
      | 3, _ => rfl
      | 4, _ => rfl
      | 5, _ => rfl
      | 6, _ => rfl
      | 7, _ => rfl
      | 8, _ => rfl
    · refine k _ _ B6 (f5.trans ((But.new hL).trans fun p o n e => by rw [e6 p n]; exact e)) ?_
      match j, hj with
      | 0, _ => exact thg_flat (Dp.int _) rfl (by show 0 ≤ 3; decide)
      | 1, _ => exact thg_flat (Dp.str _) (by decide +kernel) (by show 0 ≤ 3; decide)
      | 2, _ => exact thg_flat (Dp.str _) (by decide +kernel) (by show 0 ≤ 3; decide)
      | 3, _ => exact thg_flat Dp.non rfl (by show 0 ≤ 3; decide)
      | 4, _ => exact thg_flat (Dp.bl _) rfl (by show 0 ≤ 3; decide)
      | 5, _ => exact thg_flat (Dp.tup (SqT.of (e6L t _ tn.1 tT)) (.cons (Dp.int 1) (.cons (Dp.str "a") .nil))) (by decide +kernel) (by decide)
      | 6, _ => exact thg_flat (Dp.lst (SqL.of (e6L l1 _ tn.2.1 tl1)) .nil) rfl (by decide)
      | 7, _ => exact thg_flat (Dp.lst (SqL.of (e6L l2 _ tn.2.2 tl2)) (.cons (Dp.int 3) .nil)) rfl (by decide)
      | 8, _ => exact thg_flat (Dp.int _) rfl (by show 0 ≤ 3; decide)
end
end K00
set_option Elab.async false
set_option linter.all false
set_option maxRecDepth 100000
set_option maxHeartbeats 4000000
namespace K00
open PySem PySem.Calls PySem.Spec PyProof.Rows L2 L2H OR He
section
variable {P : Program} {w : World} {K : PySem.W.Frag} {mg : Str → Option Value} {base : Heap} {f : Addr} {fd : FuncData}
theorem ok_r0 (F : Fun K "_law_raised_0" "_law_raised_0" s_r0 f fd) (T : Tx P w K mg base) : FnOk P w K mg base (L2.CX P w) 3 f fd ["k", "a", "b", "c"] (spRaised K 0 8) := by
  refine F.okX sc_r0 (fun vs H Q E h => ?_) (fun cdv A outer s H vs Q E hr h => ?_)
  · obtain ⟨k, a, b, c, rfl, _⟩ := h
    rfl
  · obtain ⟨k, a, b, c, rfl, hlo, hhi, hE⟩ := h
    refine ⟨_, (pss_cons (ps_if (pt_cmpR op_eq (pv 0) pe_int (nomark _)) (pss_one (ps_raise rfl (takes_of rfl rfl rfl rfl) (pmk_err (T.e 0 (by decide)) (by decide) hr (pa_cons (pv 1) pa_nil) (by rfl)))) pss_nil)
      (pss_cons (ps_if (pt_cmpR op_eq (pv 0) pe_int (nomark _)) (pss_one (ps_raise rfl (takes_of rfl rfl rfl rfl) (pmk_err (T.e 1 (by decide)) (by decide) hr (pa_cons (pv 1) pa_nil) (by rfl)))) pss_nil)
      (pss_cons (ps_if (pt_cmpR op_eq (pv 0) pe_int (nomark _)) (pss_one (ps_raise rfl (takes_of rfl rfl rfl rfl) (pmk_err (T.e 2 (by decide)) (by decide) hr (pa_cons (pv 1) pa_nil) (by rfl)))) pss_nil)
      (pss_cons (ps_if (pt_cmpR op_eq (pv 0) pe_int (nomark _)) (pss_one (ps_raise rfl (takes_of rfl rfl rfl rfl) (pmk_err (T.e 3 (by decide)) (by decide) hr (pa_cons (pv 1) pa_nil) (by rfl)))) pss_nil)
      (pss_cons (ps_if (pt_cmpR op_eq (pv 0) pe_int (nomark _)) (pss_one (ps_raise rfl (takes_of rfl rfl rfl rfl) (pmk_err (T.e 4 (by decide)) (by decide) hr (pa_cons (pv 1) pa_nil) (by rfl)))) pss_nil)
      (pss_cons (ps_if (pt_cmpR op_eq (pv 0) pe_int (nomark _)) (pss_one (ps_raise rfl (takes_of rfl rfl rfl rfl) (pmk_err (T.e 5 (by decide)) (by decide) hr (pa_cons (pv 1) pa_nil) (by rfl)))) pss_nil)
      (pss_cons (ps_if (pt_cmpR op_eq (pv 0) pe_int (nomark _)) (pss_one (ps_raise rfl (takes_of rfl rfl rfl rfl) (pmk_err (T.e 6 (by decide)) (by decide) hr (pa_cons (pv 1) pa_nil) (by rfl)))) pss_nil)
      (pss_cons (ps_if (pt_cmpR op_eq (pv 0) pe_int (nomark _)) (pss_one (ps_raise rfl (takes_of rfl rfl rfl rfl) (pmk_err (T.e 7 (by decide)) (by decide) hr (pa_cons (pv 1) pa_nil) (by rfl)))) pss_nil)
      (pss_one (ps_ret pe_non)))))))))), ?_⟩
    refine ⟨_, rfl, rfl, _, rfl, ite2 (fun h0 => ?_) (fun h0 => ?_)⟩
    · have z := V.int.inj (of_decide_eq_true h0)
      have z : k = 0 := by omega
      subst z
      exact ⟨_, rfl, rfl, fun d hd => hE (some d) _ (.inr ⟨by decide, d, rfl, hd, rfl⟩)⟩
    refine ⟨_, rfl, rfl, _, rfl, ite2 (fun h1 => ?_) (fun h1 => ?_)⟩
    · have z := V.int.inj (of_decide_eq_true h1)
      have z : k = 1 := by omega
      subst z
      exact ⟨_, rfl, rfl, fun d hd => hE (some d) _ (.inr ⟨by decide, d, rfl, hd, rfl⟩)⟩
    refine ⟨_, rfl, rfl, _, rfl, ite2 (fun h2 => ?_) (fun h2 => ?_)⟩
    · have z := V.int.inj (of_decide_eq_true h2)
      have z : k = 2 := by omega
      subst z
      exact ⟨_, rfl, rfl, fun d hd => hE (some d) _ (.inr ⟨by decide, d, rfl, hd, rfl⟩)⟩
    refine ⟨_, rfl, rfl, _, rfl, ite2 (fun h3 => ?_) (fun h3 => ?_)⟩
    · have z := V.int.inj (of_decide_eq_true h3)
      have z : k = 3 := by omega
      subst z
      exact ⟨_, rfl, rfl, fun d hd => hE (some d) _ (.inr ⟨by decide, d, rfl, hd, rfl⟩)⟩
    refine ⟨_, rfl, rfl, _, rfl, ite2 (fun h4 => ?_) (fun h4 => ?_)⟩
    · have z := V.int.inj (of_decide_eq_true h4)
      have z : k = 4 := by omega
      subst z
      exact ⟨_, rfl, rfl, fun d hd => hE (some d) _ (.inr ⟨by decide, d, rfl, hd, rfl⟩)⟩
    refine ⟨_, rfl, rfl, _, rfl, ite2 (fun h5 => ?_) (fun h5 => ?_)⟩
    · have z := V.int.inj (of_decide_eq_true h5)
      have z : k = 5 := by omega
      subst z
      exact ⟨_, rfl, rfl, fun d hd => hE (some d) _ (.inr ⟨by decide, d, rfl, hd, rfl⟩)⟩
    refine ⟨_, rfl, rfl, _, rfl, ite2 (fun h6 => ?_) (fun h6 => ?_)⟩
    · have z := V.int.inj (of_decide_eq_true h6)
      have z : k = 6 := by omega
      subst z
      exact ⟨_, rfl, rfl, fun d hd => hE (some d) _ (.inr ⟨by decide, d, rfl, hd, rfl⟩)⟩
    refine ⟨_, rfl, rfl, _, rfl, ite2 (fun h7 => ?_) (fun h7 => ?_)⟩
    · have z := V.int.inj (of_decide_eq_true h7)
      have z : k = 7 := by omega
      subst z
      exact ⟨_, rfl, rfl, fun d hd => hE (some d) _ (.inr ⟨by decide, d, rfl, hd, rfl⟩)⟩
    have n0 : k ≠ 0 := fun z => h0 (decide_eq_true (by rw [z]; rfl))
    have n1 : k ≠ 1 := fun z => h1 (decide_eq_true (by rw [z]; rfl))
    have n2 : k ≠ 2 := fun z => h2 (decide_eq_true (by rw [z]; rfl))
    have n3 : k ≠ 3 := fun z => h3 (decide_eq_true (by rw [z]; rfl))
    have n4 : k ≠ 4 := fun z => h4 (decide_eq_true (by rw [z]; rfl))
    have n5 : k ≠ 5 := fun z => h5 (decide_eq_true (by rw [z]; rfl))
    have n6 : k ≠ 6 := fun z => h6 (decide_eq_true (by rw [z]; rfl))
    have n7 : k ≠ 7 := fun z => h7 (decide_eq_true (by rw [z]; rfl))
    exfalso
    omega
theorem ok_r1 (F : Fun K "_law_raised_1" "_law_raised_1" s_r1 f fd) (T : Tx P w K mg base) : FnOk P w K mg base (L2.CX P w) 3 f fd ["k", "a", "b", "c"] (spRaised K 8 13) := by
  refine F.okX sc_r1 (fun vs H Q E h => ?_) (fun cdv A outer s H vs Q E hr h => ?_)
  · obtain ⟨k, a, b, c, rfl, _⟩ := h
    rfl
  · obtain ⟨k, a, b, c, rfl, hlo, hhi, hE⟩ := h
    refine ⟨_, (pss_cons (ps_if (pt_cmpR op_eq (pv 0) pe_int (nomark _)) (pss_one (ps_raise rfl (takes_of rfl rfl rfl rfl) (pmk_err (T.e 8 (by decide)) (by decide) hr (pa_cons (pv 1) pa_nil) (by rfl)))) pss_nil)
      (pss_cons (ps_if (pt_cmpR op_eq (pv 0) pe_int (nomark _)) (pss_one (ps_raise rfl (takes_of rfl rfl rfl rfl) (pmk_err (T.e 9 (by decide)) (by decide) hr (pa_cons (pv 1) pa_nil) (by rfl)))) pss_nil)
      (pss_cons (ps_if (pt_cmpR op_eq (pv 0) pe_int (nomark _)) (pss_one (ps_raise rfl (takes_of rfl rfl rfl rfl) (pmk_err (T.e 10 (by decide)) (by decide) hr (pa_cons (pv 1) pa_nil) (by rfl)))) pss_nil)
      (pss_cons (ps_if (pt_cmpR op_eq (pv 0) pe_int (nomark _)) (pss_one (ps_raise rfl (takes_of rfl rfl rfl rfl) (pmk_err0 T.e11 hr (by rfl)))) pss_nil)
      (pss_cons (ps_if (pt_cmpR op_eq (pv 0) pe_int (nomark _)) (pss_one (ps_raise rfl (takes_of rfl rfl rfl rfl) (pmk_err T.e12 (by decide) hr (pa_cons (pv 1) (pa_cons (pv 2) (pa_cons (pv 3) pa_nil))) (by rfl)))) pss_nil)
      (pss_one (ps_ret pe_non))))))), ?_⟩
    refine ⟨_, rfl, rfl, _, rfl, ite2 (fun h8 => ?_) (fun h8 => ?_)⟩
    · have z := V.int.inj (of_decide_eq_true h8)
      have z : k = 8 := by omega
      subst z
      exact ⟨_, rfl, rfl, fun d hd => hE (some d) _ (.inr ⟨by decide, d, rfl, hd, rfl⟩)⟩
    refine ⟨_, rfl, rfl, _, rfl, ite2 (fun h9 => ?_) (fun h9 => ?_)⟩
    · have z := V.int.inj (of_decide_eq_true h9)
      have z : k = 9 := by omega
      subst z
      exact ⟨_, rfl, rfl, fun d hd => hE (some d) _ (.inr ⟨by decide, d, rfl, hd, rfl⟩)⟩
    refine ⟨_, rfl, rfl, _, rfl, ite2 (fun h10 => ?_) (fun h10 => ?_)⟩
    · have z := V.int.inj (of_decide_eq_true h10)
      have z : k = 10 := by omega
      subst z
      exact ⟨_, rfl, rfl, fun d hd => hE (some d) _ (.inr ⟨by decide, d, rfl, hd, rfl⟩)⟩
    refine ⟨_, rfl, rfl, _, rfl, ite2 (fun h11 => ?_) (fun h11 => ?_)⟩
    · have z := V.int.inj (of_decide_eq_true h11)
      have z : k = 11 := by omega
      subst z
      exact hE none _ (.inl ⟨rfl, rfl, rfl⟩)
    refine ⟨_, rfl, rfl, _, rfl, ite2 (fun h12 => ?_) (fun h12 => ?_)⟩
    · have z := V.int.inj (of_decide_eq_true h12)
      have z : k = 12 := by omega
      subst z
      exact ⟨_, rfl, _, rfl, _, rfl, rfl, fun d hd => hE (some d) _ (.inr ⟨by decide, d, rfl, hd, rfl⟩)⟩
    have n8 : k ≠ 8 := fun z => h8 (decide_eq_true (by rw [z]; rfl))
    have n9 : k ≠ 9 := fun z => h9 (decide_eq_true (by rw [z]; rfl))
    have n10 : k ≠ 10 := fun z => h10 (decide_eq_true (by rw [z]; rfl))
    have n11 : k ≠ 11 := fun z => h11 (decide_eq_true (by rw [z]; rfl))
    have n12 : k ≠ 12 := fun z => h12 (decide_eq_true (by rw [z]; rfl))
    exfalso
    omega
theorem ok_r {f0 f1 : Addr} {fd0 fd1 : FuncData} (F : Fun K "_law_raised" "_law_raised" s_r f fd) (G0 : FnOk P w K mg base (L2.CX P w) 3 f0 fd0 ["k", "a", "b", "c"] (spRaised K 0 8)) (G1 : FnOk P w K mg base (L2.CX P w) 3 f1 fd1 ["k", "a", "b", "c"] (spRaised K 8 13))
    (kp0 : PySem.W.keepIn K (.ref f0) = true) (kp1 : PySem.W.keepIn K (.ref f1) = true) (b0 : Binds K fd0 ["k", "a", "b", "c"] []) (b1 : Binds K fd1 ["k", "a", "b", "c"] []) (g0 : mg "_law_raised_0" = some (.ref f0)) (g1 : mg "_law_raised_1" = some (.ref f1)) :
    FnOk P w K mg base (L2.CX P w) 4 f fd ["k", "a", "b", "c"] (spRaised K 0 13) := by
  refine F.okX sc_r (fun vs H Q E h => ?_) (fun cdv A outer s H vs Q E hr h => ?_)
  · obtain ⟨k, a, b, c, rfl, _⟩ := h
    rfl
  · obtain ⟨k, a, b, c, rfl, hlo, hhi, hE⟩ := h
    refine ⟨_, (pss_cons (ps_if (pt_cmpR op_lt (pv 0) pe_int (nomark _)) (pss_one (ps_ret (pe_call (E := E) G0 hr (by rfl) g0 kp0 b0 .nil (passes_call (takes_of rfl rfl rfl rfl) fun _ _ _ _ z => z) (pa_cons (pv 0) (pa_cons (pv 1) (pa_cons (pv 2) (pa_cons (pv 3) pa_nil))))))) pss_nil)
      (pss_one (ps_ret (pe_call (E := E) G1 hr (by rfl) g1 kp1 b1 .nil (passes_call (takes_of rfl rfl rfl rfl) fun _ _ _ _ z => z) (pa_cons (pv 0) (pa_cons (pv 1) (pa_cons (pv 2) (pa_cons (pv 3) pa_nil)))))))), ?_⟩
    refine ⟨_, rfl, _, _, rfl, rfl, _, rfl, ite2 (fun h => ?_) (fun h => ?_)⟩
    · have h : (k : Int) < 8 := of_decide_eq_true h
      exact ⟨_, rfl, _, rfl, _, rfl, _, rfl, k, a, b, c, rfl, by omega, by omega, hE⟩
    · have h : ¬ (k : Int) < 8 := fun z => h (decide_eq_true z)
      exact ⟨_, rfl, _, rfl, _, rfl, _, rfl, k, a, b, c, rfl, by omega, by omega, hE⟩
end
end K00
set_option Elab.async false
set_option linter.all false
set_option maxRecDepth 100000
set_option maxHeartbeats 4000000
namespace K00
open PySem PySem.Calls PySem.Spec PyProof.Rows L2 L2H OR He
section
variable {P : Program} {w : World} {K : PySem.W.Frag} {mg : Str → Option Value} {base : Heap} {f : Addr} {fd : FuncData}
theorem okE {x qual : Str} {st : Stmt} {N ps : List Str} {k : Nat} {sp : Addr → Value → Option Addr → Sp} (F : Fun K x qual st f fd) (S : FnScope N ps (defScope st)) (len : ∀ a cls d vs H Q E, sp a cls d vs H Q E → vs.length = ps.length)
    (hbody : ∀ (cdv : Value) (A : Around) (outer : List Env) (s : Shared) (H : Hp) (vs : List V) (Q : VK) (a : Addr) (oe : Obj) (cls : Value) (d : Option Addr), RoomH k (A.deeper (envOfC qual (defScope st) s.heap.objs.size f cdv)) → Zc cls d oe → (∃ vs, oe.data = .fields vs) → sp a cls d vs H Q E0 →
      ∃ t, PSs (cxH CX0 P w K mg base N qual (defScope st) f cdv A outer s H E0 (a, oe)) (defBody st) t ∧ t { nx := fun _ H' => Q .non H', rt := Q } (L2.start N vs) H) : FnE P w K mg base (k + 1) f fd ps sp := by
  obtain ⟨oc, od, kV, doc, pm, an, cdv, ct, osl, rfl, lk, hcd⟩ := F.ex
  exact fn_ofE lk hcd S len fun A outer s H vs Q a oe cls d hr hz hf h => hbody cdv A outer s H vs Q a oe cls d hr hz hf h
abbrev s_kinds : Stmt := top 22
abbrev s_caught : Stmt := top 23
abbrev s_f0 : Stmt := top 24
abbrev s_f1 : Stmt := top 25
abbrev s_f : Stmt := top 26
theorem sc_kinds : FnScope ["e", "found"] ["e"] (defScope s_kinds) := ⟨rfl, rfl, rfl, by decide +kernel, rfl, by decide +kernel, by decide +kernel⟩
theorem sc_caught : FnScope ["k", "a", "b", "c", "e"] ["k", "a", "b", "c"] (defScope s_caught) := ⟨rfl, rfl, rfl, by decide +kernel, rfl, by decide +kernel, by decide +kernel⟩
theorem sc_f0 : FnScope ["k", "a", "b", "c", "told", "e"] ["k", "a", "b", "c"] (defScope s_f0) := ⟨rfl, rfl, rfl, by decide +kernel, rfl, by decide +kernel, by decide +kernel⟩
theorem sc_f1 : FnScope ["k", "a", "b", "c", "told", "e"] ["k", "a", "b", "c"] (defScope s_f1) := ⟨rfl, rfl, rfl, by decide +kernel, rfl, by decide +kernel, by decide +kernel⟩
theorem sc_f : FnScope ["k", "a", "b", "c"] ["k", "a", "b", "c"] (defScope s_f) := ⟨rfl, rfl, rfl, by decide +kernel, rfl, by decide +kernel, by decide +kernel⟩
theorem Same.new {H : Hp} {p : Addr} {o : HO} (h : H p = none) : Same H (upd H p o) := fun q u e => by rw [upd_ne (ne_of_none e h)]; exact e
abbrev kindL (k n : Nat) : List V := (List.range n).map fun j => V.bl (decide (j = k))
def spKinds (K : PySem.W.Frag) : Addr → Value → Option Addr → Sp := fun a cls d vs H Q _ => ∃ k, vs = [.ref a] ∧ k < 13 ∧ cls = .ref (eC K k) ∧ DOk d H ∧ ∀ p H', Same H H' → H p = none → H' p = some (.lst (kindL k 13)) → Q (.ref p) H'
theorem ok_kinds (F : Fun K "_law_kinds_of" "_law_kinds_of" s_kinds f fd) (T : Tx P w K mg base) : FnE P w K mg base 1 f fd ["e"] (spKinds K) := by
  refine okE F sc_kinds (fun a cls d vs H Q E h => ?_) (fun cdv A outer s H vs Q a oe cls d hr hz hf h => ?_)
  · obtain ⟨k, rfl, _⟩ := h
    rfl
  · obtain ⟨k, rfl, hk, rfl, hd, q⟩ := h
    refine ⟨_, (Evl.pss_cut (ps_set (i := 1) sc_kinds.nd rfl (.inl rfl) (pe_lst (pa_cons (pe_callB (call_isP hz hf (List.mem_cons_self ..)) (by rfl) T.mg_isinstance (by decide +kernel) (pa_cons (pv 0) (pa_cons (pe_glob (v := .ref (eC K 0)) (by rfl) (T.g 0 (by decide)) rfl) pa_nil))) (pa_cons (pe_callB (call_isP hz hf (List.mem_cons_self ..)) (by rfl) T.mg_isinstance (by decide +kernel) (pa_cons (pv 0) (pa_cons (pe_glob (v := .ref (eC K 1)) (by rfl) (T.g 1 (by decide)) rfl) pa_nil))) (pa_cons (pe_callB (call_isP hz hf (List.mem_cons_self ..)) (by rfl) T.mg_isinstance (by decide +kernel) (pa_cons (pv 0) (pa_cons (pe_glob (v := .ref (eC K 2)) (by rfl) (T.g 2 (by decide)) rfl) pa_nil))) pa_nil)))))
      (Evl.pss_cut (ps_set (i := 1) sc_kinds.nd rfl (.inl rfl) (pe_op op_cat (pv 1) (pe_lst (pa_cons (pe_callB (call_isP hz hf (List.mem_cons_self ..)) (by rfl) T.mg_isinstance (by decide +kernel) (pa_cons (pv 0) (pa_cons (pe_glob (v := .ref (eC K 3)) (by rfl) (T.g 3 (by decide)) rfl) pa_nil))) (pa_cons (pe_callB (call_isP hz hf (List.mem_cons_self ..)) (by rfl) T.mg_isinstance (by decide +kernel) (pa_cons (pv 0) (pa_cons (pe_glob (v := .ref (eC K 4)) (by rfl) (T.g 4 (by decide)) rfl) pa_nil))) (pa_cons (pe_callB (call_isP hz hf (List.mem_cons_self ..)) (by rfl) T.mg_isinstance (by decide +kernel) (pa_cons (pv 0) (pa_cons (pe_glob (v := .ref (eC K 5)) (by rfl) (T.g 5 (by decide)) rfl) pa_nil))) pa_nil))))))
      (Evl.pss_cut (ps_set (i := 1) sc_kinds.nd rfl (.inl rfl) (pe_op op_cat (pv 1) (pe_lst (pa_cons (pe_callB (call_isP hz hf (List.mem_cons_self ..)) (by rfl) T.mg_isinstance (by decide +kernel) (pa_cons (pv 0) (pa_cons (pe_glob (v := .ref (eC K 6)) (by rfl) (T.g 6 (by decide)) rfl) pa_nil))) (pa_cons (pe_callB (call_isP hz hf (List.mem_cons_self ..)) (by rfl) T.mg_isinstance (by decide +kernel) (pa_cons (pv 0) (pa_cons (pe_glob (v := .ref (eC K 7)) (by rfl) (T.g 7 (by decide)) rfl) pa_nil))) (pa_cons (pe_callB (call_isP hz hf (List.mem_cons_self ..)) (by rfl) T.mg_isinstance (by decide +kernel) (pa_cons (pv 0) (pa_cons (pe_glob (v := .ref (eC K 8)) (by rfl) (T.g 8 (by decide)) rfl) pa_nil))) pa_nil))))))
      (Evl.pss_cut (ps_set (i := 1) sc_kinds.nd rfl (.inl rfl) (pe_op op_cat (pv 1) (pe_lst (pa_cons (pe_callB (call_isP hz hf (List.mem_cons_self ..)) (by rfl) T.mg_isinstance (by decide +kernel) (pa_cons (pv 0) (pa_cons (pe_glob (v := .ref (eC K 9)) (by rfl) (T.g 9 (by decide)) rfl) pa_nil))) (pa_cons (pe_callB (call_isP hz hf (List.mem_cons_self ..)) (by rfl) T.mg_isinstance (by decide +kernel) (pa_cons (pv 0) (pa_cons (pe_glob (v := .ref (eC K 10)) (by rfl) (T.g 10 (by decide)) rfl) pa_nil))) (pa_cons (pe_callB (call_isP hz hf (List.mem_cons_self ..)) (by rfl) T.mg_isinstance (by decide +kernel) (pa_cons (pv 0) (pa_cons (pe_glob (v := .ref (eC K 11)) (by rfl) (T.g 11 (by decide)) rfl) pa_nil))) pa_nil))))))
      (Evl.pss_cut (ps_set (i := 1) sc_kinds.nd rfl (.inl rfl) (pe_op op_cat (pv 1) (pe_lst (pa_cons (pe_callB (call_isP hz hf (List.mem_cons_self ..)) (by rfl) T.mg_isinstance (by decide +kernel) (pa_cons (pv 0) (pa_cons (pe_glob (v := .ref (eC K 12)) (by rfl) (T.g 12 (by decide)) rfl) pa_nil))) pa_nil))))
      (pss_one (ps_ret (pv 1)))))))), ?_⟩
    refine ⟨fun σ H' => ∃ p : Addr, σ = [some (.ref a), some (.ref p)] ∧ Same H H' ∧ H p = none ∧ H' p = some (.lst (kindL k 3)), ?_, ?_⟩
    · refine ⟨_, rfl, eC K k, _, _, _, rfl, T.xc k hk, rfl, (fun u r => r), dok_same hd (Same.refl H), T.kit k 0 hk (by decide), _, rfl, eC K k, _, _, _, rfl, T.xc k hk, rfl, (fun u r => r), dok_same hd (Same.refl H), T.kit k 1 hk (by decide), _, rfl, eC K k, _, _, _, rfl, T.xc k hk, rfl, (fun u r => r), dok_same hd (Same.refl H), T.kit k 2 hk (by decide), (by show 3 ≤ sizeLine; decide), fun p hp => ?_⟩
      exact ⟨p, rfl, Same.new hp, hp, upd_same⟩
    rintro σ H2 ⟨p, rfl, sm, hp0, hp⟩
    refine ⟨fun σ H' => ∃ p : Addr, σ = [some (.ref a), some (.ref p)] ∧ Same H H' ∧ H p = none ∧ H' p = some (.lst (kindL k 6)), ?_, ?_⟩
    · refine ⟨_, rfl, _, rfl, eC K k, _, _, _, rfl, T.xc k hk, rfl, (fun u r => r), dok_same hd sm, T.kit k 3 hk (by decide), _, rfl, eC K k, _, _, _, rfl, T.xc k hk, rfl, (fun u r => r), dok_same hd sm, T.kit k 4 hk (by decide), _, rfl, eC K k, _, _, _, rfl, T.xc k hk, rfl, (fun u r => r), dok_same hd sm, T.kit k 5 hk (by decide), (by show 3 ≤ sizeLine; decide), fun p2 hp2 => ?_⟩
      refine ⟨p, p2, _, _, rfl, rfl, by rw [upd_ne (ne_of_none hp hp2)]; exact hp, upd_same, (by show 6 ≤ sizeLine; decide), fun p3 hp3 => ?_⟩
      exact ⟨p3, rfl, (sm.trans (Same.new hp2)).trans (Same.new hp3), Same.free (sm.trans (Same.new hp2)) hp3, upd_same⟩
    rintro σ H2 ⟨p, rfl, sm, hp0, hp⟩
    refine ⟨fun σ H' => ∃ p : Addr, σ = [some (.ref a), some (.ref p)] ∧ Same H H' ∧ H p = none ∧ H' p = some (.lst (kindL k 9)), ?_, ?_⟩
    · refine ⟨_, rfl, _, rfl, eC K k, _, _, _, rfl, T.xc k hk, rfl, (fun u r => r), dok_same hd sm, T.kit k 6 hk (by decide), _, rfl, eC K k, _, _, _, rfl, T.xc k hk, rfl, (fun u r => r), dok_same hd sm, T.kit k 7 hk (by decide), _, rfl, eC K k, _, _, _, rfl, T.xc k hk, rfl, (fun u r => r), dok_same hd sm, T.kit k 8 hk (by decide), (by show 3 ≤ sizeLine; decide), fun p2 hp2 => ?_⟩
      refine ⟨p, p2, _, _, rfl, rfl, by rw [upd_ne (ne_of_none hp hp2)]; exact hp, upd_same, (by show 9 ≤ sizeLine; decide), fun p3 hp3 => ?_⟩
      exact ⟨p3, rfl, (sm.trans (Same.new hp2)).trans (Same.new hp3), Same.free (sm.trans (Same.new hp2)) hp3, upd_same⟩
    rintro σ H2 ⟨p, rfl, sm, hp0, hp⟩
    refine ⟨fun σ H' => ∃ p : Addr, σ = [some (.ref a), some (.ref p)] ∧ Same H H' ∧ H p = none ∧ H' p = some (.lst (kindL k 12)), ?_, ?_⟩
    · refine ⟨_, rfl, _, rfl, eC K k, _, _, _, rfl, T.xc k hk, rfl, (fun u r => r), dok_same hd sm, T.kit k 9 hk (by decide), _, rfl, eC K k, _, _, _, rfl, T.xc k hk, rfl, (fun u r => r), dok_same hd sm, T.kit k 10 hk (by decide), _, rfl, eC K k, _, _, _, rfl, T.xc k hk, rfl, (fun u r => r), dok_same hd sm, T.kit k 11 hk (by decide), (by show 3 ≤ sizeLine; decide), fun p2 hp2 => ?_⟩
      refine ⟨p, p2, _, _, rfl, rfl, by rw [upd_ne (ne_of_none hp hp2)]; exact hp, upd_same, (by show 12 ≤ sizeLine; decide), fun p3 hp3 => ?_⟩
      exact ⟨p3, rfl, (sm.trans (Same.new hp2)).trans (Same.new hp3), Same.free (sm.trans (Same.new hp2)) hp3, upd_same⟩
    rintro σ H2 ⟨p, rfl, sm, hp0, hp⟩
    refine ⟨fun σ H' => ∃ p : Addr, σ = [some (.ref a), some (.ref p)] ∧ Same H H' ∧ H p = none ∧ H' p = some (.lst (kindL k 13)), ?_, ?_⟩
    · refine ⟨_, rfl, _, rfl, eC K k, _, _, _, rfl, T.xc k hk, rfl, (fun u r => r), dok_same hd sm, T.kit k 12 hk (by decide), (by show 1 ≤ sizeLine; decide), fun p2 hp2 => ?_⟩
      refine ⟨p, p2, _, _, rfl, rfl, by rw [upd_ne (ne_of_none hp hp2)]; exact hp, upd_same, (by show 13 ≤ sizeLine; decide), fun p3 hp3 => ?_⟩
      exact ⟨p3, rfl, (sm.trans (Same.new hp2)).trans (Same.new hp3), Same.free (sm.trans (Same.new hp2)) hp3, upd_same⟩
    rintro σ H2 ⟨p, rfl, sm, hp0, hp⟩
    exact ⟨_, rfl, q p _ sm hp0 hp⟩
def spCaught (K : PySem.W.Frag) : Sp := fun vs H Q _ => ∃ (k : Nat) (a b c : V), vs = [.int k, a, b, c] ∧ k < 13 ∧ ∀ p H', Same H H' → H p = none → H' p = some (.lst (.bl true :: kindL k 13)) → Q (.ref p) H'
theorem ok_caught {fR fK : Addr} {fdR fdK : FuncData} (F : Fun K "_law_caught" "_law_caught" s_caught f fd) (T : Tx P w K mg base) (GR : FnOk P w K mg base (L2.CX P w) 4 fR fdR ["k", "a", "b", "c"] (spRaised K 0 13)) (kpR : PySem.W.keepIn K (.ref fR) = true) (bR : Binds K fdR ["k", "a", "b", "c"] []) (gR : mg "_law_raised" = some (.ref fR))
    (GK : FnE P w K mg base 1 fK fdK ["e"] (spKinds K)) (kpK : PySem.W.keepIn K (.ref fK) = true) (bK : Binds K fdK ["e"] []) (gK : mg "_law_kinds_of" = some (.ref fK)) : FnOk P w K mg base CX0 5 f fd ["k", "a", "b", "c"] (spCaught K) := by
  refine F.ok sc_caught (fun vs H Q E h => ?_) (fun cdv A outer s H vs Q E hr h => ?_)
  · obtain ⟨k, a, b, c, rfl, _⟩ := h
    rfl
  · obtain ⟨k, a, b, c, rfl, hk, q⟩ := h
    have hrH : RoomH 1 (A.deeper (envOfC "_law_caught" (defScope s_caught) s.heap.objs.size f cdv)) := roomH_of (hr.mono (by decide))
    refine ⟨_, (pss_cons (ps_tryC rfl rfl sc_caught.nd takes0 (fun W pn xe tk _ => (pss_one (ps_expr (pe_callS GR hr (by rfl) gR kpR bR (fun σ => passAt tk σ) (pa_cons (pv 0) (pa_cons (pv 1) (pa_cons (pv 2) (pa_cons (pv 3) pa_nil))))))))
      (.named ⟨rfl, by decide, .inl T.mg_RingError⟩ (i := 4) rfl rfl (fun x oe cls d pn hz hf => (pss_one (ps_ret (pe_op op_cat (pe_lst (pa_cons (pe_callB (call_isS hz hf) (by rfl) T.mg_isinstance (by decide +kernel) (pa_cons (pv 4) (pa_cons (pe_bltn (v := .ty "ValueError") (by rfl) T.mg_ValueError PyProof.Rows.Boot.«ValueError» rfl) pa_nil))) pa_nil))
        (pe_callE GK ⟨hrH.dp, hrH.un⟩ hz hf (List.mem_cons_self ..) (by rfl) gK kpK bK (pa_cons (pv 4) pa_nil)))))) .nil))
      (pss_one (ps_ret (pe_lst pa_nil)))), ?_⟩
    refine ⟨_, rfl, _, rfl, _, rfl, _, rfl, k, a, b, c, rfl, by omega, hk, fun d H' hR => ?_⟩
    refine ⟨true, T.exmR k hk, fun _ x hx => ?_, fun z => by cases z⟩
    refine ⟨_, rfl, eC K k, _, _, _, rfl, T.xc k hk, rfl, (fun u r => r), hR.dok, T.kitV k hk, (by show 1 ≤ sizeLine; decide), fun p hp => ?_⟩
    refine ⟨_, rfl, k, rfl, hk, rfl, dok_same hR.dok (Same.new hp), fun p2 H2 s2 n2 e2 => ?_⟩
    have np : p ≠ p2 := ne_of_none upd_same n2
    refine ⟨p, p2, _, _, rfl, rfl, s2 _ _ upd_same, e2, (by show 14 ≤ sizeLine; decide), fun p3 hp3 => ?_⟩
    exact q p3 _ (((hR.same.trans (Same.new hp)).trans s2).trans (Same.new hp3)) (Same.free ((hR.same.trans (Same.new hp)).trans s2) hp3) upd_same
/-- the fields that an error is asked for -/
def fieldL (k : Nat) (a b c : V) : List V := if k < 11 then [a] else if k = 12 then [a, b, c] else []
def spFields (K : PySem.W.Frag) (lo hi : Nat) : Sp := fun vs H Q _ => ∃ (k : Nat) (a b c : V), vs = [.int k, a, b, c] ∧ lo ≤ k ∧ k < hi ∧ ∀ p H', Same H H' → H p = none → H' p = some (.lst (fieldL k a b c)) → Q (.ref p) H'
theorem ok_f0 {fR : Addr} {fdR : FuncData} (F : Fun K "_law_fields_0" "_law_fields_0" s_f0 f fd) (T : Tx P w K mg base) (GR : FnOk P w K mg base (L2.CX P w) 3 fR fdR ["k", "a", "b", "c"] (spRaised K 0 8)) (kpR : PySem.W.keepIn K (.ref fR) = true) (bR : Binds K fdR ["k", "a", "b", "c"] []) (gR : mg "_law_raised_0" = some (.ref fR)) :
    FnOk P w K mg base CX0 4 f fd ["k", "a", "b", "c"] (spFields K 0 8) := by
  refine F.ok sc_f0 (fun vs H Q E h => ?_) (fun cdv A outer s H vs Q E hr h => ?_)
  · obtain ⟨k, a, b, c, rfl, _⟩ := h
    rfl
  · obtain ⟨k, a, b, c, rfl, hlo, hhi, q⟩ := h
    refine ⟨_, (pss_cons (ps_set (i := 4) sc_f0.nd rfl (.inl rfl) (pe_lst pa_nil))
      (pss_cons (ps_tryC rfl rfl sc_f0.nd takes0 (fun W pn xe tk _ => (pss_one (ps_expr (pe_callS GR hr (by rfl) gR kpR bR (fun σ => passAt tk σ) (pa_cons (pv 0) (pa_cons (pv 1) (pa_cons (pv 2) (pa_cons (pv 3) pa_nil))))))))
      (.named (c := .ref (eC K 0)) ⟨rfl, by decide, .inl (T.g 0 (by decide))⟩ (i := 5) rfl rfl (fun x oe cls d pn hz hf => (pss_one (ps_set (i := 4) sc_f0.nd rfl (.inl rfl) (pe_lst (pa_cons (pe_xf (T.xf 0 (by decide)) (T.no 0 (by decide) "kind" (by decide +kernel)) hz hf (pv 5)) pa_nil)))))
      (.named (c := .ref (eC K 1)) ⟨rfl, by decide, .inl (T.g 1 (by decide))⟩ (i := 5) rfl rfl (fun x oe cls d pn hz hf => (pss_one (ps_set (i := 4) sc_f0.nd rfl (.inl rfl) (pe_lst (pa_cons (pe_xf (T.xf 1 (by decide)) (T.no 1 (by decide) "way" (by decide +kernel)) hz hf (pv 5)) pa_nil)))))
      (.named (c := .ref (eC K 2)) ⟨rfl, by decide, .inl (T.g 2 (by decide))⟩ (i := 5) rfl rfl (fun x oe cls d pn hz hf => (pss_one (ps_set (i := 4) sc_f0.nd rfl (.inl rfl) (pe_lst (pa_cons (pe_xf (T.xf 2 (by decide)) (T.no 2 (by decide) "line" (by decide +kernel)) hz hf (pv 5)) pa_nil)))))
      (.named (c := .ref (eC K 3)) ⟨rfl, by decide, .inl (T.g 3 (by decide))⟩ (i := 5) rfl rfl (fun x oe cls d pn hz hf => (pss_one (ps_set (i := 4) sc_f0.nd rfl (.inl rfl) (pe_lst (pa_cons (pe_xf (T.xf 3 (by decide)) (T.no 3 (by decide) "line" (by decide +kernel)) hz hf (pv 5)) pa_nil)))))
      (.named (c := .ref (eC K 4)) ⟨rfl, by decide, .inl (T.g 4 (by decide))⟩ (i := 5) rfl rfl (fun x oe cls d pn hz hf => (pss_one (ps_set (i := 4) sc_f0.nd rfl (.inl rfl) (pe_lst (pa_cons (pe_xf (T.xf 4 (by decide)) (T.no 4 (by decide) "ring" (by decide +kernel)) hz hf (pv 5)) pa_nil)))))
      (.named (c := .ref (eC K 5)) ⟨rfl, by decide, .inl (T.g 5 (by decide))⟩ (i := 5) rfl rfl (fun x oe cls d pn hz hf => (pss_one (ps_set (i := 4) sc_f0.nd rfl (.inl rfl) (pe_lst (pa_cons (pe_xf (T.xf 5 (by decide)) (T.no 5 (by decide) "handed" (by decide +kernel)) hz hf (pv 5)) pa_nil)))))
      (.named (c := .ref (eC K 6)) ⟨rfl, by decide, .inl (T.g 6 (by decide))⟩ (i := 5) rfl rfl (fun x oe cls d pn hz hf => (pss_one (ps_set (i := 4) sc_f0.nd rfl (.inl rfl) (pe_lst (pa_cons (pe_xf (T.xf 6 (by decide)) (T.no 6 (by decide) "promise" (by decide +kernel)) hz hf (pv 5)) pa_nil)))))
      (.named (c := .ref (eC K 7)) ⟨rfl, by decide, .inl (T.g 7 (by decide))⟩ (i := 5) rfl rfl (fun x oe cls d pn hz hf => (pss_one (ps_set (i := 4) sc_f0.nd rfl (.inl rfl) (pe_lst (pa_cons (pe_xf (T.xf 7 (by decide)) (T.no 7 (by decide) "line" (by decide +kernel)) hz hf (pv 5)) pa_nil)))))
      .nil)))))))))
      (pss_one (ps_ret (pv 4))))), ?_⟩
    refine ⟨(by show 0 ≤ sizeLine; decide), fun p0 hp0 => ?_⟩
    refine ⟨_, rfl, _, rfl, _, rfl, _, rfl, k, a, b, c, rfl, hlo, hhi, fun d H' hR => ?_⟩
    have s0 : Same H H' := (Same.new hp0).trans hR.same
    refine ⟨_, T.exm k 0 (by omega) (by decide), fun z0 x hx => ?_, fun z0 => ?_⟩
    · have e : k = 0 := by have := of_decide_eq_true z0; omega
      subst e
      rcases hR with ⟨z, _⟩ | ⟨_, dd, rfl, hdd, rfl⟩
      · cases z
      · exact ⟨_, rfl, rfl, rfl, dd, _, _, rfl, upd_same, by kernel_rfl, (by show 1 ≤ sizeLine; decide), fun p hp => ⟨_, rfl, q p _ (s0.trans (Same.new hp)) (Same.free s0 hp) upd_same⟩⟩
    refine ⟨_, T.exm k 1 (by omega) (by decide), fun z1 x hx => ?_, fun z1 => ?_⟩
    · have e : k = 1 := by have := of_decide_eq_true z1; omega
      subst e
      rcases hR with ⟨z, _⟩ | ⟨_, dd, rfl, hdd, rfl⟩
      · cases z
      · exact ⟨_, rfl, rfl, rfl, dd, _, _, rfl, upd_same, by kernel_rfl, (by show 1 ≤ sizeLine; decide), fun p hp => ⟨_, rfl, q p _ (s0.trans (Same.new hp)) (Same.free s0 hp) upd_same⟩⟩
    refine ⟨_, T.exm k 2 (by omega) (by decide), fun z2 x hx => ?_, fun z2 => ?_⟩
    · have e : k = 2 := by have := of_decide_eq_true z2; omega
      subst e
      rcases hR with ⟨z, _⟩ | ⟨_, dd, rfl, hdd, rfl⟩
      · cases z
      · exact ⟨_, rfl, rfl, rfl, dd, _, _, rfl, upd_same, by kernel_rfl, (by show 1 ≤ sizeLine; decide), fun p hp => ⟨_, rfl, q p _ (s0.trans (Same.new hp)) (Same.free s0 hp) upd_same⟩⟩
    refine ⟨_, T.exm k 3 (by omega) (by decide), fun z3 x hx => ?_, fun z3 => ?_⟩
    · have e : k = 3 := by have := of_decide_eq_true z3; omega
      subst e
      rcases hR with ⟨z, _⟩ | ⟨_, dd, rfl, hdd, rfl⟩
      · cases z
      · exact ⟨_, rfl, rfl, rfl, dd, _, _, rfl, upd_same, by kernel_rfl, (by show 1 ≤ sizeLine; decide), fun p hp => ⟨_, rfl, q p _ (s0.trans (Same.new hp)) (Same.free s0 hp) upd_same⟩⟩
    refine ⟨_, T.exm k 4 (by omega) (by decide), fun z4 x hx => ?_, fun z4 => ?_⟩
    · have e : k = 4 := by have := of_decide_eq_true z4; omega
      subst e
      rcases hR with ⟨z, _⟩ | ⟨_, dd, rfl, hdd, rfl⟩
      · cases z
      · exact ⟨_, rfl, rfl, rfl, dd, _, _, rfl, upd_same, by kernel_rfl, (by show 1 ≤ sizeLine; decide), fun p hp => ⟨_, rfl, q p _ (s0.trans (Same.new hp)) (Same.free s0 hp) upd_same⟩⟩
    refine ⟨_, T.exm k 5 (by omega) (by decide), fun z5 x hx => ?_, fun z5 => ?_⟩
    · have e : k = 5 := by have := of_decide_eq_true z5; omega
      subst e
      rcases hR with ⟨z, _⟩ | ⟨_, dd, rfl, hdd, rfl⟩
      · cases z
      · exact ⟨_, rfl, rfl, rfl, dd, _, _, rfl, upd_same, by kernel_rfl, (by show 1 ≤ sizeLine; decide), fun p hp => ⟨_, rfl, q p _ (s0.trans (Same.new hp)) (Same.free s0 hp) upd_same⟩⟩
    refine ⟨_, T.exm k 6 (by omega) (by decide), fun z6 x hx => ?_, fun z6 => ?_⟩
    · have e : k = 6 := by have := of_decide_eq_true z6; omega
      subst e
      rcases hR with ⟨z, _⟩ | ⟨_, dd, rfl, hdd, rfl⟩
      · cases z
      · exact ⟨_, rfl, rfl, rfl, dd, _, _, rfl, upd_same, by kernel_rfl, (by show 1 ≤ sizeLine; decide), fun p hp => ⟨_, rfl, q p _ (s0.trans (Same.new hp)) (Same.free s0 hp) upd_same⟩⟩
    refine ⟨_, T.exm k 7 (by omega) (by decide), fun z7 x hx => ?_, fun z7 => ?_⟩
    · have e : k = 7 := by have := of_decide_eq_true z7; omega
      subst e
      rcases hR with ⟨z, _⟩ | ⟨_, dd, rfl, hdd, rfl⟩
      · cases z
      · exact ⟨_, rfl, rfl, rfl, dd, _, _, rfl, upd_same, by kernel_rfl, (by show 1 ≤ sizeLine; decide), fun p hp => ⟨_, rfl, q p _ (s0.trans (Same.new hp)) (Same.free s0 hp) upd_same⟩⟩
    have n0 : k ≠ 0 := fun z => of_decide_eq_false z0 z.symm
    have n1 : k ≠ 1 := fun z => of_decide_eq_false z1 z.symm
    have n2 : k ≠ 2 := fun z => of_decide_eq_false z2 z.symm
    have n3 : k ≠ 3 := fun z => of_decide_eq_false z3 z.symm
    have n4 : k ≠ 4 := fun z => of_decide_eq_false z4 z.symm
    have n5 : k ≠ 5 := fun z => of_decide_eq_false z5 z.symm
    have n6 : k ≠ 6 := fun z => of_decide_eq_false z6 z.symm
    have n7 : k ≠ 7 := fun z => of_decide_eq_false z7 z.symm
    exfalso
    omega
theorem ok_f1 {fR : Addr} {fdR : FuncData} (F : Fun K "_law_fields_1" "_law_fields_1" s_f1 f fd) (T : Tx P w K mg base) (GR : FnOk P w K mg base (L2.CX P w) 3 fR fdR ["k", "a", "b", "c"] (spRaised K 8 13)) (kpR : PySem.W.keepIn K (.ref fR) = true) (bR : Binds K fdR ["k", "a", "b", "c"] []) (gR : mg "_law_raised_1" = some (.ref fR)) :
    FnOk P w K mg base CX0 4 f fd ["k", "a", "b", "c"] (spFields K 8 13) := by
  refine F.ok sc_f1 (fun vs H Q E h => ?_) (fun cdv A outer s H vs Q E hr h => ?_)
  · obtain ⟨k, a, b, c, rfl, _⟩ := h
    rfl
  · obtain ⟨k, a, b, c, rfl, hlo, hhi, q⟩ := h
    refine ⟨_, (pss_cons (ps_set (i := 4) sc_f1.nd rfl (.inl rfl) (pe_lst pa_nil))
      (pss_cons (ps_tryC rfl rfl sc_f1.nd takes0 (fun W pn xe tk _ => (pss_one (ps_expr (pe_callS GR hr (by rfl) gR kpR bR (fun σ => passAt tk σ) (pa_cons (pv 0) (pa_cons (pv 1) (pa_cons (pv 2) (pa_cons (pv 3) pa_nil))))))))
      (.named (c := .ref (eC K 8)) ⟨rfl, by decide, .inl (T.g 8 (by decide))⟩ (i := 5) rfl rfl (fun x oe cls d pn hz hf => (pss_one (ps_set (i := 4) sc_f1.nd rfl (.inl rfl) (pe_lst (pa_cons (pe_xf (T.xf 8 (by decide)) (T.no 8 (by decide) "n" (by decide +kernel)) hz hf (pv 5)) pa_nil)))))
      (.named (c := .ref (eC K 9)) ⟨rfl, by decide, .inl (T.g 9 (by decide))⟩ (i := 5) rfl rfl (fun x oe cls d pn hz hf => (pss_one (ps_set (i := 4) sc_f1.nd rfl (.inl rfl) (pe_lst (pa_cons (pe_xf (T.xf 9 (by decide)) (T.no 9 (by decide) "name" (by decide +kernel)) hz hf (pv 5)) pa_nil)))))
      (.named (c := .ref (eC K 10)) ⟨rfl, by decide, .inl (T.g 10 (by decide))⟩ (i := 5) rfl rfl (fun x oe cls d pn hz hf => (pss_one (ps_set (i := 4) sc_f1.nd rfl (.inl rfl) (pe_lst (pa_cons (pe_xf (T.xf 10 (by decide)) (T.no 10 (by decide) "name" (by decide +kernel)) hz hf (pv 5)) pa_nil)))))
      (.cons (c := .ref (eC K 11)) ⟨rfl, by decide, .inl (T.g 11 (by decide))⟩ (fun x oe cls d pn hz hf => (pss_one (ps_set (i := 4) sc_f1.nd rfl (.inl rfl) (pe_lst pa_nil)))) (.named (c := .ref (eC K 12)) ⟨rfl, by decide, .inl (T.g 12 (by decide))⟩ (i := 5) rfl rfl (fun x oe cls d pn hz hf => (pss_one (ps_set (i := 4) sc_f1.nd rfl (.inl rfl) (pe_lst (pa_cons (pe_xf (T.xf 12 (by decide)) (T.no 12 (by decide) "what" (by decide +kernel)) hz hf (pv 5)) (pa_cons (pe_xf (T.xf 12 (by decide)) (T.no 12 (by decide) "many" (by decide +kernel)) hz hf (pv 5)) (pa_cons (pe_xf (T.xf 12 (by decide)) (T.no 12 (by decide) "most" (by decide +kernel)) hz hf (pv 5)) pa_nil)))))))
      .nil))))))
      (pss_one (ps_ret (pv 4))))), ?_⟩
    refine ⟨(by show 0 ≤ sizeLine; decide), fun p0 hp0 => ?_⟩
    refine ⟨_, rfl, _, rfl, _, rfl, _, rfl, k, a, b, c, rfl, hlo, hhi, fun d H' hR => ?_⟩
    have s0 : Same H H' := (Same.new hp0).trans hR.same
    refine ⟨_, T.exm k 8 (by omega) (by decide), fun z8 x hx => ?_, fun z8 => ?_⟩
    · have e : k = 8 := by have := of_decide_eq_true z8; omega
      subst e
      rcases hR with ⟨z, _⟩ | ⟨_, dd, rfl, hdd, rfl⟩
      · cases z
      · exact ⟨_, rfl, rfl, rfl, dd, _, _, rfl, upd_same, by kernel_rfl, (by show 1 ≤ sizeLine; decide), fun p hp => ⟨_, rfl, q p _ (s0.trans (Same.new hp)) (Same.free s0 hp) upd_same⟩⟩
    refine ⟨_, T.exm k 9 (by omega) (by decide), fun z9 x hx => ?_, fun z9 => ?_⟩
    · have e : k = 9 := by have := of_decide_eq_true z9; omega
      subst e
      rcases hR with ⟨z, _⟩ | ⟨_, dd, rfl, hdd, rfl⟩
      · cases z
      · exact ⟨_, rfl, rfl, rfl, dd, _, _, rfl, upd_same, by kernel_rfl, (by show 1 ≤ sizeLine; decide), fun p hp => ⟨_, rfl, q p _ (s0.trans (Same.new hp)) (Same.free s0 hp) upd_same⟩⟩
    refine ⟨_, T.exm k 10 (by omega) (by decide), fun z10 x hx => ?_, fun z10 => ?_⟩
    · have e : k = 10 := by have := of_decide_eq_true z10; omega
      subst e
      rcases hR with ⟨z, _⟩ | ⟨_, dd, rfl, hdd, rfl⟩
      · cases z
      · exact ⟨_, rfl, rfl, rfl, dd, _, _, rfl, upd_same, by kernel_rfl, (by show 1 ≤ sizeLine; decide), fun p hp => ⟨_, rfl, q p _ (s0.trans (Same.new hp)) (Same.free s0 hp) upd_same⟩⟩
    refine ⟨_, T.exm k 11 (by omega) (by decide), fun z11 x hx => ?_, fun z11 => ?_⟩
    · have e : k = 11 := by have := of_decide_eq_true z11; omega
      subst e
      exact ⟨(by show 0 ≤ sizeLine; decide), fun p hp => ⟨_, rfl, q p _ (s0.trans (Same.new hp)) (Same.free s0 hp) upd_same⟩⟩
    refine ⟨_, T.exm k 12 (by omega) (by decide), fun z12 x hx => ?_, fun z12 => ?_⟩
    · have e : k = 12 := by have := of_decide_eq_true z12; omega
      subst e
      rcases hR with ⟨z, _⟩ | ⟨_, dd, rfl, hdd, rfl⟩
      · cases z
      · exact ⟨_, rfl, rfl, rfl, dd, _, _, rfl, upd_same, by kernel_rfl, _, rfl, rfl, rfl, dd, _, _, rfl, upd_same, by kernel_rfl, _, rfl, rfl, rfl, dd, _, _, rfl, upd_same, by kernel_rfl, (by show 3 ≤ sizeLine; decide), fun p hp => ⟨_, rfl, q p _ (s0.trans (Same.new hp)) (Same.free s0 hp) upd_same⟩⟩
    have n8 : k ≠ 8 := fun z => of_decide_eq_false z8 z.symm
    have n9 : k ≠ 9 := fun z => of_decide_eq_false z9 z.symm
    have n10 : k ≠ 10 := fun z => of_decide_eq_false z10 z.symm
    have n11 : k ≠ 11 := fun z => of_decide_eq_false z11 z.symm
    have n12 : k ≠ 12 := fun z => of_decide_eq_false z12 z.symm
    exfalso
    omega
theorem ok_f {f0 f1 : Addr} {fd0 fd1 : FuncData} (F : Fun K "_law_fields" "_law_fields" s_f f fd) (G0 : FnOk P w K mg base CX0 4 f0 fd0 ["k", "a", "b", "c"] (spFields K 0 8)) (G1 : FnOk P w K mg base CX0 4 f1 fd1 ["k", "a", "b", "c"] (spFields K 8 13))
    (kp0 : PySem.W.keepIn K (.ref f0) = true) (kp1 : PySem.W.keepIn K (.ref f1) = true) (b0 : Binds K fd0 ["k", "a", "b", "c"] []) (b1 : Binds K fd1 ["k", "a", "b", "c"] []) (g0 : mg "_law_fields_0" = some (.ref f0)) (g1 : mg "_law_fields_1" = some (.ref f1)) :
    FnOk P w K mg base CX0 5 f fd ["k", "a", "b", "c"] (spFields K 0 13) := by
  refine F.ok sc_f (fun vs H Q E h => ?_) (fun cdv A outer s H vs Q E hr h => ?_)
  · obtain ⟨k, a, b, c, rfl, _⟩ := h
    rfl
  · obtain ⟨k, a, b, c, rfl, hlo, hhi, q⟩ := h
    refine ⟨_, (pss_cons (ps_if (pt_cmpR op_lt (pv 0) pe_int (nomark _)) (pss_one (ps_ret (pe_call G0 hr (by rfl) g0 kp0 b0 .nil pass0 (pa_cons (pv 0) (pa_cons (pv 1) (pa_cons (pv 2) (pa_cons (pv 3) pa_nil))))))) pss_nil)
      (pss_one (ps_ret (pe_call G1 hr (by rfl) g1 kp1 b1 .nil pass0 (pa_cons (pv 0) (pa_cons (pv 1) (pa_cons (pv 2) (pa_cons (pv 3) pa_nil)))))))), ?_⟩
    refine ⟨_, rfl, _, _, rfl, rfl, _, rfl, ite2 (fun h => ?_) (fun h => ?_)⟩
    · have h : (k : Int) < 8 := of_decide_eq_true h
      exact ⟨_, rfl, _, rfl, _, rfl, _, rfl, k, a, b, c, rfl, by omega, by omega, q⟩
    · have h : ¬ (k : Int) < 8 := fun z => h (decide_eq_true z)
      exact ⟨_, rfl, _, rfl, _, rfl, _, rfl, k, a, b, c, rfl, by omega, by omega, q⟩
end
end K00
set_option Elab.async false
set_option linter.all false
set_option maxRecDepth 100000
set_option maxHeartbeats 4000000
namespace K00
open PySem PySem.Calls PySem.Spec PyProof.Rows L2 L2H OR He
section
variable {P : Program} {w : World} {K : PySem.W.Frag} {mg : Str → Option Value} {base : Heap} {f : Addr} {fd : FuncData}
abbrev s_law : Stmt := top 27
theorem sc_law : FnScope ["script", "bag", "sizes", "k", "a", "b", "c", "j"] ["script"] (defScope s_law) := ⟨rfl, rfl, rfl, by decide +kernel, rfl, by decide +kernel, by decide +kernel⟩
/-- data stays data where all but the bag stays -/
theorem seqL_but {b : Addr} {N : Nat} {H H' : Hp} {a : Addr} {xs : List V} (hb : BagAt b N H) (e : But b H H') (h : SqL K H a xs) : SqL K H' a xs := by
  obtain ⟨c, i, dg, n, f, cs, B⟩ := hb
  rcases h with (h | ⟨o, h⟩) | h
  · exact .inl (.inl (e _ _ (ne_of h B.hb (by intro z; cases z)) h))
  · exact .inl (.inr ⟨o, e _ _ (ne_of h B.hb (by intro z; cases z)) h⟩)
  · exact .inr h
theorem seqT_but {b : Addr} {N : Nat} {H H' : Hp} {a : Addr} {xs : List V} (hb : BagAt b N H) (e : But b H H') (h : SqT K H a xs) : SqT K H' a xs := by
  obtain ⟨c, i, dg, n, f, cs, B⟩ := hb
  rcases h with (h | ⟨o, h⟩) | h
  · exact .inl (.inl (e _ _ (ne_of h B.hb (by intro z; cases z)) h))
  · exact .inl (.inr ⟨o, e _ _ (ne_of h B.hb (by intro z; cases z)) h⟩)
  · exact .inr h
mutual
theorem dp_but {b : Addr} {N : Nat} {H H' : Hp} (hb : BagAt b N H) (e : But b H H') : ∀ (d : PyData) (v : V), Dp K H v d → Dp K H' v d
  | .none, _, h => by cases h; exact .non
  | .bool b, _, h => by cases h; exact .bl b
  | .int i, _, h => by cases h; exact .int i
  | .str x, _, h => by cases h; exact .str x
  | .list ds, _, h => by cases h with | lst hs ha => exact .lst (seqL_but hb e hs) (dp_butAll hb e ds _ ha)
  | .tuple ds, _, h => by cases h with | tup hs ha => exact .tup (seqT_but hb e hs) (dp_butAll hb e ds _ ha)
  | .dict _, _, h => by cases h
theorem dp_butAll {b : Addr} {N : Nat} {H H' : Hp} (hb : BagAt b N H) (e : But b H H') : ∀ (ds : List PyData) (vs : List V), DpAll K H vs ds → DpAll K H' vs ds
  | [], _, h => by cases h; exact .nil
  | d :: ds, _, h => by cases h with | cons h1 h2 => exact .cons (dp_but hb e d _ h1) (dp_butAll hb e ds _ h2)
end
theorem Thg.but {b : Addr} {N : Nat} {H H' : Hp} {v : V} (h : Thg K H v) (hb : BagAt b N H) (e : But b H H') : Thg K H' v := by
  obtain ⟨d, h1, h2, h3⟩ := h
  exact ⟨d, dp_but hb e d v h1, h2, h3⟩
theorem thg_all {H : Hp} : ∀ xs : List V, (∀ v ∈ xs, Thg K H v) → ∃ ds, DpAll K H xs ds ∧ PyData.canLayAll0 ds = true ∧ PyData.depthAll ds ≤ 3
  | [], _ => ⟨[], .nil, rfl, by show 0 ≤ 3; decide⟩
  | v :: vs, h => by
    obtain ⟨d, d1, d2, d3⟩ := h v (List.mem_cons_self ..)
    obtain ⟨ds, e1, e2, e3⟩ := thg_all vs fun u hu => h u (List.mem_cons_of_mem _ hu)
    refine ⟨d :: ds, .cons d1 e1, ?_, ?_⟩
    · simp [PyData.canLayAll0, d2, e2]
    · simp only [PyData.depthAll]; omega
/-- two lists of the same things: == says so -/
theorem ne_same {H : Hp} {p q : Addr} {xs : List V} (hp : SqL K H p xs) (hq : SqL K H q xs) (h : ∀ v ∈ xs, Thg K H v) : ∃ d e, Dp K H (.ref p) d ∧ Dp K H (.ref q) e ∧ SeqAt.shaped d = true ∧ SeqAt.shaped e = true ∧ PyData.eqv d e = true := by
  obtain ⟨ds, e1, e2, e3⟩ := thg_all xs h
  have sh : SeqAt.shaped (.list ds) = true := by
    unfold SeqAt.shaped
    rw [show (PyData.list ds).canLay0 = true by simp [PyData.canLay0, e2], Bool.true_and]
    exact decide_eq_true (by simp only [PyData.depth]; omega)
  exact ⟨.list ds, .list ds, .lst hp e1, .lst hq e1, sh, sh, PySem.SeqAt.eqv_refl _ (by simp [PyData.canLay0, e2])⟩
def spLaw (K : PySem.W.Frag) : Sp := fun vs H Q _ => ∃ (a : Addr) (ns : List Int), vs = [.ref a] ∧ SqL K H a (ns.map V.int) ∧ ns.length ≤ 63 ∧ ∀ H', Q (.bl true) H'
/-- the defs that law calls -/
structure Dx (P : Program) (w : World) (K : PySem.W.Frag) (mg : Str → Option Value) (base : Heap) : Prop where
  bag : ∃ f fd, FnOk P w K mg base CX0 1 f fd ["script"] (spBag K) ∧ PySem.W.keepIn K (.ref f) = true ∧ Binds K fd ["script"] [] ∧ mg "_law_bag" = some (.ref f)
  thing : ∃ f fd, FnOk P w K mg base CX0 2 f fd ["bag"] (spThing K) ∧ PySem.W.keepIn K (.ref f) = true ∧ Binds K fd ["bag"] [] ∧ mg "_law_thing" = some (.ref f)
  fields : ∃ f fd, FnOk P w K mg base CX0 5 f fd ["k", "a", "b", "c"] (spFields K 0 13) ∧ PySem.W.keepIn K (.ref f) = true ∧ Binds K fd ["k", "a", "b", "c"] [] ∧ mg "_law_fields" = some (.ref f)
  caught : ∃ f fd, FnOk P w K mg base CX0 5 f fd ["k", "a", "b", "c"] (spCaught K) ∧ PySem.W.keepIn K (.ref f) = true ∧ Binds K fd ["k", "a", "b", "c"] [] ∧ mg "_law_caught" = some (.ref f)
theorem thg_same {H H' : Hp} {v : V} {b : Addr} {N : Nat} (h : Thg K H v) (hb : BagAt b N H) (e : Same H H') : Thg K H' v := h.but hb (But.of e)
def sizesL : List V := [.int 1, .int 1, .int 1, .int 1, .int 1, .int 1, .int 1, .int 1, .int 1, .int 1, .int 1, .int 0, .int 3]
theorem size_at : ∀ i, i < 13 → ∃ n : Int, sizesL[i]? = some (.int n) ∧ ∀ a b c, cutV [a, b, c] none (some n) = fieldL i a b c
  | 0, _ => ⟨1, rfl, fun _ _ _ => rfl⟩
  | 1, _ => ⟨1, rfl, fun _ _ _ => rfl⟩
  | 2, _ => ⟨1, rfl, fun _ _ _ => rfl⟩
  | 3, _ => ⟨1, rfl, fun _ _ _ => rfl⟩
  | 4, _ => ⟨1, rfl, fun _ _ _ => rfl⟩
  | 5, _ => ⟨1, rfl, fun _ _ _ => rfl⟩
  | 6, _ => ⟨1, rfl, fun _ _ _ => rfl⟩
  | 7, _ => ⟨1, rfl, fun _ _ _ => rfl⟩
  | 8, _ => ⟨1, rfl, fun _ _ _ => rfl⟩
  | 9, _ => ⟨1, rfl, fun _ _ _ => rfl⟩
  | 10, _ => ⟨1, rfl, fun _ _ _ => rfl⟩
  | 11, _ => ⟨0, rfl, fun _ _ _ => rfl⟩
  | 12, _ => ⟨3, rfl, fun _ _ _ => rfl⟩
theorem fieldL_mem {i : Nat} {a b c v : V} (h : v ∈ fieldL i a b c) : v = a ∨ v = b ∨ v = c := by
  unfold fieldL at h
  split at h
  · simp at h; exact .inl h
  · split at h
    · simpa using h
    · simp at h
theorem kindL_mem {k n : Nat} {v : V} (h : v ∈ V.bl true :: kindL k n) : ∃ b, v = .bl b := by
  rcases List.mem_cons.mp h with h | h
  · exact ⟨_, h⟩
  · obtain ⟨j, _, e⟩ := List.mem_map.mp h
    exact ⟨_, e.symm⟩
theorem kindL_succ (k n : Nat) : kindL k (n + 1) = kindL k n ++ [V.bl (decide (n = k))] := by
  show (List.range (n + 1)).map _ = _
  rw [List.range_succ, List.map_append]
  rfl
theorem ok_law (F : Fun K "law" "law" s_law f fd) (T : Tx P w K mg base) (D : Dx P w K mg base) : FnOk P w K mg base CX0 6 f fd ["script"] (spLaw K) := by
  obtain ⟨fB, fdB, GB, kpB, bB, gB⟩ := D.bag
  obtain ⟨fT, fdT, GT, kpT, bT, gT⟩ := D.thing
  obtain ⟨fF, fdF, GF, kpF, bF, gF⟩ := D.fields
  obtain ⟨fC, fdC, GC, kpC, bC, gC⟩ := D.caught
  refine F.ok sc_law (fun vs H Q E h => ?_) (fun cdv A outer s H vs Q E hr h => ?_)
  · obtain ⟨a, ns, rfl, _⟩ := h
    rfl
  · obtain ⟨a, ns, rfl, hS, hl, q⟩ := h
    have hr1 := hr.mono (show 1 ≤ 5 by decide)
    have hr2 := hr.mono (show 2 ≤ 5 by decide)
    refine ⟨_, (pss_cons (ps_set (i := 1) sc_law.nd rfl (.inl rfl) (pe_call GB hr1 (by rfl) gB kpB bB .nil pass0 (pa_cons (pv 0) pa_nil)))
      (pss_cons (ps_set (i := 2) sc_law.nd rfl (.inl rfl) (pe_lst (pa_cons pe_int (pa_cons pe_int (pa_cons pe_int (pa_cons pe_int (pa_cons pe_int (pa_cons pe_int (pa_cons pe_int (pa_cons pe_int (pa_cons pe_int (pa_cons pe_int (pa_cons pe_int (pa_cons pe_int (pa_cons pe_int pa_nil)))))))))))))))
      (pss_cons (ps_for PassesOwn.never rfl (pi_range1 (by rfl) T.mg_range (pa_cons pe_int pa_nil)) (pg_name (i := 3) sc_law.nd rfl (.inr rfl)) (pss_cons (ps_par3 (i := 4) (j := 5) (l := 6) rfl sc_law.nd rfl rfl rfl (by decide) (by decide) (by decide) rfl rfl rfl (pa_cons (pe_call GT hr2 (by rfl) gT kpT bT .nil pass0 (pa_cons (pv 1) pa_nil)) (pa_cons (pe_call GT hr2 (by rfl) gT kpT bT .nil pass0 (pa_cons (pv 1) pa_nil)) (pa_cons (pe_call GT hr2 (by rfl) gT kpT bT .nil pass0 (pa_cons (pv 1) pa_nil)) pa_nil))) (by rfl))
      (pss_cons (ps_if (pt_cmpR (op_neD hr.units) (pe_call GF hr (by rfl) gF kpF bF .nil pass0 (pa_cons (pv 3) (pa_cons (pv 4) (pa_cons (pv 5) (pa_cons (pv 6) pa_nil))))) (pe_slice sl_list (pe_lst (pa_cons (pv 4) (pa_cons (pv 5) (pa_cons (pv 6) pa_nil)))) po_none (po_some (pe_ix ix_list (pv 2) (pv 3) (fun _ _ => rfl)))) (nomark _)) (pss_one (ps_ret pe_bl)) pss_nil)
      (pss_one (ps_if (pt_cmpR (op_neD hr.units) (pe_call GC hr (by rfl) gC kpC bC .nil pass0 (pa_cons (pv 3) (pa_cons (pv 4) (pa_cons (pv 5) (pa_cons (pv 6) pa_nil))))) (pe_op op_cat (pe_lst (pa_cons pe_bl pa_nil))
        (pe_lc (own := [("j", 7)]) (g := gName 7) (tt := tYes) rfl sc_law.nd (pi_range1 (by rfl) T.mg_range (pa_cons pe_int pa_nil)) (blkOk_by (N := ["script", "bag", "sizes", "k", "a", "b", "c", "j"]) (sc := defScope s_law) (by decide +kernel)) (fun _ _ _ _ _ => pg_name (i := 7) sc_law.nd rfl (Or.inl rfl)) (fun _ _ _ _ _ => pts_nil) (fun _ _ _ _ _ => pe_cmpR op_eq (pv 7) (pv 3) (nomark _)))) (nomark _)) (pss_one (ps_ret pe_bl)) pss_nil)))))
      (pss_one (ps_ret pe_bl))))), ?_⟩
    refine ⟨_, rfl, a, ns, rfl, hS, hl, fun b H1 hb0 B1 e1 => ?_⟩
    refine ⟨(by show 13 ≤ sizeLine; decide), fun z hz => ?_⟩
    have B2 := B1.new (o := .lst sizesL) hz
    refine ⟨13, rfl, by decide, by decide, for_range (lo := 0) (n := 13) (fun i σ H' => ∃ k' a' b' c' j' : Option V, σ = [some (.ref a), some (.ref b), some (.ref z), k', a', b', c', j'] ∧ BagAt b (6 * i) H' ∧ H' z = some (.lst sizesL)) ⟨_, _, _, _, _, rfl, B2, upd_same⟩ (fun i σ H3 hi p => ?_) (fun σ H3 p => ?_)⟩
    · obtain ⟨k', a', b', c', j', rfl, B3, z3⟩ := p
      have e0 : ((0 : Int) + (i : Int)) = (i : Int) := Int.zero_add _
      rw [e0]
      refine ⟨_, rfl, b, _, rfl, B3, by omega, fun v1 H4 B4 e4 t1 => ?_⟩
      refine ⟨_, rfl, b, _, rfl, B4, by omega, fun v2 H5 B5 e5 t2 => ?_⟩
      refine ⟨_, rfl, b, _, rfl, B5, by omega, fun v3 H6 B6 e6 t3 => ?_⟩
      have z6 : H6 z = some (.lst sizesL) := by
        have n4 := B3.ne_lst z3
        exact e6 _ _ n4 (e5 _ _ n4 (e4 _ _ n4 z3))
      have t1 : Thg K H6 v1 := (t1.but B4 e5).but B5 e6
      have t2 : Thg K H6 v2 := t2.but B5 e6
      refine ⟨_, _, _, rfl, ?_⟩
      -- the fields
      refine ⟨_, rfl, _, rfl, _, rfl, _, rfl, i, v1, v2, v3, rfl, by omega, hi, fun p H7 s7 n7 l7 => ?_⟩
      obtain ⟨n, hn, hcut⟩ := size_at i hi
      refine ⟨_, rfl, _, rfl, _, rfl, (by show 3 ≤ sizeLine; decide), fun L hL => ⟨_, rfl, _, rfl, z, sizesL, _, .int n, rfl, rfl, SqL.of (by rw [upd_ne (ne_of_none (s7 _ _ z6) hL)]; exact s7 _ _ z6), atI_nat hn, n, rfl, L, _, rfl, SqL.of upd_same, fun p8 h8 => ?_⟩⟩
      rw [hcut]
      have s8 : Same H7 (upd (upd H7 L (.lst [v1, v2, v3])) p8 (.lst (fieldL i v1 v2 v3))) := (Same.new hL).trans (Same.new h8)
      obtain ⟨d, e, dp, de, sd, se, eq⟩ := ne_same (K := K) (SqL.of (s8 _ _ l7)) (SqL.of upd_same) (fun v hv => by
        rcases fieldL_mem hv with rfl | rfl | rfl
        · exact thg_same (thg_same t1 B6 s7) (B6.same s7) s8
        · exact thg_same (thg_same t2 B6 s7) (B6.same s7) s8
        · exact thg_same (thg_same t3 B6 s7) (B6.same s7) s8)
      refine ⟨d, e, dp, de, sd, se, _, rfl, ?_⟩
      rw [eq]
      refine iteF ?_
      -- what is caught
      refine ⟨_, rfl, _, rfl, _, rfl, _, rfl, i, v1, v2, v3, rfl, hi, fun p9 H9 s9 n9 l9 => ?_⟩
      refine ⟨(by show 1 ≤ sizeLine; decide), fun q1 hq1 => ⟨13, rfl, by decide, by decide, fun Dl hD => ?_⟩⟩
      refine lc_range (lo := 0) (n := 13) (fun m H' => H' = upd (upd H9 q1 (.lst [.bl true])) Dl (.lst (kindL i m))) rfl (fun m H' hm pm => ?_) (fun H' pm => ?_)
      · subst pm
        refine ⟨rfl, _, rfl, _, rfl, rfl, _, upd_same, ?_, ?_⟩
        · refine small1000 ?_
          rw [List.length_map, List.length_range]
          omega
        · rw [upd_upd, kindL_succ]
          have em : decide (V.int ((0 : Int) + (m : Int)) = V.int (i : Int)) = decide (m = i) := by
            by_cases h : m = i
            · rw [decide_eq_true h, h, Int.zero_add]
              exact decide_eq_true rfl
            · rw [decide_eq_false h]
              exact decide_eq_false fun z => h (by have := V.int.inj z; omega)
          rw [em]
      · subst pm
        have nq : q1 ≠ Dl := ne_of_none upd_same hD
        refine ⟨q1, Dl, _, _, rfl, rfl, by rw [upd_ne nq, upd_same], upd_same, (by show 14 ≤ sizeLine; decide), fun r hr' => ?_⟩
        have s10 : Same H9 (upd (upd (upd H9 q1 (.lst [.bl true])) Dl (.lst (kindL i 13))) r (.lst ([.bl true] ++ kindL i 13))) := ((Same.new hq1).trans (Same.new hD)).trans (Same.new hr')
        obtain ⟨d2, e2, dp2, de2, sd2, se2, eq2⟩ := ne_same (K := K) (SqL.of (s10 _ _ l9)) (SqL.of (upd_same (a := r))) (fun v hv => by
          obtain ⟨bb, rfl⟩ := kindL_mem hv
          exact thg_flat (Dp.bl _) rfl (by show 0 ≤ 3; decide))
        refine ⟨d2, e2, dp2, de2, sd2, se2, _, rfl, ?_⟩
        rw [eq2]
        refine iteF ?_
        have sA := ((s7.trans s8).trans s9).trans s10
        exact ⟨_, _, _, _, _, rfl, (B6.same sA).mono (by omega), sA _ _ z6⟩
    · obtain ⟨k', a', b', c', j', rfl, B3, z3⟩ := p
      exact q _
end
end K00
set_option Elab.async false
set_option linter.all false
set_option maxRecDepth 100000
set_option maxHeartbeats 4000000
namespace K00
open PySem PySem.Calls PySem.Spec PyProof.Rows L2 L2H OR He

theorem fun_of {K : PySem.W.Frag} {x qual : Str} {st : Stmt} {f : Addr} {fd : FuncData} (F : FunD K x qual (defArgs st) (defBody st) (defScope st) [] [] f fd) : Fun K x qual st f fd := by
  obtain ⟨oc, od, dV, kV, doc, pm, an, cdv, ct, osl, e, lk, hcd, hd, _⟩ := F.ex
  have e0 : dV = .none := by
    rcases hd with ⟨_, h⟩ | ⟨h, _⟩
    · exact h
    · exact absurd rfl h
  subst e0
  exact ⟨⟨oc, od, kV, doc, pm, an, cdv, ct, osl, e, lk, hcd⟩, F.kp⟩
def fn : List DefD := [⟨("_law_bag", none), "_law_bag", "_law_bag", defArgs (top 16), defBody (top 16), defScope (top 16), [], []⟩,
  ⟨("_law_draw", none), "_law_draw", "_law_draw", defArgs (top 17), defBody (top 17), defScope (top 17), [], []⟩,
  ⟨("_law_thing", none), "_law_thing", "_law_thing", defArgs (top 18), defBody (top 18), defScope (top 18), [], []⟩,
  ⟨("_law_raised_0", none), "_law_raised_0", "_law_raised_0", defArgs (top 19), defBody (top 19), defScope (top 19), [], []⟩,
  ⟨("_law_raised_1", none), "_law_raised_1", "_law_raised_1", defArgs (top 20), defBody (top 20), defScope (top 20), [], []⟩,
  ⟨("_law_raised", none), "_law_raised", "_law_raised", defArgs (top 21), defBody (top 21), defScope (top 21), [], []⟩,
  ⟨("_law_kinds_of", none), "_law_kinds_of", "_law_kinds_of", defArgs (top 22), defBody (top 22), defScope (top 22), [], []⟩,
  ⟨("_law_caught", none), "_law_caught", "_law_caught", defArgs (top 23), defBody (top 23), defScope (top 23), [], []⟩,
  ⟨("_law_fields_0", none), "_law_fields_0", "_law_fields_0", defArgs (top 24), defBody (top 24), defScope (top 24), [], []⟩,
  ⟨("_law_fields_1", none), "_law_fields_1", "_law_fields_1", defArgs (top 25), defBody (top 25), defScope (top 25), [], []⟩,
  ⟨("_law_fields", none), "_law_fields", "_law_fields", defArgs (top 26), defBody (top 26), defScope (top 26), [], []⟩,
  ⟨("law", none), "law", "law", defArgs (top 27), defBody (top 27), defScope (top 27), [], []⟩]
def glN : List Str := ["RingError", "_law_bag", "_law_draw", "_law_thing", "_law_raised_0", "_law_raised_1", "_law_raised", "_law_kinds_of", "_law_caught", "_law_fields_0", "_law_fields_1", "_law_fields", "law"]
def frN : List Str := ["ValueError", "isinstance", "range", "int", "list", "len", "super"]
def fa : List Fa := glN.map Fa.glo ++ frN.map Fa.free
def xcB (K : PySem.W.Frag) (D : Addr) : Bool := eqO (PySem.W.findIn K (.ref D) "__getattribute__") (some (some (.builtin "BaseException.__getattribute__"))) && (eqO (PySem.W.findIn K (.ref D) "__getattr__") (some none) && (decide (PySem.W.subIn K (.ref D) (.type "BaseException") = some true) && (PySem.W.hasDictIn K D && (eqO (PySem.W.findIn K (.ref D) "__class__") (some (some (.builtin "object.__class__"))) &&
  (eqO (PySem.W.specialIn K (.builtin "object.__class__") "__get__") (some (some (.builtin "getset_descriptor.__get__"))) && (decide (PySem.W.takesIn K (.builtin "object.__class__") = some true) && decide (PySem.W.mroIn K D (.type "object") = some true)))))))
theorem xcB_ok {K : PySem.W.Frag} {D : Addr} (h : xcB K D = true) : ExcC K D := by
  obtain ⟨h1, h⟩ := ba h
  obtain ⟨h2, h⟩ := ba h
  obtain ⟨h3, h⟩ := ba h
  obtain ⟨h4, h⟩ := ba h
  obtain ⟨h5, h⟩ := ba h
  obtain ⟨h6, h⟩ := ba h
  obtain ⟨h7, h8⟩ := ba h
  exact ⟨eqO_ok h1, eqO_ok h2, of_decide_eq_true h3, h4, eqO_ok h5, eqO_ok h6, of_decide_eq_true h7, of_decide_eq_true h8⟩
def more1 (K : PySem.W.Frag) (k : Nat) : Bool := xcB K (eC K k) && (decide (PySem.W.exmOne K (.ref (eC K k)) (.ref (ga K "RingError")) = some true) && (decide (PySem.W.kitOne K (.ref (eC K k)) (.type "ValueError") = some true) &&
  (List.range 13).all fun j => decide (PySem.W.exmOne K (.ref (eC K k)) (.ref (eC K j)) = some (decide (j = k))) && decide (PySem.W.kitOne K (.ref (eC K k)) (.ref (eC K j)) = some (decide (j = k)))))
def more (K : PySem.W.Frag) : Bool := (List.range 13).all (more1 K)
abbrev Lw : PySem.W.OpenLaw := PySem.Challenge.rw_openrings_k00_errors_made_from_their_fie
abbrev R : PySem.W.OpenRow := PySem.W.OpenLaw.row Lw
def file : Str := R.prog.main.file
def names : List Str := ["RingError", "BadKind", "BadWay", "BadLine", "Refused", "BadRing", "BadHanded", "BadPromise", "NoLine", "BadSize", "BadName", "NoDeed", "NothingToUndo", "TooMany", "_law_bag", "_law_draw", "_law_thing", "_law_raised_0", "_law_raised_1", "_law_raised", "_law_kinds_of", "_law_caught", "_law_fields_0", "_law_fields_1", "_law_fields"]
abbrev hk : PySem.W.Hook := hookX R.prog.main.file more 4 fa fn errs
def ob (s : PySem.W.SharedT) : AlX := obsXG R.prog.main.file more 4 fa fn errs (HandSHeadRun.getT s)
theorem ob_eq (s : PySem.W.SharedT) : ob s = hk.obs s.abs := obsXG_eq (HandSHeadRun.getT_eq s)
theorem run (w : World) : HandSHeadRun.RunEq R (PySem.W.view R.prog [27]) hk ob 4200 names w := by
  intro os
  kernel_rfl
end K00
set_option Elab.async false
set_option linter.all false
set_option maxRecDepth 100000
set_option maxHeartbeats 4000000
namespace K00
open PySem PySem.Calls PySem.Spec PyProof.Rows L2 L2H OR He

open NdefX
instance : Inhabited ErrD := ⟨⟨"", "", ⟨[], [], none, [], [], none, []⟩, [], ⟨.function, [], false, false, []⟩, []⟩⟩
theorem ini0 : Ini1 (errs.getD 0 default) "kind" := ⟨⟨nscope_by (by decide +kernel), ⟨_, rfl, rfl⟩, by decide +kernel, fun _ _ _ _ _ _ _ us hl => (match us, hl with | [_, _], _ => rfl), by decide +kernel⟩, ⟨_, _, _, _, _, _, _, _, _, _, _, rfl, fun _ => ⟨_, rfl⟩⟩⟩
theorem ini1 : Ini1 (errs.getD 1 default) "way" := ⟨⟨nscope_by (by decide +kernel), ⟨_, rfl, rfl⟩, by decide +kernel, fun _ _ _ _ _ _ _ us hl => (match us, hl with | [_, _], _ => rfl), by decide +kernel⟩, ⟨_, _, _, _, _, _, _, _, _, _, _, rfl, fun _ => ⟨_, rfl⟩⟩⟩
theorem ini2 : Ini1 (errs.getD 2 default) "line" := ⟨⟨nscope_by (by decide +kernel), ⟨_, rfl, rfl⟩, by decide +kernel, fun _ _ _ _ _ _ _ us hl => (match us, hl with | [_, _], _ => rfl), by decide +kernel⟩, ⟨_, _, _, _, _, _, _, _, _, _, _, rfl, fun _ => ⟨_, rfl⟩⟩⟩
theorem ini3 : Ini1 (errs.getD 3 default) "line" := ⟨⟨nscope_by (by decide +kernel), ⟨_, rfl, rfl⟩, by decide +kernel, fun _ _ _ _ _ _ _ us hl => (match us, hl with | [_, _], _ => rfl), by decide +kernel⟩, ⟨_, _, _, _, _, _, _, _, _, _, _, rfl, fun _ => ⟨_, rfl⟩⟩⟩
theorem ini4 : Ini1 (errs.getD 4 default) "ring" := ⟨⟨nscope_by (by decide +kernel), ⟨_, rfl, rfl⟩, by decide +kernel, fun _ _ _ _ _ _ _ us hl => (match us, hl with | [_, _], _ => rfl), by decide +kernel⟩, ⟨_, _, _, _, _, _, _, _, _, _, _, rfl, fun _ => ⟨_, rfl⟩⟩⟩
theorem ini5 : Ini1 (errs.getD 5 default) "handed" := ⟨⟨nscope_by (by decide +kernel), ⟨_, rfl, rfl⟩, by decide +kernel, fun _ _ _ _ _ _ _ us hl => (match us, hl with | [_, _], _ => rfl), by decide +kernel⟩, ⟨_, _, _, _, _, _, _, _, _, _, _, rfl, fun _ => ⟨_, rfl⟩⟩⟩
theorem ini6 : Ini1 (errs.getD 6 default) "promise" := ⟨⟨nscope_by (by decide +kernel), ⟨_, rfl, rfl⟩, by decide +kernel, fun _ _ _ _ _ _ _ us hl => (match us, hl with | [_, _], _ => rfl), by decide +kernel⟩, ⟨_, _, _, _, _, _, _, _, _, _, _, rfl, fun _ => ⟨_, rfl⟩⟩⟩
theorem ini7 : Ini1 (errs.getD 7 default) "line" := ⟨⟨nscope_by (by decide +kernel), ⟨_, rfl, rfl⟩, by decide +kernel, fun _ _ _ _ _ _ _ us hl => (match us, hl with | [_, _], _ => rfl), by decide +kernel⟩, ⟨_, _, _, _, _, _, _, _, _, _, _, rfl, fun _ => ⟨_, rfl⟩⟩⟩
theorem ini8 : Ini1 (errs.getD 8 default) "n" := ⟨⟨nscope_by (by decide +kernel), ⟨_, rfl, rfl⟩, by decide +kernel, fun _ _ _ _ _ _ _ us hl => (match us, hl with | [_, _], _ => rfl), by decide +kernel⟩, ⟨_, _, _, _, _, _, _, _, _, _, _, rfl, fun _ => ⟨_, rfl⟩⟩⟩
theorem ini9 : Ini1 (errs.getD 9 default) "name" := ⟨⟨nscope_by (by decide +kernel), ⟨_, rfl, rfl⟩, by decide +kernel, fun _ _ _ _ _ _ _ us hl => (match us, hl with | [_, _], _ => rfl), by decide +kernel⟩, ⟨_, _, _, _, _, _, _, _, _, _, _, rfl, fun _ => ⟨_, rfl⟩⟩⟩
theorem ini10 : Ini1 (errs.getD 10 default) "name" := ⟨⟨nscope_by (by decide +kernel), ⟨_, rfl, rfl⟩, by decide +kernel, fun _ _ _ _ _ _ _ us hl => (match us, hl with | [_, _], _ => rfl), by decide +kernel⟩, ⟨_, _, _, _, _, _, _, _, _, _, _, rfl, fun _ => ⟨_, rfl⟩⟩⟩
theorem ini11 : Ini0 (errs.getD 11 default) := ⟨⟨nscope_by (by decide +kernel), ⟨_, rfl, rfl⟩, by decide +kernel, fun _ _ _ _ _ _ _ us hl => (match us, hl with | [_], _ => rfl), by decide +kernel⟩, ⟨_, _, _, _, _, _, _, rfl, fun _ => ⟨_, rfl⟩⟩⟩
theorem ini12 : Ini3 (errs.getD 12 default) "what" "many" "most" := ⟨⟨nscope_by (by decide +kernel), ⟨_, rfl, rfl⟩, by decide +kernel, fun _ _ _ _ _ _ _ us hl => (match us, hl with | [_, _, _, _], _ => rfl), by decide +kernel⟩, ⟨_, _, _, _, _, _, _, _, _, _, _, _, _, _, _, _, _, _, _, rfl, fun _ => ⟨_, rfl⟩⟩⟩
theorem facts {w : World} {K : PySem.W.Frag} {h : Heap} {mg : Str → Option Value} {f : Addr} (X : K.In h) (G : h.Ns mainGlobals mg) (hfa : mg ("law" : Str) = some (.ref f)) (c : SaysX R.prog.main.file more fa fn errs K) :
    ∃ fd : FuncData, (∀ (s : Shared) (v : Value), BindsTo s fd ⟨[v], []⟩ [("script", v)]) ∧ ∀ base : Heap, K.In base → base.Ns mainGlobals mg → FnOk R.prog w K mg base CX0 6 f fd ["script"] (spLaw K) := by
  have fr : ∀ {x : Str}, x ∈ frN → mg x = none := fun {x} hx => free_ok X G (c.fact (List.mem_append_right _ (List.mem_map_of_mem hx)))
  have gl : ∀ {x : Str}, x ∈ glN → mg x = some (.ref (ga K x)) := fun {x} hx => glo_ok X G (c.fact (List.mem_append_left _ (List.mem_map_of_mem hx)))
  have mo : ∀ k, k < 13 → more1 K k = true := fun k hk => List.all_eq_true.mp c.all.2.2.2 k (List.mem_range.mpr hk)
  obtain ⟨fd0, D0⟩ := c.def_ 0 (d := ⟨("_law_bag", none), "_law_bag", "_law_bag", defArgs (top 16), defBody (top 16), defScope (top 16), [], []⟩) rfl
  have F0 : Fun K "_law_bag" "_law_bag" (top 16) (ga K "_law_bag") fd0 := fun_of D0
  have b0 : Binds K fd0 ["script"] [] := F0.binds fun _ _ _ _ _ _ us hl => match us, hl with | [_], _ => rfl
  obtain ⟨fd1, D1⟩ := c.def_ 1 (d := ⟨("_law_draw", none), "_law_draw", "_law_draw", defArgs (top 17), defBody (top 17), defScope (top 17), [], []⟩) rfl
  have F1 : Fun K "_law_draw" "_law_draw" (top 17) (ga K "_law_draw") fd1 := fun_of D1
  have b1 : Binds K fd1 ["bag", "limit"] [] := F1.binds fun _ _ _ _ _ _ us hl => match us, hl with | [_, _], _ => rfl
  obtain ⟨fd2, D2⟩ := c.def_ 2 (d := ⟨("_law_thing", none), "_law_thing", "_law_thing", defArgs (top 18), defBody (top 18), defScope (top 18), [], []⟩) rfl
  have F2 : Fun K "_law_thing" "_law_thing" (top 18) (ga K "_law_thing") fd2 := fun_of D2
  have b2 : Binds K fd2 ["bag"] [] := F2.binds fun _ _ _ _ _ _ us hl => match us, hl with | [_], _ => rfl
  obtain ⟨fd3, D3⟩ := c.def_ 3 (d := ⟨("_law_raised_0", none), "_law_raised_0", "_law_raised_0", defArgs (top 19), defBody (top 19), defScope (top 19), [], []⟩) rfl
  have F3 : Fun K "_law_raised_0" "_law_raised_0" (top 19) (ga K "_law_raised_0") fd3 := fun_of D3
  have b3 : Binds K fd3 ["k", "a", "b", "c"] [] := F3.binds fun _ _ _ _ _ _ us hl => match us, hl with | [_, _, _, _], _ => rfl
  obtain ⟨fd4, D4⟩ := c.def_ 4 (d := ⟨("_law_raised_1", none), "_law_raised_1", "_law_raised_1", defArgs (top 20), defBody (top 20), defScope (top 20), [], []⟩) rfl
  have F4 : Fun K "_law_raised_1" "_law_raised_1" (top 20) (ga K "_law_raised_1") fd4 := fun_of D4
  have b4 : Binds K fd4 ["k", "a", "b", "c"] [] := F4.binds fun _ _ _ _ _ _ us hl => match us, hl with | [_, _, _, _], _ => rfl
  obtain ⟨fd5, D5⟩ := c.def_ 5 (d := ⟨("_law_raised", none), "_law_raised", "_law_raised", defArgs (top 21), defBody (top 21), defScope (top 21), [], []⟩) rfl
  have F5 : Fun K "_law_raised" "_law_raised" (top 21) (ga K "_law_raised") fd5 := fun_of D5
  have b5 : Binds K fd5 ["k", "a", "b", "c"] [] := F5.binds fun _ _ _ _ _ _ us hl => match us, hl with | [_, _, _, _], _ => rfl
  obtain ⟨fd6, D6⟩ := c.def_ 6 (d := ⟨("_law_kinds_of", none), "_law_kinds_of", "_law_kinds_of", defArgs (top 22), defBody (top 22), defScope (top 22), [], []⟩) rfl
  have F6 : Fun K "_law_kinds_of" "_law_kinds_of" (top 22) (ga K "_law_kinds_of") fd6 := fun_of D6
  have b6 : Binds K fd6 ["e"] [] := F6.binds fun _ _ _ _ _ _ us hl => match us, hl with | [_], _ => rfl
  obtain ⟨fd7, D7⟩ := c.def_ 7 (d := ⟨("_law_caught", none), "_law_caught", "_law_caught", defArgs (top 23), defBody (top 23), defScope (top 23), [], []⟩) rfl
  have F7 : Fun K "_law_caught" "_law_caught" (top 23) (ga K "_law_caught") fd7 := fun_of D7
  have b7 : Binds K fd7 ["k", "a", "b", "c"] [] := F7.binds fun _ _ _ _ _ _ us hl => match us, hl with | [_, _, _, _], _ => rfl
  obtain ⟨fd8, D8⟩ := c.def_ 8 (d := ⟨("_law_fields_0", none), "_law_fields_0", "_law_fields_0", defArgs (top 24), defBody (top 24), defScope (top 24), [], []⟩) rfl
  have F8 : Fun K "_law_fields_0" "_law_fields_0" (top 24) (ga K "_law_fields_0") fd8 := fun_of D8
  have b8 : Binds K fd8 ["k", "a", "b", "c"] [] := F8.binds fun _ _ _ _ _ _ us hl => match us, hl with | [_, _, _, _], _ => rfl
  obtain ⟨fd9, D9⟩ := c.def_ 9 (d := ⟨("_law_fields_1", none), "_law_fields_1", "_law_fields_1", defArgs (top 25), defBody (top 25), defScope (top 25), [], []⟩) rfl
  have F9 : Fun K "_law_fields_1" "_law_fields_1" (top 25) (ga K "_law_fields_1") fd9 := fun_of D9
  have b9 : Binds K fd9 ["k", "a", "b", "c"] [] := F9.binds fun _ _ _ _ _ _ us hl => match us, hl with | [_, _, _, _], _ => rfl
  obtain ⟨fd10, D10⟩ := c.def_ 10 (d := ⟨("_law_fields", none), "_law_fields", "_law_fields", defArgs (top 26), defBody (top 26), defScope (top 26), [], []⟩) rfl
  have F10 : Fun K "_law_fields" "_law_fields" (top 26) (ga K "_law_fields") fd10 := fun_of D10
  have b10 : Binds K fd10 ["k", "a", "b", "c"] [] := F10.binds fun _ _ _ _ _ _ us hl => match us, hl with | [_, _, _, _], _ => rfl
  obtain ⟨fd11, D11⟩ := c.def_ 11 (d := ⟨("law", none), "law", "law", defArgs (top 27), defBody (top 27), defScope (top 27), [], []⟩) rfl
  have F11 : Fun K "law" "law" (top 27) (ga K "law") fd11 := fun_of D11
  obtain ⟨i0, cc0, cd0, E0⟩ := errF_of (P := R.prog) X G (fr (x := "super") (by decide +kernel)) (by decide +kernel) (c.err 0 (d := errs.getD 0 default) rfl).1 (c.err 0 rfl).2
  obtain ⟨i1, cc1, cd1, E1⟩ := errF_of (P := R.prog) X G (fr (x := "super") (by decide +kernel)) (by decide +kernel) (c.err 1 (d := errs.getD 1 default) rfl).1 (c.err 1 rfl).2
  obtain ⟨i2, cc2, cd2, E2⟩ := errF_of (P := R.prog) X G (fr (x := "super") (by decide +kernel)) (by decide +kernel) (c.err 2 (d := errs.getD 2 default) rfl).1 (c.err 2 rfl).2
  obtain ⟨i3, cc3, cd3, E3⟩ := errF_of (P := R.prog) X G (fr (x := "super") (by decide +kernel)) (by decide +kernel) (c.err 3 (d := errs.getD 3 default) rfl).1 (c.err 3 rfl).2
  obtain ⟨i4, cc4, cd4, E4⟩ := errF_of (P := R.prog) X G (fr (x := "super") (by decide +kernel)) (by decide +kernel) (c.err 4 (d := errs.getD 4 default) rfl).1 (c.err 4 rfl).2
  obtain ⟨i5, cc5, cd5, E5⟩ := errF_of (P := R.prog) X G (fr (x := "super") (by decide +kernel)) (by decide +kernel) (c.err 5 (d := errs.getD 5 default) rfl).1 (c.err 5 rfl).2
  obtain ⟨i6, cc6, cd6, E6⟩ := errF_of (P := R.prog) X G (fr (x := "super") (by decide +kernel)) (by decide +kernel) (c.err 6 (d := errs.getD 6 default) rfl).1 (c.err 6 rfl).2
  obtain ⟨i7, cc7, cd7, E7⟩ := errF_of (P := R.prog) X G (fr (x := "super") (by decide +kernel)) (by decide +kernel) (c.err 7 (d := errs.getD 7 default) rfl).1 (c.err 7 rfl).2
  obtain ⟨i8, cc8, cd8, E8⟩ := errF_of (P := R.prog) X G (fr (x := "super") (by decide +kernel)) (by decide +kernel) (c.err 8 (d := errs.getD 8 default) rfl).1 (c.err 8 rfl).2
  obtain ⟨i9, cc9, cd9, E9⟩ := errF_of (P := R.prog) X G (fr (x := "super") (by decide +kernel)) (by decide +kernel) (c.err 9 (d := errs.getD 9 default) rfl).1 (c.err 9 rfl).2
  obtain ⟨i10, cc10, cd10, E10⟩ := errF_of (P := R.prog) X G (fr (x := "super") (by decide +kernel)) (by decide +kernel) (c.err 10 (d := errs.getD 10 default) rfl).1 (c.err 10 rfl).2
  obtain ⟨i11, cc11, cd11, E11⟩ := errF_of (P := R.prog) X G (fr (x := "super") (by decide +kernel)) (by decide +kernel) (c.err 11 (d := errs.getD 11 default) rfl).1 (c.err 11 rfl).2
  obtain ⟨i12, cc12, cd12, E12⟩ := errF_of (P := R.prog) X G (fr (x := "super") (by decide +kernel)) (by decide +kernel) (c.err 12 (d := errs.getD 12 default) rfl).1 (c.err 12 rfl).2
  have e := hfa.symm.trans (gl (x := "law") (by decide +kernel))
  cases e
  have TX : ∀ base : Heap, Tx R.prog w K mg base := fun base => {
    e := fun k hk => match k, hk with
    | 0, _ => errOk1 E0 ini0
    | 1, _ => errOk1 E1 ini1
    | 2, _ => errOk1 E2 ini2
    | 3, _ => errOk1 E3 ini3
    | 4, _ => errOk1 E4 ini4
    | 5, _ => errOk1 E5 ini5
    | 6, _ => errOk1 E6 ini6
    | 7, _ => errOk1 E7 ini7
    | 8, _ => errOk1 E8 ini8
    | 9, _ => errOk1 E9 ini9
    | 10, _ => errOk1 E10 ini10
    e11 := errOk0 E11 ini11
    e12 := errOk3 E12 ini12
    g := fun k hk => match k, hk with
    | 0, _ => E0.gC
    | 1, _ => E1.gC
    | 2, _ => E2.gC
    | 3, _ => E3.gC
    | 4, _ => E4.gC
    | 5, _ => E5.gC
    | 6, _ => E6.gC
    | 7, _ => E7.gC
    | 8, _ => E8.gC
    | 9, _ => E9.gC
    | 10, _ => E10.gC
    | 11, _ => E11.gC
    | 12, _ => E12.gC
    xf := fun k hk => match k, hk with
    | 0, _ => E0.xf
    | 1, _ => E1.xf
    | 2, _ => E2.xf
    | 3, _ => E3.xf
    | 4, _ => E4.xf
    | 5, _ => E5.xf
    | 6, _ => E6.xf
    | 7, _ => E7.xf
    | 8, _ => E8.xf
    | 9, _ => E9.xf
    | 10, _ => E10.xf
    | 11, _ => E11.xf
    | 12, _ => E12.xf
    no := fun k hk => match k, hk with
    | 0, _ => E0.no
    | 1, _ => E1.no
    | 2, _ => E2.no
    | 3, _ => E3.no
    | 4, _ => E4.no
    | 5, _ => E5.no
    | 6, _ => E6.no
    | 7, _ => E7.no
    | 8, _ => E8.no
    | 9, _ => E9.no
    | 10, _ => E10.no
    | 11, _ => E11.no
    | 12, _ => E12.no
    xc := fun k hk => xcB_ok (ba (mo k hk)).1
    exm := fun k j hk hj => of_decide_eq_true (ba (List.all_eq_true.mp (ba (ba (ba (mo k hk)).2).2).2 j (List.mem_range.mpr hj))).1
    exmR := fun k hk => of_decide_eq_true (ba (ba (mo k hk)).2).1
    kit := fun k j hk hj => of_decide_eq_true (ba (List.all_eq_true.mp (ba (ba (ba (mo k hk)).2).2).2 j (List.mem_range.mpr hj))).2
    kitV := fun k hk => of_decide_eq_true (ba (ba (ba (mo k hk)).2).2).1
    mg_RingError := gl (by decide +kernel)
    mg_ValueError := fr (by decide +kernel)
    mg_isinstance := fr (by decide +kernel)
    mg_range := fr (by decide +kernel)
    mg_int := fr (by decide +kernel)
    mg_list := fr (by decide +kernel)
    mg_len := fr (by decide +kernel) }
  refine ⟨fd11, fun s v => (F11.binds (ps := ["script"]) fun _ _ _ _ _ _ us hl => match us, hl with | [_], _ => rfl) |> fun b => ?_, fun base _ _ => ?_⟩
  · obtain ⟨oc, od, kV, doc, pm, an, cdv, ct, osl, e, lk, hcd⟩ := F11.ex
    subst e
    exact .of_eq rfl
  · have T := TX base
    have Gd := ok_draw (P := R.prog) (w := w) (base := base) F1 T.mg_int T.mg_len
    have G0 := ok_r0 F3 T
    have G1 := ok_r1 F4 T
    have GR := ok_r F5 G0 G1 F3.kp F4.kp b3 b4 (gl (by decide +kernel)) (gl (by decide +kernel))
    have GK := ok_kinds F6 T
    have GC := ok_caught F7 T GR F5.kp b5 (gl (by decide +kernel)) GK F6.kp b6 (gl (by decide +kernel))
    have H0 := ok_f0 F8 T G0 F3.kp b3 (gl (by decide +kernel))
    have H1 := ok_f1 F9 T G1 F4.kp b4 (gl (by decide +kernel))
    have HF := ok_f F10 H0 H1 F8.kp F9.kp b8 b9 (gl (by decide +kernel)) (gl (by decide +kernel))
    exact ok_law F11 T ⟨⟨_, _, ok_bag F0 T.mg_int T.mg_list, F0.kp, b0, gl (by decide +kernel)⟩, ⟨_, _, ok_thing F2 T Gd F1.kp b1 (gl (by decide +kernel)), F2.kp, b2, gl (by decide +kernel)⟩,
      ⟨_, _, HF, F10.kp, b10, gl (by decide +kernel)⟩, ⟨_, _, GC, F7.kp, b7, gl (by decide +kernel)⟩⟩
end K00
open PySem PySem.W PySem.Calls PyProof.Rows
theorem PySem.Challenge.cw_openrings_k00_errors_made_from_their_fie_holds : PySem.Challenge.rw_openrings_k00_errors_made_from_their_fie.Holds := by
  w_on; o_law
  refine HandSHeadRun.head_any (r := K00.R) (q := view K00.R.prog [27]) (H := K00.hk) (ob := K00.ob) (M := 4200) (loose := K00.names) (d := HandSHeadRun.topDef K00.R.prog 27) (kwd := []) K00.ob_eq
    (by kernel_rfl) (fun s => by kernel_rfl) K00.run (by kernel_rfl) (by kernel_rfl) (by kernel_rfl) (by rfl) (by first | assumption | decide +kernel) (by decide +kernel) ⟨rfl, rfl, rfl, rfl, rfl, by decide +kernel⟩ ?hw ?hc
  case hw => w_witness2
  case hc =>
    refine L2.walk_ofE (l := K00.Lw) (n := 63) (k := 6) (x := "script") (CX := L2.CX0) rfl (by decide) (by kernel_rfl) ⟨rfl, by decide, by decide⟩ ?F (fun _ _ _ _ z => z)
    intro w mg fa h Y G hmg0
    obtain ⟨K, KX, c⟩ := Y
    have hmg : mg ("law" : PySem.Str) = some (.ref fa) := by
      have e : (HandSHeadRun.topDef K00.R.prog 27).name = ("law" : PySem.Str) := by kernel_rfl
      rw [← e]
      exact hmg0
    obtain ⟨fd, hb, hF⟩ := K00.facts (w := w) KX G hmg c
    exact ⟨K, fd, K00.spLaw K, KX, hb, fun H a ns hl _ hS => ⟨a, ns, rfl, hS, hl, fun _ => rfl⟩, hF⟩
