import PyProof.Rows.All
import Wide.All
import OpenK.AllK
import Wide.FinOn
import KE.KExcSuper
import HandS.ForMost
import HandS.ForExc
import HandS.ExcInit
import HandS.Nested
import HandS.ExcField
import HandS.ExcIs
import KE.KIsAll
import KE.KTryMore
import HandS.HotCalls
import KE.KSuper
import HandS.Defaults
import HandS.HeadEnd
import HandS.HeadHook1
import HandS.HeadHook2
import KE.KNestM
import HandS.Wide
import HandS.Evl
import HandS.IsInst
import HandS.DictComp
import KE.GoesEnum
import HandS.TupLe
import HandS.WordsDict
import HandS.Iter
import HandS.TupSets
import PyProof.NeData
import HandS.Lambda
import HandS.TupAny
import HandS.Style
import HandS.EndTab
import HandS.EndBits
import HandS.HeadWalk
import HandS.Head0
import HandS.Head1
import HandS.Head2
import PySem.Challenge.RW_openrings_k40_rings_told
set_option Elab.async false
set_option linter.all false
set_option maxRecDepth 100000
set_option maxHeartbeats 4000000
/-! E1: the __init__ of an own error class over ValueError (through further own classes) that begins with super().__init__(a text). -/
namespace OR
open PySem PySem.Calls PySem.Spec PyProof.Rows L2 NdefX
/-- the statement super().__init__('..') -/
abbrev superSt (msg : Str) (p0 p1 p2 p3 p4 p5 : Pos) : Stmt :=
  .Expr (.Call (.Attribute (.Call (.Name "super" p0) [] [] p1) "__init__" p2) [.Constant (.str msg) 0 p3] [] p4) p5
section
open PySem.W
variable {prog : Program} {w : World} {A : Around} {E : Value → Shared → Prop} {h : Heap} {g : Array GenState} {d : Drawn} {t : Nat} {os : OsState}
variable {nm q : Str} {C N : Addr} {bs bm : List Value} {hdct : Bool} {sn : List Str} {sub : List Value} {ab : Bool} {col : Option Bool} {dd : Option Addr} {k0 k1 k2 k3 k5 : Option Value}
/-- the bound ValueError.__init__ at u is called -/
theorem call_mw {u e t0 : Addr} {rest : List Value} {Q : Value → Shared → Prop}
    (hC : h.get? C = some (excClassObj nm q C N bs bm hdct sn sub ab col dd k0 k1 k2 k3 k5 "ValueError.__new__")) (he : h.get? e = some (PySem.HandSPX.excO C t0)) (hu : h.get? u = some (kxs_mw "ValueError.__init__" e)) (hr : rest.length ≤ sizeLine)
    (hq : ∀ h' t1, (∀ b o, b ≠ e → h.get? b = some o → h'.get? b = some o) → h'.get? e = some (PySem.HandSPX.excO C t1) → Q .none ⟨h', g, d, t, os⟩) :
    wpAny (model prog w) A (call (.ref u) rest) Q E ⟨h, g, d, t, os⟩ := by
  have FB := F.excBase_ValueError
  refine wpAny_call (codeAny_of_tree ?_)
  show wpAny _ A.in1 (callAny (.ref u) ⟨rest, []⟩) _ _ _
  simp only [callAny]
  refine wpAny_bind (wpAny_load hu ?_)
  simp only [kxs_mw, show (Value.type "method-wrapper" == Value.type "method" || Value.type "method-wrapper" == Value.type "builtin_function_or_method" || Value.type "method-wrapper" == Value.type "method-wrapper") = true by decide, if_true]
  refine KFB.if_so (by decide) ?_
  refine wpAny_bind (check_bound_init FB.toExcCallFacts hC he rfl ?_)
  refine wpAny_bind (wpAny_pure (wpAny_pure ?_))
  refine ⟨plainId_quiet FB.init.plain _, codeAny_builtin FB.initEntry ?_⟩
  exact exc_init_tree (cls := .ref C) (t0 := t0) (dv := none) (c2 := .none) (c3 := .none) (b4 := .bool false) he hr fun h' k e' _ => hq h' _ k e'
end
/-- what the written part says of an error class at C, its __init__ at f, that one's code object at cda, the cell of __class__ at cc -/
structure SupC (P : Program) (K : PySem.W.Frag) (mg : Str → Option Value) (C cc cda : Addr) : Prop where
  T : OexC K C
  cell : ∃ cl cld csl, K.lookup cc = some (⟨cl, cld, .cell (some (.ref C)), csl⟩ : Obj)
  code : ∃ ccl cdd vs ccs file tf, K.lookup cda = some (⟨ccl, cdd, .fields vs, ccs⟩ : Obj) ∧ vs[2]? = some (.str file tf) ∧ ((P.main.file : Str) == file) = true
  sup : mg "super" = none
  opq : PySem.W.nsIn K PySem.cStatics "thirdparty.any" = some none
  ini : PySem.W.ks_superIn K C C "__init__" = some (some (.builtin "ValueError.__init__"))
  isV : PySem.W.subIn K (.ref C) (.type "ValueError") = some true
  isC : PySem.W.mroIn K C (.ref C) = some true
  top : (P.main.scope.names.lookup ("super" : Str)).isSome = false
section
variable {P : Program} {w : World} {K : PySem.W.Frag} {mg : Str → Option Value} {base : Heap} {k : Nat} {f C cc cda : Addr} {qual msg : Str} {params : Arguments} {scope : Scope} {rest : List Stmt} {N ps : List Str} {sp : Sp}
  {oc doc pm ct : Value} {od : Option Addr} {osl : Array (Option Value)} {p0 p1 p2 p3 p4 p5 : Pos} {ar : Arg}
theorem init_super
    (lk : K.lookup f = some ⟨oc, od, .func (PySem.W.fnX "__init__" qual params (superSt msg p0 p1 p2 p3 p4 p5 :: rest) scope [("__class__", cc)] .none .none doc pm none (.ref cda) ct), osl⟩)
    (hcd : PySem.W.codeIn K (.ref cda) qual = true) (S : NScope N ps ["__class__"] scope) (U : SupC P K mg C cc cda)
    (hp : (params.posonlyargs ++ params.args).head? = some ar) (har : ps[0]? = some ar.arg) (hks : scope.names.lookup ("super" : Str) = some .globalImplicit)
    (hev : ∀ env : Env, ∃ pl : Sem Bool, eval (.Call (.Attribute (.Call (.Name "super" p0) [] [] p1) "__init__" p2) [.Constant (.str msg) 0 p3] [] p4) env = (do
        let ov ← attributeBase (.Call (.Name "super" p0) [] [] p1) "__init__" env (eval (.Call (.Name "super" p0) [] [] p1) env)
        standAt p2.atName
        let (f, first) ← holding [ov] (getMethod ov "__init__" pl)
        callWith p4 f first (backTo p4 (starEach [.Constant (.str msg) 0 p3] env)) []))
    (len : ∀ vs H Q E, sp vs H Q E → vs.length = ps.length) (hsp : ∀ vs H Q E, sp vs H Q E → ∃ (a : Addr) (r : List V), vs = .ref a :: r ∧ H a = some (exo a C none))
    (hbody : ∀ (A : Around) (outer : List Env) (s : Shared) (H : Hp) (vs : List V) (Q : VK) (E : XK), sp vs H Q E →
      ∃ t, PSs (ncx CX0 P w K mg base N ⟨"__init__", qual, params, superSt msg p0 p1 p2 p3 p4 p5 :: rest, scope, [("__class__", cc)], cda⟩ f A outer s H E) rest t ∧ t { nx := fun _ H' => Q .non H', rt := Q } (startF N vs [some (.ref C)]) H) :
    FnOk P w K mg base CX0 (k + 1) f (PySem.W.fnX "__init__" qual params (superSt msg p0 p1 p2 p3 p4 p5 :: rest) scope [("__class__", cc)] .none .none doc pm none (.ref cda) ct) ps sp := by
  refine ⟨len, fun A outer s H args us vs Q E hr e0 hbnd r hs => ?_⟩
  have hl := len _ _ _ _ hs
  have KX : K.In s.heap := e0.mod.kin.keeps fun b o e => (e0.bs b o e).1
  have lim : s.heap.NoLimit := e0.mod.nolimit.keeps fun b o e => (e0.bs b o e).1
  have hkc : scope.names.lookup ("__class__" : Str) = some .free := S.frk _ (by simp)
  obtain ⟨cl, cld, csl, hcell⟩ := U.cell
  obtain ⟨ccl, cdd, vsc, ccs, file, tf, hcode, hvs, hfile⟩ := U.code
  have T := U.T
  obtain ⟨a, r0, rfl, ha⟩ := hsp _ _ _ _ hs
  have CA : CellsAt [("__class__", cc)] ["__class__"] [some (.ref C)] s.heap H := by
    have hb := e0.mod.kin _ _ hcell
    refine ⟨rfl, fun y c e => ?_, fun x y c e1 e2 => ?_, fun i y e => ?_⟩
    · have q : y = "__class__" ∧ c = cc := by
        have m := PySem.mem_of_lookup e
        simp at m
        exact m
      rw [q.2]
      exact ⟨(e0.bs _ _ hb).2, _, ⟨_, (e0.bs _ _ hb).1, rfl⟩⟩
    · have m1 := PySem.mem_of_lookup e1
      have m2 := PySem.mem_of_lookup e2
      simp at m1 m2
      rw [m1.1, m2.1]
    · match i, e with
      | 0, e =>
        simp at e
        subst e
        refine ⟨cc, rfl, fun v ev => ?_⟩
        simp at ev
        subst ev
        exact ⟨.ref C, rfl, ⟨_, (e0.bs _ _ hb).1, rfl⟩⟩
      | i + 1, e => simp at e
  refine ks_codeAny_call_defAt (body := superSt msg p0 p1 p2 p3 p4 p5 :: rest) (binds := ps.zip us) hr.depth (KX _ _ lk) rfl lim (PySem.W.codeRec_of KX hcd) rfl hbnd S.nocell (fun ⟨n, _⟩ hy => S.par n (List.of_mem_zip hy).1) (fun h₁ hns kp => ?_) S.co S.gen S.kind
  obtain ⟨t, ht, hq⟩ := hbody A outer s H _ Q E hs
  have I : Inv (ncx CX0 P w K mg base N ⟨"__init__", qual, params, superSt msg p0 p1 p2 p3 p4 p5 :: rest, scope, [("__class__", cc)], cda⟩ f A outer s H E) [] (startF N (.ref a :: r0) [some (.ref C)]) H { s with heap := h₁, toks := s.toks + (ps.zip us).length } :=
    inv_startN (F := ⟨"__init__", qual, params, superSt msg p0 p1 p2 p3 p4 p5 :: rest, scope, [("__class__", cc)], cda⟩) S hr.hd e0 hl r CA hns kp
  have X₁ : K.In h₁ := KX.keeps kp
  obtain ⟨t0, hoe⟩ := exo_at I.hok ha
  obtain ⟨nm, q, Nn, bs, bm, sn, sub, ab, col, dd, k0, k1, k2, k3, k5, hC, hbm⟩ := T.cls
  have hC₁ := X₁ _ _ hC
  have hself : (ps.zip us).reverse.lookup ar.arg = some (.ref a) := by
    cases r with
    | @cons _ u0 _ ur ra rr =>
      obtain rfl : u0 = Value.ref a := ra
      have ndP : ps.Nodup := by
        have z := S.nd.sublist (List.take_sublist (ps.length + 1) N)
        have z2 : List.take (ps.length + 1) N = ps ++ [("__class__" : Str)] := S.pre
        rw [z2] at z
        exact (List.nodup_append.mp z).1
      exact zip_look ndP har rfl
  have hka : scope.names.lookup ar.arg = some .local := S.par _ (List.mem_of_getElem? har)
  obtain ⟨pl, hpl⟩ := hev (envF ⟨"__init__", qual, params, superSt msg p0 p1 p2 p3 p4 p5 :: rest, scope, [("__class__", cc)], cda⟩ f s.heap.objs.size)
  refine ks_wpAt_execs_cons (ks_wpAt_Expr_any (ks_wpAt_MethodCall ?_ hpl) I.quiet)
  obtain ⟨mb, hmb, hbt⟩ := e0.mod.blt
  have kb : ∀ b o, base.get? b = some o → h₁.get? b = some o := fun b o e => kp b o (e0.bs b o e).1
  refine ks_wpAt_super_base (env := envF ⟨"__init__", qual, params, superSt msg p0 p1 p2 p3 p4 p5 :: rest, scope, [("__class__", cc)], cda⟩ f s.heap.objs.size) hks hkc rfl rfl (X₁ _ _ lk) rfl hp rfl (X₁ _ _ hcode) rfl hvs hfile U.top ?_
  refine PySem.W.ks_loadName_global S.kind hks (loadGlobal_builtin (e0.mod.glob.keeps kb) U.sup (hmb.keeps kb) ((hbt _ (by decide)).trans (by first | rfl | decide +kernel | kernel_rfl)) ⟨rfl, ?_⟩)
  refine wpAny_loadName_free S.kind hkc rfl ⟨_, X₁ _ _ hcell, rfl⟩ ?_
  refine wpAny_loadName_local S.kind hka hns hself ?_
  refine ks_wpAny_isType_cls hC₁ rfl ⟨rfl, ?_⟩
  refine ks_wpAny_call_super hC₁ rfl hoe rfl (fun c e => by cases e) (PySem.W.looks_mroIn X₁ U.isC) (fun h2 e2 kk2 => ?_)
  have X₂ : K.In h2 := X₁.keeps kk2
  have hne : a ≠ C := fun z => by
    subst z
    have z2 := hoe.symm.trans hC₁
    cases z2
  have hni : ∃ cd, PySem.W.clsIn K C = some cd ∧ PySem.W.alongIn K "__init__" ((cd.mro.dropWhile (· != .ref C)).drop 1) = some (some (.builtin "ValueError.__init__")) := by
    have z := U.ini
    unfold PySem.W.ks_superIn at z
    cases hc : PySem.W.clsIn K C with
    | none => rw [hc] at z; cases z
    | some cd => rw [hc] at z; exact ⟨cd, rfl, z⟩
  obtain ⟨cd, hc, hm⟩ := hni
  have IA : PySem.W.InstAt h2 a (PySem.HandSPX.excO C t0) C none := ⟨kk2 _ _ hoe, rfl, rfl, trivial⟩
  refine PySem.W.kxs_getMethod PySem.W.kxs_ValueError e2 (PySem.W.looks_opaque X₂ U.opq) (l₀ := cd.mro) (fun A Q E s k q => wpAny_bind ((PySem.W.looks_clsIn X₂ hc) A _ E s k (wpAny_pure q))) rfl X₂ hm (IA.type.andThen (PySem.W.looks_subIn X₂ U.isV)) hne rfl ?_
  have I2 := I.kept (t' := s.toks + (ps.zip us).length) kk2
  have I3 := I2.kept (h' := h2.push (PySem.W.kxs_mw "ValueError.__init__" a)) (t' := s.toks + (ps.zip us).length + 1) fun b o e => Heap.get?_push_of_some _ e
  have I4 := I3.pins_of (pins' := [(h2.objs.size, PySem.W.kxs_mw "ValueError.__init__" a)]) fun p hp => by
    have z : p = (h2.objs.size, PySem.W.kxs_mw "ValueError.__init__" a) := by simpa using hp
    subst z
    exact ⟨Heap.get?_push_size _ rfl, I2.hok.fresh (Nat.le_refl _), Nat.ne_of_gt I2.lt, I2.nofs (Nat.le_refl _), fun v z => by cases z⟩
  refine PySem.W.kxs_callWith (i := "ValueError.__init__") (x := a) rfl (evalArgs_plain ?_)
  refine thn ((pa_cons (X := ncx CX0 P w K mg base N ⟨"__init__", qual, params, superSt msg p0 p1 p2 p3 p4 p5 :: rest, scope, [("__class__", cc)], cda⟩ f A outer s H E) (pe_str (x := msg) (j := 0) (pos := p3)) pa_nil).run p4 _ _ _ _ (fun vs H1 => vs = [.str msg] ∧ H1 = H) I4 ⟨rfl, rfl⟩) fun us2 s1 ⟨vs2, H1, I5, r5, hv5, hH5⟩ => ?_
  subst hH5
  have hpin := (I5.pin (h2.objs.size, PySem.W.kxs_mw "ValueError.__init__" a) (List.mem_append_right _ (by simp))).1
  refine ⟨hpin, ?_⟩
  obtain ⟨t5, hoe5⟩ := exo_at I5.hok ha
  obtain ⟨hp5, g5, d5, tk5, os5⟩ := s1
  have hlen : us2.length ≤ sizeLine := by
    rw [← Paired.length r5, hv5, sizeLine_eq]
    exact (by decide : 1 ≤ 16777216)
  refine call_mw (I5.kIn _ _ hC) hoe5 hpin hlen fun h6 t6 k6 hx6 => ?_
  have J := (I5.pins_of (pins' := []) fun p hp => by cases hp).write (t' := tk5) (x := a) (e := a) (o := exo a C none) (by rw [ha]; exact True.intro) (.inl rfl) k6 ⟨_, hx6⟩ (exo_ok hx6)
  have eu : upd H1 a (exo a C none) = H1 := by
    funext b
    by_cases hb : b = a
    · rw [hb, upd_same, ha]
    · rw [upd_ne hb]
  rw [eu] at J
  refine wpAt_of_wpAny ?_
  refine wpAny_mono (ht.run [] _ _ H1 _ J hq) (fun fl s' hs => ?_) fun e s' hs => hs
  have fin : ∀ {σ' : L2.St} {H' : Hp} {v : V} {u : Value}, Inv (ncx CX0 P w K mg base N ⟨"__init__", qual, params, superSt msg p0 p1 p2 p3 p4 p5 :: rest, scope, [("__class__", cc)], cda⟩ f A outer s H1 E) [] σ' H' s' → L2.RelV v u → Q v H' → CE outer P w H1 s Q u s' :=
    fun {σ' H' v u} J rv q => ⟨v, H', J.os, J.bare, J.base, J.hok, rv, q⟩
  cases fl with
  | ret u =>
    obtain ⟨v, σ', H', J, rv, q⟩ := hs
    exact fin J rv q
  | next =>
    obtain ⟨σ', H', J, q⟩ := hs
    exact fin (v := V.non) (u := Value.none) J rfl q
  | brk =>
    obtain ⟨_, _, _, q⟩ := hs
    exact False.elim q
  | cont =>
    obtain ⟨_, _, _, q⟩ := hs
    exact False.elim q
end
end OR
set_option Elab.async false
set_option linter.all false
set_option maxRecDepth 100000
set_option maxHeartbeats 4000000
/-! E2: try with several except clauses, each with or without a name; isinstance of a caught error that has fields. -/
namespace OR
open PySem PySem.Calls PySem.Spec PyProof.Rows L2
/-- a clause: its class, the slot of its name (if it has one), its suite's reading -/
abbrev Cl := Value × Option Nat × (Addr → Value → Option Addr → TS)
/-- what follows a suite whose name goes -/
def goes (i : Nat) (D : Ends) : Ends := { nx := fun σ' H' => D.nx (σ'.set i none) H', rt := D.rt, bk := fun σ' H' => D.bk (σ'.set i none) H', ct := fun σ' H' => D.ct (σ'.set i none) H' }
def wCl (D : Ends) (i : Option Nat) (ts : Addr → Value → Option Addr → TS) (a : Addr) (cls : Value) (d : Option Addr) (σ : L2.St) (H : Hp) : Prop :=
  match i with
  | none => ts a cls d D σ H
  | some i => ts a cls d (goes i D) (σ.set i (some (.ref a))) H
/-- what the clauses wish of an exception of the body -/
def wCls (K : PySem.W.Frag) (Wout : WX) (D : Ends) : List Cl → WX
  | [] => Wout
  | (c, i, ts) :: r => fun cls d σ H => ∃ b, PySem.W.exmOne K cls c = some b ∧ (b = true → ∀ a, H a = none → wCl D i ts a cls d σ H) ∧ (b = false → wCls K Wout D r cls d σ H)
/-- the clauses' own rules -/
inductive ClsOk (X : Cx) : List ExceptHandler → List Cl → Prop
  | nil : ClsOk X [] []
  | cons {x : Str} {c : Value} {ts : Addr → Value → Option Addr → TS} {b₀ : Stmt} {suite : List Stmt} {np pos' : Pos} {hds : List ExceptHandler} {l : List Cl} (hc : Names X x c)
      (hsu : ∀ (a : Addr) (oe : Obj) (cls : Value) (d : Option Addr) (pn : List (Addr × Obj)), Zc cls d oe → (∃ vs, oe.data = .fields vs) → PSs (X.suite a ((a, oe) :: pn)) (b₀ :: suite) (ts a cls d)) (r : ClsOk X hds l) :
      ClsOk X (.ExceptHandler (some (.Name x np)) none (b₀ :: suite) pos' :: hds) ((c, none, ts) :: l)
  | named {x n : Str} {i : Nat} {c : Value} {ts : Addr → Value → Option Addr → TS} {b₀ : Stmt} {suite : List Stmt} {np pos' : Pos} {hds : List ExceptHandler} {l : List Cl} (hc : Names X x c) (hi : X.N[i]? = some n) (hln : X.env.kindOf n = some .local)
      (hsu : ∀ (a : Addr) (oe : Obj) (cls : Value) (d : Option Addr) (pn : List (Addr × Obj)), Zc cls d oe → (∃ vs, oe.data = .fields vs) → PSs (X.suite a ((a, oe) :: pn)) (b₀ :: suite) (ts a cls d)) (r : ClsOk X hds l) :
      ClsOk X (.ExceptHandler (some (.Name x np)) (some n) (b₀ :: suite) pos' :: hds) ((c, some i, ts) :: l)
section
variable {X : Cx} {body : List Stmt} {h₀ : ExceptHandler} {hds : List ExceptHandler} {l : List Cl} {pos : Pos} {tb : WX → TS} {Wout : WX}
/-- an exception of the body in the hands of the clauses -/
theorem hands (hs : X.stack = X.env :: X.outer) (hf : X.env.frame = some X.env.locals) (hN : X.N.Nodup) (tk : Takes X Wout) {D : Ends} {pins : List (Addr × Obj)} {σ : L2.St} {H : Hp} {sI s : Shared} {a : Addr} {B : Heap} {cls : Value} {d : Option Addr}
    (J : Inv X pins σ H sI) (nb : ∀ b o, sI.heap.get? b = some o → b ∉ frs X.stack → B.get? b = some o) (up : sI.heap.UpToSlots s.heap) (fl : PySem.HandSPX.FlyingZ B (X.env :: X.outer) a (Zc cls d) s.heap) (na : H a = none) (os : s.os = sI.os)
    (ag : AllBare s.gens) (hk : ClsOk X hds l) (w : wCls X.K Wout D l cls d σ H) : wpAny (model X.prog X.w) X.A (handleBy (.ref a) X.env hds) (SP X pins D) X.xe s := by
  have ok := J.ok
  have J3 : Inv X pins σ H s := J.landed nb fl.1 up os ag
  obtain ⟨oe3, vs3, he3, hz3, hd3⟩ := fl.there
  have nfr : a ∉ frs (X.env :: X.outer) := fun hm => by
    obtain ⟨_, o', e', hnf⟩ := fl.2.2.1.mem hm
    rw [he3] at e'; cases e'
    exact hnf _ hd3
  have nL : a ≠ X.env.locals := fun z => nfr (List.mem_filterMap.mpr ⟨X.env, List.mem_cons_self, by rw [hf, z]⟩)
  have nF : a ∉ X.fs := fun hm => by
    obtain ⟨e, he, q⟩ := List.mem_filterMap.mp hm
    exact nfr (List.mem_filterMap.mpr ⟨e, List.mem_cons_of_mem _ he, q⟩)
  have S3 := J3.suite he3 hd3 na nL nF
  have LT : PySem.W.Looks (model X.prog X.w) s.heap (typeOf (.ref a)) cls := fun A Q E s k q => wpAny_typeOf_ref (k _ _ he3) (by rw [hz3.1]; exact q)
  -- the clause's class is asked
  have test : ∀ {x : Str} {c : Value} {np : Pos} {Q : Value → Shared → Prop} {E : Value → Shared → Prop}, Names X x c → Q c s → wpAny (model X.prog X.w) (X.A.mark (some (.ref a))) (eval (.Name x np) X.env) Q E s := fun {x c np Q E} hc q => by
    obtain ⟨hg, hdbg, hm | ⟨hm, hv, hnn⟩⟩ := hc
    · exact ld_glob (X := X.suite a ((a, oe3) :: (X.pn ++ pins))) S3 hg hm q hdbg
    · exact ld_blt (X := X.suite a ((a, oe3) :: (X.pn ++ pins))) S3 hg hm hv q hnn hdbg
  -- a suite's state
  have land : ∀ {Q : Unit → Shared → Prop} {A : Around} {E : Value → Shared → Prop}, (∀ (s4 : Shared) (oe4 : Obj), Zc cls d oe4 → (∃ vs, oe4.data = .fields vs) → Inv (X.suite a ((a, oe4) :: (X.pn ++ pins))) [] σ H s4 → Q () s4) →
      wpAny (model X.prog X.w) A (setFlight (.ref a) none) Q E s := fun {Q A E} k => by
    refine PySem.HandSPX.lands_againZ fl fun h4 fl4 up4 => ?_
    have J4 : Inv X pins σ H { s with heap := h4 } := J.landed nb fl4.1 (up.trans up4) os ag
    obtain ⟨oe4, vs4, he4, hz4, hd4⟩ := fl4.there
    exact k _ oe4 hz4 ⟨_, hd4⟩ (J4.suite he4 hd4 na nL nF)
  induction hk with
  | nil =>
    refine wpAny_handleBy_nil ?_
    obtain ⟨k1, k2, k3, oe, vs, T, oT, ts', he, hz, hd, h1, hr⟩ := id fl
    unfold PySem.passOn
    refine wpAny_bind (wpAny_field he hd h1 ?_)
    rw [if_neg (show ¬ ((Value.ref T == Value.none) = true) from by simp)]
    have fin : wpAny (model X.prog X.w) X.A (setFlight (.ref a) X.env.frame) (fun _ s4 => wpAny (model X.prog X.w) X.A (throw (.ref a) : Sem Flow) (SP X pins D) X.xe s4) X.xe s := by
      rw [hf]
      refine PySem.HandSPX.setFlight_upZ fl fun h4 hh4 up4 => wpAny_throw (tk _ _ ?_)
      exact ⟨a, B, sI, pins, σ, H, cls, d, rfl, J, nb, up.trans up4, .inr (.inr (by rw [hs]; exact hh4)), na, os, ag, w⟩
    first
      | exact wpAny_bind (wpAny_pure (wpAny_bind fin))
      | exact wpAny_bind fin
  | @cons x c ts b₀ suite np pos' hds2 l2 hc hsu r ih =>
    obtain ⟨b, hb1, hyes, hno⟩ := w
    have LM := PySem.W.exm_one (M := model X.prog X.w) J3.kIn LT hb1
    refine wpAny_handleBy_cons (codeAny_handlers_test ?_) (by intro q; cases q)
    refine test hc (LM.here ?_)
    cases b with
    | false =>
      show wpAny _ X.A (handleBy (.ref a) X.env hds2) _ _ _
      exact ih (hno rfl)
    | true =>
      refine codeAny_handlers_suite (land fun s4 oe4 hz4 hd4 S4 => ?_)
      refine wpAny_mono ((hsu a oe4 cls d (X.pn ++ pins) hz4 hd4).run [] _ _ H _ S4 (hyes rfl a na)) (fun f s6 hsp => ?_) (fun _ _ z => False.elim z)
      cases f with
      | next => obtain ⟨σ6, H6, S6, q6⟩ := hsp; exact ⟨_, _, S6.unsuite ok, q6⟩
      | brk => obtain ⟨σ6, H6, S6, q6⟩ := hsp; exact ⟨_, _, S6.unsuite ok, q6⟩
      | cont => obtain ⟨σ6, H6, S6, q6⟩ := hsp; exact ⟨_, _, S6.unsuite ok, q6⟩
      | ret u => obtain ⟨v6, σ6, H6, S6, r6, q6⟩ := hsp; exact ⟨_, _, _, S6.unsuite ok, r6, q6⟩
  | @named x n i c ts b₀ suite np pos' hds2 l2 hc hi hln hsu r ih =>
    obtain ⟨b, hb1, hyes, hno⟩ := w
    have LM := PySem.W.exm_one (M := model X.prog X.w) J3.kIn LT hb1
    refine wpAny_handleBy_cons (codeAny_handlers_test ?_) (by intro q; cases q)
    refine test hc (LM.here ?_)
    cases b with
    | false =>
      show wpAny _ X.A (handleBy (.ref a) X.env hds2) _ _ _
      exact ih (hno rfl)
    | true =>
      refine codeAny_handlers_suite_as (land fun s4 oe4 hz4 hd4 S4 => ?_)
      refine store_ok (X := X.suite a ((a, oe4) :: (X.pn ++ pins))) (v := .ref a) S4 hN hi (.inl hln) rfl (fun s5 S5 => ?_) (.inr hln)
      refine wpAny_mono ((hsu a oe4 cls d (X.pn ++ pins) hz4 hd4).run [] s5 _ H _ S5 (hyes rfl a na)) (fun f s6 hsp => ?_) (fun _ _ z => False.elim z)
      have end_ : ∀ {σ6 : L2.St} {H6 : Hp} {Q : Shared → Prop}, Inv (X.suite a ((a, oe4) :: (X.pn ++ pins))) [] σ6 H6 s6 → (∀ s7, Inv X pins (σ6.set i none) H6 s7 → Q s7) →
          wpAny (model X.prog X.w) X.A (do bindName X.env n .none; unbindBehindTheSuite X.env n pos') (fun _ s7 => Q s7) X.xe s6 := fun {σ6 H6 Q} S6 hq => gone_ok (S6.unsuite ok) hN hi hln hq
      cases f with
      | next => obtain ⟨σ6, H6, S6, q6⟩ := hsp; exact end_ S6 fun s7 J7 => ⟨_, _, J7, q6⟩
      | brk => obtain ⟨σ6, H6, S6, q6⟩ := hsp; exact end_ S6 fun s7 J7 => ⟨_, _, J7, q6⟩
      | cont => obtain ⟨σ6, H6, S6, q6⟩ := hsp; exact end_ S6 fun s7 J7 => ⟨_, _, J7, q6⟩
      | ret u => obtain ⟨v6, σ6, H6, S6, r6, q6⟩ := hsp; exact end_ S6 fun s7 J7 => ⟨_, _, _, J7, r6, q6⟩
/-- try: body, several clauses -/
theorem ps_tryC (hs : X.stack = X.env :: X.outer) (hf : X.env.frame = some X.env.locals) (hN : X.N.Nodup) (tk : Takes X Wout)
    (hb : ∀ (W : WX) (pn : List (Addr × Obj)) (xe : Value → Shared → Prop), Takes (X.tr pn xe) W → PassesOwn (model X.prog X.w) X.A X.env xe → PSs (X.tr pn xe) body (tb W))
    (hh : ClsOk X (h₀ :: hds) l) : PS X (.Try body (h₀ :: hds) [] [] pos) (fun D σ H => tb (wCls X.K Wout D l) D σ H) := by
  refine ⟨fun pins s σ H D I h => ?_⟩
  have ok := I.ok
  have hfr : X.A.frames = some (X.env :: X.outer) := by rw [ok.frames, hs]
  refine wpAny_Try_except ?_
  refine wpAny_mono ((hb (wCls X.K Wout D l) (X.pn ++ pins) (fun e s₁ => wpAny (model X.prog X.w) X.A (noteFrame e X.env) (fun _ s₂ => wpAny (model X.prog X.w) X.A (setFlight e none) (fun _ s₃ =>
    wpAny (model X.prog X.w) X.A (handleBy e X.env (h₀ :: hds)) (SP X pins D) X.xe s₃) X.xe s₂) X.xe s₁) (fun u s' xx => ?_) PassesOwn.looking).run [] s σ H D (I.toTry _) h) (fun f s1 hsp => ?_) (fun e s1 he => he)
  · obtain ⟨a, B, sI, pins', σ', H', cls, d, rfl, J', nb, up, sky, na, os, ag, w⟩ := xx
    have sky' : Sky B (X.env :: X.outer) a (Zc cls d) X.env.locals s'.heap := by rw [← hs]; exact sky
    show wpAny (model X.prog X.w) X.A (noteFrame (.ref a) X.env) _ _ _
    exact Sky.land Zc.steady hfr hf sky' fun h3 fl3 up3 => hands hs hf hN tk (J'.ofTry ok) nb (up.trans up3) fl3 na os ag hh w
  · cases f with
    | next => obtain ⟨σ', H', J', q⟩ := hsp; exact wpAny_execs_nil ⟨σ', H', J'.ofTry ok, q⟩
    | brk => obtain ⟨σ', H', J', q⟩ := hsp; exact ⟨σ', H', J'.ofTry ok, q⟩
    | cont => obtain ⟨σ', H', J', q⟩ := hsp; exact ⟨σ', H', J'.ofTry ok, q⟩
    | ret u => obtain ⟨v, σ', H', J', r, q⟩ := hsp; exact ⟨v, σ', H', J'.ofTry ok, r, q⟩
end
end OR
set_option Elab.async false
set_option linter.all false
set_option maxRecDepth 100000
set_option maxHeartbeats 4000000
/-! E3: a def that is called in an except suite with the caught error; isinstance of that error (it may have fields). -/
namespace OR
open PySem PySem.Calls PySem.Spec PyProof.Rows L2 L2H
/-! ### isinstance of a caught error with its own dict -/
section
open PySem.W
variable {prog : Program} {w : World} {A : Around} {E : Value → Shared → Prop} {s : Shared} {K : Frag} {x D : Addr} {ox : Obj} {od : Option Obj}
theorem findObj_dataO {C : Addr} {name : Str} {a g : Value} (hc : (clsIn K C).isSome = true) (ha : findIn K (.ref C) name = some (some a)) (hg : specialIn K a "__get__" = some (some g)) (ht : takesIn K a = some true) : findObj K C od name = some (.bind g a) := by
  obtain ⟨cd, hc⟩ := Option.isSome_iff_exists.mp hc
  simp [findObj, hc, ha, hg, ht]
theorem class_of_exc (T : ExcC K D) {Q : Option Value → Shared → Prop} (X : K.In s.heap) (I : InstAt s.heap x ox D od) (h : Q (some (.ref D)) { s with toks := s.toks + 1 }) : wpAny (model prog w) A (getAttr? (.ref x) "__class__") Q E s := by
  have hf : findObj K D od "__class__" = some (.bind (.builtin "getset_descriptor.__get__") (.builtin "object.__class__")) := findObj_dataO (by obtain ⟨cd, hc, _⟩ := any_some T.hd; rw [hc]; rfl) T.ha T.hn T.ht
  obtain ⟨hp, g, d, t, os⟩ := s
  have L0 := I.type (M := model prog w)
  have L1 := looks_findIn (M := model prog w) X T.hg
  have L2 := looks_findIn (M := model prog w) X T.hk
  have L3 := looks_find (M := model prog w) X I hf
  have sub : Looks (model prog w) hp (isInstance (.ref x) (.type "BaseException")) true := L0.andThen (looks_subIn X T.hs)
  have hx0 : (false && onTheHeap (Value.builtin "BaseException.__getattribute__")) = false := rfl
  have hx2 : (Value.builtin "BaseException.__getattribute__" == Value.builtin "object.__getattribute__") = false := by decide +kernel
  have hx1 : (onTheHeap (Value.ref D) && Value.builtin "BaseException.__getattribute__" == Value.builtin "object.__getattribute__") = false := by rw [hx2]; rfl
  unfold getAttr? getAttrBy? getAttrBy
  refine wpAny_bind (wpAny_mkText (wpAny_bind (wpAny_attempt (wpAny_holding (wpAny_bind (L0.at (wpAny_bind (L1.at ?_))))))))
  show wpAny _ _ (if (onTheHeap (Value.ref D) && Value.builtin "BaseException.__getattribute__" == Value.builtin "object.__getattribute__") = true then _ else _) _ _ _
  rw [hx1, if_neg Bool.false_ne_true]
  unfold getAttrByItsOwn hookBefore
  refine wpAny_bind ?_
  rw [if_pos (show onTheHeap (Value.ref D) = true from rfl)]
  refine L2.at (wpAny_bind (wpAny_attempt (wpAny_holding ?_)))
  unfold callGetattribute
  rw [hx0, if_neg Bool.false_ne_true]
  unfold boundAndCalled
  rw [PySem.F.excAttr_ValueError.ga.bind (.ref x)]
  refine wpAny_bind (wpAny_pure ?_)
  show wpAny _ _ (call (.builtin "BaseException.__getattribute__") [.ref x, .str "__class__" t]) _ _ _
  refine wpAny_call (codeAny_call_builtin PySem.F.excAttr_ValueError.ga.plain PySem.F.entry_bexc_ga ?_)
  refine @check_slot (model prog w) _ _ ⟨hp, g, d, t + 1, os⟩ "BaseException.__getattribute__" "BaseException" "__getattribute__" (.ref x) [.str "__class__" t] [] _ (by decide +kernel) (by decide +kernel) sub (PySem.F.args_bexc_ga (.ref x) (.str "__class__" t)) ?_
  unfold Builtin.«object.__getattribute__»
  refine wpAny_bind (wpAny_of_eq (a := ((Value.ref x : Value), [Value.str "__class__" t])) (by first | rfl | (simp only [slotArgs]; rfl)) ?_)
  refine wpAny_bind (wpAny_pure (wpAny_bind (L0.at (wpAny_bind (L3.at ?_)))))
  show wpAny _ _ (holding [Value.builtin "object.__class__"] (call (.builtin "getset_descriptor.__get__") [.builtin "object.__class__", .ref x, .ref D]) >>= ret) _ _ _
  refine wpAny_bind (wpAny_holding (wpAny_call (class_get (s := ⟨hp, g, d, t + 1, os⟩) (ox := ox) (od := od) X I T.hm ?_)))
  refine wpAny_pure ?_
  show wpAny _ _ (handedOut (.ref D)) _ _ _
  rw [handedOut_of (v := .ref D) rfl]
  first
    | exact wpAny_pure (wpAny_pure h)
    | exact wpAny_pure h
    | exact wpAny_pure (wpAny_bind (wpAny_pure (wpAny_pure h)))
theorem kitx_exc (T : ExcC K D) : KitX K (.ref x) (.ref D) (fun h => InstAt h x ox D od) where
  ty := fun _ _ _ I => I.type
  it := fun _ _ X _ => by
    obtain ⟨cdD, hcD, _⟩ := any_some T.hd
    unfold clsIn at hcD
    split at hcD
    · rename_i c' d' cd' sl' ho
      intro A' Q' E' s' k q
      unfold isType loadHead
      exact wpAny_bind (wpAny_loadPart (k _ _ (X _ _ ho)) (wpAny_pure q))
    · cases hcD
  ne := fun h tp dd its n sl X htp => by
    obtain ⟨cdD, hcD, _⟩ := any_some T.hd
    refine Bool.eq_false_iff.mpr fun q => ?_
    have e : D = tp := Value.ref.inj (beq_iff_eq.mp q)
    subst e
    unfold clsIn at hcD
    split at hcD
    · rename_i c' d' cd' sl' ho
      have z := (X _ _ ho).symm.trans htp
      cases z
    · cases hcD
  ca := fun X I k => class_of_exc T X I k
end
/-- an error's own dict: none, or tracked -/
def DOk (d : Option Addr) (H : Hp) : Prop := d = none ∨ ∃ dd fs, d = some dd ∧ H dd = some (.xd fs)
/-- isinstance(e, c), e the error at a that is pinned -/
def rIsP (K : PySem.W.Frag) (a : Addr) (cls : Value) (d : Option Addr) : List V → Hp → VK → Prop := fun xs H Q => ∃ (D : Addr) (c : V) (cv : Value) (b : Bool), cls = .ref D ∧ ExcC K D ∧ xs = [.ref a, c] ∧ (∀ u, RelV c u → u = cv) ∧ DOk d H ∧ PySem.W.kitOne K (.ref D) cv = some b ∧ Q (.bl b) H
theorem call_isP {X : Cx} {a : Addr} {cls : Value} {oe : Obj} {d : Option Addr} (hz : Zc cls d oe) (hf : ∃ vs, oe.data = .fields vs) (hp : (a, oe) ∈ X.pn) : CallR X (.builtin "isinstance") (rIsP X.K a cls d) := by
  intro pins s σ H xs us Q I r h
  obtain ⟨D, c, cv, b, rfl, C, rfl, hcv, hd, e, q⟩ := h
  cases r with
  | cons rx rr =>
    cases rr with
    | cons rt rr =>
      cases rr
      cases rx
      have ec := hcv _ rt
      subst ec
      obtain ⟨hget, _⟩ := I.pin (a, oe) (List.mem_append.mpr (.inl hp))
      obtain ⟨vs, hv⟩ := hf
      have J : ∃ od, PySem.W.InstAt s.heap a oe D od := by
        obtain ⟨oc, od, oda, osl⟩ := oe
        obtain ⟨h1, h2⟩ := hz
        dsimp only at h1 h2 hv
        subst h1 h2 hv
        rcases hd with hd | ⟨dd, fs, hd, hx⟩
        · subst hd
          exact ⟨none, hget, rfl, rfl, trivial⟩
        · subst hd
          obtain ⟨mA, ⟨o, _, _, ho, _⟩, _⟩ := (show ObjOk X.prog X.w H s.heap dd (.xd fs) from I.hok dd _ hx)
          exact ⟨some o, hget, rfl, rfl, ho⟩
      obtain ⟨od, J⟩ := J
      exact PySem.W.kia_one (kitx_exc C) I.kIn J e (fun z => nomatch z) fun tk => ⟨.bl b, H, I.kept (t' := tk) fun _ _ z => z, rfl, q⟩
/-- the same in the suite itself -/
theorem call_isS {X : Cx} {a : Addr} {cls : Value} {oe : Obj} {d : Option Addr} {pn : List (Addr × Obj)} (hz : Zc cls d oe) (hf : ∃ vs, oe.data = .fields vs) : CallR (X.suite a ((a, oe) :: pn)) (.builtin "isinstance") (rIsP X.K a cls d) :=
  call_isP (X := X.suite a ((a, oe) :: pn)) hz hf (List.mem_cons_self ..)
theorem dok_same {d : Option Addr} {H H' : Hp} (h : DOk d H) (e : Same H H') : DOk d H' := by
  rcases h with h | ⟨dd, fs, h, h2⟩
  · exact .inl h
  · exact .inr ⟨dd, fs, h, e _ _ h2⟩
/-! ### a def called there -/
structure FnE (P : Program) (w : World) (K : PySem.W.Frag) (mg : Str → Option Value) (base : Heap) (k : Nat) (f : Addr) (fd : FuncData) (ps : List Str) (sp : Addr → Value → Option Addr → Sp) : Prop where
  len : ∀ a cls d vs H Q E, sp a cls d vs H Q E → vs.length = ps.length
  run : ∀ (A : Around) (outer : List Env) (s : Shared) (H : Hp) (args : Args) (us : List Value) (vs : List V) (Q : VK) (a : Addr) (oe : Obj) (cls : Value) (d : Option Addr), RoomH k A → PinOk outer H s (a, oe) → Zc cls d oe → (∃ vs, oe.data = .fields vs) → Env0 P w K mg base A outer s H → BindsTo s fd args (ps.zip us) → Vals vs us → sp a cls d vs H Q E0 →
    codeAny (model P w) A (.call (.ref f) args) (CR CX0 outer P w H s Q E0) s
section
variable {P : Program} {w : World} {K : PySem.W.Frag} {mg : Str → Option Value} {base : Heap} {k : Nat} {f : Addr} {name qual : Str} {params : Arguments} {body : List Stmt} {scope : Scope} {dV kV doc pm cdv ct oc : Value} {an od : Option Addr}
    {osl : Array (Option Value)} {N ps : List Str} {sp : Addr → Value → Option Addr → Sp}
theorem fn_ofE (lk : K.lookup f = some ⟨oc, od, .func (PySem.W.fnOf name qual params body scope dV kV doc pm an cdv ct), osl⟩) (hcd : PySem.W.codeIn K cdv qual = true) (S : FnScope N ps scope)
    (len : ∀ a cls d vs H Q E, sp a cls d vs H Q E → vs.length = ps.length)
    (hbody : ∀ (A : Around) (outer : List Env) (s : Shared) (H : Hp) (vs : List V) (Q : VK) (a : Addr) (oe : Obj) (cls : Value) (d : Option Addr), RoomH k (A.deeper (envOfC qual scope s.heap.objs.size f cdv)) → Zc cls d oe → (∃ vs, oe.data = .fields vs) → sp a cls d vs H Q E0 →
      ∃ t, PSs (cxH CX0 P w K mg base N qual scope f cdv A outer s H E0 (a, oe)) body t ∧ t { nx := fun _ H' => Q .non H', rt := Q } (L2.start N vs) H) :
    FnE P w K mg base (k + 1) f (PySem.W.fnOf name qual params body scope dV kV doc pm an cdv ct) ps sp := by
  refine ⟨len, fun A outer s H args us vs Q a oe cls d hr hpin hz hf e0 hb r hsp => ?_⟩
  have hl := len _ _ _ _ _ _ _ hsp
  have KX : K.In s.heap := e0.mod.kin.keeps fun b o e => (e0.bs b o e).1
  have lim : s.heap.NoLimit := e0.mod.nolimit.keeps fun b o e => (e0.bs b o e).1
  have hkind : ∀ y ∈ ps.zip us, scope.names.lookup y.1 = some .local ∨ (scope.names.lookup y.1 = some .cell ∧ ((cellsFrom (s.heap.objs.size + 1) scope.names []).lookup y.1).isSome = true) := fun ⟨n, v⟩ hy =>
    (S.par n (List.of_mem_zip hy).1).imp id fun q => ⟨q, PySem.W.cellsFrom_some _ _ _ (.inl q)⟩
  refine codeAny_call_function hr.depth (KX _ _ lk) rfl S.co S.gen rfl (PySem.W.codeRec_of KX hcd) (hb _ _ _ _ ?_)
  refine wpAny_newFunctionEnv_cells S.kind hkind fun env he s1 x => ?_
  subst he
  refine ⟨lim.keeps x.toInCall.keep, codeAny_func ?_⟩
  obtain ⟨t, ht, hq⟩ := hbody A outer s H vs Q a oe cls d (hr.deeper _) hz hf hsp
  have I := inv_startH (CX := CX0) (E := E0) (N := N) S hpin e0 hl r x
  refine wpAny_mono (ht.run [] s1 (L2.start N vs) H _ I hq) (fun fl s' hs => ?_) fun e s' hs => hs
  cases fl with
  | ret u =>
    obtain ⟨v, σ', H', J, rv, q⟩ := hs
    exact ⟨v, H', J.os, J.bare, J.base, J.hok, rv, q⟩
  | next =>
    obtain ⟨σ', H', J, q⟩ := hs
    exact ⟨.non, H', J.os, J.bare, J.base, J.hok, rfl, q⟩
  | brk =>
    obtain ⟨_, _, _, q⟩ := hs
    exact False.elim q
  | cont =>
    obtain ⟨_, _, _, q⟩ := hs
    exact False.elim q
end
section
variable {X : Cx} {k : Nat} {f a : Addr} {oe : Obj} {fd : FuncData} {ps : List Str} {sp : Addr → Value → Option Addr → Sp} {x : Str} {q pos : Pos} {e : Expr} {es : List Expr} {t : TA}
theorem pe_callE (F : FnE X.prog X.w X.K X.mg X.base k f fd ps sp) {cls : Value} {d : Option Addr} (hr : RoomH k X.A) (hz : Zc cls d oe) (hf : ∃ vs, oe.data = .fields vs) (hp : (a, oe) ∈ X.pn) (hg : Gl X x) (hm : X.mg x = some (.ref f)) (hk : PySem.W.keepIn X.K (.ref f) = true) (hb : Binds X.K fd ps [])
    (ha : PA X (e :: es) t) (hdb : (x == ("__debug__" : Str)) = false := by decide) (he : starEach (e :: es) X.env = (false, eval e X.env) :: starEach es X.env := by rfl) (hpl : (backTo pos (starEach es X.env)).any (·.1) = false := by rfl) :
    PE X (.Call (.Name x q) (e :: es) [] pos) (tCall (sp a cls d) [] E0 t) := by
  refine ⟨fun pins s σ H Q I h => ?_⟩
  refine wpAny_Call_Name_kw (ld_glob I hg hm ?_ hdb)
  refine PySem.W.callWith_K (h₀ := X.base) I.ok.mod.kin hk (thn (ha.run pos pins s σ H _ I h) fun us s1 ⟨vs, H1, I1, r, q⟩ => ⟨I1.kIn, ?_⟩) he hpl
  have q : sp a cls d vs H1 Q E0 := by
    have z : sp a cls d (vs ++ []) H1 Q E0 := q
    rw [List.append_nil] at z
    exact z
  have hl : us.length = ps.length := by rw [← r.length]; exact F.len _ _ _ _ _ _ _ q
  have b := hb s1 us I1.kIn (by rw [List.append_nil]; exact hl)
  rw [List.append_nil] at b
  have P1 := I1.pin (a, oe) (List.mem_append_left _ hp)
  have hpin : PinOk X.stack H1 s1 (a, oe) := ⟨P1.1, P1.2.1, fun hm => (List.mem_cons.mp (I1.stkSub a hm)).elim P1.2.2.1 P1.2.2.2.1, P1.2.2.2.2⟩
  refine wpAny_call (codeAny_mono (F.run X.A X.stack s1 H1 ⟨us, []⟩ us vs Q a oe cls d hr hpin hz hf I1.env0 b r q) fun r s' hq => ?_)
  cases r with
  | error e => exact False.elim hq
  | ok fl =>
    cases fl with
    | ret u => exact I1.after hq
    | next => exact False.elim hq
    | brk => exact False.elim hq
    | cont => exact False.elim hq
end
end OR
set_option Elab.async false
set_option linter.all false
set_option maxRecDepth 100000
set_option maxHeartbeats 4000000
/-! E4: the error classes of this set: X(e, ..) made, its fields told by the arguments; X() without a field. -/
namespace OR
open PySem PySem.Calls PySem.Spec PyProof.Rows L2 NdefX
/-- what such an __init__ promises: n arguments, the fields of its dict -/
def spIni (C : Addr) (n : Nat) (flds : List V → List (Str × V)) : Sp := fun vs H Q _ => ∃ (a : Addr) (ws : List V), vs = .ref a :: ws ∧ ws.length = n ∧ H a = some (exo a C none) ∧
  ∀ dx, H dx = none → dx ≠ a → Q .non (upd (upd H dx (exd dx (flds ws))) a (exo a C (some dx)))
def spIni0 (C : Addr) : Sp := fun vs H Q _ => ∃ a : Addr, vs = [.ref a] ∧ H a = some (exo a C none) ∧ Q .non H
theorem upd_swap {H : Hp} {a b : Addr} {o u : HO} (h : a ≠ b) : upd (upd H a o) b u = upd (upd H b u) a o := by
  funext c
  by_cases ha : c = a
  · rw [ha, upd_ne h, upd_same, upd_same]
  · by_cases hb : c = b
    · rw [hb, upd_same, upd_ne (Ne.symm h), upd_same]
    · rw [upd_ne hb, upd_ne ha, upd_ne ha, upd_ne hb]
theorem del_made {H : Hp} {a d : Addr} {o1 o2 o3 o4 : HO} (ha : H a = none) (h : d ≠ a) : upd (del (upd (upd (upd H a o1) d o2) a o3) a) d o4 = upd H d o4 := by
  funext c
  by_cases hd : c = d
  · rw [hd, upd_same, upd_same]
  · rw [upd_ne hd, upd_ne hd]
    by_cases hc : c = a
    · rw [hc, del_same, ha]
    · rw [del_ne hc, upd_ne hc, upd_ne hd, upd_ne hc]
theorem del_made0 {H : Hp} {a : Addr} {o1 : HO} (ha : H a = none) : del (upd H a o1) a = H := by
  funext c
  by_cases hc : c = a
  · rw [hc, del_same, ha]
  · rw [del_ne hc, upd_ne hc]
/-- a reading's closure: what is shown of the values and the heap may be weakened -/
def upA (t : TA) : TA := fun σ H Q => ∃ Q0, t σ H Q0 ∧ ∀ vs H1, Q0 vs H1 → Q vs H1
theorem pa_up {X : Cx} {es : List Expr} {t : TA} (h : PA X es t) : PA X es (upA t) := ⟨fun pos pins s σ H Q I ⟨Q0, h0, hq⟩ =>
  wpAny_mono (h.run pos pins s σ H Q0 I h0) (fun us s1 ⟨vs, H1, I1, r, q⟩ => ⟨vs, H1, I1, r, hq vs H1 q⟩) fun _ _ z => z⟩
/-- what is known of an error class at C -/
structure ErrOk (P : Program) (w : World) (K : PySem.W.Frag) (mg : Str → Option Value) (base : Heap) (x : Str) (C : Addr) (sp : Sp) (n : Nat) : Prop where
  T : OexC K C
  gC : mg x = some (.ref C)
  ini : ∃ (fI : Addr) (fd : FuncData) (ps : List Str), PySem.W.findIn K (.ref C) "__init__" = some (some (.ref fI)) ∧ PySem.W.typeIn K (.ref fI) = some (.type "function") ∧ FnOk P w K mg base CX0 1 fI fd ps sp ∧ Binds K fd ps [] ∧ ps.length = n + 1
/-- X(e, ..): the error's dict is new; nothing else is -/
def tMkE (C : Addr) (n : Nat) (flds : List V → List (Str × V)) (ta : TA) : L2.St → Hp → XK → Prop := fun σ H Q => ta σ H fun vs H1 => vs.length = n ∧ ∀ d, H1 d = none → Q (.ref C) (some d) (upd H1 d (.xd (flds vs)))
def tMkE0 (C : Addr) : L2.St → Hp → XK → Prop := fun _ H Q => Q (.ref C) none H
section
variable {X : Cx} {x : Str} {C : Addr} {n : Nat} {flds : List V → List (Str × V)} {e : Expr} {es : List Expr} {ta : TA} {p pos : Pos}
theorem pmk_err (T : ErrOk X.prog X.w X.K X.mg X.base x C (spIni C n flds) n) (hn : n ≤ 900) (hr : Room 2 X.A) (ha : PA X (e :: es) ta) (hg : Gl X x)
    (hdb : (x == ("__debug__" : Str)) = false := by decide) (he : starEach (e :: es) X.env = (false, eval e X.env) :: starEach es X.env := by rfl) (hpl : (backTo pos (starEach es X.env)).any (·.1) = false := by rfl) :
    PMk X (.Call (.Name x p) (e :: es) [] pos) (tMkE C n flds ta) := by
  obtain ⟨fI, fd, ps, iC, tI, F, hb, _⟩ := T.ini
  intro pins s σ H Q I h
  refine pmk_oex T.T iC tI F hr hb .nil pass0 hg T.gC (pa_up ha) hdb he hpl pins s σ H Q I ?_
  exact ⟨_, h, fun vs H1 ⟨hl, hq⟩ => ⟨by omega, fun a ha1 => ⟨a, vs, by rw [List.append_nil], hl, upd_same, fun dx hd hne => ⟨rfl, dx, flds vs, upd_same, by rw [upd_ne hne, upd_same], by rw [upd_ne hne] at hd; exact hd, by
    rw [del_made ha1 hne]
    exact hq dx (by rw [upd_ne hne] at hd; exact hd)⟩⟩⟩⟩
/-- a new error without a dict is let go -/
theorem mk_bare {pins : List (Addr × Obj)} {σ : L2.St} {H1 : Hp} {hp hp2 h2 : Heap} {g1 g2 : Array GenState} {d1 d2 : Drawn} {t1 t2 : Nat} {os1 os2 : OsState} {a : Addr} (I1 : Inv X pins σ H1 ⟨hp, g1, d1, t1, os1⟩)
    (ha : hp.objs.size ≤ a) (k : ∀ b o, hp.get? b = some o → hp2.get? b = some o) (un : Un (frs X.stack) [] (upd H1 a (exo a C none)) (upd H1 a (exo a C none)) hp2 h2) (hok : HOk X.prog X.w (upd H1 a (exo a C none)) h2) (ho : os2 = os1) (hb : AllBare g2) :
    ∃ (t0 : Addr) (G : Heap), Inv X pins σ H1 ⟨G, g2, d2, t2, os2⟩ ∧ (∀ b o, G.get? b = some o → h2.get? b = some o) ∧ G.get? a = none ∧
      h2.get? a = some ({ cls := .ref C, dict := none, data := .fields #[.ref t0, .none, .none, .none, .bool false, .none] } : Obj) := by
  obtain ⟨t0, hoe⟩ := exo_at hok upd_same
  have hn : H1 a = none := I1.hok.fresh ha
  obtain ⟨G, g1', g2'⟩ := restrict h2 fun b => decide (b ≠ a)
  have gk : ∀ b, b ≠ a → G.get? b = h2.get? b := fun b hb => g1' b (decide_eq_true hb)
  have ge : G.get? a = none := g2' a (by simp)
  have nha : ∀ {b : Addr} {o : Obj}, hp.get? b = some o → b ≠ a := fun {b o} z => Nat.ne_of_lt (Nat.lt_of_lt_of_le (Heap.lt_size z) ha)
  have up : ∀ {b : Addr}, b ≠ a → H1 b = none → upd H1 a (exo a C none) b = none := fun {b} hb n => by rw [upd_ne hb]; exact n
  have U : Un (frs X.stack) [] H1 H1 hp G := {
    keep := fun b o z n hf hx => by rw [gk b (nha z)]; exact un.keep b o (k b o z) (up (nha z) n) hf hx
    slot := fun b o z n hf hx => by rw [gk b (nha z)]; exact un.slot b o (k b o z) (up (nha z) n) hf hx
    free := fun b o z n hx => n
    there := fun b o z hx => by rw [gk b (nha z)]; exact un.there b o (k b o z) hx
    tups := fun b xs z => z
    frzs := fun b o v z => z
    tbls := fun b ps z => ⟨#[], by rw [z]; simp⟩ }
  have hok3 : HOk X.prog X.w H1 G := fun b o z => by
    have hba : b ≠ a := ne_of_none z hn
    have q := hok b o (by rw [upd_ne hba]; exact z)
    have noa : ∀ {c : Addr} {u : HO}, upd H1 a (exo a C none) c = some u → exo a C none ≠ u → H1 c = some u := fun {c u} hc hne => by
      by_cases e : c = a
      · rw [e, upd_same] at hc
        exact absurd (Option.some.inj hc) hne
      · rw [upd_ne e] at hc
        exact hc
    exact q.stay (fun c v hc y => by
        have hca : c ≠ a := by
          rcases hc with hc | hc
          · rw [hc]; exact hba
          · exact ne_of_none (noa hc exo_own) hn
        rw [gk c hca]
        exact y)
      (fun c hc => noa hc exo_own) (fun c xs hc => noa hc exo_tup)
  have J : Inv X pins σ H1 ⟨G, g2, d2, t2, os2⟩ := I1.call' (ch := []) ho U hok3 hb (fun b z => absurd z (by simp))
  refine ⟨t0, G, J, fun b o z => ?_, ge, hoe⟩
  by_cases hba : b = a
  · rw [hba, ge] at z
    cases z
  · exact (gk b hba).symm.trans z
/-- X(): no field, no dict -/
theorem pmk_err0 (T : ErrOk X.prog X.w X.K X.mg X.base x C (spIni0 C) 0) (hr : Room 2 X.A) (hg : Gl X x) (hdb : (x == ("__debug__" : Str)) = false := by decide) :
    PMk X (.Call (.Name x p) [] [] pos) (tMkE0 C) := by
  obtain ⟨fI, fd, ps, iC, tI, FI, hb, hps⟩ := T.ini
  intro pins s σ H1 Q I1 q1
  obtain ⟨nm, q, N, bs, bm, sn, sub, ab, col, dd, k0, k1, k2, k3, k5, hC, hbm⟩ := T.T.cls
  refine wpAny_Call_Name_kw (ld_glob I1 hg T.gC ?_ hdb)
  refine PySem.W.callWith_K0 I1.kIn T.T.kC ?_
  obtain ⟨hp, g, dr, tk, os⟩ := s
  have hsz : hp.objs.size ≤ hp.objs.size + 1 := Nat.le_succ _
  have hn : H1 (hp.objs.size + 1) = none := I1.hok.fresh hsz
  have kk : ∀ b o, hp.get? b = some o → ((hp.push (PySem.W.kdv_tup [])).push (PySem.HandSPX.excO C hp.objs.size)).get? b = some o := fun b o e => Heap.get?_push_of_some _ (Heap.get?_push_of_some _ e)
  have hget : ((hp.push (PySem.W.kdv_tup [])).push (PySem.HandSPX.excO C hp.objs.size)).get? (hp.objs.size + 1) = some (PySem.HandSPX.excO C hp.objs.size) := by heap_get
  have I2 : Inv X pins σ (upd H1 (hp.objs.size + 1) (exo (hp.objs.size + 1) C none)) ⟨(hp.push (PySem.W.kdv_tup [])).push (PySem.HandSPX.excO C hp.objs.size), g, dr, tk, os⟩ :=
    I1.laid (t' := tk) (a := hp.objs.size + 1) (o := exo (hp.objs.size + 1) C none) (h' := (hp.push (PySem.W.kdv_tup [])).push (PySem.HandSPX.excO C hp.objs.size)) kk hsz (exo_ok hget)
  have b0 := hb ⟨(hp.push (PySem.W.kdv_tup [])).push (PySem.HandSPX.excO C hp.objs.size), g, dr, tk, os⟩ [Value.ref (hp.objs.size + 1)] I2.kIn (by rw [List.append_nil, hps]; rfl)
  have r2 : Vals [V.ref (hp.objs.size + 1)] [Value.ref (hp.objs.size + 1)] := .cons rfl .nil
  refine wpAny_call (PySem.HandSPX.call_own F.excBase_ValueError (fun Y => PySem.HandSPX.refsVE_contains Y bm hbm) (I1.kIn _ _ hC) (PySem.W.looks_findIn I1.kIn iC) (fun self => PySem.W.bind_fn I1.kIn self tI) (Nat.zero_le _)
    (codeAny_mono (FI.run _ X.stack _ _ ⟨[Value.ref (hp.objs.size + 1)], []⟩ _ _ (fun v H2 => v = .non ∧ H2 = upd H1 (hp.objs.size + 1) (exo (hp.objs.size + 1) C none)) (fun _ _ _ => False) (hr.make C [] []) (I2.env0.make C [] []) b0 r2 ⟨_, rfl, upd_same, rfl, rfl⟩) fun r s' hq' => ?_))
  cases r with
  | error er => exact False.elim hq'
  | ok fl =>
    cases fl with
    | ret u =>
      obtain ⟨v, H2, os2, bare2, un2, hok2, rv, ev, eH⟩ := hq'
      subst ev
      subst eH
      obtain ⟨h2, g2, d2, t2, os'⟩ := s'
      refine ⟨rv, ?_⟩
      obtain ⟨t0, G, J, kG, ge, hoe⟩ := mk_bare (d2 := d2) (t2 := t2) I1 hsz kk un2 hok2 os2 bare2
      exact ⟨_, _, _, ⟨G, g2, d2, t2, os'⟩, _, .ref C, none, rfl, J, kG, ge, hoe, ⟨rfl, rfl⟩, rfl, rfl, hn, rfl, bare2, raises_own T.T.exC T.T.tyC, q1⟩
    | next => exact False.elim hq'
    | brk => exact False.elim hq'
    | cont => exact False.elim hq'
end
end OR
set_option Elab.async false
set_option linter.all false
set_option maxRecDepth 100000
set_option maxHeartbeats 4000000
/-! HK: what the head tells: facts, defs, the error classes. -/
namespace OR
open PySem PySem.Calls PySem.Spec PyProof.Rows L2 NdefX He
/-- an error class: its name, its __init__ as the text has it, its fields' names -/
structure ErrD where
  x : Str
  qual : Str
  params : Arguments
  body : List Stmt
  scope : Scope
  flds : List Str
def oexB (K : PySem.W.Frag) (C : Addr) : Bool := match K.lookup C with
  | some ⟨.type "type", _, .cls cd, sl⟩ => (match cd.mro, sl.toList with
    | .ref C' :: bm, [_, _, _, _, some (.builtin n), _] => C' == C && n == "ValueError.__new__" && !cd.hasDel && cd.hasDict && PySem.HandSPX.refsVE bm
    | _, _ => false)
  | _ => false
theorem oexB_ok {K : PySem.W.Frag} {C : Addr} (q : oexB K C = true) : ∃ nm qn N bs bm sn sub ab col dd k0 k1 k2 k3 k5, K.lookup C = some (excClassObj nm qn C N bs bm true sn sub ab col dd k0 k1 k2 k3 k5 "ValueError.__new__") ∧ PySem.HandSPX.refsVE bm = true := by
  unfold oexB at q
  split at q
  · rename_i dd cd sl ho
    split at q
    · rename_i C' bm k0 k1 k2 k3 n k5 hm hs
      simp only [Bool.and_eq_true, beq_iff_eq, Bool.not_eq_true'] at q
      obtain ⟨⟨⟨⟨rfl, rfl⟩, hdel⟩, hdict⟩, ht⟩ := q
      obtain ⟨nm, bs, mro, ns, qn, hd, sn, sub, ab, col, del⟩ := cd
      dsimp only at hm hdel hdict
      subst hm hdel hdict
      have hsl : sl = #[k0, k1, k2, k3, some (.builtin "ValueError.__new__"), k5] := by
        obtain ⟨l⟩ := sl
        simp only at hs
        rw [hs]
      subst hsl
      exact ⟨nm, qn, ns, bs, bm, sn, sub, ab, col, dd, k0, k1, k2, k3, k5, ho, ht⟩
    · cases q
  · cases q
/-- the __init__ of the class x -/
def iniAt (K : PySem.W.Frag) (x : Str) : Addr := ma K (ga K x) "__init__"
/-- the function's own data, but its text -/
def iniB (file : Str) (K : PySem.W.Frag) (x qual : Str) : Bool := match K.lookup (iniAt K x) with
  | some ⟨_, _, .func fd, _⟩ => (match fd.closure, fd.defaults, fd.kwdefaults, fd.annotations, fd.code with
    | [(_, cc)], .none, .none, none, .ref cda => PySem.W.codeIn K (.ref cda) qual && (match K.lookup cc with
        | some ⟨_, _, .cell (some (.ref D)), _⟩ => D == ga K x
        | _ => false) && (match K.lookup cda with
        | some ⟨_, _, .fields vs, _⟩ => (match (vs[2]? : Option Value) with
          | some (Value.str f _) => file == f
          | _ => false)
        | _ => false)
    | _, _, _, _, _ => false)
  | _ => false
def errB (file : Str) (K : PySem.W.Frag) (d : ErrD) : Bool :=
  eqO (PySem.W.nsIn K mainGlobals d.x) (some (some (.ref (ga K d.x)))) && (oexB K (ga K d.x) && (eqO (PySem.W.findIn K (.ref (ga K d.x)) "__setattr__") (some (some (.builtin "object.__setattr__"))) &&
  (decide (PySem.W.subIn K (.ref (ga K d.x)) (.type "BaseException") = some true) && (decide (PySem.W.typeIn K (.ref (ga K d.x)) = some (.type "type")) && (PySem.W.keepIn K (.ref (ga K d.x)) &&
  (eqO (PySem.W.nsIn K PySem.cStatics "thirdparty.any") (some none) && (eqO (PySem.W.ks_superIn K (ga K d.x) (ga K d.x) "__init__") (some (some (.builtin "ValueError.__init__"))) &&
  (decide (PySem.W.subIn K (.ref (ga K d.x)) (.type "ValueError") = some true) && (decide (PySem.W.mroIn K (ga K d.x) (.ref (ga K d.x)) = some true) &&
  (eqO (PySem.W.findIn K (.ref (ga K d.x)) "__init__") (some (some (.ref (iniAt K d.x)))) && (decide (PySem.W.typeIn K (.ref (iniAt K d.x)) = some (.type "function")) &&
  (iniB file K d.x d.qual && (xfB K (ga K d.x) && d.flds.all fun f => eqO (PySem.W.findIn K (.ref (ga K d.x)) f) (some none))))))))))))))
abbrev FnC : Type := Option (Str × Str × Arguments × FuncBody × Scope × Addr × List Str × Addr)
def fnC (K : PySem.W.Frag) (x : Str) : FnC := match K.lookup (iniAt K x) with
  | some ⟨_, _, .func fd, _⟩ => some (fd.name, fd.qualname, fd.params, fd.body, fd.scope, fd.globals, fd.closure.map (·.1), fd.builtins)
  | _ => none
def ErrD.val (d : ErrD) : FnC := some ("__init__", d.qual, d.params, .stmts d.body, d.scope, mainGlobals, ["__class__"], builtinsNs)
/-- what is known of an error class, its __init__ not yet walked -/
structure ErrF (P : Program) (K : PySem.W.Frag) (mg : Str → Option Value) (d : ErrD) (f cc cda : Addr) : Prop where
  gC : mg d.x = some (.ref (ga K d.x))
  U : SupC P K mg (ga K d.x) cc cda
  iC : PySem.W.findIn K (.ref (ga K d.x)) "__init__" = some (some (.ref f))
  tI : PySem.W.typeIn K (.ref f) = some (.type "function")
  lk : ∃ oc od doc pm ct osl, K.lookup f = some (⟨oc, od, .func (PySem.W.fnX "__init__" d.qual d.params d.body d.scope [("__class__", cc)] .none .none doc pm none (.ref cda) ct), osl⟩ : Obj)
  cd : PySem.W.codeIn K (.ref cda) d.qual = true
  xf : XfC K (ga K d.x)
  no : ∀ g ∈ d.flds, PySem.W.findIn K (.ref (ga K d.x)) g = some none
theorem errF_of {P : Program} {K : PySem.W.Frag} {h : Heap} {mg : Str → Option Value} {d : ErrD} (X : K.In h) (G : h.Ns mainGlobals mg) (hs : mg "super" = none) (htop : (P.main.scope.names.lookup ("super" : Str)).isSome = false)
    (c : errB P.main.file K d = true) (e : fnC K d.x = d.val) : ∃ f cc cda, ErrF P K mg d f cc cda := by
  obtain ⟨c1, c⟩ := ba c
  obtain ⟨c2, c⟩ := ba c
  obtain ⟨c3, c⟩ := ba c
  obtain ⟨c4, c⟩ := ba c
  obtain ⟨c5, c⟩ := ba c
  obtain ⟨c6, c⟩ := ba c
  obtain ⟨c7, c⟩ := ba c
  obtain ⟨c8, c⟩ := ba c
  obtain ⟨c9, c⟩ := ba c
  obtain ⟨c10, c⟩ := ba c
  obtain ⟨c11, c⟩ := ba c
  obtain ⟨c12, c⟩ := ba c
  obtain ⟨c13, c⟩ := ba c
  obtain ⟨c14, c15⟩ := ba c
  unfold iniB at c13
  unfold fnC at e
  cases q : K.lookup (iniAt K d.x) with
  | none => rw [q] at c13; cases c13
  | some o =>
    obtain ⟨oc, od, dt, osl⟩ := o
    rw [q] at c13 e
    cases dt with
    | func fd =>
      obtain ⟨n1, n2, n3, n4, n5, n6, n7, n8, n9, n10, n11, n12, n13, n14, n15⟩ := fd
      have e2 : (some (n1, n2, n3, n4, n5, n6, n7.map (·.1), n15) : FnC) = (some (("__init__" : Str), d.qual, d.params, FuncBody.stmts d.body, d.scope, mainGlobals, [("__class__" : Str)], builtinsNs) : FnC) := e
      simp only [Option.some.injEq, Prod.mk.injEq] at e2
      obtain ⟨h1, h2, h3, h4, h5, h6, h7, h8⟩ := e2
      subst h1 h2 h3 h4 h5 h6 h8
      dsimp only at c13
      split at c13
      · rename_i x1 x2 x3 x4 y cc cda
        obtain ⟨c13a, c13c⟩ := ba c13
        obtain ⟨c13a, c13b⟩ := ba c13a
        have hy : y = "__class__" := by simpa using h7
        subst hy
        have cell : ∃ cl cld csl, K.lookup cc = some (⟨cl, cld, .cell (some (.ref (ga K d.x))), csl⟩ : Obj) := by
          split at c13b
          · rename_i cl cld D csl hq
            have eD : D = ga K d.x := by simpa using c13b
            rw [eD] at hq
            exact ⟨_, _, _, hq⟩
          · cases c13b
        have code : ∃ ccl cdd vs ccs f tf, K.lookup cda = some (⟨ccl, cdd, .fields vs, ccs⟩ : Obj) ∧ vs[2]? = some (.str f tf) ∧ ((P.main.file : Str) == f) = true := by
          split at c13c
          · rename_i ccl cdd vs ccs hq
            split at c13c
            · rename_i f tf hv
              exact ⟨_, _, _, _, f, tf, hq, hv, c13c⟩
            · cases c13c
          · cases c13c
        exact ⟨iniAt K d.x, cc, cda, PySem.W.mg_of X G (eqO_ok c1), ⟨⟨oexB_ok c2, eqO_ok c3, of_decide_eq_true c4, of_decide_eq_true c5, c6⟩, cell, code, hs, eqO_ok c7, eqO_ok c8, of_decide_eq_true c9, of_decide_eq_true c10, htop⟩,
          eqO_ok c11, of_decide_eq_true c12, ⟨_, _, _, _, _, _, q⟩, c13a, xfB_ok c14, fun g hg => eqO_ok (List.all_eq_true.mp c15 g hg)⟩
      · cases c13
    | _ => cases c13
/-! ### the Hook -/
def asX (g : Addr → Option Obj) : Nat → List Addr
  | 0 => [mainGlobals, PySem.cStatics]
  | n + 1 => growD g (asX g n)
abbrev AlX : Type := Bool × List FnW × List FnC
def obsX (file : Str) (more : PySem.W.Frag → Bool) (fa : List Fa) (fn : List DefD) (er : List ErrD) (K : PySem.W.Frag) : AlX :=
  ((fa.all fun f => f.ok K) && ((fn.all fun d => d.ok K) && ((er.all fun d => errB file K d) && more K)), fn.map fun d => fnW K d.at_, er.map fun d => fnC K d.x)
def valX (fn : List DefD) (er : List ErrD) : AlX := (true, fn.map DefD.val, er.map ErrD.val)
def SaysX (file : Str) (more : PySem.W.Frag → Bool) (fa : List Fa) (fn : List DefD) (er : List ErrD) (K : PySem.W.Frag) : Prop := obsX file more fa fn er K = valX fn er
def obsXG (file : Str) (more : PySem.W.Frag → Bool) (n : Nat) (fa : List Fa) (fn : List DefD) (er : List ErrD) (g : Addr → Option Obj) : AlX := obsX file more fa fn er (frG g (asX g n))
def hookX (file : Str) (more : PySem.W.Frag → Bool) (n : Nat) (fa : List Fa) (fn : List DefD) (er : List ErrD) : PySem.W.Hook where
  α := AlX
  obs := fun s => obsXG file more n fa fn er s.heap.get?
  val := fun _ => valX fn er
  says := fun _ h => ∃ K : PySem.W.Frag, K.In h ∧ SaysX file more fa fn er K
  of := fun _ _ e => ⟨_, frG_in, e⟩
  keeps := fun _ _ _ ⟨K, hK, c⟩ k => ⟨K, PySem.W.Frag.In.keeps hK k, c⟩
theorem obsXG_eq {file : Str} {more : PySem.W.Frag → Bool} {n : Nat} {fa : List Fa} {fn : List DefD} {er : List ErrD} {g : Addr → Option Obj} {s : Shared} (h : ∀ a, g a = s.heap.get? a) : obsXG file more n fa fn er g = (hookX file more n fa fn er).obs s := by
  have e : g = s.heap.get? := funext h
  rw [e] <;> rfl
section
variable {file : Str} {more : PySem.W.Frag → Bool} {fa : List Fa} {fn : List DefD} {er : List ErrD} {K : PySem.W.Frag}
theorem SaysX.all (c : SaysX file more fa fn er K) : (fa.all fun f => f.ok K) = true ∧ (fn.all fun d => d.ok K) = true ∧ (er.all fun d => errB file K d) = true ∧ more K = true := by
  obtain ⟨c1, c⟩ := ba (show ((fa.all fun f => f.ok K) && ((fn.all fun d => d.ok K) && ((er.all fun d => errB file K d) && more K))) = true from congrArg (fun z : AlX => z.1) c)
  obtain ⟨c2, c⟩ := ba c
  obtain ⟨c3, c4⟩ := ba c
  exact ⟨c1, c2, c3, c4⟩
theorem SaysX.fact (c : SaysX file more fa fn er K) {f : Fa} (h : f ∈ fa) : f.ok K = true := List.all_eq_true.mp c.all.1 f h
theorem SaysX.def_ (c : SaysX file more fa fn er K) (i : Nat) {d : DefD} (h : fn[i]? = some d := by rfl) : ∃ fd, FunD K d.name d.qual d.params d.body d.scope (d.dvs K) (d.kws K) (fAd K d.at_) fd := by
  have e : fn.map (fun d => fnW K d.at_) = fn.map DefD.val := congrArg (fun z : AlX => z.2.1) c
  have e2 : (fn.map fun d => fnW K d.at_)[i]? = (fn.map DefD.val)[i]? := by rw [e]
  rw [List.getElem?_map, List.getElem?_map, h] at e2
  exact DefD.funD (Option.some.inj e2) (List.all_eq_true.mp c.all.2.1 d (List.mem_of_getElem? h))
theorem SaysX.err (c : SaysX file more fa fn er K) (i : Nat) {d : ErrD} (h : er[i]? = some d := by rfl) : errB file K d = true ∧ fnC K d.x = d.val := by
  have e : er.map (fun d => fnC K d.x) = er.map ErrD.val := congrArg (fun z : AlX => z.2.2) c
  have e2 : (er.map fun d => fnC K d.x)[i]? = (er.map ErrD.val)[i]? := by rw [e]
  rw [List.getElem?_map, List.getElem?_map, h] at e2
  exact ⟨List.all_eq_true.mp c.all.2.2.1 d (List.mem_of_getElem? h), Option.some.inj e2⟩
end
end OR
set_option Elab.async false
set_option linter.all false
set_option maxRecDepth 100000
set_option maxHeartbeats 4000000
/-! E5: the three shapes of an error's __init__: one field, three, none. -/
namespace OR
open PySem PySem.Calls PySem.Spec PyProof.Rows L2 NdefX He
/-- what super().__init__(text) is, by its tree -/
def SupTree (msg : Str) (p0 p1 p2 p3 p4 : Pos) : Prop := ∀ env : Env, ∃ pl : Sem Bool, eval (.Call (.Attribute (.Call (.Name "super" p0) [] [] p1) "__init__" p2) [.Constant (.str msg) 0 p3] [] p4) env = (do
  let ov ← attributeBase (.Call (.Name "super" p0) [] [] p1) "__init__" env (eval (.Call (.Name "super" p0) [] [] p1) env)
  standAt p2.atName
  let (f, first) ← holding [ov] (getMethod ov "__init__" pl)
  callWith p4 f first (backTo p4 (starEach [.Constant (.str msg) 0 p3] env)) [])
/-- self.x = x -/
abbrev selfSt (x : Str) (q1 q2 q3 q4 : Pos) : Stmt := .Assign [.Attribute (.Name "self" q1) x q2] (.Name x q3) q4
/-- the text of such an __init__: its fields, in order -/
structure IniT (d : ErrD) (xs : List Str) : Prop where
  S : NScope (("self" : Str) :: (xs ++ [("__class__" : Str)])) (("self" : Str) :: xs) ["__class__"] d.scope
  hp : ∃ ar : Arg, (d.params.posonlyargs ++ d.params.args).head? = some ar ∧ ar.arg = "self"
  hks : d.scope.names.lookup ("super" : Str) = some .globalImplicit
  hb : ∀ (cl : List (Str × Addr)) (kV doc pm : Value) (an : Option Addr) (cdv ct : Value) (us : List Value), us.length = (("self" : Str) :: xs).length → bindArgs (PySem.W.fnX "__init__" d.qual d.params d.body d.scope cl .none kV doc pm an cdv ct) ⟨us, []⟩ = pure ((("self" : Str) :: xs).zip us)
  nd : ∀ x ∈ xs, (x == ("__debug__" : Str)) = false ∧ (x == ("__classdict__" : Str)) = false ∧ x ∈ d.flds
structure Ini1 (d : ErrD) (x : Str) : Prop extends IniT d [x] where
  body : ∃ msg p0 p1 p2 p3 p4 p5 q1 q2 q3 q4, d.body = [superSt msg p0 p1 p2 p3 p4 p5, selfSt x q1 q2 q3 q4] ∧ SupTree msg p0 p1 p2 p3 p4
structure Ini3 (d : ErrD) (x y z : Str) : Prop extends IniT d [x, y, z] where
  body : ∃ msg p0 p1 p2 p3 p4 p5 q1 q2 q3 q4 r1 r2 r3 r4 t1 t2 t3 t4, d.body = [superSt msg p0 p1 p2 p3 p4 p5, selfSt x q1 q2 q3 q4, selfSt y r1 r2 r3 r4, selfSt z t1 t2 t3 t4] ∧ SupTree msg p0 p1 p2 p3 p4
structure Ini0 (d : ErrD) : Prop extends IniT d [] where
  body : ∃ msg p0 p1 p2 p3 p4 p5, d.body = [superSt msg p0 p1 p2 p3 p4 p5] ∧ SupTree msg p0 p1 p2 p3 p4
abbrev fl1 (x : Str) : List V → List (Str × V) := fun vs => [(x, vs.getD 0 .non)]
abbrev fl3 (x y z : Str) : List V → List (Str × V) := fun vs => [(z, vs.getD 2 .non), (y, vs.getD 1 .non), (x, vs.getD 0 .non)]
section
variable {P : Program} {w : World} {K : PySem.W.Frag} {mg : Str → Option Value} {base : Heap} {d : ErrD} {f cc cda : Addr} {x y z : Str}
theorem spIni_len {C : Addr} {n : Nat} {fl : List V → List (Str × V)} {ps : List Str} (h : ps.length = n + 1) : ∀ vs H Q E, spIni C n fl vs H Q E → vs.length = ps.length := fun vs H Q E ⟨a, ws, e, l, _⟩ => by
  rw [e, List.length_cons, l, h]
theorem errOk1 (F : ErrF P K mg d f cc cda) (I : Ini1 d x) : ErrOk P w K mg base d.x (ga K d.x) (spIni (ga K d.x) 1 (fl1 x)) 1 := by
  obtain ⟨msg, p0, p1, p2, p3, p4, p5, q1, q2, q3, q4, hbd, hev⟩ := I.body
  obtain ⟨oc, od, doc, pm, ct, osl, lk⟩ := F.lk
  obtain ⟨ar, hp, har⟩ := I.hp
  refine ⟨F.U.T, F.gC, f, PySem.W.fnX "__init__" d.qual d.params d.body d.scope [("__class__", cc)] .none .none doc pm none (.ref cda) ct, ["self", x], F.iC, F.tI, ?_, .all (I.hb [("__class__", cc)] .none doc pm none (.ref cda) ct), rfl⟩
  rw [hbd] at lk ⊢
  refine init_super lk F.cd I.S F.U hp (by rw [har]; rfl) I.hks hev (spIni_len rfl) (fun vs H Q E ⟨a, ws, e, _, ha, _⟩ => ⟨a, ws, e, ha⟩) (fun A outer s H vs Q E h => ?_)
  obtain ⟨a, ws, rfl, hl, ha, k⟩ := h
  obtain ⟨v, rfl⟩ : ∃ v, ws = [v] := by
    match ws, hl with
    | [v], _ => exact ⟨v, rfl⟩
  obtain ⟨n1, n2, n3⟩ := I.nd x (by simp)
  exact ⟨_, pss_one (ps_ost (pv 0 (x := "self") rfl (.inl (I.S.par _ (by simp)))) (pv 1 (x := x) rfl (.inl (I.S.par _ (by simp))) n1 n2)), _, rfl, _, rfl, a, _, rfl, F.U.T, F.no x n3, .inl ⟨ha, fun dx hd hne => k dx hd hne⟩⟩
theorem errOk0 (F : ErrF P K mg d f cc cda) (I : Ini0 d) : ErrOk P w K mg base d.x (ga K d.x) (spIni0 (ga K d.x)) 0 := by
  obtain ⟨msg, p0, p1, p2, p3, p4, p5, hbd, hev⟩ := I.body
  obtain ⟨oc, od, doc, pm, ct, osl, lk⟩ := F.lk
  obtain ⟨ar, hp, har⟩ := I.hp
  refine ⟨F.U.T, F.gC, f, PySem.W.fnX "__init__" d.qual d.params d.body d.scope [("__class__", cc)] .none .none doc pm none (.ref cda) ct, ["self"], F.iC, F.tI, ?_, .all (I.hb [("__class__", cc)] .none doc pm none (.ref cda) ct), rfl⟩
  rw [hbd] at lk ⊢
  refine init_super lk F.cd I.S F.U hp (by rw [har]; rfl) I.hks hev (fun vs H Q E ⟨a, e, _⟩ => by rw [e]; rfl) (fun vs H Q E ⟨a, e, ha, _⟩ => ⟨a, [], e, ha⟩) (fun A outer s H vs Q E h => ?_)
  obtain ⟨a, rfl, ha, k⟩ := h
  exact ⟨_, pss_nil, k⟩
theorem errOk3 (F : ErrF P K mg d f cc cda) (I : Ini3 d x y z) : ErrOk P w K mg base d.x (ga K d.x) (spIni (ga K d.x) 3 (fl3 x y z)) 3 := by
  obtain ⟨msg, p0, p1, p2, p3, p4, p5, q1, q2, q3, q4, r1, r2, r3, r4, t1, t2, t3, t4, hbd, hev⟩ := I.body
  obtain ⟨oc, od, doc, pm, ct, osl, lk⟩ := F.lk
  obtain ⟨ar, hp, har⟩ := I.hp
  refine ⟨F.U.T, F.gC, f, PySem.W.fnX "__init__" d.qual d.params d.body d.scope [("__class__", cc)] .none .none doc pm none (.ref cda) ct, ["self", x, y, z], F.iC, F.tI, ?_, .all (I.hb [("__class__", cc)] .none doc pm none (.ref cda) ct), rfl⟩
  rw [hbd] at lk ⊢
  refine init_super lk F.cd I.S F.U hp (by rw [har]; rfl) I.hks hev (spIni_len rfl) (fun vs H Q E ⟨a, ws, e, _, ha, _⟩ => ⟨a, ws, e, ha⟩) (fun A outer s H vs Q E h => ?_)
  obtain ⟨a, ws, rfl, hl, ha, k⟩ := h
  obtain ⟨u, v, w', rfl⟩ : ∃ u v w', ws = [u, v, w'] := by
    match ws, hl with
    | [u, v, w'], _ => exact ⟨u, v, w', rfl⟩
  obtain ⟨n1, n2, n3⟩ := I.nd x (by simp)
  obtain ⟨m1, m2, m3⟩ := I.nd y (by simp)
  obtain ⟨l1, l2, l3⟩ := I.nd z (by simp)
  refine ⟨_, pss_cons (ps_ost (pv 0 (x := "self") rfl (.inl (I.S.par _ (by simp)))) (pv 1 (x := x) rfl (.inl (I.S.par _ (by simp))) n1 n2)) (pss_cons (ps_ost (pv 0 (x := "self") rfl (.inl (I.S.par _ (by simp)))) (pv 2 (x := y) rfl (.inl (I.S.par _ (by simp))) m1 m2))
    (pss_one (ps_ost (pv 0 (x := "self") rfl (.inl (I.S.par _ (by simp)))) (pv 3 (x := z) rfl (.inl (I.S.par _ (by simp))) l1 l2)))), ?_⟩
  refine ⟨_, rfl, _, rfl, a, _, rfl, F.U.T, F.no x n3, .inl ⟨ha, fun dx hd hne => ?_⟩⟩
  have hda : ∀ {o1 o2}, upd (upd H dx o1) a o2 dx = some o1 := fun {o1 o2} => by rw [upd_ne hne, upd_same]
  refine ⟨_, rfl, _, rfl, a, _, rfl, F.U.T, F.no y m3, .inr ⟨dx, _, upd_same, hda, by show 1 ≤ 900; decide, ?_⟩⟩
  rw [upd_swap (Ne.symm hne), upd_upd]
  refine ⟨_, rfl, _, rfl, a, _, rfl, F.U.T, F.no z l3, .inr ⟨dx, _, upd_same, hda, by show 2 ≤ 900; decide, ?_⟩⟩
  rw [upd_swap (Ne.symm hne), upd_upd]
  exact k dx hd hne
end
end OR
set_option Elab.async false
set_option linter.all false
set_option maxRecDepth 100000
set_option maxHeartbeats 4000000
/-! HT: a head's Hook that tells, besides HK's facts, the code objects' tables of some defs; they stand outside the part that is written. -/
namespace OR
open PySem PySem.Calls PySem.Spec PyProof.Rows L2 NdefX He
def notTab (p : Addr × Obj) : Bool := match p.2.cls, p.2.data with
  | .none, .fields _ => false
  | _, _ => true
def frT (g : Addr → Option Obj) (as : List Addr) : PySem.W.Frag := (frG g as).filter notTab
theorem frG_mem {g : Addr → Option Obj} {p : Addr × Obj} : ∀ {as : List Addr}, p ∈ frG g as → g p.1 = some p.2
  | [], h => by cases h
  | b :: r, h => by
    unfold frG at h
    rw [List.mem_filterMap] at h
    obtain ⟨a, _, e⟩ := h
    cases hg : g a with
    | none => rw [hg] at e; cases e
    | some o =>
      rw [hg] at e
      cases e
      exact hg
theorem frT_at {g : Addr → Option Obj} {as : List Addr} {a : Addr} {o : Obj} (e : (frT g as).lookup a = some o) : g a = some o ∧ notTab (a, o) = true := by
  have h := PySem.W.mem_of_lookupK e
  obtain ⟨h1, h2⟩ := List.mem_filter.mp h
  exact ⟨frG_mem h1, h2⟩
theorem frT_in {as : List Addr} {h : Heap} : (frT h.get? as).In h := fun _ _ e => (frT_at e).1
/-- a def's code object and its table -/
def tabB (g : Addr → Option Obj) (K : PySem.W.Frag) (x : Str) : Bool := match PySem.W.tabIn K x with
  | some (c, P) => PySem.W.codeHdIn K c P && (match g P with
    | some ⟨.none, none, .fields vs, sl⟩ => vs.isEmpty && sl.isEmpty
    | _ => false)
  | none => false
structure TabF (K : PySem.W.Frag) (h : Heap) (x : Str) (c P : Addr) : Prop where
  tab : PySem.W.tabIn K x = some (c, P)
  no : K.lookup P = none
  code : PySem.W.CodeHd h c P
  obj : h.get? P = some { cls := .none, data := .fields #[] }
theorem tabF_of {h : Heap} {as : List Addr} {x : Str} (e : tabB h.get? (frT h.get? as) x = true) : ∃ c P, TabF (frT h.get? as) h x c P := by
  unfold tabB at e
  split at e
  · rename_i c P ht
    obtain ⟨e1, e2⟩ := ba e
    split at e2
    · rename_i vs sl hg
      obtain ⟨z1, z2⟩ := ba e2
      have h1 : vs = #[] := by simpa using z1
      have h2 : sl = #[] := by simpa using z2
      subst h1 h2
      refine ⟨c, P, ht, ?_, PySem.W.codeHd_of_K frT_in e1, hg⟩
      cases q : (frT h.get? as).lookup P with
      | none => rfl
      | some o =>
        obtain ⟨g1, g2⟩ := frT_at q
        rw [hg] at g1
        cases g1
        cases g2
    · cases e2
  · cases e
theorem TabF.keeps {K : PySem.W.Frag} {h h' : Heap} {x : Str} {c P : Addr} (t : TabF K h x c P) (k : ∀ b o, h.get? b = some o → h'.get? b = some o) : TabF K h' x c P := ⟨t.tab, t.no, t.code.keeps k, k _ _ t.obj⟩
/-- the def's data name its code object -/
theorem TabF.fd {K : PySem.W.Frag} {h : Heap} {x : Str} {c P : Addr} {fd : FuncData} {oc : Value} {od : Option Addr} {osl : Array (Option Value)} (t : TabF K h x c P) (lk : K.lookup (ga K x) = some ⟨oc, od, .func fd, osl⟩) : fd.code = .ref c := by
  have e := t.tab
  unfold PySem.W.tabIn at e
  unfold ga at lk
  split at e
  · rename_i f hf
    rw [hf] at lk
    have lk : K.lookup f = some ⟨oc, od, .func fd, osl⟩ := lk
    rw [lk] at e
    dsimp only at e
    split at e
    · rename_i c' hc
      split at e
      · split at e
        · cases e
          exact hc
        · cases e
      · cases e
    · cases e
  · cases e
abbrev AlT : Type := Bool × AlX
def obsT (file : Str) (more : PySem.W.Frag → Bool) (n : Nat) (fa : List Fa) (fn : List DefD) (er : List ErrD) (tn : List Str) (g : Addr → Option Obj) : AlT := (tn.all (tabB g (frT g (asX g n))), obsX file more fa fn er (frT g (asX g n)))
def hookT (file : Str) (more : PySem.W.Frag → Bool) (n : Nat) (fa : List Fa) (fn : List DefD) (er : List ErrD) (tn : List Str) : PySem.W.Hook where
  α := AlT
  obs := fun s => obsT file more n fa fn er tn s.heap.get?
  val := fun _ => (true, valX fn er)
  says := fun _ h => ∃ K : PySem.W.Frag, K.In h ∧ SaysX file more fa fn er K ∧ ∀ x ∈ tn, ∃ c P, TabF K h x c P
  of := fun _ s e => ⟨_, frT_in, congrArg (fun z : AlT => z.2) e, fun x hx => tabF_of (List.all_eq_true.mp (congrArg (fun z : AlT => z.1) e) x hx)⟩
  keeps := fun _ _ _ ⟨K, hK, c, t⟩ k => ⟨K, PySem.W.Frag.In.keeps hK k, c, fun x hx => let ⟨c, P, z⟩ := t x hx; ⟨c, P, z.keeps k⟩⟩
theorem obsT_eq {file : Str} {more : PySem.W.Frag → Bool} {n : Nat} {fa : List Fa} {fn : List DefD} {er : List ErrD} {tn : List Str} {g : Addr → Option Obj} {s : Shared} (h : ∀ a, g a = s.heap.get? a) : obsT file more n fa fn er tn g = (hookT file more n fa fn er tn).obs s := by
  have e : g = s.heap.get? := funext h
  rw [e] <;> rfl
theorem fun_of {K : PySem.W.Frag} {x qual : Str} {st : Stmt} {f : Addr} {fd : FuncData} (F : FunD K x qual (defArgs st) (defBody st) (defScope st) [] [] f fd) : Fun K x qual st f fd := by
  obtain ⟨oc, od, dV, kV, doc, pm, an, cdv, ct, osl, e, lk, hcd, hd, _⟩ := F.ex
  have e0 : dV = .none := by
    rcases hd with ⟨_, h⟩ | ⟨h, _⟩
    · exact h
    · exact absurd rfl h
  subst e0
  exact ⟨⟨oc, od, kV, doc, pm, an, cdv, ct, osl, e, lk, hcd⟩, F.kp⟩
instance : Inhabited ErrD := ⟨⟨"", "", ⟨[], [], none, [], [], none, []⟩, [], ⟨.function, [], false, false, []⟩, []⟩⟩
end OR
set_option Elab.async false
set_option linter.all false
set_option maxRecDepth 100000
set_option maxHeartbeats 4000000
/-! CA: a def that stands ready to be called, in one word; enumerate over a tuple; rules with the written part named. -/
namespace OR
open PySem PySem.Calls PySem.Spec PyProof.Rows L2
structure Cal (P : Program) (w : World) (K : PySem.W.Frag) (mg : Str → Option Value) (base : Heap) (CX : CXT) (k : Nat) (x : Str) (ps : List Str) (sp : Sp) : Prop where
  ex : ∃ f fd, FnOk P w K mg base CX k f fd ps sp ∧ PySem.W.keepIn K (.ref f) = true ∧ Binds K fd ps [] ∧ mg x = some (.ref f)
theorem cal_of {P : Program} {w : World} {K : PySem.W.Frag} {mg : Str → Option Value} {base : Heap} {CX : CXT} {k : Nat} {x : Str} {ps : List Str} {sp : Sp} {f : Addr} {fd : FuncData} (h : FnOk P w K mg base CX k f fd ps sp) (kp : PySem.W.keepIn K (.ref f) = true) (b : Binds K fd ps []) (g : mg x = some (.ref f)) : Cal P w K mg base CX k x ps sp := ⟨f, fd, h, kp, b, g⟩
section
variable {X : Cx} {k n : Nat} {x : Str} {ps : List Str} {sp : Sp} {e : Expr} {es : List Expr} {t : TA} {p pos : Pos}
theorem pe_cal (C : Cal X.prog X.w X.K X.mg X.base CX0 k x ps sp) (hr : Room n X.A) (ha : PA X (e :: es) t) (hk : k ≤ n := by decide) (hg : Gl X x := by rfl) (hdb : (x == ("__debug__" : Str)) = false := by decide)
    (he : starEach (e :: es) X.env = (false, eval e X.env) :: starEach es X.env := by rfl) (hpl : (backTo pos (starEach es X.env)).any (·.1) = false := by rfl) : PE X (.Call (.Name x p) (e :: es) [] pos) (tCall sp [] E0 t) := by
  obtain ⟨f, fd, F, kp, b, g⟩ := C.ex
  exact pe_call F (hr.mono hk) hg g kp b .nil pass0 ha hdb he hpl
theorem pe_cal0 (C : Cal X.prog X.w X.K X.mg X.base CX0 k x ps sp) (hr : Room n X.A) (hk : k ≤ n := by decide) (hg : Gl X x := by rfl) (hdb : (x == ("__debug__" : Str)) = false := by decide) :
    PE X (.Call (.Name x p) [] [] pos) (tCall sp [] E0 tNil) := by
  obtain ⟨f, fd, F, kp, b, g⟩ := C.ex
  exact pe_call0 F (hr.mono hk) hg g kp b .nil pass0 hdb
/-- a def that may raise -/
theorem pe_calX {E : XK} (C : Cal X.prog X.w X.K X.mg X.base (L2.CX X.prog X.w) k x ps sp) (hr : Room n X.A) (hx : Passes (L2.CX X.prog X.w) X E) (ha : PA X (e :: es) t) (hk : k ≤ n := by decide) (hg : Gl X x := by rfl) (hdb : (x == ("__debug__" : Str)) = false := by decide)
    (he : starEach (e :: es) X.env = (false, eval e X.env) :: starEach es X.env := by rfl) (hpl : (backTo pos (starEach es X.env)).any (·.1) = false := by rfl) : PE X (.Call (.Name x p) (e :: es) [] pos) (tCall sp [] E t) := by
  obtain ⟨f, fd, F, kp, b, g⟩ := C.ex
  exact pe_call F (hr.mono hk) hg g kp b .nil hx ha hdb he hpl
/-- .. in a try -/
theorem pe_calS {E : L2.St → XK} (C : Cal X.prog X.w X.K X.mg X.base (L2.CX X.prog X.w) k x ps sp) (hr : Room n X.A) (hx : ∀ σ, PassesAt (L2.CX X.prog X.w) X σ (E σ)) (ha : PA X (e :: es) t) (hk : k ≤ n := by decide) (hg : Gl X x := by rfl) (hdb : (x == ("__debug__" : Str)) = false := by decide)
    (he : starEach (e :: es) X.env = (false, eval e X.env) :: starEach es X.env := by rfl) (hpl : (backTo pos (starEach es X.env)).any (·.1) = false := by rfl) : PE X (.Call (.Name x p) (e :: es) [] pos) (tCallS sp E t) := by
  obtain ⟨f, fd, F, kp, b, g⟩ := C.ex
  exact pe_callS F (hr.mono hk) hg g kp b hx ha hdb he hpl
end
/-! ### enumerate(tuple) -/
theorem enum_new {v : Value} {o : Obj} {H : Heap → Prop} (B : Begins v o H) : Meets (Builtin.«enumerate.__new__» ⟨[.type "enumerate", v], []⟩) (fun _ R s => H s.heap ∧
      R (.ok (.ret (.ref (s.heap.push o).objs.size))) { s with heap := (s.heap.push o).push { cls := .type "enumerate", data := .fields #[.none, .bool false, .ref s.heap.objs.size, rawInt 0, .none, .none] } }) :=
  .of_wp fun prog w A R s h => by
    obtain ⟨hp, g, d, tk, os⟩ := s
    obtain ⟨h1, h⟩ := h
    have hsub := sub_enumerate
    have q1 : ∀ {A' : Around} {E : Value → Shared → Prop} {Q : Value → Shared → Prop}, Q (.ref hp.objs.size) ⟨hp.push o, g, d, tk, os⟩ → wpAny (model prog w) A' (pyIter v) Q E ⟨hp, g, d, tk, os⟩ :=
      fun q => B.iter prog w _ _ ⟨hp, g, d, tk, os⟩ _ h1 q
    wp_walk using q1
    refine wpAny_stack_any fun st => wpAny_pure ?_
    split
    · rename_i c _ _ _ _ _
      cases (c == Value.type "enumerate") <;> (wp_walk using q1) <;> exact ⟨_, rfl, h⟩
    · wp_walk using q1
      exact ⟨_, rfl, h⟩
theorem call_enumB {prog : Program} {w : World} {A : Around} {E : Value → Shared → Prop} {s : Shared} {v : Value} {o : Obj} {H : Heap → Prop} {Q : Value → Shared → Prop} (B : Begins v o H) (h1 : H s.heap)
    (h : ∀ h', IsEnum h' (s.heap.objs.size + 1) s.heap.objs.size 0 .none → h'.get? s.heap.objs.size = some o → (∀ b o, s.heap.get? b = some o → h'.get? b = some o) → Q (.ref (s.heap.objs.size + 1)) { s with heap := h' }) :
    wpAny (model prog w) A (call (.type "enumerate") [v]) Q E s := by
  refine callType_new F.called_enumerate (by decide) (F.typeCall_enumerate_1 _) (F.newCall_enumerate_1 _) (fun obj => F.args_object_init_2 obj _) F.entry_enumerate_new (enum_new B) ⟨h1, ?_⟩
  have hz : (s.heap.push o).objs.size = s.heap.objs.size + 1 := Heap.size_push ..
  show _ ∧ _
  rw [hz]
  have he : IsEnum ((s.heap.push o).push { cls := .type "enumerate", data := .fields #[.none, .bool false, .ref s.heap.objs.size, rawInt 0, .none, .none] }) (s.heap.objs.size + 1) s.heap.objs.size 0 .none := by
    have q := Heap.get?_push_size (s.heap.push o) (o := { cls := .type "enumerate", data := .fields #[.none, .bool false, .ref s.heap.objs.size, rawInt 0, .none, .none] }) rfl
    rw [hz] at q
    exact q
  exact ⟨⟨_, he, rfl⟩, h _ he (Heap.get?_push_of_some _ (Heap.get?_push_size _ B.free)) fun b o x => Heap.get?_push_of_some _ (Heap.get?_push_of_some _ x)⟩
def IteT (K : PySem.W.Frag) (a : Addr) : It :=
  ⟨fun i H => ∃ (xs : List V) (x : V), SqT K H a xs ∧ xs[i]? = some x, fun i H v H' => ∃ T x, v = .ref T ∧ H T = none ∧ H' = upd H T (.tup [.int (i : Nat), x]) ∧ ∀ xs, SqT K H a xs → xs[i]? = some x, fun i H => ∃ xs : List V, SqT K H a xs ∧ xs.length ≤ i⟩
theorem turn_enumT {P : Program} {w : World} {K : PySem.W.Frag} {elts : List Expr} {kk : Nat} {tpos : Pos} (a e it : Addr) :
    Turn P w K (.Tuple elts kk tpos) (IteT K a) [e, it] e (fun i h => (∃ old, IsEnum h e it ((i : Nat) : Int) old) ∧ h.IsTupleIter it a i ∧ e ≠ it ∧ a ≠ it ∧ a ≠ e) where
  mem := by simp
  obj := fun i h st b hb => by
    obtain ⟨⟨old, he⟩, ⟨o, ho, hc, hd⟩, _⟩ := st
    rcases (show b = e ∨ b = it by simpa using hb) with rfl | rfl
    · exact ⟨_, he, fun v q => nomatch q⟩
    · exact ⟨o, ho, fun v q => by rw [hd] at q; cases q⟩
  keep := fun i h h' st k => let ⟨⟨old, he⟩, hi, hne⟩ := st; ⟨⟨old, k e (by simp) _ he⟩, hi.at fun o q => k it (by simp) o q, hne⟩
  item := by
    intro X hP hw hK hc i pins s σ H E I hf st hg
    subst hP hw hK
    obtain ⟨⟨old, he⟩, hit, hne, hna, hae⟩ := st
    obtain ⟨xs, x, hq, hx⟩ := hg
    obtain ⟨its, rv, p, hz⟩ := I.tuple hq
    obtain ⟨u, hu, ru⟩ := rv.get hx
    have hlt : i < its.toArray.size := by
      have q := (List.getElem?_eq_some_iff.mp hu).1
      simpa using q
    have hel : e < s.heap.objs.size := Heap.lt_size he
    have hil : it < s.heap.objs.size := by obtain ⟨_, q, _⟩ := hit; exact Heap.lt_size q
    have tp : s.heap.IsTuple a its.toArray := p
    refine wpAny_pyNext_enum_itemD (Draws.tuple (A := X.A.in1) (I.ok.hd hc) it a hna its.toArray) he ⟨hit, tp⟩ hlt hne (by simp [hne, Ne.symm hae]) fun x' h' tk hP ho hs' hT hsz hk => ?_
    have ex : x' = u := by
      have q : its.toArray[i]? = some u := by simpa using hu
      rw [q] at hP
      exact (Option.some.inj hP).symm
    subst ex
    refine ⟨_, rfl, wpAny_letOwnedTupleGo_enum (s := { s with heap := h', toks := tk + 1 }) ho fun h'' he' sb => ?_⟩
    have hT2 : h''.get? s.heap.objs.size = some { cls := .type "tuple", data := .seq #[.int i tk, x'] } := (sb.2 _ (Nat.ne_of_gt hel)).trans hT
    have new : ObjOk X.prog X.w (upd H s.heap.objs.size (.tup [.int (i : Nat), x])) h'' s.heap.objs.size (.tup [.int (i : Nat), x]) :=
      ⟨by show 2 ≤ sizeLine; decide, [.int i tk, x'], .cons ⟨_, rfl⟩ (.cons ru .nil), ⟨_, hT2, rfl, _, rfl⟩⟩
    have I1 : Inv X pins σ (upd H s.heap.objs.size (.tup [.int (i : Nat), x])) { s with heap := h'', toks := tk + 1 } :=
      I.turnedNew (ch := [e, it]) (fun b ob hb q => (sb.2 b (fun z => hb (by simp [z]))).trans (hk b ob (fun z => hb (by simp [z])) (fun z => hb (by simp [z])) q)) hf (Nat.le_refl _) new
    refine ⟨.ref s.heap.objs.size, _, I1, rfl, ⟨_, x, rfl, I.hok.fresh (Nat.le_refl _), rfl, fun ys hy => by rw [I.tuple_inj hy hq]; exact hx⟩, ⟨⟨x', ?_⟩, hs'.1.at fun o q => (sb.2 it (Ne.symm hne)).trans q, hne, hna, hae⟩, fun b hb => ?_⟩
    · rw [show ((i + 1 : Nat) : Int) = (i : Int) + 1 by omega]
      exact he'
    · have hb' : b < s.heap.objs.size := by
        rcases (show b = e ∨ b = it by simpa using hb) with z | z
        · rw [z]; exact hel
        · rw [z]; exact hil
      rw [upd_ne (Nat.ne_of_lt hb')]
      exact (hf b hb).1
  done := by
    intro X hP hw hK hc i pins s σ H E I hf st hg
    subst hP hw hK
    obtain ⟨⟨old, he⟩, hit, hne, hna, hae⟩ := st
    obtain ⟨xs, hq, hx⟩ := hg
    obtain ⟨its, rv, p, hz⟩ := I.tuple hq
    obtain ⟨f0, f1, f2, f3, f4, f5⟩ := hf it (by simp)
    have hl := rv.length
    have tp : s.heap.IsTuple a its.toArray := p
    refine wpAny_pyNext_enum_endD (fp := [it, a]) (n := 0) (P := fun _ _ => False) (St := fun _ h => h.IsTupleIter it a i ∧ h.IsTuple a its.toArray) ⟨fun _ _ st => let ⟨o, ho, _⟩ := st.1; ⟨o, ho⟩, fun _ _ _ st hk => ⟨st.1.at fun o e => hk it (by simp) o e, st.2.at fun o e => hk a (by simp) o e⟩, fun i s Q E hi st hQ => absurd hi (Nat.not_lt_zero _), fun s Q E st hE => wpAny_nextOf_tuple_end (I.ok.hd hc) st.1 st.2 (by simp; omega) hE⟩ he ⟨hit, tp⟩ fun h' eb => ⟨rfl, I.turned (t' := s.toks) (fun b o hb q => eb b o hb q) f0 f1 f3 f4 f5⟩
  self := fun A i s Q E st h => let ⟨⟨_, he⟩, _⟩ := st; wpAny_pyIter_enum he h
def iEnumT (K : PySem.W.Frag) (ta : TA) : TI := fun σ H R => ta σ H fun vs H1 => ∃ a xs, vs = [.ref a] ∧ SqT K H1 a xs ∧ R (IteT K a) H1
theorem pi_enumT {X : Cx} {e : Expr} {ta : TA} {p pos tpos : Pos} {elts : List Expr} {kk : Nat} (hg : Gl X "enumerate") (hm : X.mg "enumerate" = none) (ha : PA X [e] ta) (hs : starEach [e] X.env = [(false, eval e X.env)] := by rfl) :
    PI X (.Tuple elts kk tpos) (.Call (.Name "enumerate" p) [e] [] pos) (iEnumT X.K ta) := by
  refine ⟨fun pins s σ H R I h => ?_⟩
  refine Call_ (ld_blt I hg hm boot_enumerate (PyProof.Rows.callWith_type1 (thn (ha.run pos pins s σ H _ I h) fun us s1 ⟨vs, H1, I1, r1, q1⟩ => ?_) hs rfl))
  obtain ⟨a, xs, ex, hq, q⟩ := q1
  subst ex
  cases r1 with
  | cons r rr =>
    cases rr
    cases r
    obtain ⟨its, rv, p', hz⟩ := I1.tuple hq
    have tp : s1.heap.IsTuple a its.toArray := p'
    have al : a < s1.heap.objs.size := by obtain ⟨_, q, _⟩ := tp; exact Heap.lt_size q
    refine call_enumB (begins_tuple a its.toArray) tp fun h' he hit hk => wpAny_pyIter_enum he ?_
    have I2 : Inv X pins σ H1 { s1 with heap := h' } := I1.kept (t' := s1.toks) hk
    refine ⟨s1.heap.objs.size + 1, [s1.heap.objs.size + 1, s1.heap.objs.size], _, _, H1, rfl, I2, turn_enumT a (s1.heap.objs.size + 1) s1.heap.objs.size, ⟨⟨.none, he⟩, ⟨_, hit, rfl, rfl⟩, Nat.succ_ne_self _, Nat.ne_of_lt al, Nat.ne_of_lt (Nat.lt_succ_of_lt al)⟩, fun b hb => ?_, q⟩
    have hle : s1.heap.objs.size ≤ b := by
      rcases (show b = s1.heap.objs.size + 1 ∨ b = s1.heap.objs.size by simpa using hb) with z | z
      · rw [z]; exact Nat.le_succ _
      · rw [z]; exact Nat.le_refl _
    exact I1.fpOk hle (I1.hok.fresh hle)
end OR
set_option Elab.async false
set_option linter.all false
set_option maxRecDepth 100000
set_option maxHeartbeats 4000000
/-! PL: what a pure piece of code comes to, told by words on values (heaps only grow): iterators, comprehensions, all, any; data told by PyData. -/
namespace OR
open PySem PySem.Calls PySem.Spec PyProof.Rows L2 Evl
/-! ### rules with the written part named (for use within blocks) -/
section
variable {X : Cx} (K : PySem.W.Frag)
theorem ixS (h : X.K = K := by rfl) : IxR X (rIx K) := by subst h; exact ix_seq
theorem ixT (h : X.K = K := by rfl) : IxR X (rIxT K) := by subst h; exact ix_tup
theorem ixL (h : X.K = K := by rfl) : IxR X (rIxL K) := by subst h; exact ix_list
theorem isiS (h : X.K = K := by rfl) : CallR X (.builtin "isinstance") (rIsi K) := by subst h; exact call_isi
theorem isiT (h : X.K = K := by rfl) : CallR X (.builtin "isinstance") (rIsiT K) := by subst h; exact call_isiT
theorem lenS (h : X.K = K := by rfl) : CallR X (.builtin "len") (Evl.rLenS K) := by subst h; exact call_len_seq
theorem listS (h : X.K = K := by rfl) : CallR X (.type "list") (Evl.rListS K) := by subst h; exact call_list_of
def rTupS (K : PySem.W.Frag) : List V → Hp → VK → Prop := fun xs H Q => ∃ p ys, xs = [.ref p] ∧ ((SqL K H p ys ∧ ∀ l, H l = none → Q (.ref l) (upd H l (.tup ys))) ∨ (SqT K H p ys ∧ Q (.ref p) H))
theorem tupS (h : X.K = K := by rfl) : CallR X (.type "tuple") (rTupS K) := by subst h; exact call_tuple_of
theorem allS (hc : X.calm = true) (h : X.K = K := by rfl) : CallR X (.builtin "all") (rAll K) := by subst h; exact cr_all hc
theorem anyS (hc : X.calm = true) (h : X.K = K := by rfl) : CallR X (.builtin "any") (rAny K) := by subst h; exact cr_any hc
theorem inS (h : X.K = K := by rfl) : OpR X (compareOp .In) (rIn K false) := by subst h; exact op_in_seq
theorem ninS (h : X.K = K := by rfl) : OpR X (compareOp .NotIn) (rIn K true) := by subst h; exact op_notIn_seq
end
section
variable {X : Cx} {x : Str} {pos : Pos}
theorem pe_gs {z : Str} (hm : ∃ t, X.mg x = some (.str z t)) (hg : Gl X x := by rfl) (hd : (x == ("__debug__" : Str)) = false := by decide) : PE X (.Name x pos) (tC (.str z)) := by
  obtain ⟨t, h⟩ := hm
  exact pe_glob hg h ⟨t, rfl⟩ hd
theorem pe_gi {z : Int} (hm : ∃ t, X.mg x = some (.int z t)) (hg : Gl X x := by rfl) (hd : (x == ("__debug__" : Str)) = false := by decide) : PE X (.Name x pos) (tC (.int z)) := by
  obtain ⟨t, h⟩ := hm
  exact pe_glob hg h ⟨t, rfl⟩ hd
theorem pe_gr {a : Addr} (hm : X.mg x = some (.ref a)) (hg : Gl X x := by rfl) (hd : (x == ("__debug__" : Str)) = false := by decide) : PE X (.Name x pos) (tC (.ref a)) := pe_glob hg hm rfl hd
theorem pe_ty {T : String} (hm : X.mg x = none) (hv : bootBuiltins x = some (.type T) := by decide +kernel) (hg : Gl X x := by rfl) (hn : x ≠ "__name__" := by decide) (hd : (x == ("__debug__" : Str)) = false := by decide) : PE X (.Name x pos) (tC (.ty T)) :=
  pe_bltn hg hm hv rfl hn hd
theorem PI.or {tg e : Expr} {w1 w2 : TI} (h1 : PI X tg e w1) (h2 : PI X tg e w2) : PI X tg e (fun σ H R => w1 σ H R ∨ w2 σ H R) := by
  refine ⟨fun pins s σ H R I h => ?_⟩
  rcases h with h | h
  · exact h1.run pins s σ H R I h
  · exact h2.run pins s σ H R I h
end
/-- list or tuple -/
def iSeq (K : PySem.W.Frag) (te : TE) : TI := fun σ H R => iList K te σ H R ∨ iTup K te σ H R
theorem pi_seq {X : Cx} {tg e : Expr} {te : TE} (h : PE X e te) : PI X tg e (iSeq X.K te) := PI.or (pi_list h) (pi_tup h)
def iEnumS (K : PySem.W.Frag) (ta : TA) : TI := fun σ H R => iEnum K ta σ H R ∨ iEnumT K ta σ H R
theorem pi_enumS {X : Cx} {e : Expr} {ta : TA} {p pos tpos : Pos} {elts : List Expr} {kk : Nat} (hg : Gl X "enumerate") (hm : X.mg "enumerate" = none) (ha : PA X [e] ta) (hs : starEach [e] X.env = [(false, eval e X.env)] := by rfl) :
    PI X (.Tuple elts kk tpos) (.Call (.Name "enumerate" p) [e] [] pos) (iEnumS X.K ta) := PI.or (pi_enum hg hm ha hs) (pi_enumT hg hm ha hs)
/-! ### evaluation to something that is told by a word -/
/-- H3 keeps what H2 has of H, and what is new since H1 -/
def Kp (H H1 H2 H3 : Hp) : Prop := ∀ a o, H2 a = some o → (H a ≠ none ∨ H1 a = none) → H3 a = some o
theorem Kp.base {H H1 H2 H3 : Hp} (k : Kp H H1 H2 H3) (e1 : Ex H H1) (e2 : Ex H1 H2) : Ex H H3 := fun a o h => k a o (e2 _ _ (e1 _ _ h)) (.inl (by rw [h]; simp))
theorem Kp.fst {H H1 H2 H3 H4 : Hp} (k : Kp H H1 H3 H4) (e : Ex H2 H3) : Kp H H1 H2 H4 := fun a o h q => k a o (e _ _ h) q
theorem Kp.snd {H H1 H2 H3 H4 : Hp} (k : Kp H H1 H3 H4) (e : Ex H1 H2) : Kp H H2 H3 H4 := fun a o h q => k a o h (q.imp id fun z => by
  cases h1 : H1 a with
  | none => rfl
  | some u => rw [e _ _ h1] at z; cases z)
def EvP (te : TE) (σ : L2.St) (H : Hp) (Pr : V → Hp → Prop) : Prop := ∀ H1, Ex H H1 → ∀ Q : VK, (∀ v H2, Ex H1 H2 → (∀ H3, Kp H H1 H2 H3 → Pr v H3) → Q v H2) → te σ H1 Q
/-- a new list; what is told of its items does not hang on it -/
def EvF (te : TE) (σ : L2.St) (H : Hp) (Pr : List V → Hp → Prop) : Prop := ∀ H1, Ex H H1 → ∀ Q : VK, (∀ p xs H2, H1 p = none → Ex H1 H2 → H2 p = some (.lst xs) →
  (∀ H3, (∀ a o, H2 a = some o → a ≠ p → (H a ≠ none ∨ H1 a = none) → H3 a = some o) → Pr xs H3) → Q (.ref p) H2) → te σ H1 Q
def EvG (g : TG) (x : V) (σ : L2.St) (H : Hp) (σ2 : L2.St) : Prop := ∀ H1, Ex H H1 → ∀ Q : L2.St → Hp → Prop, (∀ H2, Ex H1 H2 → Q σ2 H2) → g x σ H1 Q
/-- n turns, Y told of each turn's value -/
def ItOk (J : It) (H : Hp) (n : Nat) (Y : Nat → V → Hp → Prop) : Prop := ∀ H1, Ex H H1 → (∀ i, i < n → J.go i H1) ∧ J.stop n H1 ∧ ∀ i, i < n → ∀ x H2, J.yld i H1 x H2 → Ex H1 H2 ∧ Y i x H2
def EvI (wi : TI) (σ : L2.St) (H : Hp) (n : Nat) (Y : Nat → V → Hp → Prop) : Prop := ∀ H1, Ex H H1 → ∀ R : It → Hp → Prop, (∀ J H2, Ex H1 H2 → ItOk J H n Y → R J H2) → wi σ H1 R
inductive All2 {α β : Type} (R : α → β → Prop) : List α → List β → Prop
  | nil : All2 R [] []
  | cons {a : α} {b : β} {as : List α} {bs : List β} : R a b → All2 R as bs → All2 R (a :: as) (b :: bs)
theorem All2.imp {α β : Type} {R S : α → β → Prop} {as : List α} {bs : List β} (h : All2 R as bs) (k : ∀ a b, a ∈ as → R a b → S a b) : All2 S as bs := by
  induction h with
  | nil => exact .nil
  | cons h1 _ ih => exact .cons (k _ _ (List.mem_cons_self ..) h1) (ih fun a b ha => k a b (List.mem_cons_of_mem _ ha))
theorem All2.snoc {α β : Type} {R : α → β → Prop} {as : List α} {bs : List β} {a : α} {b : β} (h : All2 R as bs) (q : R a b) : All2 R (as ++ [a]) (bs ++ [b]) := by
  induction h with
  | nil => exact .cons q .nil
  | cons h1 _ ih => exact .cons h1 ih
theorem All2.drop {α β : Type} {R : α → β → Prop} {as : List α} {bs : List β} (h : All2 R as bs) : ∀ n, All2 R (as.drop n) (bs.drop n) := by
  induction h with
  | nil => intro n; simp; exact .nil
  | cons h1 h2 ih =>
    intro n
    cases n with
    | zero => exact .cons h1 h2
    | succ n => exact ih n
theorem All2.take {α β : Type} {R : α → β → Prop} {as : List α} {bs : List β} (h : All2 R as bs) : ∀ n, All2 R (as.take n) (bs.take n) := by
  induction h with
  | nil => intro n; simp; exact .nil
  | cons h1 h2 ih =>
    intro n
    cases n with
    | zero => exact .nil
    | succ n => exact .cons h1 (ih n)
theorem All2.append {α β : Type} {R : α → β → Prop} {as cs : List α} {bs ds : List β} (h : All2 R as bs) (k : All2 R cs ds) : All2 R (as ++ cs) (bs ++ ds) := by
  induction h with
  | nil => exact k
  | cons h1 _ ih => exact .cons h1 ih
theorem All2.len {α β : Type} {R : α → β → Prop} {as : List α} {bs : List β} (h : All2 R as bs) : bs.length = as.length := by
  induction h with
  | nil => rfl
  | cons _ _ ih => simp [ih]
theorem All2.map_eq {α β : Type} {w : α → β} {as : List α} {bs : List β} (h : All2 (fun a b => b = w a) as bs) : bs = as.map w := by
  induction h with
  | nil => rfl
  | cons h1 _ ih => rw [h1, ih, List.map_cons]
theorem All2.get {α β : Type} {R : α → β → Prop} {as : List α} {bs : List β} (h : All2 R as bs) : ∀ {i : Nat} {a : α}, as[i]? = some a → ∃ b, bs[i]? = some b ∧ R a b := by
  induction h with
  | nil => intro i a e; simp at e
  | cons h1 _ ih =>
    intro i a e
    cases i with
    | zero => simp at e; subst e; exact ⟨_, rfl, h1⟩
    | succ i => simpa using ih (by simpa using e)
section
variable {K : PySem.W.Frag} {σ : L2.St} {H H' : Hp} {te tx : TE} {t : TT}
theorem EvP.of {v : V} {Pr : V → Hp → Prop} (h : Ev te σ H v) (k : ∀ H2, Ex H H2 → Pr v H2) : EvP te σ H Pr := fun H1 e Q q => h H1 e Q fun H2 e2 => q v H2 e2 fun H3 kp => k H3 (kp.base e e2)
theorem EvF.toP {Pr : List V → Hp → Prop} (h : EvF te σ H Pr) : EvP te σ H (fun v H2 => ∃ p xs, v = .ref p ∧ H2 p = some (.lst xs) ∧ Pr xs H2) := fun H1 e Q q => h H1 e Q fun p xs H2 n e2 h2 h3 =>
  q _ H2 e2 fun H3 kp => ⟨p, xs, rfl, kp _ _ h2 (.inr n), h3 H3 fun a o ha _ z => kp a o ha z⟩
theorem EvF.toL {xs : List V} (h : EvF te σ H (fun ys _ => ys = xs)) : EvL te σ H xs := fun H1 e Q q => h H1 e Q fun p ys H2 n e2 h2 h3 => q p H2 n e2 (by rw [← h3 H2 fun _ _ z _ _ => z]; exact h2)
theorem evg_name {i : Nat} {x : V} : EvG (gName i) x σ H (σ.set i (some x)) := fun H1 _ _ q => q H1 (Ex.refl H1)
theorem et_yes : EvT tYes σ H true := fun H1 _ _ q => q H1 (Ex.refl H1)
/-! ### iterators -/
theorem itl_ok {a : Addr} {xs : List V} (h : SqL K H a xs) : ItOk (Itl K a) H xs.length (fun i x _ => xs[i]? = some x) := fun H1 e =>
  ⟨fun i hi => ⟨xs, xs[i], ex_l e h, by simp [hi]⟩, ⟨xs, ex_l e h, Nat.le_refl _⟩, fun i hi x H2 y => by
    obtain ⟨rfl, y⟩ := y
    exact ⟨Ex.refl _, y xs (ex_l e h)⟩⟩
theorem itt_ok {a : Addr} {xs : List V} (h : SqT K H a xs) : ItOk (Itt K a) H xs.length (fun i x _ => xs[i]? = some x) := fun H1 e =>
  ⟨fun i hi => ⟨xs, xs[i], ex_t e h, by simp [hi]⟩, ⟨xs, ex_t e h, Nat.le_refl _⟩, fun i hi x H2 y => by
    obtain ⟨rfl, y⟩ := y
    exact ⟨Ex.refl _, y xs (ex_t e h)⟩⟩
theorem itr_ok {lo : Int} {n : Nat} : ItOk (Itr lo n) H n (fun i x _ => x = .int (lo + i)) := fun H1 e =>
  ⟨fun i hi => hi, Nat.le_refl _, fun i hi x H2 y => by
    obtain ⟨rfl, rfl⟩ := y
    exact ⟨Ex.refl _, rfl⟩⟩
def YEnum (xs : List V) (i : Nat) (v : V) (H : Hp) : Prop := ∃ T x, v = .ref T ∧ H T = some (.tup [.int (i : Nat), x]) ∧ xs[i]? = some x
theorem ite_ok {a : Addr} {xs : List V} (h : SqL K H a xs) : ItOk (Ite K a) H xs.length (YEnum xs) := fun H1 e =>
  ⟨fun i hi => ⟨xs, xs[i], ex_l e h, by simp [hi]⟩, ⟨xs, ex_l e h, Nat.le_refl _⟩, fun i hi x H2 y => by
    obtain ⟨T, x, rfl, hT, rfl, y⟩ := y
    exact ⟨Ex.new hT, T, x, rfl, upd_same, y xs (ex_l e h)⟩⟩
theorem iteT_ok {a : Addr} {xs : List V} (h : SqT K H a xs) : ItOk (IteT K a) H xs.length (YEnum xs) := fun H1 e =>
  ⟨fun i hi => ⟨xs, xs[i], ex_t e h, by simp [hi]⟩, ⟨xs, ex_t e h, Nat.le_refl _⟩, fun i hi x H2 y => by
    obtain ⟨T, x, rfl, hT, rfl, y⟩ := y
    exact ⟨Ex.new hT, T, x, rfl, upd_same, y xs (ex_t e h)⟩⟩
/-- a list or a tuple at a -/
def SqS (K : PySem.W.Frag) (H : Hp) (a : Addr) (xs : List V) : Prop := SqL K H a xs ∨ SqT K H a xs
theorem ex_s {a : Addr} {xs : List V} (e : Ex H H') (h : SqS K H a xs) : SqS K H' a xs := h.imp (ex_l e) (ex_t e)
theorem ei_list {a : Addr} {xs : List V} (h : Ev tx σ H (.ref a)) (hx : SqL K H a xs) : EvI (iList K tx) σ H xs.length (fun i x _ => xs[i]? = some x) := fun H1 e R q =>
  h H1 e _ fun H2 e2 => ⟨a, rfl, ⟨xs, ex_l (e.trans e2) hx⟩, q _ H2 e2 (itl_ok hx)⟩
theorem ei_tup {a : Addr} {xs : List V} (h : Ev tx σ H (.ref a)) (hx : SqT K H a xs) : EvI (iTup K tx) σ H xs.length (fun i x _ => xs[i]? = some x) := fun H1 e R q =>
  h H1 e _ fun H2 e2 => ⟨a, rfl, ⟨xs, ex_t (e.trans e2) hx⟩, q _ H2 e2 (itt_ok hx)⟩
theorem ei_seq {a : Addr} {xs : List V} (h : Ev tx σ H (.ref a)) (hx : SqS K H a xs) : EvI (iSeq K tx) σ H xs.length (fun i x _ => xs[i]? = some x) := by
  rcases hx with hx | hx
  · exact fun H1 e R q => .inl (ei_list h hx H1 e R q)
  · exact fun H1 e R q => .inr (ei_tup h hx H1 e R q)
theorem ei_r1 {ta : TA} {n : Nat} (h : EvA ta σ H [.int n]) (hn : (n : Int) ≤ 100000) : EvI (iRng1 ta) σ H n (fun i x _ => x = .int (i : Int)) := fun H1 e R q =>
  h H1 e _ fun H2 e2 => ⟨n, rfl, by omega, by omega, by
    have z : ItOk (Itr 0 n) H n (fun i x _ => x = .int (i : Int)) := fun H3 e3 => by
      obtain ⟨a, b, c⟩ := itr_ok (lo := 0) (n := n) (H := H) H3 e3
      exact ⟨a, b, fun i hi x H4 y => by
        obtain ⟨p, q⟩ := c i hi x H4 y
        exact ⟨p, by rw [q, Int.zero_add]⟩⟩
    exact q _ H2 e2 z⟩
theorem ei_r2 {ta : TA} {lo hi : Int} (h : EvA ta σ H [.int lo, .int hi]) (hb : -100000 ≤ lo ∧ lo ≤ 100000 ∧ -100000 ≤ hi ∧ hi ≤ 100000) : EvI (iRng2 ta) σ H (hi - lo).toNat (fun i x _ => x = .int (lo + i)) := fun H1 e R q =>
  h H1 e _ fun H2 e2 => ⟨lo, hi, rfl, ⟨by omega, by omega, by omega, by omega⟩, q _ H2 e2 itr_ok⟩
theorem ei_enumS {ta : TA} {a : Addr} {xs : List V} (h : EvA ta σ H [.ref a]) (hx : SqS K H a xs) : EvI (iEnumS K ta) σ H xs.length (YEnum xs) := by
  rcases hx with hx | hx
  · exact fun H1 e R q => .inl (h H1 e _ fun H2 e2 => ⟨a, xs, rfl, ex_l (e.trans e2) hx, q _ H2 e2 (ite_ok hx)⟩)
  · exact fun H1 e R q => .inr (h H1 e _ fun H2 e2 => ⟨a, xs, rfl, ex_t (e.trans e2) hx, q _ H2 e2 (iteT_ok hx)⟩)
theorem ei_enum {ta : TA} {a : Addr} {xs : List V} (h : EvA ta σ H [.ref a]) (hx : SqL K H a xs) : EvI (iEnum K ta) σ H xs.length (YEnum xs) :=
  fun H1 e R q => h H1 e _ fun H2 e2 => ⟨a, xs, rfl, ex_l (e.trans e2) hx, q _ H2 e2 (ite_ok hx)⟩
/-- (i, x) of enumerate, taken apart -/
theorem evg_pair {i j : Nat} {T : Addr} {x y : V} (h : H T = some (.tup [x, y])) : EvG (gTup K 2 (gCons (gName i) (gCons (gName j) gNil))) (.ref T) σ H ((σ.set i (some x)).set j (some y)) := fun H1 e Q q =>
  ⟨T, [x, y], rfl, SqT.of (e _ _ h), rfl, x, [y], rfl, y, [], rfl, rfl, q H1 (Ex.refl H1)⟩
/-! ### comprehensions -/
theorem filter_le (n : Nat) (f : Nat → Bool) : ((List.range n).filter f).length ≤ n := by
  have h := List.length_filter_le f (List.range n)
  simpa using h
theorem ef_lc {wi : TI} {g : TG} {vs : List Nat} {n : Nat} {Y : Nat → V → Hp → Prop} (f : Nat → Bool) (Pr : Nat → V → Hp → Prop) (h : EvI wi σ H n Y) (hn : n ≤ 90000)
    (turn : ∀ i, i < n → ∀ x H1, Ex H H1 → Y i x H1 → ∃ σ2, EvG g x (wipe σ vs) H1 σ2 ∧ wipe σ2 vs = wipe σ vs ∧ EvT t σ2 H (f i) ∧ (f i = true → EvP te σ2 H (Pr i))) :
    EvF (tLc wi g t te vs) σ H (fun ws H' => All2 (fun j v => Pr j v H') ((List.range n).filter f) ws) := fun H0 e0 Q q => h H0 e0 _ fun J H1 e1 ok D hD => by
  have hH : H D = none := fresh_back (e0.trans e1) hD
  refine ⟨fun i m H' => m = n - i ∧ i ≤ n ∧ Ex H1 H' ∧ ∃ ws, H' D = some (.lst ws) ∧ ws.length ≤ i ∧ ∀ H3, (∀ a o, H' a = some o → a ≠ D → (H a ≠ none ∨ H1 a = none) → H3 a = some o) → All2 (fun j v => Pr j v H3) ((List.range i).filter f) ws,
    ⟨n, by simp, Nat.zero_le _, Ex.new hD, [], upd_same, Nat.le_refl _, fun _ _ => .nil⟩, ?_⟩
  rintro i m H' ⟨rfl, hi, e2, ws, hws, hlen, hall⟩
  by_cases hlt : i < n
  · refine .inr ⟨(ok H' (e0.trans (e1.trans e2))).1 i hlt, fun H' => i + 1 ≤ n ∧ Ex H1 H' ∧ ∃ ws, H' D = some (.lst ws) ∧ ws.length ≤ i + 1 ∧ ∀ H3, (∀ a o, H' a = some o → a ≠ D → (H a ≠ none ∨ H1 a = none) → H3 a = some o) → All2 (fun j v => Pr j v H3) ((List.range (i + 1)).filter f) ws,
      fun H'' p => ⟨n - (i + 1), by omega, rfl, p⟩, fun x H2 y => ?_⟩
    obtain ⟨e3, yy⟩ := (ok H' (e0.trans (e1.trans e2))).2.2 i hlt x H2 y
    obtain ⟨σ2, hg, hw, ht, hp⟩ := turn i hlt x H2 (((e0.trans e1).trans e2).trans e3) yy
    refine hg H2 (Ex.refl _) _ fun H3 e4 => ⟨hw, ht H3 ((((e0.trans e1).trans e2).trans e3).trans e4) _ fun H4 e5 => ?_⟩
    have e6 : Ex H' H4 := (e3.trans e4).trans e5
    cases hf : f i with
    | true =>
      show te σ2 H4 _
      refine hp hf H4 (((e0.trans e1).trans e2).trans e6) _ fun v H5 e7 pv => ⟨ws, (e6.trans e7) _ _ hws, sz_lt (by omega), hlt, Ex.mut (e2.trans (e6.trans e7)) hD, ws ++ [v], upd_same, by rw [List.length_append]; simp; omega, fun H6 k6 => ?_⟩
      have k7 : ∀ a o, H5 a = some o → a ≠ D → (H a ≠ none ∨ H1 a = none) → H6 a = some o := fun a o ha hne z => k6 a o (by rw [upd_ne hne]; exact ha) hne z
      rw [List.range_succ, List.filter_append, List.filter_cons, if_pos hf]
      refine (hall H6 fun a o ha hne z => k7 a o ((e6.trans e7) _ _ ha) hne z).snoc (pv H6 fun a o ha z => ?_)
      have hne : a ≠ D := fun w => by
        subst w
        rcases z with z | z
        · exact z hH
        · rw [e6 _ _ hws] at z; cases z
      refine k7 a o ha hne (z.imp id fun w => ?_)
      cases h1 : H1 a with
      | none => rfl
      | some u => rw [(e2.trans e6) _ _ h1] at w; cases w
    | false =>
      refine (show _ from ⟨hlt, e2.trans e6, ws, e6 _ _ hws, by omega, fun H6 k6 => ?_⟩)
      rw [List.range_succ, List.filter_append, List.filter_cons, if_neg (by rw [hf]; decide)]
      simpa using hall H6 fun a o ha hne z => k6 a o (e6 _ _ ha) hne z
  · have e : i = n := by omega
    subst e
    exact .inl ⟨(ok H' (e0.trans (e1.trans e2))).2.1, q D ws H' (fresh_back e1 hD) (e1.trans e2) hws fun H3 k => hall H3 fun a o ha hne z => k a o ha hne (z.imp id fun w => fresh_back e1 w)⟩
/-- items that are what they are, whatever the heap -/
theorem el_lc {wi : TI} {g : TG} {vs : List Nat} {n : Nat} {Y : Nat → V → Hp → Prop} (f : Nat → Bool) (w : Nat → V) (h : EvI wi σ H n Y) (hn : n ≤ 90000)
    (turn : ∀ i, i < n → ∀ x H1, Ex H H1 → Y i x H1 → ∃ σ2, EvG g x (wipe σ vs) H1 σ2 ∧ wipe σ2 vs = wipe σ vs ∧ EvT t σ2 H (f i) ∧ (f i = true → Ev te σ2 H (w i))) :
    EvL (tLc wi g t te vs) σ H (((List.range n).filter f).map w) := EvF.toL (by
  have z := ef_lc f (fun i v _ => v = w i) h hn fun i hi x H1 e y => by
    obtain ⟨σ2, h1, h2, h3, h4⟩ := turn i hi x H1 e y
    exact ⟨σ2, h1, h2, h3, fun hf => EvP.of (h4 hf) fun _ _ => rfl⟩
  exact fun H1 e Q q => z H1 e Q fun p xs H2 n e2 h2 h3 => q p xs H2 n e2 h2 fun H3 k => (h3 H3 k).map_eq)
theorem putK_le (c : List (Key × V)) (k : Key) (x : V) : (putK c k x).length ≤ c.length + 1 := by
  unfold putK
  split <;> simp
/-- a dict's keys by a comprehension -/
def dcK (n : Nat) (f : Nat → Bool) (kf : Nat → Key) (vf : Nat → V) : List (Key × V) := ((List.range n).filter f).foldl (fun kvs i => putK kvs (kf i) (vf i)) []
theorem ed_dc {wi : TI} {g : TG} {tk tv : TE} {vs : List Nat} {n : Nat} {Y : Nat → V → Hp → Prop} (f : Nat → Bool) (kf : Nat → Key) (vf : Nat → V) (h : EvI wi σ H n Y) (hn : n ≤ 90000)
    (turn : ∀ i, i < n → ∀ x H1, Ex H H1 → Y i x H1 → ∃ σ2, EvG g x (wipe σ vs) H1 σ2 ∧ wipe σ2 vs = wipe σ vs ∧ EvT t σ2 H (f i) ∧ (f i = true → Ev tk σ2 H (kV (kf i)) ∧ Ev tv σ2 H (vf i))) :
    ∀ H1, Ex H H1 → ∀ Q : VK, (∀ p H2, H1 p = none → Ex H1 H2 → H2 p = some (.dK (dcK n f kf vf)) → Q (.ref p) H2) → tDc wi g t tk tv vs σ H1 Q := fun H0 e0 Q q => h H0 e0 _ fun J H1 e1 ok D hD => by
  have hH : H D = none := fresh_back (e0.trans e1) hD
  refine ⟨fun i m H' => m = n - i ∧ i ≤ n ∧ Ex H1 H' ∧ H' D = some (.dK (dcK i f kf vf)) ∧ (dcK i f kf vf).length ≤ i, ⟨n, by simp, Nat.zero_le _, Ex.new hD, upd_same, Nat.le_refl _⟩, ?_⟩
  rintro i m H' ⟨rfl, hi, e2, hws, hlen⟩
  by_cases hlt : i < n
  · refine .inr ⟨(ok H' (e0.trans (e1.trans e2))).1 i hlt, fun H' => i + 1 ≤ n ∧ Ex H1 H' ∧ H' D = some (.dK (dcK (i + 1) f kf vf)) ∧ (dcK (i + 1) f kf vf).length ≤ i + 1, fun H'' p => ⟨n - (i + 1), by omega, rfl, p⟩, fun x H2 y => ?_⟩
    obtain ⟨e3, yy⟩ := (ok H' (e0.trans (e1.trans e2))).2.2 i hlt x H2 y
    obtain ⟨σ2, hg, hw, ht, hp⟩ := turn i hlt x H2 (((e0.trans e1).trans e2).trans e3) yy
    refine hg H2 (Ex.refl _) _ fun H3 e4 => ⟨hw, ht H3 ((((e0.trans e1).trans e2).trans e3).trans e4) _ fun H4 e5 => ?_⟩
    have e6 : Ex H' H4 := (e3.trans e4).trans e5
    cases hf : f i with
    | true =>
      show tk σ2 H4 _
      have st : dcK (i + 1) f kf vf = putK (dcK i f kf vf) (kf i) (vf i) := by
        unfold dcK
        rw [List.range_succ, List.filter_append, List.filter_cons, if_pos hf, List.foldl_append]
        rfl
      refine (hp hf).1 H4 (((e0.trans e1).trans e2).trans e6) _ fun H5 e7 => (hp hf).2 H5 ((((e0.trans e1).trans e2).trans e6).trans e7) _ fun H6 e8 => ⟨_, kf i, rfl, ((e6.trans e7).trans e8) _ _ hws, sz_lt (by omega), hlt, Ex.mut (e2.trans ((e6.trans e7).trans e8)) hD, ?_, ?_⟩
      · rw [st]; exact upd_same
      · rw [st]
        have := putK_le (dcK i f kf vf) (kf i) (vf i)
        omega
    | false =>
      have st : dcK (i + 1) f kf vf = dcK i f kf vf := by
        unfold dcK
        rw [List.range_succ, List.filter_append, List.filter_cons, if_neg (by rw [hf]; decide)]
        simp
      refine (show _ from ⟨hlt, e2.trans e6, ?_, ?_⟩)
      · rw [st]; exact e6 _ _ hws
      · rw [st]; omega
  · have e : i = n := by omega
    subst e
    exact .inl ⟨(ok H' (e0.trans (e1.trans e2))).2.1, q D H' (fresh_back e1 hD) (e1.trans e2) hws⟩
/-- all([..]), any([..]) -/
theorem ev_allL {bs : List Bool} (h : EvL te σ H (bs.map V.bl)) : Ev (tCB (rAll K) (tCons te tNil)) σ H (.bl (bs.all id)) := fun H1 e Q q => h H1 e _ fun p H2 _ e2 h2 => ⟨p, bs, rfl, sq_of h2, q H2 e2⟩
theorem ev_anyL {bs : List Bool} (h : EvL te σ H (bs.map V.bl)) : Ev (tCB (rAny K) (tCons te tNil)) σ H (.bl (bs.any id)) := fun H1 e Q q => h H1 e _ fun p H2 _ e2 h2 => ⟨p, bs, rfl, sq_of h2, q H2 e2⟩
theorem map_range {α : Type} (ps : List α) (f : α → Bool) (b : Nat → Bool) (h : ∀ i a, ps[i]? = some a → b i = f a) : (List.range ps.length).map b = ps.map f := by
  refine List.ext_getElem (by simp) fun i h1 h2 => ?_
  simp only [List.length_map, List.length_range] at h1
  simp [h i ps[i] (by simp [h1])]
theorem filter_true (n : Nat) : (List.range n).filter (fun _ => true) = List.range n := List.filter_eq_self.mpr fun _ _ => rfl
/-- all of a comprehension over a list of known things -/
theorem ev_allC {α : Type} {wi : TI} {g : TG} {vs : List Nat} {Y : Nat → V → Hp → Prop} (ps : List α) (f : α → Bool) (h : EvI wi σ H ps.length Y) (hn : ps.length ≤ 90000)
    (turn : ∀ (i : Nat) a, ps[i]? = some a → ∀ x H1, Ex H H1 → Y i x H1 → ∃ σ2, EvG g x (wipe σ vs) H1 σ2 ∧ wipe σ2 vs = wipe σ vs ∧ Ev te σ2 H (.bl (f a))) : Ev (tCB (rAll K) (tCons (tLc wi g tYes te vs) tNil)) σ H (.bl (ps.all f)) := by
  have z : EvL (tLc wi g tYes te vs) σ H ((ps.map f).map V.bl) := by
    have q := el_lc (fun _ => true) (fun i => V.bl ((ps.map f).getD i false)) h hn fun i hi x H1 e y => by
      obtain ⟨σ2, h1, h2, h3⟩ := turn i ps[i] (by simp [hi]) x H1 e y
      exact ⟨σ2, h1, h2, et_yes, fun _ => by simpa [hi] using h3⟩
    rw [filter_true] at q
    have e : (List.range ps.length).map (fun i => V.bl ((ps.map f).getD i false)) = (ps.map f).map V.bl := by
      refine List.ext_getElem (by simp) fun i h1 h2 => ?_
      simp only [List.length_map, List.length_range] at h1
      simp [h1]
    rw [← e]; exact q
  have q := ev_allL (K := K) z
  rwa [List.all_map] at q
theorem ev_anyC {α : Type} {wi : TI} {g : TG} {vs : List Nat} {Y : Nat → V → Hp → Prop} (ps : List α) (f : α → Bool) (h : EvI wi σ H ps.length Y) (hn : ps.length ≤ 90000)
    (turn : ∀ (i : Nat) a, ps[i]? = some a → ∀ x H1, Ex H H1 → Y i x H1 → ∃ σ2, EvG g x (wipe σ vs) H1 σ2 ∧ wipe σ2 vs = wipe σ vs ∧ Ev te σ2 H (.bl (f a))) : Ev (tCB (rAny K) (tCons (tLc wi g tYes te vs) tNil)) σ H (.bl (ps.any f)) := by
  have z : EvL (tLc wi g tYes te vs) σ H ((ps.map f).map V.bl) := by
    have q := el_lc (fun _ => true) (fun i => V.bl ((ps.map f).getD i false)) h hn fun i hi x H1 e y => by
      obtain ⟨σ2, h1, h2, h3⟩ := turn i ps[i] (by simp [hi]) x H1 e y
      exact ⟨σ2, h1, h2, et_yes, fun _ => by simpa [hi] using h3⟩
    rw [filter_true] at q
    have e : (List.range ps.length).map (fun i => V.bl ((ps.map f).getD i false)) = (ps.map f).map V.bl := by
      refine List.ext_getElem (by simp) fun i h1 h2 => ?_
      simp only [List.length_map, List.length_range] at h1
      simp [h1]
    rw [← e]; exact q
  have q := ev_anyL (K := K) z
  rwa [List.any_map] at q
theorem All2.map {α β γ : Type} {R : β → γ → Prop} {g : α → β} {as : List α} {cs : List γ} (h : All2 (fun a c => R (g a) c) as cs) : All2 R (as.map g) cs := by
  induction h with
  | nil => exact .nil
  | cons h1 _ ih => exact .cons h1 ih
theorem ev_allN {α : Type} {wi : TI} {g : TG} {vs : List Nat} {n : Nat} {Y : Nat → V → Hp → Prop} (ps : List α) (f : α → Bool) (h : EvI wi σ H n Y) (en : n = ps.length) (hn : n ≤ 90000)
    (turn : ∀ (i : Nat) a, ps[i]? = some a → ∀ x H1, Ex H H1 → Y i x H1 → ∃ σ2, EvG g x (wipe σ vs) H1 σ2 ∧ wipe σ2 vs = wipe σ vs ∧ Ev te σ2 H (.bl (f a))) : Ev (tCB (rAll K) (tCons (tLc wi g tYes te vs) tNil)) σ H (.bl (ps.all f)) := by
  subst en
  exact ev_allC ps f h hn turn
theorem ev_anyN {α : Type} {wi : TI} {g : TG} {vs : List Nat} {n : Nat} {Y : Nat → V → Hp → Prop} (ps : List α) (f : α → Bool) (h : EvI wi σ H n Y) (en : n = ps.length) (hn : n ≤ 90000)
    (turn : ∀ (i : Nat) a, ps[i]? = some a → ∀ x H1, Ex H H1 → Y i x H1 → ∃ σ2, EvG g x (wipe σ vs) H1 σ2 ∧ wipe σ2 vs = wipe σ vs ∧ Ev te σ2 H (.bl (f a))) : Ev (tCB (rAny K) (tCons (tLc wi g tYes te vs) tNil)) σ H (.bl (ps.any f)) := by
  subst en
  exact ev_anyC ps f h hn turn
/-- [x for x in xs if p x]: told by what stands beside xs -/
theorem filter_get {α β : Type} (ps : List α) (f : α → Bool) (w : α → β) (b : Nat → Bool) (v : Nat → β) (h : ∀ (i : Nat) a, ps[i]? = some a → b i = f a ∧ v i = w a) : ((List.range ps.length).filter b).map v = (ps.filter f).map w := by
  have e : ps = (List.range ps.length).attach.map (fun i => ps[i.1]'(List.mem_range.mp i.2)) := by
    refine List.ext_getElem (by simp) fun i h1 h2 => by simp
  have e1 : List.range ps.length = (List.range ps.length).attach.map (·.1) := by simp
  rw [congrArg (fun z => (z.filter f).map w) e]
  rw [congrArg (fun z => (z.filter b).map v) e1]
  rw [List.filter_map, List.filter_map, List.map_map, List.map_map]
  have c1 : (b ∘ fun x => x.1 : { x // x ∈ List.range ps.length } → Bool) = (f ∘ fun i => ps[i.1]'(List.mem_range.mp i.2)) := by
    funext i
    exact (h i.1 _ (by simp)).1
  rw [c1]
  refine List.map_congr_left fun i _ => ?_
  exact (h i.1 (ps[i.1]'(List.mem_range.mp i.2)) (by simp)).2
variable {D : Ends}
/-- for .. in ..: Pv, a word of the turn; what the iterator goes over stands in Hb -/
theorem s_forI {wi : TI} {g : TG} {tu : TS} {Hb : Hp} {n : Nat} {Y : Nat → V → Hp → Prop} (h : EvI wi σ Hb n Y) (hb : Ex Hb H) (Pv : Nat → L2.St → Hp → Prop) (h0 : ∀ H1, Ex H H1 → Pv 0 σ H1) (hB : ∀ i σ' H', Pv i σ' H' → Ex Hb H')
    (hs : ∀ i, i < n → ∀ x σ' H', Pv i σ' H' → ∀ H2, Ex H' H2 → Y i x H2 → g x σ' H2 fun σ2 H3 => tu { D with nx := Pv (i + 1), ct := Pv (i + 1), bk := D.nx } σ2 H3) (hd : ∀ σ' H', Pv n σ' H' → D.nx σ' H') : tFor wi g tu D σ H :=
  h H hb _ fun J H1 e ok => ⟨fun i m σ' H' => m = n - i ∧ i ≤ n ∧ Pv i σ' H', ⟨n, by simp, Nat.zero_le _, h0 H1 e⟩, by
    rintro i m σ' H' ⟨rfl, hi, p⟩
    obtain ⟨o1, o2, o3⟩ := ok H' (hB i σ' H' p)
    by_cases hlt : i < n
    · refine .inr ⟨o1 i hlt, Pv (i + 1), fun σ2 H2 p' => ⟨n - (i + 1), by omega, rfl, hlt, p'⟩, fun x H2 y => ?_⟩
      obtain ⟨e2, yy⟩ := o3 i hlt x H2 y
      exact hs i hlt x σ' H' p H2 e2 yy
    · have e : i = n := by omega
      subst e
      exact .inl ⟨o2, hd σ' H' p⟩⟩
theorem s_par {i j : Nat} {ta : TA} {v w : V} (h : EvA ta σ H [v, w]) (k : ∀ H1, Ex H H1 → D.nx ((σ.set i (some v)).set j (some w)) H1) : tPar i j ta D σ H := h H (Ex.refl H) _ fun H1 e => ⟨v, w, rfl, k H1 e⟩
/-- .. the second a new list -/
theorem s_parL {i j : Nat} {ta tb : TE} {v : V} {xs : List V} (h : Ev ta σ H v) (h2 : EvL tb σ H xs) (k : ∀ p H1, H p = none → Ex H H1 → H1 p = some (.lst xs) → D.nx ((σ.set i (some v)).set j (some (.ref p))) H1) : tPar i j (tCons ta (tCons tb tNil)) D σ H :=
  h H (Ex.refl H) _ fun H1 e => h2 H1 e _ fun p H2 n e2 hp => ⟨v, .ref p, rfl, k p H2 (fresh_back e n) (e.trans e2) hp⟩
theorem s_parL1 {i j : Nat} {ta tb : TE} {v : V} {xs : List V} (h : EvL ta σ H xs) (h2 : Ev tb σ H v) (k : ∀ p H1, H p = none → Ex H H1 → H1 p = some (.lst xs) → D.nx ((σ.set i (some (.ref p))).set j (some v)) H1) : tPar i j (tCons ta (tCons tb tNil)) D σ H :=
  h H (Ex.refl H) _ fun p H1 n e hp => h2 H1 e _ fun H2 e2 => ⟨.ref p, v, rfl, k p H2 n (e.trans e2) (e2 _ _ hp)⟩
theorem s_next (h : D.nx σ H) : tNext D σ H := h
theorem s_cons {t u : TS} (h : t { D with nx := u D } σ H) : tSeq t u D σ H := h
theorem s_retF {Pr : List V → Hp → Prop} (h : EvF te σ H Pr) (k : ∀ p xs H1, H p = none → Ex H H1 → H1 p = some (.lst xs) → Pr xs H1 → D.rt (.ref p) H1) : tRet te D σ H := h H (Ex.refl H) _ fun p xs H1 n e h1 h2 => k p xs H1 n e h1 (h2 H1 fun _ _ z _ _ => z)
theorem s_asgF {i : Nat} {Pr : List V → Hp → Prop} (h : EvF te σ H Pr) (k : ∀ p xs H1, H p = none → Ex H H1 → H1 p = some (.lst xs) → Pr xs H1 → D.nx (σ.set i (some (.ref p))) H1) : tAsg te (gName i) D σ H := h H (Ex.refl H) _ fun p xs H1 n e h1 h2 => k p xs H1 n e h1 (h2 H1 fun _ _ z _ _ => z)
theorem s_retP {Pr : V → Hp → Prop} (h : EvP te σ H Pr) (k : ∀ v H1, Ex H H1 → Pr v H1 → D.rt v H1) : tRet te D σ H := h H (Ex.refl H) _ fun v H1 e h2 => k v H1 e (h2 H1 fun _ _ z _ => z)
theorem s_asgP {i : Nat} {Pr : V → Hp → Prop} (h : EvP te σ H Pr) (k : ∀ v H1, Ex H H1 → Pr v H1 → D.nx (σ.set i (some v)) H1) : tAsg te (gName i) D σ H := h H (Ex.refl H) _ fun v H1 e h2 => k v H1 e (h2 H1 fun _ _ z _ => z)
end
end OR
set_option Elab.async false
set_option linter.all false
set_option maxRecDepth 100000
set_option maxHeartbeats 4000000
/-! DL: data that a value stands for, heaps that grow, isinstance asked of it; rows of rings. -/
namespace OR
open PySem PySem.Calls PySem.Spec PyProof.Rows L2 Evl
section
variable {K : PySem.W.Frag}
mutual
theorem dp_ex {H H' : Hp} (e : Ex H H') : ∀ (d : PyData) (v : V), Dp K H v d → Dp K H' v d
  | .none, _, h => by cases h; exact .non
  | .bool b, _, h => by cases h; exact .bl b
  | .int i, _, h => by cases h; exact .int i
  | .str x, _, h => by cases h; exact .str x
  | .list ds, _, h => by cases h with | lst hs ha => exact .lst (ex_l e hs) (dp_exAll e ds _ ha)
  | .tuple ds, _, h => by cases h with | tup hs ha => exact .tup (ex_t e hs) (dp_exAll e ds _ ha)
  | .dict _, _, h => by cases h
theorem dp_exAll {H H' : Hp} (e : Ex H H') : ∀ (ds : List PyData) (vs : List V), DpAll K H vs ds → DpAll K H' vs ds
  | [], _, h => by cases h; exact .nil
  | d :: ds, _, h => by cases h with | cons h1 h2 => exact .cons (dp_ex e d _ h1) (dp_exAll e ds _ h2)
end
theorem dpAll_2 {H : Hp} : ∀ {vs : List V} {ds : List PyData}, DpAll K H vs ds ↔ All2 (fun d v => Dp K H v d) ds vs
  | [], [] => ⟨fun _ => .nil, fun _ => .nil⟩
  | [], _ :: _ => ⟨fun h => (by cases h), fun h => (by cases h)⟩
  | _ :: _, [] => ⟨fun h => (by cases h), fun h => (by cases h)⟩
  | v :: vs, d :: ds => ⟨fun h => by cases h with | cons a b => exact .cons a (dpAll_2.mp b), fun h => by cases h with | cons a b => exact .cons a (dpAll_2.mpr b)⟩
/-- data, or a dict -/
inductive Dq (K : PySem.W.Frag) (H : Hp) : V → PyData → Prop
  | d {v : V} {d : PyData} : Dp K H v d → Dq K H v d
  | dct {a : Addr} {kvs : List (Key × V)} : H a = some (.dK kvs) → Dq K H (.ref a) (.dict [])
theorem dq_ex {H H' : Hp} (e : Ex H H') {v : V} {d : PyData} (h : Dq K H v d) : Dq K H' v d := by
  cases h with
  | d h => exact .d (dp_ex e _ _ h)
  | dct h => exact .dct (e _ _ h)
def tyN : PyData → String
  | .none => "NoneType" | .bool _ => "bool" | .int _ => "int" | .str _ => "str" | .list _ => "list" | .tuple _ => "tuple" | .dict _ => "dict"
theorem dq_ty {H : Hp} {v : V} {d : PyData} (h : Dq K H v d) : TyX K H v (.type (tyN d)) := by
  cases h with
  | dct h => exact .base (.dK h)
  | d h =>
    cases h with
    | non => exact .base .non
    | bl b => exact .base (.bl b)
    | int i => exact .base (.int i)
    | str x => exact .base (.str x)
    | lst hs _ =>
      rcases hs with (h | ⟨o, h⟩) | ⟨o, _, _, h, c, _⟩
      · exact .base (.lst h)
      · exact .base (.frz h)
      · exact .kList h c
    | tup hs _ =>
      rcases hs with (h | ⟨o, h⟩) | ⟨o, _, _, h, c, _⟩
      · exact .base (.tup h)
      · exact .fTuple h
      · exact .kTuple h c
def inst (T : String) (d : PyData) : Bool := match T, d with
  | "int", .int _ => true | "int", .bool _ => true | "bool", .bool _ => true | "str", .str _ => true | "list", .list _ => true | "tuple", .tuple _ => true | "dict", .dict _ => true
  | _, _ => false
def tys : List String := ["int", "bool", "str", "list", "tuple", "dict"]
theorem kit_inst {T : String} (hT : T ∈ tys) (d : PyData) : PySem.W.kitOne K (.type (tyN d)) (.type T) = some (inst T d) := by
  refine kit_ty ?_
  simp only [tys, List.mem_cons, List.not_mem_nil, or_false] at hT
  rcases hT with rfl | rfl | rfl | rfl | rfl | rfl <;> cases d <;> (first | rfl | decide +kernel)
variable {σ : L2.St} {H H' : Hp} {te : TE}
theorem ev_isi {T : String} {v : V} {d : PyData} (h : Ev te σ H v) (hd : Dq K H v d) (hT : T ∈ tys := by decide) : Ev (tCB (rIsi K) (tCons te (tCons (tC (.ty T)) tNil))) σ H (.bl (inst T d)) := fun H1 e Q q =>
  h H1 e _ fun H2 e2 => ⟨v, .ty T, _, .type T, _, rfl, .ty T, dq_ty (dq_ex (e.trans e2) hd), kit_inst hT d, q H2 e2⟩
/-- isinstance(x, (A, B)) -/
theorem ev_isi2 {S T : String} {v : V} {d : PyData} (h : Ev te σ H v) (hd : Dq K H v d) (hS : S ∈ tys := by decide) (hT : T ∈ tys := by decide) :
    Ev (tCB (rIsiT K) (tCons te (tCons (tTup (tCons (tC (.ty S)) (tCons (tC (.ty T)) tNil))) tNil))) σ H (.bl (inst S d || inst T d)) := fun H1 e Q q =>
  h H1 e _ fun H2 e2 => ⟨by show 2 ≤ sizeLine; decide, fun p hp => ⟨v, p, _, _, [.type S, .type T], _, rfl, upd_same, .cons (.ty S) (.cons (.ty T) .nil), dq_ty (dq_ex ((e.trans e2).trans (Ex.new hp)) hd),
    kitAny_cons (kit_inst hS d) (fun e1 => kitAny_cons (r := inst S d || inst T d) (kit_inst hT d) (fun e2 => by rw [e1, e2]; exact kitAny_nil) fun e2 => by rw [e1, e2]; rfl) fun e1 => by rw [e1]; rfl, q _ (e2.trans (Ex.new hp))⟩⟩
theorem ev_lenS {a : Addr} {xs : List V} (h : Ev te σ H (.ref a)) (hx : SqS K H a xs) : Ev (tCB (Evl.rLenS K) (tCons te tNil)) σ H (.int xs.length) := fun H1 e Q q => h H1 e _ fun H2 e2 => ⟨a, xs, rfl, ex_s (e.trans e2) hx, q H2 e2⟩
theorem rv_ixS {a : Addr} {xs : List V} {i : Int} {v : V} (hx : SqS K H a xs) (ha : atI xs i = some v) : RV (rIx K) (.ref a) (.int i) H v := by
  rcases hx with hx | hx
  · exact fun H1 e Q q => .inl (rv_ixL hx ha H1 e Q q)
  · exact fun H1 e Q q => .inr (.inl (rv_ixT hx ha H1 e Q q))
theorem ev_isN {v : V} (h : Ev te σ H v) : Ev (tOp (fun x y H Q => y = .non ∧ Q (.bl (decide (x = .non))) H) te (tC .non)) σ H (.bl (decide (v = .non))) := ev_op h ev_c fun H1 _ _ q => ⟨rfl, q H1 (Ex.refl H1)⟩
theorem ev_notN {v : V} (h : Ev te σ H v) : Ev (tOp (fun x y H Q => y = .non ∧ Q (.bl (!decide (x = .non))) H) te (tC .non)) σ H (.bl (!decide (v = .non))) := ev_op h ev_c fun H1 _ _ q => ⟨rfl, q H1 (Ex.refl H1)⟩
theorem atI_nat' {xs : List V} {i : Nat} {v : V} (h : xs[i]? = some v) : atI xs (i : Int) = some v := atI_nat h
/-- a call of a pure def -/
def Pure (sp : Sp) (vs : List V) (H : Hp) (z : V) : Prop := ∀ Q E, (∀ H', Ex H H' → Q z H') → sp vs H Q E
theorem ev_cal {sp : Sp} {vs : List V} {E : XK} {ta : TA} {z : V} (h : EvA ta σ H vs) (hs : ∀ H1, Ex H H1 → Pure sp vs H1 z) : Ev (tCall sp [] E ta) σ H z := fun H1 e Q q =>
  h H1 e _ fun H2 e2 => by
    show sp (vs ++ []) H2 Q E
    rw [List.append_nil]
    exact hs H2 (e.trans e2) Q E fun H3 e3 => q H3 (e2.trans e3)
end
/-! ### what the program holds of values -/
def isWhole : PyData → Bool
  | .int _ => true
  | _ => false
theorem isWhole_inst (d : PyData) : (inst "int" d && !inst "bool" d) = isWhole d := by cases d <;> rfl
def isStone : PyData → Bool
  | .str x => decide (x = "stone")
  | _ => false
def isNone : PyData → Bool
  | .none => true
  | _ => false
def isItem : PyData → Bool
  | .tuple [.int _, .int h, .int _] => decide (0 ≤ h)
  | _ => false
def isRow (d : PyData) : Bool := isNone d || (isStone d || isItem d)
def keyD : PyData → Int
  | .tuple (.int k :: _) => k
  | _ => 0
/-- a ring: rows, one of them empty, no key twice -/
def isRing : PyData → Bool
  | .tuple ds => !ds.isEmpty && ds.all isRow && ds.any isNone && decide (((ds.filter (inst "tuple")).map keyD).Nodup)
  | _ => false
inductive Row where
  | non | sto | it (k h m : Int)
  deriving DecidableEq, Repr
def Row.toD : Row → PyData
  | .non => .none
  | .sto => .str "stone"
  | .it k h m => .tuple [.int k, .int h, .int m]
def Row.isIt : Row → Bool
  | .it _ _ _ => true
  | _ => false
def Row.key : Row → Int
  | .it k _ _ => k
  | _ => 0
def Row.hash : Row → Int
  | .it _ h _ => h
  | _ => 0
def Row.ok : Row → Bool
  | .it _ h _ => decide (0 ≤ h)
  | _ => true
theorem Row.toD_inj : ∀ {a b : Row}, a.toD = b.toD → a = b
  | .non, .non, _ => rfl
  | .sto, .sto, _ => rfl
  | .it _ _ _, .it _ _ _, h => by
    simp only [toD, PyData.tuple.injEq, List.cons.injEq, PyData.int.injEq, and_true] at h
    obtain ⟨h1, h2, h3⟩ := h
    rw [h1, h2, h3]
  | .non, .sto, h => by cases h
  | .non, .it _ _ _, h => by cases h
  | .sto, .non, h => by cases h
  | .sto, .it _ _ _, h => by cases h
  | .it _ _ _, .non, h => by cases h
  | .it _ _ _, .sto, h => by cases h
theorem isRow_row {d : PyData} (h : isRow d = true) : ∃ r : Row, d = r.toD ∧ r.ok = true := by
  unfold isRow at h
  rcases Bool.or_eq_true_iff.mp h with h | h
  · cases d <;> first | exact ⟨.non, rfl, rfl⟩ | cases h
  · rcases Bool.or_eq_true_iff.mp h with h | h
    · cases d with
      | str x => exact ⟨.sto, by rw [show x = "stone" from of_decide_eq_true h]; rfl, rfl⟩
      | _ => cases h
    · unfold isItem at h
      split at h
      · rename_i k h' m
        exact ⟨.it _ _ _, rfl, h⟩
      · cases h
theorem row_isRow (r : Row) (h : r.ok = true) : isRow r.toD = true := by
  cases r with
  | non => rfl
  | sto => decide +kernel
  | it k h' m => exact h
theorem row_inst (r : Row) : inst "tuple" r.toD = r.isIt := by cases r <;> rfl
theorem row_none (r : Row) : isNone r.toD = decide (r = .non) := by cases r <;> rfl
theorem row_stone (r : Row) : isStone r.toD = decide (r = .sto) := by cases r <;> first | rfl | decide +kernel
theorem row_key (r : Row) : keyD r.toD = r.key := by cases r <;> rfl
/-- a ring, told by its rows -/
structure Ring (rows : List Row) : Prop where
  ok : ∀ r ∈ rows, r.ok = true
  non : .non ∈ rows
  key : ((rows.filter Row.isIt).map Row.key).Nodup
theorem isRing_iff {d : PyData} : isRing d = true ↔ ∃ rows, d = .tuple (rows.map Row.toD) ∧ Ring rows := by
  constructor
  · intro h
    cases d with
    | tuple ds =>
      simp only [isRing, Bool.and_eq_true, List.all_eq_true, List.any_eq_true, decide_eq_true_eq] at h
      obtain ⟨⟨⟨h0, h1⟩, h2⟩, h3⟩ := h
      have ex : ∃ rows : List Row, ds = rows.map Row.toD ∧ ∀ r ∈ rows, r.ok = true := by
        clear h0 h2 h3
        induction ds with
        | nil => exact ⟨[], rfl, by simp⟩
        | cons d ds ih =>
          obtain ⟨r, e, o⟩ := isRow_row (h1 d (List.mem_cons_self ..))
          obtain ⟨rs, e2, o2⟩ := ih fun x hx => h1 x (List.mem_cons_of_mem _ hx)
          exact ⟨r :: rs, by rw [e, e2]; rfl, fun x hx => by
            rcases List.mem_cons.mp hx with rfl | hx
            · exact o
            · exact o2 x hx⟩
      obtain ⟨rows, rfl, o⟩ := ex
      refine ⟨rows, rfl, o, ?_, ?_⟩
      · obtain ⟨x, hx, hn⟩ := h2
        obtain ⟨r, hr, rfl⟩ := List.mem_map.mp hx
        rw [row_none] at hn
        rw [← of_decide_eq_true hn]
        exact hr
      · rw [List.filter_map, List.map_map] at h3
        have e1 : (inst "tuple" ∘ Row.toD) = Row.isIt := funext row_inst
        have e2 : (keyD ∘ Row.toD) = Row.key := funext row_key
        rwa [e1, e2] at h3
    | _ => cases h
  · rintro ⟨rows, rfl, o, n, k⟩
    simp only [isRing, Bool.and_eq_true, List.all_eq_true, List.any_eq_true, decide_eq_true_eq]
    refine ⟨⟨⟨?_, ?_⟩, ?_⟩, ?_⟩
    · cases rows with
      | nil => cases n
      | cons => rfl
    · intro x hx
      obtain ⟨r, hr, rfl⟩ := List.mem_map.mp hx
      exact row_isRow r (o r hr)
    · exact ⟨.none, List.mem_map.mpr ⟨.non, n, rfl⟩, rfl⟩
    · rw [List.filter_map, List.map_map]
      have e1 : (inst "tuple" ∘ Row.toD) = Row.isIt := funext row_inst
      have e2 : (keyD ∘ Row.toD) = Row.key := funext row_key
      rw [e1, e2]
      exact k
/-- rows that stand at a -/
def RowsAt (K : PySem.W.Frag) (H : Hp) (a : Addr) (rows : List Row) : Prop := ∃ vs, SqS K H a vs ∧ All2 (fun r v => Dp K H v (Row.toD r)) rows vs
theorem RowsAt.ex {K : PySem.W.Frag} {H H' : Hp} {a : Addr} {rows : List Row} (e : Ex H H') (h : RowsAt K H a rows) : RowsAt K H' a rows := by
  obtain ⟨vs, h1, h2⟩ := h
  exact ⟨vs, ex_s e h1, h2.imp fun _ _ _ z => dp_ex e _ _ z⟩
/-! ### leaning, reaching, rising -/
section
variable (rows : List Row)
def rowAt (p : Nat) : Row := rows.getD p .non
def dist (one other many : Int) : Int := (other - one) % many
def leans (p : Nat) : Int := dist ((rowAt rows p).hash % rows.length) p rows.length
def reaches (p : Nat) : Bool := (List.range ((leans rows p).toNat + 1)).all fun k => !decide (rowAt rows (((p : Int) - k) % rows.length).toNat = .non)
def rises (p : Nat) : Bool := !(rowAt rows p).isIt || (!(rowAt rows ((p + 1) % rows.length)).isIt || decide (leans rows ((p + 1) % rows.length) ≤ leans rows p + 1))
def places : List Nat := (List.range rows.length).filter fun p => (rowAt rows p).isIt
def hasLaw (way : Str) : Bool := !(!decide (way = "stones") && rows.any fun r => decide (r = .sto)) && ((places rows).all (reaches rows) && (!decide (way = "sorted") || (places rows).all (rises rows)))
end
end OR
set_option Elab.async false
set_option linter.all false
set_option maxRecDepth 100000
set_option maxHeartbeats 4000000
/-! BI: built-in names that stay free; promises of pure defs. -/
namespace OR
open PySem PySem.Calls PySem.Spec PyProof.Rows L2 Evl
structure Bi (mg : Str → Option Value) : Prop where
  mg_int : mg "int" = none
  mg_bool : mg "bool" = none
  mg_str : mg "str" = none
  mg_list : mg "list" = none
  mg_tuple : mg "tuple" = none
  mg_dict : mg "dict" = none
  mg_len : mg "len" = none
  mg_isinstance : mg "isinstance" = none
  mg_all : mg "all" = none
  mg_any : mg "any" = none
  mg_range : mg "range" = none
  mg_enumerate : mg "enumerate" = none
  mg_sorted : mg "sorted" = none
  mg_min : mg "min" = none
  mg_max : mg "max" = none
  mg_sum : mg "sum" = none
  mg_repr : mg "repr" = none
def biN : List Str := ["int", "bool", "str", "list", "tuple", "dict", "len", "isinstance", "all", "any", "range", "enumerate", "sorted", "min", "max", "sum", "repr"]
theorem bi_of {mg : Str → Option Value} (h : ∀ x ∈ biN, mg x = none) : Bi mg := by
  constructor <;> exact h _ (by decide +kernel)
/-- a value's items, where it has such -/
def topLen : PyData → Nat
  | .list ds => ds.length
  | .tuple ds => ds.length
  | _ => 0
/-- a pure test of one value -/
def spB1 (K : PySem.W.Frag) (f : PyData → Bool) : Sp := fun vs H Q _ => ∃ v d, vs = [v] ∧ Dq K H v d ∧ ∀ H', Ex H H' → Q (.bl (f d)) H'
section
variable {K : PySem.W.Frag} {H : Hp}
theorem pure_B1 {f : PyData → Bool} {v : V} {d : PyData} (h : Dq K H v d) : Pure (spB1 K f) [v] H (.bl (f d)) := fun Q E q => ⟨v, d, rfl, h, q⟩
/-- is_ring: not of things that are too long -/
def spRing (K : PySem.W.Frag) : Sp := fun vs H Q _ => ∃ v d, vs = [v] ∧ Dq K H v d ∧ topLen d ≤ 50000 ∧ ∀ H', Ex H H' → Q (.bl (isRing d)) H'
theorem pure_Ring {v : V} {d : PyData} (h : Dq K H v d) (hl : topLen d ≤ 50000) : Pure (spRing K) [v] H (.bl (isRing d)) := fun Q E q => ⟨v, d, rfl, h, hl, q⟩
/-- the values beside the data that f takes -/
def sel {α β : Type} (f : α → Bool) (ds : List α) (xs : List β) : List β := ((ds.zip xs).filter fun p => f p.1).map (·.2)
theorem sel_all2 {α β : Type} {R : α → β → Prop} (f : α → Bool) {ds : List α} {xs : List β} (h : All2 R ds xs) : All2 R (ds.filter f) (sel f ds xs) := by
  induction h with
  | nil => exact .nil
  | cons h1 _ ih =>
    rename_i d x ds xs hh
    unfold sel at *
    rw [List.zip_cons_cons, List.filter_cons, List.filter_cons]
    by_cases hd : f d = true
    · rw [if_pos hd, if_pos hd, List.map_cons]
      exact .cons h1 ih
    · rw [if_neg hd, if_neg hd]
      exact ih
/-- the tuples of a list or a tuple, in a new list -/
def spHeld (K : PySem.W.Frag) : Sp := fun vs H Q _ => ∃ a xs ds, vs = [.ref a] ∧ SqS K H a xs ∧ All2 (fun d v => Dp K H v d) ds xs ∧ xs.length ≤ 50000 ∧
  ∀ p H', H p = none → Ex H H' → H' p = some (.lst (sel (inst "tuple") ds xs)) → Q (.ref p) H'
/-- a tuple's items -/
theorem dq_tup {v : V} {ds : List PyData} (h : Dq K H v (.tuple ds)) : ∃ a xs, v = .ref a ∧ SqT K H a xs ∧ All2 (fun d v => Dp K H v d) ds xs := by
  cases h with
  | d h =>
    cases h with
    | tup hs ha => exact ⟨_, _, rfl, hs, dpAll_2.mp ha⟩
theorem dq_lst {v : V} {ds : List PyData} (h : Dq K H v (.list ds)) : ∃ a xs, v = .ref a ∧ SqL K H a xs ∧ All2 (fun d v => Dp K H v d) ds xs := by
  cases h with
  | d h =>
    cases h with
    | lst hs ha => exact ⟨_, _, rfl, hs, dpAll_2.mp ha⟩
variable {σ : L2.St} {te : TE}
theorem el_held {ta : TA} {E : XK} {a : Addr} {xs : List V} {ds : List PyData} (h : EvA ta σ H [.ref a]) (hx : SqS K H a xs) (hall : All2 (fun d v => Dp K H v d) ds xs) (hz : xs.length ≤ 50000) : EvL (tCall (spHeld K) [] E ta) σ H (sel (inst "tuple") ds xs) := fun H1 e Q q =>
  h H1 e _ fun H2 e2 => ⟨a, xs, ds, rfl, ex_s (e.trans e2) hx, hall.imp fun _ _ _ z => dp_ex (e.trans e2) _ _ z, hz, fun p H3 n e3 h3 => q p H3 (fresh_back e2 n) (e2.trans e3) h3⟩
/-- len of a dict by a comprehension -/
theorem ev_lenDc {wi : TI} {g : TG} {t : TT} {tk tv : TE} {vs : List Nat} {n : Nat} {Y : Nat → V → Hp → Prop} (f : Nat → Bool) (kf : Nat → Key) (vf : Nat → V) (h : EvI wi σ H n Y) (hn : n ≤ 90000)
    (turn : ∀ i, i < n → ∀ x H1, Ex H H1 → Y i x H1 → ∃ σ2, EvG g x (wipe σ vs) H1 σ2 ∧ wipe σ2 vs = wipe σ vs ∧ EvT t σ2 H (f i) ∧ (f i = true → Ev tk σ2 H (kV (kf i)) ∧ Ev tv σ2 H (vf i))) :
    Ev (tCB (fun xs H Q => ∃ a kvs, xs = [V.ref a] ∧ H a = some (.dK kvs) ∧ Q (.int kvs.length) H) (tCons (tDc wi g t tk tv vs) tNil)) σ H (.int (dcK n f kf vf).length) := fun H1 e Q q => by
  show tDc wi g t tk tv vs σ H1 (fun v H1 => ∃ a kvs, [v] = [V.ref a] ∧ H1 a = some (.dK kvs) ∧ Q (.int kvs.length) H1)
  exact ed_dc f kf vf h hn turn H1 e _ fun p H2 _ e2 h2 => ⟨p, _, rfl, h2, q H2 e2⟩
end
/-- the keys that came, each once -/
def keysOf {κ : Type} [DecidableEq κ] (ks : List κ) : List κ := ks.foldl (fun a k => if k ∈ a then a else a ++ [k]) []
theorem dcK_keys (n : Nat) (kf : Nat → Key) (vf : Nat → V) : (dcK n (fun _ => true) kf vf).map (·.1) = keysOf ((List.range n).map kf) := by
  induction n with
  | zero => rfl
  | succ n ih =>
    unfold dcK keysOf at *
    rw [filter_true] at *
    rw [List.range_succ, List.foldl_append, List.map_append, List.foldl_append, ← ih]
    simp only [List.foldl_cons, List.foldl_nil, List.map_cons, List.map_nil]
    generalize (List.range n).foldl (fun kvs i => putK kvs (kf i) (vf i)) [] = kvs
    unfold putK
    by_cases hk : kf n ∈ kvs.map (·.1)
    · have : (kvs.any fun kv => decide (kv.1 = kf n)) = true := by
        obtain ⟨p, hp, e⟩ := List.mem_map.mp hk
        exact List.any_eq_true.mpr ⟨p, hp, decide_eq_true e⟩
      rw [if_pos this, if_pos hk, List.map_map]
      refine List.map_congr_left fun p _ => ?_
      simp only [Function.comp]
      split <;> rfl
    · have : ¬ (kvs.any fun kv => decide (kv.1 = kf n)) = true := fun z => by
        obtain ⟨p, hp, e⟩ := List.any_eq_true.mp z
        exact hk (List.mem_map.mpr ⟨p, hp, of_decide_eq_true e⟩)
      rw [if_neg this, if_neg hk]
      simp
theorem keysOf_len {κ : Type} [DecidableEq κ] (ks : List κ) : (keysOf ks).length ≤ ks.length ∧ ((keysOf ks).length = ks.length ↔ ks.Nodup) := by
  have gen : ∀ (ks acc : List κ), acc.Nodup → (ks.foldl (fun a k => if k ∈ a then a else a ++ [k]) acc).length ≤ acc.length + ks.length ∧
      ((ks.foldl (fun a k => if k ∈ a then a else a ++ [k]) acc).length = acc.length + ks.length ↔ (acc ++ ks).Nodup) := by
    intro ks
    induction ks with
    | nil => intro acc ha; simp [ha]
    | cons k ks ih =>
      intro acc ha
      simp only [List.foldl_cons]
      by_cases hk : k ∈ acc
      · rw [if_pos hk]
        obtain ⟨h1, h2⟩ := ih acc ha
        refine ⟨by simp; omega, ⟨fun e => ?_, fun nd => ?_⟩⟩
        · simp at e; omega
        · exact absurd rfl ((List.nodup_append.mp nd).2.2 k hk k (List.mem_cons_self ..))
      · rw [if_neg hk]
        have nd2 : (acc ++ [k]).Nodup := List.nodup_append.mpr ⟨ha, by simp, fun a ha' b hb => by simp at hb; subst hb; exact fun e => hk (e ▸ ha')⟩
        obtain ⟨h1, h2⟩ := ih (acc ++ [k]) nd2
        simp only [List.length_append, List.length_cons, List.length_nil] at h1 h2 ⊢
        refine ⟨by omega, ?_⟩
        rw [show acc ++ k :: ks = acc ++ [k] ++ ks by simp, ← h2]
        constructor <;> intro e <;> omega
  obtain ⟨h1, h2⟩ := gen ks [] .nil
  exact ⟨by simpa [keysOf] using h1, by simpa [keysOf] using h2⟩
theorem nodup_map {α β : Type} {f : α → β} (hf : ∀ a b, f a = f b → a = b) (l : List α) : (l.map f).Nodup ↔ l.Nodup := by
  unfold List.Nodup
  rw [List.pairwise_map]
  exact ⟨fun h => h.imp fun q e => q (by rw [e]), fun h => h.imp fun q e => q (hf _ _ e)⟩
end OR
set_option Elab.async false
set_option linter.all false
set_option maxRecDepth 100000
set_option maxHeartbeats 4000000
/-! BD: dicts read in pure code; comparisons of data. -/
namespace OR
open PySem PySem.Calls PySem.Spec PyProof.Rows L2 Evl
section
variable {K : PySem.W.Frag} {σ : L2.St} {H : Hp} {te td ty : TE}
theorem ev_dget {d : Addr} {kvs : List (Key × V)} {k : Key} {v : V} (h : Ev td σ H (.ref d)) (hd : Rd H d (.dK kvs)) (h2 : Ev ty σ H (kV k)) (hv : valV kvs k = some v) : Ev (tDGet td ty) σ H v := fun H1 e Q q =>
  h H1 e _ fun H2 e2 => h2 H2 (e.trans e2) _ fun H3 e3 => ⟨d, v, rfl, .inl ⟨kvs, k, ex_rd ((e.trans e2).trans e3) hd, rfl, hv.symm⟩, q H3 (e2.trans e3)⟩
theorem ev_din {d : Addr} {kvs : List (Key × V)} {k : Key} (h2 : Ev ty σ H (kV k)) (h : Ev td σ H (.ref d)) (hd : Rd H d (.dK kvs)) : Ev (tDIn ty td) σ H (.bl (valV kvs k).isSome) := fun H1 e Q q =>
  h2 H1 e _ fun H2 e2 => h H2 (e.trans e2) _ fun H3 e3 => ⟨d, _, rfl, .inl ⟨kvs, k, ex_rd ((e.trans e2).trans e3) hd, rfl, rfl⟩, q H3 (e2.trans e3)⟩
theorem ei_keys {d : Addr} {o : Obj} {kvs : List (Key × V)} (h : Ev td σ H (.ref d)) (hd : H d = some (.frz o (.dK kvs))) : EvI (iKeys td) σ H kvs.length (fun i x _ => ∃ k v, kvs[i]? = some (k, v) ∧ x = kV k) := fun H1 e R q =>
  h H1 e _ fun H2 e2 => ⟨d, o, rfl, .inl ⟨kvs, (e.trans e2) _ _ hd, q _ H2 e2 fun H3 e3 => ⟨fun i hi => ⟨e3 _ _ hd, hi⟩, ⟨e3 _ _ hd, Nat.le_refl _⟩, fun i hi x H4 y => by
    obtain ⟨rfl, y⟩ := y
    exact ⟨Ex.refl _, y⟩⟩⟩⟩
/-- while d is locked -/
theorem el_lock {d : Addr} {u : HO} {xs : List V} (hd : H d = some u) (mu : Mut (some u)) (h : ∀ od, EvL te σ (upd H d (.frz od u)) xs) : EvL (tLockE te) σ H xs := fun H1 e Q q => by
  have h1 := e _ _ hd
  refine ⟨d, u, h1, mu, fun od => h od (upd H1 d (.frz od u)) (fun a o ha => ?_) _ fun p H2 n e2 hp => ?_⟩
  · by_cases had : a = d
    · subst had
      rw [upd_same] at ha ⊢
      exact ha
    · rw [upd_ne had] at ha ⊢
      exact e _ _ ha
  · have hpd : p ≠ d := fun z => by
      rw [z, upd_same] at n
      cases n
    have n1 : H1 p = none := by rw [upd_ne hpd] at n; exact n
    refine ⟨e2 _ _ upd_same, q p _ n1 (fun a o ha => ?_) (by rw [upd_ne hpd]; exact hp)⟩
    by_cases had : a = d
    · subst had
      rw [upd_same]
      rw [h1] at ha
      exact ha
    · rw [upd_ne had]
      exact e2 _ _ (by rw [upd_ne had]; exact ha)
theorem valV_nat (f : Nat → V) (q : Nat) : ∀ l : List Nat, valV (l.map fun p => ((Sum.inl ((p : Nat) : Int) : Key), f p)) (.inl ((q : Nat) : Int)) = if q ∈ l then some (f q) else none
  | [] => rfl
  | p :: l => by
    rw [List.map_cons]
    by_cases h : p = q
    · subst h
      rw [valV_pos rfl, if_pos (List.mem_cons_self ..)]
    · have hk : ¬ (Sum.inl ((p : Nat) : Int) : Key) = .inl ((q : Nat) : Int) := fun z => h (by have := Sum.inl.inj z; omega)
      rw [valV_neg hk, valV_nat f q l]
      simp [Ne.symm h]
theorem shaped_of {d : PyData} (h1 : d.canLay0 = true) (h2 : d.depth ≤ 60) : SeqAt.shaped d = true := by
  unfold SeqAt.shaped
  rw [h1, Bool.true_and]
  exact decide_eq_true (by omega)
/-- ==, != of data -/
theorem ev_eqD {x y : V} {d e : PyData} {ta tb : TE} (ha : Ev ta σ H x) (hb : Ev tb σ H y) (dx : Dp K H x d) (dy : Dp K H y e) (sd : SeqAt.shaped d = true) (se : SeqAt.shaped e = true) : Ev (tOp (rEqD K) ta tb) σ H (.bl (PyData.eqv d e)) :=
  ev_op ha hb fun H1 e1 _ q => ⟨d, e, dp_ex e1 _ _ dx, dp_ex e1 _ _ dy, sd, se, q H1 (Ex.refl H1)⟩
theorem ev_neD {x y : V} {d e : PyData} {ta tb : TE} (ha : Ev ta σ H x) (hb : Ev tb σ H y) (dx : Dp K H x d) (dy : Dp K H y e) (sd : SeqAt.shaped d = true) (se : SeqAt.shaped e = true) : Ev (tOp (rNeD K) ta tb) σ H (.bl (!PyData.eqv d e)) :=
  ev_op ha hb fun H1 e1 _ q => ⟨d, e, dp_ex e1 _ _ dx, dp_ex e1 _ _ dy, sd, se, q H1 (Ex.refl H1)⟩
theorem ints_lay : ∀ ns : List Int, PyData.canLayAll0 (ns.map PyData.int) = true ∧ PyData.depthAll (ns.map PyData.int) ≤ 0
  | [] => ⟨rfl, Nat.le_refl _⟩
  | n :: ns => by
    obtain ⟨h1, h2⟩ := ints_lay ns
    constructor
    · simp [PyData.canLayAll0, PyData.canLay0, h1]
    · simp only [List.map_cons, PyData.depthAll, PyData.depth]; omega
theorem ints_dp {H : Hp} : ∀ ns : List Int, DpAll K H (ns.map V.int) (ns.map PyData.int)
  | [] => .nil
  | n :: ns => .cons (.int n) (ints_dp ns)
/-- [..] == [] of a new list of numbers -/
theorem ev_eqNil {ns : List Int} {ta : TE} (ha : EvL ta σ H (ns.map V.int)) : Ev (tOp (rEqD K) ta (tLst tNil)) σ H (.bl ns.isEmpty) := ev_opLL ha (el_lst ea_nil (by simp)) fun p q H1 h1 h2 _ H2 e2 Q k => by
  refine ⟨.list (ns.map PyData.int), .list [], .lst (sq_of (e2 _ _ h1)) (ints_dp ns), .lst (sq_of (e2 _ _ h2)) .nil, shaped_of ?_ ?_, shaped_of rfl (by decide), ?_⟩
  · have := (ints_lay ns).1
    simpa [PyData.canLay0] using this
  · have := (ints_lay ns).2
    simp only [PyData.depth]; omega
  · have e : PyData.eqv (.list (ns.map PyData.int)) (.list []) = ns.isEmpty := by
      cases ns <;> simp [PyData.eqv, PyData.eqvAll]
    rw [e]
    exact k H2 (Ex.refl H2)
theorem el_catL {ta tb : TE} {xs ys : List V} (ha : EvL ta σ H xs) (hb : EvL tb σ H ys) (hz : xs.length + ys.length ≤ 100000) : EvL (tOp rCat ta tb) σ H (xs ++ ys) := fun H1 e Q q =>
  ha H1 e _ fun p H2 n e2 hp => hb H2 (e.trans e2) _ fun r H3 n3 e3 hr => ⟨p, r, xs, ys, rfl, rfl, e3 _ _ hp, hr, sz_of hz, fun l hl => q l _ (fresh_back (e2.trans e3) hl) ((e2.trans e3).trans (Ex.new hl)) upd_same⟩
theorem el_catR {ta tb : TE} {xs ys : List V} {b : Addr} (ha : EvL ta σ H xs) (hb : Ev tb σ H (.ref b)) (hy : H b = some (.lst ys)) (hz : xs.length + ys.length ≤ 100000) : EvL (tOp rCat ta tb) σ H (xs ++ ys) := fun H1 e Q q =>
  ha H1 e _ fun p H2 n e2 hp => hb H2 (e.trans e2) _ fun H3 e3 => ⟨p, b, xs, ys, rfl, rfl, e3 _ _ hp, ((e.trans e2).trans e3) _ _ hy, sz_of hz, fun l hl => q l _ (fresh_back (e2.trans e3) hl) ((e2.trans e3).trans (Ex.new hl)) upd_same⟩
theorem el_slN {tl th : TO} {xs : List V} {lo hi : Option Int} (h : EvL te σ H xs) (h1 : EvO tl σ H lo) (h2 : EvO th σ H hi) : EvL (tSl (rSlL K) te tl th) σ H (cutV xs lo hi) := fun H1 e Q q =>
  h H1 e _ fun p H2 n e2 hp => h1 H2 (e.trans e2) _ fun H3 e3 => h2 H3 ((e.trans e2).trans e3) _ fun H4 e4 =>
    ⟨p, xs, rfl, sq_of (e4 _ _ (e3 _ _ hp)), fun r hr => q r _ (fresh_back ((e2.trans e3).trans e4) hr) (((e2.trans e3).trans e4).trans (Ex.new hr)) upd_same⟩
/-- tuple(a new list) -/
theorem eu_tupL {xs : List V} (h : EvL te σ H xs) : EvU (tCB (rTupS K) (tCons te tNil)) σ H xs := fun H1 e Q q =>
  h H1 e _ fun p H2 n e2 hp => ⟨p, xs, rfl, .inl ⟨sq_of hp, fun l hl => q l _ (fresh_back e2 hl) (e2.trans (Ex.new hl)) upd_same⟩⟩
theorem cut_drop {xs : List V} {t : Nat} (h : t ≤ xs.length) : cutV xs (some (t : Int)) none = xs.drop t := by
  have e1 : HT.sIx xs.length 0 (some (t : Int)) = t := by
    unfold HT.sIx
    simp only []
    split <;> omega
  have e2 : HT.sIx xs.length xs.length none = xs.length := rfl
  unfold cutV
  rw [e1, e2]
  exact List.take_of_length_le (by rw [List.length_drop]; omega)
theorem cut_take {xs : List V} {t : Nat} (h : t ≤ xs.length) : cutV xs none (some (t : Int)) = xs.take t := by
  have e1 : HT.sIx xs.length xs.length (some (t : Int)) = t := by
    unfold HT.sIx
    simp only []
    split <;> omega
  have e2 : HT.sIx xs.length 0 none = 0 := rfl
  unfold cutV
  rw [e1, e2]
  simp
end
end OR
set_option Elab.async false
set_option linter.all false
set_option maxRecDepth 100000
set_option maxHeartbeats 4000000
/-! RZ: an error with one field raised from a grown heap; what the functions on rings promise. -/
namespace OR
open PySem PySem.Calls PySem.Spec PyProof.Rows L2 Evl
def Rz (C : Addr) (fs : List (Str × V)) (H : Hp) (E : XK) : Prop := ∀ dd H1, Ex H H1 → H1 dd = none → E (.ref C) (some dd) (upd H1 dd (.xd fs))
theorem Rz.ex {C : Addr} {fs : List (Str × V)} {H H' : Hp} {E : XK} (e : Ex H H') (h : Rz C fs H E) : Rz C fs H' E := fun dd H1 e1 n => h dd H1 (e.trans e1) n
def isWay : PyData → Bool
  | .str x => decide (x = "plain" ∨ x = "stones" ∨ x = "sorted")
  | _ => false
theorem eqV_s (a b : Str) : eqV (V.str a) (V.str b) = decide (b = a) := by
  show (a == b) = decide (b = a)
  rw [Bool.eq_iff_iff, decide_eq_true_iff, beq_iff_eq]
  exact eq_comm
def waysV : List V := [.str "plain", .str "stones", .str "sorted"]
section
variable (K : PySem.W.Frag)
def spNeedRing (C : Addr) : Sp := fun vs H Q E => ∃ v d, vs = [v] ∧ Dq K H v d ∧ topLen d ≤ 50000 ∧ (isRing d = true → ∀ H', Ex H H' → Q .non H') ∧ (isRing d = false → Rz C [("ring", v)] H E)
def spNeedWay (C : Addr) : Sp := fun vs H Q E => ∃ v d, vs = [v] ∧ Dq K H v d ∧ (isWay d = true → ∀ H', Ex H H' → Q .non H') ∧ (isWay d = false → Rz C [("way", v)] H E)
def spIsLawful (CR CW : Addr) : Sp := fun vs H Q E => ∃ v u d e, vs = [v, u] ∧ Dq K H v d ∧ Dq K H u e ∧ topLen d ≤ 50000 ∧ (isRing d = false → Rz CR [("ring", v)] H E) ∧ (isRing d = true → isWay e = false → Rz CW [("way", u)] H E) ∧
  ∀ rows way, d = .tuple (rows.map Row.toD) → Ring rows → e = .str way → isWay e = true → ∀ H', Ex H H' → Q (.bl (hasLaw rows way)) H'
def spHome : Sp := fun vs H Q _ => ∃ v k h m n, vs = [v, .int n] ∧ Dp K H v (Row.toD (.it k h m)) ∧ 0 < n ∧ ∀ H', Ex H H' → Q (.int (h % n)) H'
def spDist : Sp := fun vs H Q _ => ∃ a b n, vs = [.int a, .int b, .int n] ∧ 0 < n ∧ ∀ H', Ex H H' → Q (.int (dist a b n)) H'
def spLeans : Sp := fun vs H Q _ => ∃ a p rows, vs = [.ref a, .int ((p : Nat) : Int)] ∧ RowsAt K H a rows ∧ p < rows.length ∧ (rowAt rows p).isIt = true ∧ ∀ H', Ex H H' → Q (.int (leans rows p)) H'
def spReaches : Sp := fun vs H Q _ => ∃ a p rows, vs = [.ref a, .int ((p : Nat) : Int)] ∧ RowsAt K H a rows ∧ p < rows.length ∧ rows.length ≤ 50000 ∧ (rowAt rows p).isIt = true ∧ ∀ H', Ex H H' → Q (.bl (reaches rows p)) H'
def spRises : Sp := fun vs H Q _ => ∃ a p rows, vs = [.ref a, .int ((p : Nat) : Int)] ∧ RowsAt K H a rows ∧ p < rows.length ∧ ∀ H', Ex H H' → Q (.bl (rises rows p)) H'
def spHasLaw : Sp := fun vs H Q _ => ∃ a way rows, vs = [.ref a, .str way] ∧ RowsAt K H a rows ∧ rows.length ≤ 50000 ∧ ∀ H', Ex H H' → Q (.bl (hasLaw rows way)) H'
end
section
variable {K : PySem.W.Frag} {H : Hp}
theorem pure_Home {v : V} {k h m n : Int} (hd : Dp K H v (Row.toD (.it k h m))) (hn : 0 < n) : Pure (spHome K) [v, .int n] H (.int (h % n)) := fun Q E q => ⟨v, k, h, m, n, rfl, hd, hn, q⟩
theorem pure_Dist {a b n : Int} (hn : 0 < n) : Pure spDist [.int a, .int b, .int n] H (.int (dist a b n)) := fun Q E q => ⟨a, b, n, rfl, hn, q⟩
theorem pure_Leans {a : Addr} {p : Nat} {rows : List Row} (h : RowsAt K H a rows) (hp : p < rows.length) (hi : (rowAt rows p).isIt = true) : Pure (spLeans K) [.ref a, .int (p : Int)] H (.int (leans rows p)) := fun Q E q => ⟨a, p, rows, rfl, h, hp, hi, q⟩
theorem pure_Reaches {a : Addr} {p : Nat} {rows : List Row} (h : RowsAt K H a rows) (hp : p < rows.length) (hl : rows.length ≤ 50000) (hi : (rowAt rows p).isIt = true) : Pure (spReaches K) [.ref a, .int (p : Int)] H (.bl (reaches rows p)) := fun Q E q => ⟨a, p, rows, rfl, h, hp, hl, hi, q⟩
theorem pure_Rises {a : Addr} {p : Nat} {rows : List Row} (h : RowsAt K H a rows) (hp : p < rows.length) : Pure (spRises K) [.ref a, .int (p : Int)] H (.bl (rises rows p)) := fun Q E q => ⟨a, p, rows, rfl, h, hp, q⟩
theorem pure_HasLaw {a : Addr} {way : Str} {rows : List Row} (h : RowsAt K H a rows) (hl : rows.length ≤ 50000) : Pure (spHasLaw K) [.ref a, .str way] H (.bl (hasLaw rows way)) := fun Q E q => ⟨a, way, rows, rfl, h, hl, q⟩
/-- a ring's rows, of a tuple's items -/
theorem rows_of {H : Hp} : ∀ {rows : List Row} {xs : List V}, All2 (fun d v => Dp K H v d) (rows.map Row.toD) xs → All2 (fun r v => Dp K H v (Row.toD r)) rows xs
  | [], _, h => by cases h; exact .nil
  | r :: rs, _, h => by cases h with | cons a b => exact .cons a (rows_of b)
theorem rows_to {H : Hp} : ∀ {rows : List Row} {xs : List V}, All2 (fun r v => Dp K H v (Row.toD r)) rows xs → All2 (fun d v => Dp K H v d) (rows.map Row.toD) xs
  | [], _, h => by cases h; exact .nil
  | r :: rs, _, h => by cases h with | cons a b => exact .cons a (rows_to b)
theorem dq_rows {v : V} {rows : List Row} (h : Dq K H v (.tuple (rows.map Row.toD))) : ∃ a xs, v = .ref a ∧ SqT K H a xs ∧ All2 (fun r v => Dp K H v (Row.toD r)) rows xs := by
  obtain ⟨a, xs, rfl, hx, hall⟩ := dq_tup h
  exact ⟨a, xs, rfl, hx, rows_of hall⟩
/-- the row at p, as a value -/
theorem RowsAt.get {a : Addr} {rows : List Row} (h : RowsAt K H a rows) {p : Nat} (hp : p < rows.length) : ∃ xs v, SqS K H a xs ∧ xs.length = rows.length ∧ xs[p]? = some v ∧ Dp K H v (rowAt rows p).toD := by
  obtain ⟨xs, hs, hall⟩ := h
  obtain ⟨v, hv, hd⟩ := hall.get (List.getElem?_eq_getElem hp)
  have e : rowAt rows p = rows[p] := by simp [rowAt, List.getD_eq_getElem?_getD, hp]
  exact ⟨xs, v, hs, hall.len, hv, by rw [e]; exact hd⟩
theorem RowsAt.seq {a : Addr} {rows : List Row} (h : RowsAt K H a rows) : ∃ xs, SqS K H a xs ∧ xs.length = rows.length := by
  obtain ⟨xs, hs, hall⟩ := h
  exact ⟨xs, hs, hall.len⟩
theorem isIt_it {r : Row} (h : r.isIt = true) : ∃ k, ∃ m, r = .it k r.hash m := by
  cases r with
  | it k hh m => exact ⟨k, m, rfl⟩
  | _ => cases h
theorem row_non_dec {v : V} {r : Row} (h : Dp K H v r.toD) : decide (v = .non) = decide (r = .non) := by
  cases r <;> cases h <;> simp
theorem leans_lt {rows : List Row} {p : Nat} (h : 0 < rows.length) : 0 ≤ leans rows p ∧ leans rows p < rows.length := ⟨Int.emod_nonneg _ (by omega), Int.emod_lt_of_pos _ (by omega)⟩
end
end OR
set_option Elab.async false
set_option linter.all false
set_option maxRecDepth 100000
set_option maxHeartbeats 4000000
/-! RP: plain facts on rings (no program in sight): runs, reaching by steps from the home, seating. -/
namespace OR
open PySem PySem.Calls PySem.Spec PyProof.Rows L2 Evl
theorem mod2 {a n : Nat} (h : a < 2 * n) : a % n = if a < n then a else a - n := by
  split
  · rename_i h1
    exact Nat.mod_eq_of_lt h1
  · rename_i h1
    rw [Nat.mod_eq_sub_mod (by omega)]
    exact Nat.mod_eq_of_lt (by omega)
theorem imod {a n : Int} (h0 : -n ≤ a) (h1 : a < n) : a % n = if a < 0 then a + n else a := by
  split
  · rename_i h
    rw [← Int.add_emod_right]
    exact Int.emod_eq_of_lt (by omega) (by omega)
  · rename_i h
    exact Int.emod_eq_of_lt (by omega) h1
/-- from h on to p, in a ring of n -/
def dN (h p n : Nat) : Nat := if h ≤ p then p - h else p + n - h
theorem dN_lt {h p n : Nat} (hh : h < n) (hp : p < n) : dN h p n < n := by unfold dN; split <;> omega
theorem dN_walk {h p n : Nat} (hh : h < n) (hp : p < n) : (h + dN h p n) % n = p := by
  unfold dN
  split
  · rw [mod2 (by omega), if_pos (by omega)]; omega
  · rw [mod2 (by omega), if_neg (by omega)]; omega
theorem dN_uni {h p n j : Nat} (hh : h < n) (hp : p < n) (hj : j < n) (e : (h + j) % n = p) : j = dN h p n := by
  rw [mod2 (by omega)] at e
  unfold dN
  split at e <;> split <;> omega
theorem dN_int {h p n : Nat} (hh : h < n) (hp : p < n) : dist (h : Int) (p : Int) (n : Int) = (dN h p n : Int) := by
  unfold dist dN
  rw [imod (by omega) (by omega)]
  split <;> split <;> omega
section
variable (rows : List Row)
def homeN (r : Row) (n : Nat) : Nat := (r.hash % n).toNat
theorem homeN_lt {r : Row} {n : Nat} (h : 0 < n) : homeN r n < n := by
  have h1 := Int.emod_nonneg r.hash (b := (n : Int)) (by omega)
  have h2 := Int.emod_lt_of_pos r.hash (b := (n : Int)) (by omega)
  unfold homeN
  omega
theorem homeN_int {r : Row} {n : Nat} (h : 0 < n) : ((homeN r n : Nat) : Int) = r.hash % n := by
  have h1 := Int.emod_nonneg r.hash (b := (n : Int)) (by omega)
  unfold homeN
  omega
/-- how far the item at p leans -/
def leN (p : Nat) : Nat := dN (homeN (rowAt rows p) rows.length) p rows.length
variable {rows}
theorem leans_N {p : Nat} (hp : p < rows.length) : leans rows p = (leN rows p : Int) := by
  unfold leans leN
  rw [← homeN_int (by omega)]
  exact dN_int (homeN_lt (by omega)) hp
theorem reaches_iff {p : Nat} (hp : p < rows.length) : reaches rows p = true ↔ ∀ j, j ≤ leN rows p → rowAt rows ((homeN (rowAt rows p) rows.length + j) % rows.length) ≠ .non := by
  have hh := homeN_lt (r := rowAt rows p) (n := rows.length) (by omega)
  have hw := dN_walk hh hp
  have hd := dN_lt hh hp
  unfold reaches
  rw [leans_N hp, List.all_eq_true]
  have key : ∀ k, k ≤ leN rows p → (((p : Int) - k) % rows.length).toNat = (homeN (rowAt rows p) rows.length + (leN rows p - k)) % rows.length := fun k hk => by
    unfold leN at hk ⊢
    rw [imod (by omega) (by omega), mod2 (by omega)]
    rw [mod2 (by omega)] at hw
    split at hw <;> split <;> split <;> omega
  simp only [Int.toNat_natCast, List.mem_range, Bool.not_eq_true', decide_eq_false_iff_not]
  constructor
  · intro h j hj
    have := h (leN rows p - j) (by omega)
    rw [key _ (by omega)] at this
    rwa [show leN rows p - (leN rows p - j) = j by omega] at this
  · intro h k hk
    rw [key k (by omega)]
    exact h _ (by omega)
theorem rises_iff {p : Nat} (hp : p < rows.length) : rises rows p = true ↔ ((rowAt rows p).isIt = true → (rowAt rows ((p + 1) % rows.length)).isIt = true → leN rows ((p + 1) % rows.length) ≤ leN rows p + 1) := by
  have hq : (p + 1) % rows.length < rows.length := Nat.mod_lt _ (by omega)
  unfold rises
  rw [leans_N hp, leans_N hq]
  cases (rowAt rows p).isIt <;> cases (rowAt rows ((p + 1) % rows.length)).isIt <;> simp
  omega
/-! ### the first empty row -/
def fn (rows : List Row) (p : Nat) : Nat := ((List.range rows.length).find? fun L => decide (rowAt rows ((p + L) % rows.length) = .non)).getD 0
theorem find_least {n : Nat} {f : Nat → Bool} (h : ∃ L, L < n ∧ f L = true) : ∃ L, (List.range n).find? f = some L ∧ L < n ∧ f L = true ∧ ∀ j, j < L → f j = false := by
  cases e : (List.range n).find? f with
  | none =>
    obtain ⟨L, h1, h2⟩ := h
    have := List.find?_eq_none.mp e L (List.mem_range.mpr h1)
    exact absurd h2 this
  | some L =>
    obtain ⟨h1, as, bs, h2, h3⟩ := List.find?_eq_some_iff_append.mp e
    have hl : as.length = L := by
      have q : (List.range n)[as.length]? = some L := by rw [h2]; simp
      have := (List.getElem?_eq_some_iff.mp q).2
      simpa using this
    refine ⟨L, rfl, ?_, h1, fun j hj => ?_⟩
    · have : as.length < (List.range n).length := by rw [h2]; simp
      simpa [hl] using this
    · have hm : j ∈ as := by
        have q : as[j]? = (List.range n)[j]? := by rw [h2, List.getElem?_append_left (by omega)]
        have q2 : (List.range n)[j]? = some j := by
          have hn : as.length < n := by
            have : as.length < (List.range n).length := by rw [h2]; simp
            simpa using this
          exact List.getElem?_range (by omega)
        exact List.mem_of_getElem? (q.trans q2)
      simpa using h3 j hm
theorem fn_spec {p : Nat} (hp : p < rows.length) (h : .non ∈ rows) : fn rows p < rows.length ∧ rowAt rows ((p + fn rows p) % rows.length) = .non ∧ ∀ L, L < fn rows p → rowAt rows ((p + L) % rows.length) ≠ .non := by
  obtain ⟨q, hq, e⟩ := List.mem_iff_getElem.mp h
  have ex : ∃ L, L < rows.length ∧ decide (rowAt rows ((p + L) % rows.length) = .non) = true := by
    refine ⟨dN p q rows.length, dN_lt hp hq, ?_⟩
    rw [dN_walk hp hq]
    simp [rowAt, List.getD_eq_getElem?_getD, hq, e]
  obtain ⟨L, h1, h2, h3, h4⟩ := find_least ex
  have e : fn rows p = L := by unfold fn; rw [h1]; rfl
  rw [e]
  exact ⟨h2, of_decide_eq_true h3, fun j hj => of_decide_eq_false (h4 j hj)⟩
theorem fn_is {p L : Nat} (hp : p < rows.length) (hL : L < rows.length) (h1 : rowAt rows ((p + L) % rows.length) = .non) (h2 : ∀ j, j < L → rowAt rows ((p + j) % rows.length) ≠ .non) : fn rows p = L := by
  obtain ⟨L', g1, g2, g3, g4⟩ := find_least (n := rows.length) (f := fun L => decide (rowAt rows ((p + L) % rows.length) = .non)) ⟨L, hL, decide_eq_true h1⟩
  have e : fn rows p = L' := by unfold fn; rw [g1]; rfl
  rw [e]
  rcases Nat.lt_trichotomy L' L with h | h | h
  · exact absurd (of_decide_eq_true g3) (h2 L' h)
  · exact h
  · exact absurd h1 (of_decide_eq_false (g4 L h))
theorem add_mod_step {p n L : Nat} (hp : p < n) : ((p + 1) % n + L) % n = (p + (L + 1)) % n := by
  rw [Nat.mod_add_mod]
  congr 1
  omega
theorem fn_succ {p : Nat} (hp : p < rows.length) (h : .non ∈ rows) (hr : rowAt rows p ≠ .non) : fn rows p = fn rows ((p + 1) % rows.length) + 1 := by
  have hq : (p + 1) % rows.length < rows.length := Nat.mod_lt _ (by omega)
  obtain ⟨a1, a2, a3⟩ := fn_spec hp h
  have hne : fn rows p ≠ 0 := fun z => by
    rw [z, Nat.add_zero, Nat.mod_eq_of_lt hp] at a2
    exact hr a2
  obtain ⟨L, hL⟩ : ∃ L, fn rows p = L + 1 := ⟨fn rows p - 1, by omega⟩
  rw [hL] at a1 a2 a3 ⊢
  congr 1
  symm
  refine fn_is hq (by omega) (by rw [add_mod_step hp]; exact a2) fun j hj => ?_
  rw [add_mod_step hp]
  exact a3 (j + 1) (by omega)
theorem fn_congr {rows' : List Row} (hl : rows'.length = rows.length) (h : ∀ q, q < rows.length → (rowAt rows' q = .non ↔ rowAt rows q = .non)) (p : Nat) (hp : p < rows.length) : fn rows' p = fn rows p := by
  unfold fn
  rw [hl]
  congr 1
  congr 1
  funext L
  exact decide_eq_decide.mpr (h _ (Nat.mod_lt _ (by omega)))
/-! ### runs -/
def runsP (rows : List Row) : List Nat := (List.range rows.length).filter fun p => !decide (rowAt rows p = .non) && decide (rowAt rows ((p + (rows.length - 1)) % rows.length) = .non)
def runsM (rows : List Row) : List PyData := (runsP rows).map fun p => .tuple [.int (p : Nat), .int (fn rows p : Nat)]
/-! ### seating -/
def seatGo : Nat → List Row → Row → Nat → List Row
  | 0, rows, _, _ => rows
  | k + 1, rows, it, p => if rowAt rows p = .non then rows.set p it else
      if leN rows p < dN (homeN it rows.length) p rows.length then seatGo k (rows.set p it) (rowAt rows p) ((p + 1) % rows.length) else seatGo k rows it ((p + 1) % rows.length)
def seatM (rows : List Row) (it : Row) : List Row := seatGo rows.length rows it (homeN it rows.length)
theorem rowAt_set {p q : Nat} {r : Row} (hp : p < rows.length) : rowAt (rows.set p r) q = if q = p then r else rowAt rows q := by
  unfold rowAt
  simp only [List.getD_eq_getElem?_getD, List.getElem?_set]
  by_cases h : q = p
  · subst h; simp [hp]
  · simp [h, Ne.symm h]
/-- what holds of rows whose items stand by the further-from-home rule -/
structure Rh (rows : List Row) : Prop where
  reach : ∀ p, p < rows.length → (rowAt rows p).isIt = true → ∀ j, j ≤ leN rows p → rowAt rows ((homeN (rowAt rows p) rows.length + j) % rows.length) ≠ .non
  rise : ∀ p, p < rows.length → (rowAt rows p).isIt = true → (rowAt rows ((p + 1) % rows.length)).isIt = true → leN rows ((p + 1) % rows.length) ≤ leN rows p + 1
  no : ∀ p, p < rows.length → rowAt rows p ≠ .sto
/-- the item it is carried to p -/
structure Car (rows : List Row) (it : Row) (p : Nat) : Prop where
  isIt : it.isIt = true
  hp : p < rows.length
  way : ∀ j, j < dN (homeN it rows.length) p rows.length → rowAt rows ((homeN it rows.length + j) % rows.length) ≠ .non
  step : ∀ q, q < rows.length → (q + 1) % rows.length = p → (rowAt rows q).isIt = true → dN (homeN it rows.length) p rows.length ≤ leN rows q + 1
theorem rows_it {r : Row} (h1 : r ≠ .non) (h2 : r ≠ .sto) : r.isIt = true := by
  cases r with
  | non => exact absurd rfl h1
  | sto => exact absurd rfl h2
  | it => rfl
theorem it_ne {r : Row} (h : r.isIt = true) : r ≠ .non := fun z => by rw [z] at h; cases h
theorem len_set {p : Nat} {r : Row} : (rows.set p r).length = rows.length := List.length_set ..
/-- one step on, unless the ring is full -/
theorem dN_next {h p n : Nat} (hh : h < n) (hp : p < n) (hne : (p + 1) % n ≠ h) : dN h ((p + 1) % n) n = dN h p n + 1 := by
  rw [mod2 (by omega)] at hne ⊢
  unfold dN
  split at hne <;> rename_i h1
  · rw [if_pos h1]; split <;> split <;> omega
  · rw [if_neg h1]; split <;> split <;> omega
theorem dN_self {h n : Nat} : dN h h n = 0 := by unfold dN; simp
theorem next_inj {p q n : Nat} (hp : p < n) (hq : q < n) (e : (p + 1) % n = (q + 1) % n) : p = q := by
  rw [mod2 (by omega), mod2 (by omega)] at e
  split at e <;> split at e <;> omega
/-- an empty row, somewhere -/
theorem non_at (h : .non ∈ rows) : ∃ q, q < rows.length ∧ rowAt rows q = .non := by
  obtain ⟨q, hq, e⟩ := List.mem_iff_getElem.mp h
  exact ⟨q, hq, by simp [rowAt, List.getD_eq_getElem?_getD, hq, e]⟩
/-- a way over rows that are held does not come round -/
theorem way_short {h d : Nat} (hh : h < rows.length) (hn : .non ∈ rows) (hw : ∀ j, j ≤ d → rowAt rows ((h + j) % rows.length) ≠ .non) : d + 1 < rows.length := by
  obtain ⟨q, hq, e⟩ := non_at hn
  have h1 := dN_lt hh hq
  have h2 := dN_walk hh hq
  rcases Nat.lt_or_ge d (dN h q rows.length) with h3 | h3
  · omega
  · exact absurd (by rw [h2]; exact e) (hw _ h3)
theorem mem_at {q : Nat} (hq : q < rows.length) : rowAt rows q ∈ rows := by
  have : rowAt rows q = rows[q] := by simp [rowAt, List.getD_eq_getElem?_getD, hq]
  rw [this]
  exact List.getElem_mem hq
theorem rh_set {it : Row} {p : Nat} (R : Rh rows) (C : Car rows it p) (hd : leN rows p < dN (homeN it rows.length) p rows.length ∨ rowAt rows p = .non) : Rh (rows.set p it) := by
  have hp := C.hp
  have hl : (rows.set p it).length = rows.length := len_set
  have n0 : 0 < rows.length := by omega
  have hit := it_ne C.isIt
  have at1 : rowAt (rows.set p it) p = it := by rw [rowAt_set hp, if_pos rfl]
  have at2 : ∀ q, q ≠ p → rowAt (rows.set p it) q = rowAt rows q := fun q hq => by rw [rowAt_set hp, if_neg hq]
  have non' : ∀ q, rowAt (rows.set p it) q = .non → rowAt rows q = .non := fun q e => by
    rw [rowAt_set hp] at e
    split at e
    · exact absurd e hit
    · exact e
  have leSelf : leN (rows.set p it) p = dN (homeN it rows.length) p rows.length := by
    unfold leN
    rw [hl, rowAt_set hp, if_pos rfl]
  have leOth : ∀ q, q ≠ p → leN (rows.set p it) q = leN rows q := fun q hq => by
    unfold leN
    rw [hl, rowAt_set hp, if_neg hq]
  refine ⟨fun q hq hi j hj => ?_, fun q hq h1 h2 => ?_, fun q hq => ?_⟩
  · rw [hl] at hq ⊢
    by_cases e : q = p
    · subst e
      rw [leSelf] at hj
      rw [at1]
      intro z
      have z2 := non' _ z
      rcases Nat.lt_or_ge j (dN (homeN it rows.length) q rows.length) with hlt | hge
      · exact C.way j hlt z2
      · have ej : j = dN (homeN it rows.length) q rows.length := by omega
        rw [ej, dN_walk (homeN_lt n0) hq, at1] at z
        exact hit z
    · rw [leOth q e] at hj
      rw [at2 q e] at hi ⊢
      exact fun z => R.reach q hq hi j hj (non' _ z)
  · rw [hl] at hq h2 ⊢
    have hq1 : (q + 1) % rows.length < rows.length := Nat.mod_lt _ n0
    by_cases e : q = p
    · subst e
      by_cases e2 : (q + 1) % rows.length = q
      · rw [e2, leSelf]; omega
      · rw [rowAt_set hp, if_neg e2] at h2
        rw [leSelf, leOth _ e2]
        rcases hd with hd | hd
        · rcases Classical.em ((rowAt rows q).isIt = true) with hi | hi
          · have := R.rise q hq hi h2
            omega
          · have hr : rowAt rows q = .non := Classical.byContradiction fun z => hi (rows_it z (R.no q hq))
            -- the empty row ahead: the next one stands at home
            rcases Nat.eq_zero_or_pos (leN rows ((q + 1) % rows.length)) with z | z
            · omega
            · have hh := homeN_lt (r := rowAt rows ((q + 1) % rows.length)) n0
              have hne : (q + 1) % rows.length ≠ homeN (rowAt rows ((q + 1) % rows.length)) rows.length := fun w => by
                have : leN rows ((q + 1) % rows.length) = 0 := by
                  unfold leN
                  rw [← w, dN_self]
                omega
              have hs := dN_next hh hq hne
              have := R.reach _ hq1 h2 (leN rows ((q + 1) % rows.length) - 1) (by omega)
              have e3 : leN rows ((q + 1) % rows.length) - 1 = dN (homeN (rowAt rows ((q + 1) % rows.length)) rows.length) q rows.length := by
                unfold leN
                omega
              rw [e3, dN_walk hh hq] at this
              exact absurd hr this
        · rcases Nat.eq_zero_or_pos (leN rows ((q + 1) % rows.length)) with z | z
          · omega
          · have hh := homeN_lt (r := rowAt rows ((q + 1) % rows.length)) n0
            have hne : (q + 1) % rows.length ≠ homeN (rowAt rows ((q + 1) % rows.length)) rows.length := fun w => by
              have : leN rows ((q + 1) % rows.length) = 0 := by
                unfold leN
                rw [← w, dN_self]
              omega
            have hs := dN_next hh hq hne
            have := R.reach _ hq1 h2 (leN rows ((q + 1) % rows.length) - 1) (by omega)
            have e3 : leN rows ((q + 1) % rows.length) - 1 = dN (homeN (rowAt rows ((q + 1) % rows.length)) rows.length) q rows.length := by
              unfold leN
              omega
            rw [e3, dN_walk hh hq] at this
            exact absurd hd this
    · rw [rowAt_set hp, if_neg e] at h1
      rw [leOth q e]
      by_cases e2 : (q + 1) % rows.length = p
      · rw [e2, leSelf]
        exact C.step q hq e2 h1
      · rw [rowAt_set hp, if_neg e2] at h2
        rw [leOth _ e2]
        exact R.rise q hq h1 h2
  · rw [hl] at hq
    rw [rowAt_set hp]
    split
    · intro z; rw [z] at C
      exact absurd C.isIt (by decide)
    · exact R.no q hq
/-- on to the next row: the item that was there, or the same one -/
theorem car_next {it : Row} {p : Nat} (R : Rh rows) (hn : .non ∈ rows) (C : Car rows it p) (hr : rowAt rows p ≠ .non) (hd : ¬ leN rows p < dN (homeN it rows.length) p rows.length) : Car rows it ((p + 1) % rows.length) := by
  have hp := C.hp
  have n0 : 0 < rows.length := by omega
  have hh := homeN_lt (r := it) n0
  have hw : ∀ j, j ≤ dN (homeN it rows.length) p rows.length → rowAt rows ((homeN it rows.length + j) % rows.length) ≠ .non := fun j hj => by
    rcases Nat.lt_or_ge j (dN (homeN it rows.length) p rows.length) with h | h
    · exact C.way j h
    · rw [show j = dN (homeN it rows.length) p rows.length by omega, dN_walk hh hp]
      exact hr
  have hs := way_short hh hn hw
  have hne : (p + 1) % rows.length ≠ homeN it rows.length := fun z => by
    have := dN_walk hh hp
    have h2 := dN_lt hh hp
    have h3 := mod2 (a := homeN it rows.length + dN (homeN it rows.length) p rows.length) (n := rows.length) (by omega)
    rw [this] at h3
    rw [mod2 (by omega)] at z
    split at h3 <;> split at z <;> omega
  have e := dN_next hh hp hne
  refine ⟨C.isIt, Nat.mod_lt _ n0, fun j hj => hw j (by omega), fun q hq eq hi => ?_⟩
  have : q = p := next_inj hq hp eq
  subst this
  omega
theorem car_swap {it : Row} {p : Nat} (R : Rh rows) (hn : .non ∈ rows) (C : Car rows it p) (hr : rowAt rows p ≠ .non) (hd : leN rows p < dN (homeN it rows.length) p rows.length) : Car (rows.set p it) (rowAt rows p) ((p + 1) % rows.length) := by
  have hp := C.hp
  have n0 : 0 < rows.length := by omega
  have hi := rows_it hr (R.no p hp)
  have hh := homeN_lt (r := rowAt rows p) n0
  have hl : (rows.set p it).length = rows.length := len_set
  have hw := R.reach p hp hi
  have hs := way_short hh hn hw
  have hne : (p + 1) % rows.length ≠ homeN (rowAt rows p) rows.length := fun z => by
    have := dN_walk hh hp
    have h2 := dN_lt hh hp
    have h3 := mod2 (a := homeN (rowAt rows p) rows.length + dN (homeN (rowAt rows p) rows.length) p rows.length) (n := rows.length) (by omega)
    rw [this] at h3
    rw [mod2 (by omega)] at z
    unfold leN at hs
    split at h3 <;> split at z <;> omega
  have e := dN_next hh hp hne
  have hit := it_ne C.isIt
  refine ⟨hi, by rw [hl]; exact Nat.mod_lt _ n0, fun j hj => ?_, fun q hq eq hi2 => ?_⟩
  · rw [hl] at hj ⊢
    rw [rowAt_set hp]
    split
    · exact hit
    · exact hw j (by unfold leN; omega)
  · rw [hl] at hq eq ⊢
    have : q = p := next_inj hq hp eq
    subst this
    have leSelf : leN (rows.set q it) q = dN (homeN it rows.length) q rows.length := by
      unfold leN
      rw [hl, rowAt_set hp, if_pos rfl]
    rw [leSelf, e]
    unfold leN at hd
    omega
theorem rh_go : ∀ (k : Nat) (rows : List Row) (it : Row) (p : Nat), Rh rows → .non ∈ rows → Car rows it p → fn rows p < k → Rh (seatGo k rows it p) ∧ (seatGo k rows it p).length = rows.length
  | 0, _, _, _, _, _, _, h => absurd h (Nat.not_lt_zero _)
  | k + 1, rows, it, p, R, hn, C, hk => by
    unfold seatGo
    split
    · rename_i h
      exact ⟨rh_set R C (.inr h), len_set⟩
    · rename_i h
      have hf := fn_succ C.hp hn h
      split
      · rename_i h2
        have hn2 : .non ∈ rows.set p it := by
          obtain ⟨q, hq, e⟩ := non_at hn
          have hqp : q ≠ p := fun z => by rw [z] at e; exact h e
          have e2 : rowAt (rows.set p it) q = .non := by rw [rowAt_set C.hp, if_neg hqp]; exact e
          have hq2 : q < (rows.set p it).length := by rw [len_set]; exact hq
          have e3 := mem_at hq2
          rwa [e2] at e3
        have hc : fn (rows.set p it) ((p + 1) % rows.length) = fn rows ((p + 1) % rows.length) := fn_congr len_set (fun q hq => by
          rw [rowAt_set C.hp]
          split
          · rename_i e
            rw [e]
            exact ⟨fun z => absurd z (it_ne C.isIt), fun z => absurd z h⟩
          · exact Iff.rfl) _ (Nat.mod_lt _ (by have := C.hp; omega))
        obtain ⟨r1, r2⟩ := rh_go k (rows.set p it) (rowAt rows p) ((p + 1) % rows.length) (rh_set R C (.inl h2)) hn2 (by have z := car_swap R hn C h h2; exact z) (by omega)
        exact ⟨r1, by rw [r2, len_set]⟩
      · rename_i h2
        exact rh_go k rows it ((p + 1) % rows.length) R hn (car_next R hn C h h2) (by omega)
theorem rh_seat {it : Row} (R : Rh rows) (hn : .non ∈ rows) (hi : it.isIt = true) : Rh (seatM rows it) ∧ (seatM rows it).length = rows.length := by
  have n0 : 0 < rows.length := List.length_pos_of_mem hn
  have hh := homeN_lt (r := it) n0
  refine rh_go _ _ _ _ R hn ⟨hi, hh, fun j hj => ?_, fun q hq e h => ?_⟩ (fn_spec hh hn).1
  · rw [dN_self] at hj; omega
  · rw [dN_self]; omega
end
end OR
set_option Elab.async false
set_option linter.all false
set_option maxRecDepth 100000
set_option maxHeartbeats 4000000
/-! RP2: plain facts on rings: what is placed. -/
namespace OR
open PySem PySem.Calls PySem.Spec PyProof.Rows L2 Evl
theorem set_perm : ∀ {rows : List Row} {p : Nat} {x : Row}, p < rows.length → (rowAt rows p :: rows.set p x).Perm (x :: rows)
  | r :: rows, 0, x, _ => List.Perm.swap ..
  | r :: rows, p + 1, x, h => by
    have ih := set_perm (rows := rows) (p := p) (x := x) (by simpa using h)
    have e : rowAt (r :: rows) (p + 1) = rowAt rows p := rfl
    rw [e, List.set_cons_succ]
    exact (List.Perm.swap ..).trans ((ih.cons r).trans (List.Perm.swap ..))
theorem perm_go : ∀ (k : Nat) (rows : List Row) (it : Row) (p : Nat), .non ∈ rows → it ≠ .non → p < rows.length → fn rows p < k → (.non :: seatGo k rows it p).Perm (it :: rows)
  | 0, _, _, _, _, _, _, h => absurd h (Nat.not_lt_zero _)
  | k + 1, rows, it, p, hn, hi, hp, hk => by
    unfold seatGo
    have hq : (p + 1) % rows.length < rows.length := Nat.mod_lt _ (by omega)
    split
    · rename_i h
      have := set_perm (x := it) hp
      rwa [h] at this
    · rename_i h
      have hf := fn_succ hp hn h
      split
      · have hn2 : .non ∈ rows.set p it := by
          obtain ⟨q, hq, e⟩ := non_at hn
          have hqp : q ≠ p := fun z => by rw [z] at e; exact h e
          have e2 : rowAt (rows.set p it) q = .non := by rw [rowAt_set hp, if_neg hqp]; exact e
          have e3 := mem_at (rows := rows.set p it) (q := q) (by rw [len_set]; exact hq)
          rwa [e2] at e3
        have hc : fn (rows.set p it) ((p + 1) % rows.length) = fn rows ((p + 1) % rows.length) := fn_congr len_set (fun q hq => by
          rw [rowAt_set hp]
          split
          · rename_i e
            rw [e]
            exact ⟨fun z => absurd z hi, fun z => absurd z h⟩
          · exact Iff.rfl) _ hq
        exact (perm_go k (rows.set p it) (rowAt rows p) ((p + 1) % rows.length) hn2 h (by rw [len_set]; exact hq) (by omega)).trans (set_perm hp)
      · exact perm_go k rows it ((p + 1) % rows.length) hn hi hq (by omega)
theorem perm_seat {rows : List Row} {it : Row} (hn : .non ∈ rows) (hi : it ≠ .non) : (.non :: seatM rows it).Perm (it :: rows) := by
  have n0 : 0 < rows.length := List.length_pos_of_mem hn
  exact perm_go _ _ _ _ hn hi (homeN_lt n0) (fn_spec (homeN_lt n0) hn).1
def placedM (many : Nat) (items : List Row) : List Row := items.foldl seatM (List.replicate many .non)
theorem rh_empty (many : Nat) : Rh (List.replicate many .non) := by
  have h : ∀ p, rowAt (List.replicate many .non) p = .non := fun p => by
    unfold rowAt
    simp only [List.getD_eq_getElem?_getD, List.getElem?_replicate]
    split <;> rfl
  refine ⟨fun p _ hi => ?_, fun p _ hi => ?_, fun p _ => ?_⟩
  · rw [h] at hi; cases hi
  · rw [h] at hi; cases hi
  · rw [h]; exact fun z => by cases z
/-- rows on the way: filled by the rule, held by just these items -/
structure Fill (many : Nat) (items rows : List Row) : Prop where
  rh : Rh rows
  len : rows.length = many
  perm : (List.replicate items.length Row.non ++ rows).Perm (items ++ List.replicate many .non)
theorem Fill.it {many : Nat} {items rows : List Row} (F : Fill many items rows) (hi : ∀ r ∈ items, r.isIt = true) : (rows.filter Row.isIt).Perm items := by
  have h := F.perm.filter Row.isIt
  rw [List.filter_append, List.filter_append] at h
  have e : ∀ n, (List.replicate n Row.non).filter Row.isIt = [] := fun n => by
    rw [List.filter_eq_nil_iff]
    intro a ha
    rw [(List.mem_replicate.mp ha).2]
    decide
  rw [e, e, List.nil_append, List.append_nil, List.filter_eq_self.mpr hi] at h
  exact h
theorem Fill.mem {many : Nat} {items rows : List Row} (F : Fill many items rows) {r : Row} (hr : r ∈ rows) : r ∈ items ∨ r = .non := by
  have h := F.perm.subset (List.mem_append_right _ hr)
  rcases List.mem_append.mp h with h | h
  · exact .inl h
  · exact .inr (List.mem_replicate.mp h).2
theorem Fill.non {many : Nat} {items rows : List Row} (F : Fill many items rows) (hi : ∀ r ∈ items, r.isIt = true) (hl : items.length < many) : .non ∈ rows := by
  have h := (F.it hi).length_eq
  have h2 := F.len
  refine Classical.byContradiction fun z => ?_
  have e : rows.filter Row.isIt = rows := List.filter_eq_self.mpr fun r hr => by
    rcases F.mem hr with h | h
    · exact hi r h
    · exact absurd (h ▸ hr) z
  rw [e] at h
  omega
theorem Fill.next {many : Nat} {items rows : List Row} {it : Row} (F : Fill many items rows) (hi : ∀ r ∈ items, r.isIt = true) (hl : items.length < many) (h : it.isIt = true) : Fill many (items ++ [it]) (seatM rows it) := by
  have hn := F.non hi hl
  obtain ⟨r1, r2⟩ := rh_seat F.rh hn h
  refine ⟨r1, by rw [r2, F.len], ?_⟩
  rw [List.length_append, List.length_singleton, List.replicate_succ', List.append_assoc, List.singleton_append]
  have p1 := (perm_seat hn (it_ne h)).append_left (List.replicate items.length Row.non)
  refine p1.trans (List.perm_middle.trans ?_)
  refine (F.perm.cons it).trans ?_
  rw [List.append_assoc, List.singleton_append]
  exact List.perm_middle.symm
theorem fill_empty (many : Nat) : Fill many [] (List.replicate many .non) := ⟨rh_empty many, List.length_replicate .., by simp⟩
theorem rh_law {rows : List Row} (R : Rh rows) (way : Str) : hasLaw rows way = true := by
  have hp : ∀ p ∈ places rows, p < rows.length ∧ (rowAt rows p).isIt = true := fun q hq => by
    obtain ⟨h1, h2⟩ := List.mem_filter.mp hq
    exact ⟨List.mem_range.mp h1, h2⟩
  have h1 : (rows.any fun r => decide (r = .sto)) = false := by
    rw [List.any_eq_false]
    intro r hr
    obtain ⟨q, hq, e⟩ := List.mem_iff_getElem.mp hr
    have := R.no q hq
    have e2 : rowAt rows q = r := by simp [rowAt, List.getD_eq_getElem?_getD, hq, e]
    rw [e2] at this
    simpa using this
  have h2 : (places rows).all (reaches rows) = true := List.all_eq_true.mpr fun p hq => (reaches_iff (hp p hq).1).mpr (R.reach p (hp p hq).1 (hp p hq).2)
  have h3 : (places rows).all (rises rows) = true := List.all_eq_true.mpr fun p hq => (rises_iff (hp p hq).1).mpr (R.rise p (hp p hq).1)
  unfold hasLaw
  rw [h1, h2, h3]
  simp
theorem fill_ring {many : Nat} {items rows : List Row} (F : Fill many items rows) (hi : ∀ r ∈ items, r.isIt = true) (hk : ∀ r ∈ items, r.ok = true) (hn : (items.map Row.key).Nodup) (hl : items.length < many) : Ring rows :=
  ⟨fun r hr => by
    rcases F.mem hr with h | h
    · exact hk r h
    · rw [h]; rfl, F.non hi hl, ((F.it hi).map Row.key).nodup_iff.mpr hn⟩
end OR
set_option Elab.async false
set_option linter.all false
set_option maxRecDepth 100000
set_option maxHeartbeats 4000000
/-! RZ2: what seat, runs, all_items, placed promise. -/
namespace OR
open PySem PySem.Calls PySem.Spec PyProof.Rows L2 Evl
section
variable (K : PySem.W.Frag)
/-- all but what stands at a -/
def ButA (a : Addr) (H H' : Hp) : Prop := ∀ p o, p ≠ a → H p = some o → H' p = some o
def spSeat : Sp := fun vs H Q _ => ∃ a v rows it xs, vs = [.ref a, v] ∧ H a = some (.lst xs) ∧ All2 (fun r v => Dp K H v (Row.toD r)) rows xs ∧ Dp K H v (Row.toD it) ∧ it.isIt = true ∧ (∀ r ∈ rows, r ≠ .sto) ∧ .non ∈ rows ∧
  ∀ H' ys, ButA a H H' → H' a = some (.lst ys) → All2 (fun r v => Dp K H' v (Row.toD r)) (seatM rows it) ys → Q .non H'
def spRuns (C : Addr) : Sp := fun vs H Q E => ∃ v d, vs = [v] ∧ Dq K H v d ∧ topLen d ≤ 50000 ∧ (isRing d = false → Rz C [("ring", v)] H E) ∧
  ∀ rows, d = .tuple (rows.map Row.toD) → Ring rows → ∀ p H' ws, H p = none → Ex H H' → H' p = some (.lst ws) → All2 (fun d v => Dp K H' v d) (runsM rows) ws → Q (.ref p) H'
/-- the items of a ring, in a new tuple -/
def spItems (C : Addr) : Sp := fun vs H Q E => ∃ v d, vs = [v] ∧ Dq K H v d ∧ topLen d ≤ 50000 ∧ (isRing d = false → Rz C [("ring", v)] H E) ∧
  ∀ rows, d = .tuple (rows.map Row.toD) → Ring rows → ∀ p H' ws, H p = none → Ex H H' → H' p = some (.tup ws) → All2 (fun r v => Dp K H' v (Row.toD r)) (rows.filter Row.isIt) ws → Q (.ref p) H'
def isItems : PyData → Bool
  | .list ds => ds.all isItem
  | .tuple ds => ds.all isItem
  | _ => false
def spPlaced (CR CW : Addr) : Sp := fun vs H Q E => ∃ v n u d e d2, vs = [v, n, u] ∧ Dq K H v d ∧ topLen d ≤ 20000 ∧ Dq K H n e ∧ Dq K H u d2 ∧ (∀ m, e = .int m → m ≤ 50000) ∧ (isItems d = false → Rz CR [("ring", v)] H E) ∧
  ∀ its : List Row, (d = .list (its.map Row.toD) ∨ d = .tuple (its.map Row.toD)) → (∀ r ∈ its, r.isIt = true ∧ r.ok = true) →
    ((¬ (its.map Row.key).Nodup ∨ isWhole e = false ∨ ∃ m, e = .int m ∧ m ≤ its.length) → Rz CR [("ring", v)] H E) ∧
    ∀ m : Nat, e = .int m → its.length < m → (its.map Row.key).Nodup → (isWay d2 = false → Rz CW [("way", u)] H E) ∧
      (isWay d2 = true → ∀ p H' rows ws, H p = none → Ex H H' → H' p = some (.tup ws) → All2 (fun r v => Dp K H' v (Row.toD r)) rows ws → Fill m its rows → Q (.ref p) H')
end
section
variable {K : PySem.W.Frag} {H : Hp}
theorem isItem_row {d : PyData} (h : isItem d = true) : ∃ r : Row, d = r.toD ∧ r.isIt = true ∧ r.ok = true := by
  unfold isItem at h
  split at h
  · exact ⟨.it _ _ _, rfl, rfl, h⟩
  · cases h
theorem items_rows : ∀ {ds : List PyData}, ds.all isItem = true → ∃ its : List Row, ds = its.map Row.toD ∧ ∀ r ∈ its, r.isIt = true ∧ r.ok = true
  | [], _ => ⟨[], rfl, by simp⟩
  | d :: ds, h => by
    rw [List.all_cons, Bool.and_eq_true] at h
    obtain ⟨r, e, o⟩ := isItem_row h.1
    obtain ⟨rs, e2, o2⟩ := items_rows h.2
    exact ⟨r :: rs, by rw [e, e2]; rfl, fun x hx => by
      rcases List.mem_cons.mp hx with rfl | hx
      · exact o
      · exact o2 x hx⟩
theorem atI_pred {α : Type} {xs : List α} {p : Nat} {v : α} (hp : p < xs.length) (h : xs[(p + (xs.length - 1)) % xs.length]? = some v) : atI xs ((p : Int) - 1) = some v := by
  rw [mod2 (by omega)] at h
  unfold atI ixN
  by_cases h0 : p = 0
  · subst h0
    rw [if_pos (by omega)] at h
    rw [if_neg (by omega), if_pos (by omega)]
    show xs[((((0 : Nat) : Int) - 1 + (xs.length : Int))).toNat]? = some v
    rw [show (((0 : Nat) : Int) - 1 + (xs.length : Int)).toNat = 0 + (xs.length - 1) by omega]
    exact h
  · rw [if_neg (by omega)] at h
    rw [if_pos (by omega), if_pos (by omega)]
    show xs[((p : Int) - 1).toNat]? = some v
    rw [show ((p : Int) - 1).toNat = p + (xs.length - 1) - xs.length by omega]
    exact h
/-- pairs of numbers in a list that grows: they hang on nothing else -/
def PairsAt (l : Addr) (H : Hp) (ps : List (Nat × Nat)) (ws : List V) : Prop := All2 (fun (p : Nat × Nat) v => ∃ T, v = .ref T ∧ T ≠ l ∧ H T = some (.tup [.int (p.1 : Nat), .int (p.2 : Nat)])) ps ws
theorem PairsAt.ex {l : Addr} {H H' : Hp} {ps : List (Nat × Nat)} {ws : List V} (e : ∀ q o, q ≠ l → H q = some o → H' q = some o) (h : PairsAt l H ps ws) : PairsAt l H' ps ws := h.imp fun _ _ _ ⟨T, a, b, c⟩ => ⟨T, a, b, e _ _ b c⟩
theorem PairsAt.dp {l : Addr} {H : Hp} {ps : List (Nat × Nat)} {ws : List V} (h : PairsAt l H ps ws) : All2 (fun d v => Dp K H v d) (ps.map fun p => PyData.tuple [.int (p.1 : Nat), .int (p.2 : Nat)]) ws := by
  unfold PairsAt at h
  induction h with
  | nil => exact .nil
  | cons h1 _ ih =>
    obtain ⟨T, rfl, _, hT⟩ := h1
    exact .cons (.tup (SqT.of hT) (.cons (.int _) (.cons (.int _) .nil))) ih
theorem ButA.refl {a : Addr} {H : Hp} : ButA a H H := fun _ _ _ h => h
theorem ButA.trans {a : Addr} {H H1 H2 : Hp} (x : ButA a H H1) (y : ButA a H1 H2) : ButA a H H2 := fun p o n h => y p o n (x p o n h)
theorem ButA.of {a : Addr} {H H' : Hp} (e : Ex H H') : ButA a H H' := fun p o _ h => e p o h
theorem ButA.upd {a : Addr} {H : Hp} {o : HO} : ButA a H (upd H a o) := fun p u n h => by rw [upd_ne n]; exact h
theorem ints_but {a : Addr} {xs : List V} {H H' : Hp} (ha : H a = some (.lst xs)) (b : ButA a H H') {v : V} {ns : List Int} (h : Dp K H v (.tuple (ns.map PyData.int))) : Dp K H' v (.tuple (ns.map PyData.int)) := by
  cases h with
  | tup hs hd =>
    rename_i b' ys
    refine .tup (xs := ys) ?_ ?_
    · rcases hs with (h | ⟨o, h⟩) | h
      · exact .inl (.inl (b _ _ (fun z => by rw [z, ha] at h; cases h) h))
      · exact .inl (.inr ⟨o, b _ _ (fun z => by rw [z, ha] at h; cases h) h⟩)
      · exact .inr h
    · clear hs
      induction ns generalizing ys with
      | nil => cases hd; exact .nil
      | cons n ns ih =>
        cases hd with
        | cons h1 h2 =>
          cases h1
          exact .cons (.int n) (ih h2)
theorem all2_set {α β : Type} {R S : α → β → Prop} {a : α} {b : β} (k : ∀ a b, a ∈ ([] : List α) ∨ True → R a b → S a b) : ∀ {as : List α} {bs : List β} {p : Nat}, All2 R as bs → S a b → All2 S (as.set p a) (bs.set p b)
  | _, _, _, .nil, _ => .nil
  | _, _, 0, .cons h1 h2, q => .cons q (h2.imp fun a b _ z => k a b (.inr trivial) z)
  | _, _, p + 1, .cons h1 h2, q => .cons (k _ _ (.inr trivial) h1) (all2_set k h2 q)
theorem row_but {a : Addr} {xs : List V} {H H' : Hp} (ha : H a = some (.lst xs)) (b : ButA a H H') {v : V} {r : Row} (h : Dp K H v r.toD) : Dp K H' v r.toD := by
  cases r with
  | non => cases h; exact .non
  | sto => cases h; exact .str _
  | it k hh m => exact ints_but ha b (ns := [k, hh, m]) h
end
end OR
set_option Elab.async false
set_option linter.all false
set_option maxRecDepth 100000
set_option maxHeartbeats 4000000
namespace K40
open PySem PySem.Calls PySem.Spec PyProof.Rows L2 OR Evl
def top (i : Nat) : Stmt := PySem.Challenge.pw_openrings_k40_rings_told.main.body.getD i (.Pass ⟨0, 0, 0, 0⟩)
section
variable {P : Program} {w : World} {K : PySem.W.Frag} {mg : Str → Option Value} {base : Heap} {f : Addr} {fd : FuncData}
abbrev s_is_whole : Stmt := top 7
theorem sc_is_whole : FnScope ["value"] ["value"] (defScope s_is_whole) := ⟨rfl, rfl, rfl, by decide +kernel, rfl, by decide +kernel, by decide +kernel⟩
theorem ok_is_whole (F : Fun K "is_whole" "is_whole" s_is_whole f fd) (B : Bi mg) : FnOk P w K mg base CX0 1 f fd ["value"] (spB1 K isWhole) := by
  refine F.ok sc_is_whole (fun vs H Q E h => ?_) (fun cdv A outer s H vs Q E hr h => ?_)
  · obtain ⟨v, d, rfl, _⟩ := h
    rfl
  · obtain ⟨v, d, rfl, hd, q⟩ := h
    refine ⟨_, (pss_one (ps_ret (pe_and (pe_callB (isiS K) (by rfl) B.mg_isinstance (by decide +kernel) (pa_cons (pv 0) (pa_cons (pe_ty (T := "int") B.mg_int) pa_nil))) (pe_one (pe_not (pe_callB (isiS K) (by rfl) B.mg_isinstance (by decide +kernel) (pa_cons (pv 0) (pa_cons (pe_ty (T := "bool") B.mg_bool) pa_nil)))))))), ?_⟩
    refine s_ret (ev_andV (ev_isi (ev_var rfl) hd) fun _ => ev_notV (ev_isi (ev_var rfl) hd)) fun H1 e => ?_
    rw [isWhole_inst]
    exact q H1 e
abbrev s_is_stone : Stmt := top 9
theorem sc_is_stone : FnScope ["row"] ["row"] (defScope s_is_stone) := ⟨rfl, rfl, rfl, by decide +kernel, rfl, by decide +kernel, by decide +kernel⟩
theorem ok_is_stone (F : Fun K "is_stone" "is_stone" s_is_stone f fd) (B : Bi mg) (g_STONE : ∃ t, mg "STONE" = some (.str "stone" t)) : FnOk P w K mg base CX0 1 f fd ["row"] (spB1 K isStone) := by
  refine F.ok sc_is_stone (fun vs H Q E h => ?_) (fun cdv A outer s H vs Q E hr h => ?_)
  · obtain ⟨v, d, rfl, _⟩ := h
    rfl
  · obtain ⟨v, d, rfl, hd, q⟩ := h
    refine ⟨_, (pss_one (ps_ret (pe_and (pe_callB (isiS K) (by rfl) B.mg_isinstance (by decide +kernel) (pa_cons (pv 0) (pa_cons (pe_ty (T := "str") B.mg_str) pa_nil))) (pe_one (pe_cmpR op_eq (pv 0) (pe_gs g_STONE) (nomark _)))))), ?_⟩
    refine s_ret (ev_andV (b := isStone d) (ev_isi (ev_var rfl) hd) fun h => ?_) fun H1 e => ?_
    · cases d with
      | str x =>
        cases hd with
        | d hd =>
          cases hd
          refine ev_is (ev_op (ev_var rfl) ev_c (rv_eq rfl)) ?_
          simp [isStone]
      | _ => cases h
    · have e1 : (inst "str" d && isStone d) = isStone d := by cases d <;> rfl
      rw [e1]
      exact q H1 e
abbrev s_is_item : Stmt := top 8
theorem sc_is_item : FnScope ["value", "part"] ["value"] (defScope s_is_item) := ⟨rfl, rfl, rfl, by decide +kernel, rfl, by decide +kernel, by decide +kernel⟩
theorem ok_is_item (F : Fun K "is_item" "is_item" s_is_item f fd) (B : Bi mg) (C_is_whole : Cal P w K mg base CX0 1 "is_whole" ["value"] (spB1 K isWhole)) : FnOk P w K mg base CX0 2 f fd ["value"] (spB1 K isItem) := by
  refine F.ok sc_is_item (fun vs H Q E h => ?_) (fun cdv A outer s H vs Q E hr h => ?_)
  · obtain ⟨v, d, rfl, _⟩ := h
    rfl
  · obtain ⟨v, d, rfl, hd, q⟩ := h
    refine ⟨_, (pss_cons (ps_if (PW.pt (pw_or (pt_not (pt_val (pe_callB (isiS K) (by rfl) B.mg_isinstance (by decide +kernel) (pa_cons (pv 0) (pa_cons (pe_ty (T := "tuple") B.mg_tuple) pa_nil))))) (pw_or (pt_cmpR op_ne (pe_callB (lenS K) (by rfl) B.mg_len PySem.boot_len (pa_cons (pv 0) pa_nil)) pe_int (nomark _)) (pw_or1 (pt_not (pt_val (pe_callB (allS K rfl) (by rfl) B.mg_all (by decide +kernel) (pa_cons (pe_lc (own := [("part", 1)]) (g := gName 1) (tt := tYes) rfl sc_is_item.nd (pi_tup (pv 0)) (blkOk_by (N := ["value", "part"]) (sc := defScope s_is_item) (by decide +kernel)) (fun _ _ _ _ _ => (pg_name (i := 1) sc_is_item.nd rfl (Or.inl rfl))) (fun _ _ _ _ _ => pts_nil) (fun _ _ _ _ _ => (pe_cal C_is_whole hr (pa_cons (pv 1) pa_nil)))) pa_nil)))))))) (pss_one (ps_ret pe_bl)) pss_nil)
      (pss_one (ps_ret (pe_cmpR op_ge (pe_ix (ixT K) (pv 0) pe_int (fun _ _ => rfl)) pe_int (nomark _))))), ?_⟩
    by_cases ht : inst "tuple" d = true
    · cases d with
      | tuple ds =>
        obtain ⟨a, xs, rfl, hx, hall⟩ := dq_tup hd
        have hl := hall.len
        refine s_if (b := false || (!decide (ds.length = 3) || !ds.all isWhole)) (et_or (et_not (et_test (ev_isi (ev_var rfl) hd))) fun _ => et_or ?_ fun h3 => et_not (et_test ?_)) (fun h H1 e => ?_) (fun h H1 e => ?_)
        · refine et_is (et_test (ev_op (ev_lenS (ev_var rfl) (.inr hx)) ev_c (rv_ne rfl))) ?_
          rw [hl]
          simp only [V.int.injEq]
          congr 1
          exact decide_eq_decide.mpr ⟨fun z => by omega, fun z => by omega⟩
        · have hi := ei_tup (σ := L2.start ["value", "part"] [V.ref a]) (ev_var (i := 0) rfl) hx
          rw [hl] at hi
          refine ev_allC ds isWhole hi (by have : ds.length = 3 := by simpa using h3
                                           omega) fun i d' hd' x H1 e y => ?_
          obtain ⟨x', hx', hdp⟩ := hall.get hd'
          have ex : x' = x := Option.some.inj (hx'.symm.trans y)
          subst ex
          exact ⟨_, evg_name, rfl, ev_cal (ea_cons (ev_var rfl) ea_nil) fun H2 e2 => pure_B1 (dq_ex e2 (.d hdp))⟩
        · refine s_ret ev_c fun H2 e2 => ?_
          have e1 : isItem (.tuple ds) = false := by
            unfold isItem
            split
            · rename_i heq
              cases heq
              exact absurd h (by simp [isWhole])
            · rfl
          rw [← e1]
          exact q H2 (e.trans e2)
        · simp only [Bool.false_or, Bool.or_eq_false_iff, Bool.not_eq_false', decide_eq_true_eq] at h
          obtain ⟨h3, hw⟩ := h
          obtain ⟨k, hh, m, rfl⟩ : ∃ k h m, ds = [.int k, .int h, .int m] := by
            match ds, h3 with
            | [x, y, z], _ =>
              simp only [List.all_cons, List.all_nil, Bool.and_true, Bool.and_eq_true] at hw
              obtain ⟨w1, w2, w3⟩ := hw
              cases x <;> first | (cases w1; done) | skip
              cases y <;> first | (cases w2; done) | skip
              cases z <;> first | (cases w3; done) | skip
              exact ⟨_, _, _, rfl⟩
          cases hall with
          | cons a1 hall =>
            cases hall with
            | cons a2 hall =>
              cases a2
              refine s_ret (ev_op (ev_op (ev_var rfl) ev_c (rv_ixT (ex_t e hx) (atI_nat (j := 1) rfl))) ev_c rv_I0) fun H2 e2 => ?_
              exact q H2 (e.trans e2)
      | _ => cases ht
    · have hf : inst "tuple" d = false := by simpa using ht
      refine s_if (b := true) (et_is (et_or (b := true) (et_not (et_test (ev_isi (ev_var rfl) hd))) fun z => ?_) (by rw [hf]; rfl)) (fun h H1 e => s_ret ev_c fun H2 e2 => ?_) (fun h => by cases h)
      · rw [hf] at z; cases z
      · have e1 : isItem d = false := by cases d <;> first | rfl | cases hf
        rw [← e1]
        exact q H2 (e.trans e2)
abbrev s_held : Stmt := top 10
theorem sc_held : FnScope ["rows", "row"] ["rows"] (defScope s_held) := ⟨rfl, rfl, rfl, by decide +kernel, rfl, by decide +kernel, by decide +kernel⟩
theorem ok_held (F : Fun K "held" "held" s_held f fd) (B : Bi mg) : FnOk P w K mg base CX0 1 f fd ["rows"] (spHeld K) := by
  refine F.ok sc_held (fun vs H Q E h => ?_) (fun cdv A outer s H vs Q E hr h => ?_)
  · obtain ⟨a, xs, ds, rfl, _⟩ := h
    rfl
  · obtain ⟨a, xs, ds, rfl, hx, hall, hz, q⟩ := h
    refine ⟨_, (pss_one (ps_ret (pe_lc (own := [("row", 1)]) (g := gName 1) rfl sc_held.nd (pi_seq (pv 0)) (blkOk_by (N := ["rows", "row"]) (sc := defScope s_held) (by decide +kernel)) (fun _ _ _ _ _ => (pg_name (i := 1) sc_held.nd rfl (Or.inl rfl))) (fun _ _ _ _ _ => pts_one (pt_val (pe_callB (isiS K) (by rfl) B.mg_isinstance (by decide +kernel) (pa_cons (pv 1) (pa_cons (pe_ty (T := "tuple") B.mg_tuple) pa_nil))))) (fun _ _ _ _ _ => (pv 1))))), ?_⟩
    have hl := hall.len
    have hi := ei_seq (K := K) (σ := L2.start ["rows", "row"] [V.ref a]) (ev_var (i := 0) rfl) hx
    rw [hl] at hi
    refine s_retL (el_lc (fun i => inst "tuple" (ds.getD i .none)) (fun i => xs.getD i .non) hi (by omega) fun i hi x H1 e y => ?_) fun p H' n e2 h2 => q p H' n e2 ?_
    · obtain ⟨x', hx', hdp⟩ := hall.get (List.getElem?_eq_getElem hi)
      have ex : x' = x := Option.some.inj (hx'.symm.trans y)
      subst ex
      have ed : ds.getD i .none = ds[i] := by simp [hi]
      have ed2 : xs.getD i .non = x' := by simp [List.getD_eq_getElem?_getD, hx']
      rw [ed, ed2]
      exact ⟨_, evg_name, rfl, et_test (ev_isi (ev_var rfl) (.d hdp)), fun _ => ev_var rfl⟩
    have hz2 : (ds.zip xs).length = ds.length := by rw [List.length_zip]; omega
    have e3 := filter_get (ds.zip xs) (fun p => inst "tuple" p.1) (·.2) (fun i => inst "tuple" (ds.getD i .none)) (fun i => xs.getD i .non) fun i a ha => by
      obtain ⟨h1, h2⟩ := List.getElem?_zip_eq_some.mp ha
      constructor
      · simp [List.getD_eq_getElem?_getD, h1]
      · simp [List.getD_eq_getElem?_getD, h2]
    rw [hz2] at e3
    rw [h2, e3]
    rfl
abbrev s_is_ring : Stmt := top 11
theorem sc_is_ring : FnScope ["value", "found", "row", "item"] ["value"] (defScope s_is_ring) := ⟨rfl, rfl, rfl, by decide +kernel, rfl, by decide +kernel, by decide +kernel⟩
theorem ok_is_ring (F : Fun K "is_ring" "is_ring" s_is_ring f fd) (B : Bi mg) (C_is_stone : Cal P w K mg base CX0 1 "is_stone" ["row"] (spB1 K isStone)) (C_is_item : Cal P w K mg base CX0 2 "is_item" ["value"] (spB1 K isItem)) (C_held : Cal P w K mg base CX0 1 "held" ["rows"] (spHeld K)) : FnOk P w K mg base CX0 3 f fd ["value"] (spRing K) := by
  refine F.ok sc_is_ring (fun vs H Q E h => ?_) (fun cdv A outer s H vs Q E hr h => ?_)
  · obtain ⟨v, d, rfl, _⟩ := h
    rfl
  · obtain ⟨v, d, rfl, hd, hl, q⟩ := h
    refine ⟨_, (pss_cons (ps_if (PW.pt (pw_or (pt_not (pt_val (pe_callB (isiS K) (by rfl) B.mg_isinstance (by decide +kernel) (pa_cons (pv 0) (pa_cons (pe_ty (T := "tuple") B.mg_tuple) pa_nil))))) (pw_or1 (pt_cmpR op_eq (pe_callB (lenS K) (by rfl) B.mg_len PySem.boot_len (pa_cons (pv 0) pa_nil)) pe_int (nomark _))))) (pss_one (ps_ret pe_bl)) pss_nil)
      (pss_cons (ps_if (pt_not (pt_val (pe_callB (allS K rfl) (by rfl) B.mg_all (by decide +kernel) (pa_cons (pe_lc (own := [("row", 2)]) (g := gName 2) (tt := tYes) rfl sc_is_ring.nd (pi_tup (pv 0)) (blkOk_by (N := ["value", "found", "row", "item"]) (sc := defScope s_is_ring) (by decide +kernel)) (fun _ _ _ _ _ => (pg_name (i := 2) sc_is_ring.nd rfl (Or.inl rfl))) (fun _ _ _ _ _ => pts_nil) (fun _ _ _ _ _ => (pe_or (pe_cmpR op_isN (pv 2) pe_non (nomark _)) (pe_or (pe_cal C_is_stone hr (pa_cons (pv 2) pa_nil)) (pe_one (pe_cal C_is_item hr (pa_cons (pv 2) pa_nil))))))) pa_nil)))) (pss_one (ps_ret pe_bl)) pss_nil)
      (pss_cons (ps_set (i := 1) sc_is_ring.nd rfl (Or.inl rfl) (pe_cal C_held hr (pa_cons (pv 0) pa_nil)))
      (pss_one (ps_ret (pe_and (pe_callB (anyS K rfl) (by rfl) B.mg_any (by decide +kernel) (pa_cons (pe_lc (own := [("row", 2)]) (g := gName 2) (tt := tYes) rfl sc_is_ring.nd (pi_tup (pv 0)) (blkOk_by (N := ["value", "found", "row", "item"]) (sc := defScope s_is_ring) (by decide +kernel)) (fun _ _ _ _ _ => (pg_name (i := 2) sc_is_ring.nd rfl (Or.inl rfl))) (fun _ _ _ _ _ => pts_nil) (fun _ _ _ _ _ => (pe_cmpR op_isN (pv 2) pe_non (nomark _)))) pa_nil)) (pe_one (pe_cmpR op_eq (pe_callB call_lenD (by rfl) B.mg_len PySem.boot_len (pa_cons (pe_dc (own := [("item", 3)]) (g := gName 3) (tt := tYes) rfl sc_is_ring.nd (pi_list (pv 1)) (blkOk_by (N := ["value", "found", "row", "item"]) (sc := defScope s_is_ring) (by decide +kernel)) (fun _ _ _ _ _ => (pg_name (i := 3) sc_is_ring.nd rfl (Or.inl rfl))) (fun _ _ _ _ _ => pts_nil) (fun _ _ _ _ _ => (pe_ix (ixT K) (pv 3) pe_int (fun _ _ => rfl))) (fun _ _ _ _ _ => (pv 3))) pa_nil)) (pe_callB (lenS K) (by rfl) B.mg_len PySem.boot_len (pa_cons (pv 1) pa_nil)) (nomark _))))))))), ?_⟩
    by_cases ht : inst "tuple" d = true
    · cases d with
      | tuple ds =>
        obtain ⟨a, xs, rfl, hx, hall⟩ := dq_tup hd
        have hlen := hall.len
        have hl : ds.length ≤ 50000 := hl
        refine s_if (b := false || decide (ds.length = 0)) (et_or (et_not (et_test (ev_isi (ev_var rfl) hd))) fun _ => ?_) (fun h H1 e => s_ret ev_c fun H2 e2 => ?_) (fun h H1 e => ?_)
        · refine et_is (et_test (ev_op (ev_lenS (ev_var rfl) (.inr hx)) ev_c (rv_eq rfl))) ?_
          rw [hlen]
          simp only [V.int.injEq]
          exact decide_eq_decide.mpr ⟨fun z => by omega, fun z => by omega⟩
        · have e0 : ds = [] := by simpa using h
          subst e0
          exact q H2 (e.trans e2)
        have ne : ds ≠ [] := fun z => by rw [z] at h; cases h
        have hx1 := ex_t e hx
        have hall1 : All2 (fun d v => Dp K H1 v d) ds xs := hall.imp fun _ _ _ z => dp_ex e _ _ z
        refine s_next ?_; dsimp only; refine s_cons ?_
        refine s_if (b := !ds.all isRow) (et_not (et_B ?_)) (fun h H2 e2 => s_ret ev_c fun H3 e3 => ?_) (fun h H2 e2 => ?_)
        · have hi := ei_tup (K := K) (σ := L2.start ["value", "found", "row", "item"] [V.ref a]) (ev_var (i := 0) rfl) hx1
          rw [hlen] at hi
          refine ev_allC ds isRow hi (by omega) fun i d' hd' x H2 e2 y => ?_
          obtain ⟨x', hx', hdp⟩ := hall1.get hd'
          have ex : x' = x := Option.some.inj (hx'.symm.trans y)
          subst ex
          refine ⟨_, evg_name, rfl, ev_orV ?_ fun _ => ev_orV (ev_cal (ea_cons (ev_var rfl) ea_nil) fun H3 e3 => pure_B1 (dq_ex e3 (.d hdp))) fun _ => ev_cal (ea_cons (ev_var rfl) ea_nil) fun H3 e3 => pure_B1 (dq_ex e3 (.d hdp))⟩
          refine ev_is (ev_isN (ev_var rfl)) ?_
          congr 1
          cases hdp <;> first | rfl | (simp [isNone])
        · have e0 : isRing (.tuple ds) = false := by
            have hb : ds.all isRow = false := by simpa using h
            simp [isRing, hb]
          rw [← e0]
          exact q H3 ((e.trans e2).trans e3)
        have hrow : ds.all isRow = true := by simpa using h
        refine s_next ?_; dsimp only; refine s_cons ?_
        have eh := e.trans e2
        have hall2 : All2 (fun d v => Dp K H2 v d) ds xs := hall.imp fun _ _ _ z => dp_ex eh _ _ z
        refine s_asgL (el_held (ea_cons (ev_var rfl) ea_nil) (.inr (ex_t eh hx)) hall2 (by omega)) fun p H3 n e3 hp => ?_
        dsimp only
        have hys := sel_all2 (inst "tuple") hall2
        generalize sel (inst "tuple") ds xs = ys at hp hys
        have hl2 := hys.len
        have hfl : (ds.filter (inst "tuple")).length ≤ ds.length := List.length_filter_le _ _
        have hys : All2 (fun d v => Dp K H3 v d) (ds.filter (inst "tuple")) ys := hys.imp fun _ _ _ z => dp_ex e3 _ _ z
        have hx3 := ex_t (eh.trans e3) hx
        have hall3 : All2 (fun d v => Dp K H3 v d) ds xs := hall2.imp fun _ _ _ z => dp_ex e3 _ _ z
        refine s_ret (ev_andV (a := ds.any isNone) (b := decide (((ds.filter (inst "tuple")).map keyD).Nodup)) ?_ fun h => ?_) fun H4 e4 => ?_
        · have hi := ei_tup (K := K) (σ := [some (V.ref a), some (V.ref p), none, none]) (ev_var (i := 0) rfl) hx3
          rw [hlen] at hi
          refine ev_anyC ds isNone hi (by omega) fun i d' hd' x H2 e2 y => ?_
          obtain ⟨x', hx', hdp⟩ := hall3.get hd'
          have ex : x' = x := Option.some.inj (hx'.symm.trans y)
          subst ex
          refine ⟨_, evg_name, rfl, ?_⟩
          refine ev_is (ev_isN (ev_var rfl)) ?_
          congr 1
          cases hdp <;> first | rfl | (simp [isNone])
        · have hi := ei_list (K := K) (σ := [some (V.ref a), some (V.ref p), none, none]) (ev_var (i := 1) rfl) (sq_of hp)
          rw [hl2] at hi
          generalize hes : ds.filter (inst "tuple") = es at *
          refine ev_is (ev_op (ev_lenDc (fun _ => true) (fun i => .inl (keyD (es.getD i .none))) (fun i => ys.getD i .non) hi (by omega) fun i hi x H2 e2 y => ?_) (ev_lenS (ev_var rfl) (.inl (sq_of hp))) (rv_eq rfl)) ?_
          · obtain ⟨x', hx', hdp⟩ := hys.get (List.getElem?_eq_getElem hi)
            have ex : x' = x := Option.some.inj (hx'.symm.trans y)
            subst ex
            have ed : es.getD i .none = es[i] := by simp [hi]
            have ed2 : ys.getD i .non = x' := by simp [List.getD_eq_getElem?_getD, hx']
            rw [ed, ed2]
            refine ⟨_, evg_name, rfl, et_yes, fun _ => ⟨?_, ev_var rfl⟩⟩
            have hm : es[i] ∈ ds.filter (inst "tuple") := by rw [hes]; exact List.getElem_mem hi
            obtain ⟨hm1, hm2⟩ := List.mem_filter.mp hm
            obtain ⟨r, er, _⟩ := isRow_row (List.all_eq_true.mp hrow _ hm1)
            rw [er] at hm2 hdp ⊢
            cases r with
            | it k hh m =>
              cases hdp with
              | tup hs ha =>
                cases ha with
                | cons a1 ha =>
                  cases a1
                  exact ev_op (ev_var rfl) ev_c (rv_ixT hs (atI_nat (j := 0) rfl))
            | _ => cases hm2
          · have k1 := dcK_keys es.length (fun i => .inl (keyD (es.getD i .none))) (fun i => ys.getD i .non)
            have k2 : (List.range es.length).map (fun i => (Sum.inl (keyD (es.getD i .none)) : Key)) = (es.map keyD).map Sum.inl := by
              rw [List.map_map]
              exact List.ext_getElem (by simp) fun i h1 h2 => by
                simp only [List.length_map, List.length_range] at h1
                simp [h1]
            rw [k2] at k1
            have k3 : (dcK es.length (fun _ => true) (fun i => .inl (keyD (es.getD i .none))) (fun i => ys.getD i .non)).length = (keysOf ((es.map keyD).map (Sum.inl : Int → Key))).length := by
              rw [← k1, List.length_map]
            obtain ⟨k4, k5⟩ := keysOf_len ((es.map keyD).map (Sum.inl : Int → Key))
            congr 1
            refine decide_eq_decide.mpr ?_
            rw [k3, hl2]
            have k6 : ((es.map keyD).map (Sum.inl : Int → Key)).Nodup ↔ (es.map keyD).Nodup := nodup_map (fun a b e => Sum.inl.inj e) _
            rw [← k6, ← k5]
            simp only [List.length_map, V.int.injEq]
            constructor <;> intro z <;> omega
        · have e0 : (ds.any isNone && decide (((ds.filter (inst "tuple")).map keyD).Nodup)) = isRing (.tuple ds) := by
            have nb : ds.isEmpty = false := by
              cases ds with
              | nil => exact absurd rfl ne
              | cons => rfl
            simp [isRing, hrow, nb]
          rw [e0]
          exact q H4 ((eh.trans e3).trans e4)
      | _ => cases ht
    · have hf : inst "tuple" d = false := by simpa using ht
      refine s_if (b := true) (et_is (et_or (b := true) (et_not (et_test (ev_isi (ev_var rfl) hd))) fun z => ?_) (by rw [hf]; rfl)) (fun h H1 e => s_ret ev_c fun H2 e2 => ?_) (fun h => by cases h)
      · rw [hf] at z; cases z
      · have e1 : isRing d = false := by cases d <;> first | rfl | cases hf
        rw [← e1]
        exact q H2 (e.trans e2)
end
end K40
set_option Elab.async false
set_option linter.all false
set_option maxRecDepth 100000
set_option maxHeartbeats 4000000
namespace K40
open PySem PySem.Calls PySem.Spec PyProof.Rows L2 OR Evl
section
variable {P : Program} {w : World} {K : PySem.W.Frag} {mg : Str → Option Value} {base : Heap} {f : Addr} {fd : FuncData}
abbrev s_need_ring : Stmt := top 12
theorem sc_need_ring : FnScope ["ring"] ["ring"] (defScope s_need_ring) := ⟨rfl, rfl, rfl, by decide +kernel, rfl, by decide +kernel, by decide +kernel⟩
theorem ok_need_ring {C : Addr} (F : Fun K "need_ring" "need_ring" s_need_ring f fd) (C_is_ring : Cal P w K mg base CX0 3 "is_ring" ["value"] (spRing K)) (X_BadRing : ErrOk P w K mg base "BadRing" C (spIni C 1 (fl1 "ring")) 1) :
    FnOk P w K mg base (L2.CX P w) 4 f fd ["ring"] (spNeedRing K C) := by
  refine F.okX sc_need_ring (fun vs H Q E h => ?_) (fun cdv A outer s H vs Q E hr h => ?_)
  · obtain ⟨v, d, rfl, _⟩ := h
    rfl
  · obtain ⟨v, d, rfl, hd, hl, q1, q2⟩ := h
    refine ⟨_, (pss_one (ps_if (pt_not (pt_val (pe_cal C_is_ring hr (pa_cons (pv 0) pa_nil)))) (pss_one (ps_raise rfl (takes_of rfl rfl rfl rfl) (pmk_err X_BadRing (by decide) (hr.mono (by decide)) (pa_cons (pv 0) pa_nil) (by rfl)))) pss_nil)), ?_⟩
    refine s_if (et_not (et_B (ev_cal (ea_cons (ev_var rfl) ea_nil) fun H1 e => pure_Ring (dq_ex e hd) hl))) (fun h H1 e => ?_) (fun h H1 e => ?_)
    · exact ⟨_, rfl, rfl, fun dd hdd => q2 (by simpa using h) dd H1 e hdd⟩
    · exact q1 (by simpa using h) H1 e
abbrev s_need_way : Stmt := top 13
theorem sc_need_way : FnScope ["way"] ["way"] (defScope s_need_way) := ⟨rfl, rfl, rfl, by decide +kernel, rfl, by decide +kernel, by decide +kernel⟩
theorem ok_need_way {C aW : Addr} (F : Fun K "need_way" "need_way" s_need_way f fd) (B : Bi mg) (g_WAYS : mg "WAYS" = some (.ref aW)) (W : ∀ H, SqT K H aW waysV) (X_BadWay : ErrOk P w K mg base "BadWay" C (spIni C 1 (fl1 "way")) 1) :
    FnOk P w K mg base (L2.CX P w) 3 f fd ["way"] (spNeedWay K C) := by
  refine F.okX sc_need_way (fun vs H Q E h => ?_) (fun cdv A outer s H vs Q E hr h => ?_)
  · obtain ⟨v, d, rfl, _⟩ := h
    rfl
  · obtain ⟨v, d, rfl, hd, q1, q2⟩ := h
    refine ⟨_, (pss_one (ps_if (PW.pt (pw_or (pt_not (pt_val (pe_callB (isiS K) (by rfl) B.mg_isinstance (by decide +kernel) (pa_cons (pv 0) (pa_cons (pe_ty (T := "str") B.mg_str) pa_nil))))) (pw_or1 (pt_cmpR (ninS K) (pv 0) (pe_gr g_WAYS) (by rfl))))) (pss_one (ps_raise rfl (takes_of rfl rfl rfl rfl) (pmk_err X_BadWay (by decide) (hr.mono (by decide)) (pa_cons (pv 0) pa_nil) (by rfl)))) pss_nil)), ?_⟩
    refine s_if (b := !isWay d) (et_is (a := !inst "str" d || !isWay d) (et_or (et_not (et_B (ev_isi (ev_var rfl) hd))) fun hs => ?_) (by cases d <;> rfl)) (fun h H1 e => ?_) (fun h H1 e => ?_)
    · cases d with
      | str x =>
        cases hd with
        | d hd =>
          cases hd
          refine et_is (et_B (ev_op (ev_var rfl) ev_c (rv_niT (W H) rfl (by decide)))) ?_
          simp [inV, isWay, waysV, eqV_s]
      | _ => cases hs
    · exact ⟨_, rfl, rfl, fun dd hdd => q2 (by simpa using h) dd H1 e hdd⟩
    · exact q1 (by simpa using h) H1 e
abbrev s_home : Stmt := top 14
theorem sc_home : FnScope ["item", "many"] ["item", "many"] (defScope s_home) := ⟨rfl, rfl, rfl, by decide +kernel, rfl, by decide +kernel, by decide +kernel⟩
theorem ok_home (F : Fun K "home" "home" s_home f fd) : FnOk P w K mg base CX0 1 f fd ["item", "many"] (spHome K) := by
  refine F.ok sc_home (fun vs H Q E h => ?_) (fun cdv A outer s H vs Q E hr h => ?_)
  · obtain ⟨v, k, hh, m, n, rfl, _⟩ := h
    rfl
  · obtain ⟨v, k, hh, m, n, rfl, hd, hn, q⟩ := h
    refine ⟨_, (pss_one (ps_ret (pe_op op_mod (pe_ix (ixT K) (pv 0) pe_int (fun _ _ => rfl)) (pv 1)))), ?_⟩
    cases hd with
    | tup hs ha =>
      cases ha with
      | cons a1 ha =>
        cases ha with
        | cons a2 ha =>
          cases a2
          exact s_ret (ev_op (ev_op (ev_var rfl) ev_c (rv_ixT hs (atI_nat (j := 1) rfl))) (ev_var rfl) (rv_I hn)) q
abbrev s_distance : Stmt := top 15
theorem sc_distance : FnScope ["one", "other", "many"] ["one", "other", "many"] (defScope s_distance) := ⟨rfl, rfl, rfl, by decide +kernel, rfl, by decide +kernel, by decide +kernel⟩
theorem ok_distance (F : Fun K "distance" "distance" s_distance f fd) : FnOk P w K mg base CX0 1 f fd ["one", "other", "many"] spDist := by
  refine F.ok sc_distance (fun vs H Q E h => ?_) (fun cdv A outer s H vs Q E hr h => ?_)
  · obtain ⟨a, b, n, rfl, _⟩ := h
    rfl
  · obtain ⟨a, b, n, rfl, hn, q⟩ := h
    refine ⟨_, (pss_one (ps_ret (pe_op op_mod (pe_op op_sub (pv 1) (pv 0)) (pv 2)))), ?_⟩
    exact s_ret (ev_op (ev_op (ev_var rfl) (ev_var rfl) rv_I0) (ev_var rfl) (rv_I hn)) q
abbrev s_leans : Stmt := top 16
theorem sc_leans : FnScope ["rows", "place"] ["rows", "place"] (defScope s_leans) := ⟨rfl, rfl, rfl, by decide +kernel, rfl, by decide +kernel, by decide +kernel⟩
theorem ok_leans (F : Fun K "leans" "leans" s_leans f fd) (B : Bi mg) (C_home : Cal P w K mg base CX0 1 "home" ["item", "many"] (spHome K)) (C_distance : Cal P w K mg base CX0 1 "distance" ["one", "other", "many"] spDist) : FnOk P w K mg base CX0 2 f fd ["rows", "place"] (spLeans K) := by
  refine F.ok sc_leans (fun vs H Q E h => ?_) (fun cdv A outer s H vs Q E hr h => ?_)
  · obtain ⟨a, p, rows, rfl, _⟩ := h
    rfl
  · obtain ⟨a, p, rows, rfl, hrows, hp, hi, q⟩ := h
    refine ⟨_, (pss_one (ps_ret (pe_cal C_distance hr (pa_cons (pe_cal C_home hr (pa_cons (pe_ix (ixS K) (pv 0) (pv 1) (fun _ _ => rfl)) (pa_cons (pe_callB (lenS K) (by rfl) B.mg_len PySem.boot_len (pa_cons (pv 0) pa_nil)) pa_nil))) (pa_cons (pv 1) (pa_cons (pe_callB (lenS K) (by rfl) B.mg_len PySem.boot_len (pa_cons (pv 0) pa_nil)) pa_nil)))))), ?_⟩
    obtain ⟨xs, v, hs, hl, hv, hd⟩ := hrows.get hp
    obtain ⟨k, m, er⟩ := isIt_it hi
    have hn : (0 : Int) < (xs.length : Int) := by omega
    rw [er] at hd
    have hlen := ev_lenS (K := K) (σ := L2.start ["rows", "place"] [V.ref a, V.int p]) (ev_var (i := 0) rfl) hs
    refine s_ret (ev_cal (ea_cons (ev_cal (ea_cons (ev_op (ev_var rfl) (ev_var rfl) (rv_ixS hs (atI_nat hv))) (ea_cons hlen ea_nil)) fun H1 e => pure_Home (dp_ex e _ _ hd) hn) (ea_cons (ev_var rfl) (ea_cons hlen ea_nil))) fun H1 e => pure_Dist hn) fun H1 e => ?_
    have e1 : dist ((rowAt rows p).hash % xs.length) p xs.length = leans rows p := by rw [hl]; rfl
    rw [e1]
    exact q H1 e
abbrev s_reaches : Stmt := top 17
theorem sc_reaches : FnScope ["rows", "place", "k"] ["rows", "place"] (defScope s_reaches) := ⟨rfl, rfl, rfl, by decide +kernel, rfl, by decide +kernel, by decide +kernel⟩
theorem ok_reaches (F : Fun K "reaches" "reaches" s_reaches f fd) (B : Bi mg) (C_leans : Cal P w K mg base CX0 2 "leans" ["rows", "place"] (spLeans K)) : FnOk P w K mg base CX0 3 f fd ["rows", "place"] (spReaches K) := by
  refine F.ok sc_reaches (fun vs H Q E h => ?_) (fun cdv A outer s H vs Q E hr h => ?_)
  · obtain ⟨a, p, rows, rfl, _⟩ := h
    rfl
  · obtain ⟨a, p, rows, rfl, hrows, hp, hz, hi, q⟩ := h
    refine ⟨_, (pss_one (ps_ret (pe_callB (allS K rfl) (by rfl) B.mg_all (by decide +kernel) (pa_cons (pe_lc (own := [("k", 2)]) (g := gName 2) (tt := tYes) rfl sc_reaches.nd (pi_range1 (by rfl) B.mg_range (pa_cons (pe_op op_add (pe_cal C_leans hr (pa_cons (pv 0) (pa_cons (pv 1) pa_nil))) pe_int) pa_nil)) (blkOk_by (N := ["rows", "place", "k"]) (sc := defScope s_reaches) (by decide +kernel)) (fun _ _ _ _ _ => (pg_name (i := 2) sc_reaches.nd rfl (Or.inl rfl))) (fun _ _ _ _ _ => pts_nil) (fun _ _ _ _ _ => (pe_cmpR op_notN (pe_ix (ixS K) (pv 0) (pe_op op_mod (pe_op op_sub (pv 1) (pv 2)) (pe_callB (lenS K) (by rfl) B.mg_len PySem.boot_len (pa_cons (pv 0) pa_nil))) (fun _ _ => rfl)) pe_non (nomark _)))) pa_nil)))), ?_⟩
    obtain ⟨xs, hs, hl⟩ := hrows.seq
    have hn : (0 : Int) < (xs.length : Int) := by omega
    obtain ⟨l0, l1⟩ := leans_lt (p := p) (show 0 < rows.length by omega)
    refine s_ret (ev_allN (List.range ((leans rows p).toNat + 1)) (fun k => !decide (rowAt rows (((p : Int) - k) % rows.length).toNat = .non)) (ei_r1 (n := (leans rows p).toNat + 1) (ea_cons (ev_is (ev_op (ev_cal (ea_cons (ev_var rfl) (ea_cons (ev_var rfl) ea_nil)) fun H1 e => pure_Leans (hrows.ex e) hp hi) ev_c rv_I0) (congrArg V.int (show leans rows p + 1 = (((leans rows p).toNat + 1 : Nat) : Int) by omega))) ea_nil) (by omega)) (by simp) (by omega) fun i k hk x H1 e y => ?_) fun H1 e => q H1 e
    subst y
    have hik : i = k := by
      have := (List.getElem?_eq_some_iff.mp hk).2
      simpa using this
    subst hik
    refine ⟨_, evg_name, rfl, ?_⟩
    have h0 : 0 ≤ ((p : Int) - i) % rows.length := Int.emod_nonneg _ (by omega)
    have h1 : ((p : Int) - i) % rows.length < rows.length := Int.emod_lt_of_pos _ (by omega)
    obtain ⟨xs', v, hs', hl', hv, hd⟩ := hrows.get (p := (((p : Int) - i) % rows.length).toNat) (by omega)
    have ec : (((((p : Int) - i) % rows.length).toNat : Nat) : Int) = ((p : Int) - i) % xs.length := by rw [hl]; omega
    have at1 := atI_nat hv
    rw [ec] at at1
    refine ev_is (ev_notN (ev_op (ev_var rfl) (ev_op (ev_op (ev_var rfl) (ev_var rfl) rv_I0) (ev_lenS (ev_var rfl) hs) (rv_I hn)) (rv_ixS hs' at1))) ?_
    rw [row_non_dec hd]
abbrev s_rises : Stmt := top 18
theorem sc_rises : FnScope ["rows", "place", "other"] ["rows", "place"] (defScope s_rises) := ⟨rfl, rfl, rfl, by decide +kernel, rfl, by decide +kernel, by decide +kernel⟩
theorem ok_rises (F : Fun K "rises" "rises" s_rises f fd) (B : Bi mg) (C_leans : Cal P w K mg base CX0 2 "leans" ["rows", "place"] (spLeans K)) : FnOk P w K mg base CX0 3 f fd ["rows", "place"] (spRises K) := by
  refine F.ok sc_rises (fun vs H Q E h => ?_) (fun cdv A outer s H vs Q E hr h => ?_)
  · obtain ⟨a, p, rows, rfl, _⟩ := h
    rfl
  · obtain ⟨a, p, rows, rfl, hrows, hp, q⟩ := h
    refine ⟨_, (pss_cons (ps_set (i := 2) sc_rises.nd rfl (Or.inl rfl) (pe_op op_mod (pe_op op_add (pv 1) pe_int) (pe_callB (lenS K) (by rfl) B.mg_len PySem.boot_len (pa_cons (pv 0) pa_nil))))
      (pss_cons (ps_if (PW.pt (pw_or (pt_not (pt_val (pe_callB (isiS K) (by rfl) B.mg_isinstance (by decide +kernel) (pa_cons (pe_ix (ixS K) (pv 0) (pv 1) (fun _ _ => rfl)) (pa_cons (pe_ty (T := "tuple") B.mg_tuple) pa_nil))))) (pw_or1 (pt_not (pt_val (pe_callB (isiS K) (by rfl) B.mg_isinstance (by decide +kernel) (pa_cons (pe_ix (ixS K) (pv 0) (pv 2) (fun _ _ => rfl)) (pa_cons (pe_ty (T := "tuple") B.mg_tuple) pa_nil)))))))) (pss_one (ps_ret pe_bl)) pss_nil)
      (pss_one (ps_ret (pe_cmpR op_le (pe_cal C_leans hr (pa_cons (pv 0) (pa_cons (pv 2) pa_nil))) (pe_op op_add (pe_cal C_leans hr (pa_cons (pv 0) (pa_cons (pv 1) pa_nil))) pe_int) (nomark _)))))), ?_⟩
    obtain ⟨xs, v, hs, hl, hv, hd⟩ := hrows.get hp
    have hn : (0 : Int) < (xs.length : Int) := by omega
    have hp2 : (p + 1) % rows.length < rows.length := Nat.mod_lt _ (by omega)
    refine s_asg (v := .int (((p + 1) % rows.length : Nat) : Int)) (ev_is (ev_op (ev_op (ev_var rfl) ev_c rv_I0) (ev_lenS (ev_var rfl) hs) (rv_I hn)) (by congr 1; rw [hl]; rfl)) fun H1 e => ?_
    dsimp only; refine s_cons ?_
    have hrows1 := hrows.ex e
    obtain ⟨xs1, v1, hs1, hl1, hv1, hd1⟩ := hrows1.get hp
    obtain ⟨xs2, v2, hs2, hl2, hv2, hd2⟩ := hrows1.get hp2
    refine s_if (b := !(rowAt rows p).isIt || !(rowAt rows ((p + 1) % rows.length)).isIt) (et_or (et_not (et_B (ev_is (ev_isi (ev_op (ev_var rfl) (ev_var rfl) (rv_ixS hs1 (atI_nat hv1))) (.d hd1)) (by rw [row_inst])))) fun _ => et_not (et_B (ev_is (ev_isi (ev_op (ev_var rfl) (ev_var rfl) (rv_ixS hs2 (atI_nat hv2))) (.d hd2)) (by rw [row_inst])))) (fun h H2 e2 => s_ret ev_c fun H3 e3 => ?_) (fun h H2 e2 => ?_)
    · have e0 : rises rows p = true := by
        unfold rises
        rcases Bool.or_eq_true_iff.mp h with h | h
        · rw [h]; rfl
        · rw [h]; simp
      rw [← e0]
      exact q H3 ((e.trans e2).trans e3)
    · obtain ⟨h1, h2⟩ := Bool.or_eq_false_iff.mp h
      have h1 : (rowAt rows p).isIt = true := by simpa using h1
      have h2 : (rowAt rows ((p + 1) % rows.length)).isIt = true := by simpa using h2
      have hrows2 := hrows1.ex e2
      refine s_next ?_; dsimp only
      refine s_ret (ev_op (ev_cal (ea_cons (ev_var rfl) (ea_cons (ev_var rfl) ea_nil)) fun H3 e3 => pure_Leans (hrows2.ex e3) hp2 h2) (ev_op (ev_cal (ea_cons (ev_var rfl) (ea_cons (ev_var rfl) ea_nil)) fun H3 e3 => pure_Leans (hrows2.ex e3) hp h1) ev_c rv_I0) rv_I0) fun H3 e3 => ?_
      have e0 : decide (leans rows ((p + 1) % rows.length) ≤ leans rows p + 1) = rises rows p := by
        unfold rises
        rw [h1, h2]
        rfl
      rw [e0]
      exact q H3 ((e.trans e2).trans e3)
end
end K40
set_option Elab.async false
set_option linter.all false
set_option maxRecDepth 100000
set_option maxHeartbeats 4000000
namespace K40
open PySem PySem.Calls PySem.Spec PyProof.Rows L2 OR Evl
section
variable {P : Program} {w : World} {K : PySem.W.Frag} {mg : Str → Option Value} {base : Heap} {f : Addr} {fd : FuncData}
abbrev s_has_law : Stmt := top 19
theorem sc_has_law : FnScope ["rows", "way", "places", "row", "place"] ["rows", "way"] (defScope s_has_law) := ⟨rfl, rfl, rfl, by decide +kernel, rfl, by decide +kernel, by decide +kernel⟩
theorem ok_has_law (F : Fun K "has_law" "has_law" s_has_law f fd) (B : Bi mg) (C_is_stone : Cal P w K mg base CX0 1 "is_stone" ["row"] (spB1 K isStone)) (C_reaches : Cal P w K mg base CX0 3 "reaches" ["rows", "place"] (spReaches K)) (C_rises : Cal P w K mg base CX0 3 "rises" ["rows", "place"] (spRises K)) :
    FnOk P w K mg base CX0 4 f fd ["rows", "way"] (spHasLaw K) := by
  refine F.ok sc_has_law (fun vs H Q E h => ?_) (fun cdv A outer s H vs Q E hr h => ?_)
  · obtain ⟨a, way, rows, rfl, _⟩ := h
    rfl
  · obtain ⟨a, way, rows, rfl, hrows, hz, q⟩ := h
    refine ⟨_, (pss_cons (ps_if (PW.pt (pw_and (pt_cmpR op_ne (pv 1) pe_str (nomark _)) (pw_and1 (pt_val (pe_callB (anyS K rfl) (by rfl) B.mg_any (by decide +kernel) (pa_cons (pe_lc (own := [("row", 3)]) (g := gName 3) (tt := tYes) rfl sc_has_law.nd (pi_seq (pv 0)) (blkOk_by (N := ["rows", "way", "places", "row", "place"]) (sc := defScope s_has_law) (by decide +kernel)) (fun _ _ _ _ _ => (pg_name (i := 3) sc_has_law.nd rfl (Or.inl rfl))) (fun _ _ _ _ _ => pts_nil) (fun _ _ _ _ _ => (pe_cal C_is_stone hr (pa_cons (pv 3) pa_nil)))) pa_nil)))))) (pss_one (ps_ret pe_bl)) pss_nil)
      (pss_cons (ps_setLc (i := 2) (own := [("place", 4), ("row", 3)]) (g := gTup K 2 (gCons (gName 4) (gCons (gName 3) gNil))) rfl sc_has_law.nd rfl rfl (sw_true rfl rfl rfl rfl) (pi_enumS (by rfl) B.mg_enumerate (pa_cons (pv 0) pa_nil)) (blkOk_by (N := ["rows", "way", "places", "row", "place"]) (sc := defScope s_has_law) (by decide +kernel)) (fun _ _ _ _ _ => (pg_tup rfl (pgs_cons (pg_name (i := 4) sc_has_law.nd rfl (Or.inl rfl)) (pgs_cons (pg_name (i := 3) sc_has_law.nd rfl (Or.inl rfl)) pgs_nil)))) (fun _ _ _ _ _ => pts_one (pt_val (pe_callB (isiS K) (by rfl) B.mg_isinstance (by decide +kernel) (pa_cons (pv 3) (pa_cons (pe_ty (T := "tuple") B.mg_tuple) pa_nil))))) (fun _ _ _ _ _ => (pv 4)))
      (pss_cons (ps_if (pt_not (pt_val (pe_callB (allS K rfl) (by rfl) B.mg_all (by decide +kernel) (pa_cons (pe_lc (own := [("place", 4)]) (g := gName 4) (tt := tYes) rfl sc_has_law.nd (pi_list (pv 2)) (blkOk_by (N := ["rows", "way", "places", "row", "place"]) (sc := defScope s_has_law) (by decide +kernel)) (fun _ _ _ _ _ => (pg_name (i := 4) sc_has_law.nd rfl (Or.inl rfl))) (fun _ _ _ _ _ => pts_nil) (fun _ _ _ _ _ => (pe_cal C_reaches hr (pa_cons (pv 0) (pa_cons (pv 4) pa_nil))))) pa_nil)))) (pss_one (ps_ret pe_bl)) pss_nil)
      (pss_one (ps_ret (pe_or (pe_cmpR op_ne (pv 1) pe_str (nomark _)) (pe_one (pe_callB (allS K rfl) (by rfl) B.mg_all (by decide +kernel) (pa_cons (pe_lc (own := [("place", 4)]) (g := gName 4) (tt := tYes) rfl sc_has_law.nd (pi_list (pv 2)) (blkOk_by (N := ["rows", "way", "places", "row", "place"]) (sc := defScope s_has_law) (by decide +kernel)) (fun _ _ _ _ _ => (pg_name (i := 4) sc_has_law.nd rfl (Or.inl rfl))) (fun _ _ _ _ _ => pts_nil) (fun _ _ _ _ _ => (pe_cal C_rises hr (pa_cons (pv 0) (pa_cons (pv 4) pa_nil))))) pa_nil))))))))), ?_⟩
    obtain ⟨xs, hs, hall⟩ := id hrows
    have hl := hall.len
    refine s_if (b := !decide (way = "stones") && rows.any fun r => decide (r = .sto)) (et_and (a := !decide (way = "stones")) (et_is (et_test (ev_op (ev_var rfl) ev_c (rv_ne rfl))) (by simp)) fun _ => et_B (ev_anyN rows (fun r => decide (r = .sto)) (ei_seq (ev_var rfl) hs) hl (by omega) fun i r hr x H1 e y => ?_)) (fun h H1 e => s_ret ev_c fun H2 e2 => ?_) (fun h H1 e => ?_)
    · obtain ⟨x', hx', hdp⟩ := hall.get hr
      have ex : x' = x := Option.some.inj (hx'.symm.trans y)
      subst ex
      refine ⟨_, evg_name, rfl, ?_⟩
      rw [← row_stone]
      exact ev_cal (ea_cons (ev_var rfl) ea_nil) fun H3 e3 => pure_B1 (.d (dp_ex e3 _ _ hdp))
    · have e0 : hasLaw rows way = false := by
        unfold hasLaw
        rw [h]; rfl
      rw [← e0]
      exact q H2 (e.trans e2)
    have hs1 := ex_s e hs
    have hall1 : All2 (fun r v => Dp K H1 v (Row.toD r)) rows xs := hall.imp fun _ _ _ z => dp_ex e _ _ z
    refine s_next ?_; dsimp only; refine s_cons ?_
    refine s_asgL (el_lc (fun i => (rowAt rows i).isIt) (fun i => V.int (i : Int)) (ei_enumS (ea_cons (ev_var rfl) ea_nil) hs1) (by omega) fun i hi x H2 e2 y => ?_) fun p H2 n e2 hp => ?_
    · obtain ⟨T, x', rfl, hT, hx⟩ := y
      refine ⟨_, evg_pair hT, rfl, ?_, fun _ => ev_var rfl⟩
      have hi2 : i < rows.length := by omega
      obtain ⟨v, hv, hd⟩ := hall1.get (List.getElem?_eq_getElem hi2)
      have ex : v = x' := Option.some.inj (hv.symm.trans hx)
      subst ex
      have e0 : rowAt rows i = rows[i] := by simp [rowAt, List.getD_eq_getElem?_getD, hi2]
      refine et_is (et_B (ev_isi (ev_var rfl) (.d hd))) ?_
      rw [row_inst, e0]
    have ep : ((List.range xs.length).filter fun i => (rowAt rows i).isIt).map (fun i : Nat => V.int (i : Int)) = (places rows).map (fun p => V.int ((p : Nat) : Int)) := by rw [hl]; rfl
    rw [ep] at hp
    have hplace : ∀ q ∈ places rows, q < rows.length ∧ (rowAt rows q).isIt = true := fun q hq => by
      obtain ⟨h1, h2⟩ := List.mem_filter.mp hq
      exact ⟨List.mem_range.mp h1, h2⟩
    have hpl : (places rows).length ≤ rows.length := by
      have := filter_le rows.length (fun p => (rowAt rows p).isIt)
      exact this
    dsimp only; refine s_cons ?_
    have hrows2 := hrows.ex (e.trans e2)
    refine s_if (b := !(places rows).all (reaches rows)) (et_not (et_B (ev_allN (places rows) (reaches rows) (ei_list (ev_var rfl) (sq_of hp)) (by simp) (by simp; omega) fun i q hq x H3 e3 y => ?_))) (fun h H3 e3 => s_ret ev_c fun H4 e4 => ?_) (fun h H3 e3 => ?_)
    · have ex : x = V.int (q : Int) := by
        rw [List.getElem?_map, hq] at y
        exact (Option.some.inj y).symm
      subst ex
      obtain ⟨h1, h2⟩ := hplace q (List.mem_of_getElem? hq)
      exact ⟨_, evg_name, rfl, ev_cal (ea_cons (ev_var rfl) (ea_cons (ev_var rfl) ea_nil)) fun H5 e5 => pure_Reaches (hrows2.ex e5) h1 hz h2⟩
    · have e0 : hasLaw rows way = false := by
        unfold hasLaw
        have h' : (places rows).all (reaches rows) = false := by simpa using h
        rw [h']; simp
      rw [← e0]
      exact q H4 (((e.trans e2).trans e3).trans e4)
    refine s_next ?_; dsimp only
    have hrows3 := hrows2.ex e3
    refine s_ret (ev_orV (a := !decide (way = "sorted")) (ev_is (ev_op (ev_var rfl) ev_c (rv_ne rfl)) (by simp)) fun _ => ev_allN (places rows) (rises rows) (ei_list (ev_var rfl) (sq_of (e3 _ _ hp))) (by simp) (by simp; omega) fun i q hq x H4 e4 y => ?_) fun H4 e4 => ?_
    · have ex : x = V.int (q : Int) := by
        rw [List.getElem?_map, hq] at y
        exact (Option.some.inj y).symm
      subst ex
      obtain ⟨h1, h2⟩ := hplace q (List.mem_of_getElem? hq)
      exact ⟨_, evg_name, rfl, ev_cal (ea_cons (ev_var rfl) (ea_cons (ev_var rfl) ea_nil)) fun H5 e5 => pure_Rises (hrows3.ex e5) h1⟩
    · have e0 : (!decide (way = "sorted") || (places rows).all (rises rows)) = hasLaw rows way := by
        unfold hasLaw
        rename_i h0
        have h' : (places rows).all (reaches rows) = true := by simpa using h
        rw [h0, h']
        rfl
      rw [e0]
      exact q H4 (((e.trans e2).trans e3).trans e4)
abbrev s_is_lawful : Stmt := top 20
theorem sc_is_lawful : FnScope ["ring", "way"] ["ring", "way"] (defScope s_is_lawful) := ⟨rfl, rfl, rfl, by decide +kernel, rfl, by decide +kernel, by decide +kernel⟩
theorem ok_is_lawful {CR CW : Addr} (F : Fun K "is_lawful" "is_lawful" s_is_lawful f fd) (C_need_ring : Cal P w K mg base (L2.CX P w) 4 "need_ring" ["ring"] (spNeedRing K CR)) (C_need_way : Cal P w K mg base (L2.CX P w) 3 "need_way" ["way"] (spNeedWay K CW)) (C_has_law : Cal P w K mg base CX0 4 "has_law" ["rows", "way"] (spHasLaw K)) :
    FnOk P w K mg base (L2.CX P w) 5 f fd ["ring", "way"] (spIsLawful K CR CW) := by
  refine F.okX sc_is_lawful (fun vs H Q E h => ?_) (fun cdv A outer s H vs Q E hr h => ?_)
  · obtain ⟨v, u, d, e, rfl, _⟩ := h
    rfl
  · obtain ⟨v, u, d, d2, rfl, hd, hd2, hl, q1, q2, q3⟩ := h
    refine ⟨_, (pss_cons (ps_expr (pe_calX (E := E) C_need_ring hr (passes_call (takes_of rfl rfl rfl rfl) fun _ _ _ _ z => z) (pa_cons (pv 0) pa_nil)))
      (pss_cons (ps_expr (pe_calX (E := E) C_need_way hr (passes_call (takes_of rfl rfl rfl rfl) fun _ _ _ _ z => z) (pa_cons (pv 1) pa_nil)))
      (pss_one (ps_ret (pe_cal C_has_law hr (pa_cons (pv 0) (pa_cons (pv 1) pa_nil))))))), ?_⟩
    refine ⟨_, rfl, v, d, rfl, hd, hl, fun hR H1 e1 => ?_, q1⟩
    refine ⟨_, rfl, u, d2, rfl, dq_ex e1 hd2, fun hW H2 e2 => ?_, fun hW => (q2 hR hW).ex e1⟩
    obtain ⟨rows, rfl, hring⟩ := isRing_iff.mp hR
    obtain ⟨a, xs, rfl, hx, hall⟩ := dq_rows hd
    cases d2 with
    | str x =>
      cases hd2 with
      | d hd2 =>
        cases hd2
        have hat : RowsAt K H a rows := ⟨xs, .inr hx, hall⟩
        dsimp only
        refine s_ret (ev_cal (ea_cons (ev_var rfl) (ea_cons (ev_var rfl) ea_nil)) fun H3 e3 => pure_HasLaw (hat.ex ((e1.trans e2).trans e3)) (by simpa [topLen] using hl)) fun H3 e3 => ?_
        exact q3 rows x rfl hring rfl hW H3 ((e1.trans e2).trans e3)
    | _ => cases hW
end
end K40
set_option Elab.async false
set_option linter.all false
set_option maxRecDepth 100000
set_option maxHeartbeats 4000000
namespace K40
open PySem PySem.Calls PySem.Spec PyProof.Rows L2 OR Evl
section
variable {P : Program} {w : World} {K : PySem.W.Frag} {mg : Str → Option Value} {base : Heap} {f : Addr} {fd : FuncData}
abbrev s_seat : Stmt := top 24
theorem sc_seat : FnScope ["rows", "item", "many", "place"] ["rows", "item"] (defScope s_seat) := ⟨rfl, rfl, rfl, by decide +kernel, rfl, by decide +kernel, by decide +kernel⟩
theorem ok_seat (F : Fun K "seat" "seat" s_seat f fd) (B : Bi mg) (C_home : Cal P w K mg base CX0 1 "home" ["item", "many"] (spHome K)) (C_distance : Cal P w K mg base CX0 1 "distance" ["one", "other", "many"] spDist) (C_leans : Cal P w K mg base CX0 2 "leans" ["rows", "place"] (spLeans K)) :
    FnOk P w K mg base CX0 3 f fd ["rows", "item"] (spSeat K) := by
  refine F.ok sc_seat (fun vs H Q E h => ?_) (fun cdv A outer s H vs Q E hr h => ?_)
  · obtain ⟨a, v, rows, it, xs, rfl, _⟩ := h
    rfl
  · obtain ⟨a, v, rows, it, xs, rfl, ha, hall, hd, hi, hno, hn, q⟩ := h
    refine ⟨_, (pss_cons (ps_set (i := 2) sc_seat.nd rfl (Or.inl rfl) (pe_callB (lenS K) (by rfl) B.mg_len PySem.boot_len (pa_cons (pv 0) pa_nil)))
      (pss_cons (ps_set (i := 3) sc_seat.nd rfl (Or.inl rfl) (pe_cal C_home hr (pa_cons (pv 1) (pa_cons (pv 2) pa_nil))))
      (pss_cons (ps_while PassesOwn.never (pt_cmpR op_notN (pe_ix (ixL K) (pv 0) (pv 3) (fun _ _ => rfl)) pe_non (nomark _)) (pss_cons (ps_if (pt_cmpR op_lt (pe_cal C_leans hr (pa_cons (pv 0) (pa_cons (pv 3) pa_nil))) (pe_cal C_distance hr (pa_cons (pe_cal C_home hr (pa_cons (pv 1) (pa_cons (pv 2) pa_nil))) (pa_cons (pv 3) (pa_cons (pv 2) pa_nil)))) (nomark _)) (pss_one (ps_asg (pe_tup (pa_cons (pv 1) (pa_cons (pe_ix (ixL K) (pv 0) (pv 3) (fun _ _ => rfl)) pa_nil))) (pg_tup rfl (pgs_cons (pg_sub (pv 0) (pv 3) set_list) (pgs_cons (pg_name (i := 1) sc_seat.nd rfl (Or.inl rfl)) pgs_nil))))) pss_nil)
      (pss_one (ps_set (i := 3) sc_seat.nd rfl (Or.inl rfl) (pe_op op_mod (pe_op op_add (pv 3) pe_int) (pv 2))))))
      (pss_one (ps_asg (pv 1) (pg_sub (pv 0) (pv 3) set_list)))))), ?_⟩
    have hl := hall.len
    have n0 : 0 < rows.length := List.length_pos_of_mem hn
    have hh := homeN_lt (r := it) n0
    refine s_asg (ev_lenS (ev_var rfl) (.inl (sq_of ha))) fun H1 e => ?_
    dsimp only; refine s_cons ?_
    obtain ⟨k, m, er⟩ := isIt_it hi
    have hd1 := dp_ex e _ _ hd
    refine s_asg (v := .int ((homeN it rows.length : Nat) : Int)) (ev_is (ev_cal (ea_cons (ev_var rfl) (ea_cons (ev_var rfl) ea_nil)) fun H2 e2 => pure_Home (k := k) (h := it.hash) (m := m) (by rw [← er]; exact dp_ex e2 _ _ hd1) (by omega)) (by rw [homeN_int n0, hl])) fun H2 e2 => ?_
    dsimp only; refine s_cons ?_
    refine s_while (fun mm σ' H' => ∃ rows' it' p' v' ys k, σ' = [some (.ref a), some v', some (.int (xs.length : Int)), some (.int ((p' : Nat) : Int))] ∧ H' a = some (.lst ys) ∧ All2 (fun r v => Dp K H' v (Row.toD r)) rows' ys ∧ Dp K H' v' (Row.toD it') ∧ it'.isIt = true ∧
      (∀ r ∈ rows', r ≠ .sto) ∧ .non ∈ rows' ∧ rows'.length = rows.length ∧ p' < rows.length ∧ seatM rows it = seatGo k rows' it' p' ∧ fn rows' p' < k ∧ mm = fn rows' p' ∧ ButA a H H') (fn rows (homeN it rows.length)) ?_ fun mm σ' H' hw => ?_
    · exact ⟨rows, it, homeN it rows.length, v, xs, rows.length, rfl, (e.trans e2) _ _ ha, hall.imp fun _ _ _ z => dp_ex (e.trans e2) _ _ z, dp_ex (e.trans e2) _ _ hd, hi, hno, hn, rfl, hh, rfl, (fn_spec hh hn).1, rfl, ButA.of (e.trans e2)⟩
    · obtain ⟨rows', it', p', v', ys, k', rfl, hy, hall', hd', hi', hno', hn', hlen, hp', hgo, hk, rfl, hb⟩ := hw
      have hl' := hall'.len
      have hp2 : p' < rows'.length := by omega
      obtain ⟨y, hyv, hyd⟩ := hall'.get (List.getElem?_eq_getElem hp2)
      have er' : rowAt rows' p' = rows'[p'] := by simp [rowAt, List.getD_eq_getElem?_getD, hp2]
      rw [← er'] at hyd
      refine ⟨!decide (rowAt rows' p' = .non), et_is (et_test (ev_notN (ev_op (ev_var rfl) (ev_var rfl) (rv_ixL (sq_of hy) (atI_nat hyv))))) (by rw [row_non_dec hyd]), fun ht H3 e3 => ?_, fun ht H3 e3 => ?_⟩
      · have hne : rowAt rows' p' ≠ .non := by simpa using ht
        have hno2 : rowAt rows' p' ≠ .sto := hno' _ (mem_at hp2)
        have hit2 := rows_it hne hno2
        have hfs := fn_succ hp2 hn' hne
        obtain ⟨k2, rfl⟩ : ∃ k2, k' = k2 + 1 := ⟨k' - 1, by omega⟩
        have hpn : (p' + 1) % rows.length < rows.length := Nat.mod_lt _ n0
        have hy3 := e3 _ _ hy
        have hall3 : All2 (fun r v => Dp K H3 v (Row.toD r)) rows' ys := hall'.imp fun _ _ _ z => dp_ex e3 _ _ z
        have hd3 := dp_ex e3 _ _ hd'
        have hyd3 := dp_ex e3 _ _ hyd
        have hrows3 : RowsAt K H3 a rows' := ⟨ys, .inl (sq_of hy3), hall3⟩
        obtain ⟨k3, m3, er3⟩ := isIt_it hi'
        have hml : ((xs.length : Nat) : Int) = (rows'.length : Nat) := by omega
        have hmi : (0 : Int) < (xs.length : Int) := by omega
        refine ⟨fun σ2 H2 => ∃ m', m' < fn rows' p' ∧ ∃ rows'' it'' p'' v'' ys'' k, σ2 = [some (.ref a), some v'', some (.int (xs.length : Int)), some (.int ((p'' : Nat) : Int))] ∧ H2 a = some (.lst ys'') ∧ All2 (fun r v => Dp K H2 v (Row.toD r)) rows'' ys'' ∧ Dp K H2 v'' (Row.toD it'') ∧ it''.isIt = true ∧
      (∀ r ∈ rows'', r ≠ .sto) ∧ .non ∈ rows'' ∧ rows''.length = rows.length ∧ p'' < rows.length ∧ seatM rows it = seatGo k rows'' it'' p'' ∧ fn rows'' p'' < k ∧ m' = fn rows'' p'' ∧ ButA a H H2, fun σ2 H2 z => z, ?_⟩
        refine s_cons (s_if (b := decide (leN rows' p' < dN (homeN it' rows'.length) p' rows'.length)) (et_is (et_test (ev_op (ev_cal (ea_cons (ev_var rfl) (ea_cons (ev_var rfl) ea_nil)) fun H4 e4 => pure_Leans (hrows3.ex e4) hp2 hit2) (ev_cal (ea_cons (ev_cal (ea_cons (ev_var rfl) (ea_cons (ev_var rfl) ea_nil)) fun H4 e4 => pure_Home (k := k3) (h := it'.hash) (m := m3) (by rw [← er3]; exact dp_ex e4 _ _ hd3) hmi) (ea_cons (ev_var rfl) (ea_cons (ev_var rfl) ea_nil))) fun H4 e4 => pure_Dist hmi) rv_I0)) ?_) (fun h4 H4 e4 => ?_) (fun h4 H4 e4 => ?_))
        · rw [leans_N hp2, hml, ← homeN_int (by omega), dN_int (homeN_lt (by omega)) hp2]
          simp
        · have h5 : leN rows' p' < dN (homeN it' rows'.length) p' rows'.length := of_decide_eq_true h4
          have hy4 := e4 _ _ hy3
          have hd4 := dp_ex e4 _ _ hd3
          have hyd4 := dp_ex e4 _ _ hyd3
          refine (eu_tup (ea_cons (ev_var rfl) (ea_cons (ev_op (ev_var rfl) (ev_var rfl) (rv_ixL (sq_of hy4) (atI_nat hyv))) ea_nil)) (by simp)) H4 (Ex.refl H4) _ fun T H5 nT e5 hT => ?_
          have hy5 := e5 _ _ hy4
          refine ⟨T, [v', y], rfl, SqT.of hT, rfl, v', [y], rfl, _, rfl, _, rfl, a, ys, _, p', rfl, rfl, hy5, ixN_nat (by omega), y, [], rfl, rfl, ?_⟩
          dsimp only
          have b5 : ButA a H (upd H5 a (.lst (ys.set p' v'))) := (hb.trans (ButA.of ((e3.trans e4).trans e5))).trans ButA.upd
          have all5 : All2 (fun r v => Dp K (upd H5 a (.lst (ys.set p' v'))) v (Row.toD r)) (rows'.set p' it') (ys.set p' v') :=
            all2_set (fun r v hr z => row_but hy5 ButA.upd (dp_ex (e4.trans e5) _ _ z)) hall3 (row_but hy5 ButA.upd (dp_ex e5 _ _ hd4))
          refine s_asg (v := .int (((p' + 1) % rows.length : Nat) : Int)) (ev_is (ev_op (ev_op (ev_var rfl) ev_c rv_I0) (ev_var rfl) (rv_I hmi)) (by rw [hl]; rfl)) fun H6 e6 => ?_
          have hgo' := hgo
          unfold seatGo at hgo'
          rw [if_neg hne, if_pos h5, hlen] at hgo'
          have hn2 : .non ∈ rows'.set p' it' := by
            obtain ⟨q, hq, e⟩ := non_at hn'
            have hqp : q ≠ p' := fun z => by rw [z] at e; exact hne e
            have e2 : rowAt (rows'.set p' it') q = .non := by rw [rowAt_set hp2, if_neg hqp]; exact e
            have e3 := mem_at (rows := rows'.set p' it') (q := q) (by rw [len_set]; exact hq)
            rwa [e2] at e3
          have hc : fn (rows'.set p' it') ((p' + 1) % rows'.length) = fn rows' ((p' + 1) % rows'.length) := fn_congr len_set (fun q hq => by
            rw [rowAt_set hp2]
            split
            · rename_i e
              rw [e]
              exact ⟨fun z => absurd z (it_ne hi'), fun z => absurd z hne⟩
            · exact Iff.rfl) _ (by rw [hlen]; exact hpn)
          rw [hlen] at hc hfs
          have hno5 : ∀ r ∈ rows'.set p' it', r ≠ .sto := fun r hr => by
            rcases List.mem_or_eq_of_mem_set hr with h | h
            · exact hno' r h
            · rw [h]
              intro z
              rw [z] at hi'
              cases hi'
          exact ⟨fn (rows'.set p' it') ((p' + 1) % rows.length), by omega, rows'.set p' it', rowAt rows' p', (p' + 1) % rows.length, y, ys.set p' v', k2, rfl, e6 _ _ upd_same, all5.imp fun _ _ _ z => dp_ex e6 _ _ z, dp_ex e6 _ _ (row_but hy5 ButA.upd (dp_ex e5 _ _ hyd4)), hit2, hno5, hn2, by rw [len_set]; exact hlen, hpn, hgo', by omega, rfl, b5.trans (ButA.of e6)⟩
        · have h5 : ¬ leN rows' p' < dN (homeN it' rows'.length) p' rows'.length := of_decide_eq_false h4
          refine s_next ?_; dsimp only
          refine s_asg (v := .int (((p' + 1) % rows.length : Nat) : Int)) (ev_is (ev_op (ev_op (ev_var rfl) ev_c rv_I0) (ev_var rfl) (rv_I hmi)) (by rw [hl]; rfl)) fun H6 e6 => ?_
          have hgo' := hgo
          unfold seatGo at hgo'
          rw [if_neg hne, if_neg h5, hlen] at hgo'
          rw [hlen] at hfs
          have e7 := (e3.trans e4).trans e6
          exact ⟨fn rows' ((p' + 1) % rows.length), by omega, rows', it', (p' + 1) % rows.length, v', ys, k2, rfl, e7 _ _ hy, hall'.imp fun _ _ _ z => dp_ex e7 _ _ z, dp_ex e7 _ _ hd', hi', hno', hn', hlen, hpn, hgo', by omega, rfl, hb.trans (ButA.of e7)⟩
      · have hne : rowAt rows' p' = .non := by simpa using ht
        dsimp only
        refine s_setL (j := p') (e3 _ _ hy) (ev_var rfl) (ev_var rfl) (ev_var rfl) (by omega) fun H4 e4 => ?_
        obtain ⟨k2, rfl⟩ : ∃ k2, k' = k2 + 1 := ⟨k' - 1, by omega⟩
        unfold seatGo at hgo
        rw [if_pos hne] at hgo
        have e7 := e3.trans e4
        refine q _ (ys.set p' v') ((hb.trans (ButA.of e7)).trans ButA.upd) upd_same ?_
        rw [hgo]
        exact all2_set (fun r v _ z => row_but (e7 _ _ hy) ButA.upd (dp_ex e7 _ _ z)) hall' (row_but (e7 _ _ hy) ButA.upd (dp_ex e7 _ _ hd'))
end
end K40
set_option Elab.async false
set_option linter.all false
set_option maxRecDepth 100000
set_option maxHeartbeats 4000000
namespace K40
open PySem PySem.Calls PySem.Spec PyProof.Rows L2 OR Evl
section
variable {P : Program} {w : World} {K : PySem.W.Frag} {mg : Str → Option Value} {base : Heap} {f : Addr} {fd : FuncData}
abbrev s_all_items : Stmt := top 22
theorem sc_all_items : FnScope ["ring"] ["ring"] (defScope s_all_items) := ⟨rfl, rfl, rfl, by decide +kernel, rfl, by decide +kernel, by decide +kernel⟩
theorem ok_all_items {CR : Addr} (F : Fun K "all_items" "all_items" s_all_items f fd) (B : Bi mg) (C_need_ring : Cal P w K mg base (L2.CX P w) 4 "need_ring" ["ring"] (spNeedRing K CR)) (C_held : Cal P w K mg base CX0 1 "held" ["rows"] (spHeld K)) :
    FnOk P w K mg base (L2.CX P w) 5 f fd ["ring"] (spItems K CR) := by
  refine F.okX sc_all_items (fun vs H Q E h => ?_) (fun cdv A outer s H vs Q E hr h => ?_)
  · obtain ⟨v, d, rfl, _⟩ := h
    rfl
  · obtain ⟨v, d, rfl, hd, hl, q1, q2⟩ := h
    refine ⟨_, (pss_cons (ps_expr (pe_calX (E := E) C_need_ring hr (passes_call (takes_of rfl rfl rfl rfl) fun _ _ _ _ z => z) (pa_cons (pv 0) pa_nil)))
      (pss_one (ps_ret (pe_callTy (tupS K) (by rfl) B.mg_tuple (by decide +kernel) (pa_cons (pe_cal C_held hr (pa_cons (pv 0) pa_nil)) pa_nil))))), ?_⟩
    refine ⟨_, rfl, v, d, rfl, hd, hl, fun hR H1 e1 => ?_, q1⟩
    obtain ⟨rows, rfl, hring⟩ := isRing_iff.mp hR
    obtain ⟨a, xs, rfl, hx, hall⟩ := dq_tup hd
    have hall1 : All2 (fun d v => Dp K H1 v d) (rows.map Row.toD) xs := hall.imp fun _ _ _ z => dp_ex e1 _ _ z
    have hl2 : xs.length ≤ 50000 := by rw [hall.len]; exact hl
    refine el_held (ea_cons (ev_var rfl) ea_nil) (.inr (ex_t e1 hx)) hall1 hl2 H1 (Ex.refl H1) _ fun p H2 n e2 hp => ?_
    refine ⟨p, _, rfl, .inl ⟨sq_of hp, fun l hlp => ?_⟩⟩
    have e3 : Ex H (upd H2 l (.tup (sel (inst "tuple") (rows.map Row.toD) xs))) := (e1.trans e2).trans (Ex.new hlp)
    refine q2 rows rfl hring l _ _ (fresh_back (e1.trans e2) hlp) e3 upd_same ?_
    have z := (sel_all2 (inst "tuple") hall).imp fun _ _ _ z => dp_ex e3 _ _ z
    rw [List.filter_map] at z
    have e4 : (inst "tuple" ∘ Row.toD) = Row.isIt := funext row_inst
    rw [e4] at z
    exact rows_of z
abbrev s_runs : Stmt := top 21
theorem sc_runs : FnScope ["ring", "many", "found", "place", "row", "length"] ["ring"] (defScope s_runs) := ⟨rfl, rfl, rfl, by decide +kernel, rfl, by decide +kernel, by decide +kernel⟩
theorem ok_runs {CR : Addr} (F : Fun K "runs" "runs" s_runs f fd) (B : Bi mg) (C_need_ring : Cal P w K mg base (L2.CX P w) 4 "need_ring" ["ring"] (spNeedRing K CR)) :
    FnOk P w K mg base (L2.CX P w) 5 f fd ["ring"] (spRuns K CR) := by
  refine F.okX sc_runs (fun vs H Q E h => ?_) (fun cdv A outer s H vs Q E hr h => ?_)
  · obtain ⟨v, d, rfl, _⟩ := h
    rfl
  · obtain ⟨v, d, rfl, hd, hl, q1, q2⟩ := h
    refine ⟨_, (pss_cons (ps_expr (pe_calX (E := E) C_need_ring hr (passes_call (takes_of rfl rfl rfl rfl) fun _ _ _ _ z => z) (pa_cons (pv 0) pa_nil)))
      (pss_cons (ps_par (i := 1) (j := 2) rfl sc_runs.nd rfl rfl (by decide) rfl rfl (pa_cons (pe_callB (lenS K) (by rfl) B.mg_len PySem.boot_len (pa_cons (pv 0) pa_nil)) (pa_cons (pe_lst pa_nil) pa_nil)) rfl)
      (pss_cons (ps_for (passes_of rfl) rfl (pi_enumT (by rfl) B.mg_enumerate (pa_cons (pv 0) pa_nil)) (pg_tup rfl (pgs_cons (pg_name (i := 3) sc_runs.nd rfl (Or.inl rfl)) (pgs_cons (pg_name (i := 4) sc_runs.nd rfl (Or.inl rfl)) pgs_nil))) (pss_one (ps_if (PW.pt (pw_and (pt_cmpR op_notN (pv 4) pe_non (nomark _)) (pw_and1 (pt_cmpR op_isN (pe_ix (ixT K) (pv 0) (pe_op op_sub (pv 3) pe_int) (fun _ _ => rfl)) pe_non (nomark _))))) (pss_cons (ps_set (i := 5) sc_runs.nd rfl (Or.inl rfl) pe_int)
      (pss_cons (ps_while (passes_of rfl) (pt_cmpR op_notN (pe_ix (ixT K) (pv 0) (pe_op op_mod (pe_op op_add (pv 3) (pv 5)) (pv 1)) (fun _ _ => rfl)) pe_non (nomark _)) (pss_one (ps_aug (i := 5) sc_runs.nd rfl (Or.inl rfl) pe_int ip_add)))
      (pss_one (ps_expr (pe_bm PySem.F.plainAttrs_list PySem.F.slot_list_append PySem.F.type_list_append mt_append (pv 2) (pa_cons (pe_tup (pa_cons (pv 3) (pa_cons (pv 5) pa_nil))) pa_nil)))))) pss_nil)))
      (pss_one (ps_ret (pv 2)))))), ?_⟩
    refine ⟨_, rfl, v, d, rfl, hd, hl, fun hR H1 e1 => ?_, q1⟩
    obtain ⟨rows, rfl, hring⟩ := isRing_iff.mp hR
    obtain ⟨a, xs, rfl, hx, hall⟩ := dq_rows hd
    have hlen := hall.len
    have hl2 : rows.length ≤ 50000 := by simpa [topLen] using hl
    have n0 : 0 < rows.length := List.length_pos_of_mem hring.non
    dsimp only
    refine s_cons (s_parL (ev_lenS (ev_var rfl) (.inr (ex_t e1 hx))) (el_lst ea_nil (by simp)) fun l H2 nl e2 hl2' => ?_)
    dsimp only; refine s_cons ?_
    have e12 := e1.trans e2
    have nlH : H l = none := fresh_back e1 nl
    let pre : Nat → List (Nat × Nat) := fun i => ((List.range i).filter fun p => !decide (rowAt rows p = .non) && decide (rowAt rows ((p + (rows.length - 1)) % rows.length) = .non)).map fun p => (p, fn rows p)
    refine s_forI (Hb := H) (n := xs.length) (Y := YEnum xs) (fun H3 e3 R q => ?_) e12 (fun i σ' H' => ∃ z1 z2 z3 ws, σ' = [some (.ref a), some (.int (xs.length : Int)), some (.ref l), z1, z2, z3] ∧ Ex H H' ∧ H' l = some (.lst ws) ∧ PairsAt l H' (pre i) ws ∧ ws.length ≤ i) (fun H3 e3 => ?_) (fun i σ' H' h => ?_) (fun i hi x σ' H' h H3 e3 y => ?_) (fun σ' H' h => ?_)
    · exact ⟨.ref a, rfl, a, xs, rfl, ex_t e3 hx, q _ H3 (Ex.refl H3) (iteT_ok hx)⟩
    · exact ⟨none, none, none, [], rfl, e12.trans e3, e3 _ _ hl2', .nil, by simp⟩
    · obtain ⟨z1, z2, z3, ws, rfl, h1, h2⟩ := h
      exact h1
    · obtain ⟨z1, z2, z3, ws, rfl, h1, h2, h3, h4⟩ := h
      obtain ⟨T, x', rfl, hT, hx'⟩ := y
      have hi2 : i < rows.length := by omega
      obtain ⟨y, hyv, hyd⟩ := hall.get (List.getElem?_eq_getElem hi2)
      have ex : y = x' := Option.some.inj (hyv.symm.trans hx')
      subst ex
      have er' : rowAt rows i = rows[i] := by simp [rowAt, List.getD_eq_getElem?_getD, hi2]
      rw [← er'] at hyd
      have hpi : (i + (rows.length - 1)) % rows.length < rows.length := Nat.mod_lt _ n0
      obtain ⟨y2, hyv2, hyd2⟩ := hall.get (List.getElem?_eq_getElem hpi)
      have er2 : rowAt rows ((i + (rows.length - 1)) % rows.length) = rows[(i + (rows.length - 1)) % rows.length] := by simp [rowAt, List.getD_eq_getElem?_getD, hpi]
      rw [← er2] at hyd2
      have h13 := h1.trans e3
      have atp := atI_pred (v := y2) (xs := xs) (p := i) (by omega) (by rw [hlen]; exact hyv2)
      refine evg_pair hT H3 (Ex.refl H3) _ fun H4 e4 => ?_
      have h14 := h13.trans e4
      refine s_if (b := !decide (rowAt rows i = .non) && decide (rowAt rows ((i + (rows.length - 1)) % rows.length) = .non)) (et_and (et_is (et_test (ev_notN (ev_var rfl))) (by rw [row_non_dec hyd])) fun _ => et_is (et_test (ev_isN (ev_op (ev_var rfl) (ev_op (ev_var rfl) ev_c rv_I0) (rv_ixT (ex_t h14 hx) atp)))) (by rw [row_non_dec hyd2])) (fun hb H5 e5 => ?_) (fun hb H5 e5 => ?_)
      · refine s_cons (s_asg ev_c fun H6 e6 => ?_)
        dsimp only; refine s_cons ?_
        have h16 := (h14.trans e5).trans e6
        have e36 := ((e3.trans e4).trans e5).trans e6
        have hne : rowAt rows i ≠ .non := by
          have := (Bool.and_eq_true_iff.mp hb).1
          simpa using this
        obtain ⟨f1, f2, f3⟩ := fn_spec hi2 hring.non
        have hf0 : fn rows i ≠ 0 := fun z => by
          rw [z, Nat.add_zero, Nat.mod_eq_of_lt hi2] at f2
          exact hne f2
        have hmi : (0 : Int) < (xs.length : Int) := by omega
        refine s_while (fun mm σ' H7 => ∃ L : Nat, σ' = [some (.ref a), some (.int (xs.length : Int)), some (.ref l), some (.int (i : Int)), some y, some (.int (L : Int))] ∧ 1 ≤ L ∧ L ≤ fn rows i ∧ mm = fn rows i - L ∧ Ex H6 H7) (fn rows i - 1) ⟨1, rfl, by omega, by omega, rfl, Ex.refl _⟩ fun mm σ' H7 hw => ?_
        obtain ⟨L, rfl, hL1, hL2, rfl, e7⟩ := hw
        have hq : (i + L) % rows.length < rows.length := Nat.mod_lt _ n0
        obtain ⟨y3, hyv3, hyd3⟩ := hall.get (List.getElem?_eq_getElem hq)
        have er3 : rowAt rows ((i + L) % rows.length) = rows[(i + L) % rows.length] := by simp [rowAt, List.getD_eq_getElem?_getD, hq]
        rw [← er3] at hyd3
        have eix : (((i + L) % rows.length : Nat) : Int) = ((i : Int) + (L : Int)) % (xs.length : Int) := by rw [hlen]; rfl
        have at3 := atI_nat hyv3
        rw [eix] at at3
        refine ⟨!decide (rowAt rows ((i + L) % rows.length) = .non), et_is (et_test (ev_notN (ev_op (ev_var rfl) (ev_op (ev_op (ev_var rfl) (ev_var rfl) rv_I0) (ev_var rfl) (rv_I hmi)) (rv_ixT (ex_t (h16.trans e7) hx) at3)))) (by rw [row_non_dec hyd3]), fun ht H8 e8 => ?_, fun ht H8 e8 => ?_⟩
        · have hne3 : rowAt rows ((i + L) % rows.length) ≠ .non := by simpa using ht
          have hLt : L < fn rows i := by
            rcases Nat.lt_or_ge L (fn rows i) with z | z
            · exact z
            · exact absurd (by rw [show L = fn rows i by omega]; exact f2) hne3
          refine ⟨fun σ2 H2 => ∃ m', m' < fn rows i - L ∧ ∃ L : Nat, σ2 = [some (.ref a), some (.int (xs.length : Int)), some (.ref l), some (.int (i : Int)), some y, some (.int (L : Int))] ∧ 1 ≤ L ∧ L ≤ fn rows i ∧ m' = fn rows i - L ∧ Ex H6 H2, fun _ _ z => z, ?_⟩
          exact s_aug rfl ev_c fun H9 e9 => ⟨fn rows i - (L + 1), by omega, L + 1, rfl, by omega, by omega, rfl, (e7.trans e8).trans e9⟩
        · have hno3 : rowAt rows ((i + L) % rows.length) = .non := by simpa using ht
          have hLe : L = fn rows i := by
            rcases Nat.lt_or_ge L (fn rows i) with z | z
            · exact absurd hno3 (f3 L z)
            · omega
          subst hLe
          dsimp only
          have e38 := (e36.trans e7).trans e8
          refine s_appU (xs := ws) (e38 _ _ h2) (ev_var rfl) (eu_tup (ea_cons (ev_var rfl) (ea_cons (ev_var rfl) ea_nil)) (by simp)) (by omega) fun T2 H9 nT2 e9 hT2 => ?_
          have e39 := e38.trans e9
          have hlT : T2 ≠ l := fun z => by
            rw [z, e38 _ _ h2] at nT2
            cases nT2
          refine ⟨some (.int (i : Int)), some y, some (.int (fn rows i : Int)), ws ++ [.ref T2], rfl, Ex.mut (h1.trans e39) nlH, upd_same, ?_, by rw [List.length_append]; simp; omega⟩
          have ep : pre (i + 1) = pre i ++ [(i, fn rows i)] := by
            show ((List.range (i + 1)).filter _).map _ = _
            rw [List.range_succ, List.filter_append, List.filter_cons, if_pos hb, List.map_append]
            rfl
          rw [ep]
          exact All2.snoc (h3.ex fun q o hq z => by rw [upd_ne hq]; exact e39 _ _ z) ⟨T2, rfl, hlT, by rw [upd_ne hlT]; exact hT2⟩
      · refine s_next ?_; dsimp only
        have e35 := (e3.trans e4).trans e5
        refine ⟨some (.int (i : Int)), some y, z3, ws, rfl, h1.trans e35, e35 _ _ h2, ?_, by omega⟩
        have ep : pre (i + 1) = pre i := by
          show ((List.range (i + 1)).filter _).map _ = _
          rw [List.range_succ, List.filter_append, List.filter_cons, if_neg (by rw [hb]; decide)]
          simp [pre]
        rw [ep]
        exact h3.ex fun q o _ z => e35 _ _ z
    · obtain ⟨z1, z2, z3, ws, rfl, h1, h2, h3, h4⟩ := h
      dsimp only
      refine s_ret (ev_var rfl) fun H3 e3 => ?_
      refine q2 rows rfl hring l H3 ws nlH (h1.trans e3) (e3 _ _ h2) ?_
      have z := (h3.ex fun q o _ z => e3 _ _ z).dp (K := K)
      have ep : (pre xs.length).map (fun p => PyData.tuple [.int (p.1 : Nat), .int (p.2 : Nat)]) = runsM rows := by
        show (((List.range xs.length).filter _).map _).map _ = _
        rw [List.map_map, hlen]
        rfl
      rwa [ep] at z
end
end K40
set_option Elab.async false
set_option linter.all false
set_option maxRecDepth 100000
set_option maxHeartbeats 4000000
namespace K40
open PySem PySem.Calls PySem.Spec PyProof.Rows L2 OR Evl
section
variable {P : Program} {w : World} {K : PySem.W.Frag} {mg : Str → Option Value} {base : Heap} {f : Addr} {fd : FuncData}
abbrev s_placed : Stmt := top 23
theorem sc_placed : FnScope ["items", "many", "way", "rows", "item"] ["items", "many", "way"] (defScope s_placed) := ⟨rfl, rfl, rfl, by decide +kernel, rfl, by decide +kernel, by decide +kernel⟩
theorem ok_placed {CR CW : Addr} (F : Fun K "placed" "placed" s_placed f fd) (B : Bi mg) (C_is_item : Cal P w K mg base CX0 2 "is_item" ["value"] (spB1 K isItem)) (C_is_whole : Cal P w K mg base CX0 1 "is_whole" ["value"] (spB1 K isWhole))
    (X_BadRing : ErrOk P w K mg base "BadRing" CR (spIni CR 1 (fl1 "ring")) 1) (C_need_way : Cal P w K mg base (L2.CX P w) 3 "need_way" ["way"] (spNeedWay K CW)) (C_seat : Cal P w K mg base CX0 3 "seat" ["rows", "item"] (spSeat K)) :
    FnOk P w K mg base (L2.CX P w) 5 f fd ["items", "many", "way"] (spPlaced K CR CW) := by
  refine F.okX sc_placed (fun vs H Q E h => ?_) (fun cdv A outer s H vs Q E hr h => ?_)
  · obtain ⟨v, n, u, d, e, d2, rfl, _⟩ := h
    rfl
  · obtain ⟨v, n, u, d, en, d2, rfl, hd, hl, hn, hu, hbig, q1, q2⟩ := h
    refine ⟨_, (pss_cons (ps_if (PW.pt (pw_or (pt_not (pt_val (pe_callB (isiT K) (by rfl) B.mg_isinstance (by decide +kernel) (pa_cons (pv 0) (pa_cons (pe_tup (pa_cons (pe_ty (T := "list") B.mg_list) (pa_cons (pe_ty (T := "tuple") B.mg_tuple) pa_nil))) pa_nil))))) (pw_or1 (pt_not (pt_val (pe_callB (allS K rfl) (by rfl) B.mg_all (by decide +kernel) (pa_cons (pe_lc (own := [("item", 4)]) (g := gName 4) (tt := tYes) rfl sc_placed.nd (pi_seq (pv 0)) (blkOk_by (N := ["items", "many", "way", "rows", "item"]) (sc := defScope s_placed) (by decide +kernel)) (fun _ _ _ _ _ => (pg_name (i := 4) sc_placed.nd rfl (Or.inl rfl))) (fun _ _ _ _ _ => pts_nil) (fun _ _ _ _ _ => (pe_cal C_is_item hr (pa_cons (pv 4) pa_nil)))) pa_nil))))))) (pss_one (ps_raise rfl (takes_of rfl rfl rfl rfl) (pmk_err X_BadRing (by decide) (hr.mono (by decide)) (pa_cons (pv 0) pa_nil) (by rfl)))) pss_nil)
      (pss_cons (ps_if (PW.pt (pw_or (pt_cmpR op_lt (pe_callB call_lenD (by rfl) B.mg_len PySem.boot_len (pa_cons (pe_dc (own := [("item", 4)]) (g := gName 4) (tt := tYes) rfl sc_placed.nd (pi_seq (pv 0)) (blkOk_by (N := ["items", "many", "way", "rows", "item"]) (sc := defScope s_placed) (by decide +kernel)) (fun _ _ _ _ _ => (pg_name (i := 4) sc_placed.nd rfl (Or.inl rfl))) (fun _ _ _ _ _ => pts_nil) (fun _ _ _ _ _ => (pe_ix (ixT K) (pv 4) pe_int (fun _ _ => rfl))) (fun _ _ _ _ _ => (pv 4))) pa_nil)) (pe_callB (lenS K) (by rfl) B.mg_len PySem.boot_len (pa_cons (pv 0) pa_nil)) (nomark _)) (pw_or (pt_not (pt_val (pe_cal C_is_whole hr (pa_cons (pv 1) pa_nil)))) (pw_or1 (pt_cmpR op_le (pv 1) (pe_callB (lenS K) (by rfl) B.mg_len PySem.boot_len (pa_cons (pv 0) pa_nil)) (nomark _)))))) (pss_one (ps_raise rfl (takes_of rfl rfl rfl rfl) (pmk_err X_BadRing (by decide) (hr.mono (by decide)) (pa_cons (pv 0) pa_nil) (by rfl)))) pss_nil)
      (pss_cons (ps_expr (pe_calX (E := E) C_need_way hr (passes_call (takes_of rfl rfl rfl rfl) fun _ _ _ _ z => z) (pa_cons (pv 2) pa_nil)))
      (pss_cons (ps_set (i := 3) sc_placed.nd rfl (Or.inl rfl) (pe_op op_rep (pe_lst (pa_cons pe_non pa_nil)) (pv 1)))
      (pss_cons (ps_for (passes_of rfl) rfl (pi_seq (pv 0)) (pg_name (i := 4) sc_placed.nd rfl (Or.inl rfl)) (pss_one (ps_expr (pe_cal C_seat hr (pa_cons (pv 3) (pa_cons (pv 4) pa_nil))))))
      (pss_one (ps_ret (pe_callTy (tupS K) (by rfl) B.mg_tuple (by decide +kernel) (pa_cons (pv 3) pa_nil))))))))), ?_⟩
    -- the items
    have hseq : (inst "list" d || inst "tuple" d) = true → ∃ a xs ds, v = .ref a ∧ SqS K H a xs ∧ All2 (fun d v => Dp K H v d) ds xs ∧ isItems d = ds.all isItem ∧ xs.length ≤ 20000 ∧ (d = .list ds ∨ d = .tuple ds) := fun h => by
      cases d with
      | list ds =>
        obtain ⟨a, xs, rfl, hx, hall⟩ := dq_lst hd
        exact ⟨a, xs, ds, rfl, .inl hx, hall, rfl, by rw [hall.len]; exact hl, .inl rfl⟩
      | tuple ds =>
        obtain ⟨a, xs, rfl, hx, hall⟩ := dq_tup hd
        exact ⟨a, xs, ds, rfl, .inr hx, hall, rfl, by rw [hall.len]; exact hl, .inr rfl⟩
      | _ => cases h
    have hb0 : (!(inst "list" d || inst "tuple" d) || !isItems d) = !isItems d := by cases d <;> simp [inst, isItems]
    refine s_if (b := !isItems d) (et_is (et_or (a := !(inst "list" d || inst "tuple" d)) (b := !isItems d) (et_not (et_B (ev_isi2 (ev_var rfl) hd))) fun h => et_not (et_B ?_)) hb0) (fun h H1 e => ?_) (fun h H1 e => ?_)
    · obtain ⟨a, xs, ds, rfl, hx, hall, hi, hz, _⟩ := hseq (by cases hq : (inst "list" d || inst "tuple" d) with | true => rfl | false => rw [hq] at h; cases h)
      rw [hi]
      refine ev_allN ds isItem (ei_seq (ev_var rfl) hx) hall.len (by omega) fun i d' hd' x H2 e2 y => ?_
      obtain ⟨x', hx', hdp⟩ := hall.get hd'
      have ex : x' = x := Option.some.inj (hx'.symm.trans y)
      subst ex
      exact ⟨_, evg_name, rfl, ev_cal (ea_cons (ev_var rfl) ea_nil) fun H3 e3 => pure_B1 (dq_ex e3 (.d hdp))⟩
    · exact ⟨_, rfl, rfl, fun dd hdd => q1 (by simpa using h) dd H1 e hdd⟩
    have hi : isItems d = true := by simpa using h
    obtain ⟨a, xs, ds, rfl, hx, hall, hi2, hz, hds⟩ := hseq (by cases d <;> first | rfl | cases hi)
    rw [hi2] at hi
    obtain ⟨its, rfl, hits⟩ := items_rows hi
    obtain ⟨q3, q4⟩ := q2 its hds hits
    have hlen := hall.len
    rw [List.length_map] at hlen
    have hrow := rows_of hall
    have hx1 := ex_s e hx
    have hrow1 : All2 (fun r v => Dp K H1 v (Row.toD r)) its xs := hrow.imp fun _ _ _ z => dp_ex e _ _ z
    refine s_next ?_; dsimp only; refine s_cons ?_
    have hw : isWhole en = true → ∃ m, en = .int m ∧ n = .int m := fun hw => by
      cases en with
      | int m =>
        cases hn with
        | d hn => cases hn; exact ⟨m, rfl, rfl⟩
      | _ => cases hw
    have hkey : ∀ i x, i < xs.length → xs[i]? = some x → ∃ k h m, its.getD i .non = .it k h m ∧ Dp K H1 x (Row.toD (.it k h m)) := fun i x hi y => by
      have hi3 : i < its.length := by omega
      obtain ⟨x', hx', hdp⟩ := hrow1.get (List.getElem?_eq_getElem hi3)
      have ex : x' = x := Option.some.inj (hx'.symm.trans y)
      subst ex
      have e0 : its.getD i .non = its[i] := by simp [hi3]
      obtain ⟨k, m, e1⟩ := isIt_it (hits _ (List.getElem_mem hi3)).1
      exact ⟨k, _, m, by rw [e0]; exact e1, by rw [← e1]; exact hdp⟩
    have kl : (dcK xs.length (fun _ => true) (fun i => .inl (its.getD i .non).key) (fun i => xs.getD i .non)).length ≤ its.length ∧ ((dcK xs.length (fun _ => true) (fun i => .inl (its.getD i .non).key) (fun i => xs.getD i .non)).length = its.length ↔ (its.map Row.key).Nodup) := by
      have k1 := dcK_keys xs.length (fun i => .inl (its.getD i .non).key) (fun i => xs.getD i .non)
      have k2 : (List.range xs.length).map (fun i => (Sum.inl (its.getD i .non).key : Key)) = (its.map Row.key).map Sum.inl := by
        rw [List.map_map, hlen]
        exact List.ext_getElem (by simp) fun i h1 h2 => by
          simp only [List.length_map, List.length_range] at h1
          simp [h1]
      rw [k2] at k1
      have k3 : (dcK xs.length (fun _ => true) (fun i => .inl (its.getD i .non).key) (fun i => xs.getD i .non)).length = (keysOf ((its.map Row.key).map (Sum.inl : Int → Key))).length := by
        rw [← k1, List.length_map]
      obtain ⟨k4, k5⟩ := keysOf_len ((its.map Row.key).map (Sum.inl : Int → Key))
      have k6 : ((its.map Row.key).map (Sum.inl : Int → Key)).Nodup ↔ (its.map Row.key).Nodup := nodup_map (fun a b e => Sum.inl.inj e) _
      rw [k3, ← k6, ← k5]
      simp only [List.length_map] at k4 ⊢
      exact ⟨k4, trivial⟩
    let bad : Bool := decide (¬ (its.map Row.key).Nodup) || (!isWhole en || (match en with | .int m => decide (m ≤ its.length) | _ => false))
    refine s_if (b := bad) (et_or (a := decide (¬ (its.map Row.key).Nodup)) (et_is (et_test (ev_op (ev_lenDc (fun _ => true) (fun i => .inl (its.getD i .non).key) (fun i => xs.getD i .non) (ei_seq (ev_var rfl) hx1) (by omega) fun i hi x H2 e2 y => ?_) (ev_lenS (ev_var rfl) hx1) rv_I0)) ?_) fun _ => et_or (et_not (et_B (ev_cal (ea_cons (ev_var rfl) ea_nil) fun H2 e2 => pure_B1 (dq_ex (e.trans e2) hn)))) fun hwh => ?_) (fun h H2 e2 => ?_) (fun h H2 e2 => ?_)
    · obtain ⟨k, hh, m, e3, hdp⟩ := hkey i x hi y
      have e4 : xs.getD i .non = x := by simp [List.getD_eq_getElem?_getD, y]
      rw [e3, e4]
      refine ⟨_, evg_name, rfl, et_yes, fun _ => ⟨?_, ev_var rfl⟩⟩
      cases hdp with
      | tup hs ha =>
        cases ha with
        | cons a1 ha =>
          cases a1
          exact ev_op (ev_var rfl) ev_c (rv_ixT hs (atI_nat (j := 0) rfl))
    · obtain ⟨k1, k2⟩ := kl
      refine decide_eq_decide.mpr ?_
      rw [← k2]
      constructor <;> intro z <;> omega
    · obtain ⟨m, rfl, rfl⟩ := hw (by simpa using hwh)
      refine et_is (et_test (ev_op (ev_var rfl) (ev_lenS (ev_var rfl) hx1) rv_I0)) ?_
      rw [hlen]
    · refine ⟨_, rfl, rfl, fun dd hdd => q3 ?_ dd H2 (e.trans e2) hdd⟩
      rcases Bool.or_eq_true_iff.mp h with h | h
      · exact .inl (of_decide_eq_true h)
      · rcases Bool.or_eq_true_iff.mp h with h | h
        · exact .inr (.inl (by simpa using h))
        · cases en with
          | int m => exact .inr (.inr ⟨m, rfl, of_decide_eq_true h⟩)
          | _ => cases h
    obtain ⟨b1, b2⟩ := Bool.or_eq_false_iff.mp h
    obtain ⟨b2, b3⟩ := Bool.or_eq_false_iff.mp b2
    have hnd : (its.map Row.key).Nodup := by simpa using b1
    obtain ⟨m', rfl, rfl⟩ := hw (by simpa using b2)
    have hm' : ¬ m' ≤ its.length := of_decide_eq_false b3
    obtain ⟨m, rfl⟩ : ∃ m : Nat, m' = (m : Int) := ⟨m'.toNat, by omega⟩
    have hm5 : (m : Int) ≤ 50000 := hbig _ rfl
    obtain ⟨q5, q6⟩ := q4 m rfl (by omega) hnd
    have e12 := e.trans e2
    refine s_next ?_; dsimp only; refine s_cons ?_
    refine ⟨_, rfl, u, d2, rfl, dq_ex e12 hu, fun hW H3 e3 => ?_, fun hW => (q5 hW).ex e12⟩
    have e13 := e12.trans e3
    dsimp only; refine s_cons ?_
    refine s_asgL (xs := List.replicate m V.non) (fun H4 e4 Q4 k4 => ?_) fun l H4 nl e4 hl4 => ?_
    · refine (el_lst (ea_cons ev_c ea_nil) (by simp)) H4 e4 _ fun p H5 n5 e5 h5 => ⟨_, rfl, p, m, [.non], rfl, rfl, h5, by omega, by omega, by
        show 1 * ((m : Int)).toNat ≤ sizeLine
        rw [Int.toNat_natCast, Nat.one_mul]
        exact sz_of (by omega), fun p2 n6 => k4 p2 _ (fresh_back e5 n6) (e5.trans (Ex.new n6)) ?_⟩
      rw [upd_same, Int.toNat_natCast]
      simp
    dsimp only; refine s_cons ?_
    have e14 := e13.trans e4
    have nlH : H l = none := fresh_back e13 nl
    have fe := fill_empty m
    have emp : ∀ n, All2 (fun r v => Dp K H4 v (Row.toD r)) (List.replicate n Row.non) (List.replicate n V.non) := fun n => by
      induction n with
      | zero => exact .nil
      | succ n ih => exact .cons .non ih
    refine s_forI (Hb := H) (ei_seq (ev_var rfl) hx) e14 (fun i σ' H' => ∃ z ys rows, σ' = [some (.ref a), some (.int (m : Int)), some u, some (.ref l), z] ∧ Ex H H' ∧ H' l = some (.lst ys) ∧ All2 (fun r v => Dp K H' v (Row.toD r)) rows ys ∧ Fill m (its.take i) rows) (fun H5 e5 => ?_) (fun i σ' H' h => ?_) (fun i hi x σ' H' h H5 e5 y => ?_) (fun σ' H' h => ?_)
    · exact ⟨none, _, _, rfl, e14.trans e5, e5 _ _ hl4, (emp m).imp fun _ _ _ z => dp_ex e5 _ _ z, fe⟩
    · obtain ⟨z, ys, rows, rfl, h1, h2⟩ := h
      exact h1
    · obtain ⟨z, ys, rows, rfl, h1, h2, h3, h4⟩ := h
      have hi3 : i < its.length := by omega
      obtain ⟨x', hx', hdp⟩ := hrow.get (List.getElem?_eq_getElem hi3)
      have ex : x' = x := Option.some.inj (hx'.symm.trans y)
      subst ex
      have htk : its.take (i + 1) = its.take i ++ [its[i]] := by rw [List.take_succ, List.getElem?_eq_getElem hi3]; rfl
      have hit := (hits _ (List.getElem_mem hi3)).1
      have htl : (its.take i).length < m := by
        rw [List.length_take]; omega
      have htit : ∀ r ∈ its.take i, r.isIt = true := fun r hr => (hits r (List.mem_of_mem_take hr)).1
      have hno : ∀ r ∈ rows, r ≠ .sto := fun r hr z => by
        rcases h4.mem hr with h | h
        · have := htit r h
          rw [z] at this
          cases this
        · rw [z] at h
          cases h
      refine evg_name H5 (Ex.refl H5) _ fun H6 e6 => ?_
      have e56 := e5.trans e6
      refine ⟨_, rfl, _, rfl, l, x', rows, its[i], ys, rfl, e56 _ _ h2, h3.imp fun _ _ _ z => dp_ex e56 _ _ z, dp_ex (h1.trans e56) _ _ hdp, hit, hno, h4.non htit htl, fun H7 ys7 b7 l7 a7 => ?_⟩
      refine ⟨some x', ys7, seatM rows its[i], rfl, fun q o hq => b7 q o (fun z => by rw [z, nlH] at hq; cases hq) (h1.trans e56 _ _ hq), l7, a7, ?_⟩
      rw [htk]
      exact h4.next htit htl hit
    · obtain ⟨z, ys, rows, rfl, h1, h2, h3, h4⟩ := h
      dsimp only
      refine ⟨_, rfl, l, ys, rfl, .inl ⟨sq_of h2, fun p hp => ?_⟩⟩
      rw [hlen, List.take_length] at h4
      exact q6 hW p _ rows ys (fresh_back h1 hp) (h1.trans (Ex.new hp)) upd_same (h3.imp fun _ _ _ z => dp_ex (Ex.new hp) _ _ z) h4
end
end K40
set_option Elab.async false
set_option linter.all false
set_option maxRecDepth 100000
set_option maxHeartbeats 4000000
/-! BG: the bag of draws that every law of this set has: its dict, what a draw promises (any row). -/
namespace OR
open PySem PySem.Calls PySem.Spec PyProof.Rows L2
/-- the bag's pairs, in the order in which they are laid -/
def bagK (c : Addr) (i dg n f : Int) : List (Key × V) := [(.inr "cells", .ref c), (.inr "at", .int i), (.inr "digits", .int dg), (.inr "count", .int n), (.inr "fold", .int f)]
section
variable {H : Hp} {b c : Addr} {i dg n f x : Int}
theorem g_cells (h : H b = some (.dK (bagK c i dg n f))) : DGet H b (.str "cells") (some (.ref c)) := .inl ⟨_, .inr "cells", .inl h, rfl, by kernel_rfl⟩
theorem g_at (h : H b = some (.dK (bagK c i dg n f))) : DGet H b (.str "at") (some (.int i)) := .inl ⟨_, .inr "at", .inl h, rfl, by kernel_rfl⟩
theorem g_digits (h : H b = some (.dK (bagK c i dg n f))) : DGet H b (.str "digits") (some (.int dg)) := .inl ⟨_, .inr "digits", .inl h, rfl, by kernel_rfl⟩
theorem g_count (h : H b = some (.dK (bagK c i dg n f))) : DGet H b (.str "count") (some (.int n)) := .inl ⟨_, .inr "count", .inl h, rfl, by kernel_rfl⟩
theorem g_fold (h : H b = some (.dK (bagK c i dg n f))) : DGet H b (.str "fold") (some (.int f)) := .inl ⟨_, .inr "fold", .inl h, rfl, by kernel_rfl⟩
theorem bag_len : (bagK c i dg n f).length < sizeLine := small1000 (by show 5 ≤ 1000; decide)
theorem p_at (h : H b = some (.dK (bagK c i dg n f))) : DPut H b (.str "at") (.int x) (upd H b (.dK (bagK c x dg n f))) := .inl ⟨_, .inr "at", h, rfl, bag_len, by kernel_rfl⟩
theorem p_digits (h : H b = some (.dK (bagK c i dg n f))) : DPut H b (.str "digits") (.int x) (upd H b (.dK (bagK c i x n f))) := .inl ⟨_, .inr "digits", h, rfl, bag_len, by kernel_rfl⟩
theorem p_count (h : H b = some (.dK (bagK c i dg n f))) : DPut H b (.str "count") (.int x) (upd H b (.dK (bagK c i dg x f))) := .inl ⟨_, .inr "count", h, rfl, bag_len, by kernel_rfl⟩
theorem p_fold (h : H b = some (.dK (bagK c i dg n f))) : DPut H b (.str "fold") (.int x) (upd H b (.dK (bagK c i dg n x))) := .inl ⟨_, .inr "fold", h, rfl, bag_len, by kernel_rfl⟩
end
/-- a bag stands at b; at most N draws were made -/
structure Bag (b c : Addr) (i dg n f : Int) (cs : List Int) (N : Nat) (H : Hp) : Prop where
  hb : H b = some (.dK (bagK c i dg n f))
  hc : H c = some (.lst (cs.map V.int))
  hi : 0 ≤ i ∧ i ≤ cs.length
  hd : 0 ≤ dg
  hn : 0 ≤ n ∧ n ≤ N
  hf : 0 ≤ f ∧ f < 2147483587
  hl : cs.length ≤ 63
def BagAt (b : Addr) (N : Nat) (H : Hp) : Prop := ∃ c i dg n f cs, Bag b c i dg n f cs N H
/-- all stands but the bag -/
def But (b : Addr) (H H' : Hp) : Prop := ∀ p o, p ≠ b → H p = some o → H' p = some o
theorem But.refl {b : Addr} {H : Hp} : But b H H := fun _ _ _ h => h
theorem But.trans {b : Addr} {H H1 H2 : Hp} (x : But b H H1) (y : But b H1 H2) : But b H H2 := fun p o n h => y p o n (x p o n h)
theorem But.new {b p : Addr} {H : Hp} {o : HO} (h : H p = none) : But b H (upd H p o) := fun q u _ e => by
  rw [upd_ne (ne_of_none e h)]
  exact e
theorem BagAt.mono {b : Addr} {N M : Nat} {H : Hp} (x : BagAt b N H) (h : N ≤ M) : BagAt b M H := by
  obtain ⟨c, i, dg, n, f, cs, x⟩ := x
  exact ⟨c, i, dg, n, f, cs, x.hb, x.hc, x.hi, x.hd, ⟨x.hn.1, by have := x.hn.2; omega⟩, x.hf, x.hl⟩
/-- a new object -/
theorem BagAt.new {b p : Addr} {N : Nat} {H : Hp} {o : HO} (x : BagAt b N H) (h : H p = none) : BagAt b N (upd H p o) := by
  obtain ⟨c, i, dg, n, f, cs, x⟩ := x
  exact ⟨c, i, dg, n, f, cs, by rw [upd_ne (ne_of_none x.hb h)]; exact x.hb, by rw [upd_ne (ne_of_none x.hc h)]; exact x.hc, x.hi, x.hd, x.hn, x.hf, x.hl⟩
theorem BagAt.same {b : Addr} {N : Nat} {H H' : Hp} (x : BagAt b N H) (e : Same H H') : BagAt b N H' := by
  obtain ⟨c, i, dg, n, f, cs, x⟩ := x
  exact ⟨c, i, dg, n, f, cs, e _ _ x.hb, e _ _ x.hc, x.hi, x.hd, x.hn, x.hf, x.hl⟩
/-- a list is no bag -/
theorem BagAt.ne_lst {b p : Addr} {N : Nat} {H : Hp} {xs : List V} (x : BagAt b N H) (h : H p = some (.lst xs)) : p ≠ b := by
  obtain ⟨c, i, dg, n, f, cs, x⟩ := x
  exact ne_of h x.hb (by intro z; cases z)
theorem BagAt.ne_tup {b p : Addr} {N : Nat} {H : Hp} {xs : List V} (x : BagAt b N H) (h : H p = some (.tup xs)) : p ≠ b := by
  obtain ⟨c, i, dg, n, f, cs, x⟩ := x
  exact ne_of h x.hb (by intro z; cases z)
theorem But.of {b : Addr} {H H' : Hp} (e : Same H H') : But b H H' := fun p o _ h => e p o h
/-- what a draw promises -/
def spDraw : Sp := fun vs H Q _ => ∃ (b : Addr) (l : Int) (N : Nat), vs = [.ref b, .int l] ∧ BagAt b N H ∧ N < 2 ^ 40 ∧ 0 < l ∧ l < 2 ^ 200 ∧
  ∀ (d : Int) (H' : Hp), 0 ≤ d → d < l → BagAt b (N + 1) H' → (∀ p, p ≠ b → H' p = H p) → Q (.int d) H'
/-- what the bag's making promises -/
def spBag (K : PySem.W.Frag) : Sp := fun vs H Q _ => ∃ (a : Addr) (ns : List Int), vs = [.ref a] ∧ SqL K H a (ns.map V.int) ∧ ns.length ≤ 63 ∧
  ∀ (b : Addr) (H' : Hp), H b = none → BagAt b 0 H' → (∀ p o, H p = some o → H' p = some o) → Q (.ref b) H'
end OR
set_option Elab.async false
set_option linter.all false
set_option maxRecDepth 100000
set_option maxHeartbeats 4000000
/-! BG2: the bag with its list of cells told. -/
namespace OR
open PySem PySem.Calls PySem.Spec PyProof.Rows L2 Evl
def BagC (b c : Addr) (N : Nat) (H : Hp) : Prop := ∃ i dg n f cs, Bag b c i dg n f cs N H
theorem BagC.mono {b c : Addr} {N M : Nat} {H : Hp} (x : BagC b c N H) (h : N ≤ M) : BagC b c M H := by
  obtain ⟨i, dg, n, f, cs, x⟩ := x
  exact ⟨i, dg, n, f, cs, x.hb, x.hc, x.hi, x.hd, ⟨x.hn.1, by have := x.hn.2; omega⟩, x.hf, x.hl⟩
/-- where b and c stay -/
theorem BagC.stay {b c : Addr} {N : Nat} {H H' : Hp} (x : BagC b c N H) (h1 : H' b = H b) (h2 : H' c = H c) : BagC b c N H' := by
  obtain ⟨i, dg, n, f, cs, x⟩ := x
  exact ⟨i, dg, n, f, cs, h1.trans x.hb, h2.trans x.hc, x.hi, x.hd, x.hn, x.hf, x.hl⟩
theorem BagC.ex {b c : Addr} {N : Nat} {H H' : Hp} (x : BagC b c N H) (e : Ex H H') : BagC b c N H' := by
  obtain ⟨i, dg, n, f, cs, x⟩ := x
  exact ⟨i, dg, n, f, cs, e _ _ x.hb, e _ _ x.hc, x.hi, x.hd, x.hn, x.hf, x.hl⟩
theorem BagC.new {b c p : Addr} {N : Nat} {H : Hp} {o : HO} (x : BagC b c N H) (h : H p = none) : BagC b c N (upd H p o) := x.ex (Ex.new h)
theorem BagC.upd {b c p : Addr} {N : Nat} {H : Hp} {o : HO} (x : BagC b c N H) (h1 : p ≠ b) (h2 : p ≠ c) : BagC b c N (upd H p o) := x.stay (upd_ne (Ne.symm h1)) (upd_ne (Ne.symm h2))
theorem BagC.nb {b c : Addr} {N : Nat} {H : Hp} (x : BagC b c N H) : H b ≠ none := by
  obtain ⟨i, dg, n, f, cs, x⟩ := x
  rw [x.hb]; simp
theorem BagC.nc {b c : Addr} {N : Nat} {H : Hp} (x : BagC b c N H) : H c ≠ none := by
  obtain ⟨i, dg, n, f, cs, x⟩ := x
  rw [x.hc]; simp
theorem BagC.ne_lst {b c p : Addr} {N : Nat} {H : Hp} {xs : List V} (x : BagC b c N H) (h : H p = some (.lst xs)) : p ≠ b := by
  obtain ⟨i, dg, n, f, cs, x⟩ := x
  exact ne_of h x.hb (by intro z; cases z)
theorem BagC.ne_tup {b c p : Addr} {N : Nat} {H : Hp} {xs : List V} (x : BagC b c N H) (h : H p = some (.tup xs)) : p ≠ b := by
  obtain ⟨i, dg, n, f, cs, x⟩ := x
  exact ne_of h x.hb (by intro z; cases z)
def spDrawC : Sp := fun vs H Q _ => ∃ (b c : Addr) (l : Int) (N : Nat), vs = [.ref b, .int l] ∧ BagC b c N H ∧ N < 2 ^ 40 ∧ 0 < l ∧ l < 2 ^ 200 ∧
  ∀ (d : Int) (H' : Hp), 0 ≤ d → d < l → BagC b c (N + 1) H' → (∀ p, p ≠ b → H' p = H p) → Q (.int d) H'
def spBagC (K : PySem.W.Frag) : Sp := fun vs H Q _ => ∃ (a : Addr) (ns : List Int), vs = [.ref a] ∧ SqL K H a (ns.map V.int) ∧ ns.length ≤ 63 ∧
  ∀ (b c : Addr) (H' : Hp), H b = none → H c = none → BagC b c 0 H' → (∀ p o, H p = some o → H' p = some o) → Q (.ref b) H'
theorem But.ex {b : Addr} {H H' : Hp} (e : Ex H H') : But b H H' := fun p o _ h => e p o h
/-- data stays data where all but the bag stays -/
theorem sqL_but {K : PySem.W.Frag} {b c : Addr} {N : Nat} {H H' : Hp} {a : Addr} {xs : List V} (hb : BagC b c N H) (e : But b H H') (h : SqL K H a xs) : SqL K H' a xs := by
  obtain ⟨i, dg, n, f, cs, B⟩ := hb
  rcases h with (h | ⟨o, h⟩) | h
  · exact .inl (.inl (e _ _ (ne_of h B.hb (by intro z; cases z)) h))
  · exact .inl (.inr ⟨o, e _ _ (ne_of h B.hb (by intro z; cases z)) h⟩)
  · exact .inr h
theorem sqT_but {K : PySem.W.Frag} {b c : Addr} {N : Nat} {H H' : Hp} {a : Addr} {xs : List V} (hb : BagC b c N H) (e : But b H H') (h : SqT K H a xs) : SqT K H' a xs := by
  obtain ⟨i, dg, n, f, cs, B⟩ := hb
  rcases h with (h | ⟨o, h⟩) | h
  · exact .inl (.inl (e _ _ (ne_of h B.hb (by intro z; cases z)) h))
  · exact .inl (.inr ⟨o, e _ _ (ne_of h B.hb (by intro z; cases z)) h⟩)
  · exact .inr h
mutual
theorem dpC_but {K : PySem.W.Frag} {b c : Addr} {N : Nat} {H H' : Hp} (hb : BagC b c N H) (e : But b H H') : ∀ (d : PyData) (v : V), Dp K H v d → Dp K H' v d
  | .none, _, h => by cases h; exact .non
  | .bool b, _, h => by cases h; exact .bl b
  | .int i, _, h => by cases h; exact .int i
  | .str x, _, h => by cases h; exact .str x
  | .list ds, _, h => by cases h with | lst hs ha => exact .lst (sqL_but hb e hs) (dpC_butAll hb e ds _ ha)
  | .tuple ds, _, h => by cases h with | tup hs ha => exact .tup (sqT_but hb e hs) (dpC_butAll hb e ds _ ha)
  | .dict _, _, h => by cases h
theorem dpC_butAll {K : PySem.W.Frag} {b c : Addr} {N : Nat} {H H' : Hp} (hb : BagC b c N H) (e : But b H H') : ∀ (ds : List PyData) (vs : List V), DpAll K H vs ds → DpAll K H' vs ds
  | [], _, h => by cases h; exact .nil
  | d :: ds, _, h => by cases h with | cons h1 h2 => exact .cons (dpC_but hb e d _ h1) (dpC_butAll hb e ds _ h2)
end
/-- all but the bag's dict stays the same: both ways -/
theorem But.eqs {b : Addr} {H H' : Hp} (h : ∀ p, p ≠ b → H' p = H p) : But b H H' := fun p o n e => by rw [h p n]; exact e
end OR
set_option Elab.async false
set_option linter.all false
set_option maxRecDepth 100000
set_option maxHeartbeats 4000000
namespace K40
open PySem PySem.Calls PySem.Spec PyProof.Rows L2 OR
abbrev s__law_bag : Stmt := top 26
theorem sc__law_bag : FnScope ["script", "fold", "cell"] ["script"] (defScope s__law_bag) := ⟨rfl, rfl, rfl, by decide +kernel, rfl, by decide +kernel, by decide +kernel⟩
abbrev s__law_draw : Stmt := top 27
theorem sc__law_draw : FnScope ["bag", "limit", "cell", "digit", "base"] ["bag", "limit"] (defScope s__law_draw) := ⟨rfl, rfl, rfl, by decide +kernel, rfl, by decide +kernel, by decide +kernel⟩
section
variable {P : Program} {w : World} {K : PySem.W.Frag} {mg : Str → Option Value} {base : Heap}
theorem ok__law_bag {f : Addr} {fd : FuncData} (F : Fun K "_law_bag" "_law_bag" s__law_bag f fd) (mg_int : mg "int" = none) (mg_list : mg "list" = none) : FnOk P w K mg base CX0 1 f fd ["script"] (spBagC K) := by
  refine F.ok sc__law_bag (fun vs H Q E h => ?_) (fun cdv A outer s H vs Q E hr h => ?_)
  · obtain ⟨a, ns, rfl, _⟩ := h
    rfl
  · obtain ⟨a, ns, rfl, hS, hl, k⟩ := h
    refine ⟨_, (pss_cons (ps_set (i := 1) sc__law_bag.nd rfl (.inl rfl) pe_int)
      (pss_cons (ps_for PassesOwn.never rfl (pi_list (pv 0)) (pg_name (i := 2) sc__law_bag.nd rfl (.inl rfl)) (pss_one (ps_set (i := 1) sc__law_bag.nd rfl (.inl rfl) (pe_op op_mod (pe_callTy call_int1 (by rfl) mg_int (by decide +kernel) (pa_cons (pe_op op_add (pe_op op_mul (pv 1) pe_int) (pv 2)) pa_nil)) pe_int))))
      (pss_one (ps_ret (pe_disp (pps_cons pe_str (pe_callTy call_list_of (by rfl) mg_list (by decide +kernel) (pa_cons (pv 0) pa_nil)) (pps_cons pe_str pe_int (pps_cons pe_str pe_int (pps_cons pe_str pe_int (pps_cons pe_str (pv 1) pps_nil))))) (by rfl) (by rfl) (fun z => by cases z) (by decide)))))), ?_⟩
    refine ⟨_, rfl, a, rfl, ⟨_, hS⟩, for_list (xs := ns.map V.int) (fun i σ H' => H' = H ∧ ∃ (f : Int) (z : Option V), σ = [some (.ref a), some (.int f), z] ∧ 0 ≤ f ∧ f < 1000000009) ⟨rfl, 0, none, rfl, by decide, by decide⟩ (fun i σ H' hi p => ?_) (fun i x σ H' hx p => ?_) (fun σ H' p => ?_)⟩
    · obtain ⟨rfl, _⟩ := p
      exact hS
    · obtain ⟨rfl, f, z, rfl, h0, h1⟩ := p
      obtain ⟨n, rfl⟩ : ∃ n, x = V.int n := by
        rw [List.getElem?_map] at hx
        cases e : ns[i]? with
        | none => rw [e] at hx; cases hx
        | some n => rw [e] at hx; exact ⟨n, (Option.some.inj hx).symm⟩
      refine ⟨_, rfl, _, _, rfl, rfl, .inr ⟨by decide, by decide⟩, _, rfl, _, _, rfl, rfl, .inl ⟨_, rfl, _, _, rfl, rfl, (by show (0 : Int) < 1000000009; decide), ?_⟩⟩
      exact ⟨rfl, (f * 37 + n) % 1000000009, some (.int n), rfl, Int.emod_nonneg _ (by decide), Int.emod_lt_of_pos _ (by decide)⟩
    · obtain ⟨rfl, f, z, rfl, h0, h1⟩ := p
      intro p hp
      have e1 : Same H' (upd H' p (.dK [])) := fun b o e => by rw [upd_ne (ne_of_none e hp)]; exact e
      refine ⟨_, rfl, a, _, rfl, .inl (e1.seq hS), fun l hlp => ?_⟩
      have nlp : p ≠ l := ne_of_none upd_same hlp
      have hl' : H' l = none := by rw [upd_ne (Ne.symm nlp)] at hlp; exact hlp
      refine ⟨_, rfl, by rw [upd_ne nlp, upd_same], [(.inr "cells", .ref l), (.inr "at", .int 0), (.inr "digits", .int 0), (.inr "count", .int 0), (.inr "fold", .int f)], rfl, by show 5 ≤ 15; decide, ?_⟩
      have em : mergeK [] [((.inr "cells" : Key), V.ref l), (.inr "at", .int 0), (.inr "digits", .int 0), (.inr "count", .int 0), (.inr "fold", .int f)] = bagK l 0 0 0 f := by kernel_rfl
      rw [em]
      refine k p l _ hp (by rw [upd_ne (Ne.symm nlp)] at hlp; exact hlp) ⟨0, 0, 0, f, ns, upd_same, by rw [upd_ne (Ne.symm nlp), upd_same], ⟨by decide, by omega⟩, by decide, ⟨by decide, by decide⟩, ⟨h0, by omega⟩, hl⟩ fun q o e => ?_
      rw [upd_ne (ne_of_none e hp), upd_ne (ne_of_none e hl'), upd_ne (ne_of_none e hp)]
      exact e
theorem ok__law_draw {f : Addr} {fd : FuncData} (F : Fun K "_law_draw" "_law_draw" s__law_draw f fd) (mg_int : mg "int" = none) (mg_len : mg "len" = none) : FnOk P w K mg base CX0 1 f fd ["bag", "limit"] spDrawC := by
  refine F.ok sc__law_draw (fun vs H Q E h => ?_) (fun cdv A outer s H vs Q E hr h => ?_)
  · obtain ⟨b, c, l, N, rfl, _⟩ := h
    rfl
  · obtain ⟨b, c, l, N, rfl, hB, hN, hl0, hl1, k⟩ := h
    have hu := hu_of hr
    refine ⟨_, (pss_cons (ps_dput hu (pv 0) pe_str (pe_op op_add (pe_dget hu (pv 0) pe_str (fun _ _ => rfl)) pe_int) rfl)
      (Evl.pss_cut (ps_if (PW.pt (pw_and (pt_cmpR op_eq (pe_dget hu (pv 0) pe_str (fun _ _ => rfl)) pe_int (nomark _)) (pw_and1 (pt_cmpR op_lt (pe_dget hu (pv 0) pe_str (fun _ _ => rfl)) (pe_callB call_len_seq (by rfl) mg_len PySem.boot_len (pa_cons (pe_dget hu (pv 0) pe_str (fun _ _ => rfl)) pa_nil)) (nomark _))))) (pss_cons (ps_set (i := 2) sc__law_draw.nd rfl (.inl rfl) (pe_ix ix_list (pe_dget hu (pv 0) pe_str (fun _ _ => rfl)) (pe_dget hu (pv 0) pe_str (fun _ _ => rfl)) (fun _ _ => rfl)))
      (pss_cons (ps_dput hu (pv 0) pe_str (pe_op op_add (pe_dget hu (pv 0) pe_str (fun _ _ => rfl)) pe_int) rfl)
      (pss_one (ps_if (pt_cmpR op_ge (pv 2) (pe_op op_pow pe_int pe_int) (nomark _)) (pss_one (ps_dput hu (pv 0) pe_str (pe_op op_sub (pv 2) (pe_op op_pow pe_int pe_int)) rfl)) (pss_one (ps_dput hu (pv 0) pe_str (pe_op op_mod (pe_callTy call_int1 (by rfl) mg_int (by decide +kernel) (pa_cons (pe_op op_add (pe_op op_mul (pe_dget hu (pv 0) pe_str (fun _ _ => rfl)) pe_int) (pv 2)) pa_nil)) pe_int) rfl)))))) pss_nil)
      (pss_cons (ps_if (pt_cmpR op_gt (pe_dget hu (pv 0) pe_str (fun _ _ => rfl)) pe_int (nomark _)) (pss_cons (ps_set (i := 3) sc__law_draw.nd rfl (.inl rfl) (pe_op op_mod (pe_callTy call_int1 (by rfl) mg_int (by decide +kernel) (pa_cons (pe_dget hu (pv 0) pe_str (fun _ _ => rfl)) pa_nil)) (pv 1)))
      (pss_cons (ps_dput hu (pv 0) pe_str (pe_op op_fdivW (pe_dget hu (pv 0) pe_str (fun _ _ => rfl)) (pv 1)) rfl)
      (pss_one (ps_ret (pv 3))))) pss_nil)
      (pss_cons (ps_set (i := 4) sc__law_draw.nd rfl (.inl rfl) (pe_op op_add (pe_op op_add (pe_dget hu (pv 0) pe_str (fun _ _ => rfl)) (pe_op op_mul (pe_dget hu (pv 0) pe_str (fun _ _ => rfl)) pe_int)) pe_int))
      (pss_one (ps_ret (pe_op op_mod (pe_op op_fdivW (pe_callTy call_int1 (by rfl) mg_int (by decide +kernel) (pa_cons (pe_op op_mod (pe_op op_pow (pv 4) pe_int) pe_int) pa_nil)) pe_int) (pv 1)))))))), ?_⟩
    obtain ⟨i, dg, n, f, cs, B⟩ := hB
    have ncb : c ≠ b := ne_of B.hc B.hb (by intro z; cases z)
    -- bag["count"] = bag["count"] + 1
    refine ⟨_, rfl, b, _, rfl, g_count B.hb, _, _, rfl, rfl, _, rfl, b, _, rfl, p_count B.hb, ?_⟩
    refine ⟨fun σ' H' => ∃ (i dg f : Int) (z : Option V), σ' = [some (.ref b), some (.int l), z, none, none] ∧ Bag b c i dg (n + 1) f cs (N + 1) H' ∧ ∀ p, p ≠ b → H' p = H p, ?_, ?_⟩
    · have hb1 : upd H b (.dK (bagK c i dg (n + 1) f)) b = some (.dK (bagK c i dg (n + 1) f)) := upd_same
      have hc1 : ∀ {kv}, upd H b (.dK kv) c = some (.lst (cs.map V.int)) := fun {kv} => by rw [upd_ne ncb]; exact B.hc
      have off : ∀ {kv} (p : Addr), p ≠ b → upd H b (.dK kv) p = H p := fun {kv} p hp => upd_ne hp
      have hn1 : 0 ≤ n + 1 ∧ n + 1 ≤ ((N + 1 : Nat) : Int) := ⟨by have := B.hn; omega, by have := B.hn; omega⟩
      have B1 : Bag b c i dg (n + 1) f cs (N + 1) (upd H b (.dK (bagK c i dg (n + 1) f))) := ⟨hb1, hc1, B.hi, B.hd, hn1, B.hf, B.hl⟩
      refine ⟨_, rfl, b, _, rfl, g_digits hb1, rfl, _, rfl, ite2 (fun h => ?_) (fun h => ?_)⟩
      · refine ⟨_, rfl, b, _, rfl, g_at hb1, _, rfl, b, _, rfl, g_cells hb1, c, _, rfl, .inl (SqL.of hc1), _, _, rfl, rfl, _, rfl, ite2 (fun h2 => ?_) (fun h2 => ?_)⟩
        · have h2 : i < ((cs.map V.int).length : Int) := of_decide_eq_true h2
          rw [List.length_map] at h2
          obtain ⟨j, hj⟩ : ∃ j : Nat, i = (j : Int) := ⟨i.toNat, by have := B.hi.1; omega⟩
          have hlt : j < cs.length := by omega
          refine ⟨_, rfl, b, _, rfl, g_cells hb1, _, rfl, b, _, rfl, g_at hb1, c, _, i, _, rfl, rfl, SqL.of hc1, at_of (v := V.int cs[j]) hj (by rw [List.getElem?_map, List.getElem?_eq_getElem hlt]; rfl), ?_⟩
          refine ⟨_, rfl, b, _, rfl, g_at hb1, _, _, rfl, rfl, _, rfl, b, _, rfl, p_at hb1, ?_⟩
          rw [upd_upd]
          refine ⟨_, rfl, _, _, rfl, rfl, ⟨by decide, by decide, by decide⟩, _, _, rfl, rfl, _, rfl, ite2 (fun h3 => ?_) (fun h3 => ?_)⟩
          · have h3 : (10 : Int) ^ (18 : Int).toNat ≤ cs[j] := of_decide_eq_true h3
            refine ⟨_, rfl, _, _, rfl, rfl, ⟨by decide, by decide, by decide⟩, _, _, rfl, rfl, _, rfl, b, _, rfl, p_digits upd_same, ?_⟩
            rw [upd_upd]
            exact ⟨i + 1, _, f, _, rfl, ⟨upd_same, hc1, by omega, by omega, hn1, B.hf, B.hl⟩, off⟩
          · refine ⟨_, rfl, b, _, rfl, g_fold upd_same, _, _, rfl, rfl, .inr ⟨by decide, by decide⟩, _, rfl, _, _, rfl, rfl, .inl ⟨_, rfl, _, _, rfl, rfl, (by show (0 : Int) < 2147483587; decide), _, rfl, b, _, rfl, p_fold upd_same, ?_⟩⟩
            rw [upd_upd]
            exact ⟨i + 1, dg, _, _, rfl, ⟨upd_same, hc1, by omega, B.hd, hn1, ⟨Int.emod_nonneg _ (by decide), Int.emod_lt_of_pos _ (by decide)⟩, B.hl⟩, off⟩
        · exact ⟨i, dg, f, none, rfl, B1, off⟩
      · refine iteF ?_
        exact ⟨i, dg, f, none, rfl, B1, off⟩
    · rintro σ' H' ⟨i, dg, f, z, rfl, B2, e2⟩
      have off2 : ∀ {kv} (p : Addr), p ≠ b → upd H' b (.dK kv) p = H p := fun {kv} p hp => (upd_ne hp).trans (e2 p hp)
      have hc2 : ∀ {kv}, upd H' b (.dK kv) c = some (.lst (cs.map V.int)) := fun {kv} => by rw [upd_ne ncb]; exact B2.hc
      refine ⟨_, rfl, b, _, rfl, g_digits B2.hb, _, _, rfl, rfl, _, rfl, ite2 (fun h => ?_) (fun h => ?_)⟩
      · have h : (0 : Int) < dg := of_decide_eq_true h
        refine ⟨_, rfl, b, _, rfl, g_digits B2.hb, .inl ⟨_, rfl, _, rfl, _, _, rfl, rfl, hl0, ?_⟩⟩
        refine ⟨_, rfl, b, _, rfl, g_digits B2.hb, _, rfl, _, _, rfl, rfl, wide_div (b := 200) hl0 (by omega) (by decide) (by decide), _, rfl, b, _, rfl, p_digits B2.hb, _, rfl, ?_⟩
        exact k _ _ (Int.emod_nonneg _ (by omega)) (Int.emod_lt_of_pos _ hl0) ⟨i, _, n + 1, f, cs, upd_same, hc2, B2.hi, Int.ediv_nonneg (by omega) (by omega), B2.hn, B2.hf, B2.hl⟩ off2
      · refine ⟨_, rfl, b, _, rfl, g_fold B2.hb, _, rfl, b, _, rfl, g_count B2.hb, _, _, rfl, rfl, .inr ⟨by decide, by decide⟩, _, _, rfl, rfl, _, _, rfl, rfl, ?_⟩
        have hpow : (f + (n + 1) * 7907 + 31).natAbs < 2 ^ 64 := by
          have h1 := B2.hf
          have h2 := B2.hn
          omega
        refine ⟨_, rfl, _, _, rfl, rfl, ⟨by decide, by decide, hpow⟩, _, _, rfl, rfl, (by show (0 : Int) < 2305843009213693951; decide), .inl ⟨_, rfl, _, _, rfl, rfl, wide_div (b := 8) (by decide) (by decide) (by decide) (by decide), _, rfl, _, _, rfl, rfl, hl0, ?_⟩⟩
        exact k _ _ (Int.emod_nonneg _ (by omega)) (Int.emod_lt_of_pos _ hl0) ⟨i, dg, n + 1, f, cs, B2⟩ e2
end
end K40
set_option Elab.async false
set_option linter.all false
set_option maxRecDepth 100000
set_option maxHeartbeats 4000000
/-! SO: sorted of a tuple of tuples of numbers. -/
namespace OR
open PySem PySem.Calls PySem.Spec PyProof.Rows L2 Evl TS
section
variable {prog : Program} {w : World} {A : Around} {E : Value → Shared → Prop} {s : Shared}
def colH (h : Heap) (vs : List Value) : Heap := (h.push (seqObj "list" #[] 0)).update h.objs.size (Obj.mapSeq (· ++ vs.toArray))
theorem colT {t : Addr} {vs : List Value} {Q : List Value → Shared → Prop} (ht : s.heap.IsTuple t vs.toArray) (hz : vs.length ≤ 1000) (h : Q vs { s with heap := colH s.heap vs }) : wpAny (model prog w) A (collect (.ref t)) Q E s := by
  obtain ⟨o, ho, hc, n, hd⟩ := id ht
  have up : (s.heap.push (seqObj "list" #[] 0)).get? t = some o := Heap.get?_push_of_some _ ho
  have ne : (s.heap.push (seqObj "list" #[] 0)).get? s.heap.objs.size = some (seqObj "list" #[] 0) := Heap.get?_push_size _ rfl
  unfold collect
  refine wpAny_bind (wpAny_runValue (codeAny_builtin entry_proto_collect' ?_))
  refine wpAny_bind (wpAny_newList (wpAny_pure ⟨Code.quiet_builtin _ (by decide +kernel), codeAny_builtin entry_list_iadd' ?_⟩))
  show wpAny _ _ (Builtin.List.listExtendWith (.ref s.heap.objs.size) (.ref t) (.ref s.heap.objs.size)) _ _ { s with heap := s.heap.push (seqObj "list" #[] 0) }
  unfold Builtin.List.listExtendWith
  refine wpAny_bind (wpAny_typeOf (T := "tuple") ⟨o, up, hc⟩ ?_)
  rw [if_pos (by rw [show (Value.type "tuple" == Value.type "tuple") = true from rfl]; simp)]
  refine wpAny_bind (listItems_at up hd (wpAny_bind (listItems_at (xs := #[]) (n := 0) ne rfl ?_)))
  rw [if_neg (by simp)]
  refine wpAny_bind (listUpdate_at (xs := #[]) (n := 0) ne rfl ?_ (Nat.zero_le _) ?_)
  · refine wpAny_pure (wpAny_bind (wpAny_load (get?_update_seq ne _) ?_))
    show wpAny _ _ (pure ((#[] : Array Value) ++ vs.toArray).toList) Q E _
    have e : ((#[] : Array Value) ++ vs.toArray).toList = vs := by simp
    rw [e]
    exact wpAny_pure h
  · have e : ((#[] : Array Value) ++ vs.toArray).size = vs.length := by simp
    show ((#[] : Array Value) ++ vs.toArray).size ≤ _
    rw [e]
    exact Nat.le_trans hz (by decide)
theorem sortedT {t : Addr} {vs : List Value} {d : Nat} {B : Int} {Q : Value → Shared → Prop} (ht : s.heap.IsTuple t vs.toArray) (h64 : vs.length < 64) (hd : 1 ≤ d) (x : TupsOk s.heap d B vs)
    (h : ∀ out : Array Value, out.toList.Perm vs → out.toList.Pairwise (fun u v => code B (intsOf s.heap u) ≤ code B (intsOf s.heap v)) → Q (.ref (s.heap.objs.size + 1)) { s with heap := sortedAll s.heap vs out }) :
    wpAny (model prog w) A (call (.builtin "sorted") [.ref t]) Q E s := by
  have z1 : (colH s.heap vs).objs.size = s.heap.objs.size + 1 := by unfold colH; rw [Heap.size_update, size_push']
  have at1 : ((colH s.heap vs).push (seqObj "list" vs.toArray 0)).get? (s.heap.objs.size + 1) = some (seqObj "list" vs.toArray 0) := by rw [← z1]; exact Heap.get?_push_size _ rfl
  have old : ∀ b o, s.heap.get? b = some o → o.cls = .type "tuple" → ((colH s.heap vs).push (seqObj "list" vs.toArray 0)).get? b = some o := fun b o q _ => by
    have lt : b < s.heap.objs.size := Heap.lt_size q
    rw [Heap.get?_push_ne _ _ _ (by rw [z1]; exact Nat.ne_of_lt (Nat.lt_succ_of_lt lt))]
    unfold colH
    rw [Heap.get?_update_ne _ _ _ _ (Nat.ne_of_lt lt), Heap.get?_push_ne _ _ _ (Nat.ne_of_lt lt)]
    exact q
  refine Calls.call_function_entry kind_sorted plain_sorted entry_sorted (args_sorted1 _) ?_
  unfold Builtin.«sorted»
  refine wpAny_bind (m := checkCount "sorted" 1 1 _) (wpAny_pure (wpAny_bind (colT ht (by omega) (wpAny_bind (wpAny_newList ?_ (by rw [sizeLine_eq]; omega))))))
  show wpAny _ _ _ _ _ { s with heap := (colH s.heap vs).push (seqObj "list" vs.toArray 0) }
  have e1 : ({ s with heap := colH s.heap vs } : Shared).heap.objs.size = s.heap.objs.size + 1 := z1
  rw [e1]
  refine wpAny_bind (wpAny_holding (wpAny_call_entry slot_list_sort ⟨_, at1, rfl⟩ entry_list_sort (sort_tups at1 h64 hd (x.keeps old) (fun v => code B (intsOf s.heap v)) (fun v hv ns q => ?_) fun out a1 a2 => ⟨_, rfl, wpAny_pure ⟨_, rfl, h out a1 a2⟩⟩) (args_list_sort _)))
  obtain ⟨ns0, t0, _⟩ := x v hv
  have en : ns = ns0 := q.ints.symm.trans (t0.keeps old).ints
  subst en
  show code B (intsOf s.heap v) = code B ns
  rw [t0.ints]
end
section
variable {X : Cx}
def rSortTU (K : PySem.W.Frag) (d : Nat) (B : Int) : List V → Hp → VK → Prop := fun vs H Q => ∃ (a : Addr) (xs : List V), vs = [V.ref a] ∧ SqT K H a xs ∧ xs.length < 64 ∧ (∀ x ∈ xs, ∃ ns, TupI K H x ns ∧ ns.length = d ∧ TS.Bd B ns) ∧
  ∀ (ys : List V) (p : Addr), ys.Perm xs → ys.Pairwise (fun x y => ∀ n m, TupI K H x n → TupI K H y m → TS.code B n ≤ TS.code B m) → H p = none → Q (.ref p) (upd H p (.lst ys))
theorem cr_sortTU {d : Nat} {B : Int} (hd : 1 ≤ d) : CallR X (.builtin "sorted") (rSortTU X.K d B) := by
  intro pins s σ H vs us Q I r h
  obtain ⟨a, xs, rfl, hs, h64, hx, q⟩ := h
  obtain ⟨its, rv, hl, hz⟩ := I.tuple hs
  rw [Vals.ref1 r]
  have tp : s.heap.IsTuple a its.toArray := hl
  obtain ⟨e1, e2⟩ := bkV_refs rv fun x m => let ⟨_, ⟨t, e, _⟩, _⟩ := hx x m; ⟨t, e⟩
  refine sortedT (d := d) (B := B) tp (by rw [← rv.length]; exact h64) hd (fun v hv => ?_) fun out h1 h2 => ?_
  · obtain ⟨t, rfl⟩ := e2 v hv
    obtain ⟨ns, ⟨t', e, ht⟩, hn, hb⟩ := hx (V.ref t) (by rw [e1]; exact List.mem_map.mpr ⟨_, hv, rfl⟩)
    cases e
    exact ⟨ns, tupI_raw I ht, hn, hb⟩
  · obtain ⟨ep, at2⟩ := PyProof.Rows.sortedAll_at s.heap its out
    have h3 : ∀ u ∈ out.toList, ∃ a, u = Value.ref a := fun u hu => e2 u (h1.mem_iff.mp hu)
    have hp : (out.toList.map bkV).Perm xs := by
      rw [e1]
      exact h1.map bkV
    refine ⟨.ref _, upd H (s.heap.objs.size + 1) (.lst (out.toList.map bkV)), I.laid (t' := s.toks) (fun _ _ => PyProof.Rows.sortedAll_old) (Nat.le_succ _) ⟨by rw [hp.length_eq]; exact sz_of (by omega), out.toList, ep, bkV_vals h3, at2⟩, rfl, q _ _ hp ?_ (I.hok.fresh (Nat.le_succ _))⟩
    rw [List.pairwise_map]
    refine List.Pairwise.imp (fun {u v} huv n m hn hm => ?_) h2
    obtain ⟨t, et, ht⟩ := hn
    obtain ⟨t', et', ht'⟩ := hm
    have i1 : TS.intsOf s.heap u = n := by
      rw [bkV_ref et]
      exact (tupI_raw I ht).ints
    have i2 : TS.intsOf s.heap v = m := by
      rw [bkV_ref et']
      exact (tupI_raw I ht').ints
    rw [← i1, ← i2]
    exact huv
end
end OR
set_option Elab.async false
set_option linter.all false
set_option maxRecDepth 100000
set_option maxHeartbeats 4000000
/-! EQ: tuples of the same things, whatever these are. -/
namespace OR
open PySem PySem.Calls PySem.Spec PyProof.Rows L2 Evl
def rNeS (K : PySem.W.Frag) : R2 := fun x y H Q => ∃ a b xs, x = .ref a ∧ y = .ref b ∧ SqT K H a xs ∧ SqT K H b xs ∧ (∀ v ∈ xs, flatB v = true ∨ ∃ p, v = .ref p) ∧ Q (.bl false) H
def rEqS (K : PySem.W.Frag) : R2 := fun x y H Q => ∃ a b xs, x = .ref a ∧ y = .ref b ∧ SqT K H a xs ∧ SqT K H b xs ∧ (∀ v ∈ xs, flatB v = true ∨ ∃ p, v = .ref p) ∧ Q (.bl true) H
theorem same_at {A : Around} {s : Shared} : ∀ {xs : List V} {us ws : List Value}, Vals xs us → Vals xs ws → (∀ v ∈ xs, flatB v = true ∨ ∃ p, v = .ref p) → ∀ j (h1 : j < us.length) (h2 : j < ws.length), SeqAt.EqAt A s us[j] ws[j] true
  | _, _, _, .nil, .nil, _, _, h1, _ => absurd h1 (Nat.not_lt_zero _)
  | v :: vs, _, _, .cons a1 b1, .cons a2 b2, h, 0, _, _ => by
    rcases h v (List.mem_cons_self ..) with f | ⟨p, rfl⟩
    · exact eqAt_same a1 a2 f
    · cases a1; cases a2; exact SeqAt.EqAt.same _
  | v :: vs, _, _, .cons a1 b1, .cons a2 b2, h, j + 1, h1, h2 => same_at b1 b2 (fun v hv => h v (List.mem_cons_of_mem _ hv)) j (Nat.lt_of_succ_lt_succ h1) (Nat.lt_of_succ_lt_succ h2)
section
variable {X : Cx}
theorem op_neS (hu : X.A.units + 64 < cLine) : OpR X (compareOp .NotEq) (rNeS X.K) := by
  intro pins s σ H x y v u Q I rx ry h
  obtain ⟨a, b, xs, rfl, rfl, ha, hb, hf, q⟩ := h
  cases rx
  cases ry
  obtain ⟨us, r1, p1, _⟩ := I.tuple ha
  obtain ⟨ws, r2, p2, _⟩ := I.tuple hb
  have t1 : s.heap.IsTuple a us.toArray := p1
  have t2 : s.heap.IsTuple b ws.toArray := p2
  have hz : us.toArray.size = ws.toArray.size := by rw [List.size_toArray, List.size_toArray, ← r1.length, ← r2.length]
  have k := SeqAt.RcNeAt.tuples (e := fun _ => true) t1 t2 (A := X.A) (s := s) (by omega) fun j h1 h2 => by simpa using same_at r1 r2 hf j (by simpa using h1) (by simpa using h2)
  refine k X.prog X.w _ _ ?_
  have e : (!((List.range (min us.toArray.size ws.toArray.size)).all (fun _ => true) && us.toArray.size == ws.toArray.size)) = false := by
    rw [hz, List.all_eq_true.mpr fun _ _ => rfl]; simp
  rw [e]
  exact ⟨.bl false, H, I, rfl, q⟩
theorem op_eqS (hu : X.A.units + 64 < cLine) : OpR X (compareOp .Eq) (rEqS X.K) := by
  intro pins s σ H x y v u Q I rx ry h
  obtain ⟨a, b, xs, rfl, rfl, ha, hb, hf, q⟩ := h
  cases rx
  cases ry
  obtain ⟨us, r1, p1, _⟩ := I.tuple ha
  obtain ⟨ws, r2, p2, _⟩ := I.tuple hb
  have t1 : s.heap.IsTuple a us.toArray := p1
  have t2 : s.heap.IsTuple b ws.toArray := p2
  have hz : us.toArray.size = ws.toArray.size := by rw [List.size_toArray, List.size_toArray, ← r1.length, ← r2.length]
  have k := SeqAt.RcAt.tuples (e := fun _ => true) t1 t2 (A := X.A) (s := s) (by omega) fun j h1 h2 => by simpa using same_at r1 r2 hf j (by simpa using h1) (by simpa using h2)
  refine k X.prog X.w _ _ ?_
  have e : ((List.range (min us.toArray.size ws.toArray.size)).all (fun _ => true) && us.toArray.size == ws.toArray.size) = true := by
    rw [hz, List.all_eq_true.mpr fun _ _ => rfl]; simp
  rw [e]
  exact ⟨.bl true, H, I, rfl, q⟩
/-- a def that may raise, and does not -/
theorem passX0 {P : Program} {w : World} {X : Cx} : Passes (L2.CX P w) X E0 := fun _ _ _ _ _ _ _ h => by
  obtain ⟨_, _, _, _, _, _, _, _, _, _, _, _, h⟩ := h
  exact h.elim
end
/-! ### sorted rows -/
theorem eq_of_sorted {α : Type} {R : α → α → Prop} : ∀ {l m : List α}, l.Perm m → l.Pairwise R → m.Pairwise R → (∀ a ∈ l, ∀ b ∈ l, R a b → R b a → a = b) → l = m
  | [], m, p, _, _, _ => (List.Perm.nil_eq p)
  | a :: l, [], p, _, _, _ => absurd p.length_eq (by simp)
  | a :: l, b :: m, p, h1, h2, anti => by
    have hab : a = b := by
      have ma : a ∈ b :: m := p.subset (List.mem_cons_self ..)
      have mb : b ∈ a :: l := p.symm.subset (List.mem_cons_self ..)
      rcases List.mem_cons.mp ma with e | ma
      · exact e
      · rcases List.mem_cons.mp mb with e | mb
        · exact e.symm
        · exact anti a (List.mem_cons_self ..) b (List.mem_cons_of_mem _ mb) ((List.pairwise_cons.mp h1).1 b mb) ((List.pairwise_cons.mp h2).1 a ma)
    subst hab
    rw [eq_of_sorted ((List.perm_cons a).mp p) (List.pairwise_cons.mp h1).2 (List.pairwise_cons.mp h2).2 fun x hx y hy => anti x (List.mem_cons_of_mem _ hx) y (List.mem_cons_of_mem _ hy)]
end OR
set_option Elab.async false
set_option linter.all false
set_option maxRecDepth 100000
set_option maxHeartbeats 4000000
/-! SO2: two sorted lists of the same items are the same list. -/
namespace OR
open PySem PySem.Calls PySem.Spec PyProof.Rows L2 Evl TS
theorem all2_perm {α β : Type} {R : α → β → Prop} {bs bs' : List β} (p : bs'.Perm bs) : ∀ {as : List α}, All2 R as bs → ∃ as', as'.Perm as ∧ All2 R as' bs' := by
  induction p with
  | nil => intro as h; exact ⟨as, .refl _, h⟩
  | cons b _ ih =>
    intro as h
    cases h with
    | cons h1 h2 =>
      obtain ⟨as', p, h'⟩ := ih h2
      exact ⟨_ :: as', p.cons _, .cons h1 h'⟩
  | swap a b l =>
    intro as h
    cases h with
    | cons h1 h2 =>
      cases h2 with
      | cons h3 h4 => exact ⟨_, List.Perm.swap .., .cons h3 (.cons h1 h4)⟩
  | trans _ _ ih1 ih2 =>
    intro as h
    obtain ⟨as', p1, h1⟩ := ih2 h
    obtain ⟨as'', p2, h2⟩ := ih1 h1
    exact ⟨as'', p2.trans p1, h2⟩
def Row.ints : Row → List Int
  | .it k h m => [k, h, m]
  | _ => []
theorem code_inj {B : Int} : ∀ {n m : List Int}, n.length = m.length → Bd B n → Bd B m → code B n = code B m → n = m
  | [], [], _, _, _, _ => rfl
  | [], _ :: _, h, _, _, _ => by cases h
  | _ :: _, [], h, _, _, _ => by cases h
  | d :: r, e :: q, h, b1, b2, hc => by
    have hl : r.length = q.length := by simpa using h
    rcases Int.lt_trichotomy d e with z | z | z
    · have := code_lt hl b1.tail b2.tail z
      omega
    · subst z
      have : code B r = code B q := by
        have h1 : TS.code B (d :: r) = d * B ^ r.length + TS.code B r := rfl
        have h2 : TS.code B (d :: q) = d * B ^ q.length + TS.code B q := rfl
        rw [h1, h2, hl] at hc
        omega
      rw [code_inj hl b1.tail b2.tail this]
    · have := code_lt hl.symm b2.tail b1.tail z
      omega
section
variable {K : PySem.W.Frag} {H : Hp}
theorem tupI_row {r : Row} {v : V} (h : Dp K H v r.toD) (hi : r.isIt = true) : TupI K H v r.ints := by
  cases r with
  | it k hh m =>
    cases h with
    | tup hs hd =>
      refine ⟨_, rfl, ?_⟩
      cases hd with
      | cons a1 hd =>
        cases hd with
        | cons a2 hd =>
          cases hd with
          | cons a3 hd =>
            cases hd
            cases a1; cases a2; cases a3
            exact hs
  | _ => cases hi
theorem pw_rows {B : Int} : ∀ {rs : List Row} {ys : List V}, All2 (fun r v => Dp K H v (Row.toD r)) rs ys → (∀ r ∈ rs, r.isIt = true) → ys.Pairwise (fun x y => ∀ n m, TupI K H x n → TupI K H y m → code B n ≤ code B m) → rs.Pairwise fun r r' => code B r.ints ≤ code B r'.ints := by
  intro rs ys h
  induction h with
  | nil => intro _ _; exact .nil
  | cons h1 h2 ih =>
    rename_i r v rs vs
    intro hi hp
    obtain ⟨p1, p2⟩ := List.pairwise_cons.mp hp
    refine List.pairwise_cons.mpr ⟨fun r' hr' => ?_, ih (fun r hr => hi r (List.mem_cons_of_mem _ hr)) p2⟩
    obtain ⟨j, hj, e⟩ := List.mem_iff_getElem.mp hr'
    obtain ⟨u, hu, hd⟩ := h2.get (List.getElem?_eq_getElem hj)
    rw [e] at hd
    exact p1 u (List.mem_of_getElem? hu) _ _ (tupI_row h1 (hi _ (List.mem_cons_self ..))) (tupI_row hd (hi _ (List.mem_cons_of_mem _ hr')))
theorem ints_inj {r r' : Row} (h1 : r.isIt = true) (h2 : r'.isIt = true) (e : r.ints = r'.ints) : r = r' := by
  cases r with
  | it k h m =>
    cases r' with
    | it k' h' m' =>
      simp only [Row.ints, List.cons.injEq, and_true] at e
      obtain ⟨e1, e2, e3⟩ := e
      rw [e1, e2, e3]
    | _ => cases h2
  | _ => cases h1
theorem ints_len {r : Row} (h : r.isIt = true) : r.ints.length = 3 := by
  cases r with
  | it => rfl
  | _ => cases h
/-- sorted twice, of the same rows -/
theorem sorted_rows {H' : Hp} {B : Int} {R1 R2 : List Row} {xs1 xs2 ys1 ys2 : List V} (p : R1.Perm R2) (d1 : All2 (fun r v => Dp K H v (Row.toD r)) R1 xs1) (d2 : All2 (fun r v => Dp K H' v (Row.toD r)) R2 xs2) (hb : ∀ r ∈ R1, r.isIt = true ∧ Bd B r.ints)
    (q1 : ys1.Perm xs1) (q2 : ys2.Perm xs2) (s1 : ys1.Pairwise (fun x y => ∀ n m, TupI K H x n → TupI K H y m → code B n ≤ code B m)) (s2 : ys2.Pairwise (fun x y => ∀ n m, TupI K H' x n → TupI K H' y m → code B n ≤ code B m)) :
    ∃ R, R.Perm R1 ∧ All2 (fun r v => Dp K H v (Row.toD r)) R ys1 ∧ All2 (fun r v => Dp K H' v (Row.toD r)) R ys2 := by
  obtain ⟨S1, p1, a1⟩ := all2_perm q1 d1
  obtain ⟨S2, p2, a2⟩ := all2_perm q2 d2
  have b1 : ∀ r ∈ S1, r.isIt = true ∧ Bd B r.ints := fun r hr => hb r (p1.subset hr)
  have b2 : ∀ r ∈ S2, r.isIt = true ∧ Bd B r.ints := fun r hr => hb r (p.symm.subset (p2.subset hr))
  have e : S1 = S2 := eq_of_sorted ((p1.trans p).trans p2.symm) (pw_rows a1 (fun r hr => (b1 r hr).1) s1) (pw_rows a2 (fun r hr => (b2 r hr).1) s2) fun a ha b hb h1 h2 => by
    refine ints_inj (b1 a ha).1 (b1 b hb).1 (code_inj ?_ (b1 a ha).2 (b1 b hb).2 (by omega))
    rw [ints_len (b1 a ha).1, ints_len (b1 b hb).1]
  subst e
  exact ⟨S1, p1, a1, a2⟩
end
end OR
set_option Elab.async false
set_option linter.all false
set_option maxRecDepth 100000
set_option maxHeartbeats 4000000
/-! LX: heaps in which all but the tables of code objects stays. -/
namespace OR
open PySem PySem.Calls PySem.Spec PyProof.Rows L2 Evl
open LamX (ExtN Tabs TabS)
section
variable {K : PySem.W.Frag} {H H' : Hp}
theorem sqL_xn (e : ExtN H H') {a : Addr} {xs : List V} (h : SqL K H a xs) : SqL K H' a xs := by
  rcases h with (h | ⟨o, h⟩) | h
  · exact .inl (.inl (e _ _ h fun _ z => by cases z))
  · exact .inl (.inr ⟨o, e _ _ h fun _ z => by cases z⟩)
  · exact .inr h
theorem sqT_xn (e : ExtN H H') {a : Addr} {xs : List V} (h : SqT K H a xs) : SqT K H' a xs := by
  rcases h with (h | ⟨o, h⟩) | h
  · exact .inl (.inl (e _ _ h fun _ z => by cases z))
  · exact .inl (.inr ⟨o, e _ _ h fun _ z => by cases z⟩)
  · exact .inr h
mutual
theorem dp_xn (e : ExtN H H') : ∀ (d : PyData) (v : V), Dp K H v d → Dp K H' v d
  | .none, _, h => by cases h; exact .non
  | .bool b, _, h => by cases h; exact .bl b
  | .int i, _, h => by cases h; exact .int i
  | .str x, _, h => by cases h; exact .str x
  | .list ds, _, h => by cases h with | lst hs ha => exact .lst (sqL_xn e hs) (dp_xnAll e ds _ ha)
  | .tuple ds, _, h => by cases h with | tup hs ha => exact .tup (sqT_xn e hs) (dp_xnAll e ds _ ha)
  | .dict _, _, h => by cases h
theorem dp_xnAll (e : ExtN H H') : ∀ (ds : List PyData) (vs : List V), DpAll K H vs ds → DpAll K H' vs ds
  | [], _, h => by cases h; exact .nil
  | d :: ds, _, h => by cases h with | cons h1 h2 => exact .cons (dp_xn e d _ h1) (dp_xnAll e ds _ h2)
end
theorem dq_xn (e : ExtN H H') {v : V} {d : PyData} (h : Dq K H v d) : Dq K H' v d := by
  cases h with
  | d h => exact .d (dp_xn e _ _ h)
  | dct h => exact .dct (e _ _ h fun _ z => by cases z)
theorem BagC.xn {b c : Addr} {N : Nat} (x : BagC b c N H) (e : ExtN H H') : BagC b c N H' := by
  obtain ⟨i, dg, n, f, cs, x⟩ := x
  exact ⟨i, dg, n, f, cs, e _ _ x.hb (fun _ z => (by cases z)), e _ _ x.hc (fun _ z => (by cases z)), x.hi, x.hd, x.hn, x.hf, x.hl⟩
theorem xn_of (e : Ex H H') : ExtN H H' := ExtN.of e
/-- the tables stay where all but the bag stays -/
theorem tabs_but {b c : Addr} {N : Nat} {T : List (Addr × Str)} (hB : BagC b c N H) (e : But b H H') (t : Tabs T H) : Tabs T H' := by
  obtain ⟨i, dg, n, f, cs, B⟩ := hB
  intro p hp
  obtain ⟨ps, h1, h2, h3⟩ := t p hp
  refine ⟨ps, e _ _ (ne_of h1 B.hb (by intro z; cases z)) h1, h2, fun pos cv hc => ?_⟩
  obtain ⟨c, e1, e2⟩ := h3 pos cv hc
  exact ⟨c, e1, e _ _ (ne_of e2 B.hb (by unfold LamX.CodeO; intro z; cases z)) e2⟩
end
end OR
set_option Elab.async false
set_option linter.all false
set_option maxRecDepth 100000
set_option maxHeartbeats 4000000
namespace K40
open PySem PySem.Calls PySem.Spec PyProof.Rows L2 OR Evl
section
variable {P : Program} {w : World} {K : PySem.W.Frag} {mg : Str → Option Value} {base : Heap} {f : Addr} {fd : FuncData}
abbrev s__law_lawful : Stmt := top 28
theorem sc__law_lawful : FnScope ["ring", "way", "many", "far", "place", "here", "steps", "k"] ["ring", "way"] (defScope s__law_lawful) := ⟨rfl, rfl, rfl, by decide +kernel, rfl, by decide +kernel, by decide +kernel⟩
def spLawful (K : PySem.W.Frag) : Sp := fun vs H Q _ => ∃ a way rows xs, vs = [.ref a, .str way] ∧ SqT K H a xs ∧ All2 (fun r v => Dp K H v (Row.toD r)) rows xs ∧ 0 < rows.length ∧ rows.length ≤ 50000 ∧ ∀ H', Ex H H' → Q (.bl (hasLaw rows way)) H'
/-- places up to i -/
def farL (rows : List OR.Row) (i : Nat) : List Nat := (List.range i).filter fun p => (rowAt rows p).isIt
def farK (rows : List OR.Row) (i : Nat) : List (Key × V) := (farL rows i).map fun p => (.inl ((p : Nat) : Int), .int (leN rows p : Nat))
theorem farL_lt {rows : List OR.Row} {i p : Nat} (h : p ∈ farL rows i) : p < i ∧ (rowAt rows p).isIt = true := by
  obtain ⟨h1, h2⟩ := List.mem_filter.mp h
  exact ⟨List.mem_range.mp h1, h2⟩
theorem farL_len (rows : List OR.Row) (i : Nat) : (farL rows i).length ≤ i := filter_le i _
theorem ok__law_lawful (F : Fun K "_law_lawful" "_law_lawful" s__law_lawful f fd) (B : Bi mg) : FnOk P w K mg base CX0 1 f fd ["ring", "way"] (spLawful K) := by
  refine F.ok sc__law_lawful (fun vs H Q E h => ?_) (fun cdv A outer s H vs Q E hr h => ?_)
  · obtain ⟨a, way, rows, xs, rfl, _⟩ := h
    rfl
  · obtain ⟨a, way, rows, xs, rfl, hx, hall, n0, hz, q⟩ := h
    have hu := hu_of hr
    refine ⟨_, (pss_cons (ps_set (i := 2) sc__law_lawful.nd rfl (Or.inr rfl) (pe_callB (lenS K) (by rfl) B.mg_len PySem.boot_len (pa_cons (pv 0) pa_nil)))
      (pss_cons (ps_set (i := 3) sc__law_lawful.nd rfl (Or.inr rfl) pe_dnewK)
      (pss_cons (ps_for PassesOwn.never rfl (pi_range1 (by rfl) B.mg_range (pa_cons (pv 2) pa_nil)) (pg_name (i := 4) sc__law_lawful.nd rfl (Or.inl rfl)) (pss_cons (ps_if (PW.pt (pw_and (pt_cmpR (op_eqD hr.units) (pe_ix (ixT K) (pv 0) (pv 4) (fun _ _ => rfl)) pe_str (nomark _)) (pw_and1 (pt_cmpR op_ne (pv 1) pe_str (nomark _))))) (pss_one (ps_ret pe_bl)) pss_nil)
      (pss_one (ps_if (pt_val (pe_callB (isiS K) (by rfl) B.mg_isinstance (by decide +kernel) (pa_cons (pe_ix (ixT K) (pv 0) (pv 4) (fun _ _ => rfl)) (pa_cons (pe_ty (T := "tuple") B.mg_tuple) pa_nil)))) (pss_cons (ps_par (i := 5) (j := 6) rfl sc__law_lawful.nd rfl rfl (by decide) rfl rfl (pa_cons (pe_op op_mod (pe_ix (ixT K) (pe_ix (ixT K) (pv 0) (pv 4) (fun _ _ => rfl)) pe_int (fun _ _ => rfl)) (pv 2)) (pa_cons pe_int pa_nil)) rfl)
      (pss_cons (ps_while PassesOwn.never (PW.pt (pw_and (pt_cmpR op_ne (pv 5) (pv 4) (nomark _)) (pw_and1 (pt_cmpR op_notN (pe_ix (ixT K) (pv 0) (pv 5) (fun _ _ => rfl)) pe_non (nomark _))))) (pss_one (ps_par (i := 5) (j := 6) rfl sc__law_lawful.nd rfl rfl (by decide) rfl rfl (pa_cons (pe_op op_mod (pe_op op_add (pv 5) pe_int) (pv 2)) (pa_cons (pe_op op_add (pv 6) pe_int) pa_nil)) rfl)))
      (pss_cons (ps_if (pt_cmpR op_ne (pv 5) (pv 4) (nomark _)) (pss_one (ps_ret pe_bl)) pss_nil)
      (pss_one (ps_dput hu (pv 3) (pv 4) (pv 6) rfl))))) pss_nil))))
      (pss_cons (ps_if (pt_cmpR op_eq (pv 1) pe_str (nomark _)) (pss_one (ps_ret (pe_cmpR (op_eqD hr.units) (pe_lock (pe_lc (own := [("k", 7)]) (g := gName 7) rfl sc__law_lawful.nd (pi_keys (pv 3)) (blkOk_by (N := ["ring", "way", "many", "far", "place", "here", "steps", "k"]) (sc := defScope s__law_lawful) (by decide +kernel)) (fun _ _ _ _ _ => (pg_name (i := 7) sc__law_lawful.nd rfl (Or.inl rfl))) (fun _ _ _ _ _ => pts_one (PW.pt (pw_and (pt_cmp (pc_din hu (pe_op op_mod (pe_op op_add (pv 7) pe_int) (pv 2)) (pv 3))) (pw_and1 (pt_cmpR op_gt (pe_dget hu (pv 3) (pe_op op_mod (pe_op op_add (pv 7) pe_int) (pv 2)) (fun _ _ => rfl)) (pe_op op_add (pe_dget hu (pv 3) (pv 7) (fun _ _ => rfl)) pe_int) (nomark _)))))) (fun _ _ _ _ _ => (pv 7)))) (pe_lst pa_nil) (nomark _)))) pss_nil)
      (pss_one (ps_ret pe_bl)))))), ?_⟩
    have hl := hall.len
    have hmi : (0 : Int) < (xs.length : Int) := by omega
    have hrow : ∀ {H' : Hp} {p : Nat}, Ex H H' → p < rows.length → ∃ v, xs[p]? = some v ∧ Dp K H' v (rowAt rows p).toD := fun {H' p} e hp => by
      obtain ⟨v, hv, hd⟩ := hall.get (List.getElem?_eq_getElem hp)
      have er : rowAt rows p = rows[p] := by simp [rowAt, List.getD_eq_getElem?_getD, hp]
      exact ⟨v, hv, by rw [er]; exact dp_ex e _ _ hd⟩
    have no_stone : ∀ p, p < rows.length → rowAt rows p = .sto → way ≠ "stones" → hasLaw rows way = false := fun p hp hs hw => by
      have h1 : (rows.any fun r => decide (r = .sto)) = true := List.any_eq_true.mpr ⟨_, mem_at hp, decide_eq_true hs⟩
      unfold hasLaw
      rw [h1, decide_eq_false hw]
      rfl
    have no_reach : ∀ p, p < rows.length → (rowAt rows p).isIt = true → reaches rows p = false → hasLaw rows way = false := fun p hp hi hr => by
      have h1 : (places rows).all (reaches rows) = false := List.all_eq_false.mpr ⟨p, List.mem_filter.mpr ⟨List.mem_range.mpr hp, hi⟩, by rw [hr]; decide⟩
      unfold hasLaw
      rw [h1]
      simp
    refine s_asg (ev_lenS (ev_var rfl) (.inr hx)) fun H1 e1 => ?_
    dsimp only; refine s_cons ?_
    refine fun d hd => ?_
    have nd : H d = none := fresh_back e1 hd
    dsimp only; refine s_cons ?_
    have e2 : Ex H (upd H1 d (.dK [])) := e1.trans (Ex.new hd)
    refine s_forI (Hb := H) (ei_r1 (n := xs.length) (fun H3 e3 Q3 k3 => ⟨_, rfl, k3 H3 (Ex.refl _)⟩) (by omega)) e2 (fun i σ' H' => ∃ z1 z2 z3, σ' = [some (.ref a), some (.str way), some (.int (xs.length : Int)), some (.ref d), z1, z2, z3, none] ∧ Ex H H' ∧ H' d = some (.dK (farK rows i)) ∧
      (∀ j, j < i → rowAt rows j = .sto → way = "stones") ∧ ∀ j, j < i → (rowAt rows j).isIt = true → reaches rows j = true) (fun H3 e3 => ?_) (fun i σ' H' h => ?_) (fun i hi x σ' H' h H3 e3 y => ?_) (fun σ' H' h => ?_)
    · exact ⟨none, none, none, rfl, e2.trans e3, e3 _ _ upd_same, fun j hj => absurd hj (Nat.not_lt_zero _), fun j hj => absurd hj (Nat.not_lt_zero _)⟩
    · obtain ⟨z1, z2, z3, rfl, h1, _⟩ := h
      exact h1
    · obtain ⟨z1, z2, z3, rfl, h1, h2, h3, h4⟩ := h
      subst y
      have hi2 : i < rows.length := by omega
      refine evg_name H3 (Ex.refl H3) _ fun H4 e4 => ?_
      have h14 := (h1.trans e3).trans e4
      obtain ⟨v, hv, hd4⟩ := hrow h14 hi2
      have hx4 := ex_t h14 hx
      have ev_r : ∀ {σ : L2.St}, σ[0]? = some (some (V.ref a)) → σ[4]? = some (some (V.int (i : Int))) → Ev (tOp (rIxT K) (tVar 0) (tVar 4)) σ H4 v := fun {σ} s0 s4 => ev_op (ev_var s0) (ev_var s4) (rv_ixT hx4 (atI_nat hv))
      refine s_cons (s_if (b := decide (rowAt rows i = .sto) && !decide (way = "stones")) (et_and (et_is (et_test (ev_eqD (ev_r rfl rfl) ev_c hd4 (.str _) ?_ (by decide +kernel))) ?_) fun _ => et_is (et_test (ev_op (ev_var rfl) ev_c (rv_ne rfl))) (by simp)) (fun hb H5 e5 => s_ret ev_c fun H6 e6 => ?_) (fun hb H5 e5 => ?_))
      · cases hrr : rowAt rows i with
        | it k h m =>
          refine shaped_of ?_ ?_
          · have := (ints_lay [k, h, m]).1
            simpa [Row.toD, PyData.canLay0] using this
          · have := (ints_lay [k, h, m]).2
            simp only [Row.toD, PyData.depth, List.map_cons, List.map_nil] at this ⊢
            omega
        | non => decide +kernel
        | sto => decide +kernel
      · cases rowAt rows i <;> simp [Row.toD, PyData.eqv]
      · rw [← no_stone i hi2 (of_decide_eq_true (Bool.and_eq_true_iff.mp hb).1) (by have := (Bool.and_eq_true_iff.mp hb).2; simpa using this)]
        exact q H6 ((h14.trans e5).trans e6)
      have h3' : ∀ j, j < i + 1 → rowAt rows j = .sto → way = "stones" := fun j hj hs => by
        rcases Nat.lt_or_ge j i with z | z
        · exact h3 j z hs
        · have : j = i := by omega
          subst this
          refine Classical.byContradiction fun hw => ?_
          rw [decide_eq_true hs, decide_eq_false hw] at hb
          cases hb
      refine s_next ?_; dsimp only
      have h15 := h14.trans e5
      have h2' := ((e3.trans e4).trans e5) _ _ h2
      refine s_if (et_B (ev_isi (ev_op (ev_var rfl) (ev_var rfl) (rv_ixT (ex_t h15 hx) (atI_nat hv))) (.d (dp_ex e5 _ _ hd4)))) (fun hit H6 e6 => ?_) (fun hit H6 e6 => ?_)
      · rw [row_inst] at hit
        have h16 := h15.trans e6
        obtain ⟨k, m, er⟩ := isIt_it hit
        have hd6 := dp_ex (e5.trans e6) _ _ hd4
        have hh := homeN_lt (r := rowAt rows i) (n := rows.length) n0
        have hw := dN_walk hh hi2
        have hdl := dN_lt hh hi2
        refine s_cons (s_par (v := .int ((homeN (rowAt rows i) rows.length : Nat) : Int)) (ea_cons (ev_is (ev_op (ev_op (ev_op (ev_var rfl) (ev_var rfl) (rv_ixT (ex_t h16 hx) (atI_nat hv))) ev_c (?_ : RV _ _ _ _ (.int (rowAt rows i).hash))) (ev_var rfl) (rv_I hmi)) (by rw [homeN_int n0, hl])) (ea_cons ev_c ea_nil)) fun H7 e7 => ?_)
        · rw [er] at hd6
          cases hd6 with
          | tup hs ha =>
            cases ha with
            | cons a1 ha =>
              cases ha with
              | cons a2 ha =>
                cases a2
                exact rv_ixT hs (atI_nat (j := 1) rfl)
        dsimp only; refine s_cons ?_
        have h17 := h16.trans e7
        refine s_while (fun mm σ' H8 => ∃ j, σ' = [some (.ref a), some (.str way), some (.int (xs.length : Int)), some (.ref d), some (.int (i : Int)), some (.int (((homeN (rowAt rows i) rows.length + j) % rows.length : Nat) : Int)), some (.int (j : Int)), none] ∧ j ≤ leN rows i ∧
          (∀ l, l < j → rowAt rows ((homeN (rowAt rows i) rows.length + l) % rows.length) ≠ .non) ∧ mm = leN rows i - j ∧ Ex H7 H8) (leN rows i) ?_ fun mm σ' H8 hww => ?_
        · refine ⟨0, ?_, Nat.zero_le _, fun l hl => absurd hl (Nat.not_lt_zero _), rfl, Ex.refl _⟩
          rw [Nat.add_zero, Nat.mod_eq_of_lt hh]
          rfl
        obtain ⟨j, rfl, hj, hjn, rfl, e8⟩ := hww
        have hq : (homeN (rowAt rows i) rows.length + j) % rows.length < rows.length := Nat.mod_lt _ n0
        obtain ⟨v2, hv2, hd2⟩ := hrow (h17.trans e8) hq
        have hne_iff : (homeN (rowAt rows i) rows.length + j) % rows.length = i ↔ j = leN rows i := by
          constructor
          · intro z
            exact dN_uni hh hi2 (by unfold leN at hj; omega) z
          · intro z
            rw [z]
            exact hw
        refine ⟨!decide (j = leN rows i) && !decide (rowAt rows ((homeN (rowAt rows i) rows.length + j) % rows.length) = .non), et_and (et_is (et_test (ev_op (ev_var rfl) (ev_var rfl) (rv_ne rfl))) ?_) fun _ => et_is (et_test (ev_notN (ev_op (ev_var rfl) (ev_var rfl) (rv_ixT (ex_t (h17.trans e8) hx) (atI_nat hv2))))) (by rw [row_non_dec hd2]), fun ht H9 e9 => ?_, fun ht H9 e9 => ?_⟩
        · congr 1
          refine decide_eq_decide.mpr ?_
          rw [← hne_iff]
          constructor
          · intro z
            have := V.int.inj z
            omega
          · intro z
            rw [z]
        · obtain ⟨t1, t2⟩ := Bool.and_eq_true_iff.mp ht
          have t1 : j ≠ leN rows i := by simpa using t1
          have t2 : rowAt rows ((homeN (rowAt rows i) rows.length + j) % rows.length) ≠ .non := by simpa using t2
          refine ⟨fun σ2 H2 => ∃ m', m' < leN rows i - j ∧ ∃ j, σ2 = [some (.ref a), some (.str way), some (.int (xs.length : Int)), some (.ref d), some (.int (i : Int)), some (.int (((homeN (rowAt rows i) rows.length + j) % rows.length : Nat) : Int)), some (.int (j : Int)), none] ∧ j ≤ leN rows i ∧
          (∀ l, l < j → rowAt rows ((homeN (rowAt rows i) rows.length + l) % rows.length) ≠ .non) ∧ m' = leN rows i - j ∧ Ex H7 H2, fun _ _ z => z, ?_⟩
          refine s_par (v := .int (((homeN (rowAt rows i) rows.length + (j + 1)) % rows.length : Nat) : Int)) (w := .int ((j + 1 : Nat) : Int)) (ea_cons (ev_is (ev_op (ev_op (ev_var rfl) ev_c rv_I0) (ev_var rfl) (rv_I hmi)) ?_) (ea_cons (ev_op (ev_var rfl) ev_c rv_I0) ea_nil)) fun H10 e10 => ?_
          · congr 1
            rw [hl]
            have : ((homeN (rowAt rows i) rows.length + j) % rows.length + 1) % rows.length = (homeN (rowAt rows i) rows.length + (j + 1)) % rows.length := by
              rw [Nat.mod_add_mod, Nat.add_assoc]
            rw [← this]
            rfl
          · refine ⟨leN rows i - (j + 1), by omega, j + 1, rfl, by omega, fun l hl => ?_, rfl, (e8.trans e9).trans e10⟩
            rcases Nat.lt_or_ge l j with z | z
            · exact hjn l z
            · rw [show l = j by omega]; exact t2
        · dsimp only; refine s_cons ?_
          have h19 := (h17.trans e8).trans e9
          have e49 := (((e5.trans e6).trans e7).trans e8).trans e9
          refine s_if (b := !decide (j = leN rows i)) (et_is (et_test (ev_op (ev_var rfl) (ev_var rfl) (rv_ne rfl))) ?_) (fun hb2 H10 e10 => s_ret ev_c fun H11 e11 => ?_) (fun hb2 H10 e10 => ?_)
          · congr 1
            refine decide_eq_decide.mpr ?_
            rw [← hne_iff]
            constructor
            · intro z
              have := V.int.inj z
              omega
            · intro z
              rw [z]
          · have t1 : j ≠ leN rows i := by simpa using hb2
            have t2 : rowAt rows ((homeN (rowAt rows i) rows.length + j) % rows.length) = .non := by
              rw [decide_eq_false t1] at ht
              simpa using ht
            have hno : reaches rows i = false := by
              refine Bool.eq_false_iff.mpr fun z => ?_
              exact (reaches_iff hi2).mp z j hj t2
            rw [← no_reach i hi2 hit hno]
            exact q H11 ((h19.trans e10).trans e11)
          · have t1 : j = leN rows i := by simpa using hb2
            subst t1
            have hyes : reaches rows i = true := (reaches_iff hi2).mpr fun l hl => by
              rcases Nat.lt_or_ge l (leN rows i) with z | z
              · exact hjn l z
              · rw [show l = leN rows i by omega]
                have : (homeN (rowAt rows i) rows.length + leN rows i) % rows.length = i := hw
                rw [this]
                exact it_ne hit
            refine s_next ?_; dsimp only
            have hd10 : H10 d = some (.dK (farK rows i)) := (((e3.trans e4).trans e49).trans e10) _ _ h2
            have hfl := farL_len rows i
            have hnew : valV (farK rows i) (.inl (i : Int)) = none := by
              unfold farK
              rw [valV_nat (fun p => V.int (leN rows p : Nat)) i, if_neg fun z => absurd (farL_lt z).1 (Nat.lt_irrefl _)]
            refine ⟨_, rfl, _, rfl, _, rfl, d, _, rfl, .inl ⟨farK rows i, .inl (i : Int), hd10, rfl, sz_lt (by unfold farK; rw [List.length_map]; omega), rfl⟩, ?_⟩
            refine ⟨_, _, _, rfl, Ex.mut (h19.trans e10) nd, ?_, h3', fun l hl hit2 => ?_⟩
            · rw [upd_same, putK_new _ hnew]
              unfold farK farL
              rw [List.range_succ, List.filter_append, List.filter_cons, if_pos hit, List.map_append]
              rfl
            · rcases Nat.lt_or_ge l i with z | z
              · exact h4 l z hit2
              · rw [show l = i by omega]; exact hyes
      · rw [row_inst] at hit
        refine s_next ?_; dsimp only
        refine ⟨_, _, _, rfl, h15.trans e6, ?_, h3', fun l hl hit2 => ?_⟩
        · rw [e6 _ _ h2']
          unfold farK farL
          rw [List.range_succ, List.filter_append, List.filter_cons, if_neg (by rw [hit]; decide)]
          simp
        · rcases Nat.lt_or_ge l i with z | z
          · exact h4 l z hit2
          · have : l = i := by omega
            subst this
            rw [hit] at hit2
            cases hit2
    · obtain ⟨z1, z2, z3, rfl, h1, h2, h3, h4⟩ := h
      rw [hl] at h2 h3 h4
      have hplc : places rows = farL rows rows.length := rfl
      have st : (!decide (way = "stones") && rows.any fun r => decide (r = .sto)) = false := by
        refine Bool.eq_false_iff.mpr fun z => ?_
        obtain ⟨w1, w2⟩ := Bool.and_eq_true_iff.mp z
        obtain ⟨r, hr1, hr2⟩ := List.any_eq_true.mp w2
        obtain ⟨p, hp, e⟩ := List.mem_iff_getElem.mp hr1
        have er : rowAt rows p = r := by simp [rowAt, List.getD_eq_getElem?_getD, hp, e]
        have := h3 p hp (by rw [er]; exact of_decide_eq_true hr2)
        rw [this] at w1
        cases w1
      have re : (places rows).all (reaches rows) = true := List.all_eq_true.mpr fun p hp => by
        rw [hplc] at hp
        exact h4 p (farL_lt hp).1 (farL_lt hp).2
      have law : hasLaw rows way = (!decide (way = "sorted") || (places rows).all (rises rows)) := by
        unfold hasLaw
        rw [st, re]
        simp
      dsimp only; refine s_cons ?_
      refine s_if (b := decide (way = "sorted")) (et_is (et_test (ev_op (ev_var rfl) ev_c (rv_eq rfl))) (by simp)) (fun hb H3 e3 => ?_) (fun hb H3 e3 => ?_)
      · let ns : List Int := ((farL rows rows.length).filter fun p => (rowAt rows ((p + 1) % rows.length)).isIt && decide (leN rows p + 1 < leN rows ((p + 1) % rows.length))).map fun p => ((p : Nat) : Int)
        have hd3 := e3 _ _ h2
        refine s_ret (ev_eqNil (ns := ns) (el_lock hd3 True.intro fun od => ?_)) fun H4 e4 => ?_
        · have hz2 : (farK rows rows.length).length = (farL rows rows.length).length := by unfold farK; rw [List.length_map]
          have hfl := farL_len rows rows.length
          have efil : ((List.range (farL rows rows.length).length).filter fun i => (rowAt rows (((farL rows rows.length).getD i 0 + 1) % rows.length)).isIt && decide (leN rows ((farL rows rows.length).getD i 0) + 1 < leN rows (((farL rows rows.length).getD i 0 + 1) % rows.length))).map (fun i => V.int (((farL rows rows.length).getD i 0 : Nat) : Int)) = ns.map V.int := by
            rw [filter_get (farL rows rows.length) (fun p => (rowAt rows ((p + 1) % rows.length)).isIt && decide (leN rows p + 1 < leN rows ((p + 1) % rows.length))) (fun p => V.int ((p : Nat) : Int)) _ _ fun i a ha => by
              have e : (farL rows rows.length).getD i 0 = a := by simp [List.getD_eq_getElem?_getD, ha]
              rw [e]; exact ⟨rfl, rfl⟩]
            show _ = List.map V.int (List.map _ _)
            rw [List.map_map]
            rfl
          rw [← efil]
          have hfz : upd H3 d (.frz od (.dK (farK rows rows.length))) d = some (.frz od (.dK (farK rows rows.length))) := upd_same
          have hi := ei_keys (σ := [some (.ref a), some (.str way), some (.int (xs.length : Int)), some (.ref d), z1, z2, z3, none]) (td := tVar 3) (ev_var rfl) hfz
          rw [hz2] at hi
          refine el_lc _ _ hi (by omega) fun i hi x H4 e4 y => ?_
          obtain ⟨k, v, hk, rfl⟩ := y
          have ep : k = .inl (((farL rows rows.length).getD i 0 : Nat) : Int) := by
            unfold farK at hk
            rw [List.getElem?_map, List.getElem?_eq_getElem hi] at hk
            have e5 : (farL rows rows.length).getD i 0 = (farL rows rows.length)[i] := by simp [hi]
            rw [e5]
            exact (congrArg Prod.fst (Option.some.inj hk)).symm
          subst ep
          have hpm : (farL rows rows.length).getD i 0 ∈ farL rows rows.length := by
            have e5 : (farL rows rows.length).getD i 0 = (farL rows rows.length)[i] := by simp [hi]
            rw [e5]; exact List.getElem_mem hi
          generalize (farL rows rows.length).getD i 0 = p at hpm ⊢
          have hp1 : (p + 1) % rows.length < rows.length := Nat.mod_lt _ n0
          have hmod : ∀ {σ : L2.St}, σ[7]? = some (some (V.int ((p : Nat) : Int))) → σ[2]? = some (some (V.int (xs.length : Int))) → Ev (tOp (rI (fun _ j => 0 < j) fun i j => .int (i % j)) (tOp (rI0 fun i j => .int (i + j)) (tVar 7) (tC (.int 1))) (tVar 2)) σ (upd H3 d (.frz od (.dK (farK rows rows.length)))) (kV (.inl (((p + 1) % rows.length : Nat) : Int))) := fun {σ} s7 s2 => by
            refine ev_is (ev_op (ev_op (ev_var s7) ev_c (rv_I0 (g := fun i j => .int (i + j)))) (ev_var s2) (rv_I hmi)) ?_
            rw [hl]; rfl
          have hv1 : valV (farK rows rows.length) (.inl (((p + 1) % rows.length : Nat) : Int)) = if (p + 1) % rows.length ∈ farL rows rows.length then some (V.int (leN rows ((p + 1) % rows.length) : Nat)) else none := by
            unfold farK
            exact valV_nat (fun p => V.int (leN rows p : Nat)) _ _
          have hv2 : valV (farK rows rows.length) (.inl ((p : Nat) : Int)) = some (V.int (leN rows p : Nat)) := by
            unfold farK
            rw [valV_nat (fun p => V.int (leN rows p : Nat)) _ _, if_pos hpm]
          have hmem : ((p + 1) % rows.length ∈ farL rows rows.length) ↔ (rowAt rows ((p + 1) % rows.length)).isIt = true := ⟨fun z => (farL_lt z).2, fun z => List.mem_filter.mpr ⟨List.mem_range.mpr hp1, z⟩⟩
          refine ⟨_, evg_name, rfl, et_and (et_is (et_B (ev_din (hmod rfl rfl) (ev_var rfl) (.inr ⟨od, hfz⟩))) ?_) fun hin => et_is (et_test (ev_op (ev_dget (ev_var rfl) (.inr ⟨od, hfz⟩) (hmod rfl rfl) (v := V.int (leN rows ((p + 1) % rows.length) : Nat)) ?_) (ev_op (ev_dget (ev_var rfl) (.inr ⟨od, hfz⟩) (ev_var rfl) hv2) ev_c rv_I0) rv_I0)) ?_, fun _ => ev_var rfl⟩
          · rw [hv1]
            by_cases hm : (p + 1) % rows.length ∈ farL rows rows.length
            · rw [if_pos hm, hmem.mp hm]; rfl
            · rw [if_neg hm]
              have : (rowAt rows ((p + 1) % rows.length)).isIt = false := Bool.eq_false_iff.mpr fun z => hm (hmem.mpr z)
              rw [this]; rfl
          · rw [hv1, if_pos (hmem.mpr hin)]
          · refine decide_eq_decide.mpr ?_
            constructor <;> intro z <;> omega
        · have e0 : ns.isEmpty = hasLaw rows way := by
            rw [law, decide_eq_true (of_decide_eq_true hb)]
            show ns.isEmpty = (places rows).all (rises rows)
            rw [Bool.eq_iff_iff, List.isEmpty_iff, List.all_eq_true]
            show List.map _ (List.filter _ (farL rows rows.length)) = [] ↔ _
            rw [List.map_eq_nil_iff, List.filter_eq_nil_iff, hplc]
            constructor
            · intro h p hp
              have hl2 := farL_lt hp
              have := h p hp
              rw [rises_iff hl2.1]
              intro _ i2
              rw [i2] at this
              simp at this
              exact this
            · intro h p hp
              have hl2 := farL_lt hp
              have := (rises_iff hl2.1).mp (h p hp) hl2.2
              intro z
              obtain ⟨w1, w2⟩ := Bool.and_eq_true_iff.mp z
              have := this w1
              have w3 := of_decide_eq_true w2
              omega
          rw [e0]
          exact q H4 ((h1.trans e3).trans e4)
      · refine s_next ?_; dsimp only
        refine s_ret ev_c fun H4 e4 => ?_
        have e0 : hasLaw rows way = true := by
          rw [law, decide_eq_false (of_decide_eq_false hb)]
          rfl
        rw [← e0]
        exact q H4 ((h1.trans e3).trans e4)
end
end K40
set_option Elab.async false
set_option linter.all false
set_option maxRecDepth 100000
set_option maxHeartbeats 4000000
namespace K40
open PySem PySem.Calls PySem.Spec PyProof.Rows L2 OR Evl
/-- an item's tuple -/
def TupAt (H : Hp) (r : OR.Row) (v : V) : Prop := ∃ k h m T, r = .it k h m ∧ v = .ref T ∧ H T = some (.tup [.int k, .int h, .int m])
def GenIt (first hashes : Int) (i : Nat) (r : OR.Row) : Prop := ∃ k h m, r = .it k h m ∧ first + 3 * (i : Int) - 2 ≤ k ∧ k ≤ first + 3 * (i : Int) ∧ 0 ≤ h ∧ h < hashes ∧ 0 ≤ m ∧ m < 9
theorem TupAt.but {b c : Addr} {N : Nat} {H H' : Hp} {r : OR.Row} {v : V} (hb : BagC b c N H) (e : But b H H') (h : TupAt H r v) : TupAt H' r v := by
  obtain ⟨k, hh, m, T, rfl, rfl, hT⟩ := h
  exact ⟨k, hh, m, T, rfl, rfl, e _ _ (hb.ne_tup hT) hT⟩
theorem TupAt.lst {D : Addr} {xs : List V} {H : Hp} {o : HO} {r : OR.Row} {v : V} (hD : H D = some (.lst xs)) (h : TupAt H r v) : TupAt (upd H D o) r v := by
  obtain ⟨k, hh, m, T, rfl, rfl, hT⟩ := h
  have hne : T ≠ D := fun z => by rw [z, hD] at hT; cases hT
  exact ⟨k, hh, m, T, rfl, rfl, by rw [upd_ne hne]; exact hT⟩
theorem TupAt.ex {H H' : Hp} {r : OR.Row} {v : V} (e : Ex H H') (h : TupAt H r v) : TupAt H' r v := by
  obtain ⟨k, hh, m, T, rfl, rfl, hT⟩ := h
  exact ⟨k, hh, m, T, rfl, rfl, e _ _ hT⟩
theorem TupAt.dp {K : PySem.W.Frag} {H : Hp} {r : OR.Row} {v : V} (h : TupAt H r v) : Dp K H v r.toD := by
  obtain ⟨k, hh, m, T, rfl, rfl, hT⟩ := h
  exact .tup (SqT.of hT) (.cons (.int k) (.cons (.int hh) (.cons (.int m) .nil)))
/-- the items that the law draws -/
def spGen : Sp := fun vs H Q _ => ∃ (b c : Addr) (many : Nat) (hashes first : Int) (N : Nat), vs = [.ref b, .int (many : Int), .int hashes, .int first] ∧ BagC b c N H ∧ N < 2 ^ 39 ∧ 0 < hashes ∧ hashes < 2 ^ 200 ∧ many ≤ 20 ∧
  ∀ p H' its ws, H p = none → BagC b c (N + 3 * many) H' → But b H H' → H' p = some (.lst ws) → All2 (TupAt H') its ws → its.length = many → (∀ i r, its[i]? = some r → GenIt first hashes i r) → Q (.ref p) H'
section
variable {P : Program} {w : World} {K : PySem.W.Frag} {mg : Str → Option Value} {base : Heap} {f : Addr} {fd : FuncData}
abbrev s__law_items : Stmt := top 29
theorem sc__law_items : FnScope ["bag", "many", "hashes", "first", "k"] ["bag", "many", "hashes", "first"] (defScope s__law_items) := ⟨rfl, rfl, rfl, by decide +kernel, rfl, by decide +kernel, by decide +kernel⟩
theorem ok__law_items (F : Fun K "_law_items" "_law_items" s__law_items f fd) (B : Bi mg) (C__law_draw : Cal P w K mg base CX0 1 "_law_draw" ["bag", "limit"] spDrawC) : FnOk P w K mg base CX0 2 f fd ["bag", "many", "hashes", "first"] spGen := by
  refine F.ok sc__law_items (fun vs H Q E h => ?_) (fun cdv A outer s H vs Q E hr h => ?_)
  · obtain ⟨b, c, many, hashes, first, N, rfl, _⟩ := h
    rfl
  · obtain ⟨b, c, many, hashes, first, N, rfl, hB, hN, hh0, hh1, hm, q⟩ := h
    refine ⟨_, (pss_one (ps_ret (pe_lc (own := [("k", 4)]) (g := gName 4) (tt := tYes) rfl sc__law_items.nd (pi_range1 (by rfl) B.mg_range (pa_cons (pv 1) pa_nil)) (blkOk_by (N := ["bag", "many", "hashes", "first", "k"]) (sc := defScope s__law_items) (by decide +kernel)) (fun _ _ _ _ _ => (pg_name (i := 4) sc__law_items.nd rfl (Or.inl rfl))) (fun _ _ _ _ _ => pts_nil) (fun _ _ _ _ _ => (pe_tup (pa_cons (pe_op op_sub (pe_op op_add (pv 3) (pe_op op_mul pe_int (pv 4))) (pe_cal C__law_draw hr (pa_cons (pv 0) (pa_cons pe_int pa_nil)))) (pa_cons (pe_cal C__law_draw hr (pa_cons (pv 0) (pa_cons (pv 2) pa_nil))) (pa_cons (pe_cal C__law_draw hr (pa_cons (pv 0) (pa_cons pe_int pa_nil))) pa_nil)))))))), ?_⟩
    refine ⟨_, rfl, many, rfl, by omega, by omega, fun D hD => ?_⟩
    refine lc_range (lo := 0) (n := many) (fun i H' => BagC b c (N + 3 * i) H' ∧ But b H H' ∧ ∃ its ws, H' D = some (.lst ws) ∧ All2 (TupAt H') its ws ∧ its.length = i ∧ ∀ j r, its[j]? = some r → GenIt first hashes j r) ?_ (fun i H1 hi p => ?_) (fun H1 p => ?_)
    · exact ⟨hB.new hD, But.new hD, [], [], upd_same, .nil, rfl, fun j r z => by simp at z⟩
    · obtain ⟨B1, e1, its, ws, hw, hall, hlen, hgen⟩ := p
      have e0 : (0 : Int) + (i : Int) = (i : Int) := Int.zero_add _
      rw [e0]
      refine ⟨rfl, _, rfl, _, rfl, _, _, rfl, rfl, .inl ⟨by decide, by decide⟩, _, _, rfl, rfl, _, rfl, b, c, 3, _, rfl, B1, by omega, by decide, by decide, fun d1 H2 d10 d11 B2 x2 => ?_⟩
      refine ⟨_, _, rfl, rfl, _, rfl, _, rfl, b, c, hashes, _, rfl, B2, by omega, hh0, hh1, fun d2 H3 d20 d21 B3 x3 => ?_⟩
      refine ⟨_, rfl, b, c, 9, _, rfl, B3, by omega, by decide, by decide, fun d3 H4 d30 d31 B4 x4 => ⟨(by show 3 ≤ sizeLine; decide), fun T hT => ?_⟩⟩
      have Db : D ≠ b := B1.ne_lst hw
      have Dc : D ≠ c := fun z => hB.nc (by rw [← z]; exact hD)
      have s4 : ∀ p, p ≠ b → H4 p = H1 p := fun p hp => by rw [x4 p hp, x3 p hp, x2 p hp]
      have c4 : But b H1 H4 := fun p o hp h => by rw [s4 p hp]; exact h
      have hw4 : H4 D = some (.lst ws) := c4 _ _ Db hw
      have hlw := hall.len
      have B5 := B4.new (o := .tup [V.int (first + 3 * (i : Int) - d1), V.int d2, V.int d3]) hT
      have DT : D ≠ T := ne_of_none hw4 hT
      have hw5 : upd H4 T (.tup [V.int (first + 3 * (i : Int) - d1), V.int d2, V.int d3]) D = some (.lst ws) := by rw [upd_ne DT]; exact hw4
      have B6 := B5.upd (p := D) (o := .lst (ws ++ [V.ref T])) Db Dc
      refine ⟨ws, hw5, sz_lt (by omega), B6.mono (by omega), ?_, its ++ [.it (first + 3 * (i : Int) - d1) d2 d3], ws ++ [V.ref T], upd_same, ?_, by rw [List.length_append, hlen]; rfl, fun j r hj => ?_⟩
      · intro p o hp h
        have hpD : p ≠ D := fun z => by rw [z, hD] at h; cases h
        rw [upd_ne hpD]
        have h4 := c4 _ _ hp (e1 _ _ hp h)
        rw [upd_ne (ne_of_none h4 hT)]
        exact h4
      · refine All2.snoc (hall.imp fun r v _ z => TupAt.lst hw5 (TupAt.ex (Ex.new hT) (TupAt.but B1 c4 z))) ?_
        exact ⟨_, _, _, T, rfl, rfl, by rw [upd_ne (Ne.symm DT), upd_same]⟩
      · rcases Nat.lt_or_ge j its.length with z | z
        · rw [List.getElem?_append_left z] at hj
          exact hgen j r hj
        · rw [List.getElem?_append_right z] at hj
          have ej : j = its.length := by
            rcases Nat.eq_or_lt_of_le z with w | w
            · exact w.symm
            · rw [List.getElem?_eq_none (by simp; omega)] at hj
              cases hj
          subst ej
          simp at hj
          subst hj
          exact ⟨_, _, _, rfl, by omega, by omega, d20, d21, d30, d31⟩
    · obtain ⟨B1, e1, its, ws, hw, hall, hlen, hgen⟩ := p
      exact q D H1 its ws hD B1 e1 hw hall hlen hgen
end
end K40
set_option Elab.async false
set_option linter.all false
set_option maxRecDepth 100000
set_option maxHeartbeats 4000000
namespace K40
open PySem PySem.Calls PySem.Spec PyProof.Rows L2 OR Evl
def spDrawn (K : PySem.W.Frag) : Sp := fun vs H Q _ => ∃ (b c : Addr) (way : Str) (hashes : Int) (N : Nat), vs = [.ref b, .str way, .int hashes] ∧ BagC b c N H ∧ N < 2 ^ 38 ∧ 0 < hashes ∧ hashes < 2 ^ 200 ∧
  ∀ p H' rows ws, H p = none → BagC b c (N + 200) H' → But b H H' → H' p = some (.tup ws) → All2 (fun r v => Dp K H' v (Row.toD r)) rows ws → Ring rows → rows.length ≤ 12 → Q (.ref p) H'
/-- an item whose key lies in its own stretch -/
def GK (first : Int) (i : Nat) (r : OR.Row) : Prop := ∃ k h m, r = .it k h m ∧ first + 3 * (i : Int) - 2 ≤ k ∧ k ≤ first + 3 * (i : Int) ∧ 0 ≤ h
theorem gk_nodup {first : Int} {its : List OR.Row} (h : ∀ i r, its[i]? = some r → GK first i r) : (its.map Row.key).Nodup := by
  unfold List.Nodup
  rw [List.pairwise_map, List.pairwise_iff_getElem]
  intro i j hi hj hij e
  obtain ⟨k, hh, m, e1, a1, a2, _⟩ := h i _ (List.getElem?_eq_getElem hi)
  obtain ⟨k', hh', m', e2, b1, b2, _⟩ := h j _ (List.getElem?_eq_getElem hj)
  rw [e1, e2] at e
  have e : k = k' := e
  omega
/-- each row: the item, nothing, or a stone -/
def Ch (r r' : OR.Row) : Prop := r' = r ∨ r' = .non ∨ r' = .sto
theorem ch_ring {its rs : List OR.Row} (h : All2 Ch its rs) (hk : (its.map Row.key).Nodup) (ho : ∀ r ∈ its, r.isIt = true ∧ r.ok = true) (t : Nat) : Ring ((OR.Row.non :: rs).drop t ++ (OR.Row.non :: rs).take t) := by
  have p : ((OR.Row.non :: rs).drop t ++ (OR.Row.non :: rs).take t).Perm (OR.Row.non :: rs) := List.perm_append_comm.trans (by rw [List.take_append_drop])
  have ok : ∀ r ∈ rs, r.ok = true := by
    clear hk p
    induction h with
    | nil => simp
    | cons h1 h2 ih =>
      intro r hr
      rcases List.mem_cons.mp hr with rfl | hr
      · rcases h1 with rfl | rfl | rfl
        · exact (ho _ (List.mem_cons_self ..)).2
        · rfl
        · rfl
      · exact ih (fun r hr => ho r (List.mem_cons_of_mem _ hr)) r hr
  have sub : ((rs.filter Row.isIt).map Row.key).Sublist (its.map Row.key) := by
    clear hk p ok
    induction h with
    | nil => exact .slnil
    | cons h1 h2 ih =>
      have ih := ih fun r hr => ho r (List.mem_cons_of_mem _ hr)
      rcases h1 with rfl | rfl | rfl
      · rw [List.filter_cons, if_pos (ho _ (List.mem_cons_self ..)).1]
        exact ih.cons₂ _
      · exact ih.cons _
      · exact ih.cons _
  refine ⟨fun r hr => ?_, p.symm.subset (List.mem_cons_self ..), ?_⟩
  · rcases List.mem_cons.mp (p.subset hr) with rfl | h
    · rfl
    · exact ok r h
  · refine ((p.filter Row.isIt).map Row.key).nodup_iff.mpr ?_
    exact sub.nodup hk
section
variable {P : Program} {w : World} {K : PySem.W.Frag} {mg : Str → Option Value} {base : Heap} {f : Addr} {fd : FuncData}
abbrev s__law_drawn : Stmt := top 30
theorem sc__law_drawn : FnScope ["bag", "way", "hashes", "many", "items", "turn", "near", "k", "key", "far", "mark", "place", "rows", "item"] ["bag", "way", "hashes"] (defScope s__law_drawn) := ⟨rfl, rfl, rfl, by decide +kernel, rfl, by decide +kernel, by decide +kernel⟩
theorem ok__law_drawn (F : Fun K "_law_drawn" "_law_drawn" s__law_drawn f fd) (B : Bi mg) (C__law_draw : Cal P w K mg base CX0 1 "_law_draw" ["bag", "limit"] spDrawC) (C__law_items : Cal P w K mg base CX0 2 "_law_items" ["bag", "many", "hashes", "first"] spGen) : FnOk P w K mg base CX0 3 f fd ["bag", "way", "hashes"] (spDrawn K) := by
  refine F.ok sc__law_drawn (fun vs H Q E h => ?_) (fun cdv A outer s H vs Q E hr h => ?_)
  · obtain ⟨b, c, way, hashes, N, rfl, _⟩ := h
    rfl
  · obtain ⟨b, c, way, hashes, N, rfl, hB, hN, hh0, hh1, q⟩ := h
    refine ⟨_, (pss_cons (ps_set (i := 3) sc__law_drawn.nd rfl (Or.inl rfl) (pe_op op_add pe_int (pe_cal C__law_draw hr (pa_cons (pv 0) (pa_cons pe_int pa_nil)))))
      (pss_cons (ps_set (i := 4) sc__law_drawn.nd rfl (Or.inl rfl) (pe_cal C__law_items hr (pa_cons (pv 0) (pa_cons (pe_op op_sub (pv 3) pe_int) (pa_cons (pv 2) (pa_cons (pe_cal C__law_draw hr (pa_cons (pv 0) (pa_cons pe_int pa_nil))) pa_nil))))))
      (pss_cons (ps_set (i := 5) sc__law_drawn.nd rfl (Or.inl rfl) (pe_cal C__law_draw hr (pa_cons (pv 0) (pa_cons (pv 3) pa_nil))))
      (Evl.pss_cut (ps_if (pt_cmpR op_eq (pe_cal C__law_draw hr (pa_cons (pv 0) (pa_cons pe_int pa_nil))) pe_int (nomark _)) (pss_cons (ps_set (i := 6) sc__law_drawn.nd rfl (Or.inl rfl) (pe_lst pa_nil))
      (pss_cons (ps_for PassesOwn.never rfl (pi_range1 (by rfl) B.mg_range (pa_cons (pe_op op_sub (pv 3) pe_int) pa_nil)) (pg_name (i := 7) sc__law_drawn.nd rfl (Or.inl rfl)) (pss_cons (ps_asg (pe_ix (ixL K) (pv 4) (pv 7) (fun _ _ => rfl)) (pg_tup rfl (pgs_cons (pg_name (i := 8) sc__law_drawn.nd rfl (Or.inl rfl)) (pgs_cons (pg_name (i := 9) sc__law_drawn.nd rfl (Or.inl rfl)) (pgs_cons (pg_name (i := 10) sc__law_drawn.nd rfl (Or.inl rfl)) pgs_nil)))))
      (pss_cons (ps_set (i := 11) sc__law_drawn.nd rfl (Or.inl rfl) (pe_op op_mod (pe_callTy call_int1 (by rfl) B.mg_int (by decide +kernel) (pa_cons (pe_op op_sub (pe_op op_sub (pe_op op_add (pv 7) pe_int) (pv 5)) (pe_callB (call_min2 rfl) (by rfl) B.mg_min (by decide +kernel) (pa_cons (pv 7) (pa_cons (pe_cal C__law_draw hr (pa_cons (pv 0) (pa_cons pe_int pa_nil))) pa_nil)))) pa_nil)) (pv 3)))
      (pss_one (ps_expr (pe_bm PySem.F.plainAttrs_list PySem.F.slot_list_append PySem.F.type_list_append mt_append (pv 6) (pa_cons (pe_tup (pa_cons (pv 8) (pa_cons (pe_op op_add (pv 11) (pe_op op_mul (pv 3) (pv 9))) (pa_cons (pv 10) pa_nil)))) pa_nil)))))))
      (pss_one (ps_set (i := 4) sc__law_drawn.nd rfl (Or.inl rfl) (pv 6))))) pss_nil)
      (pss_cons (ps_setLc (i := 12) (own := [("item", 13)]) (g := gName 13) (tt := tYes) rfl sc__law_drawn.nd rfl rfl (sw_true rfl rfl rfl rfl) (pi_list (pv 4)) (blkOk_by (N := ["bag", "way", "hashes", "many", "items", "turn", "near", "k", "key", "far", "mark", "place", "rows", "item"]) (sc := defScope s__law_drawn) (by decide +kernel)) (fun _ _ _ _ _ => (pg_name (i := 13) sc__law_drawn.nd rfl (Or.inl rfl))) (fun _ _ _ _ _ => pts_nil) (fun _ _ _ _ _ => (pe_ix (ixL K) (pe_lst (pa_cons (pv 13) (pa_cons pe_non (pa_cons (pe_ifExp (pt_cmpR op_eq (pv 1) pe_str (nomark _)) pe_str (pv 13)) (pa_cons (pv 13) pa_nil))))) (pe_cal C__law_draw hr (pa_cons (pv 0) (pa_cons pe_int pa_nil))) (fun _ _ => rfl))))
      (pss_one (ps_ret (pe_callTy (tupS K) (by rfl) B.mg_tuple (by decide +kernel) (pa_cons (pe_op op_cat (pe_slice sl_list (pe_op op_cat (pe_lst (pa_cons pe_non pa_nil)) (pv 12)) (po_some (pv 5)) po_none) (pe_slice sl_list (pe_op op_cat (pe_lst (pa_cons pe_non pa_nil)) (pv 12)) po_none (po_some (pv 5)))) pa_nil))))))))), ?_⟩
    refine ⟨_, rfl, b, c, 12, _, rfl, hB, by omega, by decide, by decide, fun d1 H1 d10 d11 B1 x1 => ?_⟩
    obtain ⟨m, rfl⟩ : ∃ m : Nat, d1 = (m : Int) := ⟨d1.toNat, by omega⟩
    have c1 : But b H H1 := But.eqs x1
    refine ⟨_, _, rfl, rfl, ?_⟩
    refine ⟨_, rfl, _, rfl, _, _, rfl, rfl, _, rfl, _, rfl, b, c, 50, _, rfl, B1, by omega, by decide, by decide, fun d2 H2 d20 d21 B2 x2 => ?_⟩
    have c2 := c1.trans (But.eqs x2)
    refine ⟨b, c, m, hashes, d2, _, ?_, B2, by omega, hh0, hh1, by omega, fun l H3 its ws nl B3 c3 hl hall hlen hgen => ?_⟩
    · show [V.ref b, V.int (1 + (m : Int) - 1), V.int hashes, V.int d2] = _
      rw [show 1 + (m : Int) - 1 = (m : Int) by omega]
    have c13 := c2.trans c3
    refine ⟨_, rfl, _, rfl, b, c, 1 + (m : Int), _, rfl, B3, by omega, by omega, by omega, fun d3 H4 d30 d31 B4 x4 => ?_⟩
    obtain ⟨t, rfl⟩ : ∃ t : Nat, d3 = (t : Int) := ⟨d3.toNat, by omega⟩
    have lb : l ≠ b := B3.ne_lst hl
    have lH : H l = none := by
      cases e : H l with
      | none => rfl
      | some o => rw [c2 l o lb e] at nl; cases nl
    have c14 := c13.trans (But.eqs x4)
    have hl4 : H4 l = some (.lst ws) := by rw [x4 l lb]; exact hl
    have hall4 : All2 (TupAt H4) its ws := hall.imp fun _ _ _ z => z.but B3 (But.eqs x4)
    refine ⟨fun σ' H' => ∃ l its ws z6 z7 z8 z9 z10 z11, σ' = [some (.ref b), some (.str way), some (.int hashes), some (.int (1 + (m : Int))), some (.ref l), some (.int (t : Int)), z6, z7, z8, z9, z10, z11, none, none] ∧ BagC b c (N + 100) H' ∧ But b H H' ∧ H l = none ∧ H' l = some (.lst ws) ∧ All2 (TupAt H') its ws ∧ its.length = m ∧ ∀ i r, its[i]? = some r → GK d2 i r, ?_, ?_⟩
    · refine ⟨_, rfl, b, c, 2, _, rfl, B4, by omega, by decide, by decide, fun d4 H5 d40 d41 B5 x5 => ?_⟩
      have c15 := c14.trans (But.eqs x5)
      have hl5 : H5 l = some (.lst ws) := by rw [x5 l lb]; exact hl4
      have hall5 : All2 (TupAt H5) its ws := hall4.imp fun _ _ _ z => z.but B4 (But.eqs x5)
      have gk : ∀ i r, its[i]? = some r → GK d2 i r := fun i r hr => by
        obtain ⟨k, hh, mm, e, a1, a2, a3, _⟩ := hgen i r hr
        exact ⟨k, hh, mm, e, a1, a2, a3⟩
      refine ⟨rfl, _, rfl, ite2 (fun hb => ?_) (fun hb => ?_)⟩
      · refine ⟨(by show 0 ≤ sizeLine; decide), fun l2 n2 => ?_⟩
        have ll2 : l ≠ l2 := ne_of_none hl5 n2
        have l2H : H l2 = none := by
          have l2b : l2 ≠ b := fun z => B5.nb (by rw [← z]; exact n2)
          cases e : H l2 with
          | none => rfl
          | some o => rw [c15 l2 o l2b e] at n2; cases n2
        have l2b : l2 ≠ b := fun z => B5.nb (by rw [← z]; exact n2)
        have l2c : l2 ≠ c := fun z => B5.nc (by rw [← z]; exact n2)
        refine ⟨_, rfl, _, _, rfl, rfl, 1 + (m : Int) - 1, rfl, by omega, by omega, ?_⟩
        rw [show (1 + (m : Int) - 1).toNat = m by omega]
        refine for_range (lo := 0) (n := m) (fun i σ' H' => ∃ z7 z8 z9 z10 z11 its2 ws2, σ' = [some (.ref b), some (.str way), some (.int hashes), some (.int (1 + (m : Int))), some (.ref l), some (.int (t : Int)), some (.ref l2), z7, z8, z9, z10, z11, none, none] ∧ BagC b c (N + 10 + 3 * m + i) H' ∧ But b H H' ∧
          H' l = some (.lst ws) ∧ All2 (TupAt H') its ws ∧ H' l2 = some (.lst ws2) ∧ All2 (TupAt H') its2 ws2 ∧ its2.length = i ∧ ∀ j r, its2[j]? = some r → GK d2 j r) ?_ (fun i σ' H' hi h => ?_) (fun σ' H' h => ?_)
        · exact ⟨none, none, none, none, none, [], [], rfl, (B5.new n2).mono (by omega), c15.trans (But.new n2), by rw [upd_ne ll2]; exact hl5, hall5.imp fun _ _ _ z => z.ex (Ex.new n2), upd_same, .nil, rfl, fun j r z => by simp at z⟩
        · obtain ⟨z7, z8, z9, z10, z11, its2, ws2, rfl, B6, c6, hl6, hall6, h26, hall2, hlen2, hgk2⟩ := h
          have e0 : (0 : Int) + (i : Int) = (i : Int) := Int.zero_add _
          rw [e0]
          have hi3 : i < its.length := by omega
          obtain ⟨v, hv, htup⟩ := hall6.get (List.getElem?_eq_getElem hi3)
          obtain ⟨k, hh, mm, e1, a1, a2, a3⟩ := gk i _ (List.getElem?_eq_getElem hi3)
          obtain ⟨k', hh', mm', T, e2, rfl, hT⟩ := htup
          have e3 : k' = k ∧ hh' = hh := by
            rw [e1] at e2
            injection e2 with w1 w2 w3
            exact ⟨w1.symm, w2.symm⟩
          obtain ⟨rfl, rfl⟩ := e3
          refine ⟨_, rfl, _, rfl, l, ws, _, _, rfl, rfl, SqL.of hl6, atI_nat hv, ?_⟩
          refine ⟨T, _, rfl, SqT.of hT, rfl, _, _, rfl, _, _, rfl, _, _, rfl, rfl, ?_⟩
          refine ⟨_, rfl, _, _, rfl, rfl, _, rfl, _, _, rfl, rfl, _, rfl, _, rfl, b, c, 3, _, rfl, B6, by omega, by decide, by decide, fun d5 H7 d50 d51 B7 x7 => ?_⟩
          refine ⟨_, _, rfl, _, _, rfl, rfl, .inl ⟨_, rfl, _, rfl, _, _, rfl, rfl, by omega, ?_⟩⟩
          have h27 : H7 l2 = some (.lst ws2) := by rw [x7 l2 l2b]; exact h26
          have hl2len := hall2.len
          refine ⟨_, rfl, .inl ⟨rfl, ws2, SqL.of h27⟩, ?_⟩
          refine ⟨_, rfl, _, rfl, _, rfl, _, rfl, _, _, rfl, rfl, .inl ⟨by omega, by omega⟩, _, _, rfl, rfl, _, rfl, (by show 3 ≤ sizeLine; decide), fun T2 nT2 => ?_⟩
          have l2T2 : l2 ≠ T2 := ne_of_none h27 nT2
          refine ⟨l2, ws2, .ref T2, rfl, rfl, by rw [upd_ne l2T2]; exact h27, sz_lt (by omega), ?_⟩
          have B8 := (B7.new (o := .tup [V.int k', V.int (((i : Int) + 1 - (t : Int) - if d5 < (i : Int) then d5 else (i : Int)) % (1 + (m : Int)) + (1 + (m : Int)) * hh'), V.int mm']) nT2).upd (p := l2) (o := .lst (ws2 ++ [V.ref T2])) l2b l2c
          have c78 := (c6.trans (But.eqs x7)).trans (But.new (o := .tup [V.int k', V.int (((i : Int) + 1 - (t : Int) - if d5 < (i : Int) then d5 else (i : Int)) % (1 + (m : Int)) + (1 + (m : Int)) * hh'), V.int mm']) nT2)
          have lT2 : l ≠ T2 := ne_of_none (by rw [x7 l lb]; exact hl6) nT2
          have h2u : ∀ {o}, upd H7 T2 o l2 = some (.lst ws2) := fun {o} => by rw [upd_ne l2T2]; exact h27
          refine ⟨some (.int (i : Int)), _, _, _, _, its2 ++ [.it k' (((i : Int) + 1 - (t : Int) - if d5 < (i : Int) then d5 else (i : Int)) % (1 + (m : Int)) + (1 + (m : Int)) * hh') mm'], ws2 ++ [.ref T2], rfl, B8.mono (by omega), fun p o hp h => ?_, ?_, ?_, upd_same, ?_, by rw [List.length_append, hlen2]; rfl, fun j r hj => ?_⟩
          · have : p ≠ l2 := fun z => by rw [z, l2H] at h; cases h
            rw [upd_ne this]
            exact c78 p o hp h
          · rw [upd_ne ll2, upd_ne lT2, x7 l lb]
            exact hl6
          · exact hall6.imp fun _ _ _ z => TupAt.lst h2u (TupAt.ex (Ex.new nT2) (z.but B6 (But.eqs x7)))
          · refine All2.snoc (hall2.imp fun _ _ _ z => TupAt.lst h2u (TupAt.ex (Ex.new nT2) (z.but B6 (But.eqs x7)))) ?_
            exact ⟨_, _, _, T2, rfl, rfl, by rw [upd_ne (Ne.symm l2T2), upd_same]⟩
          · rcases Nat.lt_or_ge j its2.length with z | z
            · rw [List.getElem?_append_left z] at hj
              exact hgk2 j r hj
            · rw [List.getElem?_append_right z] at hj
              have ej : j = its2.length := by
                rcases Nat.eq_or_lt_of_le z with w | w
                · exact w.symm
                · rw [List.getElem?_eq_none (by simp; omega)] at hj
                  cases hj
              subst ej
              simp at hj
              subst hj
              refine ⟨_, _, _, rfl, by omega, by omega, ?_⟩
              have g1 := Int.emod_nonneg ((i : Int) + 1 - (t : Int) - if d5 < (i : Int) then d5 else (i : Int)) (b := 1 + (m : Int)) (by omega)
              have g2 : 0 ≤ (1 + (m : Int)) * hh' := Int.mul_nonneg (by omega) a3
              omega
        · obtain ⟨z7, z8, z9, z10, z11, its2, ws2, rfl, B6, c6, hl6, hall6, h26, hall2, hlen2, hgk2⟩ := h
          exact ⟨_, rfl, l2, its2, ws2, _, _, _, _, _, _, rfl, B6.mono (by omega), c6, l2H, h26, hall2, hlen2, hgk2⟩
      · exact ⟨l, its, ws, _, _, _, _, _, _, rfl, B5.mono (by omega), c15, lH, hl5, hall5, hlen, gk⟩
    · rintro σ' H' ⟨l, its, ws, z6, z7, z8, z9, z10, z11, rfl, B5, c5, lH, hl5, hall5, hlen, hgk⟩
      have hlw := hall5.len
      refine ⟨_, rfl, l, rfl, ⟨ws, SqL.of hl5⟩, fun D hD => ?_⟩
      have Db : D ≠ b := fun z => B5.nb (by rw [← z]; exact hD)
      have Dc : D ≠ c := fun z => B5.nc (by rw [← z]; exact hD)
      have lD : l ≠ D := ne_of_none hl5 hD
      have lb : l ≠ b := B5.ne_lst hl5
      have DH : H D = none := by
        cases e : H D with
        | none => rfl
        | some o => rw [c5 D o Db e] at hD; cases hD
      refine lc_list (xs := ws) (fun i H2 => BagC b c (N + 100 + i) H2 ∧ But b H H2 ∧ H2 l = some (.lst ws) ∧ All2 (TupAt H2) its ws ∧ ∃ rs ws2, H2 D = some (.lst ws2) ∧ ws2.length = i ∧ All2 Ch (its.take i) rs ∧ All2 (fun r v => r = .non ∧ v = .non ∨ r = .sto ∧ v = .str "stone" ∨ TupAt H2 r v) rs ws2) ?_ (fun i H2 hi h => SqL.of h.2.2.1) (fun i x H2 hx h => ?_) (fun H2 h => ?_)
      · exact ⟨B5.new hD, c5.trans (But.new hD), by rw [upd_ne lD]; exact hl5, hall5.imp fun _ _ _ z => z.ex (Ex.new hD), [], [], upd_same, rfl, .nil, .nil⟩
      · obtain ⟨B6, c6, hl6, hall6, rs, ws2, hD6, hlen2, hch, hall2⟩ := h
        have hi3 : i < its.length := by have := (List.getElem?_eq_some_iff.mp hx).1; omega
        obtain ⟨v, hv, htup⟩ := hall6.get (List.getElem?_eq_getElem hi3)
        have ev : v = x := Option.some.inj (hv.symm.trans hx)
        subst ev
        refine ⟨rfl, ?_⟩
        -- the list of four
        have four : ∀ (u : V), (u = .str "stone" ∨ u = v) → ∀ H7, Ex H2 H7 → ∀ (L : Addr) H8, H7 L = none → H8 = upd H7 L (.lst [v, .non, u, v]) → ∀ (Q' : VK), (∀ (y : V) (r : OR.Row) H9, Ch its[i] r → (r = .non ∧ y = .non ∨ r = .sto ∧ y = .str "stone" ∨ y = v ∧ r = its[i]) → BagC b c (N + 100 + (i + 1)) H9 → But b H2 H9 → H9 l = some (.lst ws) → H9 D = some (.lst ws2) → Q' y H9) →
            (tCall spDrawC [] E0 (tCons (tVar 0) (tCons (tC (.int 4)) tNil))) [some (.ref b), some (.str way), some (.int hashes), some (.int (1 + (m : Int))), some (.ref l), some (.int (t : Int)), z6, z7, z8, z9, z10, z11, none, some v] H8 (fun y H9 => rIxL K (.ref L) y H9 Q') := by
          intro u hu H7 e7 L H8 nL e8 Q' k
          subst e8
          refine ⟨_, rfl, b, c, 4, _, rfl, (B6.ex (e7.trans (Ex.new nL))), by omega, by decide, by decide, fun d6 H9 d60 d61 B9 x9 => ?_⟩
          have Lb : L ≠ b := fun z => (B6.ex e7).nb (by rw [← z]; exact nL)
          have e78 := e7.trans (Ex.new (o := .lst [v, .non, u, v]) nL)
          have hL9 : H9 L = some (.lst [v, .non, u, v]) := by rw [x9 L Lb]; exact upd_same
          have c9 : But b H2 H9 := fun p o hp h => by rw [x9 p hp]; exact e78 _ _ h
          obtain ⟨j, rfl⟩ : ∃ j : Nat, d6 = (j : Int) := ⟨d6.toNat, by omega⟩
          have done : ∀ (y : V) (r : OR.Row), ([v, .non, u, v] : List V)[j]? = some y → Ch its[i] r → (r = .non ∧ y = .non ∨ r = .sto ∧ y = .str "stone" ∨ y = v ∧ r = its[i]) → rIxL K (.ref L) (.int (j : Int)) H9 Q' := fun y r hy hc hr =>
            ⟨L, _, _, y, rfl, rfl, SqL.of hL9, atI_nat hy, k y r H9 hc hr (B9.mono (by omega)) c9 (c9 _ _ lb hl6) (c9 _ _ Db hD6)⟩
          have hj4 : j = 0 ∨ j = 1 ∨ j = 2 ∨ j = 3 := by omega
          rcases hj4 with rfl | rfl | rfl | rfl
          · exact done v its[i] rfl (.inl rfl) (.inr (.inr ⟨rfl, rfl⟩))
          · exact done .non .non rfl (.inr (.inl rfl)) (.inl ⟨rfl, rfl⟩)
          · rcases hu with rfl | rfl
            · exact done _ .sto rfl (.inr (.inr rfl)) (.inr (.inl ⟨rfl, rfl⟩))
            · exact done _ its[i] rfl (.inl rfl) (.inr (.inr ⟨rfl, rfl⟩))
          · exact done v its[i] rfl (.inl rfl) (.inr (.inr ⟨rfl, rfl⟩))
        have fin : ∀ (y : V) (r : OR.Row) H9, Ch its[i] r → (r = .non ∧ y = .non ∨ r = .sto ∧ y = .str "stone" ∨ y = v ∧ r = its[i]) → BagC b c (N + 100 + (i + 1)) H9 → But b H2 H9 → H9 l = some (.lst ws) → H9 D = some (.lst ws2) →
            ∃ acc, H9 D = some (.lst acc) ∧ acc.length < sizeLine ∧ (BagC b c (N + 100 + (i + 1)) (upd H9 D (.lst (acc ++ [y]))) ∧ But b H (upd H9 D (.lst (acc ++ [y]))) ∧ upd H9 D (.lst (acc ++ [y])) l = some (.lst ws) ∧ All2 (TupAt (upd H9 D (.lst (acc ++ [y])))) its ws ∧ ∃ rs ws2, upd H9 D (.lst (acc ++ [y])) D = some (.lst ws2) ∧ ws2.length = i + 1 ∧ All2 Ch (its.take (i + 1)) rs ∧ All2 (fun r v => r = .non ∧ v = .non ∨ r = .sto ∧ v = .str "stone" ∨ TupAt (upd H9 D (.lst (acc ++ [y]))) r v) rs ws2) := by
          intro y r H9 hc hr B9 c9 hl9 hD9
          have tu : ∀ {r v}, TupAt H2 r v → TupAt (upd H9 D (.lst (ws2 ++ [y]))) r v := fun z => TupAt.lst hD9 (z.but B6 c9)
          refine ⟨ws2, hD9, sz_lt (by omega), B9.upd Db Dc, fun p o hp h => ?_, by rw [upd_ne lD]; exact hl9, hall6.imp fun _ _ _ z => tu z, rs ++ [r], ws2 ++ [y], upd_same, by rw [List.length_append, hlen2]; rfl, ?_, ?_⟩
          · have : p ≠ D := fun z => by rw [z, DH] at h; cases h
            rw [upd_ne this]
            exact c9 p o hp (c6 p o hp h)
          · rw [List.take_succ, List.getElem?_eq_getElem hi3]
            exact hch.snoc hc
          · refine All2.snoc (hall2.imp fun _ _ _ z => ?_) ?_
            · rcases z with z | z | z
              · exact .inl z
              · exact .inr (.inl z)
              · exact .inr (.inr (tu z))
            · rcases hr with z | z | ⟨rfl, rfl⟩
              · exact .inl z
              · exact .inr (.inl z)
              · exact .inr (.inr (tu htup))
        refine ⟨_, rfl, _, rfl, rfl, _, rfl, ite2 (fun hw => ?_) (fun hw => ?_)⟩
        · exact ⟨_, rfl, (by show 4 ≤ sizeLine; decide), fun L nL => four _ (.inl rfl) H2 (Ex.refl _) L _ nL rfl _ fin⟩
        · exact ⟨_, rfl, _, rfl, (by show 4 ≤ sizeLine; decide), fun L nL => four _ (.inr rfl) H2 (Ex.refl _) L _ nL rfl _ fin⟩
      · obtain ⟨B6, c6, hl6, hall6, rs, ws2, hD6, hlen2, hch, hall2⟩ := h
        dsimp only
        have htl : t ≤ (V.non :: ws2).length := by
          show t ≤ ws2.length + 1
          omega
        have one : ∀ {ts : L2.St}, EvL (tLst (tCons (tC .non) tNil)) ts H2 [V.non] := fun {ts} => el_lst (ea_cons ev_c ea_nil) (by simp)
        refine s_retU (eu_tupL (el_catL (el_slN (el_catR one (ev_var rfl) hD6 (by simp; omega)) (eo_some (ev_var rfl)) eo_none) (el_slN (el_catR one (ev_var rfl) hD6 (by simp; omega)) eo_none (eo_some (ev_var rfl))) ?_)) fun p H3 np e3 hp => ?_
        · have h1 : (cutV ([V.non] ++ ws2) (some (t : Int)) none).length ≤ ws2.length + 1 := cutV_length (V.non :: ws2) _ _
          have h2 : (cutV ([V.non] ++ ws2) none (some (t : Int))).length ≤ ws2.length + 1 := cutV_length (V.non :: ws2) _ _
          omega
        have hrl := hall2.len
        have htk := hch.len
        rw [hlw, hlen, ← hlen, List.take_length] at hch
        have e4 : cutV ([V.non] ++ ws2) (some (t : Int)) none ++ cutV ([V.non] ++ ws2) none (some (t : Int)) = (V.non :: ws2).drop t ++ (V.non :: ws2).take t := by
          show cutV (V.non :: ws2) _ _ ++ cutV (V.non :: ws2) _ _ = _
          rw [cut_drop htl, cut_take htl]
        rw [e4] at hp
        have hdp : All2 (fun r v => Dp K H3 v (Row.toD r)) (OR.Row.non :: rs) (V.non :: ws2) := .cons .non (hall2.imp fun r v _ z => by
          rcases z with ⟨rfl, rfl⟩ | ⟨rfl, rfl⟩ | z
          · exact .non
          · exact .str _
          · exact (z.ex e3).dp)
        have npH : H p = none := by
          have pb : p ≠ b := fun z => B6.nb (by rw [← z]; exact np)
          cases e : H p with
          | none => rfl
          | some o => rw [c6 p o pb e] at np; cases np
        refine q p H3 ((OR.Row.non :: rs).drop t ++ (OR.Row.non :: rs).take t) _ npH ((B6.ex e3).mono (by omega)) (c6.trans (But.ex e3)) hp ?_ (ch_ring hch (gk_nodup hgk) (fun r hr => ?_) t) ?_
        · exact (hdp.drop t).append (hdp.take t)
        · obtain ⟨i, hi, e⟩ := List.mem_iff_getElem.mp hr
          obtain ⟨k, hh, mm, e1, _, _, a3⟩ := hgk i r (by rw [List.getElem?_eq_getElem hi, e])
          rw [e1]
          exact ⟨rfl, decide_eq_true a3⟩
        · have h3 := hch.len
          simp only [List.length_append, List.length_drop, List.length_take, List.length_cons]
          omega
end
end K40
set_option Elab.async false
set_option linter.all false
set_option maxRecDepth 100000
set_option maxHeartbeats 4000000
/-! ED: expressions that come to data; one of a list of data by a draw. -/
namespace OR
open PySem PySem.Calls PySem.Spec PyProof.Rows L2 Evl
section
variable {K : PySem.W.Frag} {σ : L2.St} {H : Hp} {te ta tb : TE} {ts tr : TA} {d : PyData} {ds es : List PyData}
def EvD (K : PySem.W.Frag) (te : TE) (σ : L2.St) (H : Hp) (d : PyData) : Prop := ∀ H1, Ex H H1 → ∀ Q : VK, (∀ v H2, Ex H1 H2 → Dp K H2 v d → Q v H2) → te σ H1 Q
def EvAD (K : PySem.W.Frag) (ts : TA) (σ : L2.St) (H : Hp) (ds : List PyData) : Prop := ∀ H1, Ex H H1 → ∀ Q : List V → Hp → Prop, (∀ vs H2, Ex H1 H2 → DpAll K H2 vs ds → Q vs H2) → ts σ H1 Q
theorem ed_of {v : V} (h : Ev te σ H v) (hd : Dp K H v d) : EvD K te σ H d := fun H1 e Q q => h H1 e _ fun H2 e2 => q v H2 e2 (dp_ex (e.trans e2) _ _ hd)
theorem ed_int {i : Int} : EvD K (tC (.int i)) σ H (.int i) := ed_of ev_c (.int i)
theorem ed_str {x : Str} : EvD K (tC (.str x)) σ H (.str x) := ed_of ev_c (.str x)
theorem ed_non : EvD K (tC .non) σ H .none := ed_of ev_c .non
theorem ed_bl {b : Bool} : EvD K (tC (.bl b)) σ H (.bool b) := ed_of ev_c (.bl b)
theorem ead_nil : EvAD K tNil σ H [] := fun H1 e Q q => q [] H1 (Ex.refl _) .nil
theorem ead_cons (h : EvD K te σ H d) (h2 : EvAD K tr σ H ds) : EvAD K (tCons te tr) σ H (d :: ds) := fun H1 e Q q => h H1 e _ fun v H2 e2 hv => h2 H2 (e.trans e2) _ fun vs H3 e3 hvs => q (v :: vs) H3 (e2.trans e3) (.cons (dp_ex e3 _ _ hv) hvs)
theorem dpAll_len {H : Hp} {vs : List V} {ds : List PyData} (h : DpAll K H vs ds) : vs.length = ds.length := (dpAll_2.mp h).len
theorem ed_tup (h : EvAD K ts σ H ds) (hl : ds.length ≤ 100000) : EvD K (tTup ts) σ H (.tuple ds) := fun H1 e Q q => h H1 e _ fun vs H2 e2 hvs => ⟨sz_of (by rw [dpAll_len hvs]; exact hl), fun p hp => q _ _ (e2.trans (Ex.new hp)) (.tup (SqT.of upd_same) (dp_exAll (Ex.new hp) _ _ hvs))⟩
theorem ed_lst (h : EvAD K ts σ H ds) (hl : ds.length ≤ 100000) : EvD K (tLst ts) σ H (.list ds) := fun H1 e Q q => h H1 e _ fun vs H2 e2 hvs => ⟨sz_of (by rw [dpAll_len hvs]; exact hl), fun p hp => q _ _ (e2.trans (Ex.new hp)) (.lst (SqL.of upd_same) (dp_exAll (Ex.new hp) _ _ hvs))⟩
theorem dpAll_app {H : Hp} {vs ws : List V} {ds es : List PyData} (h : DpAll K H vs ds) (k : DpAll K H ws es) : DpAll K H (vs ++ ws) (ds ++ es) := dpAll_2.mpr ((dpAll_2.mp h).append (dpAll_2.mp k))
theorem ed_catT (ha : EvD K ta σ H (.tuple ds)) (hb : EvD K tb σ H (.tuple es)) (hl : ds.length + es.length ≤ 100000) : EvD K (tOp (rCatA K) ta tb) σ H (.tuple (ds ++ es)) := fun H1 e Q q => ha H1 e _ fun v H2 e2 hv => hb H2 (e.trans e2) _ fun u H3 e3 hu => by
  have hv := dp_ex e3 _ _ hv
  cases hv with
  | tup hs hd =>
    cases hu with
    | tup hs2 hd2 =>
      have l1 := dpAll_len hd
      have l2 := dpAll_len hd2
      refine ⟨_, _, _, _, rfl, rfl, hs, hs2, sz_of (by omega), fun hx => ?_, fun _ hy => ?_, fun _ _ p hp => ?_⟩
      · subst hx
        cases hd
        exact q _ _ (e2.trans e3) (.tup hs2 hd2)
      · subst hy
        cases hd2
        rw [List.append_nil] at q
        exact q _ _ (e2.trans e3) (.tup hs hd)
      · exact q _ _ ((e2.trans e3).trans (Ex.new hp)) (.tup (SqT.of upd_same) (dp_exAll (Ex.new hp) _ _ (dpAll_app hd hd2)))
theorem ed_slT {tl th : TO} {lo hi : Option Int} {ds' : List PyData} (h : EvD K te σ H (.tuple ds)) (h1 : EvO tl σ H lo) (h2 : EvO th σ H hi) (hw : HT.sIx ds.length 0 lo = 0 ∧ HT.sIx ds.length ds.length hi = ds.length → ds' = ds)
    (hc : ∀ (vs : List V) (H' : Hp), vs.length = ds.length → DpAll K H' vs ds → DpAll K H' (cutV vs lo hi) ds') : EvD K (tSl (rSlA K) te tl th) σ H (.tuple ds') := fun H1 e Q q => h H1 e _ fun v H2 e2 hv => h1 H2 (e.trans e2) _ fun H3 e3 => h2 H3 ((e.trans e2).trans e3) _ fun H4 e4 => by
  have hv := dp_ex (e3.trans e4) _ _ hv
  have e24 := (e2.trans e3).trans e4
  cases hv with
  | tup hs hd =>
    have l1 := dpAll_len hd
    refine ⟨_, _, rfl, hs, fun hx => ?_, fun _ p hp => ?_⟩
    · rw [l1] at hx
      rw [hw hx] at q
      exact q _ _ e24 (.tup hs hd)
    · exact q _ _ (e24.trans (Ex.new hp)) (.tup (SqT.of upd_same) (dp_exAll (Ex.new hp) _ _ (hc _ _ l1 hd)))
theorem ed_take {tl th : TO} {t : Nat} (h : EvD K te σ H (.tuple ds)) (h1 : EvO tl σ H none) (h2 : EvO th σ H (some (t : Int))) (ht : t ≤ ds.length) : EvD K (tSl (rSlA K) te tl th) σ H (.tuple (ds.take t)) :=
  ed_slT h h1 h2 (fun hx => by
    have := hx.2
    rw [HT.sIx_nat] at this
    exact List.take_of_length_le (by omega)) fun vs H' hl hd => by
    rw [cut_take (by omega)]
    exact dpAll_2.mpr ((dpAll_2.mp hd).take t)
theorem ed_drop {tl th : TO} {t : Nat} (h : EvD K te σ H (.tuple ds)) (h1 : EvO tl σ H (some (t : Int))) (h2 : EvO th σ H none) (ht : t ≤ ds.length) : EvD K (tSl (rSlA K) te tl th) σ H (.tuple (ds.drop t)) :=
  ed_slT h h1 h2 (fun hx => by
    have := hx.1
    rw [HT.sIx_nat] at this
    have : t = 0 ∨ ds.length = 0 := by omega
    rcases this with h | h
    · subst h; rfl
    · rw [List.length_eq_zero_iff.mp h]; simp) fun vs H' hl hd => by
    rw [cut_drop (by omega)]
    exact dpAll_2.mpr ((dpAll_2.mp hd).drop t)
theorem ed_list (h : EvD K te σ H (.tuple ds)) : EvD K (tCB (Evl.rListS K) (tCons te tNil)) σ H (.list ds) := fun H1 e Q q => h H1 e _ fun v H2 e2 hv => by
  cases hv with
  | tup hs hd => exact ⟨_, _, rfl, .inr hs, fun l hl => q _ _ (e2.trans (Ex.new hl)) (.lst (SqL.of upd_same) (dp_exAll (Ex.new hl) _ _ hd))⟩
theorem ep_if {t : TT} {b : Bool} {Pr : V → Hp → Prop} (h : EvT t σ H b) (h1 : b = true → EvP ta σ H Pr) (h2 : b = false → EvP tb σ H Pr) : EvP (tIf t ta tb) σ H Pr := fun H1 e Q q => h H1 e _ fun H2 e2 => by
  cases b with
  | true =>
    show ta σ H2 Q
    exact h1 rfl H2 (e.trans e2) Q fun v H3 e3 p => q v H3 (e2.trans e3) fun H4 k => p H4 (k.snd e2)
  | false =>
    show tb σ H2 Q
    exact h2 rfl H2 (e.trans e2) Q fun v H3 e3 p => q v H3 (e2.trans e3) fun H4 k => p H4 (k.snd e2)
theorem ep_tup {ts : TA} {vs : List V} (h : EvA ts σ H vs) (hl : vs.length ≤ 100000) : EvP (tTup ts) σ H (fun v H' => ∃ p, v = .ref p ∧ H' p = some (.tup vs)) := fun H1 e Q q => (eu_tup h hl) H1 e _ fun p H2 n e2 hp => q _ H2 e2 fun H3 k => ⟨p, rfl, k _ _ hp (.inr n)⟩
theorem EvP.imp {Pr Pr' : V → Hp → Prop} (h : EvP te σ H Pr) (k : ∀ v H', Pr v H' → Pr' v H') : EvP te σ H Pr' := fun H1 e Q q => h H1 e Q fun v H2 e2 p => q v H2 e2 fun H3 kp => k v H3 (p H3 kp)
theorem s_asgAD {D : Ends} {i : Nat} (h : EvAD K ts σ H ds) (hl : ds.length ≤ 100000) (k : ∀ p vs H2, H p = none → Ex H H2 → H2 p = some (.lst vs) → DpAll K H2 vs ds → D.nx (σ.set i (some (.ref p))) H2) : tAsg (tLst ts) (gName i) D σ H :=
  h H (Ex.refl _) _ fun vs H2 e2 hvs => ⟨sz_of (by rw [dpAll_len hvs]; exact hl), fun p hp => k p vs _ (fresh_back e2 hp) (e2.trans (Ex.new hp)) upd_same (dp_exAll (Ex.new hp) _ _ hvs)⟩
/-- x = tuple([.. for ..]) -/
theorem s_asgUF {D : Ends} {i : Nat} {Pr : List V → Hp → Prop} (h : EvF te σ H Pr) (k : ∀ p xs H2, H p = none → Ex H H2 → H2 p = some (.tup xs) → Pr xs H2 → D.nx (σ.set i (some (.ref p))) H2) : tAsg (tCB (rTupS K) (tCons te tNil)) (gName i) D σ H :=
  h H (Ex.refl _) _ fun p xs H2 n e2 hp hpr => ⟨p, xs, rfl, .inl ⟨sq_of hp, fun l hl => k l xs _ (fresh_back e2 hl) (e2.trans (Ex.new hl)) upd_same (hpr _ fun a o ha _ _ => Ex.new hl a o ha)⟩⟩
theorem s_asgD {D : Ends} {i : Nat} (h : EvD K te σ H d) (k : ∀ v H2, Ex H H2 → Dp K H2 v d → D.nx (σ.set i (some v)) H2) : tAsg te (gName i) D σ H := h H (Ex.refl _) _ k
theorem s_retD {D : Ends} (h : EvD K te σ H d) (k : ∀ v H2, Ex H H2 → Dp K H2 v d → D.rt v H2) : tRet te D σ H := h H (Ex.refl _) _ k
theorem all2_rev {α β : Type} {R : α → β → Prop} {as : List α} {bs : List β} (h : All2 R as bs) : All2 R as.reverse bs.reverse := by
  induction h with
  | nil => exact .nil
  | cons h1 _ ih => rw [List.reverse_cons, List.reverse_cons]; exact ih.snoc h1
theorem ed_revL (h : EvD K te σ H (.list ds)) : EvD K (tRevL K te) σ H (.list ds.reverse) := fun H1 e Q q => h H1 e _ fun v H2 e2 hv => by
  cases hv with
  | lst hs hd => exact ⟨_, _, rfl, hs, fun p hp => q _ _ (e2.trans (Ex.new hp)) (.lst (SqL.of upd_same) (dpAll_2.mpr (all2_rev ((dpAll_2.mp hd).imp fun _ _ _ z => dp_ex (Ex.new hp) _ _ z))))⟩
theorem ed_tupL (h : EvD K te σ H (.list ds)) : EvD K (tCB (rTupS K) (tCons te tNil)) σ H (.tuple ds) := fun H1 e Q q => h H1 e _ fun v H2 e2 hv => by
  cases hv with
  | lst hs hd => exact ⟨_, _, rfl, .inl ⟨hs, fun p hp => q _ _ (e2.trans (Ex.new hp)) (.tup (SqT.of upd_same) (dp_exAll (Ex.new hp) _ _ hd))⟩⟩
theorem ed_if {t : TT} {b : Bool} (h : EvT t σ H b) (h1 : b = true → EvD K ta σ H d) (h2 : b = false → EvD K tb σ H d) : EvD K (tIf t ta tb) σ H d := fun H1 e Q q => h H1 e _ fun H2 e2 => by
  cases b with
  | true => exact h1 rfl H2 (e.trans e2) Q fun v H3 e3 hv => q v H3 (e2.trans e3) hv
  | false => exact h2 rfl H2 (e.trans e2) Q fun v H3 e3 hv => q v H3 (e2.trans e3) hv
/-- x = f(e, ..), the first argument told as data -/
theorem s_callD {D : Ends} {sp : Sp} {E : XK} {i : Nat} (h : EvD K te σ H d) (k : ∀ v H1, Ex H H1 → Dp K H1 v d → tr σ H1 fun vs H2 => sp ((v :: vs) ++ []) H2 (fun u H3 => D.nx (σ.set i (some u)) H3) E) : tAsg (tCall sp [] E (tCons te tr)) (gName i) D σ H := h H (Ex.refl _) _ k
/-- [..][_law_draw(bag, n)] -/
theorem pick_draw {b c : Addr} {N i l : Nat} {E : XK} {Q : VK} (h : EvAD K ts σ H ds) (hB : BagC b c N H) (hN : N < 2 ^ 39) (hl : l = ds.length) (hz : ds.length ≤ 1000 ∧ 0 < ds.length) (hs : σ[i]? = some (some (.ref b)))
    (k : ∀ v d H', d ∈ ds → Dp K H' v d → BagC b c (N + 1) H' → But b H H' → Q v H') : tOp (rIxL K) (tLst ts) (tCall spDrawC [] E (tCons (tVar i) (tCons (tC (.int (l : Int))) tNil))) σ H Q := by
  refine h H (Ex.refl H) _ fun vs H2 e2 hvs => ⟨sz_of (by rw [dpAll_len hvs]; omega), fun p hp => ?_⟩
  have e3 : Ex H (upd H2 p (.lst vs)) := e2.trans (Ex.new hp)
  refine ⟨_, hs, b, c, l, N, rfl, hB.ex e3, by omega, by omega, ?_, fun d H4 d0 d1 B4 x4 => ?_⟩
  · have : (l : Int) ≤ 1000 := by omega
    exact Int.lt_of_le_of_lt this (by decide)
  have pb : p ≠ b := fun z => (hB.ex e2).nb (by rw [← z]; exact hp)
  have hvs3 := dp_exAll (Ex.new (o := .lst vs) hp) _ _ hvs
  obtain ⟨j, rfl⟩ : ∃ j : Nat, d = (j : Int) := ⟨d.toNat, by omega⟩
  have hj : j < ds.length := by omega
  obtain ⟨v, hv, hd⟩ := (dpAll_2.mp hvs3).get (List.getElem?_eq_getElem hj)
  have c4 : But b (upd H2 p (.lst vs)) H4 := But.eqs x4
  exact ⟨p, vs, _, v, rfl, rfl, SqL.of (by rw [x4 p pb]; exact upd_same), atI_nat hv, k v ds[j] H4 (List.getElem_mem hj) (dpC_but (hB.ex e3) c4 _ _ hd) B4 ((But.ex e3).trans c4)⟩
theorem s_retPick {D : Ends} {b c : Addr} {N i l : Nat} {E : XK} (h : EvAD K ts σ H ds) (hB : BagC b c N H) (hN : N < 2 ^ 39) (hl : l = ds.length) (hz : ds.length ≤ 1000 ∧ 0 < ds.length) (hs : σ[i]? = some (some (.ref b)))
    (k : ∀ v d H', d ∈ ds → Dp K H' v d → BagC b c (N + 1) H' → But b H H' → D.rt v H') : tRet (tOp (rIxL K) (tLst ts) (tCall spDrawC [] E (tCons (tVar i) (tCons (tC (.int (l : Int))) tNil)))) D σ H := pick_draw h hB hN hl hz hs k
theorem s_asgPick {D : Ends} {b c : Addr} {N i j l : Nat} {E : XK} (h : EvAD K ts σ H ds) (hB : BagC b c N H) (hN : N < 2 ^ 39) (hl : l = ds.length) (hz : ds.length ≤ 1000 ∧ 0 < ds.length) (hs : σ[i]? = some (some (.ref b)))
    (k : ∀ v d H', d ∈ ds → Dp K H' v d → BagC b c (N + 1) H' → But b H H' → D.nx (σ.set j (some v)) H') : tAsg (tOp (rIxL K) (tLst ts) (tCall spDrawC [] E (tCons (tVar i) (tCons (tC (.int (l : Int))) tNil)))) (gName j) D σ H := pick_draw h hB hN hl hz hs k
/-- x = xs + [[..][_law_draw(bag, n)]] -/
theorem s_asgCatPick {D : Ends} {b c l0 : Addr} {xs : List V} {N i j l ib : Nat} {E : XK} (hx : σ[i]? = some (some (.ref l0))) (hl0 : H l0 = some (.lst xs)) (hxl : xs.length ≤ 1000) (h : EvAD K ts σ H ds) (hB : BagC b c N H) (hN : N < 2 ^ 39) (hl : l = ds.length) (hz : ds.length ≤ 1000 ∧ 0 < ds.length) (hs : σ[ib]? = some (some (.ref b)))
    (k : ∀ p v d H', d ∈ ds → H' p = some (.lst (xs ++ [v])) → Dp K H' v d → BagC b c (N + 1) H' → But b H H' → D.nx (σ.set j (some (.ref p))) H') :
    tAsg (tOp rCat (tVar i) (tLst (tCons (tOp (rIxL K) (tLst ts) (tCall spDrawC [] E (tCons (tVar ib) (tCons (tC (.int (l : Int))) tNil)))) tNil))) (gName j) D σ H := by
  refine ⟨_, hx, pick_draw (Q := fun v H1 => 1 ≤ sizeLine ∧ ∀ p, H1 p = none → rCat (.ref l0) (.ref p) (upd H1 p (.lst [v])) fun u H2 => D.nx (σ.set j (some u)) H2) h hB hN hl hz hs fun v d H1 hd hv B1 c1 => ⟨by decide +kernel, fun p hp => ?_⟩⟩
  have lb : l0 ≠ b := hB.ne_lst hl0
  have h1 := c1 _ _ lb hl0
  have np : l0 ≠ p := ne_of_none h1 hp
  refine ⟨l0, p, xs, [v], rfl, rfl, by rw [upd_ne np]; exact h1, upd_same, sz_of (by simp; omega), fun r hr => ?_⟩
  have e : Ex H1 (upd (upd H1 p (.lst [v])) r (.lst (xs ++ [v]))) := (Ex.new hp).trans (Ex.new hr)
  exact k r v d _ hd upd_same (dp_ex e _ _ hv) (B1.ex e) (c1.trans (But.ex e))
theorem et_neNil {l0 : Addr} {i : Nat} (hx : σ[i]? = some (some (.ref l0))) (hd : Dp K H (.ref l0) (.list ds)) (hf : PyData.canLayAll0 ds = true ∧ PyData.depthAll ds ≤ 50) : EvT (tTest (tOp (rNeD K) (tVar i) (tLst tNil))) σ H (!ds.isEmpty) :=
  et_test (ev_opL (ev_var hx) (el_lst ea_nil (by simp)) fun p H1 hp e1 H2 e2 Q k => by
    refine ⟨.list ds, .list [], dp_ex (e1.trans e2) _ _ hd, .lst (sq_of (e2 _ _ hp)) .nil, shaped_of (by simpa [PyData.canLay0] using hf.1) (by simp only [PyData.depth]; omega), shaped_of rfl (by decide), ?_⟩
    have e : PyData.eqv (.list ds) (.list []) = ds.isEmpty := by cases ds <;> simp [PyData.eqv, PyData.eqvAll]
    rw [e]
    exact k H2 (Ex.refl H2))
/-- xs + [e], xs a list that stands -/
theorem ed_catV {l0 : Addr} {xs : List V} (hx : Ev ta σ H (.ref l0)) (hl0 : H l0 = some (.lst xs)) (hd : DpAll K H xs ds) (hxl : xs.length ≤ 1000) (h : EvD K te σ H d) : EvD K (tOp rCat ta (tLst (tCons te tNil))) σ H (.list (ds ++ [d])) := fun H1 e Q q =>
  hx H1 e _ fun H2 e2 => h H2 (e.trans e2) _ fun v H3 e3 hv => ⟨sz_of (by simp), fun p hp => ⟨l0, p, xs, [v], rfl, rfl, Ex.new hp _ _ (((e.trans e2).trans e3) _ _ hl0), upd_same, sz_of (by simp; omega), fun r hr => by
    have e4 : Ex H3 (upd (upd H3 p (.lst [v])) r (.lst (xs ++ [v]))) := (Ex.new hp).trans (Ex.new hr)
    exact q _ _ ((e2.trans e3).trans e4) (.lst (SqL.of upd_same) (dpAll_app (dp_exAll (((e.trans e2).trans e3).trans e4) _ _ hd) (.cons (dp_ex e4 _ _ hv) .nil)))⟩⟩
/-- data, or a dict that H1 does not know -/
def DqN (K : PySem.W.Frag) (H1 : Hp) (d : PyData) (v : V) (H2 : Hp) : Prop := Dp K H2 v d ∨ ∃ a, v = .ref a ∧ H1 a = none ∧ H2 a = some (.dK []) ∧ d = .dict []
theorem DqN.ex {H1 H2 H3 : Hp} {v : V} (h : DqN K H1 d v H2) (e : Ex H2 H3) : DqN K H1 d v H3 := by
  rcases h with h | ⟨a, h1, h2, h3, h4⟩
  · exact .inl (dp_ex e _ _ h)
  · exact .inr ⟨a, h1, h2, e _ _ h3, h4⟩
theorem DqN.dq {H1 H2 : Hp} {v : V} (h : DqN K H1 d v H2) : Dq K H2 v d := by
  rcases h with h | ⟨a, rfl, h2, h3, rfl⟩
  · exact .d h
  · exact .dct h3
theorem DqN.but {b c : Addr} {N : Nat} {H1 H2 H3 : Hp} {v : V} (h : DqN K H1 d v H2) (hb : H1 b ≠ none) (B : BagC b c N H2) (e : But b H2 H3) : DqN K H1 d v H3 := by
  rcases h with h | ⟨a, h1, h2, h3, h4⟩
  · exact .inl (dpC_but B e _ _ h)
  · exact .inr ⟨a, h1, h2, e _ _ (fun z => hb (by rw [← z]; exact h2)) h3, h4⟩
def EvN (K : PySem.W.Frag) (te : TE) (σ : L2.St) (H : Hp) (d : PyData) : Prop := ∀ H0 H1, Ex H H0 → Ex H0 H1 → ∀ Q : VK, (∀ v H2, Ex H1 H2 → DqN K H0 d v H2 → Q v H2) → te σ H1 Q
def EvAN (K : PySem.W.Frag) (ts : TA) (σ : L2.St) (H : Hp) (ds : List PyData) : Prop := ∀ H0 H1, Ex H H0 → Ex H0 H1 → ∀ Q : List V → Hp → Prop, (∀ vs H2, Ex H1 H2 → All2 (fun d v => DqN K H0 d v H2) ds vs → Q vs H2) → ts σ H1 Q
theorem en_of (h : EvD K te σ H d) : EvN K te σ H d := fun H0 H1 e0 e1 Q q => h H1 (e0.trans e1) Q fun v H2 e2 hv => q v H2 e2 (.inl hv)
theorem en_dct : EvN K tDNewK σ H (.dict []) := fun H0 H1 e0 e1 Q q => fun p hp => q (.ref p) _ (Ex.new hp) (.inr ⟨p, rfl, fresh_back e1 hp, upd_same, rfl⟩)
theorem ean_nil : EvAN K tNil σ H [] := fun H0 H1 e0 e1 Q q => q [] H1 (Ex.refl _) .nil
theorem ean_cons (h : EvN K te σ H d) (h2 : EvAN K tr σ H ds) : EvAN K (tCons te tr) σ H (d :: ds) := fun H0 H1 e0 e1 Q q => h H0 H1 e0 e1 _ fun v H2 e2 hv => h2 H0 H2 e0 (e1.trans e2) _ fun vs H3 e3 hvs => q (v :: vs) H3 (e2.trans e3) (.cons (hv.ex e3) hvs)
theorem s_asgPickN {D : Ends} {b c : Addr} {N i j l : Nat} {E : XK} (h : EvAN K ts σ H ds) (hB : BagC b c N H) (hN : N < 2 ^ 39) (hl : l = ds.length) (hz : ds.length ≤ 1000 ∧ 0 < ds.length) (hs : σ[i]? = some (some (.ref b)))
    (k : ∀ v d H', d ∈ ds → DqN K H d v H' → BagC b c (N + 1) H' → But b H H' → D.nx (σ.set j (some v)) H') : tAsg (tOp (rIxL K) (tLst ts) (tCall spDrawC [] E (tCons (tVar i) (tCons (tC (.int (l : Int))) tNil)))) (gName j) D σ H := by
  refine h H H (Ex.refl H) (Ex.refl H) _ fun vs H2 e2 hvs => ⟨sz_of (by rw [hvs.len]; omega), fun p hp => ?_⟩
  have e3 : Ex H (upd H2 p (.lst vs)) := e2.trans (Ex.new hp)
  refine ⟨_, hs, b, c, l, N, rfl, hB.ex e3, by omega, by omega, ?_, fun d H4 d0 d1 B4 x4 => ?_⟩
  · have : (l : Int) ≤ 1000 := by omega
    exact Int.lt_of_le_of_lt this (by decide)
  have pb : p ≠ b := fun z => (hB.ex e2).nb (by rw [← z]; exact hp)
  obtain ⟨j, rfl⟩ : ∃ j : Nat, d = (j : Int) := ⟨d.toNat, by omega⟩
  have hj : j < ds.length := by omega
  obtain ⟨v, hv, hd⟩ := hvs.get (List.getElem?_eq_getElem hj)
  have c4 : But b (upd H2 p (.lst vs)) H4 := But.eqs x4
  exact ⟨p, vs, _, v, rfl, rfl, SqL.of (by rw [x4 p pb]; exact upd_same), atI_nat hv, k v ds[j] H4 (List.getElem_mem hj) ((hd.ex (Ex.new hp)).but hB.nb (hB.ex e3) c4) B4 ((But.ex e3).trans c4)⟩
end
end OR
set_option Elab.async false
set_option linter.all false
set_option maxRecDepth 100000
set_option maxHeartbeats 4000000
namespace K40
open PySem PySem.Calls PySem.Spec PyProof.Rows L2 OR Evl
def spLRuns (K : PySem.W.Frag) : Sp := fun vs H Q _ => ∃ a rows xs, vs = [.ref a] ∧ SqT K H a xs ∧ All2 (fun r v => Dp K H v (Row.toD r)) rows xs ∧ .non ∈ rows ∧ rows.length ≤ 50000 ∧
  ∀ p H' ws, H p = none → Ex H H' → H' p = some (.lst ws) → All2 (fun d v => Dp K H' v d) (runsM rows) ws → Q (.ref p) H'
section
variable {P : Program} {w : World} {K : PySem.W.Frag} {mg : Str → Option Value} {base : Heap} {f : Addr} {fd : FuncData}
abbrev s__law_runs : Stmt := top 31
theorem sc__law_runs : FnScope ["ring", "found", "many", "place", "length"] ["ring"] (defScope s__law_runs) := ⟨rfl, rfl, rfl, by decide +kernel, rfl, by decide +kernel, by decide +kernel⟩
theorem ok__law_runs (F : Fun K "_law_runs" "_law_runs" s__law_runs f fd) (B : Bi mg) : FnOk P w K mg base CX0 1 f fd ["ring"] (spLRuns K) := by
  refine F.ok sc__law_runs (fun vs H Q E h => ?_) (fun cdv A outer s H vs Q E hr h => ?_)
  · obtain ⟨a, rows, xs, rfl, _⟩ := h
    rfl
  · obtain ⟨a, rows, xs, rfl, hx, hall, hnon, hl2, q2⟩ := h
    refine ⟨_, (pss_cons (ps_par (i := 1) (j := 2) rfl sc__law_runs.nd rfl rfl (by decide) rfl rfl (pa_cons (pe_lst pa_nil) (pa_cons (pe_callB (lenS K) (by rfl) B.mg_len PySem.boot_len (pa_cons (pv 0) pa_nil)) pa_nil)) rfl)
      (pss_cons (ps_for PassesOwn.never rfl (pi_range1 (by rfl) B.mg_range (pa_cons (pv 2) pa_nil)) (pg_name (i := 3) sc__law_runs.nd rfl (Or.inl rfl)) (pss_one (ps_if (PW.pt (pw_and (pt_cmpR op_notN (pe_ix (ixT K) (pv 0) (pv 3) (fun _ _ => rfl)) pe_non (nomark _)) (pw_and1 (pt_cmpR op_isN (pe_ix (ixT K) (pv 0) (pe_op op_sub (pv 3) pe_int) (fun _ _ => rfl)) pe_non (nomark _))))) (pss_cons (ps_set (i := 4) sc__law_runs.nd rfl (Or.inl rfl) pe_int)
      (pss_cons (ps_while PassesOwn.never (pt_cmpR op_notN (pe_ix (ixT K) (pv 0) (pe_op op_mod (pe_op op_add (pv 3) (pv 4)) (pv 2)) (fun _ _ => rfl)) pe_non (nomark _)) (pss_one (ps_set (i := 4) sc__law_runs.nd rfl (Or.inl rfl) (pe_op op_add (pv 4) pe_int))))
      (pss_one (ps_expr (pe_bm PySem.F.plainAttrs_list PySem.F.slot_list_append PySem.F.type_list_append mt_append (pv 1) (pa_cons (pe_tup (pa_cons (pv 3) (pa_cons (pv 4) pa_nil))) pa_nil)))))) pss_nil)))
      (pss_one (ps_ret (pv 1))))), ?_⟩
    have hlen := hall.len
    have n0 : 0 < rows.length := List.length_pos_of_mem hnon
    refine s_cons (s_parL1 (el_lst ea_nil (by simp)) (ev_lenS (ev_var rfl) (.inr hx)) fun l H2 nlH e12 hl2' => ?_)
    dsimp only; refine s_cons ?_
    let pre : Nat → List (Nat × Nat) := fun i => ((List.range i).filter fun p => !decide (rowAt rows p = .non) && decide (rowAt rows ((p + (rows.length - 1)) % rows.length) = .non)).map fun p => (p, fn rows p)
    refine s_forI (Hb := H) (ei_r1 (n := xs.length) (fun H3 e3 Q3 k3 => ⟨_, rfl, k3 H3 (Ex.refl _)⟩) (by omega)) e12 (fun i σ' H' => ∃ z2 z3 ws, σ' = [some (.ref a), some (.ref l), some (.int (xs.length : Int)), z2, z3] ∧ Ex H H' ∧ H' l = some (.lst ws) ∧ PairsAt l H' (pre i) ws ∧ ws.length ≤ i) (fun H3 e3 => ?_) (fun i σ' H' h => ?_) (fun i hi x σ' H' h H3 e3 y => ?_) (fun σ' H' h => ?_)
    · exact ⟨none, none, [], rfl, e12.trans e3, e3 _ _ hl2', .nil, by simp⟩
    · obtain ⟨z2, z3, ws, rfl, h1, h2⟩ := h
      exact h1
    · obtain ⟨z2, z3, ws, rfl, h1, h2, h3, h4⟩ := h
      subst y
      have hi2 : i < rows.length := by omega
      obtain ⟨y, hyv, hyd⟩ := hall.get (List.getElem?_eq_getElem hi2)
      have er' : rowAt rows i = rows[i] := by simp [rowAt, List.getD_eq_getElem?_getD, hi2]
      rw [← er'] at hyd
      have hpi : (i + (rows.length - 1)) % rows.length < rows.length := Nat.mod_lt _ n0
      obtain ⟨y2, hyv2, hyd2⟩ := hall.get (List.getElem?_eq_getElem hpi)
      have er2 : rowAt rows ((i + (rows.length - 1)) % rows.length) = rows[(i + (rows.length - 1)) % rows.length] := by simp [rowAt, List.getD_eq_getElem?_getD, hpi]
      rw [← er2] at hyd2
      have h13 := h1.trans e3
      have atp := atI_pred (v := y2) (xs := xs) (p := i) (by omega) (by rw [hlen]; exact hyv2)
      refine evg_name H3 (Ex.refl H3) _ fun H4 e4 => ?_
      have h14 := h13.trans e4
      refine s_if (b := !decide (rowAt rows i = .non) && decide (rowAt rows ((i + (rows.length - 1)) % rows.length) = .non)) (et_and (et_is (et_test (ev_notN (ev_op (ev_var rfl) (ev_var rfl) (rv_ixT (ex_t h14 hx) (atI_nat hyv))))) (by rw [row_non_dec hyd])) fun _ => et_is (et_test (ev_isN (ev_op (ev_var rfl) (ev_op (ev_var rfl) ev_c rv_I0) (rv_ixT (ex_t h14 hx) atp)))) (by rw [row_non_dec hyd2])) (fun hb H5 e5 => ?_) (fun hb H5 e5 => ?_)
      · refine s_cons (s_asg ev_c fun H6 e6 => ?_)
        dsimp only; refine s_cons ?_
        have h16 := (h14.trans e5).trans e6
        have e36 := ((e3.trans e4).trans e5).trans e6
        have hne : rowAt rows i ≠ .non := by
          have := (Bool.and_eq_true_iff.mp hb).1
          simpa using this
        obtain ⟨f1, f2, f3⟩ := fn_spec hi2 hnon
        have hmi : (0 : Int) < (xs.length : Int) := by omega
        refine s_while (fun mm σ' H7 => ∃ L : Nat, σ' = [some (.ref a), some (.ref l), some (.int (xs.length : Int)), some (.int (i : Int)), some (.int (L : Int))] ∧ L ≤ fn rows i ∧ mm = fn rows i - L ∧ Ex H6 H7) (fn rows i) ⟨0, rfl, by omega, rfl, Ex.refl _⟩ fun mm σ' H7 hw => ?_
        obtain ⟨L, rfl, hL2, rfl, e7⟩ := hw
        have hq : (i + L) % rows.length < rows.length := Nat.mod_lt _ n0
        obtain ⟨y3, hyv3, hyd3⟩ := hall.get (List.getElem?_eq_getElem hq)
        have er3 : rowAt rows ((i + L) % rows.length) = rows[(i + L) % rows.length] := by simp [rowAt, List.getD_eq_getElem?_getD, hq]
        rw [← er3] at hyd3
        have eix : (((i + L) % rows.length : Nat) : Int) = ((i : Int) + (L : Int)) % (xs.length : Int) := by rw [hlen]; rfl
        have at3 := atI_nat hyv3
        rw [eix] at at3
        refine ⟨!decide (rowAt rows ((i + L) % rows.length) = .non), et_is (et_test (ev_notN (ev_op (ev_var rfl) (ev_op (ev_op (ev_var rfl) (ev_var rfl) rv_I0) (ev_var rfl) (rv_I hmi)) (rv_ixT (ex_t (h16.trans e7) hx) at3)))) (by rw [row_non_dec hyd3]), fun ht H8 e8 => ?_, fun ht H8 e8 => ?_⟩
        · have hne3 : rowAt rows ((i + L) % rows.length) ≠ .non := by simpa using ht
          have hLt : L < fn rows i := by
            rcases Nat.lt_or_ge L (fn rows i) with z | z
            · exact z
            · exact absurd (by rw [show L = fn rows i by omega]; exact f2) hne3
          refine ⟨fun σ2 H2 => ∃ m', m' < fn rows i - L ∧ ∃ L : Nat, σ2 = [some (.ref a), some (.ref l), some (.int (xs.length : Int)), some (.int (i : Int)), some (.int (L : Int))] ∧ L ≤ fn rows i ∧ m' = fn rows i - L ∧ Ex H6 H2, fun _ _ z => z, ?_⟩
          exact s_asg (v := .int ((L + 1 : Nat) : Int)) (ev_op (ev_var rfl) ev_c rv_I0) fun H9 e9 => ⟨fn rows i - (L + 1), by omega, L + 1, rfl, by omega, rfl, (e7.trans e8).trans e9⟩
        · have hno3 : rowAt rows ((i + L) % rows.length) = .non := by simpa using ht
          have hLe : L = fn rows i := by
            rcases Nat.lt_or_ge L (fn rows i) with z | z
            · exact absurd hno3 (f3 L z)
            · omega
          subst hLe
          dsimp only
          have e38 := (e36.trans e7).trans e8
          refine s_appU (xs := ws) (e38 _ _ h2) (ev_var rfl) (eu_tup (ea_cons (ev_var rfl) (ea_cons (ev_var rfl) ea_nil)) (by simp)) (by omega) fun T2 H9 nT2 e9 hT2 => ?_
          have e39 := e38.trans e9
          have hlT : T2 ≠ l := fun z => by
            rw [z, e38 _ _ h2] at nT2
            cases nT2
          refine ⟨some (.int (i : Int)), _, ws ++ [.ref T2], rfl, Ex.mut (h1.trans e39) nlH, upd_same, ?_, by rw [List.length_append]; simp; omega⟩
          have ep : pre (i + 1) = pre i ++ [(i, fn rows i)] := by
            show ((List.range (i + 1)).filter _).map _ = _
            rw [List.range_succ, List.filter_append, List.filter_cons, if_pos hb, List.map_append]
            rfl
          rw [ep]
          exact All2.snoc (h3.ex fun q o hq z => by rw [upd_ne hq]; exact e39 _ _ z) ⟨T2, rfl, hlT, by rw [upd_ne hlT]; exact hT2⟩
      · refine s_next ?_; dsimp only
        have e35 := (e3.trans e4).trans e5
        refine ⟨some (.int (i : Int)), z3, ws, rfl, h1.trans e35, e35 _ _ h2, ?_, by omega⟩
        have ep : pre (i + 1) = pre i := by
          show ((List.range (i + 1)).filter _).map _ = _
          rw [List.range_succ, List.filter_append, List.filter_cons, if_neg (by rw [hb]; decide)]
          simp [pre]
        rw [ep]
        exact h3.ex fun q o _ z => e35 _ _ z
    · obtain ⟨z2, z3, ws, rfl, h1, h2, h3, h4⟩ := h
      dsimp only
      refine s_ret (ev_var rfl) fun H3 e3 => ?_
      refine q2 l H3 ws nlH (h1.trans e3) (e3 _ _ h2) ?_
      have z := (h3.ex fun q o _ z => e3 _ _ z).dp (K := K)
      have ep : (pre xs.length).map (fun p => PyData.tuple [.int (p.1 : Nat), .int (p.2 : Nat)]) = runsM rows := by
        show (((List.range xs.length).filter _).map _).map _ = _
        rw [List.map_map, hlen]
        rfl
      rwa [ep] at z
end
end K40
set_option Elab.async false
set_option linter.all false
set_option maxRecDepth 100000
set_option maxHeartbeats 4000000
namespace K40
open PySem PySem.Calls PySem.Spec PyProof.Rows L2 OR Evl
/-- not too long, not too deep -/
structure Fair (d : PyData) : Prop where
  lay : d.canLay0 = true
  deep : d.depth ≤ 4
  long : topLen d ≤ 50
theorem lay_all {ds : List PyData} (h : ∀ d ∈ ds, d.canLay0 = true) : PyData.canLayAll0 ds = true := by
  induction ds with
  | nil => rfl
  | cons d ds ih => simp [PyData.canLayAll0, h d (List.mem_cons_self ..), ih fun x hx => h x (List.mem_cons_of_mem _ hx)]
theorem deep_all {ds : List PyData} {n : Nat} (h : ∀ d ∈ ds, d.depth ≤ n) : PyData.depthAll ds ≤ n := by
  induction ds with
  | nil => exact Nat.zero_le _
  | cons d ds ih =>
    have h1 := h d (List.mem_cons_self ..)
    have h2 := ih fun x hx => h x (List.mem_cons_of_mem _ hx)
    simp only [PyData.depthAll]
    omega
theorem row_lay (r : OR.Row) : r.toD.canLay0 = true ∧ r.toD.depth ≤ 1 := by
  cases r with
  | non => exact ⟨rfl, by decide⟩
  | sto => exact ⟨by decide +kernel, by decide⟩
  | it k h m =>
    have := ints_lay [k, h, m]
    constructor
    · have := this.1
      simpa [Row.toD, PyData.canLay0] using this
    · have := this.2
      simp only [Row.toD, PyData.depth, List.map_cons, List.map_nil] at this ⊢
      omega
def oddD : List PyData := [.tuple [.int 1, .int 2], .tuple [.int 1, .int (-1), .int 3], .tuple [.bool true, .int 2, .int 3], .list [.int 1, .int 2, .int 3], .str "Stone", .int 0, .bool false, .tuple [.int 1, .int 2, .none], .tuple [.int 1, .bool true, .int 3]]
theorem oddD_row : ∀ d ∈ oddD, isRow d = false ∧ d.canLay0 = true ∧ d.depth ≤ 1 := by decide +kernel
def spSpoiled (K : PySem.W.Frag) : Sp := fun vs H Q _ => ∃ (b c a : Addr) (rows : List OR.Row) (xs : List V) (N : Nat), vs = [.ref b, .ref a] ∧ BagC b c N H ∧ N < 2 ^ 38 ∧ SqT K H a xs ∧ All2 (fun r v => Dp K H v (Row.toD r)) rows xs ∧ Ring rows ∧ rows.length ≤ 12 ∧
  ∀ v d H', BagC b c (N + 10) H' → But b H H' → Dp K H' v d → isRing d = false → Fair d → Q v H'
def fullD (rows : List OR.Row) (k : Nat) : PyData := if rowAt rows k = .non then .tuple [.int (900 + (k : Int)), .int 4, .int 5] else (rowAt rows k).toD
section
variable {P : Program} {w : World} {K : PySem.W.Frag} {mg : Str → Option Value} {base : Heap} {f : Addr} {fd : FuncData}
abbrev s__law_spoiled : Stmt := top 33
theorem sc__law_spoiled : FnScope ["bag", "ring", "at", "odd", "full", "twice", "k"] ["bag", "ring"] (defScope s__law_spoiled) := ⟨rfl, rfl, rfl, by decide +kernel, rfl, by decide +kernel, by decide +kernel⟩
theorem ok__law_spoiled (F : Fun K "_law_spoiled" "_law_spoiled" s__law_spoiled f fd) (B : Bi mg) (C__law_draw : Cal P w K mg base CX0 1 "_law_draw" ["bag", "limit"] spDrawC) : FnOk P w K mg base CX0 2 f fd ["bag", "ring"] (spSpoiled K) := by
  refine F.ok sc__law_spoiled (fun vs H Q E h => ?_) (fun cdv A outer s H vs Q E hr h => ?_)
  · obtain ⟨b, c, a, rows, xs, N, rfl, _⟩ := h
    rfl
  · obtain ⟨b, c, a, rows, xs, N, rfl, hB, hN, hx, hall, hring, hz, q⟩ := h
    refine ⟨_, (pss_cons (ps_set (i := 2) sc__law_spoiled.nd rfl (Or.inl rfl) (pe_cal C__law_draw hr (pa_cons (pv 0) (pa_cons (pe_op op_add (pe_callB (lenS K) (by rfl) B.mg_len PySem.boot_len (pa_cons (pv 1) pa_nil)) pe_int) pa_nil))))
      (pss_cons (ps_set (i := 3) sc__law_spoiled.nd rfl (Or.inl rfl) (pe_lst (pa_cons (pe_tup (pa_cons pe_int (pa_cons pe_int pa_nil))) (pa_cons (pe_tup (pa_cons pe_int (pa_cons (pe_un un_neg pe_int) (pa_cons pe_int pa_nil)))) (pa_cons (pe_tup (pa_cons pe_bl (pa_cons pe_int (pa_cons pe_int pa_nil)))) (pa_cons (pe_lst (pa_cons pe_int (pa_cons pe_int (pa_cons pe_int pa_nil)))) (pa_cons pe_str (pa_cons pe_int (pa_cons pe_bl (pa_cons (pe_tup (pa_cons pe_int (pa_cons pe_int (pa_cons pe_non pa_nil)))) (pa_cons (pe_tup (pa_cons pe_int (pa_cons pe_bl (pa_cons pe_int pa_nil)))) pa_nil)))))))))))
      (pss_cons (ps_set (i := 3) sc__law_spoiled.nd rfl (Or.inl rfl) (pe_ix (ixL K) (pv 3) (pe_cal C__law_draw hr (pa_cons (pv 0) (pa_cons pe_int pa_nil))) (fun _ _ => rfl)))
      (pss_cons (ps_set (i := 4) sc__law_spoiled.nd rfl (Or.inl rfl) (pe_callTy (tupS K) (by rfl) B.mg_tuple (by decide +kernel) (pa_cons (pe_lc (own := [("k", 6)]) (g := gName 6) (tt := tYes) rfl sc__law_spoiled.nd (pi_range1 (by rfl) B.mg_range (pa_cons (pe_callB (lenS K) (by rfl) B.mg_len PySem.boot_len (pa_cons (pv 1) pa_nil)) pa_nil)) (blkOk_by (N := ["bag", "ring", "at", "odd", "full", "twice", "k"]) (sc := defScope s__law_spoiled) (by decide +kernel)) (fun _ _ _ _ _ => (pg_name (i := 6) sc__law_spoiled.nd rfl (Or.inl rfl))) (fun _ _ _ _ _ => pts_nil) (fun _ _ _ _ _ => (pe_ifExp (pt_cmpR op_isN (pe_ix (ixT K) (pv 1) (pv 6) (fun _ _ => rfl)) pe_non (nomark _)) (pe_tup (pa_cons (pe_op op_add pe_int (pv 6)) (pa_cons pe_int (pa_cons pe_int pa_nil)))) (pe_ix (ixT K) (pv 1) (pv 6) (fun _ _ => rfl))))) pa_nil)))
      (pss_cons (ps_set (i := 5) sc__law_spoiled.nd rfl (Or.inl rfl) (pe_op op_catA (pv 1) (pe_tup (pa_cons (pe_tup (pa_cons pe_int (pa_cons pe_int (pa_cons pe_int pa_nil)))) (pa_cons (pe_tup (pa_cons pe_int (pa_cons pe_int (pa_cons pe_int pa_nil)))) pa_nil)))))
      (pss_one (ps_ret (pe_ix (ixL K) (pe_lst (pa_cons (pe_op op_catA (pe_op op_catA (pe_slice sl_tupA (pv 1) po_none (po_some (pv 2))) (pe_tup (pa_cons (pv 3) pa_nil))) (pe_slice sl_tupA (pv 1) (po_some (pv 2)) po_none)) (pa_cons (pe_callTy (listS K) (by rfl) B.mg_list (by decide +kernel) (pa_cons (pv 1) pa_nil)) (pa_cons (pe_tup pa_nil) (pa_cons (pv 4) (pa_cons (pv 5) (pa_cons pe_str (pa_cons pe_non (pa_cons pe_int pa_nil))))))))) (pe_cal C__law_draw hr (pa_cons (pv 0) (pa_cons pe_int pa_nil))) (fun _ _ => rfl))))))))), ?_⟩
    have hlen := hall.len
    have n0 : 0 < rows.length := List.length_pos_of_mem hring.non
    have hdr : Dp K H (.ref a) (.tuple (rows.map Row.toD)) := .tup hx (dpAll_2.mpr (rows_to hall))
    refine ⟨_, rfl, _, rfl, a, xs, rfl, .inr hx, _, _, rfl, rfl, b, c, (xs.length : Int) + 1, N, rfl, hB, by omega, by omega, ?_, fun d1 H1 d10 d11 B1 x1 => ?_⟩
    · have : (xs.length : Int) + 1 ≤ 1000 := by omega
      exact Int.lt_of_le_of_lt this (by decide)
    obtain ⟨t, rfl⟩ : ∃ t : Nat, d1 = (t : Int) := ⟨d1.toNat, by omega⟩
    have c1 : But b H H1 := But.eqs x1
    have hdr1 := dpC_but hB c1 _ _ hdr
    -- the odd things
    have podd : ∀ {ts : L2.St}, EvAD K _ ts H1 oddD := fun {ts} => ead_cons (ed_tup (ead_cons ed_int (ead_cons ed_int ead_nil)) (by simp)) (ead_cons (ed_tup (ead_cons ed_int (ead_cons (ed_of (ev_un ev_c ru_neg) (.int (-1))) (ead_cons ed_int ead_nil))) (by simp)) (ead_cons (ed_tup (ead_cons ed_bl (ead_cons ed_int (ead_cons ed_int ead_nil))) (by simp))
      (ead_cons (ed_lst (ead_cons ed_int (ead_cons ed_int (ead_cons ed_int ead_nil))) (by simp)) (ead_cons ed_str (ead_cons ed_int (ead_cons ed_bl (ead_cons (ed_tup (ead_cons ed_int (ead_cons ed_int (ead_cons ed_non ead_nil))) (by simp)) (ead_cons (ed_tup (ead_cons ed_int (ead_cons ed_bl (ead_cons ed_int ead_nil))) (by simp)) ead_nil))))))))
    dsimp only; refine s_cons ?_
    refine s_asgAD podd (by show 9 ≤ 100000; decide) fun L vs H3 nL e3 hL3 hvs3 => ?_
    dsimp only; refine s_cons ?_
    refine ⟨_, rfl, _, rfl, b, c, 9, _, rfl, B1.ex e3, by omega, by decide, by decide, fun d2 H4 d20 d21 B4 x4 => ?_⟩
    have Lb : L ≠ b := fun z => B1.nb (by rw [← z]; exact nL)
    obtain ⟨j, rfl⟩ : ∃ j : Nat, d2 = (j : Int) := ⟨d2.toNat, by omega⟩
    have hj : j < oddD.length := by show j < 9; omega
    obtain ⟨ov, hov, hod⟩ := (dpAll_2.mp hvs3).get (List.getElem?_eq_getElem hj)
    have hom := List.getElem_mem hj
    generalize oddD[j] = od at hod hom
    obtain ⟨o1, o2, o3⟩ := oddD_row od hom
    have c4 : But b H3 H4 := But.eqs x4
    refine ⟨L, vs, _, ov, rfl, rfl, SqL.of (by rw [x4 L Lb]; exact hL3), atI_nat hov, ?_⟩
    have c14 : But b H1 H4 := (But.ex e3).trans c4
    have hdr4 := dpC_but B1 c14 _ _ hdr1
    have hod4 := dpC_but (B1.ex e3) c4 _ _ hod
    dsimp only; refine s_cons ?_
    -- full
    obtain ⟨a', ys, ea, hys, hally⟩ := dq_rows (.d hdr4)
    cases ea
    have hyl := hally.len
    refine s_asgUF (ef_lc (fun _ => true) (fun i v H' => Dp K H' v (fullD rows i)) (ei_r1 (n := ys.length) (ea_cons (ev_lenS (ev_var rfl) (.inr hys)) ea_nil) (by omega)) (by omega) fun i hi x H5 e5 y => ?_) fun fl fs H5 nfl e6 hfl hpr5 => ?_
    · subst y
      have hi2 : i < rows.length := by omega
      obtain ⟨u, hu, hud⟩ := hally.get (List.getElem?_eq_getElem hi2)
      have er : rowAt rows i = rows[i] := by simp [rowAt, List.getD_eq_getElem?_getD, hi2]
      rw [← er] at hud
      refine ⟨_, evg_name, rfl, et_yes, fun _ => ep_if (b := decide (rowAt rows i = .non)) (et_is (et_test (ev_isN (ev_op (ev_var rfl) (ev_var rfl) (rv_ixT hys (atI_nat hu))))) (by rw [row_non_dec hud])) (fun hb => ?_) (fun hb => ?_)⟩
      · refine (ep_tup (ea_cons (ev_op ev_c (ev_var rfl) rv_I0) (ea_cons ev_c (ea_cons ev_c ea_nil))) (by simp)).imp fun v H' ⟨p, e6, hp⟩ => ?_
        rw [e6]
        unfold fullD
        rw [if_pos (of_decide_eq_true hb)]
        exact .tup (SqT.of hp) (.cons (.int _) (.cons (.int _) (.cons (.int _) .nil)))
      · refine EvP.of (ev_op (ev_var rfl) (ev_var rfl) (rv_ixT hys (atI_nat hu))) fun H6 e6 => ?_
        unfold fullD
        rw [if_neg (of_decide_eq_false hb)]
        exact dp_ex e6 _ _ hud
    have hfull : Dp K H5 (.ref fl) (.tuple ((List.range rows.length).map (fullD rows))) := by
      refine .tup (SqT.of hfl) (dpAll_2.mpr ?_)
      rw [filter_true, hyl] at hpr5
      exact hpr5.map (g := fullD rows) (R := fun d v => Dp K H5 v d)
    have hdr6 := dp_ex e6 _ _ hdr4
    have hod6 := dp_ex e6 _ _ hod4
    have hla : (rows.map Row.toD).length = rows.length := List.length_map ..
    have ht : t ≤ (rows.map Row.toD).length := by omega
    dsimp only; refine s_cons ?_
    refine s_asgD (ed_catT (ed_of (ev_var rfl) hdr6) (ed_tup (ead_cons (ed_tup (ead_cons ed_int (ead_cons ed_int (ead_cons ed_int ead_nil))) (by simp)) (ead_cons (ed_tup (ead_cons ed_int (ead_cons ed_int (ead_cons ed_int ead_nil))) (by simp)) ead_nil)) (by simp)) (by simp; omega)) fun tw H7 e7 htw => ?_
    dsimp only
    have B7 : BagC b c (N + 2) H7 := (B4.ex e6).ex e7
    have c7 : But b H H7 := (c1.trans c14).trans (But.ex (e6.trans e7))
    have hdr7 := dp_ex e7 _ _ hdr6
    have hod7 := dp_ex e7 _ _ hod6
    have hfull7 := dp_ex e7 _ _ hfull
    refine s_retPick (l := 8) (ead_cons (ed_catT (ed_catT (ed_take (ed_of (ev_var rfl) hdr7) eo_none (eo_some (ev_var rfl)) ht) (ed_tup (ead_cons (ed_of (ev_var rfl) hod7) ead_nil) (by simp)) (by simp; omega)) (ed_drop (ed_of (ev_var rfl) hdr7) (eo_some (ev_var rfl)) eo_none ht) (by simp; omega)) (ead_cons (ed_list (ed_of (ev_var rfl) hdr7)) (ead_cons (ed_tup ead_nil (by simp)) (ead_cons (ed_of (ev_var rfl) hfull7) (ead_cons (ed_of (ev_var rfl) htw)
      (ead_cons ed_str (ead_cons ed_non (ead_cons ed_int ead_nil)))))))) B7 (by omega) rfl (by simp) rfl fun v d H8 hm hv B8 c8 => ?_
    have rl : ∀ d ∈ rows.map Row.toD, d.canLay0 = true ∧ d.depth ≤ 1 := fun d hd => by
      obtain ⟨r, _, rfl⟩ := List.mem_map.mp hd
      exact row_lay r
    have fair : ∀ ds : List PyData, (∀ d ∈ ds, d.canLay0 = true ∧ d.depth ≤ 1) → ds.length ≤ 50 → Fair (.tuple ds) ∧ Fair (.list ds) := fun ds h hl => by
      have h1 := lay_all fun d hd => (h d hd).1
      have h2 := deep_all fun d hd => (h d hd).2
      refine ⟨⟨by simpa [PyData.canLay0] using h1, ?_, hl⟩, ⟨by simpa [PyData.canLay0] using h1, ?_, hl⟩⟩ <;> simp only [PyData.depth] <;> omega
    refine q v d H8 (B8.mono (by omega)) (c7.trans c8) hv ?_ ?_
    · simp only [List.mem_cons, List.not_mem_nil, or_false] at hm
      rcases hm with rfl | rfl | rfl | rfl | rfl | rfl | rfl | rfl
      · refine Bool.eq_false_iff.mpr fun z => ?_
        obtain ⟨rs, e1, R⟩ := isRing_iff.mp z
        have e2 : (rows.map Row.toD).take t ++ [od] ++ (rows.map Row.toD).drop t = rs.map Row.toD := by injection e1
        have hm : od ∈ rs.map Row.toD := by rw [← e2]; simp
        obtain ⟨r, hr, e3⟩ := List.mem_map.mp hm
        rw [← e3, row_isRow r (R.ok r hr)] at o1
        cases o1
      · rfl
      · rfl
      · refine Bool.eq_false_iff.mpr fun z => ?_
        obtain ⟨rs, e1, R⟩ := isRing_iff.mp z
        have e2 : (List.range rows.length).map (fullD rows) = rs.map Row.toD := by injection e1
        have hm : PyData.none ∈ (List.range rows.length).map (fullD rows) := by rw [e2]; exact List.mem_map.mpr ⟨.non, R.non, rfl⟩
        obtain ⟨k, _, e3⟩ := List.mem_map.mp hm
        unfold fullD at e3
        split at e3
        · cases e3
        · rename_i hne
          exact hne (Row.toD_inj (b := .non) e3)
      · refine Bool.eq_false_iff.mpr fun z => ?_
        obtain ⟨rs, e1, R⟩ := isRing_iff.mp z
        have e2 : rows.map Row.toD ++ [PyData.tuple [.int 77, .int 1, .int 2], .tuple [.int 77, .int 3, .int 4]] = rs.map Row.toD := by injection e1
        have e3 : rs = rows ++ [.it 77 1 2, .it 77 3 4] := by
          have e4 : (rows ++ [OR.Row.it 77 1 2, .it 77 3 4]).map Row.toD = rs.map Row.toD := by rw [← e2, List.map_append]; rfl
          exact (List.map_inj_right (fun a b => Row.toD_inj)).mp e4.symm
        have := R.key
        rw [e3, List.filter_append, List.map_append] at this
        have h2 := (List.nodup_append.mp this).2.1
        exact absurd h2 (by decide)
      · rfl
      · rfl
      · rfl
    · simp only [List.mem_cons, List.not_mem_nil, or_false] at hm
      rcases hm with rfl | rfl | rfl | rfl | rfl | rfl | rfl | rfl
      · refine (fair _ (fun d hd => ?_) (by simp; omega)).1
        simp only [List.append_assoc, List.mem_append, List.mem_cons, List.not_mem_nil, or_false] at hd
        rcases hd with hd | rfl | hd
        · exact rl d (List.mem_of_mem_take hd)
        · exact ⟨o2, o3⟩
        · exact rl d (List.mem_of_mem_drop hd)
      · exact (fair _ rl (by omega)).2
      · exact (fair [] (by simp) (by simp)).1
      · refine (fair _ (fun d hd => ?_) (by simp; omega)).1
        obtain ⟨k, _, rfl⟩ := List.mem_map.mp hd
        unfold fullD
        split
        · have := ints_lay [900 + (k : Int), 4, 5]
          constructor
          · have := this.1
            simpa [PyData.canLay0] using this
          · have := this.2
            simp only [PyData.depth, List.map_cons, List.map_nil] at this ⊢
            omega
        · exact row_lay _
      · refine (fair _ (fun d hd => ?_) (by simp; omega)).1
        rcases List.mem_append.mp hd with hd | hd
        · exact rl d hd
        · simp only [List.mem_cons, List.not_mem_nil, or_false] at hd
          rcases hd with rfl | rfl
          · exact ⟨by decide +kernel, by decide⟩
          · exact ⟨by decide +kernel, by decide⟩
      · exact ⟨by decide +kernel, by decide, by decide⟩
      · exact ⟨by decide +kernel, by decide, by decide⟩
      · exact ⟨by decide +kernel, by decide, by decide⟩
end
end K40
set_option Elab.async false
set_option linter.all false
set_option maxRecDepth 100000
set_option maxHeartbeats 4000000
namespace K40
open PySem PySem.Calls PySem.Spec PyProof.Rows L2 L2H OR Evl
abbrev s__law_refused : Stmt := top 32
theorem sc__law_refused : FnScope ["action", "e"] ["action"] (defScope s__law_refused) := ⟨rfl, rfl, rfl, by decide +kernel, rfl, by decide +kernel, by decide +kernel⟩
/-- what _law_refused makes of what it calls -/
def TTref (CR CW : Addr) : (XK → Hp → VK → Prop) → Hp → VK → Prop := fun tl H Q => tl (fun cls d H' =>
    (cls = .ref CR ∧ ∃ dd v, d = some dd ∧ H' dd = some (.xd [("ring", v)]) ∧ ∀ p, H' p = none → Q (.ref p) (upd H' p (.tup [.str "ring", v]))) ∨
    (cls = .ref CW ∧ ∃ dd v, d = some dd ∧ H' dd = some (.xd [("way", v)]) ∧ ∀ p, H' p = none → Q (.ref p) (upd H' p (.tup [.str "way", v])))) H (fun _ H' => Q .non H')
section
variable {X : Cx} {CR CW : Addr}
theorem takes_len {W : WX} (t : Takes X W) : Takes X (fun cls d σ H => σ.length = X.N.length → W cls d σ H) := fun u s' ⟨a, B, sI, pins, σ, H, cls, d, e, I, nb, up, sky, na, os, ag, w⟩ =>
  t u s' ⟨a, B, sI, pins, σ, H, cls, d, e, I, nb, up, sky, na, os, ag, w I.len⟩
theorem refused_gives {f : Addr} {cdv : Value} (gCR : X.mg "BadRing" = some (.ref CR)) (gCW : X.mg "BadWay" = some (.ref CW)) (xR : XfC X.K CR) (xW : XfC X.K CW)
    (nR : PySem.W.findIn X.K (.ref CR) "ring" = some none) (nW : PySem.W.findIn X.K (.ref CW) "way" = some none) (mRR : PySem.W.exmOne X.K (.ref CR) (.ref CR) = some true) (mWR : PySem.W.exmOne X.K (.ref CW) (.ref CR) = some false) (mWW : PySem.W.exmOne X.K (.ref CW) (.ref CW) = some true) (q : Str) :
    LamX.GivesTo X ["action", "e"] "_law_refused" (defScope s__law_refused) f cdv (defBody s__law_refused) "action" q (TTref CR CW) := by
  intro f1 c' s H Q tl act hc h
  refine ⟨_, (pss_cons (ps_tryC (tb := fun W D σ H => ∃ Ech : XK, (∀ cls d σ' H', Ech cls d H' → σ'.length = 2 → W cls d σ' H') ∧ σ[0]? = some (some (.ref f1)) ∧ H c' = some (LamX.CodeO c' q) ∧ tl Ech H (fun _ H' => D.nx σ H')) rfl rfl sc__law_refused.nd takes0 (fun W pn xe tk _ => ?_)
      (.named (c := .ref CR) ⟨rfl, by decide, .inl gCR⟩ (i := 1) rfl rfl (fun x oe cls d pn hz hf => (pss_one (ps_ret (pe_tup (pa_cons pe_str (pa_cons (pe_xf xR nR hz hf (pv 1)) pa_nil))))))
      (.named (c := .ref CW) ⟨rfl, by decide, .inl gCW⟩ (i := 1) rfl rfl (fun x oe cls d pn hz hf => (pss_one (ps_ret (pe_tup (pa_cons pe_str (pa_cons (pe_xf xW nW hz hf (pv 1)) pa_nil)))))) .nil)))
      (pss_one (ps_ret pe_non))), ?_⟩
  · refine ⟨fun pins s' σ H' D I h' => ?_⟩
    obtain ⟨Ech, hW, h1, h2, h3⟩ := h'
    exact PSs.run (pss_one (ps_expr (act _ pn xe Ech _ _ (takes_len tk) hW))) pins s' σ H' D I ⟨h1, h2, h3⟩
  · refine ⟨fun cls d H' =>
    (cls = .ref CR ∧ ∃ dd v, d = some dd ∧ H' dd = some (.xd [("ring", v)]) ∧ ∀ p, H' p = none → Q (.ref p) (upd H' p (.tup [.str "ring", v]))) ∨
    (cls = .ref CW ∧ ∃ dd v, d = some dd ∧ H' dd = some (.xd [("way", v)]) ∧ ∀ p, H' p = none → Q (.ref p) (upd H' p (.tup [.str "way", v]))), fun cls d σ' H' hE hl => ?_, rfl, hc, h⟩
    have h1 : ∀ x : Addr, (σ'.set 1 (some (.ref x)))[1]? = some (some (V.ref x)) := fun x => by simp [hl]
    rcases hE with ⟨rfl, dd, v, rfl, hd, k⟩ | ⟨rfl, dd, v, rfl, hd, k⟩
    · refine ⟨_, mRR, fun _ x hx => ?_, fun z => by cases z⟩
      exact ⟨_, h1 x, rfl, rfl, dd, _, _, rfl, hd, by kernel_rfl, (by show 2 ≤ sizeLine; decide), k⟩
    · refine ⟨_, mWR, fun z => (by cases z), fun _ => ⟨_, mWW, fun _ x hx => ?_, fun z => (by cases z)⟩⟩
      exact ⟨_, h1 x, rfl, rfl, dd, _, _, rfl, hd, by kernel_rfl, (by show 2 ≤ sizeLine; decide), k⟩
/-- the facts on the two errors -/
structure Er (K : PySem.W.Frag) (mg : Str → Option Value) (CR CW : Addr) : Prop where
  gCR : mg "BadRing" = some (.ref CR)
  gCW : mg "BadWay" = some (.ref CW)
  xR : XfC K CR
  xW : XfC K CW
  nR : PySem.W.findIn K (.ref CR) "ring" = some none
  nW : PySem.W.findIn K (.ref CW) "way" = some none
  mRR : PySem.W.exmOne K (.ref CR) (.ref CR) = some true
  mWR : PySem.W.exmOne K (.ref CW) (.ref CR) = some false
  mWW : PySem.W.exmOne K (.ref CW) (.ref CW) = some true
/-- _law_refused(lambda: ..) -/
theorem pe_ref {T : List (Addr × Str)} {fR c P : Addr} {fdR : FuncData} {k : Nat} {params : Arguments} {body : Expr} {scope : Scope} {t : XK → TE} {p lpos pos : Pos} (F : Fun X.K "_law_refused" "_law_refused" s__law_refused fR fdR) (b : Binds X.K fdR ["action"] []) (gR : X.mg "_law_refused" = some (.ref fR)) (E : Er X.K X.mg CR CW)
    (TB : LamX.TabB X.base X.mg c P) (hcode : X.env.code = .ref c) {q0 : Str} (hmT : (P, q0 ++ "<lambda>") ∈ T) (hu : ∀ p ∈ T, p.1 = P → p.2 = q0 ++ "<lambda>") (hr : Room (k + 2) X.A) (L : LamX.LamS X.env.scope scope)
    (hbody : ∀ (A : Around) (outer : List Env) (s : Shared) (H : Hp) (E : XK) (f c' : Addr), Room k (A.deeper (LamX.lamEnv X scope s.heap.objs.size f c')) → PE (LamX.lamCx X A outer s H E scope f c') body (t E))
    (hq : X.env.qual = q0 := by rfl) (hg : Gl X "_law_refused" := by rfl) (hdef : defaultsOf params X.env = ([], []) := by rfl) (hbind : ∀ (q : Str) (cl : List (Str × Addr)) (pm cv ctv : Value), bindArgs (PySem.W.kla_fn "<lambda>" q params body scope cl pm cv ctv) ⟨[], []⟩ = pure [] := by intros; rfl) :
    PE X (.Call (.Name "_law_refused" p) [.Lambda params body scope lpos] [] pos) (LamX.tLam T (TTref CR CW) t) := by
  subst hq
  obtain ⟨oc, od, kV, doc, pm, an, cdv, ct, osl, rfl, lk, hcd⟩ := F.ex
  exact LamX.pe_lamcall hg gR F.kp lk hcd b sc__law_refused rfl (.inl rfl) (refused_gives E.gCR E.gCW E.xR E.xW E.nR E.nW E.mRR E.mWR E.mWW _) TB hcode hmT hu hr L hdef hbind hbody
/-- a def whose code object is known -/
theorem okT {P : Program} {w : World} {K : PySem.W.Frag} {mg : Str → Option Value} {base : Heap} {x qual : Str} {st : Stmt} {f cA : Addr} {fd : FuncData} {N ps : List Str} {k : Nat} {sp : Sp} (F : Fun K x qual st f fd) (hc : fd.code = .ref cA) (S : FnScope N ps (defScope st)) (len : ∀ vs H Q E, sp vs H Q E → vs.length = ps.length)
    (hbody : ∀ (A : Around) (outer : List Env) (s : Shared) (H : Hp) (vs : List V) (Q : VK) (E : XK), Room k (A.deeper (envOfC qual (defScope st) s.heap.objs.size f (.ref cA))) → sp vs H Q E →
      ∃ t, PSs (cxOf CX0 P w K mg base N qual (defScope st) f (.ref cA) A outer s H E).nox (defBody st) t ∧ t { nx := fun _ H' => Q .non H', rt := Q } (L2.start N vs) H) : FnOk P w K mg base CX0 (k + 1) f fd ps sp := by
  obtain ⟨oc, od, kV, doc, pm, an, cdv, ct, osl, rfl, lk, hcd⟩ := F.ex
  have e : cdv = .ref cA := hc
  subst e
  refine fn_of lk hcd S len fun A outer s H vs Q E hr hsp => ?_
  obtain ⟨t, h, q⟩ := hbody A outer s H vs Q E hr hsp
  exact ⟨t, h.nox, q⟩
end
end K40
set_option Elab.async false
set_option linter.all false
set_option maxRecDepth 100000
set_option maxHeartbeats 4000000
namespace K40
open PySem PySem.Calls PySem.Spec PyProof.Rows L2 L2H OR Evl
open LamX (ExtN Tabs TabS)
section
variable {K : PySem.W.Frag} {σ : L2.St} {H : Hp} {T : List (Addr × Str)} {CR CW C : Addr} {tag : Str} {t : XK → TE} {v : V} {te : TE}
/-- what _law_refused(lambda: ..) gives where the lambda raises: the pair at p -/
theorem ref_core {Q : VK} (hT : Tabs T H) (hC : (C = CR ∧ tag = "ring") ∨ (C = CW ∧ tag = "way")) (hr : ∀ H1, ExtN H H1 → ∀ (Ek : XK) (Q : VK), Rz C [(tag, v)] H1 Ek → t Ek σ H1 Q)
    (k : ∀ p H2, ExtN H H2 → Tabs T H2 → H2 p = some (.tup [.str tag, v]) → Q (.ref p) H2) : LamX.tLam T (TTref CR CW) t σ H Q := by
  refine ⟨hT, fun H1 e1 T1 => hr H1 e1 _ _ fun dd H3 e3 n3 => ?_⟩
  have e4 : Ex H1 (upd H3 dd (.xd [(tag, v)])) := e3.trans (Ex.new n3)
  have fin : ∀ p, upd H3 dd (.xd [(tag, v)]) p = none → Q (.ref p) (upd (upd H3 dd (.xd [(tag, v)])) p (.tup [.str tag, v])) := fun p hp =>
    k p _ (e1.trans (xn_of (e4.trans (Ex.new hp)))) (T1.ext (e4.trans (Ex.new hp))) upd_same
  rcases hC with ⟨rfl, rfl⟩ | ⟨rfl, rfl⟩
  · exact .inl ⟨rfl, dd, v, rfl, upd_same, fin⟩
  · exact .inr ⟨rfl, dd, v, rfl, upd_same, fin⟩
theorem pair_flat (hf : flatB v = true ∨ ∃ p, v = .ref p) : ∀ u ∈ [V.str tag, v], flatB u = true ∨ ∃ p, u = .ref p := fun u hu => by
  rcases List.mem_cons.mp hu with rfl | hu
  · exact .inl rfl
  · rcases List.mem_cons.mp hu with rfl | hu
    · exact hf
    · cases hu
/-- .. != (tag, v) -/
theorem ref_ne {Q : Bool → Hp → Prop} (hT : Tabs T H) (hC : (C = CR ∧ tag = "ring") ∨ (C = CW ∧ tag = "way")) (hr : ∀ H1, ExtN H H1 → ∀ (Ek : XK) (Q : VK), Rz C [(tag, v)] H1 Ek → t Ek σ H1 Q) (hv : Ev te σ (fun _ => none) v) (hf : flatB v = true ∨ ∃ p, v = .ref p)
    (k : ∀ H2, ExtN H H2 → Tabs T H2 → Q false H2) : tTest (tOp (rNeS K) (LamX.tLam T (TTref CR CW) t) (tTup (tCons (tC (.str tag)) (tCons te tNil)))) σ H Q := by
  refine ref_core hT hC hr fun p H2 e2 T2 hp => ?_
  refine (eu_tup (ea_cons ev_c (ea_cons (hv.mono (fun a o z => by cases z)) ea_nil)) (by simp)) H2 (Ex.refl _) _ fun p2 H3 n3 e3 h3 => ?_
  exact ⟨p, p2, _, rfl, rfl, SqT.of (e3 _ _ hp), SqT.of h3, pair_flat hf, false, rfl, k H3 (e2.trans (xn_of e3)) (T2.ext e3)⟩
theorem s_ifRef {D : Ends} {tu tw : TS} (hT : Tabs T H) (hC : (C = CR ∧ tag = "ring") ∨ (C = CW ∧ tag = "way")) (hv : Ev te σ (fun _ => none) v) (hf : flatB v = true ∨ ∃ p, v = .ref p) (hr : ∀ H1, ExtN H H1 → ∀ (Ek : XK) (Q : VK), Rz C [(tag, v)] H1 Ek → t Ek σ H1 Q)
    (k : ∀ H2, ExtN H H2 → Tabs T H2 → tw D σ H2) : tIfS (tTest (tOp (rNeS K) (LamX.tLam T (TTref CR CW) t) (tTup (tCons (tC (.str tag)) (tCons te tNil))))) tu tw D σ H := ref_ne hT hC hr hv hf k
/-- return .. == (tag, v) -/
theorem ref_eq {Q : VK} (hT : Tabs T H) (hC : (C = CR ∧ tag = "ring") ∨ (C = CW ∧ tag = "way")) (hr : ∀ H1, ExtN H H1 → ∀ (Ek : XK) (Q : VK), Rz C [(tag, v)] H1 Ek → t Ek σ H1 Q) (hv : Ev te σ (fun _ => none) v) (hf : flatB v = true ∨ ∃ p, v = .ref p)
    (k : ∀ H2, Q (.bl true) H2) : (tOp (rEqS K) (LamX.tLam T (TTref CR CW) t) (tTup (tCons (tC (.str tag)) (tCons te tNil)))) σ H Q := by
  refine ref_core hT hC hr fun p H2 e2 T2 hp => ?_
  refine (eu_tup (ea_cons ev_c (ea_cons (hv.mono (fun a o z => by cases z)) ea_nil)) (by simp)) H2 (Ex.refl _) _ fun p2 H3 n3 e3 h3 => ?_
  exact ⟨p, p2, _, rfl, rfl, SqT.of (e3 _ _ hp), SqT.of h3, pair_flat hf, k H3⟩
theorem s_retRef {D : Ends} (hT : Tabs T H) (hC : (C = CR ∧ tag = "ring") ∨ (C = CW ∧ tag = "way")) (hv : Ev te σ (fun _ => none) v) (hf : flatB v = true ∨ ∃ p, v = .ref p) (hr : ∀ H1, ExtN H H1 → ∀ (Ek : XK) (Q : VK), Rz C [(tag, v)] H1 Ek → t Ek σ H1 Q)
    (k : ∀ H2, D.rt (.bl true) H2) : tRet (tOp (rEqS K) (LamX.tLam T (TTref CR CW) t) (tTup (tCons (tC (.str tag)) (tCons te tNil)))) D σ H := ref_eq hT hC hr hv hf k
/-- placed raises BadRing -/
theorem placed_bad {v n u : V} {d e d2 : PyData} {Ek : XK} {Q : VK} (hv : Dq K H v d) (tl : topLen d ≤ 20000) (hn : Dq K H n e) (hu : Dq K H u d2) (hbig : ∀ m, e = .int m → m ≤ 50000)
    (hb : ∀ its : List OR.Row, (d = .list (its.map Row.toD) ∨ d = .tuple (its.map Row.toD)) → (∀ r ∈ its, r.isIt = true ∧ r.ok = true) → ¬ (its.map Row.key).Nodup ∨ isWhole e = false ∨ ∃ m, e = .int m ∧ m ≤ its.length) (hE : Rz CR [("ring", v)] H Ek) : spPlaced K CR CW [v, n, u] H Q Ek :=
  ⟨v, n, u, d, e, d2, rfl, hv, tl, hn, hu, hbig, fun _ => hE, fun its hd hi => ⟨fun _ => hE, fun m em hlt nd => by
    exfalso
    rcases hb its hd hi with z | z | ⟨m', e', z⟩
    · exact z nd
    · rw [em] at z; cases z
    · rw [em] at e'
      injection e' with e'
      omega⟩⟩
end
end K40
set_option Elab.async false
set_option linter.all false
set_option maxRecDepth 100000
set_option maxHeartbeats 4000000
namespace K40
open PySem PySem.Calls PySem.Spec PyProof.Rows L2 L2H OR Evl
def spPR (T : List (Addr × Str)) : Sp := fun vs H Q _ => ∃ (b c : Addr) (hashes : Int) (N : Nat), vs = [.ref b, .int hashes] ∧ BagC b c N H ∧ N < 2 ^ 37 ∧ 0 < hashes ∧ hashes ≤ 10 ^ 30 ∧ LamX.Tabs T H ∧ ∀ H', Q (.bl true) H'
section
variable {P : Program} {w : World} {K : PySem.W.Frag} {mg : Str → Option Value} {base : Heap} {f : Addr} {fd : FuncData}
abbrev s__law_placed_right : Stmt := top 34
theorem sc__law_placed_right : FnScope ["bag", "hashes", "items", "many", "way", "ring", "wrong", "twice", "odd"] ["bag", "hashes"] (defScope s__law_placed_right) := ⟨rfl, rfl, rfl, by decide +kernel, rfl, by decide +kernel, by decide +kernel⟩
theorem ok__law_placed_right {CR CW cA PA fR : Addr} {fdR : FuncData} {T : List (Addr × Str)} (F : Fun K "_law_placed_right" "_law_placed_right" s__law_placed_right f fd) (hc : fd.code = .ref cA) (B : Bi mg) (C__law_draw : Cal P w K mg base CX0 1 "_law_draw" ["bag", "limit"] spDrawC) (C__law_items : Cal P w K mg base CX0 2 "_law_items" ["bag", "many", "hashes", "first"] spGen)
    (C_placed : Cal P w K mg base (L2.CX P w) 5 "placed" ["items", "many", "way"] (spPlaced K CR CW)) (C_is_ring : Cal P w K mg base CX0 3 "is_ring" ["value"] (spRing K)) (C__law_lawful : Cal P w K mg base CX0 1 "_law_lawful" ["ring", "way"] (spLawful K)) (C_all_items : Cal P w K mg base (L2.CX P w) 5 "all_items" ["ring"] (spItems K CR))
    (FR : Fun K "_law_refused" "_law_refused" s__law_refused fR fdR) (bR : Binds K fdR ["action"] []) (gR : mg "_law_refused" = some (.ref fR)) (ER : Er K mg CR CW) (TB : LamX.TabB base mg cA PA) (hT1 : (PA, (("_law_placed_right" : Str) ++ ".<locals>.") ++ "<lambda>") ∈ T) (hT2 : ∀ p ∈ T, p.1 = PA → p.2 = (("_law_placed_right" : Str) ++ ".<locals>.") ++ "<lambda>") :
    FnOk P w K mg base CX0 8 f fd ["bag", "hashes"] (spPR T) := by
  refine okT F hc sc__law_placed_right (fun vs H Q E h => ?_) (fun A outer s H vs Q E hr h => ?_)
  · obtain ⟨b, c, hashes, N, rfl, _⟩ := h
    rfl
  · obtain ⟨b, c, hashes, N, rfl, hB, hN, hh0, hh1, hT, q⟩ := h
    refine ⟨_, (pss_cons (ps_set (i := 2) sc__law_placed_right.nd rfl (Or.inr rfl) (pe_cal C__law_items hr (pa_cons (pv 0) (pa_cons (pe_cal C__law_draw hr (pa_cons (pv 0) (pa_cons pe_int pa_nil))) (pa_cons (pv 1) (pa_cons pe_int pa_nil))))))
      (pss_cons (ps_set (i := 3) sc__law_placed_right.nd rfl (Or.inr rfl) (pe_op op_add (pe_op op_add (pe_callB (lenS K) (by rfl) B.mg_len PySem.boot_len (pa_cons (pv 2) pa_nil)) pe_int) (pe_cal C__law_draw hr (pa_cons (pv 0) (pa_cons pe_int pa_nil)))))
      (pss_cons (ps_for PassesOwn.never rfl (pi_list (pe_lst (pa_cons pe_str (pa_cons pe_str (pa_cons pe_str pa_nil))))) (pg_name (i := 4) sc__law_placed_right.nd rfl (Or.inl rfl)) (pss_cons (ps_set (i := 5) sc__law_placed_right.nd rfl (Or.inl rfl) (pe_calX (E := E0) C_placed hr passX0 (pa_cons (pe_ifExp (pt_cmpR op_eq (pe_op op_mod (pv 3) pe_int) pe_int (nomark _)) (pe_callTy (tupS K) (by rfl) B.mg_tuple (by decide +kernel) (pa_cons (pe_revL (pv 2)) pa_nil)) (pe_revL (pv 2))) (pa_cons (pv 3) (pa_cons (pv 4) pa_nil)))))
      (pss_cons (ps_if (PW.pt (pw_or (pt_not (pt_val (pe_cal C_is_ring hr (pa_cons (pv 5) pa_nil)))) (pw_or (pt_cmpR op_ne (pe_callB (lenS K) (by rfl) B.mg_len PySem.boot_len (pa_cons (pv 5) pa_nil)) (pv 3) (nomark _)) (pw_or1 (pt_not (pt_val (pe_cal C__law_lawful hr (pa_cons (pv 5) (pa_cons (pv 4) pa_nil))))))))) (pss_one (ps_ret pe_bl)) pss_nil)
      (pss_one (ps_if (pt_cmpR (op_neD hr.units) (pe_callB (cr_sortTU (d := 3) (B := 10 ^ 30) (by decide)) (by rfl) B.mg_sorted (by decide +kernel) (pa_cons (pe_calX (E := E0) C_all_items hr passX0 (pa_cons (pv 5) pa_nil)) pa_nil)) (pe_callB (cr_sortT (d := 3) (B := 10 ^ 30) (by decide)) (by rfl) B.mg_sorted (by decide +kernel) (pa_cons (pv 2) pa_nil)) (nomark _)) (pss_one (ps_ret pe_bl)) pss_nil)))))
      (pss_cons (ps_set (i := 6) sc__law_placed_right.nd rfl (Or.inr rfl) (pe_op op_cat (pv 2) (pe_lst (pa_cons (pe_ix (ixL K) (pe_lst (pa_cons (pe_tup (pa_cons pe_int (pa_cons pe_int pa_nil))) (pa_cons (pe_tup (pa_cons pe_int (pa_cons (pe_un un_neg pe_int) (pa_cons pe_int pa_nil)))) (pa_cons (pe_ifExp (pt_cmpR (op_neD hr.units) (pv 2) (pe_lst pa_nil) (nomark _)) (pe_ix (ixL K) (pv 2) pe_int (fun _ _ => rfl)) pe_int) (pa_cons pe_non pa_nil))))) (pe_cal C__law_draw hr (pa_cons (pv 0) (pa_cons pe_int pa_nil))) (fun _ _ => rfl)) pa_nil))))
      (pss_cons (ps_if (pt_cmpR (op_neS hr.units) (pe_ref (k := 5) FR bR gR ER TB rfl hT1 hT2 (hr.mono (by decide)) (LamX.lamS_by (by kernel_rfl)) (fun A outer s H E f c' hr => (pe_calX (E := E) C_placed hr (passes_call (takes_of rfl rfl rfl rfl) fun _ _ _ _ z => z) (pa_cons (pv 6) (pa_cons (pe_op op_add (pv 3) pe_int) (pa_cons pe_str pa_nil)))))) (pe_tup (pa_cons pe_str (pa_cons (pv 6) pa_nil))) (nomark _)) (pss_one (ps_ret pe_bl)) pss_nil)
      (pss_cons (ps_if (pt_cmpR (op_neS hr.units) (pe_ref (k := 5) FR bR gR ER TB rfl hT1 hT2 (hr.mono (by decide)) (LamX.lamS_by (by kernel_rfl)) (fun A outer s H E f c' hr => (pe_calX (E := E) C_placed hr (passes_call (takes_of rfl rfl rfl rfl) fun _ _ _ _ z => z) (pa_cons (pv 2) (pa_cons (pe_callB (lenS K) (by rfl) B.mg_len PySem.boot_len (pa_cons (pv 2) pa_nil)) (pa_cons pe_str pa_nil)))))) (pe_tup (pa_cons pe_str (pa_cons (pv 2) pa_nil))) (nomark _)) (pss_one (ps_ret pe_bl)) pss_nil)
      (pss_cons (ps_set (i := 7) sc__law_placed_right.nd rfl (Or.inr rfl) (pe_ifExp (pt_cmpR (op_neD hr.units) (pv 2) (pe_lst pa_nil) (nomark _)) (pe_op op_cat (pv 2) (pe_lst (pa_cons (pe_tup (pa_cons (pe_ix (ixT K) (pe_ix (ixL K) (pv 2) pe_int (fun _ _ => rfl)) pe_int (fun _ _ => rfl)) (pa_cons (pe_op op_add (pe_ix (ixT K) (pe_ix (ixL K) (pv 2) pe_int (fun _ _ => rfl)) pe_int (fun _ _ => rfl)) pe_int) (pa_cons (pe_op op_add (pe_ix (ixT K) (pe_ix (ixL K) (pv 2) pe_int (fun _ _ => rfl)) pe_int (fun _ _ => rfl)) pe_int) pa_nil)))) pa_nil))) (pe_lst (pa_cons pe_int pa_nil))))
      (pss_cons (ps_set (i := 8) sc__law_placed_right.nd rfl (Or.inr rfl) (pe_ix (ixL K) (pe_lst (pa_cons pe_non (pa_cons pe_int (pa_cons pe_str (pa_cons pe_dnewK (pa_cons (pe_tup (pa_cons pe_int (pa_cons pe_int (pa_cons pe_int pa_nil)))) pa_nil)))))) (pe_cal C__law_draw hr (pa_cons (pv 0) (pa_cons pe_int pa_nil))) (fun _ _ => rfl)))
      (pss_cons (ps_if (pt_cmpR (op_neS hr.units) (pe_ref (k := 5) FR bR gR ER TB rfl hT1 hT2 (hr.mono (by decide)) (LamX.lamS_by (by kernel_rfl)) (fun A outer s H E f c' hr => (pe_calX (E := E) C_placed hr (passes_call (takes_of rfl rfl rfl rfl) fun _ _ _ _ z => z) (pa_cons (pv 7) (pa_cons (pe_op op_add (pv 3) pe_int) (pa_cons pe_str pa_nil)))))) (pe_tup (pa_cons pe_str (pa_cons (pv 7) pa_nil))) (nomark _)) (pss_one (ps_ret pe_bl)) pss_nil)
      (pss_cons (ps_if (pt_cmpR (op_neS hr.units) (pe_ref (k := 5) FR bR gR ER TB rfl hT1 hT2 (hr.mono (by decide)) (LamX.lamS_by (by kernel_rfl)) (fun A outer s H E f c' hr => (pe_calX (E := E) C_placed hr (passes_call (takes_of rfl rfl rfl rfl) fun _ _ _ _ z => z) (pa_cons (pv 8) (pa_cons (pe_op op_add (pv 3) pe_int) (pa_cons pe_str pa_nil)))))) (pe_tup (pa_cons pe_str (pa_cons (pv 8) pa_nil))) (nomark _)) (pss_one (ps_ret pe_bl)) pss_nil)
      (pss_one (ps_ret (pe_cmpR (op_eqS hr.units) (pe_ref (k := 5) FR bR gR ER TB rfl hT1 hT2 (hr.mono (by decide)) (LamX.lamS_by (by kernel_rfl)) (fun A outer s H E f c' hr => (pe_calX (E := E) C_placed hr (passes_call (takes_of rfl rfl rfl rfl) fun _ _ _ _ z => z) (pa_cons (pv 2) (pa_cons (pv 3) (pa_cons pe_str pa_nil)))))) (pe_tup (pa_cons pe_str (pa_cons pe_str pa_nil))) (nomark _)))))))))))))), ?_⟩
    refine ⟨_, rfl, _, rfl, b, c, 9, N, rfl, hB, by omega, by decide, by decide, fun d1 H1 d10 d11 B1 x1 => ?_⟩
    obtain ⟨m, rfl⟩ : ∃ m : Nat, d1 = (m : Int) := ⟨d1.toNat, by omega⟩
    have hh2 : hashes < 2 ^ 200 := Int.lt_of_le_of_lt hh1 (by decide)
    refine ⟨_, rfl, b, c, m, hashes, 5, _, rfl, B1, by omega, hh0, hh2, by omega, fun l H2 its ws nl B2 c2 hl hall hlen hgen => ?_⟩
    have T2 : LamX.Tabs T H2 := tabs_but B1 c2 (tabs_but hB (But.eqs x1) hT)
    have hlw := hall.len
    have lb : l ≠ b := B2.ne_lst hl
    dsimp only; refine s_cons ?_
    refine ⟨_, rfl, l, ws, rfl, .inl (SqL.of hl), _, _, rfl, rfl, _, rfl, b, c, 4, _, rfl, B2, by omega, by decide, by decide, fun d2 H3 d20 d21 B3 x3 => ?_⟩
    obtain ⟨d, rfl⟩ : ∃ d : Nat, d2 = (d : Int) := ⟨d2.toNat, by omega⟩
    have c3 := But.eqs x3
    have T3 := tabs_but B2 c3 T2
    have hl3 : H3 l = some (.lst ws) := by rw [x3 l lb]; exact hl
    have hall3 : All2 (TupAt H3) its ws := hall.imp fun _ _ _ z => z.but B2 c3
    obtain ⟨M, hM⟩ : ∃ M : Nat, M = m + 1 + d := ⟨_, rfl⟩
    refine ⟨_, _, rfl, rfl, ?_⟩
    have eM : (ws.length : Int) + 1 + (d : Int) = (M : Int) := by omega
    dsimp only
    rw [eM]
    refine s_cons ?_
    have hdi : Dp K H3 (.ref l) (.list (its.map Row.toD)) := .lst (SqL.of hl3) (dpAll_2.mpr (rows_to (hall3.imp fun _ _ _ z => z.dp)))
    have hit : ∀ r ∈ its, r.isIt = true ∧ r.ok = true := fun r hr => by
      obtain ⟨i, hi, e⟩ := List.mem_iff_getElem.mp hr
      obtain ⟨k, h, mm, e1, _, _, a3, _⟩ := hgen i r (by rw [List.getElem?_eq_getElem hi, e])
      rw [e1]
      exact ⟨rfl, decide_eq_true a3⟩
    have hkey : (its.map Row.key).Nodup := gk_nodup (first := 5) fun i r hr => by
      obtain ⟨k, h, mm, e1, a1, a2, a3, _⟩ := hgen i r hr
      exact ⟨k, h, mm, e1, a1, a2, a3⟩
    have hbd : ∀ r ∈ its, r.isIt = true ∧ TS.Bd (10 ^ 30) r.ints := fun r hr => by
      refine ⟨(hit r hr).1, ?_⟩
      obtain ⟨i, hi, e⟩ := List.mem_iff_getElem.mp hr
      obtain ⟨k, h, mm, e1, a1, a2, a3, a4, a5, a6⟩ := hgen i r (by rw [List.getElem?_eq_getElem hi, e])
      rw [e1]
      intro z hz
      simp only [Row.ints, List.mem_cons, List.not_mem_nil, or_false] at hz
      rcases hz with rfl | rfl | rfl <;> omega
    have h34 : hashes ≤ 10 ^ 30 := hh1
    refine s_forNL (xs := [.str "plain", .str "stones", .str "sorted"]) (el_lst (ea_cons ev_c (ea_cons ev_c (ea_cons ev_c ea_nil))) (by simp)) (fun L i σ' H' => ∃ z4 z5, σ' = [some (.ref b), some (.int hashes), some (.ref l), some (.int (M : Int)), z4, z5, none, none, none] ∧ Ex H3 H' ∧ H' L = some (.lst [.str "plain", .str "stones", .str "sorted"])) (fun L H4 nL e4 hL => ⟨none, none, rfl, e4, hL⟩) (fun L i σ' H' _ h => ?_) (fun L i x σ' H' hx h => ?_) (fun L σ' H' h => ?_)
    · obtain ⟨z4, z5, rfl, e5, hL⟩ := h
      exact SqL.of hL
    · obtain ⟨z4, z5, rfl, e45, hL⟩ := h
      obtain ⟨way, rfl, hway⟩ : ∃ way : Str, x = .str way ∧ isWay (.str way) = true := by
        match i, hx with
        | 0, hx => exact ⟨"plain", (Option.some.inj hx).symm, by decide +kernel⟩
        | 1, hx => exact ⟨"stones", (Option.some.inj hx).symm, by decide +kernel⟩
        | 2, hx => exact ⟨"sorted", (Option.some.inj hx).symm, by decide +kernel⟩
        | i + 3, hx => simp at hx
      refine evg_name H' (Ex.refl _) _ fun H5 e5' => ?_
      have e35 := e45.trans e5'
      have hdi5 := dp_ex e35 _ _ hdi
      let rv : List PyData := (its.map Row.toD).reverse
      have erv : rv = its.reverse.map Row.toD := by show (its.map Row.toD).reverse = _; rw [List.map_reverse]
      let dd : PyData := if (M : Int) % 2 = 0 then .tuple rv else .list rv
      have hdd : dd = .list (its.reverse.map Row.toD) ∨ dd = .tuple (its.reverse.map Row.toD) := by
        rw [← erv]
        by_cases hp : (M : Int) % 2 = 0
        · exact .inr (if_pos hp)
        · exact .inl (if_neg hp)
      refine s_cons (s_callD (K := K) (d := dd) (ed_if (K := K) (b := decide ((M : Int) % 2 = 0)) (et_is (et_test (ev_op (ev_op (ev_var rfl) ev_c (rv_I (by show (0 : Int) < 2; decide))) ev_c (rv_eq rfl))) (by simp)) (fun hb => ?_) (fun hb => ?_)) fun v H6 e6 hv => ?_)
      · have e : dd = .tuple rv := if_pos (of_decide_eq_true hb)
        rw [e]
        exact ed_tupL (ed_revL (ed_of (ev_var rfl) hdi5))
      · have e : dd = .list rv := if_neg (of_decide_eq_false hb)
        rw [e]
        exact ed_revL (ed_of (ev_var rfl) hdi5)
      have tl : topLen dd ≤ 20000 := by
        rcases hdd with e | e <;> rw [e] <;> simp [topLen] <;> omega
      have ii : isItems dd = true := by
        have h1 : (its.reverse.map Row.toD).all isItem = true := List.all_eq_true.mpr fun x hx => by
          obtain ⟨r, hr, rfl⟩ := List.mem_map.mp hx
          have := hit r (List.mem_reverse.mp hr)
          cases r with
          | it k h mm => exact this.2
          | non => cases this.1
          | sto => cases this.1
        rcases hdd with e | e <;> rw [e] <;> exact h1
      refine ⟨_, rfl, _, rfl, v, .int (M : Int), .str way, dd, .int (M : Int), .str way, rfl, .d hv, tl, .d (.int _), .d (.str _), fun m' e => by injection e with e; omega, fun z => (by rw [ii] at z; cases z), fun its' he _ => ?_⟩
      have ei : its' = its.reverse := by
        have inj := fun a b => @Row.toD_inj a b
        rcases hdd with e | e <;> rw [e] at he <;> rcases he with he | he <;> first | (cases he; done) | (injection he with he; exact ((List.map_inj_right inj).mp he).symm)
      subst ei
      have kr : (its.reverse.map Row.key).Nodup := by rw [List.map_reverse]; exact (List.reverse_perm _).nodup_iff.mpr hkey
      have hlr : its.reverse.length = m := by rw [List.length_reverse, hlen]
      refine ⟨fun z => ?_, fun m' e hlt _ => ⟨fun z => (by rw [hway] at z; cases z), fun _ p H7 rows ys np e7 hp hally fill => ?_⟩⟩
      · exfalso
        rcases z with z | z | ⟨m', e, z⟩
        · exact z kr
        · cases z
        · injection e with e; omega
      have em : m' = M := by injection e with e; omega
      have fill : Fill M its.reverse rows := by rw [← em]; exact fill
      have hitR : ∀ r ∈ its.reverse, r.isIt = true := fun r hr => (hit r (List.mem_reverse.mp hr)).1
      have ring : Ring rows := fill_ring fill hitR (fun r hr => (hit r (List.mem_reverse.mp hr)).2) kr (by omega)
      have hring : isRing (.tuple (rows.map Row.toD)) = true := isRing_iff.mpr ⟨rows, rfl, ring⟩
      have hrl := fill.len
      have hyl := hally.len
      have e37 := (e35.trans e6).trans e7
      have hd7 : Dp K H7 (.ref p) (.tuple (rows.map Row.toD)) := .tup (SqT.of hp) (dpAll_2.mpr (rows_to hally))
      have tl7 : topLen (.tuple (rows.map Row.toD)) ≤ 50000 := by simp [topLen]; omega
      have n0 : 0 < rows.length := List.length_pos_of_mem ring.non
      have plaw : ∀ H8, Ex H7 H8 → Pure (spLawful K) [.ref p, .str way] H8 (.bl (hasLaw rows way)) := fun H8 e8 Q E q => ⟨p, way, rows, ys, rfl, ex_t e8 (SqT.of hp), hally.imp fun _ _ _ z => dp_ex e8 _ _ z, n0, by omega, q⟩
      dsimp only; refine s_cons ?_
      refine s_if (b := false) (et_is (b := false) (et_or (a := false) (b := false) (et_is (et_not (et_B (ev_cal (ea_cons (ev_var rfl) ea_nil) fun H8 e8 => pure_Ring (dq_ex e8 (.d hd7)) tl7))) (by rw [hring]; rfl)) fun _ => et_is (b := false) (et_or (a := false) (b := false) (et_is (et_test (ev_op (ev_lenS (ev_var rfl) (.inr (SqT.of hp))) (ev_var rfl) (rv_ne rfl))) (by rw [hyl, hrl]; simp)) fun _ => et_is (et_not (et_B (ev_cal (ea_cons (ev_var rfl) (ea_cons (ev_var rfl) ea_nil)) fun H8 e8 => plaw H8 e8))) (by rw [rh_law fill.rh way]; rfl)) rfl) rfl) (fun h => by cases h) (fun _ H8 e8 => ?_)
      refine s_next ?_; dsimp only
      have hd8 := dp_ex e8 _ _ hd7
      have e38 := e37.trans e8
      refine ⟨_, rfl, .ref p, .tuple (rows.map Row.toD), rfl, .d hd8, tl7, fun z => (by rw [hring] at z; cases z), fun rows' er _ q1 H9 ws2 nq e9 hq1 all2 => ?_⟩
      have err : rows' = rows := by
        injection er with er
        exact ((List.map_inj_right (fun a b => @Row.toD_inj a b)).mp er).symm
      subst err
      have pfi := fill.it hitR
      have bd1 : ∀ r ∈ rows'.filter Row.isIt, r.isIt = true ∧ TS.Bd (10 ^ 30) r.ints := fun r hr => hbd r (List.mem_reverse.mp (pfi.subset hr))
      have l2 := all2.len
      have l3 : (rows'.filter Row.isIt).length = m := by rw [pfi.length_eq]; exact hlr
      have tup1 : ∀ {Hx : Hp} {rs : List OR.Row} {us : List V}, All2 (fun r v => Dp K Hx v (Row.toD r)) rs us → (∀ r ∈ rs, r.isIt = true ∧ TS.Bd (10 ^ 30) r.ints) → ∀ x ∈ us, ∃ ns, TupI K Hx x ns ∧ ns.length = 3 ∧ TS.Bd (10 ^ 30) ns := fun {Hx rs us} ha hb x hx => by
        induction ha with
        | nil => cases hx
        | cons h1 _ ih =>
          rcases List.mem_cons.mp hx with rfl | hx
          · have := hb _ (List.mem_cons_self ..)
            exact ⟨_, tupI_row h1 this.1, ints_len this.1, this.2⟩
          · exact ih (fun r hr => hb r (List.mem_cons_of_mem _ hr)) hx
      refine ⟨q1, ws2, rfl, SqT.of hq1, by omega, tup1 all2 bd1, fun ys1 r1 perm1 pw1 nr1 => ?_⟩
      have e3A : Ex H3 (upd H9 r1 (.lst ys1)) := (e38.trans e9).trans (Ex.new nr1)
      have hallA : All2 (fun r v => Dp K (upd H9 r1 (.lst ys1)) v (Row.toD r)) its ws := hall3.imp fun _ _ _ z => dp_ex e3A _ _ z.dp
      refine ⟨_, rfl, l, ws, rfl, SqL.of (e3A _ _ hl3), by omega, tup1 hallA hbd, fun ys2 r2 perm2 pw2 nr2 => ?_⟩
      obtain ⟨R, pR, a1, a2⟩ := sorted_rows (B := 10 ^ 30) (pfi.trans (List.reverse_perm _)) all2 hallA bd1 perm1 perm2 pw1 pw2
      have eB : Ex (upd H9 r1 (.lst ys1)) (upd (upd H9 r1 (.lst ys1)) r2 (.lst ys2)) := Ex.new nr2
      have lay : PyData.canLayAll0 (R.map Row.toD) = true := lay_all fun d hd => by
        obtain ⟨r, _, rfl⟩ := List.mem_map.mp hd
        exact (row_lay r).1
      have sh : SeqAt.shaped (.list (R.map Row.toD)) = true := shaped_of (by simpa [PyData.canLay0] using lay) (by
        have := deep_all (ds := R.map Row.toD) (n := 1) fun d hd => by
          obtain ⟨r, _, rfl⟩ := List.mem_map.mp hd
          exact (row_lay r).2
        simp only [PyData.depth]; omega)
      refine ⟨.list (R.map Row.toD), .list (R.map Row.toD), .lst (SqL.of (eB _ _ upd_same)) (dpAll_2.mpr (rows_to (a1.imp fun _ _ _ z => dp_ex ((Ex.new nr1).trans eB) _ _ z))), .lst (SqL.of upd_same) (dpAll_2.mpr (rows_to (a2.imp fun _ _ _ z => dp_ex eB _ _ z))), sh, sh, _, rfl, ?_⟩
      rw [PySem.SeqAt.eqv_refl _ (by simpa [PyData.canLay0] using lay)]
      exact ⟨_, _, rfl, e3A.trans eB, eB _ _ ((((((e5'.trans e6).trans e7).trans e8).trans e9).trans (Ex.new nr1)) _ _ hL)⟩
    · obtain ⟨z4, z5, rfl, e5, hL⟩ := h
      have B5 := B3.ex e5
      have T5 := T3.ext e5
      have hl5 := e5 _ _ hl3
      have hdi5 := dp_ex e5 _ _ hdi
      have layI : PyData.canLayAll0 (its.map Row.toD) = true ∧ PyData.depthAll (its.map Row.toD) ≤ 50 := ⟨lay_all fun d hd => by
        obtain ⟨r, _, rfl⟩ := List.mem_map.mp hd
        exact (row_lay r).1, Nat.le_trans (deep_all (n := 1) fun d hd => by
        obtain ⟨r, _, rfl⟩ := List.mem_map.mp hd
        exact (row_lay r).2) (by decide)⟩
      let x3 : PyData := (its.map Row.toD).getD 0 (.int 5)
      dsimp only; refine s_cons ?_
      refine s_asgCatPick (ds := [.tuple [.int 0, .int 1], .tuple [.int 8, .int (-1), .int 3], x3, .none]) (l := 4) rfl hl5 (by omega) (ead_cons (ed_tup (ead_cons ed_int (ead_cons ed_int ead_nil)) (by simp)) (ead_cons (ed_tup (ead_cons ed_int (ead_cons (ed_of (ev_un ev_c ru_neg) (.int (-1))) (ead_cons ed_int ead_nil))) (by simp)) (ead_cons (ed_if (b := !(its.map Row.toD).isEmpty) (et_neNil rfl hdi5 layI) (fun hb => ?_) (fun hb => ?_)) (ead_cons ed_non ead_nil)))) B5 (by omega) rfl (by simp) rfl fun wp wv wd H8 hm hw hv B8 c8 => ?_
      · cases its with
        | nil => cases hb
        | cons r rs =>
          obtain ⟨v0, hv0, ht0⟩ := hall3.get (i := 0) rfl
          exact ed_of (ev_op (ev_var rfl) ev_c (rv_ixL (SqL.of hl5) (atI_nat (j := 0) hv0))) (dp_ex e5 _ _ ht0.dp)
      · cases its with
        | nil => exact ed_int
        | cons r rs => cases hb
      have T8 : LamX.Tabs T H8 := tabs_but B5 c8 T5
      have hdi8 := dpC_but B5 c8 _ _ hdi5
      have hl8 : H8 l = some (.lst ws) := c8 _ _ (B5.ne_lst hl5) hl5
      have hws8 : DpAll K H8 ws (its.map Row.toD) := dpC_butAll B5 c8 _ _ (dp_exAll e5 _ _ (dpAll_2.mpr (rows_to (hall3.imp fun _ _ _ z => z.dp))))
      have hwd : Dp K H8 (.ref wp) (.list (its.map Row.toD ++ [wd])) := .lst (SqL.of hw) (dpAll_app hws8 (.cons hv .nil))
      have wrong : ∀ its' : List OR.Row, (PyData.list (its.map Row.toD ++ [wd]) = .list (its'.map Row.toD) ∨ PyData.list (its.map Row.toD ++ [wd]) = .tuple (its'.map Row.toD)) → (∀ r ∈ its', r.isIt = true ∧ r.ok = true) → ¬ (its'.map Row.key).Nodup := fun its' he hi' nd => by
        have he : its.map Row.toD ++ [wd] = its'.map Row.toD := by
          rcases he with he | he
          · injection he
          · cases he
        have hmem : wd ∈ its'.map Row.toD := by rw [← he]; simp
        obtain ⟨r, hr, er⟩ := List.mem_map.mp hmem
        obtain ⟨ri, ro⟩ := hi' r hr
        simp only [List.mem_cons, List.not_mem_nil, or_false] at hm
        cases r with
        | non => cases ri
        | sto => cases ri
        | it k h mm =>
          rcases hm with e | e | e | e
          · have er := er.trans e
            simp [Row.toD] at er
          · have er := er.trans e
            simp only [Row.toD, PyData.tuple.injEq, List.cons.injEq, PyData.int.injEq, and_true] at er
            have := of_decide_eq_true ro
            omega
          · cases its with
            | nil =>
              have er : (Row.it k h mm).toD = PyData.int 5 := er.trans e
              simp [Row.toD] at er
            | cons r0 rs =>
              have e2 : wd = r0.toD := e
              rw [e2] at he
              have e3 : (r0 :: rs ++ [r0]).map Row.toD = its'.map Row.toD := by rw [← he]; simp
              have e4 := (List.map_inj_right (fun a b => @Row.toD_inj a b)).mp e3
              rw [← e4] at nd
              simp at nd
          · have er := er.trans e
            cases er
      dsimp only; refine s_cons ?_
      refine s_ifRef (C := CR) (v := .ref wp) T8 (.inl ⟨rfl, rfl⟩) (ev_var rfl) (.inr ⟨_, rfl⟩) (fun H9 e9 Ek Q hE => ?_) (fun H9 e9 T9 => ?_)
      · refine ⟨_, rfl, _, rfl, _, _, rfl, rfl, ?_⟩
        refine placed_bad (dq_xn e9 (.d hwd)) ?_ (.d (.int _)) (.d (.str _)) (fun m' e => by injection e with e; omega) (fun its' he hi' => .inl (wrong its' he hi')) hE
        simp [topLen]; omega
      have B9 := B8.xn e9
      have hdi9 := dp_xn e9 _ _ hdi8
      have hl9 : H9 l = some (.lst ws) := e9 _ _ hl8 fun _ z => by cases z
      refine s_next ?_; dsimp only; refine s_cons ?_
      refine s_ifRef (C := CR) (v := .ref l) T9 (.inl ⟨rfl, rfl⟩) (ev_var rfl) (.inr ⟨_, rfl⟩) (fun H10 e10 Ek Q hE => ?_) (fun H10 e10 T10 => ?_)
      · have hl10 : H10 l = some (.lst ws) := e10 _ _ hl9 fun _ z => by cases z
        refine ⟨_, rfl, _, rfl, l, ws, rfl, .inl (SqL.of hl10), ?_⟩
        refine placed_bad (dq_xn e10 (.d hdi9)) ?_ (.d (.int _)) (.d (.str _)) (fun m' e => by injection e with e; omega) (fun its' he hi' => .inr (.inr ⟨_, rfl, ?_⟩)) hE
        · simp [topLen]; omega
        · rcases he with he | he
          · injection he with he
            have := (List.map_inj_right (fun a b => @Row.toD_inj a b)).mp he
            rw [← this]
            omega
          · cases he
      have hdi10 := dp_xn e10 _ _ hdi9
      have hl10 : H10 l = some (.lst ws) := e10 _ _ hl9 fun _ z => by cases z
      have B10 := B9.xn e10
      have hws10 : DpAll K H10 ws (its.map Row.toD) := dp_xnAll e10 _ _ (dp_xnAll e9 _ _ hws8)
      let tw : PyData := match its with
        | .it k h mm :: _ => .list (its.map Row.toD ++ [.tuple [.int k, .int (h + 1), .int (mm + 1)]])
        | _ => .list [.int 5]
      refine s_next ?_; dsimp only; refine s_cons ?_
      refine s_asgD (K := K) (d := tw) (ed_if (K := K) (b := !(its.map Row.toD).isEmpty) (et_neNil rfl hdi10 layI) (fun hb => ?_) (fun hb => ?_)) fun tv H11 e11 htv => ?_
      · cases its with
        | nil => cases hb
        | cons r rs =>
          have ri := (hit r (List.mem_cons_self ..)).1
          cases r with
          | non => cases ri
          | sto => cases ri
          | it k h mm =>
            obtain ⟨v0, hv0, hd0⟩ := (dpAll_2.mp hws10).get (i := 0) rfl
            refine ed_catV (ev_var rfl) hl10 hws10 (by omega) ?_
            have i0 : ∀ {ts : L2.St}, ts[2]? = some (some (V.ref l)) → Ev (tOp (rIxL K) (tVar 2) (tC (.int 0))) ts H10 v0 := fun {ts} h2 => ev_op (ev_var h2) ev_c (rv_ixL (SqL.of hl10) (atI_nat (j := 0) hv0))
            cases hd0 with
            | tup hs ha =>
              cases ha with
              | cons a1 ha =>
                cases ha with
                | cons a2 ha =>
                  cases ha with
                  | cons a3 ha =>
                    cases a1; cases a2; cases a3
                    exact ed_tup (ead_cons (ed_of (ev_op (i0 rfl) ev_c (rv_ixT hs (atI_nat (j := 0) rfl))) (.int _)) (ead_cons (ed_of (ev_op (ev_op (i0 rfl) ev_c (rv_ixT hs (atI_nat (j := 1) rfl))) ev_c rv_I0) (.int _)) (ead_cons (ed_of (ev_op (ev_op (i0 rfl) ev_c (rv_ixT hs (atI_nat (j := 2) rfl))) ev_c rv_I0) (.int _)) ead_nil))) (by simp)
      · cases its with
        | nil => exact ed_lst (ead_cons ed_int ead_nil) (by simp)
        | cons r rs => cases hb
      have B11 := B10.ex e11
      have T11 := T10.ext e11
      have hdi11 := dp_ex e11 _ _ hdi10
      dsimp only; refine s_cons ?_
      refine s_asgPickN (ds := [.none, .int 5, .str "ab", .dict [], .tuple [.int 1, .int 2, .int 3]]) (l := 5) (ean_cons (en_of ed_non) (ean_cons (en_of ed_int) (ean_cons (en_of ed_str) (ean_cons en_dct (ean_cons (en_of (ed_tup (ead_cons ed_int (ead_cons ed_int (ead_cons ed_int ead_nil))) (by simp))) ean_nil))))) B11 (by omega) rfl (by simp) rfl fun ov od H12 om hov B12 c12 => ?_
      have T12 : LamX.Tabs T H12 := tabs_but B11 c12 T11
      have hdi12 := dpC_but B11 c12 _ _ hdi11
      have htv12 := dpC_but B11 c12 _ _ htv
      dsimp only; refine s_cons ?_
      have htw : (∃ a, tv = .ref a) ∧ topLen tw ≤ 20000 ∧ ∀ its' : List OR.Row, (tw = .list (its'.map Row.toD) ∨ tw = .tuple (its'.map Row.toD)) → (∀ r ∈ its', r.isIt = true ∧ r.ok = true) → ¬ (its'.map Row.key).Nodup := by
        cases its with
        | nil =>
          have e : tw = .list [.int 5] := rfl
          rw [e] at htv12
          refine ⟨by cases htv12; exact ⟨_, rfl⟩, by rw [e]; simp [topLen], fun its' he hi' nd => ?_⟩
          rw [e] at he
          rcases he with he | he
          · injection he with he
            cases its' with
            | nil => cases he
            | cons r rs =>
              have h1 := (List.cons.inj he).1
              have ri := (hi' r (List.mem_cons_self ..)).1
              cases r with
              | it k h mm => simp [Row.toD] at h1
              | non => cases ri
              | sto => cases ri
          · cases he
        | cons r rs =>
          have ri := (hit r (List.mem_cons_self ..)).1
          cases r with
          | non => cases ri
          | sto => cases ri
          | it k h mm =>
            have e : tw = .list ((OR.Row.it k h mm :: rs ++ [OR.Row.it k (h + 1) (mm + 1)]).map Row.toD) := by
              show PyData.list _ = _
              rw [List.map_append]
              rfl
            rw [e] at htv12
            refine ⟨by cases htv12; exact ⟨_, rfl⟩, by rw [e]; simp [topLen]; simp at hlen; omega, fun its' he hi' nd => ?_⟩
            rw [e] at he
            rcases he with he | he
            · injection he with he
              have e4 := (List.map_inj_right (fun a b => @Row.toD_inj a b)).mp he
              rw [← e4] at nd
              simp [Row.key] at nd
            · cases he
      obtain ⟨⟨ta, rfl⟩, htl, htb⟩ := htw
      refine s_ifRef (C := CR) (v := .ref ta) T12 (.inl ⟨rfl, rfl⟩) (ev_var rfl) (.inr ⟨_, rfl⟩) (fun H13 e13 Ek Q hE => ?_) (fun H13 e13 T13 => ?_)
      · refine ⟨_, rfl, _, rfl, _, _, rfl, rfl, ?_⟩
        exact placed_bad (dq_xn e13 (.d htv12)) htl (.d (.int _)) (.d (.str _)) (fun m' e => by injection e with e; omega) (fun its' he hi' => .inl (htb its' he hi')) hE
      have B13 := B12.xn e13
      have hdi13 := dp_xn e13 _ _ hdi12
      have hov13 : Dq K H13 ov od := dq_xn e13 hov.dq
      have hof : flatB ov = true ∨ ∃ p, ov = .ref p := by
        rcases hov with h | ⟨a, h, _⟩
        · cases h <;> first | exact .inl rfl | exact .inr ⟨_, rfl⟩
        · exact .inr ⟨a, h⟩
      refine s_next ?_; dsimp only; refine s_cons ?_
      refine s_ifRef (C := CR) (v := ov) T13 (.inl ⟨rfl, rfl⟩) (ev_var rfl) hof (fun H14 e14 Ek Q hE => ?_) (fun H14 e14 T14 => ?_)
      · refine ⟨_, rfl, _, rfl, _, _, rfl, rfl, ?_⟩
        refine placed_bad (dq_xn e14 hov13) ?_ (.d (.int _)) (.d (.str _)) (fun m' e => by injection e with e; omega) (fun its' he hi' => ?_) hE
        · simp only [List.mem_cons, List.not_mem_nil, or_false] at om
          rcases om with rfl | rfl | rfl | rfl | rfl <;> simp [topLen]
        · exfalso
          simp only [List.mem_cons, List.not_mem_nil, or_false] at om
          rcases om with rfl | rfl | rfl | rfl | rfl <;> rcases he with he | he <;> first | (cases he; done) | skip
          injection he with he
          cases its' with
          | nil => cases he
          | cons r rs =>
            have h1 := (List.cons.inj he).1
            have ri := (hi' r (List.mem_cons_self ..)).1
            cases r with
            | it k h mm => simp [Row.toD] at h1
            | non => cases ri
            | sto => cases ri
      refine s_next ?_; dsimp only
      have hdi14 := dp_xn e14 _ _ hdi13
      refine s_retRef (C := CW) (v := .str "never") T14 (.inr ⟨rfl, rfl⟩) ev_c (.inl rfl) (fun H15 e15 Ek Q hE => ?_) (fun H15 => q H15)
      refine ⟨_, rfl, _, rfl, .ref l, .int (M : Int), .str "never", .list (its.map Row.toD), .int (M : Int), .str "never", rfl, .d (dp_xn e15 _ _ hdi14), ?_, .d (.int _), .d (.str _), fun m' e => by injection e with e; omega, fun z => ?_, fun its' he hi' => ?_⟩
      · simp [topLen]; omega
      · exfalso
        have h1 : (its.map Row.toD).all isItem = true := List.all_eq_true.mpr fun x hx => by
          obtain ⟨r, hr, rfl⟩ := List.mem_map.mp hx
          have := hit r hr
          cases r with
          | it k h mm => exact this.2
          | non => cases this.1
          | sto => cases this.1
        have z : (its.map Row.toD).all isItem = false := z
        rw [h1] at z
        cases z
      · have ei : its' = its := by
          rcases he with he | he
          · injection he with he
            exact ((List.map_inj_right (fun a b => @Row.toD_inj a b)).mp he).symm
          · cases he
        subst ei
        refine ⟨fun z => ?_, fun m' e hlt nd => ⟨fun _ => hE, fun hW => absurd hW (by decide +kernel)⟩⟩
        exfalso
        rcases z with z | z | ⟨m', e, z⟩
        · exact z hkey
        · cases z
        · injection e with e; omega
end
end K40
set_option Elab.async false
set_option linter.all false
set_option maxRecDepth 100000
set_option maxHeartbeats 4000000
/-! ED2: repr of a truth; comparisons of data made on the way; a walk over a tuple made on the way; rings' functions that give data. -/
namespace OR
open PySem PySem.Calls PySem.Spec PyProof.Rows L2 Evl
def rReprB : List V → Hp → VK → Prop := fun xs H Q => ∃ b : Bool, xs = [.bl b] ∧ Q (.str (if b then "True" else "False")) H
theorem call_repr_bl {X : Cx} : CallR X (.builtin "repr") rReprB := by
  intro pins s σ H xs us Q I r h
  obtain ⟨b, rfl, q⟩ := h
  obtain ⟨u, rfl, hu⟩ := vals1 r
  cases hu
  exact PySem.P.repr_of_bool ⟨.str _, H, I.tok _, ⟨_, rfl⟩, q⟩
section
variable {K : PySem.W.Frag} {σ : L2.St} {H : Hp} {te ta tb : TE} {d e : PyData} {ds : List PyData}
theorem ev_reprB {b : Bool} (h : Ev te σ H (.bl b)) : Ev (tCB rReprB (tCons te tNil)) σ H (.str (if b then "True" else "False")) := fun H1 e Q q => h H1 e _ fun H2 e2 => ⟨b, rfl, q H2 e2⟩
theorem ev_neDD (ha : EvD K ta σ H d) (hb : EvD K tb σ H e) (sd : SeqAt.shaped d = true) (se : SeqAt.shaped e = true) : Ev (tOp (rNeD K) ta tb) σ H (.bl (!PyData.eqv d e)) := fun H1 e1 Q q =>
  ha H1 e1 _ fun v H2 e2 hv => hb H2 (e1.trans e2) _ fun u H3 e3 hu => ⟨d, e, dp_ex e3 _ _ hv, hu, sd, se, q H3 (e2.trans e3)⟩
theorem ed_L {xs : List V} (h : EvL te σ H xs) (hd : ∀ H1, Ex H H1 → DpAll K H1 xs ds) : EvD K te σ H (.list ds) := fun H1 e Q q => h H1 e _ fun p H2 _ e2 hp => q _ H2 e2 (.lst (SqL.of hp) (hd H2 (e.trans e2)))
theorem ed_U {xs : List V} (h : EvU te σ H xs) (hd : ∀ H1, Ex H H1 → DpAll K H1 xs ds) : EvD K te σ H (.tuple ds) := fun H1 e Q q => h H1 e _ fun p H2 _ e2 hp => q _ H2 e2 (.tup (SqT.of hp) (hd H2 (e.trans e2)))
theorem ev_chain {r r' : R2} {tc : TE} {x y z : V} {k k' : Bool} (ha : Ev ta σ H x) (hb : Ev tb σ H y) (hc : Ev tc σ H z) (h1 : RV r x y H (.bl k)) (h2 : RV r' y z H (.bl k')) : Ev (tChain r r' ta tb tc) σ H (.bl (k && k')) := fun H1 e Q q =>
  ha H1 e _ fun H2 e2 => hb H2 (e.trans e2) _ fun H3 e3 => h1 H3 ((e.trans e2).trans e3) _ fun H4 e4 => ⟨k, rfl, by
    cases k with
    | true =>
      refine hc H4 (((e.trans e2).trans e3).trans e4) _ fun H5 e5 => h2 H5 ((((e.trans e2).trans e3).trans e4).trans e5) _ fun H6 e6 => q H6 ((((e2.trans e3).trans e4).trans e5).trans e6)
    | false => exact q H4 ((e2.trans e3).trans e4)⟩
theorem s_ifOr {D : Ends} {t u : TT} {tu tw : TS} (h : EvT t σ H false) (k : ∀ H1, Ex H H1 → tIfS u tu tw D σ H1) : tIfS (tOr t u) tu tw D σ H := h H (Ex.refl H) _ fun H1 e1 => k H1 e1
/-- for x in a tuple made on the way -/
theorem s_forND {D : Ends} {tu : TS} {j : Nat} (h : EvD K te σ H (.tuple ds)) (Pv : Nat → L2.St → Prop) (h0 : Pv 0 σ)
    (hs : ∀ H1 i d x σ' H', ds[i]? = some d → Dp K H' x d → Ex H H1 → Ex H1 H' → Pv i σ' → tu { D with nx := fun σ3 H3 => Pv (i + 1) σ3 ∧ Ex H1 H3, ct := fun σ3 H3 => Pv (i + 1) σ3 ∧ Ex H1 H3, bk := D.nx } (σ'.set j (some x)) H')
    (hd : ∀ σ' H', Ex H H' → Pv ds.length σ' → D.nx σ' H') : tFor (iTup K te) (gName j) tu D σ H :=
  h H (Ex.refl H) _ fun v H1 e hv => by
    cases hv with
    | tup hs' hda =>
      rename_i a xs
      have hl := (dpAll_2.mp hda).len
      refine ⟨a, rfl, ⟨xs, hs'⟩, for_tup (xs := xs) (fun i σ' H' => Pv i σ' ∧ Ex H1 H') ⟨h0, Ex.refl H1⟩ (fun i σ' H' _ p => ex_t p.2 hs') (fun i x σ' H' hx p => ?_) (fun σ' H' p => hd σ' H' (e.trans p.2) (by rw [← hl]; exact p.1))⟩
      obtain ⟨hi, _⟩ := List.getElem?_eq_some_iff.mp hx
      have hi2 : i < ds.length := by omega
      obtain ⟨y, hy, hyd⟩ := (dpAll_2.mp hda).get (List.getElem?_eq_getElem hi2)
      have ex : y = x := Option.some.inj (hy.symm.trans hx)
      subst ex
      exact hs H1 i ds[i] y σ' H' (List.getElem?_eq_getElem hi2) (dp_ex p.2 _ _ hyd) e p.2 p.1
/-- [x for x in a tuple if p x], as data -/
theorem ed_lcT {tx : TE} {t : TT} {j : Nat} {vs : List Nat} {a : Addr} {xs : List V} {ds : List PyData} (f : PyData → Bool) (h : Ev tx σ H (.ref a)) (hx : SqT K H a xs) (hall : All2 (fun d v => Dp K H v d) ds xs) (hz : xs.length ≤ 50000)
    (hw : ∀ x, wipe ((wipe σ vs).set j (some x)) vs = wipe σ vs) (hj : ∀ x : V, ((wipe σ vs).set j (some x))[j]? = some (some x)) (turn : ∀ d x, Dp K H x d → EvT t ((wipe σ vs).set j (some x)) H (f d)) :
    EvD K (tLc (iTup K tx) (gName j) t (tVar j) vs) σ H (.list (ds.filter f)) := by
  have hl := hall.len
  have hi := ei_tup h hx
  rw [hl] at hi
  refine ed_L (xs := ((List.range ds.length).filter fun i => f (ds.getD i .none)).map fun i => xs.getD i .non) (el_lc (fun i => f (ds.getD i .none)) (fun i => xs.getD i .non) hi (by omega) fun i hi x H1 e y => ?_) fun H1 e1 => ?_
  · obtain ⟨x', hx', hdp⟩ := hall.get (List.getElem?_eq_getElem hi)
    have ex : x' = x := Option.some.inj (hx'.symm.trans y)
    subst ex
    have ed : ds.getD i .none = ds[i] := by simp [hi]
    have ed2 : xs.getD i .non = x' := by simp [List.getD_eq_getElem?_getD, hx']
    rw [ed, ed2]
    exact ⟨_, evg_name, hw _, turn _ _ hdp, fun _ => ev_var (hj _)⟩
  · have hz2 : (ds.zip xs).length = ds.length := by rw [List.length_zip]; omega
    have e3 := filter_get (ds.zip xs) (fun p => f p.1) (·.2) (fun i => f (ds.getD i .none)) (fun i => xs.getD i .non) fun i a ha => by
      obtain ⟨h1, h2⟩ := List.getElem?_zip_eq_some.mp ha
      constructor
      · simp [List.getD_eq_getElem?_getD, h1]
      · simp [List.getD_eq_getElem?_getD, h2]
    rw [hz2] at e3
    rw [e3]
    exact dpAll_2.mpr ((sel_all2 f hall).imp fun _ _ _ z => dp_ex e1 _ _ z)
variable {v : V} {rows : List Row} {CR CW : Addr} {E : XK}
theorem toD_rows_inj {rs rs' : List Row} (h : PyData.tuple (rs.map Row.toD) = .tuple (rs'.map Row.toD)) : rs = rs' := by
  injection h with h
  exact (List.map_inj_right (fun a b => @Row.toD_inj a b)).mp h
theorem isRing_rows (R : Ring rows) : isRing (.tuple (rows.map Row.toD)) = true := isRing_iff.mpr ⟨rows, rfl, R⟩
theorem pure_Lawful {a : Addr} {way : Str} (hv : Dq K H (.ref a) (.tuple (rows.map Row.toD))) (R : Ring rows) (hl : rows.length ≤ 50000) (hw : isWay (.str way) = true) : Pure (spIsLawful K CR CW) [.ref a, .str way] H (.bl (hasLaw rows way)) := fun Q E q =>
  ⟨.ref a, .str way, _, .str way, rfl, hv, .d (.str _), by simpa [topLen] using hl, fun z => (by rw [isRing_rows R] at z; cases z), fun _ z => (by rw [hw] at z; cases z), fun rows' way' e1 R' e2 _ H' e' => by
    have := toD_rows_inj e1
    subst this
    injection e2 with e2
    subst e2
    exact q H' e'⟩
theorem ed_items (h : Ev te σ H v) (hv : Dq K H v (.tuple (rows.map Row.toD))) (R : Ring rows) (hl : rows.length ≤ 50000) : EvD K (tCall (spItems K CR) [] E (tCons te tNil)) σ H (.tuple ((rows.filter Row.isIt).map Row.toD)) := fun H1 e Q q =>
  h H1 e _ fun H2 e2 => ⟨v, _, rfl, dq_ex (e.trans e2) hv, by simpa [topLen] using hl, fun z => (by rw [isRing_rows R] at z; cases z), fun rows' e1 R' p H' ws np e3 hp hall => by
    have := toD_rows_inj e1
    subst this
    exact q _ H' (e2.trans e3) (.tup (SqT.of hp) (dpAll_2.mpr (rows_to hall)))⟩
theorem ed_runs (h : Ev te σ H v) (hv : Dq K H v (.tuple (rows.map Row.toD))) (R : Ring rows) (hl : rows.length ≤ 50000) : EvD K (tCall (spRuns K CR) [] E (tCons te tNil)) σ H (.list (runsM rows)) := fun H1 e Q q =>
  h H1 e _ fun H2 e2 => ⟨v, _, rfl, dq_ex (e.trans e2) hv, by simpa [topLen] using hl, fun z => (by rw [isRing_rows R] at z; cases z), fun rows' e1 R' p H' ws np e3 hp hall => by
    have := toD_rows_inj e1
    subst this
    exact q _ H' (e2.trans e3) (.lst (SqL.of hp) (dpAll_2.mpr hall))⟩
end
/-! ### shapes of rings' data -/
theorem can_all {ds : List PyData} (h : ∀ d ∈ ds, d.canLay0 = true) : PyData.canLayAll0 ds = true := by
  induction ds with
  | nil => rfl
  | cons d ds ih => simp [PyData.canLayAll0, h d (List.mem_cons_self ..), ih fun x hx => h x (List.mem_cons_of_mem _ hx)]
theorem dep_all {ds : List PyData} {n : Nat} (h : ∀ d ∈ ds, d.depth ≤ n) : PyData.depthAll ds ≤ n := by
  induction ds with
  | nil => exact Nat.zero_le _
  | cons d ds ih =>
    have h1 := h d (List.mem_cons_self ..)
    have h2 := ih fun x hx => h x (List.mem_cons_of_mem _ hx)
    simp only [PyData.depthAll]
    omega
theorem ints_can (ns : List Int) : (PyData.tuple (ns.map PyData.int)).canLay0 = true ∧ (PyData.tuple (ns.map PyData.int)).depth ≤ 1 := by
  have := ints_lay ns
  constructor
  · simpa [PyData.canLay0] using this.1
  · simp only [PyData.depth]; omega
theorem row_can (r : Row) : r.toD.canLay0 = true ∧ r.toD.depth ≤ 1 := by
  cases r with
  | non => exact ⟨rfl, by decide⟩
  | sto => exact ⟨by decide +kernel, by decide⟩
  | it k h m => exact ints_can [k, h, m]
theorem rows_can (rs : List Row) : PyData.canLayAll0 (rs.map Row.toD) = true ∧ PyData.depthAll (rs.map Row.toD) ≤ 1 := ⟨can_all fun d hd => by
  obtain ⟨r, _, rfl⟩ := List.mem_map.mp hd
  exact (row_can r).1, dep_all fun d hd => by
  obtain ⟨r, _, rfl⟩ := List.mem_map.mp hd
  exact (row_can r).2⟩
theorem rows_shaped (rs : List Row) : SeqAt.shaped (.tuple (rs.map Row.toD)) = true := shaped_of (by simpa [PyData.canLay0] using (rows_can rs).1) (by have := (rows_can rs).2; simp only [PyData.depth]; omega)
theorem runs_can (rs : List Row) : (PyData.list (runsM rs)).canLay0 = true ∧ (PyData.list (runsM rs)).depth ≤ 2 := by
  have h : ∀ d ∈ runsM rs, d.canLay0 = true ∧ d.depth ≤ 1 := fun d hd => by
    obtain ⟨p, _, rfl⟩ := List.mem_map.mp hd
    exact ints_can [_, _]
  constructor
  · simpa [PyData.canLay0] using can_all fun d hd => (h d hd).1
  · have := dep_all fun d hd => (h d hd).2
    simp only [PyData.depth]; omega
theorem runs_shaped (rs : List Row) : SeqAt.shaped (.list (runsM rs)) = true := shaped_of (runs_can rs).1 (by have := (runs_can rs).2; omega)
end OR
set_option Elab.async false
set_option linter.all false
set_option maxRecDepth 100000
set_option maxHeartbeats 4000000
namespace K40
open PySem PySem.Calls PySem.Spec PyProof.Rows L2 L2H OR Evl
def spLaw (K : PySem.W.Frag) (T : List (Addr × Str)) : Sp := fun vs H Q _ => ∃ (a : Addr) (ns : List Int), vs = [.ref a] ∧ SqL K H a (ns.map V.int) ∧ ns.length ≤ 63 ∧ LamX.Tabs T H ∧ ∀ H', Q (.bl true) H'
section
variable {K : PySem.W.Frag} {σ : L2.St} {H : Hp} {te : TE} {E : XK}
theorem ed_lruns {a : Addr} {rows : List OR.Row} {xs : List V} (h : Ev te σ H (.ref a)) (hx : SqT K H a xs) (hall : All2 (fun r v => Dp K H v (Row.toD r)) rows xs) (hn : .non ∈ rows) (hz : rows.length ≤ 50000) : EvD K (tCall (spLRuns K) [] E (tCons te tNil)) σ H (.list (runsM rows)) := fun H1 e Q q =>
  h H1 e _ fun H2 e2 => ⟨a, rows, xs, rfl, ex_t (e.trans e2) hx, hall.imp fun _ _ _ z => dp_ex (e.trans e2) _ _ z, hn, hz, fun p H3 ws np e3 hp hws => q _ H3 (e2.trans e3) (.lst (SqL.of hp) (dpAll_2.mpr hws))⟩
end
section
variable {P : Program} {w : World} {K : PySem.W.Frag} {mg : Str → Option Value} {base : Heap} {f : Addr} {fd : FuncData}
abbrev s_law : Stmt := top 35
theorem sc_law : FnScope ["script", "bag", "hashes", "way", "ring", "many", "each", "item", "told", "one", "other", "odd", "strange", "row"] ["script"] (defScope s_law) := ⟨rfl, rfl, rfl, by decide +kernel, rfl, by decide +kernel, by decide +kernel⟩
theorem ok_law {CR CW cA PA fR : Addr} {fdR : FuncData} {T : List (Addr × Str)} (F : Fun K "law" "law" s_law f fd) (hc : fd.code = .ref cA) (B : Bi mg) (C__law_bag : Cal P w K mg base CX0 1 "_law_bag" ["script"] (spBagC K)) (C__law_draw : Cal P w K mg base CX0 1 "_law_draw" ["bag", "limit"] spDrawC)
    (C__law_drawn : Cal P w K mg base CX0 3 "_law_drawn" ["bag", "way", "hashes"] (spDrawn K)) (C_is_ring : Cal P w K mg base CX0 3 "is_ring" ["value"] (spRing K)) (C_all_items : Cal P w K mg base (L2.CX P w) 5 "all_items" ["ring"] (spItems K CR))
    (C_is_lawful : Cal P w K mg base (L2.CX P w) 5 "is_lawful" ["ring", "way"] (spIsLawful K CR CW)) (C__law_lawful : Cal P w K mg base CX0 1 "_law_lawful" ["ring", "way"] (spLawful K)) (C_home : Cal P w K mg base CX0 1 "home" ["item", "many"] (spHome K)) (C_distance : Cal P w K mg base CX0 1 "distance" ["one", "other", "many"] spDist)
    (C_runs : Cal P w K mg base (L2.CX P w) 5 "runs" ["ring"] (spRuns K CR)) (C__law_runs : Cal P w K mg base CX0 1 "_law_runs" ["ring"] (spLRuns K)) (C__law_spoiled : Cal P w K mg base CX0 2 "_law_spoiled" ["bag", "ring"] (spSpoiled K)) (C__law_placed_right : Cal P w K mg base CX0 8 "_law_placed_right" ["bag", "hashes"] (spPR T))
    (FR : Fun K "_law_refused" "_law_refused" s__law_refused fR fdR) (bR : Binds K fdR ["action"] []) (gR : mg "_law_refused" = some (.ref fR)) (ER : Er K mg CR CW) (TB : LamX.TabB base mg cA PA) (hT1 : (PA, (("law" : Str) ++ ".<locals>.") ++ "<lambda>") ∈ T) (hT2 : ∀ p ∈ T, p.1 = PA → p.2 = (("law" : Str) ++ ".<locals>.") ++ "<lambda>") :
    FnOk P w K mg base CX0 9 f fd ["script"] (spLaw K T) := by
  refine okT F hc sc_law (fun vs H Q E h => ?_) (fun A outer s H vs Q E hr h => ?_)
  · obtain ⟨a, ns, rfl, _⟩ := h
    rfl
  · obtain ⟨a, ns, rfl, hS, hl, hT, q⟩ := h
    refine ⟨_, (pss_cons (ps_set (i := 1) sc_law.nd rfl (Or.inl rfl) (pe_cal C__law_bag hr (pa_cons (pv 0) pa_nil)))
      (pss_cons (ps_set (i := 2) sc_law.nd rfl (Or.inl rfl) (pe_ix (ixL K) (pe_lst (pa_cons pe_int (pa_cons pe_int (pa_cons (pe_op op_pow pe_int pe_int) pa_nil)))) (pe_cal C__law_draw hr (pa_cons (pv 1) (pa_cons pe_int pa_nil))) (fun _ _ => rfl)))
      (pss_cons (ps_set (i := 3) sc_law.nd rfl (Or.inl rfl) (pe_ix (ixL K) (pe_lst (pa_cons pe_str (pa_cons pe_str (pa_cons pe_str pa_nil)))) (pe_cal C__law_draw hr (pa_cons (pv 1) (pa_cons pe_int pa_nil))) (fun _ _ => rfl)))
      (pss_cons (ps_set (i := 4) sc_law.nd rfl (Or.inr rfl) (pe_cal C__law_drawn hr (pa_cons (pv 1) (pa_cons (pv 3) (pa_cons (pv 2) pa_nil)))))
      (pss_cons (ps_set (i := 5) sc_law.nd rfl (Or.inl rfl) (pe_callB (lenS K) (by rfl) B.mg_len PySem.boot_len (pa_cons (pv 4) pa_nil)))
      (pss_cons (ps_if (PW.pt (pw_or (pt_cmpR op_isnot_bl (pe_cal C_is_ring hr (pa_cons (pv 4) pa_nil)) pe_bl (nomark _)) (pw_or1 (pt_cmpR (op_neD hr.units) (pe_calX (E := E0) C_all_items hr passX0 (pa_cons (pv 4) pa_nil)) (pe_callTy (tupS K) (by rfl) B.mg_tuple (by decide +kernel) (pa_cons (pe_lc (own := [("row", 13)]) (g := gName 13) rfl sc_law.nd (pi_tup (pv 4)) (blkOk_by (N := ["script", "bag", "hashes", "way", "ring", "many", "each", "item", "told", "one", "other", "odd", "strange", "row"]) (sc := defScope s_law) (by decide +kernel)) (fun _ _ _ _ _ => (pg_name (i := 13) sc_law.nd rfl (Or.inl rfl))) (fun _ _ _ _ _ => pts_one (pt_val (pe_callB (isiS K) (by rfl) B.mg_isinstance (by decide +kernel) (pa_cons (pv 13) (pa_cons (pe_ty (T := "tuple") B.mg_tuple) pa_nil))))) (fun _ _ _ _ _ => (pv 13))) pa_nil)) (nomark _))))) (pss_one (ps_ret pe_bl)) pss_nil)
      (pss_cons (ps_for PassesOwn.never rfl (pi_list (pe_lst (pa_cons pe_str (pa_cons pe_str (pa_cons pe_str pa_nil))))) (pg_name (i := 6) sc_law.nd rfl (Or.inl rfl)) (pss_one (ps_if (pt_cmpR op_ne (pe_callB call_repr_bl (by rfl) B.mg_repr (by decide +kernel) (pa_cons (pe_calX (E := E0) C_is_lawful hr passX0 (pa_cons (pv 4) (pa_cons (pv 6) pa_nil))) pa_nil)) (pe_callB call_repr_bl (by rfl) B.mg_repr (by decide +kernel) (pa_cons (pe_cal C__law_lawful hr (pa_cons (pv 4) (pa_cons (pv 6) pa_nil))) pa_nil)) (nomark _)) (pss_one (ps_ret pe_bl)) pss_nil)))
      (pss_cons (ps_for PassesOwn.never rfl (pi_tup (pe_calX (E := E0) C_all_items hr passX0 (pa_cons (pv 4) pa_nil))) (pg_name (i := 7) sc_law.nd rfl (Or.inl rfl)) (pss_one (ps_if (pt_cmpR op_ne (pe_cal C_home hr (pa_cons (pv 7) (pa_cons (pv 5) pa_nil))) (pe_op op_mod (pe_ix (ixT K) (pv 7) pe_int (fun _ _ => rfl)) (pv 5)) (nomark _)) (pss_one (ps_ret pe_bl)) pss_nil)))
      (pss_cons (ps_set (i := 8) sc_law.nd rfl (Or.inl rfl) (pe_calX (E := E0) C_runs hr passX0 (pa_cons (pv 4) pa_nil)))
      (pss_cons (ps_if (pt_cmpR (op_neD hr.units) (pv 8) (pe_cal C__law_runs hr (pa_cons (pv 4) pa_nil)) (nomark _)) (pss_one (ps_ret pe_bl)) pss_nil)
      (pss_cons (ps_expr (pe_bm0 PySem.F.plainAttrs_list PySem.F.slot_list_clear PySem.F.type_list_clear mt_clear (pv 8)))
      (pss_cons (ps_if (pt_cmpR (op_neD hr.units) (pe_calX (E := E0) C_runs hr passX0 (pa_cons (pv 4) pa_nil)) (pe_cal C__law_runs hr (pa_cons (pv 4) pa_nil)) (nomark _)) (pss_one (ps_ret pe_bl)) pss_nil)
      (pss_cons (ps_par (i := 9) (j := 10) rfl sc_law.nd rfl rfl (by decide) rfl rfl (pa_cons (pe_cal C__law_draw hr (pa_cons (pv 1) (pa_cons (pv 5) pa_nil))) (pa_cons (pe_cal C__law_draw hr (pa_cons (pv 1) (pa_cons (pv 5) pa_nil))) pa_nil)) rfl)
      (pss_cons (ps_if (PW.pt (pw_or (pt_cmpR op_ne (pe_op op_mod (pe_op op_add (pv 9) (pe_cal C_distance hr (pa_cons (pv 9) (pa_cons (pv 10) (pa_cons (pv 5) pa_nil))))) (pv 5)) (pv 10) (nomark _)) (pw_or1 (pt_not (pt_chain op_le op_lt pe_int (pe_cal C_distance hr (pa_cons (pv 9) (pa_cons (pv 10) (pa_cons (pv 5) pa_nil)))) (pv 5)))))) (pss_one (ps_ret pe_bl)) pss_nil)
      (pss_cons (ps_set (i := 11) sc_law.nd rfl (Or.inr rfl) (pe_cal C__law_spoiled hr (pa_cons (pv 1) (pa_cons (pv 4) pa_nil))))
      (pss_cons (ps_if (PW.pt (pw_or (pt_cmpR op_isnot_bl (pe_cal C_is_ring hr (pa_cons (pv 11) pa_nil)) pe_bl (nomark _)) (pw_or1 (pt_cmpR (op_neS hr.units) (pe_ref (k := 5) FR bR gR ER TB rfl hT1 hT2 (hr.mono (by decide)) (LamX.lamS_by (by kernel_rfl)) (fun A outer s H E f c' hr => (pe_calX (E := E) C_is_lawful hr (passes_call (takes_of rfl rfl rfl rfl) fun _ _ _ _ z => z) (pa_cons (pv 11) (pa_cons pe_str pa_nil))))) (pe_tup (pa_cons pe_str (pa_cons (pv 11) pa_nil))) (nomark _))))) (pss_one (ps_ret pe_bl)) pss_nil)
      (pss_cons (ps_if (pt_cmpR (op_neS hr.units) (pe_ref (k := 5) FR bR gR ER TB rfl hT1 hT2 (hr.mono (by decide)) (LamX.lamS_by (by kernel_rfl)) (fun A outer s H E f c' hr => (pe_calX (E := E) C_runs hr (passes_call (takes_of rfl rfl rfl rfl) fun _ _ _ _ z => z) (pa_cons (pv 11) pa_nil)))) (pe_tup (pa_cons pe_str (pa_cons (pv 11) pa_nil))) (nomark _)) (pss_one (ps_ret pe_bl)) pss_nil)
      (pss_cons (ps_if (pt_cmpR (op_neS hr.units) (pe_ref (k := 5) FR bR gR ER TB rfl hT1 hT2 (hr.mono (by decide)) (LamX.lamS_by (by kernel_rfl)) (fun A outer s H E f c' hr => (pe_calX (E := E) C_all_items hr (passes_call (takes_of rfl rfl rfl rfl) fun _ _ _ _ z => z) (pa_cons (pv 11) pa_nil)))) (pe_tup (pa_cons pe_str (pa_cons (pv 11) pa_nil))) (nomark _)) (pss_one (ps_ret pe_bl)) pss_nil)
      (pss_cons (ps_set (i := 12) sc_law.nd rfl (Or.inr rfl) (pe_ix (ixL K) (pe_lst (pa_cons pe_str (pa_cons pe_str (pa_cons pe_non (pa_cons pe_int (pa_cons (pe_lst (pa_cons pe_str pa_nil)) (pa_cons pe_str pa_nil))))))) (pe_cal C__law_draw hr (pa_cons (pv 1) (pa_cons pe_int pa_nil))) (fun _ _ => rfl)))
      (pss_cons (ps_if (pt_cmpR (op_neS hr.units) (pe_ref (k := 5) FR bR gR ER TB rfl hT1 hT2 (hr.mono (by decide)) (LamX.lamS_by (by kernel_rfl)) (fun A outer s H E f c' hr => (pe_calX (E := E) C_is_lawful hr (passes_call (takes_of rfl rfl rfl rfl) fun _ _ _ _ z => z) (pa_cons (pv 4) (pa_cons (pv 12) pa_nil))))) (pe_tup (pa_cons pe_str (pa_cons (pv 12) pa_nil))) (nomark _)) (pss_one (ps_ret pe_bl)) pss_nil)
      (pss_one (ps_ret (pe_cal C__law_placed_right hr (pa_cons (pv 1) (pa_cons (pv 2) pa_nil))))))))))))))))))))))))), ?_⟩
    refine ⟨_, rfl, a, ns, rfl, hS, hl, fun b c H1 nb nc B1 e1 => ?_⟩
    have T1 : LamX.Tabs T H1 := hT.ext e1
    dsimp only; refine s_cons ?_
    refine s_asgPick (ds := [.int 4, .int 12, .int (10 ^ 30)]) (l := 3) (ead_cons ed_int (ead_cons ed_int (ead_cons (ed_of (ev_op ev_c ev_c (rv_I ⟨by decide, by decide, by decide⟩)) (.int _)) ead_nil))) B1 (by omega) rfl (by simp) rfl fun v1 d1 H2 m1 hd1 B2 c2 => ?_
    obtain ⟨hashes, rfl, hh0, hh1⟩ : ∃ hashes : Int, v1 = .int hashes ∧ 0 < hashes ∧ hashes ≤ 10 ^ 30 := by
      simp only [List.mem_cons, List.not_mem_nil, or_false] at m1
      rcases m1 with rfl | rfl | rfl <;> cases hd1 <;> exact ⟨_, rfl, by decide, by decide⟩
    have T2 : LamX.Tabs T H2 := tabs_but B1 c2 T1
    dsimp only; refine s_cons ?_
    refine s_asgPick (ds := [.str "plain", .str "stones", .str "sorted"]) (l := 3) (ead_cons ed_str (ead_cons ed_str (ead_cons ed_str ead_nil))) B2 (by omega) rfl (by simp) rfl fun v2 d2 H3 m2 hd2 B3 c3 => ?_
    obtain ⟨way, rfl, hway⟩ : ∃ way : Str, v2 = .str way ∧ isWay (.str way) = true := by
      simp only [List.mem_cons, List.not_mem_nil, or_false] at m2
      rcases m2 with rfl | rfl | rfl <;> cases hd2 <;> exact ⟨_, rfl, by decide +kernel⟩
    have T3 : LamX.Tabs T H3 := tabs_but B2 c3 T2
    have hh2 : hashes < 2 ^ 200 := Int.lt_of_le_of_lt hh1 (by decide)
    dsimp only; refine s_cons ?_
    refine ⟨_, rfl, _, rfl, _, rfl, b, c, way, hashes, _, rfl, B3, by omega, hh0, hh2, fun p H4 rows ws np B4 c4 hp hall ring hlen => ?_⟩
    have T4 : LamX.Tabs T H4 := tabs_but B3 c4 T3
    have hwl := hall.len
    have n0 : 0 < rows.length := List.length_pos_of_mem ring.non
    have hd4 : Dp K H4 (.ref p) (.tuple (rows.map Row.toD)) := .tup (SqT.of hp) (dpAll_2.mpr (rows_to hall))
    have isr := isRing_rows ring
    have tl : topLen (.tuple (rows.map Row.toD)) ≤ 50000 := by simp [topLen]; omega
    dsimp only; refine s_cons ?_
    refine s_asg (ev_lenS (ev_var rfl) (.inr (SqT.of hp))) fun H5 e5 => ?_
    have hd5 := dp_ex e5 _ _ hd4
    have hp5 := e5 _ _ hp
    have hall5 := hall.imp fun r v _ z => dp_ex e5 _ _ z
    have efil : (rows.map Row.toD).filter (inst "tuple") = (rows.filter Row.isIt).map Row.toD := by
      rw [List.filter_map]
      have e : (inst "tuple" ∘ Row.toD) = Row.isIt := funext row_inst
      rw [e]
    have refl : ∀ {d : PyData}, d.canLay0 = true → PyData.eqv d d = true := fun h => PySem.SeqAt.eqv_refl _ h
    dsimp only; refine s_cons ?_
    refine s_if (b := false) (et_is (b := false) (et_or (a := false) (b := false) (et_is (et_test (ev_op (ev_cal (ea_cons (ev_var rfl) ea_nil) fun H6 e6 => pure_Ring (dq_ex e6 (.d hd5)) tl) ev_c (rv_val fun H1 _ Q q => ⟨_, _, rfl, rfl, q⟩))) (by rw [isr]; rfl)) fun _ => et_is (et_test (ev_neDD (ed_items (ev_var rfl) (.d hd5) ring (by omega)) (ed_tupL (ed_lcT (inst "tuple") (ev_var rfl) (SqT.of hp5) (rows_to hall5) (by omega) (fun _ => rfl) (fun _ => rfl) fun d x hx => et_test (ev_isi (ev_var rfl) (.d hx)))) (rows_shaped _) (by rw [efil]; exact rows_shaped _))) (by rw [efil, refl (by simpa [PyData.canLay0] using (rows_can _).1)]; rfl)) rfl) (fun h => by cases h) (fun _ H6 e6 => ?_)
    have hp6 := e6 _ _ hp5
    have hd6 := dp_ex e6 _ _ hd5
    have hall6 := hall5.imp fun r v _ z => dp_ex e6 _ _ z
    have B6 := (B4.ex e5).ex e6
    have T6 := (T4.ext e5).ext e6
    have hmi : (0 : Int) < (ws.length : Int) := by omega
    refine s_next ?_; dsimp only; refine s_cons ?_
    refine s_forNL (xs := [.str "plain", .str "stones", .str "sorted"]) (el_lst (ea_cons ev_c (ea_cons ev_c (ea_cons ev_c ea_nil))) (by simp)) (fun L i σ' H' => ∃ z, σ' = [some (.ref a), some (.ref b), some (.int hashes), some (.str way), some (.ref p), some (.int (ws.length : Int)), z, none, none, none, none, none, none, none] ∧ Ex H6 H' ∧ H' L = some (.lst [.str "plain", .str "stones", .str "sorted"])) (fun L H7 nL e7 hL => ⟨none, rfl, e7, hL⟩) (fun L i σ' H' _ h => ?_) (fun L i x σ' H' hx h => ?_) (fun L σ' H7 h => ?_)
    · obtain ⟨z, rfl, e, hL⟩ := h
      exact SqL.of hL
    · obtain ⟨z, rfl, e, hL⟩ := h
      obtain ⟨each, rfl, heach⟩ : ∃ way : Str, x = .str way ∧ isWay (.str way) = true := by
        match i, hx with
        | 0, hx => exact ⟨"plain", (Option.some.inj hx).symm, by decide +kernel⟩
        | 1, hx => exact ⟨"stones", (Option.some.inj hx).symm, by decide +kernel⟩
        | 2, hx => exact ⟨"sorted", (Option.some.inj hx).symm, by decide +kernel⟩
        | i + 3, hx => simp at hx
      refine evg_name H' (Ex.refl _) _ fun H7 e7 => ?_
      have e67 := e.trans e7
      have plaw : ∀ H8, Ex H7 H8 → Pure (spLawful K) [.ref p, .str each] H8 (.bl (hasLaw rows each)) := fun H8 e8 Q E q => ⟨p, each, rows, ws, rfl, ex_t (e67.trans e8) (SqT.of hp6), hall6.imp fun _ _ _ z => dp_ex (e67.trans e8) _ _ z, n0, by omega, q⟩
      refine s_if (b := false) (et_is (et_test (ev_op (ev_reprB (ev_cal (ea_cons (ev_var rfl) (ea_cons (ev_var rfl) ea_nil)) fun H8 e8 => pure_Lawful (.d (dp_ex (e67.trans e8) _ _ hd6)) ring (by omega) heach)) (ev_reprB (ev_cal (ea_cons (ev_var rfl) (ea_cons (ev_var rfl) ea_nil)) fun H8 e8 => plaw H8 e8)) (rv_ne rfl))) (by simp)) (fun h => by cases h) (fun _ H8 e8 => ?_)
      exact ⟨_, rfl, e67.trans e8, (e7.trans e8) _ _ hL⟩
    obtain ⟨z6, rfl, e67, _⟩ := h
    have hp7 := e67 _ _ hp6
    have hd7 := dp_ex e67 _ _ hd6
    have hall7 := hall6.imp fun r v _ z => dp_ex e67 _ _ z
    have B7 := B6.ex e67
    have T7 := T6.ext e67
    dsimp only; refine s_cons ?_
    refine s_forND (ed_items (ev_var rfl) (.d hd7) ring (by omega)) (fun i σ' => ∃ z7, σ' = [some (.ref a), some (.ref b), some (.int hashes), some (.str way), some (.ref p), some (.int (ws.length : Int)), z6, z7, none, none, none, none, none, none]) ⟨none, rfl⟩ (fun Ha i d x σ' Hb hd hx eA eB hσ => ?_) (fun σ' H8 e78 hσ => ?_)
    · obtain ⟨z7, rfl⟩ := hσ
      obtain ⟨r, hr, rfl⟩ := List.mem_map.mp (List.mem_of_getElem? hd)
      obtain ⟨k, m, er⟩ := isIt_it (List.mem_filter.mp hr).2
      rw [er] at hx
      have hx2 := hx
      cases hx with
      | tup hs ha =>
        cases ha with
        | cons a1 ha =>
          cases ha with
          | cons a2 ha =>
            cases a2
            refine s_if (b := false) (et_is (et_test (ev_op (ev_cal (ea_cons (ev_var rfl) (ea_cons (ev_var rfl) ea_nil)) fun H8 e8 => pure_Home (dp_ex e8 _ _ hx2) hmi) (ev_op (ev_op (ev_var rfl) ev_c (rv_ixT hs (atI_nat (j := 1) rfl))) (ev_var rfl) (rv_I hmi)) (rv_ne rfl))) (by simp)) (fun h => by cases h) (fun _ H8 e8 => ?_)
            exact ⟨⟨_, rfl⟩, eB.trans e8⟩
    obtain ⟨z7, rfl⟩ := hσ
    have hp8 := e78 _ _ hp7
    have hd8 := dp_ex e78 _ _ hd7
    have hall8 := hall7.imp fun r v _ z => dp_ex e78 _ _ z
    have B8 := B7.ex e78
    have T8 := T7.ext e78
    dsimp only; refine s_cons ?_
    refine ⟨_, rfl, .ref p, _, rfl, .d hd8, tl, fun z => (by rw [isr] at z; cases z), fun rows' er R' l H9 us nl e9 hl9 hus => ?_⟩
    obtain rfl : rows = rows' := toD_rows_inj er
    have lay := runs_can rows
    dsimp only; refine s_cons ?_
    refine s_if (b := false) (et_is (et_test (ev_neDD (ed_of (ev_var rfl) (.lst (SqL.of hl9) (dpAll_2.mpr hus))) (ed_lruns (ev_var rfl) (SqT.of (e9 _ _ hp8)) (hall8.imp fun r v _ z => dp_ex e9 _ _ z) ring.non (by omega)) (runs_shaped _) (runs_shaped _))) (by rw [refl lay.1]; rfl)) (fun h => by cases h) (fun _ H10 e10 => ?_)
    refine s_next ?_; dsimp only; refine s_cons ?_
    refine ⟨_, rfl, .inl ⟨rfl, _, SqL.of (e10 _ _ hl9)⟩, l, us, rfl, rfl, e10 _ _ hl9, ?_⟩
    have eB : Ex H8 (upd H10 l (.lst [])) := Ex.mut (e9.trans e10) nl
    generalize upd H10 l (.lst []) = HB at eB ⊢
    have hpB := eB _ _ hp8
    have hdB := dp_ex eB _ _ hd8
    have hallB := hall8.imp fun r v _ z => dp_ex eB _ _ z
    dsimp only; refine s_cons ?_
    refine s_if (b := false) (et_is (et_test (ev_neDD (ed_runs (ev_var rfl) (.d hdB) ring (by omega)) (ed_lruns (ev_var rfl) (SqT.of hpB) hallB ring.non (by omega)) (runs_shaped _) (runs_shaped _))) (by rw [refl lay.1]; rfl)) (fun h => by cases h) (fun _ HC eC => ?_)
    have BC := (B8.ex eB).ex eC
    have TC := (T8.ext eB).ext eC
    have hwz : (ws.length : Int) < 2 ^ 200 := by
      have : (ws.length : Int) ≤ 1000 := by omega
      exact Int.lt_of_le_of_lt this (by decide)
    refine s_next ?_; dsimp only; refine s_cons ?_
    refine ⟨_, rfl, _, rfl, b, c, (ws.length : Int), _, rfl, BC, by omega, hmi, hwz, fun d1 HD d10 d11 BD xD => ?_⟩
    refine ⟨_, rfl, _, rfl, b, c, (ws.length : Int), _, rfl, BD, by omega, hmi, hwz, fun d2 HE d20 d21 BE xE => ?_⟩
    refine ⟨_, _, rfl, ?_⟩
    have cE : But b HC HE := (But.eqs xD).trans (But.eqs xE)
    have TE' : LamX.Tabs T HE := tabs_but BC cE TC
    have hdE := dpC_but BC cE _ _ (dp_ex eC _ _ hdB)
    dsimp only; refine s_cons ?_
    refine s_if (b := false) (et_is (b := false) (et_or (a := false) (b := false) (et_is (et_test (ev_op (ev_op (ev_op (ev_var rfl) (ev_cal (ea_cons (ev_var rfl) (ea_cons (ev_var rfl) (ea_cons (ev_var rfl) ea_nil))) fun H8 e8 => pure_Dist hmi) rv_I0) (ev_var rfl) (rv_I hmi)) (ev_var rfl) (rv_ne rfl))) ?_) fun _ => et_is (et_not (et_test (ev_chain ev_c (ev_cal (ea_cons (ev_var rfl) (ea_cons (ev_var rfl) (ea_cons (ev_var rfl) ea_nil))) fun H8 e8 => pure_Dist hmi) (ev_var rfl) rv_I0 rv_I0))) ?_) rfl) (fun h => by cases h) (fun _ HF eF => ?_)
    · have e : (d1 + dist d1 d2 (ws.length : Int)) % (ws.length : Int) = d2 := by
        unfold dist
        rw [Int.add_emod, Int.emod_emod_of_dvd _ (Int.dvd_refl _), ← Int.add_emod, show d1 + (d2 - d1) = d2 by omega]
        exact Int.emod_eq_of_lt d20 d21
      rw [e]
      simp
    · have h1 : 0 ≤ dist d1 d2 (ws.length : Int) := Int.emod_nonneg _ (by omega)
      have h2 : dist d1 d2 (ws.length : Int) < (ws.length : Int) := Int.emod_lt_of_pos _ hmi
      simp [h1, h2]
    have BF := BE.ex eF
    have TF := TE'.ext eF
    have hdF := dp_ex eF _ _ hdE
    obtain ⟨p', us', ep', hpF, hallF⟩ := dq_rows (.d hdF)
    obtain rfl : p = p' := V.ref.inj ep'
    refine s_next ?_; dsimp only; refine s_cons ?_
    refine ⟨_, rfl, _, rfl, b, c, p, rows, us', _, rfl, BF, by omega, hpF, hallF, ring, hlen, fun ov od HG BG cG hod hnr hfair => ?_⟩
    have TG' := tabs_but BF cG TF
    have hdG := dpC_but BF cG _ _ hdF
    have tlo : topLen od ≤ 50000 := by have := hfair.long; omega
    have hof : flatB ov = true ∨ ∃ p, ov = .ref p := by cases hod <;> first | exact .inl rfl | exact .inr ⟨_, rfl⟩
    have nor : ∀ rows' : List OR.Row, od = .tuple (rows'.map Row.toD) → Ring rows' → False := fun rows' e R' => by
      rw [e, isRing_rows R'] at hnr
      cases hnr
    dsimp only; refine s_cons ?_
    refine s_ifOr (et_is (et_test (ev_op (ev_cal (ea_cons (ev_var rfl) ea_nil) fun H6 e6 => pure_Ring (dq_ex e6 (.d hod)) tlo) ev_c (rv_val fun H1 _ Q q => ⟨_, _, rfl, rfl, q⟩))) (by rw [hnr]; rfl)) fun HH eH => ?_
    refine s_ifRef (C := CR) (v := ov) (TG'.ext eH) (.inl ⟨rfl, rfl⟩) (ev_var rfl) hof (fun HI eI Ek Q hE => ?_) (fun HI eI TI => ?_)
    · exact ⟨_, rfl, ov, .str "never", od, .str "never", rfl, dq_xn eI (.d (dp_ex eH _ _ hod)), .d (.str _), tlo, fun _ => hE, fun z => (by rw [hnr] at z; cases z), fun rows' way' e1 R' => (nor rows' e1 R').elim⟩
    have hodI := dp_xn eI _ _ (dp_ex eH _ _ hod)
    have hdI := dp_xn eI _ _ (dp_ex eH _ _ hdG)
    have BI' := (BG.ex eH).xn eI
    refine s_next ?_; dsimp only; refine s_cons ?_
    refine s_ifRef (C := CR) (v := ov) TI (.inl ⟨rfl, rfl⟩) (ev_var rfl) hof (fun HJ eJ Ek Q hE => ?_) (fun HJ eJ TJ => ?_)
    · exact ⟨_, rfl, ov, od, rfl, dq_xn eJ (.d hodI), tlo, fun _ => hE, fun rows' e1 R' => (nor rows' e1 R').elim⟩
    have hodJ := dp_xn eJ _ _ hodI
    have hdJ := dp_xn eJ _ _ hdI
    have BJ := BI'.xn eJ
    refine s_next ?_; dsimp only; refine s_cons ?_
    refine s_ifRef (C := CR) (v := ov) TJ (.inl ⟨rfl, rfl⟩) (ev_var rfl) hof (fun HK eK Ek Q hE => ?_) (fun HK eK TK => ?_)
    · exact ⟨_, rfl, ov, od, rfl, dq_xn eK (.d hodJ), tlo, fun _ => hE, fun rows' e1 R' => (nor rows' e1 R').elim⟩
    have hdK := dp_xn eK _ _ hdJ
    have BK := BJ.xn eK
    refine s_next ?_; dsimp only; refine s_cons ?_
    refine s_asgPick (ds := [.str "never", .str "", .none, .int 0, .list [.str "plain"], .str "Plain"]) (l := 6) (ead_cons ed_str (ead_cons ed_str (ead_cons ed_non (ead_cons ed_int (ead_cons (ed_lst (ead_cons ed_str ead_nil) (by simp)) (ead_cons ed_str ead_nil)))))) BK (by omega) rfl (by simp) rfl fun sv sd HL ms hsd BL cL => ?_
    have TL := tabs_but BK cL TK
    have hdL := dpC_but BK cL _ _ hdK
    have now : isWay sd = false := by
      simp only [List.mem_cons, List.not_mem_nil, or_false] at ms
      rcases ms with rfl | rfl | rfl | rfl | rfl | rfl <;> decide +kernel
    have hsf : flatB sv = true ∨ ∃ p, sv = .ref p := by cases hsd <;> first | exact .inl rfl | exact .inr ⟨_, rfl⟩
    dsimp only; refine s_cons ?_
    refine s_ifRef (C := CW) (v := sv) TL (.inr ⟨rfl, rfl⟩) (ev_var rfl) hsf (fun HM eM Ek Q hE => ?_) (fun HM eM TM => ?_)
    · exact ⟨_, rfl, _, rfl, .ref p, sv, _, sd, rfl, dq_xn eM (.d hdL), dq_xn eM (.d hsd), tl, fun z => (by rw [isr] at z; cases z), fun _ _ => hE, fun rows' way' e1 R' e2 hw => (by rw [now] at hw; cases hw)⟩
    refine s_next ?_; dsimp only
    exact ⟨_, rfl, _, rfl, b, c, hashes, _, rfl, BL.xn eM, by omega, hh0, hh1, TM, q⟩
end
end K40
set_option Elab.async false
set_option linter.all false
set_option maxRecDepth 100000
set_option maxHeartbeats 4000000
namespace K40
open PySem PySem.Calls PySem.Spec PyProof.Rows L2 L2H OR He
def fn : List DefD := [⟨("is_whole", none), "is_whole", "is_whole", defArgs (top 7), defBody (top 7), defScope (top 7), [], []⟩,
  ⟨("is_item", none), "is_item", "is_item", defArgs (top 8), defBody (top 8), defScope (top 8), [], []⟩,
  ⟨("is_stone", none), "is_stone", "is_stone", defArgs (top 9), defBody (top 9), defScope (top 9), [], []⟩,
  ⟨("held", none), "held", "held", defArgs (top 10), defBody (top 10), defScope (top 10), [], []⟩,
  ⟨("is_ring", none), "is_ring", "is_ring", defArgs (top 11), defBody (top 11), defScope (top 11), [], []⟩,
  ⟨("need_ring", none), "need_ring", "need_ring", defArgs (top 12), defBody (top 12), defScope (top 12), [], []⟩,
  ⟨("need_way", none), "need_way", "need_way", defArgs (top 13), defBody (top 13), defScope (top 13), [], []⟩,
  ⟨("home", none), "home", "home", defArgs (top 14), defBody (top 14), defScope (top 14), [], []⟩,
  ⟨("distance", none), "distance", "distance", defArgs (top 15), defBody (top 15), defScope (top 15), [], []⟩,
  ⟨("leans", none), "leans", "leans", defArgs (top 16), defBody (top 16), defScope (top 16), [], []⟩,
  ⟨("reaches", none), "reaches", "reaches", defArgs (top 17), defBody (top 17), defScope (top 17), [], []⟩,
  ⟨("rises", none), "rises", "rises", defArgs (top 18), defBody (top 18), defScope (top 18), [], []⟩,
  ⟨("has_law", none), "has_law", "has_law", defArgs (top 19), defBody (top 19), defScope (top 19), [], []⟩,
  ⟨("is_lawful", none), "is_lawful", "is_lawful", defArgs (top 20), defBody (top 20), defScope (top 20), [], []⟩,
  ⟨("runs", none), "runs", "runs", defArgs (top 21), defBody (top 21), defScope (top 21), [], []⟩,
  ⟨("all_items", none), "all_items", "all_items", defArgs (top 22), defBody (top 22), defScope (top 22), [], []⟩,
  ⟨("placed", none), "placed", "placed", defArgs (top 23), defBody (top 23), defScope (top 23), [], []⟩,
  ⟨("seat", none), "seat", "seat", defArgs (top 24), defBody (top 24), defScope (top 24), [], []⟩,
  ⟨("_law_bag", none), "_law_bag", "_law_bag", defArgs (top 26), defBody (top 26), defScope (top 26), [], []⟩,
  ⟨("_law_draw", none), "_law_draw", "_law_draw", defArgs (top 27), defBody (top 27), defScope (top 27), [], []⟩,
  ⟨("_law_lawful", none), "_law_lawful", "_law_lawful", defArgs (top 28), defBody (top 28), defScope (top 28), [], []⟩,
  ⟨("_law_items", none), "_law_items", "_law_items", defArgs (top 29), defBody (top 29), defScope (top 29), [], []⟩,
  ⟨("_law_drawn", none), "_law_drawn", "_law_drawn", defArgs (top 30), defBody (top 30), defScope (top 30), [], []⟩,
  ⟨("_law_runs", none), "_law_runs", "_law_runs", defArgs (top 31), defBody (top 31), defScope (top 31), [], []⟩,
  ⟨("_law_refused", none), "_law_refused", "_law_refused", defArgs (top 32), defBody (top 32), defScope (top 32), [], []⟩,
  ⟨("_law_spoiled", none), "_law_spoiled", "_law_spoiled", defArgs (top 33), defBody (top 33), defScope (top 33), [], []⟩,
  ⟨("_law_placed_right", none), "_law_placed_right", "_law_placed_right", defArgs (top 34), defBody (top 34), defScope (top 34), [], []⟩,
  ⟨("law", none), "law", "law", defArgs (top 35), defBody (top 35), defScope (top 35), [], []⟩]
def errs : List ErrD := [⟨"BadWay", "BadWay.__init__", defArgs (inClass (top 2) 0), defBody (inClass (top 2) 0), defScope (inClass (top 2) 0), ["way"]⟩,
  ⟨"BadRing", "BadRing.__init__", defArgs (inClass (top 3) 0), defBody (inClass (top 3) 0), defScope (inClass (top 3) 0), ["ring"]⟩]
def glN : List Str := ["RingError", "BadWay", "BadRing", "WAYS", "is_whole", "is_item", "is_stone", "held", "is_ring", "need_ring", "need_way", "home", "distance", "leans", "reaches", "rises", "has_law", "is_lawful", "runs", "all_items", "placed", "seat", "_law_bag", "_law_draw", "_law_lawful", "_law_items", "_law_drawn", "_law_runs", "_law_refused", "_law_spoiled", "_law_placed_right", "law"]
def frN : List Str := ["int", "bool", "str", "list", "tuple", "dict", "len", "isinstance", "all", "any", "range", "enumerate", "sorted", "min", "max", "sum", "repr", "super", "ValueError"]
def fx : List Fa := [Fa.str "STONE" "stone", Fa.exm "BadRing" "BadRing" true, Fa.exm "BadRing" "BadWay" false, Fa.exm "BadWay" "BadRing" false, Fa.exm "BadWay" "BadWay" true]
def fa : List Fa := glN.map Fa.glo ++ (frN.map Fa.free ++ fx)
def tn : List Str := ["law", "_law_placed_right"]
def more (K : PySem.W.Frag) : Bool := tupB K "WAYS" [.str "plain", .str "stones", .str "sorted"] && !decide ((PySem.W.tabIn K "law").map (·.2) = (PySem.W.tabIn K "_law_placed_right").map (·.2)) && true
abbrev Lw : PySem.W.OpenLaw := PySem.Challenge.rw_openrings_k40_rings_told
abbrev R : PySem.W.OpenRow := PySem.W.OpenLaw.row Lw
def names : List Str := ["RingError", "BadWay", "BadRing", "STONE", "WAYS", "is_whole", "is_item", "is_stone", "held", "is_ring", "need_ring", "need_way", "home", "distance", "leans", "reaches", "rises", "has_law", "is_lawful", "runs", "all_items", "placed", "seat", "_law_bag", "_law_draw", "_law_lawful", "_law_items", "_law_drawn", "_law_runs", "_law_refused", "_law_spoiled", "_law_placed_right"]
abbrev hk : PySem.W.Hook := hookT R.prog.main.file more 4 fa fn errs tn
def ob (s : PySem.W.SharedT) : AlT := obsT R.prog.main.file more 4 fa fn errs tn (HandSHeadRun.getT s)
theorem ob_eq (s : PySem.W.SharedT) : ob s = hk.obs s.abs := obsT_eq (HandSHeadRun.getT_eq s)
theorem run (w : World) : HandSHeadRun.RunEq R (PySem.W.view R.prog [35]) hk ob 8000 names w := by
  intro os
  kernel_rfl
end K40
set_option Elab.async false
set_option linter.all false
set_option maxRecDepth 100000
set_option maxHeartbeats 4000000
namespace K40
open PySem PySem.Calls PySem.Spec PyProof.Rows L2 L2H OR He
open NdefX
theorem ini0 : Ini1 (errs.getD 0 default) "way" := ⟨⟨nscope_by (by decide +kernel), ⟨_, rfl, rfl⟩, by decide +kernel, fun _ _ _ _ _ _ _ us hl => (match us, hl with | [_, _], _ => rfl), by decide +kernel⟩, ⟨_, _, _, _, _, _, _, _, _, _, _, rfl, fun _ => ⟨_, rfl⟩⟩⟩
theorem ini1 : Ini1 (errs.getD 1 default) "ring" := ⟨⟨nscope_by (by decide +kernel), ⟨_, rfl, rfl⟩, by decide +kernel, fun _ _ _ _ _ _ _ us hl => (match us, hl with | [_, _], _ => rfl), by decide +kernel⟩, ⟨_, _, _, _, _, _, _, _, _, _, _, rfl, fun _ => ⟨_, rfl⟩⟩⟩
theorem facts {w : World} {K : PySem.W.Frag} {h : Heap} {mg : Str → Option Value} {f : Addr} (X : K.In h) (G : h.Ns mainGlobals mg) (hfa : mg ("law" : Str) = some (.ref f)) (c : SaysX R.prog.main.file more fa fn errs K) (tf : ∀ x ∈ tn, ∃ c P, TabF K h x c P) :
    LamX.LawAtS Lw w K CX0 9 63 "script" mg f h := by
  have fr : ∀ {x : Str}, x ∈ frN → mg x = none := fun {x} hx => free_ok X G (c.fact (List.mem_append_right _ (List.mem_append_left _ (List.mem_map_of_mem hx))))
  have gl : ∀ {x : Str}, x ∈ glN → mg x = some (.ref (ga K x)) := fun {x} hx => glo_ok X G (c.fact (List.mem_append_left _ (List.mem_map_of_mem hx)))
  have fX : ∀ {z : Fa}, z ∈ fx → z.ok K = true := fun {z} hz => c.fact (List.mem_append_right _ (List.mem_append_right _ hz))
  have B : Bi mg := bi_of fun x hx => fr ((by decide +kernel : ∀ x ∈ biN, x ∈ frN) x hx)
  have mo : more K = true := c.all.2.2.2
  unfold more at mo
  simp only [Bool.and_eq_true] at mo
  obtain ⟨⟨mo0, mo1⟩, _⟩ := mo
  obtain ⟨fd0, D0⟩ := c.def_ 0 (d := ⟨("is_whole", none), "is_whole", "is_whole", defArgs (top 7), defBody (top 7), defScope (top 7), [], []⟩) rfl
  have F_is_whole : Fun K "is_whole" "is_whole" (top 7) (ga K "is_whole") fd0 := fun_of D0
  have b_is_whole : Binds K fd0 ["value"] [] := F_is_whole.binds fun _ _ _ _ _ _ us hl => match us, hl with | [_], _ => rfl
  have g_is_whole := gl (x := "is_whole") (by decide +kernel)
  obtain ⟨fd1, D1⟩ := c.def_ 1 (d := ⟨("is_item", none), "is_item", "is_item", defArgs (top 8), defBody (top 8), defScope (top 8), [], []⟩) rfl
  have F_is_item : Fun K "is_item" "is_item" (top 8) (ga K "is_item") fd1 := fun_of D1
  have b_is_item : Binds K fd1 ["value"] [] := F_is_item.binds fun _ _ _ _ _ _ us hl => match us, hl with | [_], _ => rfl
  have g_is_item := gl (x := "is_item") (by decide +kernel)
  obtain ⟨fd2, D2⟩ := c.def_ 2 (d := ⟨("is_stone", none), "is_stone", "is_stone", defArgs (top 9), defBody (top 9), defScope (top 9), [], []⟩) rfl
  have F_is_stone : Fun K "is_stone" "is_stone" (top 9) (ga K "is_stone") fd2 := fun_of D2
  have b_is_stone : Binds K fd2 ["row"] [] := F_is_stone.binds fun _ _ _ _ _ _ us hl => match us, hl with | [_], _ => rfl
  have g_is_stone := gl (x := "is_stone") (by decide +kernel)
  obtain ⟨fd3, D3⟩ := c.def_ 3 (d := ⟨("held", none), "held", "held", defArgs (top 10), defBody (top 10), defScope (top 10), [], []⟩) rfl
  have F_held : Fun K "held" "held" (top 10) (ga K "held") fd3 := fun_of D3
  have b_held : Binds K fd3 ["rows"] [] := F_held.binds fun _ _ _ _ _ _ us hl => match us, hl with | [_], _ => rfl
  have g_held := gl (x := "held") (by decide +kernel)
  obtain ⟨fd4, D4⟩ := c.def_ 4 (d := ⟨("is_ring", none), "is_ring", "is_ring", defArgs (top 11), defBody (top 11), defScope (top 11), [], []⟩) rfl
  have F_is_ring : Fun K "is_ring" "is_ring" (top 11) (ga K "is_ring") fd4 := fun_of D4
  have b_is_ring : Binds K fd4 ["value"] [] := F_is_ring.binds fun _ _ _ _ _ _ us hl => match us, hl with | [_], _ => rfl
  have g_is_ring := gl (x := "is_ring") (by decide +kernel)
  obtain ⟨fd5, D5⟩ := c.def_ 5 (d := ⟨("need_ring", none), "need_ring", "need_ring", defArgs (top 12), defBody (top 12), defScope (top 12), [], []⟩) rfl
  have F_need_ring : Fun K "need_ring" "need_ring" (top 12) (ga K "need_ring") fd5 := fun_of D5
  have b_need_ring : Binds K fd5 ["ring"] [] := F_need_ring.binds fun _ _ _ _ _ _ us hl => match us, hl with | [_], _ => rfl
  have g_need_ring := gl (x := "need_ring") (by decide +kernel)
  obtain ⟨fd6, D6⟩ := c.def_ 6 (d := ⟨("need_way", none), "need_way", "need_way", defArgs (top 13), defBody (top 13), defScope (top 13), [], []⟩) rfl
  have F_need_way : Fun K "need_way" "need_way" (top 13) (ga K "need_way") fd6 := fun_of D6
  have b_need_way : Binds K fd6 ["way"] [] := F_need_way.binds fun _ _ _ _ _ _ us hl => match us, hl with | [_], _ => rfl
  have g_need_way := gl (x := "need_way") (by decide +kernel)
  obtain ⟨fd7, D7⟩ := c.def_ 7 (d := ⟨("home", none), "home", "home", defArgs (top 14), defBody (top 14), defScope (top 14), [], []⟩) rfl
  have F_home : Fun K "home" "home" (top 14) (ga K "home") fd7 := fun_of D7
  have b_home : Binds K fd7 ["item", "many"] [] := F_home.binds fun _ _ _ _ _ _ us hl => match us, hl with | [_, _], _ => rfl
  have g_home := gl (x := "home") (by decide +kernel)
  obtain ⟨fd8, D8⟩ := c.def_ 8 (d := ⟨("distance", none), "distance", "distance", defArgs (top 15), defBody (top 15), defScope (top 15), [], []⟩) rfl
  have F_distance : Fun K "distance" "distance" (top 15) (ga K "distance") fd8 := fun_of D8
  have b_distance : Binds K fd8 ["one", "other", "many"] [] := F_distance.binds fun _ _ _ _ _ _ us hl => match us, hl with | [_, _, _], _ => rfl
  have g_distance := gl (x := "distance") (by decide +kernel)
  obtain ⟨fd9, D9⟩ := c.def_ 9 (d := ⟨("leans", none), "leans", "leans", defArgs (top 16), defBody (top 16), defScope (top 16), [], []⟩) rfl
  have F_leans : Fun K "leans" "leans" (top 16) (ga K "leans") fd9 := fun_of D9
  have b_leans : Binds K fd9 ["rows", "place"] [] := F_leans.binds fun _ _ _ _ _ _ us hl => match us, hl with | [_, _], _ => rfl
  have g_leans := gl (x := "leans") (by decide +kernel)
  obtain ⟨fd10, D10⟩ := c.def_ 10 (d := ⟨("reaches", none), "reaches", "reaches", defArgs (top 17), defBody (top 17), defScope (top 17), [], []⟩) rfl
  have F_reaches : Fun K "reaches" "reaches" (top 17) (ga K "reaches") fd10 := fun_of D10
  have b_reaches : Binds K fd10 ["rows", "place"] [] := F_reaches.binds fun _ _ _ _ _ _ us hl => match us, hl with | [_, _], _ => rfl
  have g_reaches := gl (x := "reaches") (by decide +kernel)
  obtain ⟨fd11, D11⟩ := c.def_ 11 (d := ⟨("rises", none), "rises", "rises", defArgs (top 18), defBody (top 18), defScope (top 18), [], []⟩) rfl
  have F_rises : Fun K "rises" "rises" (top 18) (ga K "rises") fd11 := fun_of D11
  have b_rises : Binds K fd11 ["rows", "place"] [] := F_rises.binds fun _ _ _ _ _ _ us hl => match us, hl with | [_, _], _ => rfl
  have g_rises := gl (x := "rises") (by decide +kernel)
  obtain ⟨fd12, D12⟩ := c.def_ 12 (d := ⟨("has_law", none), "has_law", "has_law", defArgs (top 19), defBody (top 19), defScope (top 19), [], []⟩) rfl
  have F_has_law : Fun K "has_law" "has_law" (top 19) (ga K "has_law") fd12 := fun_of D12
  have b_has_law : Binds K fd12 ["rows", "way"] [] := F_has_law.binds fun _ _ _ _ _ _ us hl => match us, hl with | [_, _], _ => rfl
  have g_has_law := gl (x := "has_law") (by decide +kernel)
  obtain ⟨fd13, D13⟩ := c.def_ 13 (d := ⟨("is_lawful", none), "is_lawful", "is_lawful", defArgs (top 20), defBody (top 20), defScope (top 20), [], []⟩) rfl
  have F_is_lawful : Fun K "is_lawful" "is_lawful" (top 20) (ga K "is_lawful") fd13 := fun_of D13
  have b_is_lawful : Binds K fd13 ["ring", "way"] [] := F_is_lawful.binds fun _ _ _ _ _ _ us hl => match us, hl with | [_, _], _ => rfl
  have g_is_lawful := gl (x := "is_lawful") (by decide +kernel)
  obtain ⟨fd14, D14⟩ := c.def_ 14 (d := ⟨("runs", none), "runs", "runs", defArgs (top 21), defBody (top 21), defScope (top 21), [], []⟩) rfl
  have F_runs : Fun K "runs" "runs" (top 21) (ga K "runs") fd14 := fun_of D14
  have b_runs : Binds K fd14 ["ring"] [] := F_runs.binds fun _ _ _ _ _ _ us hl => match us, hl with | [_], _ => rfl
  have g_runs := gl (x := "runs") (by decide +kernel)
  obtain ⟨fd15, D15⟩ := c.def_ 15 (d := ⟨("all_items", none), "all_items", "all_items", defArgs (top 22), defBody (top 22), defScope (top 22), [], []⟩) rfl
  have F_all_items : Fun K "all_items" "all_items" (top 22) (ga K "all_items") fd15 := fun_of D15
  have b_all_items : Binds K fd15 ["ring"] [] := F_all_items.binds fun _ _ _ _ _ _ us hl => match us, hl with | [_], _ => rfl
  have g_all_items := gl (x := "all_items") (by decide +kernel)
  obtain ⟨fd16, D16⟩ := c.def_ 16 (d := ⟨("placed", none), "placed", "placed", defArgs (top 23), defBody (top 23), defScope (top 23), [], []⟩) rfl
  have F_placed : Fun K "placed" "placed" (top 23) (ga K "placed") fd16 := fun_of D16
  have b_placed : Binds K fd16 ["items", "many", "way"] [] := F_placed.binds fun _ _ _ _ _ _ us hl => match us, hl with | [_, _, _], _ => rfl
  have g_placed := gl (x := "placed") (by decide +kernel)
  obtain ⟨fd17, D17⟩ := c.def_ 17 (d := ⟨("seat", none), "seat", "seat", defArgs (top 24), defBody (top 24), defScope (top 24), [], []⟩) rfl
  have F_seat : Fun K "seat" "seat" (top 24) (ga K "seat") fd17 := fun_of D17
  have b_seat : Binds K fd17 ["rows", "item"] [] := F_seat.binds fun _ _ _ _ _ _ us hl => match us, hl with | [_, _], _ => rfl
  have g_seat := gl (x := "seat") (by decide +kernel)
  obtain ⟨fd18, D18⟩ := c.def_ 18 (d := ⟨("_law_bag", none), "_law_bag", "_law_bag", defArgs (top 26), defBody (top 26), defScope (top 26), [], []⟩) rfl
  have F__law_bag : Fun K "_law_bag" "_law_bag" (top 26) (ga K "_law_bag") fd18 := fun_of D18
  have b__law_bag : Binds K fd18 ["script"] [] := F__law_bag.binds fun _ _ _ _ _ _ us hl => match us, hl with | [_], _ => rfl
  have g__law_bag := gl (x := "_law_bag") (by decide +kernel)
  obtain ⟨fd19, D19⟩ := c.def_ 19 (d := ⟨("_law_draw", none), "_law_draw", "_law_draw", defArgs (top 27), defBody (top 27), defScope (top 27), [], []⟩) rfl
  have F__law_draw : Fun K "_law_draw" "_law_draw" (top 27) (ga K "_law_draw") fd19 := fun_of D19
  have b__law_draw : Binds K fd19 ["bag", "limit"] [] := F__law_draw.binds fun _ _ _ _ _ _ us hl => match us, hl with | [_, _], _ => rfl
  have g__law_draw := gl (x := "_law_draw") (by decide +kernel)
  obtain ⟨fd20, D20⟩ := c.def_ 20 (d := ⟨("_law_lawful", none), "_law_lawful", "_law_lawful", defArgs (top 28), defBody (top 28), defScope (top 28), [], []⟩) rfl
  have F__law_lawful : Fun K "_law_lawful" "_law_lawful" (top 28) (ga K "_law_lawful") fd20 := fun_of D20
  have b__law_lawful : Binds K fd20 ["ring", "way"] [] := F__law_lawful.binds fun _ _ _ _ _ _ us hl => match us, hl with | [_, _], _ => rfl
  have g__law_lawful := gl (x := "_law_lawful") (by decide +kernel)
  obtain ⟨fd21, D21⟩ := c.def_ 21 (d := ⟨("_law_items", none), "_law_items", "_law_items", defArgs (top 29), defBody (top 29), defScope (top 29), [], []⟩) rfl
  have F__law_items : Fun K "_law_items" "_law_items" (top 29) (ga K "_law_items") fd21 := fun_of D21
  have b__law_items : Binds K fd21 ["bag", "many", "hashes", "first"] [] := F__law_items.binds fun _ _ _ _ _ _ us hl => match us, hl with | [_, _, _, _], _ => rfl
  have g__law_items := gl (x := "_law_items") (by decide +kernel)
  obtain ⟨fd22, D22⟩ := c.def_ 22 (d := ⟨("_law_drawn", none), "_law_drawn", "_law_drawn", defArgs (top 30), defBody (top 30), defScope (top 30), [], []⟩) rfl
  have F__law_drawn : Fun K "_law_drawn" "_law_drawn" (top 30) (ga K "_law_drawn") fd22 := fun_of D22
  have b__law_drawn : Binds K fd22 ["bag", "way", "hashes"] [] := F__law_drawn.binds fun _ _ _ _ _ _ us hl => match us, hl with | [_, _, _], _ => rfl
  have g__law_drawn := gl (x := "_law_drawn") (by decide +kernel)
  obtain ⟨fd23, D23⟩ := c.def_ 23 (d := ⟨("_law_runs", none), "_law_runs", "_law_runs", defArgs (top 31), defBody (top 31), defScope (top 31), [], []⟩) rfl
  have F__law_runs : Fun K "_law_runs" "_law_runs" (top 31) (ga K "_law_runs") fd23 := fun_of D23
  have b__law_runs : Binds K fd23 ["ring"] [] := F__law_runs.binds fun _ _ _ _ _ _ us hl => match us, hl with | [_], _ => rfl
  have g__law_runs := gl (x := "_law_runs") (by decide +kernel)
  obtain ⟨fd24, D24⟩ := c.def_ 24 (d := ⟨("_law_refused", none), "_law_refused", "_law_refused", defArgs (top 32), defBody (top 32), defScope (top 32), [], []⟩) rfl
  have F__law_refused : Fun K "_law_refused" "_law_refused" (top 32) (ga K "_law_refused") fd24 := fun_of D24
  have b__law_refused : Binds K fd24 ["action"] [] := F__law_refused.binds fun _ _ _ _ _ _ us hl => match us, hl with | [_], _ => rfl
  have g__law_refused := gl (x := "_law_refused") (by decide +kernel)
  obtain ⟨fd25, D25⟩ := c.def_ 25 (d := ⟨("_law_spoiled", none), "_law_spoiled", "_law_spoiled", defArgs (top 33), defBody (top 33), defScope (top 33), [], []⟩) rfl
  have F__law_spoiled : Fun K "_law_spoiled" "_law_spoiled" (top 33) (ga K "_law_spoiled") fd25 := fun_of D25
  have b__law_spoiled : Binds K fd25 ["bag", "ring"] [] := F__law_spoiled.binds fun _ _ _ _ _ _ us hl => match us, hl with | [_, _], _ => rfl
  have g__law_spoiled := gl (x := "_law_spoiled") (by decide +kernel)
  obtain ⟨fd26, D26⟩ := c.def_ 26 (d := ⟨("_law_placed_right", none), "_law_placed_right", "_law_placed_right", defArgs (top 34), defBody (top 34), defScope (top 34), [], []⟩) rfl
  have F__law_placed_right : Fun K "_law_placed_right" "_law_placed_right" (top 34) (ga K "_law_placed_right") fd26 := fun_of D26
  have b__law_placed_right : Binds K fd26 ["bag", "hashes"] [] := F__law_placed_right.binds fun _ _ _ _ _ _ us hl => match us, hl with | [_, _], _ => rfl
  have g__law_placed_right := gl (x := "_law_placed_right") (by decide +kernel)
  obtain ⟨fd27, D27⟩ := c.def_ 27 (d := ⟨("law", none), "law", "law", defArgs (top 35), defBody (top 35), defScope (top 35), [], []⟩) rfl
  have F_law : Fun K "law" "law" (top 35) (ga K "law") fd27 := fun_of D27
  have b_law : Binds K fd27 ["script"] [] := F_law.binds fun _ _ _ _ _ _ us hl => match us, hl with | [_], _ => rfl
  have g_law := gl (x := "law") (by decide +kernel)
  obtain ⟨i0, cc0, cd0, E0⟩ := errF_of (P := R.prog) X G (fr (x := "super") (by decide +kernel)) (by decide +kernel) (c.err 0 (d := errs.getD 0 default) rfl).1 (c.err 0 rfl).2
  obtain ⟨i1, cc1, cd1, E1⟩ := errF_of (P := R.prog) X G (fr (x := "super") (by decide +kernel)) (by decide +kernel) (c.err 1 (d := errs.getD 1 default) rfl).1 (c.err 1 rfl).2
  have g_STONE := str_ok X G (fX (z := Fa.str "STONE" "stone") (List.mem_of_getElem? (i := 0) rfl))
  have g_WAYS := gl (x := "WAYS") (by decide +kernel)
  have W_WAYS := tupB_ok mo0
  have m_BadRing_BadRing : PySem.W.exmOne K (.ref (ga K "BadRing")) (.ref (ga K "BadRing")) = some true := of_decide_eq_true (fX (z := Fa.exm "BadRing" "BadRing" true) (List.mem_of_getElem? (i := 1) rfl))
  have m_BadRing_BadWay : PySem.W.exmOne K (.ref (ga K "BadRing")) (.ref (ga K "BadWay")) = some false := of_decide_eq_true (fX (z := Fa.exm "BadRing" "BadWay" false) (List.mem_of_getElem? (i := 2) rfl))
  have m_BadWay_BadRing : PySem.W.exmOne K (.ref (ga K "BadWay")) (.ref (ga K "BadRing")) = some false := of_decide_eq_true (fX (z := Fa.exm "BadWay" "BadRing" false) (List.mem_of_getElem? (i := 3) rfl))
  have m_BadWay_BadWay : PySem.W.exmOne K (.ref (ga K "BadWay")) (.ref (ga K "BadWay")) = some true := of_decide_eq_true (fX (z := Fa.exm "BadWay" "BadWay" true) (List.mem_of_getElem? (i := 4) rfl))
  have e := hfa.symm.trans g_law
  cases e
  obtain ⟨c_law, P_law, t_law⟩ := tf "law" (by decide +kernel)
  have hc_law : fd27.code = .ref c_law := by
    obtain ⟨oc, od, kV, doc, pm, an, cdv, ct, osl, e, lk, hcd⟩ := F_law.ex
    exact t_law.fd lk
  obtain ⟨c__law_placed_right, P__law_placed_right, t__law_placed_right⟩ := tf "_law_placed_right" (by decide +kernel)
  have hc__law_placed_right : fd26.code = .ref c__law_placed_right := by
    obtain ⟨oc, od, kV, doc, pm, an, cdv, ct, osl, e, lk, hcd⟩ := F__law_placed_right.ex
    exact t__law_placed_right.fd lk
  have n_law__law_placed_right : P_law ≠ P__law_placed_right := fun z => by
    rw [t_law.tab, t__law_placed_right.tab] at mo1
    simp [z] at mo1
  let T : List (Addr × Str) := [(P_law, (("law" : Str) ++ ".<locals>.") ++ "<lambda>"), (P__law_placed_right, (("_law_placed_right" : Str) ++ ".<locals>.") ++ "<lambda>")]
  let cs : List (Addr × Addr) := [(c_law, P_law), (c__law_placed_right, P__law_placed_right)]
  have hT2_law : ∀ p ∈ T, p.1 = P_law → p.2 = (("law" : Str) ++ ".<locals>.") ++ "<lambda>" := fun p hp e => by
    have hp : p ∈ ([(P_law, (("law" : Str) ++ ".<locals>.") ++ "<lambda>"), (P__law_placed_right, (("_law_placed_right" : Str) ++ ".<locals>.") ++ "<lambda>")] : List (Addr × Str)) := hp
    rcases hp with _ | ⟨_, hp⟩
    · rfl
    rcases hp with _ | ⟨_, hp⟩
    · exact absurd e (by first | exact n__law_placed_right_law | exact n_law__law_placed_right.symm)
    cases hp
  have hT2__law_placed_right : ∀ p ∈ T, p.1 = P__law_placed_right → p.2 = (("_law_placed_right" : Str) ++ ".<locals>.") ++ "<lambda>" := fun p hp e => by
    have hp : p ∈ ([(P_law, (("law" : Str) ++ ".<locals>.") ++ "<lambda>"), (P__law_placed_right, (("_law_placed_right" : Str) ++ ".<locals>.") ++ "<lambda>")] : List (Addr × Str)) := hp
    rcases hp with _ | ⟨_, hp⟩
    · exact absurd e (by first | exact n_law__law_placed_right | exact n__law_placed_right_law.symm)
    rcases hp with _ | ⟨_, hp⟩
    · rfl
    cases hp
  refine ⟨fd27, cs, spLaw K T, fun p hp => ?_, fun p hp => ?_, fun p hp => ?_, fun s u => ?_, fun H a ns hl _ hT hS => ⟨a, ns, rfl, hS, hl, fun p hp => ?_, fun _ => rfl⟩, fun base _ _ TB => ?_⟩
  · have hp : p ∈ ([(c_law, P_law), (c__law_placed_right, P__law_placed_right)] : List (Addr × Addr)) := hp
    rcases hp with _ | ⟨_, hp⟩
    · exact t_law.obj
    rcases hp with _ | ⟨_, hp⟩
    · exact t__law_placed_right.obj
    · cases hp
  · have hp : p ∈ ([(c_law, P_law), (c__law_placed_right, P__law_placed_right)] : List (Addr × Addr)) := hp
    rcases hp with _ | ⟨_, hp⟩
    · exact t_law.no
    rcases hp with _ | ⟨_, hp⟩
    · exact t__law_placed_right.no
    · cases hp
  · have hp : p ∈ ([(c_law, P_law), (c__law_placed_right, P__law_placed_right)] : List (Addr × Addr)) := hp
    rcases hp with _ | ⟨_, hp⟩
    · exact t_law.code
    rcases hp with _ | ⟨_, hp⟩
    · exact t__law_placed_right.code
    · cases hp
  · obtain ⟨oc, od, kV, doc, pm, an, cdv, ct, osl, e, lk, hcd⟩ := F_law.ex
    subst e
    exact .of_eq rfl
  · have hp : p ∈ ([(P_law, (("law" : Str) ++ ".<locals>.") ++ "<lambda>"), (P__law_placed_right, (("_law_placed_right" : Str) ++ ".<locals>.") ++ "<lambda>")] : List (Addr × Str)) := hp
    rcases hp with _ | ⟨_, hp⟩
    · exact LamX.TabS.nil (hT (c_law, P_law) (by simp [cs]))
    rcases hp with _ | ⟨_, hp⟩
    · exact LamX.TabS.nil (hT (c__law_placed_right, P__law_placed_right) (by simp [cs]))
    · cases hp
  · have ER : Er K mg (ga K "BadRing") (ga K "BadWay") := ⟨E1.gC, E0.gC, E1.xf, E0.xf, E1.no _ (by decide +kernel), E0.no _ (by decide +kernel), m_BadRing_BadRing, m_BadWay_BadRing, m_BadWay_BadWay⟩
    have C_is_whole := cal_of (ok_is_whole (P := R.prog) (w := w) (base := base) F_is_whole B) F_is_whole.kp b_is_whole g_is_whole
    have C_is_stone := cal_of (ok_is_stone (P := R.prog) (w := w) (base := base) F_is_stone B g_STONE) F_is_stone.kp b_is_stone g_is_stone
    have C_is_item := cal_of (ok_is_item (P := R.prog) (w := w) (base := base) F_is_item B C_is_whole) F_is_item.kp b_is_item g_is_item
    have C_held := cal_of (ok_held (P := R.prog) (w := w) (base := base) F_held B) F_held.kp b_held g_held
    have C_is_ring := cal_of (ok_is_ring (P := R.prog) (w := w) (base := base) F_is_ring B C_is_stone C_is_item C_held) F_is_ring.kp b_is_ring g_is_ring
    have C_need_ring := cal_of (ok_need_ring (P := R.prog) (w := w) (base := base) F_need_ring C_is_ring (errOk1 E1 ini1)) F_need_ring.kp b_need_ring g_need_ring
    have C_need_way := cal_of (ok_need_way (P := R.prog) (w := w) (base := base) F_need_way B g_WAYS W_WAYS (errOk1 E0 ini0)) F_need_way.kp b_need_way g_need_way
    have C_home := cal_of (ok_home (P := R.prog) (w := w) (base := base) F_home) F_home.kp b_home g_home
    have C_distance := cal_of (ok_distance (P := R.prog) (w := w) (base := base) F_distance) F_distance.kp b_distance g_distance
    have C_leans := cal_of (ok_leans (P := R.prog) (w := w) (base := base) F_leans B C_home C_distance) F_leans.kp b_leans g_leans
    have C_reaches := cal_of (ok_reaches (P := R.prog) (w := w) (base := base) F_reaches B C_leans) F_reaches.kp b_reaches g_reaches
    have C_rises := cal_of (ok_rises (P := R.prog) (w := w) (base := base) F_rises B C_leans) F_rises.kp b_rises g_rises
    have C_has_law := cal_of (ok_has_law (P := R.prog) (w := w) (base := base) F_has_law B C_is_stone C_reaches C_rises) F_has_law.kp b_has_law g_has_law
    have C_is_lawful := cal_of (ok_is_lawful (P := R.prog) (w := w) (base := base) F_is_lawful C_need_ring C_need_way C_has_law) F_is_lawful.kp b_is_lawful g_is_lawful
    have C_seat := cal_of (ok_seat (P := R.prog) (w := w) (base := base) F_seat B C_home C_distance C_leans) F_seat.kp b_seat g_seat
    have C_all_items := cal_of (ok_all_items (P := R.prog) (w := w) (base := base) F_all_items B C_need_ring C_held) F_all_items.kp b_all_items g_all_items
    have C_runs := cal_of (ok_runs (P := R.prog) (w := w) (base := base) F_runs B C_need_ring) F_runs.kp b_runs g_runs
    have C_placed := cal_of (ok_placed (P := R.prog) (w := w) (base := base) F_placed B C_is_item C_is_whole (errOk1 E1 ini1) C_need_way C_seat) F_placed.kp b_placed g_placed
    have C__law_bag := cal_of (ok__law_bag (P := R.prog) (w := w) (base := base) F__law_bag B.mg_int B.mg_list) F__law_bag.kp b__law_bag g__law_bag
    have C__law_draw := cal_of (ok__law_draw (P := R.prog) (w := w) (base := base) F__law_draw B.mg_int B.mg_len) F__law_draw.kp b__law_draw g__law_draw
    have C__law_lawful := cal_of (ok__law_lawful (P := R.prog) (w := w) (base := base) F__law_lawful B) F__law_lawful.kp b__law_lawful g__law_lawful
    have C__law_items := cal_of (ok__law_items (P := R.prog) (w := w) (base := base) F__law_items B C__law_draw) F__law_items.kp b__law_items g__law_items
    have C__law_drawn := cal_of (ok__law_drawn (P := R.prog) (w := w) (base := base) F__law_drawn B C__law_draw C__law_items) F__law_drawn.kp b__law_drawn g__law_drawn
    have C__law_runs := cal_of (ok__law_runs (P := R.prog) (w := w) (base := base) F__law_runs B) F__law_runs.kp b__law_runs g__law_runs
    have C__law_spoiled := cal_of (ok__law_spoiled (P := R.prog) (w := w) (base := base) F__law_spoiled B C__law_draw) F__law_spoiled.kp b__law_spoiled g__law_spoiled
    have C__law_placed_right := cal_of (ok__law_placed_right (P := R.prog) (w := w) (base := base) F__law_placed_right hc__law_placed_right B C__law_draw C__law_items C_placed C_is_ring C__law_lawful C_all_items F__law_refused b__law_refused g__law_refused ER (TB (c__law_placed_right, P__law_placed_right) (by simp [cs])) (by simp [T]) hT2__law_placed_right) F__law_placed_right.kp b__law_placed_right g__law_placed_right
    exact ok_law F_law hc_law B C__law_bag C__law_draw C__law_drawn C_is_ring C_all_items C_is_lawful C__law_lawful C_home C_distance C_runs C__law_runs C__law_spoiled C__law_placed_right F__law_refused b__law_refused g__law_refused ER (TB (c_law, P_law) (by simp [cs])) (by simp [T]) hT2_law
end K40
open PySem PySem.W PySem.Calls PyProof.Rows
theorem PySem.Challenge.cw_openrings_k40_rings_told_holds : PySem.Challenge.rw_openrings_k40_rings_told.Holds := by
  w_on; o_law
  refine HandSHeadRun.head_any (r := K40.R) (q := view K40.R.prog [35]) (H := K40.hk) (ob := K40.ob) (M := 8000) (loose := K40.names) (d := HandSHeadRun.topDef K40.R.prog 35) (kwd := []) K40.ob_eq
    (by kernel_rfl) (fun s => by kernel_rfl) K40.run (by kernel_rfl) (by kernel_rfl) (by kernel_rfl) (by rfl) (by first | assumption | decide +kernel) (by decide +kernel) ⟨rfl, rfl, rfl, rfl, rfl, by decide +kernel⟩ ?hw ?hc
  case hw => w_witness2
  case hc =>
    refine LamX.walk_ofTsE (l := K40.Lw) (n := 63) (k := 9) (x := "script") (CX := fun _ => L2.CX0) rfl (by decide) (by kernel_rfl) ⟨rfl, by decide, by decide⟩ ?F (fun _ _ _ _ _ z => z)
    intro w mg fa h Y G hmg0
    obtain ⟨K, KX, c, tf⟩ := Y
    have hmg : mg ("law" : PySem.Str) = some (.ref fa) := by
      have e : (HandSHeadRun.topDef K40.R.prog 35).name = ("law" : PySem.Str) := by kernel_rfl
      rw [← e]
      exact hmg0
    exact ⟨K, KX, K40.facts KX G hmg c tf⟩
