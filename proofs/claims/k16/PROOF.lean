import PyProof.Rows.All
import Wide.All
import OpenK.AllK
import Wide.FinOn
import HandS.ForMost
import HandS.Lambda
import HandS.ExcCtx
import HandS.HotCalls
import HandS.ExcInit
import HandS.Nested
import KE.KExcSuper
import HandS.ExcValue
import HandS.ExcIs
import HandS.ExcField
import KE.KExcIs
import PyProof.LongRange
import PyProof.FactsAll.range
import HandS.Set
import HandS.SetFor
import HandS.Strs
import PyProof.Rows.StrMeet
import HandS.More
import KE.KDictKeyed
import HandS.List
import HandS.Dict
import KE.KDictDisplayH
import HandS.SortInts
import HandS.SortRule
import HandS.ForExc
import HandS.Wide
import HandS.TupAny
import HandS.TupMul
import HandS.IsInst
import HandS.Conv
import HandS.Zip
import HandS.Style
import HandS.Flow
import HandS.RaiseMore
import HandS.Defaults
import HandS.HeadWalk
import HandS.HeadHook4
import KE.GoesZip
import KE.GoesMore
import HandS.Head0
import HandS.Head1
import HandS.Head2
import HandS.Words
import KE.KStateDown
import Lean
import PySem.Challenge.RW_foldedstrip_k16_known_strips_by_hand
set_option Elab.async false
section
set_option Elab.async false
set_option linter.all false
set_option maxRecDepth 100000
set_option maxHeartbeats 2000000
set_option autoImplicit false
namespace DL
open PySem PySem.Spec PyProof.Rows L2 LamX
def lamCx (X : Cx) (A : Around) (outer : List Env) (s : Shared) (H : Hp) (E : XK) (scope : Scope) (f c' : Addr) : Cx :=
  (LamX.lamCx X A outer s H E scope f c').tr [] (fun e s' => wpAny (model X.prog X.w) (A.deeper (lamEnv X scope s.heap.objs.size f c')) (leaving (lamEnv X scope s.heap.objs.size f c') e) (fun _ s'' => L2N.CX X.prog X.w outer H s E e s'') (fun e' s'' => L2N.CX X.prog X.w outer H s E e' s'') s')
theorem lamCx_takes {X : Cx} {A : Around} {outer : List Env} {s : Shared} {H : Hp} {E : XK} {scope : Scope} {f c' : Addr} : L2N.Takes (lamCx X A outer s H E scope f c') (fun cls d _ H => E cls d H) :=
  L2N.takes_of (X := lamCx X A outer s H E scope f c') rfl rfl rfl rfl
theorem takes0 {X : Cx} : L2N.Takes X (fun _ _ _ _ => False) := fun _ _ ⟨_, _, _, _, _, _, _, _, _, _, _, _, _, _, _, _, z⟩ => z.elim
section
variable {X : Cx} {pins : List (Addr × Obj)} {σ : L2.St} {H HZ : Hp} {s s1 : Shared}
theorem pe_act {CXg : CXT} {Eg : XK} {Ng : List Str} {qg : Str} {sg : Scope} {g f c' : Addr} {cdg pm ctv : Value} {params : Arguments} {body : Expr} {scope : Scope} {k i : Nat} {a : Str} {pn : List (Addr × Obj)} {xe : Value → Shared → Prop} {W : WX} {E : XK} {tb : TE} {p1 p2 : Pos}
    (I : Inv X pins σ H s) (L : LamS X.env.scope scope) (hf : s.heap.get? f = some (PySem.W.kla_obj "<lambda>" (X.env.qual ++ "<lambda>") params body scope (cloFrom X.env.cells scope.names []) pm c' ctv)) (hfn : H f = none) (hfr : f ∉ frs X.stack)
    (hbind : bindArgs (PySem.W.kla_fn "<lambda>" (X.env.qual ++ "<lambda>") params body scope (cloFrom X.env.cells scope.names []) pm (.ref c') ctv) ⟨[], []⟩ = pure [])
    (tk : L2N.Takes ((cxOf CXg X.prog X.w X.K X.mg X.base Ng qg sg g cdg X.A X.stack s H Eg).tr pn xe) W) (hW : ∀ cls d σ' H', E cls d H' → W cls d σ' H') (hr : Room (k + 1) (X.A.deeper (envOfC qg sg s.heap.objs.size g cdg)))
    (hbody : ∀ (A : Around) (outer : List Env) (s : Shared) (H : Hp), Room k (A.deeper (lamEnv X scope s.heap.objs.size f c')) → PE (lamCx X A outer s H E scope f c') body tb)
    (hN : Ng[i]? = some a) (hv : Vis sg a) (hd : (a == ("__debug__" : Str)) = false := by decide) (hcd : (a == ("__classdict__" : Str)) = false := by decide) :
    PE ((cxOf CXg X.prog X.w X.K X.mg X.base Ng qg sg g cdg X.A X.stack s H Eg).tr pn xe) (.Call (.Name a p1) [] [] p2)
      (fun σZ HZ Q => σZ[i]? = some (some (.ref f)) ∧ HZ c' = some (CodeO c' (X.env.qual ++ "<lambda>")) ∧ tb σ HZ Q) := by
  refine ⟨fun pinsZ sZ σZ HZ Q IZ h => ?_⟩
  obtain ⟨hs, hc, ht⟩ := h
  refine wpAny_Call_Name_kw (thn ((pe_var (pos := p1) (i := i) hN hv hd hcd).run pinsZ sZ σZ HZ (fun v H1 => v = .ref f ∧ H1 = HZ) IZ ⟨.ref f, hs, rfl, rfl⟩) fun u s1 ⟨v, H1, I1, r1, q1⟩ => ?_)
  obtain ⟨ev, eH⟩ := q1
  subst ev
  rw [eH] at I1
  obtain rfl : u = Value.ref f := r1
  have of1 : s1.heap.get? f = some (PySem.W.kla_obj "<lambda>" (X.env.qual ++ "<lambda>") params body scope (cloFrom X.env.cells scope.names []) pm c' ctv) := I1.base.keep f _ hf hfn hfr (fun z => nomatch (show f ∈ ([] : List Addr) from z))
  refine PySem.W.callWith_F0 ⟨_, _, _, _, of1⟩ ?_
  have un : Un (frs X.stack) [] H HZ s.heap s1.heap := I1.base
  obtain ⟨⟨oc, vs, t, hoc, hdc, hvc⟩, _, _⟩ := I1.hok c' _ hc
  have rc : codeAny (model X.prog X.w) (X.A.deeper (envOfC qg sg s.heap.objs.size g cdg)) (.call (.ref f) ⟨[], []⟩) (CR (L2N.CX X.prog X.w) (envOfC qg sg s.heap.objs.size g cdg :: X.stack) X.prog X.w HZ s1 Q E) s1 := by
    refine PySem.W.kla_callFunE hr.depth of1 rfl L.co L.gen rfl ⟨c', oc, vs, t, rfl, hoc, hdc, hvc⟩ ?_
    rw [hbind]
    refine wpAny_pure (wpAny_newFunctionEnv (fun y hy => (L.own y hy).2) (fun y hy => absurd hy (by simp)) (fun h₁ hns hsb => ⟨I1.nolimit.fresh _ hsb, ?_⟩) L.kind)
    show codeAny _ _ (.expr body (lamEnv X scope s1.heap.objs.size f c')) _ _
    have kp : ∀ b o, s1.heap.get? b = some o → h₁.get? b = some o := fun b o e => hsb.extBut b o (Nat.ne_of_lt (Heap.lt_size e)) (Heap.get?_push_of_some _ e)
    have J0 : Inv (LamX.lamCx X (X.A.deeper (envOfC qg sg s.heap.objs.size g cdg)) (envOfC qg sg s.heap.objs.size g cdg :: X.stack) s1 HZ E scope f c') [] σ HZ { s1 with heap := h₁, toks := s1.toks + ([] : List (Str × Value)).length } :=
      lam_start2 I L I1.env0 hr.hd un hns kp
    have J : Inv (lamCx X (X.A.deeper (envOfC qg sg s.heap.objs.size g cdg)) (envOfC qg sg s.heap.objs.size g cdg :: X.stack) s1 HZ E scope f c') [] σ HZ { s1 with heap := h₁, toks := s1.toks + ([] : List (Str × Value)).length } := J0.toTry _
    refine PySem.W.kla_codeExpr (wpAny_mono ((hbody _ _ s1 HZ (hr.deeper _)).run [] _ _ HZ Q J ht) (fun v s' hq => ?_) fun e s' hq => hq)
    obtain ⟨w', H', J', rv, q⟩ := hq
    exact ⟨w', H', J'.os, J'.bare, J'.base, J'.hok, rv, q⟩
  have hx : Passes (L2N.CX X.prog X.w) ((cxOf CXg X.prog X.w X.K X.mg X.base Ng qg sg g cdg X.A X.stack s H Eg).tr pn xe) E := L2N.passes_call tk hW
  refine wpAny_call (codeAny_mono rc fun r s' hq => ?_)
  cases r with
  | error e => exact hx pinsZ σZ HZ s1 e s' I1 hq
  | ok fl =>
    cases fl with
    | ret u => exact I1.after hq
    | next => exact False.elim hq
    | brk => exact False.elim hq
    | cont => exact False.elim hq
end
/-- the def that calls what it got: a calls it; TT: what it makes of the lambda's reading -/
def GivesTo (X : Cx) (Ng : List Str) (x : Str) (sg : Scope) (g : Addr) (cdg : Value) (bg : List Stmt) (a : Str) (q : Str) (TT : (XK → Hp → VK → Prop) → Hp → VK → Prop) : Prop :=
  ∀ (f c' : Addr) (s : Shared) (H : Hp) (Q : VK) (tl : XK → Hp → VK → Prop), Room 1 (X.A.deeper (envOfC x sg s.heap.objs.size g cdg)) →
    (∀ (W : WX) (pn : List (Addr × Obj)) (xe : Value → Shared → Prop) (E : XK) (p1 p2 : Pos), L2N.Takes ((cxOf C8.CX0 X.prog X.w X.K X.mg X.base Ng x sg g cdg X.A X.stack s H C8.E0).tr pn xe) W → (∀ cls d σ' H', E cls d H' → W cls d σ' H') →
      PE ((cxOf C8.CX0 X.prog X.w X.K X.mg X.base Ng x sg g cdg X.A X.stack s H C8.E0).tr pn xe) (.Call (.Name a p1) [] [] p2) (fun σZ HZ Q => σZ[0]? = some (some (.ref f)) ∧ HZ c' = some (CodeO c' q) ∧ tl E HZ Q)) →
    H c' = some (CodeO c' q) → TT tl H Q →
    ∃ t, PSs (cxOf C8.CX0 X.prog X.w X.K X.mg X.base Ng x sg g cdg X.A X.stack s H C8.E0).nox bg t ∧ t { nx := fun _ H' => Q .non H', rt := Q } (L2.start Ng [.ref f]) H
section
variable {X : Cx}
theorem pe_lamcall {T : List (Addr × Str)} {TT : (XK → Hp → VK → Prop) → Hp → VK → Prop} {x a : Str} {g c P : Addr} {k : Nat} {pg : Arguments} {bg : List Stmt} {sg : Scope} {dV kV doc pm cdv ct oc : Value} {an od : Option Addr} {osl : Array (Option Value)} {Ng : List Str}
    {params : Arguments} {body : Expr} {scope : Scope} {t : XK → TE} {p lpos pos : Pos} (hg : Gl X x) (hm : X.mg x = some (.ref g)) (hk : PySem.W.keepIn X.K (.ref g) = true)
    (lk : X.K.lookup g = some ⟨oc, od, .func (PySem.W.fnOf x x pg bg sg dV kV doc pm an cdv ct), osl⟩) (hcg : PySem.W.codeIn X.K cdv x = true) (hb : L2.Binds X.K (PySem.W.fnOf x x pg bg sg dV kV doc pm an cdv ct) [a] []) (Sg : FnScope Ng [a] sg) (hNg : Ng[0]? = some a) (hva : Vis sg a)
    (hG : GivesTo X Ng x sg g cdv bg a (X.env.qual ++ "<lambda>") TT)
    (TB : TabB X.base X.mg c P) (hcode : X.env.code = .ref c) (hmT : (P, X.env.qual ++ "<lambda>") ∈ T) (hu : ∀ p ∈ T, p.1 = P → p.2 = X.env.qual ++ "<lambda>") (hr : Room (k + 2) X.A) (L : LamS X.env.scope scope) (hdef : defaultsOf params X.env = ([], []))
    (hbind : ∀ (q : Str) (cl : List (Str × Addr)) (pm cv ctv : Value), bindArgs (PySem.W.kla_fn "<lambda>" q params body scope cl pm cv ctv) ⟨[], []⟩ = pure [])
    (hbody : ∀ (A : Around) (outer : List Env) (s : Shared) (H : Hp) (E : XK) (f c' : Addr), Room k (A.deeper (lamEnv X scope s.heap.objs.size f c')) → PE (lamCx X A outer s H E scope f c') body (t E))
    (hdb : (x == ("__debug__" : Str)) = false := by decide) (hd : (a == ("__debug__" : Str)) = false := by decide) (hcd : (a == ("__classdict__" : Str)) = false := by decide) :
    PE X (.Call (.Name x p) [.Lambda params body scope lpos] [] pos) (tLam T TT t) := by
  refine ⟨fun pins s σ H Q I h => ?_⟩
  obtain ⟨hT, h⟩ := h
  refine wpAny_Call_Name_kw (ld_glob I hg hm ?_ hdb)
  refine PySem.W.callWith_K (h₀ := X.base) I.ok.mod.kin hk ?_ (by rfl) (by rfl)
  show wpAny _ _ (spliced ((false, eval (.Lambda params body scope lpos) X.env) :: backTo pos (starEach [] X.env))) _ _ s
  refine Calls.spliced_cons (lam_make2 I TB hcode hmT hu hT hdef (L.has I.ok) fun f c' pm' ctv H1 s' I1 eN T1 hf hfn hfr hco => ?_)
  refine Calls.spliced_nil ⟨I1.kIn, ?_⟩
  have rc : codeAny (model X.prog X.w) X.A (.call (.ref g) ⟨[.ref f], []⟩) (CR C8.CX0 X.stack X.prog X.w H1 s' Q C8.E0) s' := by
    refine run_ofS (N := Ng) (ps := [a]) (us := [.ref f]) (vs := [.ref f]) lk hcg Sg hr I1.env0 (hb s' [.ref f] I1.kIn rfl) (.cons rfl .nil) rfl fun hr' => ?_
    obtain ⟨t', ht', hq'⟩ := hG f c' s' H1 Q (fun E H' Q' => t E σ H' Q') (hr'.mono (by omega)) (fun W pn xe E p1 p2 tk hW => pe_act (i := 0) I1 L hf hfn hfr (hbind _ _ _ _ _) tk hW hr' (fun A outer s H hr2 => hbody A outer s H E f c' hr2) hNg hva hd hcd) hco (h H1 eN T1)
    exact ⟨t', ht'.nox, hq'⟩
  refine wpAny_call (codeAny_mono rc fun r s2 hq => ?_)
  cases r with
  | error e => exact (show False from hq).elim
  | ok fl =>
    cases fl with
    | ret u => exact I1.after hq
    | next => exact False.elim hq
    | brk => exact False.elim hq
    | cont => exact False.elim hq
end
end DL
end

section
set_option Elab.async false
set_option linter.all false
set_option maxRecDepth 100000
set_option maxHeartbeats 2000000
set_option autoImplicit false
namespace DX
open PySem PySem.Spec PyProof.Rows L2 NdefX
def supSt (p : Nat → Pos) (z : Str) (q : Nat) : Stmt := .Expr (.Call (.Attribute (.Call (.Name "super" (p 0)) [] [] (p 1)) "__init__" (p 2)) [.Constant (.str z) q (p 3)] [] (p 4)) (p 5)
def fldSt (p : Nat → Pos) (sf f x : Str) : Stmt := .Assign [.Attribute (.Name sf (p 6)) f (p 7)] (.Name x (p 8)) (p 9)
/-- what it promises -/
def spInit (C : Addr) (f : Str) : Sp := fun vs H Q _ => ∃ a v, vs = [.ref a, v] ∧ H a = some (exo a C none) ∧ ∀ dx, H dx = none → dx ≠ a → Q .non (upd (upd H dx (exd dx [(f, v)])) a (exo a C (some dx)))
/-- what the written part says of the class -/
structure SupC (P : Program) (K : PySem.W.Frag) (mg : Str → Option Value) (C c : Addr) (fld : Str) : Prop where
  T : OexC K C
  sup : PySem.W.ks_superIn K C C "__init__" = some (some (.builtin "ValueError.__init__"))
  sub : PySem.W.mroIn K C (.ref C) = some true
  ve : PySem.W.subIn K (.ref C) (.type "ValueError") = some true
  op : PySem.W.nsIn K cStatics "thirdparty.any" = some none
  no : PySem.W.findIn K (.ref C) fld = some none
  ms : mg "super" = none
  code : ∃ ccl cdd vs ccs file tf, K.lookup c = some (⟨ccl, cdd, .fields vs, ccs⟩ : Obj) ∧ vs[2]? = some (.str file tf) ∧ ((P.main.file : Str) == file) = true
  top : (P.main.scope.names.lookup ("super" : Str)).isSome = false
theorem call_mw {prog : Program} {w : World} {A : Around} {E : Value → Shared → Prop} {h : Heap} {g : Array GenState} {d : Drawn} {t : Nat} {os : OsState} {nm q : Str} {C N : Addr} {bs bm : List Value} {hdct : Bool} {sn : List Str} {sub : List Value} {ab : Bool} {col : Option Bool} {dd : Option Addr} {k0 k1 k2 k3 k5 : Option Value}
    {u e t0 : Addr} {rest : List Value} {Q : Value → Shared → Prop}
    (hC : h.get? C = some (excClassObj nm q C N bs bm hdct sn sub ab col dd k0 k1 k2 k3 k5 "ValueError.__new__")) (he : h.get? e = some (HandSPX.excO C t0)) (hu : h.get? u = some (PySem.W.kxs_mw "ValueError.__init__" e)) (hrest : rest.length ≤ sizeLine)
    (hq : ∀ h' t1, (∀ b o, b ≠ e → h.get? b = some o → h'.get? b = some o) → h'.get? e = some (HandSPX.excO C t1) → Q .none ⟨h', g, d, t, os⟩) :
    wpAny (model prog w) A (call (.ref u) rest) Q E ⟨h, g, d, t, os⟩ := by
  refine wpAny_call (codeAny_of_tree ?_)
  show wpAny _ A.in1 (callAny (.ref u) ⟨rest, []⟩) _ _ _
  simp only [callAny]
  refine wpAny_bind (wpAny_load hu ?_)
  simp only [PySem.W.kxs_mw, show (Value.type "method-wrapper" == Value.type "method" || Value.type "method-wrapper" == Value.type "builtin_function_or_method" || Value.type "method-wrapper" == Value.type "method-wrapper") = true by decide, if_true]
  refine PySem.W.KFB.if_so (by decide) ?_
  refine wpAny_bind (PySem.W.check_bound_init F.excBase_ValueError.toExcCallFacts hC he rfl ?_)
  refine wpAny_bind (wpAny_pure (wpAny_pure ?_))
  refine ⟨Code.quiet_builtin _ (by decide +kernel), codeAny_builtin F.excBase_ValueError.initEntry ?_⟩
  rw [Around.under_plainId F.excBase_ValueError.init.plain _]
  wp_walk
  refine hq _ h.objs.size (fun b o hb ho => ?_) ?_
  · rw [Heap.get?_update_other _ _ (Ne.symm hb)]
    exact Heap.get?_push_of_some _ ho
  · rw [Heap.get?_update_self _ (Heap.get?_push_of_some _ he) rfl]
    rfl
theorem mcall {prog : Program} {w : World} {A : Around} {E : Value → Shared → Prop} {cd : Code} {s : Shared} {env : PySem.Env} {o : Expr} {name : Str} {apos pos : Pos} {args : List Expr} {Q : Value → Shared → Prop} (hline : (apos.endLine == pos.line) = true)
    (hfew : methodCallForm (args.length + ([] : List Keyword).length) (backTo pos (starEach args env)) (backToKw pos (keywordEach [] env)) = true)
    (h : PySem.wpAt (model prog w) A cd (attributeBase o name env (eval o env)) (fun ov s₁ => wpAny (model prog w) A (getMethod ov name (do return (← importBound o env).getD true)) (fun fx s₂ => wpAny (model prog w) A (callWith pos fx.1 fx.2 (backTo pos (starEach args env)) []) Q E s₂) E s₁) E s) :
    PySem.wpAt (model prog w) A cd (eval (.Call (.Attribute o name apos) args [] pos) env) Q E s := by
  rw [arm_eval_Call]
  refine PySem.wpAt_bind (ks_wpAt_mono h (fun ov s₁ h₁ => PySem.wpAt_of_wpAny (wpAny_bind (wpAny_standAt ?_))) fun _ _ x => x)
  have hpos : methodCallPos true o env apos pos = pure pos := by unfold methodCallPos; simp [hline]
  unfold methodCall
  rw [hfew]
  refine wpAny_bind (wpAny_holding (wpAny_mono h₁ (fun fx s₂ h₂ => ?_) fun _ _ x => x))
  exact wpAny_bind (wpAny_of_eq hpos h₂)
section
variable {CX : CXT} {P : Program} {w : World} {K : PySem.W.Frag} {mg : Str → Option Value} {base : Heap} {k : Nat} {f C c cc : Addr} {name qual sf fld x z : Str} {q : Nat} {p : Nat → Pos} {params : Arguments} {scope : Scope} {dV kV doc pm ct oc ccl : Value} {an od cdd : Option Addr} {osl ccs : Array (Option Value)}
theorem fn_init (lk : K.lookup f = some ⟨oc, od, .func (PySem.W.fnX name qual params [supSt p z q, fldSt p sf fld x] scope [("__class__", cc)] dV kV doc pm an (.ref c) ct), osl⟩)
    (hcd : PySem.W.codeIn K (.ref c) qual = true) (S : NScope [sf, x, "__class__"] [sf, x] ["__class__"] scope) (hpar : (params.posonlyargs ++ params.args).head?.map (·.arg) = some sf)
    (hcell : K.lookup cc = some ⟨ccl, cdd, .cell (some (.ref C)), ccs⟩) (s : SupC P K mg C c fld) (hks : scope.names.lookup ("super" : Str) = some .globalImplicit)
    (hl : ((p 2).endLine == (p 4).line) = true) (hd : (sf == ("__debug__" : Str)) = false ∧ (sf == ("__classdict__" : Str)) = false ∧ (x == ("__debug__" : Str)) = false ∧ (x == ("__classdict__" : Str)) = false) :
    FnOk P w K mg base CX (k + 1) f (PySem.W.fnX name qual params [supSt p z q, fldSt p sf fld x] scope [("__class__", cc)] dV kV doc pm an (.ref c) ct) [sf, x] (spInit C fld) := by
  let F : NF := ⟨name, qual, params, [supSt p z q, fldSt p sf fld x], scope, [("__class__", cc)], c⟩
  have S : NScope [sf, x, "__class__"] [sf, x] ["__class__"] F.scope := S
  refine ⟨fun vs H Q E ⟨a, v, h, _⟩ => by rw [h]; rfl, fun A outer s0 H args us vs Q E hr e0 hb r hsp => ?_⟩
  obtain ⟨a, v, rfl, ha, hq⟩ := hsp
  have KX : K.In s0.heap := e0.mod.kin.keeps fun b o e => (e0.bs b o e).1
  have lim : s0.heap.NoLimit := e0.mod.nolimit.keeps fun b o e => (e0.bs b o e).1
  have Hc : H cc = none := (e0.bs cc _ (e0.mod.kin _ _ hcell)).2
  have look : ∀ {y : Str} {c1 : Addr}, F.cl.lookup y = some c1 → y = "__class__" ∧ c1 = cc := fun {y c1} h => by
    have h : ([(("__class__" : Str), cc)] : List (Str × Addr)).lookup y = some c1 := h
    by_cases e : y = "__class__"
    · subst e
      simp [List.lookup] at h
      exact ⟨rfl, h.symm⟩
    · have : (y == ("__class__" : Str)) = false := beq_eq_false_iff_ne.mpr e
      simp [List.lookup, this] at h
  have Ce : CellsAt F.cl ["__class__"] [some (.ref C)] s0.heap H := ⟨rfl, fun y c1 h => by
      obtain ⟨_, rfl⟩ := look h
      exact ⟨Hc, _, _, KX _ _ hcell, rfl⟩, fun y1 y2 c1 h1 h2 => (look h1).1.trans (look h2).1.symm, fun i y h => by
      have : i = 0 ∧ y = "__class__" := by
        cases i with
        | zero => exact ⟨rfl, (Option.some.inj h).symm⟩
        | succ i => cases i <;> cases h
      obtain ⟨rfl, rfl⟩ := this
      exact ⟨cc, by simp [F, List.lookup], fun v1 h1 => ⟨.ref C, by
        have := Option.some.inj (Option.some.inj h1)
        subst this
        rfl, _, KX _ _ hcell, rfl⟩⟩⟩
  refine codeAny_call_function hr.depth (KX _ _ lk) rfl S.co S.gen rfl (PySem.W.codeRec_of KX hcd) (hb _ _ _ _ ?_)
  refine wpAny_newFunctionEnv S.nocell (fun ⟨n, _⟩ hy => S.par n (List.of_mem_zip hy).1) (fun h₁ hns hsb => ⟨lim.fresh _ hsb, ?_⟩) S.kind
  show codeAny _ _ (.func F.body (envF F f s0.heap.objs.size)) _ _
  have kp : ∀ b o, s0.heap.get? b = some o → h₁.get? b = some o := fun b o e => hsb.extBut b o (Nat.ne_of_lt (Heap.lt_size e)) (Heap.get?_push_of_some _ e)
  have I : Inv (ncx CX P w K mg base [sf, x, "__class__"] F f A outer s0 H E) [] (startF [sf, x, "__class__"] [.ref a, v] [some (.ref C)]) H { s0 with heap := h₁, toks := s0.toks + (([sf, x] : List Str).zip us).length } := inv_startN S hr.hd e0 rfl r Ce hns kp
  refine ks_codeAny_funcAt ?_
  obtain ⟨ar, har, harg⟩ : ∃ ar, (params.posonlyargs ++ params.args).head? = some ar ∧ ar.arg = sf := by
    cases e : (params.posonlyargs ++ params.args).head? with
    | none =>
      rw [e] at hpar
      cases hpar
    | some ar =>
      rw [e] at hpar
      exact ⟨ar, rfl, Option.some.inj hpar⟩
  obtain ⟨cl2, cdd2, vs2, ccs2, file, tf, hcode, hvs, hfile⟩ := s.code
  have Ie : K.In h₁ := KX.keeps kp
  show PySem.wpAt _ _ _ (execs [.Expr (.Call (.Attribute (.Call (.Name "super" (p 0)) [] [] (p 1)) "__init__" (p 2)) [.Constant (.str z) q (p 3)] [] (p 4)) (p 5), fldSt p sf fld x] (envF F f s0.heap.objs.size)) _ _ _
  have hin : interactive (envF F f s0.heap.objs.size) = false := by
    unfold interactive
    rw [show (envF F f s0.heap.objs.size).scope.kind = .function from S.kind]
    rfl
  refine PySem.ks_wpAt_execs_cons (ks_wpAt_Expr_any ?_ hin rfl)
  refine mcall hl (by rfl) ?_
  refine ks_wpAt_super_base (f := f) (cc := c) hks (S.frk _ (by simp)) (by decide) rfl (Ie _ _ lk) rfl har rfl (Ie _ _ hcode) rfl hvs hfile s.top ?_
  obtain ⟨mb, b1, b2⟩ := e0.mod.blt
  refine PySem.W.ks_loadName_global S.kind hks (Calls.loadGlobal_builtin (e0.mod.glob.keeps I.bk) s.ms (b1.keeps I.bk) ((b2 _ (by decide)).trans (show bootBuiltins "super" = some (.type "super") by with_unfolding_all rfl)) ⟨rfl, ?_⟩)
  refine wpAny_loadName_free S.kind (S.frk _ (by simp)) rfl ⟨_, Ie _ _ hcell, rfl⟩ ?_
  obtain ⟨nm, qn, N, bs, bm, sn, sub, ab, col, dd, k0, k1, k2, k3, k5, hC, hbm⟩ := s.T.cls
  have hcl : PySem.W.clsIn K C = some { name := nm, bases := bs, mro := .ref C :: bm, ns := N, qualname := qn, hasDict := true, slotNames := sn, subclasses := sub, abstract := ab, collection := col, hasDel := false } := by unfold PySem.W.clsIn; rw [hC] <;> rfl
  have hsup := s.sup
  unfold PySem.W.ks_superIn at hsup
  rw [hcl] at hsup
  obtain ⟨t1, ho⟩ := exo_at I.hok ha
  obtain ⟨u2, rv, rfl⟩ : ∃ u2, L2.RelV v u2 ∧ us = [.ref a, u2] := by
    cases r with
    | cons ra r2 =>
      cases r2 with
      | cons rv r3 =>
        cases r3
        cases ra
        exact ⟨_, rv, rfl⟩
  have nd : ([sf, x] : List Str).Nodup := by
    have := S.nd
    simp at this ⊢
    exact this.1.1
  rw [harg]
  refine wpAny_loadName_local S.kind (S.par _ (by simp)) hns (v := .ref a) (zip_look (i := 0) nd rfl rfl) ?_
  refine ks_wpAny_isType_cls (Ie _ _ hC) rfl ⟨rfl, ?_⟩
  refine ks_wpAny_call_super (Ie _ _ hC) rfl ho rfl (fun c e => nomatch e) (PySem.W.looks_mroIn Ie s.sub) (fun h2 e2 kp2 => ?_)
  have Ie2 : K.In h2 := Ie.keeps kp2
  have J2 : PySem.W.InstAt h2 a { cls := .ref C, dict := none, data := .fields #[.ref t1, .none, .none, .none, .bool false, .none] } C none := ⟨kp2 _ _ ho, rfl, rfl, trivial⟩
  refine PySem.W.kxs_getMethod PySem.W.kxs_ValueError e2 (PySem.W.looks_opaque Ie2 s.op) (l₀ := .ref C :: bm) (fun A Q E s k q => wpAny_bind ((PySem.W.looks_clsIn Ie2 hcl) A _ E s k (wpAny_pure q))) rfl Ie2 hsup (J2.type.andThen (PySem.W.looks_subIn Ie2 s.ve)) (PySem.W.ks_ne Ie2 J2 hcl) (by decide) ?_
  show wpAny _ _ (callWith (p 4) _ [] (backTo (p 4) ((false, eval (.Constant (.str z) q (p 3)) (envF F f s0.heap.objs.size)) :: starEach [] (envF F f s0.heap.objs.size))) []) _ _ _
  have hu : (h2.push (PySem.W.kxs_mw "ValueError.__init__" a)).get? h2.objs.size = some (PySem.W.kxs_mw "ValueError.__init__" a) := Heap.get?_push_at rfl rfl
  have kp3 : ∀ b o, h₁.get? b = some o → (h2.push (PySem.W.kxs_mw "ValueError.__init__" a)).get? b = some o := fun b o e => Heap.get?_push_of_some _ (kp2 b o e)
  refine PySem.W.kxs_callWith (i := "ValueError.__init__") (x := a) rfl (PySem.Calls.evalArgs_plain ?_)
  refine Calls.spliced_cons (Calls.Constant_str (pos := p 3) (k := q) ?_)
  refine Calls.spliced_nil ⟨hu, ?_⟩
  refine call_mw (kp3 _ _ (Ie _ _ hC)) (kp3 _ _ ho) hu (by show 1 ≤ sizeLine; rw [sizeLine_eq]; decide) (fun h4 t4 kp4 hx4 => ?_)
  have I3 := I.kept (t' := 0) kp3
  have J := I3.write (t' := s0.toks) (x := a) (e := a) (o := exo a C none) (by rw [ha]; exact True.intro) (.inl rfl) kp4 ⟨_, hx4⟩ (exo_ok hx4)
  have eu : upd H a (exo a C none) = H := by
    funext b
    by_cases hb : b = a
    · rw [hb, upd_same, ha]
    · rw [upd_ne hb]
  rw [eu] at J
  have ht : PSs (ncx CX P w K mg base [sf, x, "__class__"] F f A outer s0 H E) [fldSt p sf fld x] _ := pss_one (ps_ost (X := ncx CX P w K mg base [sf, x, "__class__"] F f A outer s0 H E) (pe_var (i := 0) rfl (.inl (S.par _ (by simp))) hd.1 hd.2.1) (pe_var (i := 1) rfl (.inl (S.par _ (by simp))) hd.2.2.1 hd.2.2.2) rfl)
  refine PySem.wpAt_of_wpAny (wpAny_mono (ht.run [] _ _ H { nx := fun _ H' => Q .non H', rt := Q } (J.tok _) ?_) (fun fl s' hs => ?_) fun e s' hs => hs)
  · refine ⟨v, rfl, .ref a, rfl, a, C, rfl, s.T, s.no, .inl ⟨ha, fun dx n ne => hq dx n ne⟩⟩
  · have fin : ∀ {σ' : L2.St} {H' : Hp} {v' : V} {u : Value}, L2.Inv (ncx CX P w K mg base [sf, x, "__class__"] F f A outer s0 H E) [] σ' H' s' → L2.RelV v' u → Q v' H' → CE outer P w H s0 Q u s' :=
      fun {σ' H' v' u} J rv q => ⟨v', H', J.os, J.bare, J.base, J.hok, rv, q⟩
    cases fl with
    | ret u =>
      obtain ⟨v', σ', H', J, rv, q⟩ := hs
      exact fin J rv q
    | next =>
      obtain ⟨σ', H', J, q⟩ := hs
      exact fin (v' := V.non) (u := Value.none) J rfl q
    | brk =>
      obtain ⟨_, _, _, q⟩ := hs
      exact False.elim q
    | cont =>
      obtain ⟨_, _, _, q⟩ := hs
      exact False.elim q
end
end DX
end

section
set_option Elab.async false
set_option linter.all false
set_option maxRecDepth 100000
set_option maxHeartbeats 2000000
set_option autoImplicit false
namespace DX
open PySem PySem.Spec PyProof.Rows L2 NdefX
section
variable {X : Cx} {e : Expr} {es : List Expr} {ta : TA} {p pos : Pos}
def tOex (C : Addr) (sp : Sp) (ta : TA) : TE := fun σ H Q => ta σ H fun vs H1 => vs.length ≤ 1000 ∧ ∀ a, H1 a = none → sp (.ref a :: vs) (upd H1 a (exo a C none)) (fun v H2 => v = .non ∧ Q (.ref a) H2) (fun _ _ _ => False)
theorem pe_oex {CX : CXT} {x : Str} {C fI : Addr} {k : Nat} {fd : FuncData} {ps : List Str} {sp : Sp} (T : OexC X.K C) (iC : PySem.W.findIn X.K (.ref C) "__init__" = some (some (.ref fI))) (tI : PySem.W.typeIn X.K (.ref fI) = some (.type "function"))
    (F1 : FnOk X.prog X.w X.K X.mg X.base CX k fI fd ps sp) (hr : Room (k + 1) X.A) (hb : Binds X.K fd ps []) (hx : Passes CX X (fun _ _ _ => False)) (hg : Gl X x) (hm : X.mg x = some (.ref C)) (ha : PA X (e :: es) ta)
    (hdb : (x == ("__debug__" : Str)) = false := by decide) (he : starEach (e :: es) X.env = (false, eval e X.env) :: starEach es X.env := by rfl) (hpl : (backTo pos (starEach es X.env)).any (·.1) = false := by rfl) :
    PE X (.Call (.Name x p) (e :: es) [] pos) (tOex C sp ta) := by
  refine ⟨fun pins s σ H Q I h => ?_⟩
  obtain ⟨nm, q, N, bs, bm, sn, sub, ab, col, dd, k0, k1, k2, k3, k5, hC, hbm⟩ := T.cls
  refine wpAny_Call_Name_kw (ld_glob I hg hm ?_ hdb)
  refine PySem.W.callWith_K (h₀ := X.base) I.ok.mod.kin T.kC (thn (ha.run pos pins s σ H _ I h) fun us s1 ⟨vs, H1, I1, r1, hz, q1⟩ => ⟨I1.kIn, ?_⟩) he hpl
  show wpAny _ _ (call (.ref C) us) _ _ _
  obtain ⟨hp, g, dr, tk, os⟩ := s1
  have hsz : hp.objs.size ≤ hp.objs.size + 1 := Nat.le_succ _
  have hn : H1 (hp.objs.size + 1) = none := I1.hok.fresh hsz
  have hq := q1 (hp.objs.size + 1) hn
  have kk : ∀ b o, hp.get? b = some o → ((hp.push (PySem.W.kdv_tup us)).push (PySem.HandSPX.excO C hp.objs.size)).get? b = some o := fun b o e => Heap.get?_push_of_some _ (Heap.get?_push_of_some _ e)
  have hget : ((hp.push (PySem.W.kdv_tup us)).push (PySem.HandSPX.excO C hp.objs.size)).get? (hp.objs.size + 1) = some (PySem.HandSPX.excO C hp.objs.size) := by heap_get
  have I2 : Inv X pins σ (upd H1 (hp.objs.size + 1) (exo (hp.objs.size + 1) C none)) ⟨(hp.push (PySem.W.kdv_tup us)).push (PySem.HandSPX.excO C hp.objs.size), g, dr, tk, os⟩ :=
    I1.laid (t' := tk) (a := hp.objs.size + 1) (o := exo (hp.objs.size + 1) C none) (h' := (hp.push (PySem.W.kdv_tup us)).push (PySem.HandSPX.excO C hp.objs.size)) kk hsz (exo_ok hget)
  have r2 : Vals (V.ref (hp.objs.size + 1) :: vs) (Value.ref (hp.objs.size + 1) :: us) := .cons rfl r1
  have hl : (Value.ref (hp.objs.size + 1) :: us ++ []).length = ps.length := by
    have e := r2.length
    rw [F1.len _ _ _ _ hq] at e
    rw [List.append_nil]
    exact e.symm
  have hus : us.length ≤ sizeLine := by
    rw [← Paired.length r1, sizeLine_eq]
    omega
  refine wpAny_call (PySem.HandSPX.call_own F.excBase_ValueError (fun Y => PySem.HandSPX.refsVE_contains Y bm hbm) (I1.kIn _ _ hC) (PySem.W.looks_findIn I1.kIn iC) (fun self => PySem.W.bind_fn I1.kIn self tI) hus
    (codeAny_mono (F1.run _ X.stack _ _ ⟨Value.ref (hp.objs.size + 1) :: us, []⟩ (Value.ref (hp.objs.size + 1) :: us) _ _ (fun _ _ _ => False) (hr.make C us []) (I2.env0.make C us []) (by
      have := hb _ (Value.ref (hp.objs.size + 1) :: us) I2.kIn hl
      rw [List.append_nil] at this
      exact this) r2 hq) fun r s' hq' => ?_))
  cases r with
  | error er => exact hx pins σ _ _ er s' I2 hq'
  | ok fl =>
    cases fl with
    | ret u =>
      obtain ⟨v, H', J, rv, ev, q2⟩ := I2.after hq'
      subst ev
      exact ⟨rv, .ref (hp.objs.size + 1), H', J, rfl, q2⟩
    | next => exact False.elim hq'
    | brk => exact False.elim hq'
    | cont => exact False.elim hq'
end
end DX
end

section
set_option Elab.async false
set_option linter.all false
set_option maxRecDepth 100000
set_option maxHeartbeats 2000000
set_option autoImplicit false
namespace DX
open PySem PySem.Spec PyProof.Rows L2 NdefX
/-- at a: an exception of the class at D, held as a value; its fields -/
def ExAt (H : Hp) (a D : Addr) (fs : List (Str × V)) : Prop := (fs = [] ∧ H a = some (ExO (.ref D) a)) ∨ ∃ d, H a = some (exo a D (some d)) ∧ H d = some (exd d fs)
section
variable {X : Cx} {pins : List (Addr × Obj)} {σ : L2.St} {H : Hp} {s : Shared} {a D : Addr} {fs : List (Str × V)}
theorem ExAt.inst (I : Inv X pins σ H s) (h : ExAt H a D fs) : ∃ ox od, PySem.W.InstAt s.heap a ox D od := by
  rcases h with ⟨_, h⟩ | ⟨d, h1, h2⟩
  · obtain ⟨⟨oe, vs, ho, hz, hd, h1, _⟩, _, _⟩ := I.hok a _ h
    refine ⟨oe, none, ?_⟩
    obtain ⟨oc, od, oda, osl⟩ := oe
    obtain ⟨z1, z2⟩ := hz
    dsimp only at z1 z2 hd
    subst z1 z2 hd
    exact ⟨ho, rfl, rfl, trivial⟩
  · obtain ⟨t1, ho⟩ := exo_at I.hok h1
    obtain ⟨mA, hns, _⟩ := exd_at I.hok h2
    obtain ⟨od, _, _, hod, _⟩ := hns
    exact ⟨_, some od, ho, rfl, rfl, hod⟩
/-- isinstance(e, c) -/
def rIsV (K : PySem.W.Frag) : List V → Hp → VK → Prop := fun xs H Q => ∃ (a D : Addr) (fs : List (Str × V)) (c : V) (cv : Value) (b : Bool), xs = [.ref a, c] ∧ ExAt H a D fs ∧ ExcC K D ∧ (∀ u, RelV c u → u = cv) ∧ PySem.W.kitOne K (.ref D) cv = some b ∧ Q (.bl b) H
theorem call_isV : CallR X (.builtin "isinstance") (rIsV X.K) := by
  intro pins s σ H xs us Q I r h
  obtain ⟨a, D, fs, c, cv, b, rfl, ha, C, hcv, e, q⟩ := h
  cases r with
  | cons rx rr =>
    cases rr with
    | cons rt rr =>
      cases rr
      cases rx
      have ec := hcv _ rt
      subst ec
      obtain ⟨ox, od, J⟩ := ha.inst I
      exact PySem.W.kia_one (PySem.W.kitx_exc (by obtain ⟨cd, hc, _⟩ := PySem.W.any_some C.hd; rw [hc]; rfl) C.hg C.hk C.hs C.ha C.hn C.ht C.hm) I.kIn J e (fun z => nomatch z) fun tk => ⟨.bl b, H, I.kept (t' := tk) fun _ _ z => z, rfl, q⟩
/-- e.f -/
def tXv (K : PySem.W.Frag) (f : Str) (te : TE) : TE := fun σ H Q => te σ H fun x H1 => ∃ (a D : Addr) (d : Addr) (fs : List (Str × V)) (v : V), x = .ref a ∧ H1 a = some (exo a D (some d)) ∧ H1 d = some (exd d fs) ∧ XfC K D ∧ PySem.W.findIn K (.ref D) f = some none ∧ fs.lookup f = some v ∧ Q v H1
theorem pe_xv {e : Expr} {te : TE} {pos : Pos} {n : Str} (he : PE X e te) (hb : attributeBase e n X.env (eval e X.env) = eval e X.env) : PE X (.Attribute e n pos) (tXv X.K n te) := by
  refine ⟨fun pins s σ H Q I h => ?_⟩
  refine attr_of hb (thn (he.run pins s σ H _ I h) fun u s1 hh => ?_)
  obtain ⟨x, H1, I1, rx, a, D, d, fs, v, ex, ea, ed, T, hno, l, q⟩ := hh
  subst ex
  obtain rfl : u = Value.ref a := rx
  obtain ⟨t1, ho⟩ := exo_at I1.hok ea
  obtain ⟨mA, hns, hr⟩ := exd_at I1.hok ed
  obtain ⟨od, hod, hl⟩ := lookIn_ns hns
  obtain ⟨u, hu, ru⟩ := RelO.some_of (v := v) (o := mA n) (by rw [← l]; exact hr n)
  have J : PySem.W.InstAt s1.heap a { cls := .ref D, dict := some d, data := .fields #[.ref t1, .none, .none, .none, .bool false, .none] } D (some od) := ⟨ho, rfl, rfl, hod⟩
  exact HandSPX.exc_get I1.kIn J T.ga T.gg T.exC (PySem.W.findObj_own T.hdC hno rfl (by rw [hl, hu])) (handed_of ru) ⟨v, H1, I1.tok _, ru, q⟩
end
end DX
end

section
set_option Elab.async false
set_option linter.all false
set_option maxRecDepth 100000
set_option autoImplicit false
namespace RB
open PySem PySem.Spec PyProof.Rows L2
theorem turn_long {P : Program} {w : World} {K : PySem.W.Frag} {tg : Expr} (it : Addr) (lo : Int) (n : Nat) : Turn P w K tg (Itr lo n) [it] it (fun i h => IsLongIter h it (lo + (i : Nat) * 1) ((n : Int) - (i : Nat)) 1) where
  mem := by simp
  obj := fun i h st b hb => by
    have e : b = it := by simpa using hb
    subst e
    exact ⟨_, st, fun v z => by
      have z' : Data.fields _ = Data.cell v := z
      cases z'⟩
  keep := fun i h h' st k => k it (by simp) _ st
  item := by
    intro X hP hw hK hc i pins s σ H E I hf st hg
    subst hP hw hK
    obtain ⟨f0, f1, f2, f3, f4, f5⟩ := hf it (by simp)
    have W := Walks.longrange (prog := X.prog) (w := X.w) (I.ok.hd hc) it lo 1 n
    refine W.item i s _ _ hg st fun v h' tk hv st' kk => ?_
    obtain ⟨t, rfl⟩ := hv
    have I1 : Inv X pins σ H { s with heap := h', toks := tk } := I.turned (fun b o hb e => kk b o (by simpa using hb) e) f0 f1 f3 f4 f5
    refine ⟨_, rfl, go_of (s := { s with heap := h', toks := tk }) (n := "longrange_iterator") st' rfl rfl (by decide) ⟨.int (lo + i), H, I1, ⟨t, ?_⟩, ⟨rfl, rfl⟩, st', fun b hb => (hf b hb).1⟩⟩
    rw [Int.mul_one]
  done := by
    intro X hP hw hK hc i pins s σ H E I hf st hg
    subst hP hw hK
    obtain ⟨f0, f1, f2, f3, f4, f5⟩ := hf it (by simp)
    exact wpAny_pyNext_long_end (I.ok.hd hc) st (by have : n ≤ i := hg; omega) fun h' eb => ⟨rfl, I.turned (t' := s.toks) (fun b o hb e => eb b o hb e) f0 f1 f3 f4 f5⟩
  self := fun _ _ _ _ _ st h => wpAny_pyIter_longiter st h
section
variable {X : Cx} {tg : Expr}
theorem range_itB {pins : List (Addr × Obj)} {σ : L2.St} {H : Hp} {s : Shared} {R : It → Hp → Prop} {E : Value → Shared → Prop} {lo hi : Int} {t u v : Tok} {tk : Nat} (I : Inv X pins σ H s)
    (q : R (Itr lo (hi - lo).toNat) H) : wpAny (model X.prog X.w) X.A (pyIter (.ref s.heap.objs.size)) (PIE X pins σ tg R) E { s with heap := s.heap.push { cls := .type "range", data := .fields #[.int lo t, .int hi u, .int 1 v] }, toks := tk } := by
  have e1 : lo + ((0 : Nat) : Int) * 1 = lo := by simp
  have e2 : (((hi - lo).toNat : Nat) : Int) - ((0 : Nat) : Int) = Builtin.Range.rangeSize lo hi 1 := by rw [rangeSize_one]; split <;> omega
  have I1 : Inv X pins σ H { s with heap := s.heap.push { cls := .type "range", data := .fields #[.int lo t, .int hi u, .int 1 v] }, toks := tk } := I.kept fun b o e => Heap.get?_push_of_some _ e
  cases hs : Builtin.Range.small lo hi 1 with
  | true =>
    refine wpAny_pyIter_range (IsRange.new ..) hs ?_
    refine ⟨(s.heap.push { cls := .type "range", data := .fields #[.int lo t, .int hi u, .int 1 v] }).objs.size, [(s.heap.push { cls := .type "range", data := .fields #[.int lo t, .int hi u, .int 1 v] }).objs.size], _, _, H, rfl,
      I1.kept (t' := tk) fun b o e => Heap.get?_push_of_some _ e, turn_range _ lo (hi - lo).toNat, ?_, fun b hb => ?_, q⟩
    · show IsRangeIter _ _ (lo + ((0 : Nat) : Int) * 1) ((((hi - lo).toNat : Nat) : Int) - ((0 : Nat) : Int)) 1
      rw [e1, e2]
      exact Heap.get?_push_size _ rfl
    · have e : b = (s.heap.push { cls := .type "range", data := .fields #[.int lo t, .int hi u, .int 1 v] }).objs.size := by simpa using hb
      subst e
      exact I1.fpOk (Nat.le_refl _) (I1.hok.fresh (Nat.le_refl _))
  | false =>
    refine wpAny_pyIter_longrange (IsRange.new ..) hs ?_
    refine ⟨(s.heap.push { cls := .type "range", data := .fields #[.int lo t, .int hi u, .int 1 v] }).objs.size, [(s.heap.push { cls := .type "range", data := .fields #[.int lo t, .int hi u, .int 1 v] }).objs.size], _, _, H, rfl,
      I1.kept (t' := tk) fun b o e => Heap.get?_push_of_some _ e, turn_long _ lo (hi - lo).toNat, ?_, fun b hb => ?_, q⟩
    · show IsLongIter _ _ (lo + ((0 : Nat) : Int) * 1) ((((hi - lo).toNat : Nat) : Int) - ((0 : Nat) : Int)) 1
      rw [e1, e2]
      exact Heap.get?_push_size _ rfl
    · have e : b = (s.heap.push { cls := .type "range", data := .fields #[.int lo t, .int hi u, .int 1 v] }).objs.size := by simpa using hb
      subst e
      exact I1.fpOk (Nat.le_refl _) (I1.hok.fresh (Nat.le_refl _))
def iRngB1 (ta : TA) : TI := fun σ H R => ta σ H fun vs H1 => ∃ j : Int, vs = [.int j] ∧ R (Itr 0 j.toNat) H1
def iRngB2 (ta : TA) : TI := fun σ H R => ta σ H fun vs H1 => ∃ i j : Int, vs = [.int i, .int j] ∧ R (Itr i (j - i).toNat) H1
theorem pi_rangeB1 {a : Expr} {ta : TA} {p pos : Pos} (hg : Gl X "range") (hm : X.mg "range" = none) (ha : PA X [a] ta) (hs : starEach [a] X.env = [(false, eval a X.env)] := by rfl) : PI X tg (.Call (.Name "range" p) [a] [] pos) (iRngB1 ta) := by
  refine ⟨fun pins s σ H R I h => ?_⟩
  refine Call_ (ld_blt I hg hm boot_range (PyProof.Rows.callWith_type1 (thn (ha.run pos pins s σ H _ I h) fun us s1 ⟨vs, H1, I1, r1, q1⟩ => ?_) hs rfl))
  obtain ⟨j, e, q⟩ := q1
  subst e
  cases r1 with
  | cons r rr =>
    cases rr
    obtain ⟨t, rfl⟩ := r
    exact call_range_1 (range_itB (lo := 0) (hi := j) (R := R) I1 (by rw [Int.sub_zero]; exact q))
theorem pi_rangeB2 {a b : Expr} {ta : TA} {p pos : Pos} (hg : Gl X "range") (hm : X.mg "range" = none) (ha : PA X [a, b] ta) (hs : starEach [a, b] X.env = [(false, eval a X.env), (false, eval b X.env)] := by rfl) (hs2 : starEach [b] X.env = [(false, eval b X.env)] := by rfl) :
    PI X tg (.Call (.Name "range" p) [a, b] [] pos) (iRngB2 ta) := by
  refine ⟨fun pins s σ H R I h => ?_⟩
  refine Call_ (ld_blt I hg hm boot_range (PyProof.Rows.callWith_type1 (thn (ha.run pos pins s σ H _ I h) fun us s1 ⟨vs, H1, I1, r1, q1⟩ => ?_) (by rw [hs, hs2]) (by rw [hs2]; rfl)))
  obtain ⟨i, j, e, q⟩ := q1
  subst e
  cases r1 with
  | cons r rr =>
    cases rr with
    | cons r' rr =>
      cases rr
      obtain ⟨t, rfl⟩ := r
      obtain ⟨t', rfl⟩ := r'
      exact call_range_2 (range_itB I1 q)
end
end RB
end

section
set_option Elab.async false
set_option linter.all false
set_option maxRecDepth 100000
set_option maxHeartbeats 4000000
set_option autoImplicit false
namespace SX
open PySem PySem.Spec PyProof.Rows L2
def ltS (x y : Str) : Bool := ltCps x.cps.toList y.cps.toList
theorem ltS_iff {x y : Str} : ltS x y = true ↔ x.cps.toList < y.cps.toList := by
  unfold ltS
  rw [ltCps_eq, decide_eq_true_eq]
theorem ltS_irr (x : Str) : ltS x x = false := by
  cases h : ltS x x with
  | false => rfl
  | true => exact absurd (ltS_iff.mp h) (List.lt_irrefl _)
theorem ltS_trans {x y z : Str} (h1 : ltS x y = true) (h2 : ltS y z = true) : ltS x z = true := ltS_iff.mpr (List.lt_trans (ltS_iff.mp h1) (ltS_iff.mp h2))
theorem cps_eq {x y : Str} (h : x.cps.toList = y.cps.toList) : x = y := by
  cases x; cases y
  congr 1
  exact Array.toList_inj.mp h
theorem ltS_or {x y : Str} (h : ltS x y = false) : ltS y x = true ∨ x = y := by
  by_cases e : x = y
  · exact .inr e
  · left
    rw [ltS_iff]
    have h1 : ¬ x.cps.toList < y.cps.toList := fun z => by rw [ltS_iff.mpr z] at h; cases h
    have h2 : y.cps.toList ≤ x.cps.toList := List.not_lt.mp h1
    rcases List.le_iff_lt_or_eq.mp h2 with h3 | h3
    · exact h3
    · exact absurd (cps_eq h3).symm e
/-- put into a rising list -/
def putS (z : Str) : List Str → List Str
  | [] => [z]
  | y :: r => if ltS z y then z :: y :: r else if ltS y z then y :: putS z r else y :: r
def srtS (zs : List Str) : List Str := zs.foldr putS []
theorem mem_putS {z x : Str} : ∀ {l : List Str}, x ∈ putS z l ↔ x = z ∨ x ∈ l
  | [] => by simp [putS]
  | y :: r => by
    unfold putS
    split
    · simp
    · rename_i h1
      split
      · rw [List.mem_cons, mem_putS (l := r), List.mem_cons]
        constructor
        · rintro (h | h | h)
          · exact .inr (.inl h)
          · exact .inl h
          · exact .inr (.inr h)
        · rintro (h | h | h)
          · exact .inr (.inl h)
          · exact .inl h
          · exact .inr (.inr h)
      · rename_i h2
        have e : z = y := by
          rcases ltS_or (x := z) (y := y) (by simpa using h1) with h | h
          · exact absurd h h2
          · exact h
        rw [e]
        simp
theorem mem_srtS {x : Str} : ∀ {l : List Str}, x ∈ srtS l ↔ x ∈ l
  | [] => by simp [srtS]
  | y :: r => by
    show x ∈ putS y (srtS r) ↔ _
    rw [mem_putS, mem_srtS (l := r), List.mem_cons]
theorem putS_up {z : Str} : ∀ {l : List Str}, l.Pairwise (fun a b => ltS a b = true) → (putS z l).Pairwise (fun a b => ltS a b = true)
  | [], _ => by simp [putS]
  | y :: r, h => by
    obtain ⟨h1, h2⟩ := List.pairwise_cons.mp h
    unfold putS
    split
    · rename_i q
      refine List.pairwise_cons.mpr ⟨fun x hx => ?_, h⟩
      rcases List.mem_cons.mp hx with rfl | hx
      · exact q
      · exact ltS_trans q (h1 x hx)
    · split
      · rename_i q
        refine List.pairwise_cons.mpr ⟨fun x hx => ?_, putS_up h2⟩
        rcases mem_putS.mp hx with rfl | hx
        · exact q
        · exact h1 x hx
      · exact h
theorem srtS_up : ∀ l : List Str, (srtS l).Pairwise (fun a b => ltS a b = true)
  | [] => List.Pairwise.nil
  | y :: r => putS_up (srtS_up r)
theorem up_ext : ∀ {l m : List Str}, l.Pairwise (fun a b => ltS a b = true) → m.Pairwise (fun a b => ltS a b = true) → (∀ x, x ∈ l ↔ x ∈ m) → l = m
  | [], [], _, _, _ => rfl
  | [], y :: m, _, _, h => absurd ((h y).mpr List.mem_cons_self) (by simp)
  | x :: l, [], _, _, h => absurd ((h x).mp List.mem_cons_self) (by simp)
  | x :: l, y :: m, hl, hm, h => by
    obtain ⟨a1, a2⟩ := List.pairwise_cons.mp hl
    obtain ⟨b1, b2⟩ := List.pairwise_cons.mp hm
    have e : x = y := by
      rcases List.mem_cons.mp ((h x).mp List.mem_cons_self) with e | hx
      · exact e
      · rcases List.mem_cons.mp ((h y).mpr List.mem_cons_self) with e | hy
        · exact e.symm
        · have c := ltS_trans (a1 y hy) (b1 x hx)
          rw [ltS_irr] at c
          cases c
    subst e
    congr 1
    refine up_ext a2 b2 fun z => ?_
    constructor
    · intro hz
      rcases List.mem_cons.mp ((h z).mp (List.mem_cons_of_mem _ hz)) with e | q
      · have c := a1 z hz
        rw [e, ltS_irr] at c
        cases c
      · exact q
    · intro hz
      rcases List.mem_cons.mp ((h z).mpr (List.mem_cons_of_mem _ hz)) with e | q
      · have c := b1 z hz
        rw [e, ltS_irr] at c
        cases c
      · exact q
theorem up_of : ∀ {l : List Str}, sortedS l = true → l.Nodup → l.Pairwise (fun a b => ltS a b = true)
  | [], _, _ => List.Pairwise.nil
  | [x], _, _ => by simp
  | x :: y :: r, h, d => by
    have h : (!ltS y x && sortedS (y :: r)) = true := h
    rw [Bool.and_eq_true, Bool.not_eq_true'] at h
    obtain ⟨d1, d2⟩ := List.nodup_cons.mp d
    have ih := up_of h.2 d2
    have xy : ltS x y = true := by
      rcases ltS_or h.1 with q | q
      · exact q
      · exact absurd (by rw [← q]; exact List.mem_cons_self) d1
    refine List.pairwise_cons.mpr ⟨fun z hz => ?_, ih⟩
    rcases List.mem_cons.mp hz with rfl | hz
    · exact xy
    · exact ltS_trans xy ((List.pairwise_cons.mp ih).1 z hz)
theorem srtS_len (l : List Str) : (srtS l).length ≤ l.length := by
  induction l with
  | nil => exact Nat.le_refl _
  | cons y r ih =>
    have key : ∀ m : List Str, (putS y m).length ≤ m.length + 1 := by
      intro m
      induction m with
      | nil => exact Nat.le_refl _
      | cons z m ihm =>
        unfold putS
        split
        · exact Nat.le_refl _
        · split
          · simpa using ihm
          · simp
    have := key (srtS r)
    show (putS y (srtS r)).length ≤ r.length + 1
    omega
end SX
end

section
set_option Elab.async false
set_option linter.all false
set_option maxRecDepth 100000
set_option maxHeartbeats 4000000
set_option autoImplicit false
namespace SX
open PySem PySem.Spec PyProof.Rows L2
def sKey (e : Int × Value) : Str := match e.2 with
  | .str x _ => x
  | _ => Str.empty
def isS (P : Program) (w : World) (e : Int × Value) : Prop := ∃ x tk, e.2 = Value.str x tk ∧ e.1 = (PySem.strKind P w).hash x
/-- the set of texts at a; M: its members, somehow ordered -/
structure Sts (P : Program) (w : World) (h : Heap) (a : Addr) (M : List Str) (o : Obj) (es : Array (Int × Value)) (ep : Nat) (t : SetTable) : Prop where
  ob : h.get? a = some o
  exact_ : o.ExactSet
  data : o.data = .set es ep t
  good : ∀ e ∈ es.toList, isS P w e
  perm : (es.toList.map sKey).Perm M
  nd : M.Nodup
  few : es.size < scanBound
  fits : t.fits es.size = true
  ris : Ris t.place.toList
  led : w.params.followText "set-order" = true ∨ t.led = true
def StsE (P : Program) (w : World) (h : Heap) (a : Addr) (M : List Str) : Prop := ∃ o es ep t, Sts P w h a M o es ep t
section
variable {P : Program} {w : World} {h h' : Heap} {a : Addr} {M : List Str} {o : Obj} {es : Array (Int × Value)} {ep : Nat} {t : SetTable}
theorem Sts.at (R : Sts P w h a M o es ep t) (k : ∀ o, h.get? a = some o → h'.get? a = some o) : Sts P w h' a M o es ep t := { R with ob := k o R.ob }
theorem StsE.at (R : StsE P w h a M) (k : ∀ o, h.get? a = some o → h'.get? a = some o) : StsE P w h' a M := by
  obtain ⟨o, es, ep, t, r⟩ := R
  exact ⟨o, es, ep, t, r.at k⟩
theorem Sts.elems (R : Sts P w h a M o es ep t) : ElemsOf (PySem.strKind P w) es.toList := fun e he => by
  obtain ⟨x, tk, e1, e2⟩ := R.good e he
  refine ⟨⟨x, ?_, e2⟩, ?_⟩
  · rw [e1]
    exact strKind_is _ _ _ _
  · rw [e1] <;> rfl
theorem is_iff {e : Int × Value} (g : isS P w e) (x : Str) : (PySem.strKind P w).is x e.2 = true ↔ sKey e = x := by
  obtain ⟨y, tk, e1, _⟩ := g
  unfold sKey
  rw [e1]
  constructor
  · intro q
    obtain ⟨u, hu⟩ := Value.isStrOf_shape (show Value.isStrOf x (.str y tk) = true from q)
    cases hu
    rfl
  · rintro rfl
    exact strKind_is _ _ _ _
theorem Sts.size (R : Sts P w h a M o es ep t) : es.size = M.length := by
  have q := R.perm.length_eq
  rw [List.length_map, Array.length_toList] at q
  exact q
end
section
variable {P : Program} {w : World} {A : Around} {E : Value → Shared → Prop} {s : Shared} {a : Addr} {M : List Str} {o : Obj} {es : Array (Int × Value)} {ep : Nat} {t : SetTable}
/-- the new items are stored, the table laid anew where it is too full -/
theorem put_end {g : Bool → Sem Unit} (hg : ∀ (b : Bool) (s₁ : Shared) (Q' : Unit → Shared → Prop), Q' () s₁ → wpAny (model P w) A (g b) Q' E s₁)
    {es1 : Array (Int × Value)} {t2 : SetTable} (ho : s.heap.get? a = some o) (hx : o.ExactSet) (hd : o.data = .set es ep t) (R1 : ∀ h' o', h'.get? a = some o' → o'.ExactSet → o'.data = .set es1 (ep + 1) t2 → Sts P w h' a M o' es1 (ep + 1) t2) (hfew : es1.size < scanBound) {wd : Bool} {R : Option Bool → Shared → Prop}
    (hR : ∀ h', Heap.SameBut a s.heap h' → StsE P w h' a M → R (some true) { s with heap := h' }) :
    wpAny (model P w) A (do
      storeSet a es1 t2; if (!wd && t2.tooFull) = true then do (do g (relayAll t2 es1 (SetTable.grown es1.size)).2.2; storeSet a (relayAll t2 es1 (SetTable.grown es1.size)).1 (relayAll t2 es1 (SetTable.grown es1.size)).2.1; pure (some true)) else pure (some true)) R E s := by
  have o1 := store_at (es' := es1) (t' := t2) ho hd
  have r1 := R1 _ _ o1 hx rfl
  have b1 := Heap.SameBut.update s.heap a (Obj.putSet es1 t2)
  refine wpAny_bind (wpAny_storeSet_of ho hd ?_ (fits_of_scanBound hfew))
  by_cases hc : (!wd && t2.tooFull) = true
  · rw [if_pos hc]
    have p1 := relayAll_perm t2 es1 (SetTable.grown es1.size)
    have p2 := relayAll_fits t2 es1 (SetTable.grown es1.size)
    have p3 := relayAll_ris t2 es1 (SetTable.grown es1.size)
    have p4 := relayAll_led t2 es1 (SetTable.grown es1.size)
    revert p1 p2 p3 p4
    generalize relayAll t2 es1 (SetTable.grown es1.size) = Z
    obtain ⟨es2, t3, gv⟩ := Z
    intro p1 p2 p3 p4
    have sz : es2.size < scanBound := by
      have := p1.length_eq
      rw [Array.length_toList, Array.length_toList] at this
      have p1 := hfew
      rw [← this] at p1
      exact p1
    have o2 := store_at (es' := es2) (t' := t3) o1 rfl
    have r2 : Sts P w ((s.heap.update a (Obj.putSet es1 t2)).update a (Obj.putSet es2 t3)) a M _ es2 (ep + 1 + 1) t3 :=
      { ob := o2, exact_ := hx, data := rfl, good := fun e he => r1.good e (p1.mem_iff.mp he), perm := (p1.map sKey).trans r1.perm, nd := r1.nd, few := sz, fits := p2, ris := p3, led := r1.led.imp id fun z => p4.trans z }
    exact wpAny_bind (hg _ _ _ (wpAny_bind (wpAny_storeSet_of o1 rfl (wpAny_pure (hR _ (b1.trans (Heap.SameBut.update _ a _)) ⟨_, _, _, _, r2⟩)) (fits_of_scanBound sz))))
  · rw [if_neg hc]
    exact wpAny_pure (hR _ b1 ⟨_, _, _, _, r1⟩)
theorem addH {x : Str} {tk : Tok} {Q : Bool → Shared → Prop} (R : Sts P w s.heap a M o es ep t) (room : M.length + 1 < scanBound)
    (hQ : ∀ b h', Heap.SameBut a s.heap h' → StsE P w h' a (if x ∈ M then M else x :: M) → Q b { s with heap := h' }) :
    wpAny (model P w) A (setAddHashed a (.str x tk) ((PySem.strKind P w).hash x)) Q E s := by
  have key : (PySem.strKind P w).is x (.str x tk) = true := strKind_is _ _ _ _
  have el := R.elems
  have gives : ∀ (b : Bool) {s₁ : Shared} {Q' : Unit → Shared → Prop}, Q' () s₁ → wpAny (model P w) A (match b with | true => rule "set.scan.the-table-gave-way" | false => pure ()) Q' E s₁ := fun b s₁ Q' q => by
    cases b
    · exact wpAny_pure q
    · exact wpAny_rule q
  unfold setAddHashed setAddHashedIn; refine wpAny_holding (wpAny_bind (wpAny_setState_of R.ob R.data R.fits ?_)); dsimp only
  rw [byScan_of (knd := PySem.strKind P w) (show (Value.str x tk).scannable = true from rfl) R.few el, if_pos rfl]
  unfold setAddByScan
  refine wpAny_bind (wpAny_bind (wpAny_rule (wpAny_bind (wpAny_setScan_of key R.ob R.data R.fits el ?_))))
  cases fi : List.findIdx? (fun e => (PySem.strKind P w).is x e.2) es.toList with
  | some j =>
    obtain ⟨hj, pj, _⟩ := List.findIdx?_eq_some_iff_getElem.mp fi
    have hm : x ∈ M := R.perm.mem_iff.mp (List.mem_map.mpr ⟨es.toList[j], List.getElem_mem hj, (is_iff (R.good _ (List.getElem_mem hj)) x).mp pj⟩)
    refine wpAny_pure (wpAny_pure (hQ false s.heap (Heap.SameBut.refl a s.heap) ?_))
    rw [if_pos hm]
    exact ⟨_, _, _, _, R⟩
  | none =>
    have hm : x ∉ M := fun z => by
      obtain ⟨e, he, q⟩ := List.mem_map.mp (R.perm.mem_iff.mpr z)
      have c := List.findIdx?_eq_none_iff.mp fi e he
      rw [(is_iff (R.good e he) x).mpr q] at c
      cases c
    dsimp only
    have p1 := layNew_perm t es ((PySem.strKind P w).hash x) (.str x tk)
    have p2 := layNew_fits t es ((PySem.strKind P w).hash x) (.str x tk)
    have p3 := layNew_ris t es ((PySem.strKind P w).hash x) (.str x tk) R.ris
    have p4 := layNew_led t es ((PySem.strKind P w).hash x) (.str x tk)
    revert p1 p2 p3 p4
    generalize layNew t es ((PySem.strKind P w).hash x) (.str x tk) = Z
    obtain ⟨es1, t1, wd, gv⟩ := Z
    intro p1 p2 p3 p4
    dsimp only at p1 p2 p3 p4 ⊢
    rw [Array.toList_push] at p1
    have pc : es1.toList.Perm (((PySem.strKind P w).hash x, Value.str x tk) :: es.toList) := p1.trans (List.perm_append_singleton _ _)
    have pm : (es1.toList.map sKey).Perm (x :: M) := (pc.map sKey).trans (List.Perm.cons x R.perm)
    have sz : es1.size < scanBound := by
      have q := pm.length_eq
      rw [List.length_map, Array.length_toList, List.length_cons] at q
      omega
    have mk : ∀ t2 : SetTable, t2.fits es1.size = true → Ris t2.place.toList → (w.params.followText "set-order" = true ∨ t2.led = true) → ∀ h' o', h'.get? a = some o' → o'.ExactSet → o'.data = .set es1 (ep + 1) t2 → Sts P w h' a (x :: M) o' es1 (ep + 1) t2 := fun t2 q1 q2 q3 h' o' q4 q5 q6 =>
      { ob := q4, exact_ := q5, data := q6, good := fun e he => by
          rcases List.mem_cons.mp (pc.mem_iff.mp he) with z | z
          · exact ⟨x, tk, by rw [z], by rw [z]⟩
          · exact R.good e z
        perm := pm, nd := List.nodup_cons.mpr ⟨hm, R.nd⟩, few := sz, fits := q1, ris := q2, led := q3 }
    have ld : w.params.followText "set-order" = true ∨ t1.led = true := R.led.imp id fun z => p4.trans z
    have done : ∀ h', Heap.SameBut a s.heap h' → StsE P w h' a (x :: M) → Q true { s with heap := h' } := fun h' sb r => hQ true h' sb (by rw [if_neg hm]; exact r)
    refine wpAny_bind (gives _ ?_)
    split
    · rw [hashByValue_scannable 8 (show (Value.str x tk).scannable = true from rfl)]
      refine wpAny_bind (wpAny_pure ?_)
      refine put_end (M := x :: M) (fun b s₁ Q' q => gives b q) R.ob R.exact_ R.data (mk _ ?_ ?_ ?_) sz ?_
      · split
        · exact p2
        · exact SetTable.fits_plain_off p2
      · split <;> exact p3
      · split <;> exact ld
      · intro h' sb r
        dsimp only
        exact wpAny_pure (done h' sb r)
    · refine wpAny_bind (wpAny_pure ?_)
      rw [if_pos rfl]
      refine put_end (M := x :: M) (fun b s₁ Q' q => gives b q) R.ob R.exact_ R.data (mk _ p2 p3 ld) sz fun h' sb r => ?_
      dsimp only
      exact wpAny_pure (done h' sb r)
end
end SX
end

section
set_option Elab.async false
set_option linter.all false
set_option maxRecDepth 100000
set_option maxHeartbeats 4000000
set_option autoImplicit false
namespace SX
open PySem PySem.Spec PyProof.Rows L2
open PySem (codeAny)
/-- the members met so far, the last first -/
def metR : List Str → List Str
  | [] => []
  | x :: r => if x ∈ metR r then metR r else x :: metR r
def metS (xs : List Str) : List Str := metR xs.reverse
theorem metS_snoc (xs : List Str) (x : Str) : metS (xs ++ [x]) = if x ∈ metS xs then metS xs else x :: metS xs := by
  unfold metS
  rw [List.reverse_append, List.reverse_singleton, List.singleton_append, metR]
theorem mem_metR {x : Str} : ∀ {xs : List Str}, x ∈ metR xs ↔ x ∈ xs
  | [] => Iff.rfl
  | y :: r => by
    rw [metR, List.mem_cons]
    split
    · rename_i q
      rw [mem_metR (xs := r)]
      constructor
      · exact .inr
      · rintro (rfl | h)
        · exact mem_metR.mp q
        · exact h
    · rw [List.mem_cons, mem_metR (xs := r)]
theorem mem_metS {x : Str} {xs : List Str} : x ∈ metS xs ↔ x ∈ xs := by
  unfold metS
  rw [mem_metR, List.mem_reverse]
theorem metR_len : ∀ xs : List Str, (metR xs).length ≤ xs.length
  | [] => Nat.le_refl _
  | y :: r => by
    have := metR_len r
    rw [metR]
    split
    · rw [List.length_cons]
      omega
    · rw [List.length_cons, List.length_cons]
      omega
theorem metS_len (xs : List Str) : (metS xs).length ≤ xs.length := by
  have := metR_len xs.reverse
  rwa [List.length_reverse] at this
section
variable {P : Program} {w : World} {A : Around} {E : Value → Shared → Prop} {s : Shared}
theorem fill {I : Addr} {fp wr : List Addr} {G : Array GenState → Array GenState → Prop} {n : Nat} {Pv : Nat → Value → Prop} {St : Nat → Shared → Prop} {R : Result → Shared → Prop}
    (W : WalksS P w A.in1 I fp wr G n Pv St) (a : Addr) (ha : a ∉ fp) (xs : List Str) (hn : n = xs.length) (hb : xs.length + 1 < scanBound) (hval : ∀ i v, Pv i v → ∃ x t, xs[i]? = some x ∧ v = .str x t) :
    ∀ (k i : Nat) (s : Shared), n - i = k → i ≤ n → St i s → StsE P w s.heap a (metS (xs.take i)) →
      (∀ s', Moved (a :: wr) G s s' → StsE P w s'.heap a (metS xs) → R (.ok (.ret .none)) s') → codeAny (model P w) A (.builtin "set.update.loop" ⟨[.ref a, .ref I], []⟩) R s := by
  have aw : a ∉ wr := fun z => ha (W.sub _ z)
  have up : ∀ b ∈ wr, b ∈ a :: wr := fun b z => List.mem_cons_of_mem _ z
  intro k
  induction k with
  | zero =>
    intro i s e1 e2 st r hR
    have e3 : xs.take i = xs := List.take_of_length_le (by omega)
    have e4 : i = n := by omega
    subst e4
    rw [e3] at r
    refine codeAny_builtin F.entry_set_update_loop ?_
    rw [Around.under_plainId F.plain_set_update_loop _]
    show wpAny _ A.in1 (pyNext (.ref I) >>= _) _ _ s
    exact wpAny_bind (W.done s _ _ st fun s' m => wpAny_pure (hR s' (m.mono up) (r.at fun o z => m.heap a o aw z)))
  | succ k ih =>
    intro i s e1 e2 st r hR
    have lt : i < n := by omega
    refine codeAny_builtin F.entry_set_update_loop ?_
    rw [Around.under_plainId F.plain_set_update_loop _]
    show wpAny _ A.in1 (pyNext (.ref I) >>= _) _ _ s
    refine wpAny_bind (W.item i s _ _ lt st fun v s' p st' m => ?_)
    obtain ⟨x, t, hx, rfl⟩ := hval i v p
    obtain ⟨o, es, ep, tb, r'⟩ := r.at (h' := s'.heap) fun o z => m.heap a o aw z
    have sz : (metS (xs.take i)).length + 1 < scanBound := by
      have := metS_len (xs.take i)
      rw [List.length_take] at this
      omega
    have nxt : xs.take (i + 1) = xs.take i ++ [x] := by rw [List.take_add_one, hx] <;> rfl
    show wpAny _ A.in1 (holding [Value.str x t] (setAdd a (.str x t)) >>= _) _ _ s'
    unfold setAdd
    refine wpAny_bind (wpAny_holding (wpAny_holding (wpAny_bind ((PySem.strKind P w).pyHash (k := x) (strKind_is _ _ _ _) ?_))))
    refine addH (s := { s' with toks := s'.toks + 1 }) r' sz fun b h' sb r2 => ?_
    rw [← metS_snoc, ← nxt] at r2
    refine wpAny_pure ⟨plainId_quiet F.plain_set_update_loop _, ih (i + 1) _ (by omega) lt (W.frame _ s' _ _ st' (Nat.le_succ _) fun c hc q z => ?_) r2 fun s2 m2 r3 => hR s2 (Moved.trans W.gtrans ((m.mono up).then_heap (Nat.le_succ _) fun c q hc z => ?_) m2) r3⟩
    · rw [sb.2 c (fun q : c = a => ha (by rw [← q]; exact hc))]; exact z
    · rw [sb.2 c (fun q : c = a => hc (by rw [q]; exact List.mem_cons_self))]; exact z
theorem fresh_led (w : World) : w.params.followText "set-order" = true ∨ (SetTable.fresh 0 0 (!w.params.followText "set-order")).led = true := by
  show _ ∨ (!w.params.followText "set-order") = true
  cases w.params.followText "set-order" <;> simp
theorem fresh0 {h : Heap} {a : Addr} (ho : h.get? a = some { cls := .type "set", dict := none, data := .set #[] 0 (.fresh 0 0 (!w.params.followText "set-order")) }) : StsE P w h a [] :=
  ⟨_, #[], 0, _, { ob := ho, exact_ := ⟨rfl, rfl, rfl⟩, data := rfl, good := fun e he => by simp at he, perm := by simp, nd := List.nodup_nil, few := by decide, fits := by rfl, ris := List.Pairwise.nil, led := fresh_led w }⟩
end
end SX
end

section
set_option Elab.async false
set_option linter.all false
set_option maxRecDepth 100000
set_option maxHeartbeats 4000000
set_option autoImplicit false
namespace SX
open PySem PySem.Spec PyProof.Rows L2
/-- an empty set, as it is made -/
abbrev emptySet (w : World) : Obj := { cls := .type "set", dict := none, data := .set #[] 0 (.fresh 0 0 (!w.params.followText "set-order")) }
section
variable {P : Program} {w : World} {A : Around} {E : Value → Shared → Prop} {s : Shared}
theorem call_set_texts {l : Addr} {items : Array Value} {xs : List Str} {Q : Value → Shared → Prop} (hh : A.handled = none) (hl : s.heap.IsList l items) (hi : StrsAre items.toList xs) (hb : xs.length + 1 < scanBound)
    (h : ∀ h' tk, StsE P w h' s.heap.objs.size (metS xs) → (∀ b o, s.heap.get? b = some o → h'.get? b = some o) → Q (.ref s.heap.objs.size) { s with heap := h', toks := tk }) :
    wpAny (model P w) A (call (.type "set") [.ref l]) Q E s := by
  have sz : items.size = xs.length := by rw [← StrsAre.len_eq hi, Array.length_toList]
  have vals : ∀ (i : Nat) (v : Value), items[i]? = some v → ∃ x t, xs[i]? = some x ∧ v = .str x t := fun i v hv => by
    have hi' : i < xs.length := by rw [← sz]; exact (Array.getElem?_eq_some_iff.mp hv).1
    obtain ⟨t, e⟩ := SS.strs_at hi i v (by rw [Array.getElem?_toList]; exact hv)
    exact ⟨xs[i], t, List.getElem?_eq_getElem hi', by rw [e, List.getD_eq_getElem?_getD, List.getElem?_eq_getElem hi'] <;> rfl⟩
  obtain ⟨mc, mt, mro⟩ := F.called_set.mro
  have m1 := F.called_set.made; have m2 := F.called_set.sub; have m3 := F.called_set.notType; have m4 := F.called_set.canCreate; have m5 := F.typeCall_set_1 (.ref l)
  refine wpAny_call (codeAny_of_tree (show wpAny _ _ (callAny (.type "set") _) _ _ _ from wpAny_pure ⟨Code.quiet_builtin _ (by decide +kernel), codeAny_builtin F.entry_type_call ?_⟩))
  rw [Around.under_plain (weight_type_call_type "set" [.ref l] []) rfl]
  repeat any_goals first | assumption | wp_step
  refine codeAny_mono (code_set_led1 (.ref l) (E := E) (Q₁ := fun v z => v = .ref s.heap.objs.size ∧ z = { s with heap := s.heap.push (emptySet w) }) ⟨rfl, rfl⟩) fun r z hr => ?_
  cases r with
  | error e => exact hr
  | ok f =>
    cases f with
    | ret v =>
      obtain ⟨rfl, rfl⟩ := hr
      have hS : (s.heap.push (emptySet w)).get? s.heap.objs.size = some (emptySet w) := Heap.get?_push_size _ rfl
      have hT : Shared.TypeIs { s with heap := s.heap.push (emptySet w) } (.ref s.heap.objs.size) "set" := ⟨_, hS, rfl⟩
      have i1 := F.called_set.init.lookup; have i2 := F.called_set.init.bind (.ref s.heap.objs.size)
      repeat any_goals first | assumption | wp_step
      refine codeAny_mono (codeAny_call_builtin (R := wants (fun r z => r = .none ∧ ∃ h' tk, z = { s with heap := h', toks := tk } ∧ StsE P w h' s.heap.objs.size (metS xs) ∧ ∀ b o, s.heap.get? b = some o → h'.get? b = some o) E) F.called_set.init.plain F.entry_set_init (check_set_init_1 hT ?_)) fun r2 z2 hr2 => ?_
      · obtain ⟨⟨c0, d0, x0, sl0⟩, g0, g1, n, g2⟩ := hl
        simp only at g1 g2
        subst g1 g2
        have g3 : (s.heap.push (emptySet w)).get? l = some { cls := .type "list", dict := d0, data := .seq items n, slots := sl0 } := Heap.get?_push_of_some _ g0
        have g4 := F.sub_list_set; have g5 := F.sub_list_frozenset
        have g6 : (Value.type "list" == Value.type "dict") = false := by decide
        have g7 : (s.heap.push (emptySet w)).IsList l items := ⟨_, g3, rfl, n, rfl⟩
        unfold Builtin.«set.__init__» noKeywords Builtin.Frozenset.updateFrom
        generalize qq : pyIter = it
        wp_walk
        subst qq
        have lt : l < s.heap.objs.size := Heap.lt_size g0
        have z1 : (s.heap.push (emptySet w)).objs.size = s.heap.objs.size + 1 := Heap.size_push ..
        have ne : l ≠ (s.heap.push (emptySet w)).objs.size := by rw [z1]; exact Nat.ne_of_lt (Nat.lt_succ_of_lt lt)
        have nf : s.heap.objs.size ∉ [(s.heap.push (emptySet w)).objs.size, l] := by
          rw [z1]
          simp only [List.mem_cons, List.not_mem_nil, or_false, not_or]
          exact ⟨fun q => absurd q (Nat.ne_of_lt (Nat.lt_succ_self _)), fun q => absurd q (Nat.ne_of_gt lt)⟩
        have h3 : A.in1.in1.in1.handled = none := by simp [hh]
        have hget : ((s.heap.push (emptySet w)).push { cls := .type "list_iterator", data := .fields #[.ref l, .int 0 0] }).get? s.heap.objs.size = some (emptySet w) := Heap.get?_push_of_some _ hS
        refine wpAny_pyIter_list g7 (wpAny_bind (wpAny_runValue (fill ((Walks.list h3 _ l ne items).toS) s.heap.objs.size nf xs sz hb vals (items.size - 0) 0 _ (by omega) (Nat.zero_le _) ⟨⟨_, Heap.get?_push_size _ rfl, rfl, rfl⟩, g7.push _⟩ (fresh0 hget) fun z m r => ?_)))
        obtain ⟨h', g', d', tk', os'⟩ := z
        obtain rfl : g' = s.gens := m.gens
        obtain rfl : d' = s.drawn := m.drawn
        obtain rfl : os' = s.os := m.os
        show wpAny _ _ _ _ _ _
        refine wpAny_pure (show wpAny _ _ (ret Value.none) _ _ _ from wpAny_pure ⟨rfl, h', tk', rfl, r, fun b o e => ?_⟩)
        have lb : b < s.heap.objs.size := Heap.lt_size e
        refine m.heap b o (fun q => ?_) (Heap.get?_push_of_some _ (Heap.get?_push_of_some _ e))
        simp only [List.mem_cons, List.not_mem_nil, or_false] at q
        rw [z1] at q
        rcases q with q | q
        · exact absurd q (Nat.ne_of_lt lb)
        · exact absurd q (Nat.ne_of_lt (Nat.lt_succ_of_lt lb))
      · cases r2 with
        | error e => exact hr2
        | ok f2 =>
          cases f2 with
          | ret v2 =>
            obtain ⟨rfl, h', tk, rfl, r, kp⟩ := hr2
            repeat any_goals first | assumption | wp_step
            exact h _ _ r kp
          | _ => exact hr2.elim
    | _ => exact hr.elim
end
end SX
end

section
set_option Elab.async false
set_option linter.all false
set_option maxRecDepth 100000
set_option maxHeartbeats 4000000
set_option autoImplicit false
namespace SX
open PySem PySem.Spec PyProof.Rows L2
section
variable {P : Program} {w : World} {A : Around} {E : Value → Shared → Prop} {s : Shared} {a : Addr} {M : List Str}
theorem strs_of : ∀ (vs : List Value), (∀ v ∈ vs, ∃ x tk, v = Value.str x tk) → StrsAre vs (vs.map fun v => sKey (0, v))
  | [], _ => .nil
  | v :: vs, h => by
    obtain ⟨x, tk, rfl⟩ := h v List.mem_cons_self
    exact .cons x tk (strs_of vs fun u hu => h u (List.mem_cons_of_mem _ hu))
theorem sorted_texts {Q : Value → Shared → Prop} (R : StsE P w s.heap a M) (hh : A.handled = none) (few : M.length < 64)
    (hQ : ∀ s' p (out : Array Value) (c : Nat), (∀ b o, s.heap.get? b = some o → s'.heap.get? b = some o) → s'.gens = s.gens → s'.os = s.os → s.heap.objs.size ≤ p → s'.heap.get? p = some (seqObj "list" out c) → StrsAre out.toList (srtS M) → Q (.ref p) s') :
    wpAny (model P w) A (call (.builtin "sorted") [.ref a]) Q E s := by
  obtain ⟨o, es, ep, t, R⟩ := R
  refine Calls.call_function_entry kind_sorted plain_sorted entry_sorted (args_sorted1 _) ?_
  unfold Builtin.«sorted»
  refine wpAny_bind (m := checkCount "sorted" 1 1 _) (wpAny_pure (wpAny_bind (collect_set (A := A.in1) hh ⟨o, R.ob, R.exact_.1, R.data⟩ R.fits R.few R.ris R.led fun s1 vs k1 hz g1 o1 pm => ?_)))
  have n1 : vs.length = M.length := by rw [pm.length_eq, List.length_map, Array.length_toList, R.size]
  have hS := strs_of vs fun v hv => by
    obtain ⟨e, he, q⟩ := List.mem_map.mp (pm.mem_iff.mp hv)
    obtain ⟨x, tk, e1, _⟩ := R.good e he
    exact ⟨x, tk, q ▸ e1⟩
  have pk : (vs.map fun v => sKey (0, v)).Perm M := by
    have q := pm.map fun v => sKey (0, v)
    rw [List.map_map] at q
    exact q.trans R.perm
  have ho : (s1.heap.push (seqObj "list" vs.toArray 0)).get? s1.heap.objs.size = some (seqObj "list" vs.toArray 0) := Heap.get?_push_size _ rfl
  refine wpAny_bind (wpAny_newList (wpAny_bind (wpAny_holding (wpAny_call_entry slot_list_sort ⟨_, ho, rfl⟩ entry_list_sort (list_sort_treeK strKind_oneLt ho hS.keysOf (fun v₁ v₂ rest e => keyKind_strs (by rw [← e]; exact hS)) (by rw [n1]; exact few) fun st' hp hs => ⟨_, rfl, ?_⟩) (args_list_sort _)))) (by rw [n1, sizeLine_eq]; omega))
  obtain ⟨ys, q1, q2, q3⟩ := sorted_out_str hS hp hs
  obtain ⟨c, hc⟩ := sortedHeap_at (vs := vs) (out := (arrOf st').map (·.2)) ho
  have py : ys.Perm M := q2.trans pk
  have ey : ys = srtS M := up_ext (up_of q3 (py.nodup_iff.mpr R.nd)) (srtS_up M) fun x => by rw [py.mem_iff, mem_srtS]
  rw [ey] at q1
  refine wpAny_pure ⟨_, rfl, hQ _ s1.heap.objs.size _ c (fun b u e => ?_) g1 o1 hz hc q1⟩
  have q := k1 b u e
  have lt := Heap.lt_size q
  show (sortedHeap (s1.heap.push (seqObj "list" vs.toArray 0)) s1.heap.objs.size vs _).get? b = some u
  rw [sortedHeap_old (Nat.ne_of_lt lt) (by rw [size_push']; exact Nat.lt_succ_of_lt lt)]
  exact Heap.get?_push_of_some _ q
end
/-- the set of texts at a, in the hand layer's heap -/
def SetS (P : Program) (w : World) (a : Addr) (M : List Str) : HO := .ext fun h => StsE P w h a M
theorem srt_met (xs : List Str) : srtS (metS xs) = srtS xs := up_ext (srtS_up _) (srtS_up _) fun x => by rw [mem_srtS, mem_srtS, mem_metS]
section
variable {X : Cx}
theorem setS_ok {P : Program} {w : World} {H : Hp} {h : Heap} {a : Addr} {M : List Str} (R : StsE P w h a M) : ObjOk P w H h a (SetS P w a M) := by
  have ⟨o, _, _, _, r⟩ := R
  exact ⟨R, ⟨o, r.ob⟩, fun h1 h2 p k => StsE.at p k⟩
/-- set(l) -/
def rSetS (K : PySem.W.Frag) (P : Program) (w : World) : List V → Hp → VK → Prop := fun xs H Q => ∃ (l : Addr) (zs : List Str), xs = [V.ref l] ∧ SqL K H l (zs.map V.str) ∧ zs.length ≤ 4000 ∧ ∀ p, H p = none → Q (.ref p) (upd H p (SetS P w p (metS zs)))
theorem cr_setS (hc : X.calm = true) : CallR X (.type "set") (rSetS X.K X.prog X.w) := by
  intro pins s σ H xs us Q I r h
  obtain ⟨l, zs, rfl, hs, hb, q⟩ := h
  obtain ⟨its, rv, hl, _⟩ := I.list hs
  rw [Vals.ref1 r]
  refine call_set_texts (I.ok.hd hc) hl.isList (xs := zs) (by simpa using rv.strs) (by show zs.length + 1 < 4096; omega) fun h' tk R k => ?_
  have hn : H s.heap.objs.size = none := I.hok.fresh (Nat.le_refl _)
  exact ⟨.ref _, upd H s.heap.objs.size (SetS X.prog X.w s.heap.objs.size (metS zs)), I.laid (t' := tk) k (Nat.le_refl _) (setS_ok R), rfl, q _ hn⟩
/-- sorted(set) -/
def rSortSet (P : Program) (w : World) : List V → Hp → VK → Prop := fun vs H Q => ∃ (a : Addr) (M : List Str), vs = [V.ref a] ∧ H a = some (SetS P w a M) ∧ M.length < 64 ∧ ∀ p, H p = none → Q (.ref p) (upd H p (.lst ((srtS M).map V.str)))
theorem cr_sortSet (hc : X.calm = true) : CallR X (.builtin "sorted") (rSortSet X.prog X.w) := by
  intro pins s σ H vs us Q I r h
  obtain ⟨a, M, rfl, ha, few, q⟩ := h
  rw [Vals.ref1 r]
  have R : StsE X.prog X.w s.heap a M := (I.hok a _ ha).1
  refine sorted_texts R (I.ok.hd hc) few fun s' p out c k g o hp hg hi => ?_
  have hlen : ((srtS M).map V.str).length ≤ sizeLine := by
    have := srtS_len M
    rw [List.length_map, sizeLine_eq]
    omega
  have hn : H p = none := I.hok.fresh hp
  have J : Inv X pins σ (upd H p (.lst ((srtS M).map V.str))) { s with heap := s'.heap, gens := s'.gens, drawn := s'.drawn, toks := s'.toks } :=
    I.call (ch := []) (Un.laid k hp hn) (I.hok.laid k hp ⟨hlen, out.toList, c, vals_of_strs hi, hg⟩) (by rw [g]; exact I.bare) (fun _ z => nomatch z)
  have e : s' = { s with heap := s'.heap, gens := s'.gens, drawn := s'.drawn, toks := s'.toks } := by
    cases s'
    cases s
    cases o
    rfl
  rw [e]
  exact ⟨.ref p, _, J, rfl, q p hn⟩
end
end SX
end

section
set_option Elab.async false
set_option linter.all false
set_option maxRecDepth 100000
set_option maxHeartbeats 2000000
set_option autoImplicit false
namespace DK
open PySem PySem.Spec PyProof.Rows L2
mutual
def numK : NestedKey → Bool
  | .num _ => true
  | .tup ks => numKs ks
  | _ => false
def numKs : List NestedKey → Bool
  | [] => true
  | k :: ks => numK k && numKs ks
end
mutual
/-- the hash of such a key: the same in each world -/
def nh : NestedKey → Int
  | .num i => hashInt i
  | .tup ks => reduceHash (Builtin.Tuple.tupleHashOf (nhs ks))
  | _ => 0
def nhs : List NestedKey → List Int
  | [] => []
  | k :: ks => nh k :: nhs ks
end
mutual
theorem nh_eq (w : World) : ∀ {k : NestedKey}, numK k = true → k.hash w = nh k
  | .num i, _ => by rw [NestedKey.hash, nh]
  | .tup ks, h => by
    rw [NestedKey.hash, nh, nhs_eq w (ks := ks) (by simpa [numK] using h)]
  | .none, h => by simp [numK] at h
  | .text _, h => by simp [numK] at h
theorem nhs_eq (w : World) : ∀ {ks : List NestedKey}, numKs ks = true → NestedKey.hashes w ks = nhs ks
  | [], _ => by rw [NestedKey.hashes, nhs]
  | k :: ks, h => by
    rw [numKs, Bool.and_eq_true] at h
    rw [NestedKey.hashes, nhs, nh_eq w h.1, nhs_eq w h.2]
end
mutual
inductive KeyV (K : PySem.W.Frag) (H : Hp) : NestedKey → V → Prop
  | num (i : Int) : KeyV K H (.num i) (.int i)
  | tup {a : Addr} {vs : List V} {ks : List NestedKey} : SqT K H a vs → KeyVs K H ks vs → KeyV K H (.tup ks) (.ref a)
inductive KeyVs (K : PySem.W.Frag) (H : Hp) : List NestedKey → List V → Prop
  | nil : KeyVs K H [] []
  | cons {k : NestedKey} {v : V} {ks : List NestedKey} {vs : List V} : KeyV K H k v → KeyVs K H ks vs → KeyVs K H (k :: ks) (v :: vs)
end
section
variable {X : Cx} {pins : List (Addr × Obj)} {σ : L2.St} {H : Hp} {s : Shared}
mutual
theorem KeyV.raw (I : Inv X pins σ H s) : ∀ {k : NestedKey} {v : V} {u : Value}, KeyV X.K H k v → RelV v u → NestedIs s.heap k u
  | _, _, u, .num i, r => by
    obtain ⟨t, rfl⟩ := r
    exact .int i t
  | _, _, u, .tup (a := a) h b, r => by
    obtain rfl : u = Value.ref a := r
    obtain ⟨its, rv, ⟨o, ho, hc, n, hd⟩, _⟩ := I.tuple h
    exact .tup ho hc hd (by simpa using KeyVs.raw I b rv)
theorem KeyVs.raw (I : Inv X pins σ H s) : ∀ {ks : List NestedKey} {vs : List V} {us : List Value}, KeyVs X.K H ks vs → Vals vs us → NestedAll s.heap ks us
  | _, _, _, .nil, .nil => .nil
  | _, _, _, .cons a b, .cons r t => .cons (KeyV.raw I a r) (KeyVs.raw I b t)
end
mutual
theorem KeyV.num_of {K : PySem.W.Frag} : ∀ {k : NestedKey} {v : V}, KeyV K H k v → numK k = true
  | _, _, .num i => rfl
  | _, _, .tup h b => by
    rw [numK]
    exact KeyVs.num_of b
theorem KeyVs.num_of {K : PySem.W.Frag} : ∀ {ks : List NestedKey} {vs : List V}, KeyVs K H ks vs → numKs ks = true
  | _, _, .nil => rfl
  | _, _, .cons a b => by
    rw [numKs, KeyV.num_of a, KeyVs.num_of b]
    rfl
end
end
def entK (x : NestedKey × Addr × Value) : DictEntry := ⟨nh x.1, .ref x.2.1, x.2.2⟩
abbrev Ent := NestedKey × Addr × V
def RelE (p : Ent) (q : NestedKey × Addr × Value) : Prop := p.1 = q.1 ∧ p.2.1 = q.2.1 ∧ RelV p.2.2 q.2.2
/-- the dict at a: its entries -/
def DicO (a : Addr) (xs : List Ent) : HO := .ext fun h => ∃ raw : List (NestedKey × Addr × Value), Paired RelE xs raw ∧ ∃ o es ep, h.get? a = some o ∧ o.ExactDict ∧ o.data = .dict es ep ∧ es.toList = raw.map entK
structure DicOk (K : PySem.W.Frag) (H : Hp) (a : Addr) (xs : List Ent) : Prop where
  at_ : H a = some (DicO a xs)
  sys : (a == sysModules) = false
  few : xs.length ≤ 100000
  nd : (xs.map (·.1)).Nodup
  keys : ∀ x ∈ xs, KeyV K H x.1 (.ref x.2.1) ∧ x.1.depth ≤ 8
def findK (xs : List Ent) (k : NestedKey) : Option V := (xs.find? fun x => decide (x.1 = k)).map fun x => x.2.2
def putE (xs : List Ent) (k : NestedKey) (b : Addr) (v : V) : List Ent := if (xs.find? fun x => decide (x.1 = k)).isSome = true then xs.map fun x => if x.1 = k then (x.1, x.2.1, v) else x else xs ++ [(k, b, v)]
theorem paired_len {xs : List Ent} {raw : List (NestedKey × Addr × Value)} (r : Paired RelE xs raw) : xs.length = raw.length := by
  induction r with
  | nil => rfl
  | cons _ _ ih => rw [List.length_cons, List.length_cons, ih]
theorem paired_keys {xs : List Ent} {raw : List (NestedKey × Addr × Value)} (r : Paired RelE xs raw) : xs.map (·.1) = raw.map (·.1) := by
  induction r with
  | nil => rfl
  | cons e _ ih => rw [List.map_cons, List.map_cons, ih, e.1]
theorem paired_find {xs : List Ent} {raw : List (NestedKey × Addr × Value)} (r : Paired RelE xs raw) (k : NestedKey) : (findK xs k = none ∧ atKey raw k = none) ∨ ∃ v b u, findK xs k = some v ∧ atKey raw k = some (b, u) ∧ RelV v u := by
  induction r with
  | nil => exact .inl ⟨rfl, rfl⟩
  | cons e t ih =>
    rename_i x y xs ys
    obtain ⟨e1, e2, e3⟩ := e
    by_cases h : x.1 = k
    · right
      refine ⟨x.2.2, y.2.1, y.2.2, ?_, ?_, e3⟩
      · simp [findK, h]
      · simp [atKey, ← e1, h]
    · have h' : ¬ y.1 = k := by rw [← e1]; exact h
      have q1 : findK (x :: xs) k = findK xs k := by simp [findK, h]
      have q2 : atKey (y :: ys) k = atKey ys k := by simp [atKey, h']
      rw [q1, q2]
      exact ih
theorem paired_map {f : Ent → Ent} {g : NestedKey × Addr × Value → NestedKey × Addr × Value} (hf : ∀ p q, RelE p q → RelE (f p) (g q)) {xs : List Ent} {raw : List (NestedKey × Addr × Value)} (r : Paired RelE xs raw) : Paired RelE (xs.map f) (raw.map g) := by
  induction r with
  | nil => exact .nil
  | cons e _ ih => exact .cons (hf _ _ e) ih
theorem paired_snoc {xs : List Ent} {raw : List (NestedKey × Addr × Value)} (r : Paired RelE xs raw) {p : Ent} {q : NestedKey × Addr × Value} (e : RelE p q) : Paired RelE (xs ++ [p]) (raw ++ [q]) := by
  induction r with
  | nil => exact .cons e .nil
  | cons e' _ ih => exact .cons e' ih
theorem paired_put {xs : List Ent} {raw : List (NestedKey × Addr × Value)} (r : Paired RelE xs raw) {k : NestedKey} {b : Addr} {v : V} {u : Value} (rv : RelV v u) : Paired RelE (putE xs k b v) (storedH raw k b u) := by
  have hs : (xs.find? fun x => decide (x.1 = k)).isSome = (atKey raw k).isSome := by
    rcases paired_find r k with ⟨h1, h2⟩ | ⟨v', b', u', h1, h2, _⟩
    · rw [h2]
      simp only [findK, Option.map_eq_none_iff] at h1
      rw [h1]
      rfl
    · rw [h2]
      simp only [findK, Option.map_eq_some_iff] at h1
      obtain ⟨z, hz, _⟩ := h1
      rw [hz]
      rfl
  unfold putE storedH
  rw [hs]
  split
  · refine paired_map (fun p q e => ?_) r
    obtain ⟨f1, f2, f3⟩ := e
    unfold putAt
    by_cases h : p.1 = k
    · rw [if_pos h, if_pos (f1.symm.trans h)]
      exact ⟨f1, f2, rv⟩
    · rw [if_neg h, if_neg (fun z => h (f1.trans z))]
      exact ⟨f1, f2, f3⟩
  · exact paired_snoc r ⟨rfl, rfl, rv⟩
end DK
end

section
set_option Elab.async false
set_option linter.all false
set_option maxRecDepth 100000
set_option maxHeartbeats 2000000
set_option autoImplicit false
namespace DK
open PySem PySem.Spec PyProof.Rows L2
section
variable {X : Cx} {pins : List (Addr × Obj)} {σ : L2.St} {H : Hp} {s : Shared} {a : Addr} {xs : List Ent}
theorem entK_map {P : Program} {w : World} : ∀ {raw : List (NestedKey × Addr × Value)}, (∀ x ∈ raw, numK x.1 = true) → raw.map entK = raw.map (entryOfKey (nestedKind P w))
  | [], _ => rfl
  | x :: raw, h => by
    rw [List.map_cons, List.map_cons, entK_map fun y hy => h y (List.mem_cons_of_mem _ hy)]
    congr 1
    show entK x = ⟨x.1.hash w, .ref x.2.1, x.2.2⟩
    rw [nh_eq w (h x List.mem_cons_self)]
    rfl
theorem paired_mem {xs : List Ent} {raw : List (NestedKey × Addr × Value)} (r : Paired RelE xs raw) : ∀ y ∈ raw, ∃ x ∈ xs, RelE x y := by
  induction r with
  | nil => exact fun y hy => nomatch hy
  | cons e _ ih =>
    intro y hy
    rcases List.mem_cons.mp hy with rfl | hy
    · exact ⟨_, List.mem_cons_self, e⟩
    · obtain ⟨x, h1, h2⟩ := ih y hy
      exact ⟨x, List.mem_cons_of_mem _ h1, h2⟩
theorem DicOk.raw (I : Inv X pins σ H s) (d : DicOk X.K H a xs) : ∃ raw, Paired RelE xs raw ∧ s.heap.DictOfH (nestedKind X.prog X.w) a raw ∧ ∀ x ∈ raw, numK x.1 = true := by
  obtain ⟨⟨raw, r, o, es, ep, h1, h2, h3, h4⟩, _⟩ := I.hok a _ d.at_
  have nm : ∀ x ∈ raw, numK x.1 = true := fun y hy => by
    obtain ⟨x, hx, e⟩ := paired_mem r y hy
    rw [← e.1]
    exact (d.keys x hx).1.num_of
  refine ⟨raw, r, ⟨o, es, ep, h1, h2, h3, by rw [h4, entK_map nm], fun y hy => ?_, by rw [← paired_keys r]; exact d.nd⟩, nm⟩
  obtain ⟨x, hx, e⟩ := paired_mem r y hy
  obtain ⟨k1, k2⟩ := d.keys x hx
  have := KeyV.raw I k1 (show RelV (V.ref x.2.1) (Value.ref x.2.1) from rfl)
  rw [e.1, e.2.1] at this
  exact ⟨this, by rw [← e.1]; exact k2⟩
def rInD (K : PySem.W.Frag) (neg : Bool) : R2 := fun x y H Q => ∃ (k : NestedKey) (b a : Addr) (xs : List Ent), x = .ref b ∧ y = .ref a ∧ KeyV K H k (.ref b) ∧ k.depth ≤ 8 ∧ DicOk K H a xs ∧ Q (.bl (if neg then !(findK xs k).isSome else (findK xs k).isSome)) H
theorem found {raw : List (NestedKey × Addr × Value)} (r : Paired RelE xs raw) (k : NestedKey) : (valueAt (pairsH raw) k).isSome = (findK xs k).isSome := by
  rw [valueAt_pairsH, Option.isSome_map]
  rcases paired_find r k with ⟨h1, h2⟩ | ⟨v, b, u, h1, h2, _⟩
  · rw [h1, h2]
    rfl
  · rw [h1, h2]
    rfl
theorem or_inD (hu : X.A.units + 9 < cLine) : OpR X (compareOp .In) (rInD X.K false) := by
  intro pins s σ H x y v u Q I rx ry h
  obtain ⟨k, b, a, xs, rfl, rfl, hk, hd, d, q⟩ := h
  cases rx
  cases ry
  obtain ⟨raw, r, hm, _⟩ := d.raw I
  have hr : (nestedKind X.prog X.w).room X.A.in1 := by show X.A.in1.units + 8 < cLine; simp only [Around.in1]; omega
  refine in_keyed hr ⟨KeyV.raw I hk rfl, hd⟩ d.sys ⟨raw, hm, rfl⟩ ⟨_, H, I.tok _, ?_, q⟩
  rw [found r]
  rfl
theorem or_ninD (hu : X.A.units + 9 < cLine) : OpR X (compareOp .NotIn) (rInD X.K true) := by
  intro pins s σ H x y v u Q I rx ry h
  obtain ⟨k, b, a, xs, rfl, rfl, hk, hd, d, q⟩ := h
  cases rx
  cases ry
  obtain ⟨raw, r, hm, _⟩ := d.raw I
  have hr : (nestedKind X.prog X.w).room X.A.in1 := by show X.A.in1.units + 8 < cLine; simp only [Around.in1]; omega
  refine notIn_keyed hr ⟨KeyV.raw I hk rfl, hd⟩ d.sys ⟨raw, hm, rfl⟩ ⟨_, H, I.tok _, ?_, q⟩
  rw [found r]
  rfl
def rGetD (K : PySem.W.Frag) : R2 := fun x y H Q => ∃ (k : NestedKey) (b a : Addr) (xs : List Ent) (v : V), x = .ref a ∧ y = .ref b ∧ KeyV K H k (.ref b) ∧ k.depth ≤ 8 ∧ DicOk K H a xs ∧ findK xs k = some v ∧ Q v H
theorem ix_dic (hu : X.A.units + 9 < cLine) : IxR X (rGetD X.K) := by
  intro value slice pins s σ H x y v u Q I rx ry h hs
  obtain ⟨k, b, a, xs, z, rfl, rfl, hk, hd, d, hf, q⟩ := h
  obtain rfl : v = Value.ref a := rx
  obtain rfl : u = Value.ref b := ry
  obtain ⟨raw, r, hm, _⟩ := d.raw I
  have hr : (nestedKind X.prog X.w).room X.A.in1 := by show X.A.in1.units + 8 < cLine; simp only [Around.in1]; omega
  rcases paired_find r k with ⟨h1, h2⟩ | ⟨v', b', u', h1, h2, rr⟩
  · rw [hf] at h1
    cases h1
  · rw [hf] at h1
    cases h1
    exact tail_any hm.typeIs slot_dict_getitem.lookup (getItem_keyed hr ⟨KeyV.raw I hk rfl, hd⟩ ⟨raw, hm, rfl⟩ (by rw [valueAt_pairsH, h2]; rfl) ⟨z, H, I.tok _, rr, q⟩) hs
def rPutD (K : PySem.W.Frag) : TSet := fun o i v H Q => ∃ (k : NestedKey) (b a : Addr) (xs : List Ent), o = .ref a ∧ i = .ref b ∧ KeyV K H k (.ref b) ∧ k.depth ≤ 8 ∧ DicOk K H a xs ∧ Q (upd H a (DicO a (putE xs k b v)))
theorem dicO_ok {P : Program} {w : World} {H : Hp} {h : Heap} {raw : List (NestedKey × Addr × Value)} (r : Paired RelE xs raw) {o : Obj} {es : Array DictEntry} {ep : Nat} (h1 : h.get? a = some o) (h2 : o.ExactDict) (h3 : o.data = .dict es ep) (h4 : es.toList = raw.map entK) : ObjOk P w H h a (DicO a xs) :=
  ⟨⟨raw, r, o, es, ep, h1, h2, h3, h4⟩, ⟨o, h1⟩, fun _ _ ⟨raw, r, o, es, ep, g1, g⟩ k => ⟨raw, r, o, es, ep, k o g1, g⟩⟩
theorem set_dic (hu : X.A.units + 9 < cLine) : PSet X (rPutD X.K) := by
  intro pins s σ H o i v ov iv u Q I ro ri rv h
  obtain ⟨k, b, a, xs, rfl, rfl, hk, hd, d, q⟩ := h
  cases ro
  cases ri
  obtain ⟨raw, r, hm, nm⟩ := d.raw I
  have hr : (nestedKind X.prog X.w).room X.A.in1 := by show X.A.in1.units + 8 < cLine; simp only [Around.in1]; omega
  have few : raw.length ≤ sizeLine := by rw [← paired_len r]; exact Nat.le_trans d.few (by rw [sizeLine_eq]; omega)
  refine wpAny_setItem_heap (hsz := few) hr ⟨KeyV.raw I hk rfl, hd⟩ hm fun h' hm' sb => ?_
  obtain ⟨o', es, ep, g1, g2, g3, g4, g5, g6⟩ := hm'
  have nm' : ∀ x ∈ storedH raw k b u, numK x.1 = true := fun x hx => by
    have r' := paired_put r (k := k) (b := b) (v := v) (u := u) rv
    obtain ⟨y, hy, e⟩ := paired_mem r' x hx
    rw [← e.1]
    unfold putE at hy
    split at hy
    · obtain ⟨z, hz, rfl⟩ := List.mem_map.mp hy
      have := (d.keys z hz).1.num_of
      split
      · exact this
      · exact this
    · rcases List.mem_append.mp hy with hy | hy
      · exact (d.keys y hy).1.num_of
      · rw [List.mem_singleton.mp hy]
        exact hk.num_of
  exact ⟨_, I.write (e := a) (by rw [d.at_]; trivial) (.inl rfl) (fun b u hb hu => (sb.2 b hb).trans hu) ⟨_, g1⟩ (dicO_ok (paired_put r rv) g1 g2 g3 (by rw [g4, entK_map nm'])), q⟩
/-- {} -/
def tDicNew : TE := fun _ H Q => ∀ p, H p = none → (p == sysModules) = false → Q (.ref p) (upd H p (DicO p []))
theorem pe_dicNew {pos : Pos} : PE X (.Dict [] [] pos) tDicNew := ⟨fun pins s σ H Q I h =>
  wpAny_Dict_empty ⟨.ref s.heap.objs.size, _, I.laid (a := s.heap.objs.size) (o := DicO s.heap.objs.size []) (t' := s.toks) (fun _ _ q => Heap.get?_push_of_some _ q) (Nat.le_refl _) (dicO_ok .nil (Heap.get?_push_size _ rfl) ⟨rfl, rfl, rfl⟩ rfl rfl), rfl, h _ (I.hok.fresh (Nat.le_refl _)) (by
    have := I.big
    rw [beq_eq_false_iff_ne]
    exact fun z => absurd this (by rw [← z]; exact Nat.lt_irrefl _))⟩⟩
end
end DK
end

section
set_option Elab.async false
set_option linter.all false
set_option maxRecDepth 100000
set_option maxHeartbeats 2000000
set_option autoImplicit false
namespace DK
open PySem PySem.Spec PyProof.Rows L2
/-- some heap with a thing at a place -/
def heapAt (a : Addr) (o : Obj) : Heap := { objs := Array.replicate (a + 1) o }
def codeOb (q : Str) : Obj := { cls := .none, data := .fields #[.none, .str q 0] }
theorem heapAt_get {a b : Addr} {q : Str} : (heapAt a (codeOb q)).get? b = some (codeOb q) ∨ (heapAt a (codeOb q)).get? b = none := by
  unfold heapAt Heap.get?
  rw [Array.getElem?_replicate]
  by_cases h : b < a + 1
  · rw [if_pos h]
    exact .inl rfl
  · rw [if_neg h]
    exact .inr rfl
theorem heapAt_self (a : Addr) (q : Str) : (heapAt a (codeOb q)).get? a = some (codeOb q) := by
  unfold heapAt Heap.get?
  rw [Array.getElem?_replicate, if_pos (Nat.lt_succ_self a)]
  rfl
theorem dic_code (a c : Addr) (xs : List Ent) (q : Str) : DicO a xs ≠ LamX.CodeO c q := by
  intro e
  unfold DicO LamX.CodeO at e
  have e := congrFun (HO.ext.inj e) (heapAt c (codeOb q))
  have h : ∃ (oc : Obj) (vs : Array Value) (t : Tok), (heapAt c (codeOb q)).get? c = some oc ∧ oc.data = .fields vs ∧ vs[1]? = some (.str q t) := ⟨codeOb q, _, 0, heapAt_self c q, rfl, rfl⟩
  rw [← e] at h
  obtain ⟨raw, _, o, es, ep, h1, _, h3, _⟩ := h
  rcases heapAt_get (a := c) (b := a) (q := q) with z | z
  · rw [z] at h1
    cases h1
    cases h3
  · rw [z] at h1
    cases h1
section
variable {X : Cx}
def tDic2 (K : PySem.W.Frag) (t1 u1 t2 u2 : TE) : TE := fun σ H Q => ∀ d, H d = none → (d == sysModules) = false → t1 σ (upd H d (DicO d [])) fun x1 H1 => u1 σ H1 fun y1 H2 => t2 σ H2 fun x2 H3 => u2 σ H3 fun y2 H4 =>
  ∃ (k l : NestedKey) (b e : Addr), x1 = .ref b ∧ x2 = .ref e ∧ KeyV K H4 k (.ref b) ∧ KeyV K H4 l (.ref e) ∧ k.depth ≤ 8 ∧ l.depth ≤ 8 ∧ k ≠ l ∧ H4 d = some (DicO d []) ∧ Q (.ref d) (upd H4 d (DicO d [(k, b, y1), (l, e, y2)]))
theorem pe_dic2 {k1 v1 k2 v2 : Expr} {pos : Pos} {t1 u1 t2 u2 : TE} (hu : X.A.units + 9 < cLine) (h1 : PE X k1 t1) (g1 : PE X v1 u1) (h2 : PE X k2 t2) (g2 : PE X v2 u2) : PE X (.Dict [some k1, some k2] [v1, v2] pos) (tDic2 X.K t1 u1 t2 u2) := by
  refine ⟨fun pins s σ H Q I h => ?_⟩
  have hd := h s.heap.objs.size (I.hok.fresh (Nat.le_refl _)) (by
    have := I.big
    rw [beq_eq_false_iff_ne]
    exact fun z => absurd this (by rw [← z]; exact Nat.lt_irrefl _))
  have I0 : Inv X pins σ (upd H s.heap.objs.size (DicO s.heap.objs.size [])) { s with heap := s.heap.push { cls := .type "dict", data := .dict #[] }, toks := s.toks } :=
    I.laid (a := s.heap.objs.size) (o := DicO s.heap.objs.size []) (t' := s.toks) (fun _ _ q => Heap.get?_push_of_some _ q) (Nat.le_refl _) (dicO_ok .nil (Heap.get?_push_size _ rfl) ⟨rfl, rfl, rfl⟩ rfl rfl)
  have hk : (nestedKind X.prog X.w).room X.A := by show X.A.units + 8 < cLine; omega
  have hshape : (evalEachOpt [some k1, some k2] X.env).zip ((evalEach [v1, v2] X.env).map fun v => do let x ← v; standAt pos; pure x) = [(eval k1 X.env, do let x ← eval v1 X.env; standAt pos; pure x), (eval k2 X.env, do let x ← eval v2 X.env; standAt pos; pure x)].map fun p => (some p.1, p.2) := rfl
  rw [arm_eval_Dict, hshape, dictDisplay_pairs _ (by simp) (by simp)]
  refine wpAny_bind (wpAny_standAt (wpAny_bind (wpAny_subDictH (knd := nestedKind X.prog X.w) hk (by simp) ?_)))
  refine evalPairs_cons (wpAny_mono (h1.run _ _ _ _ _ I0 hd) (fun a s1 p1 => ?_) fun _ _ e => e)
  obtain ⟨x1, H1, I1, r1, q1⟩ := p1
  refine wpAny_bind (wpAny_mono (g1.run _ _ _ _ _ I1 q1) (fun b s2 p2 => ?_) fun _ _ e => e)
  obtain ⟨y1, H2, I2, r2, q2⟩ := p2
  refine wpAny_bind (wpAny_standAt (wpAny_pure ?_))
  refine evalPairs_cons (wpAny_mono (h2.run _ _ _ _ _ I2 q2) (fun c s3 p3 => ?_) fun _ _ e => e)
  obtain ⟨x2, H3, I3, r3, q3⟩ := p3
  refine wpAny_bind (wpAny_mono (g2.run _ _ _ _ _ I3 q3) (fun d s4 p4 => ?_) fun _ _ e => e)
  obtain ⟨y2, H4, I4, r4, q4⟩ := p4
  refine wpAny_bind (wpAny_standAt (wpAny_pure (evalPairs_nil ?_)))
  obtain ⟨k, l, b1, e1, rfl, rfl, K1, K2, d1, d2, ne, hh, q⟩ := q4
  cases r1
  cases r3
  have D0 : DicOk X.K H4 s.heap.objs.size [] := ⟨hh, by
    have := I.big
    rw [beq_eq_false_iff_ne]
    exact fun z => absurd this (by rw [← z]; exact Nat.lt_irrefl _), Nat.zero_le _, List.nodup_nil, fun _ z => nomatch z⟩
  obtain ⟨raw, r, hm, _⟩ := D0.raw I4
  cases r
  refine ⟨[(k, b1, b), (l, e1, d)], ⟨rfl, rfl, ⟨KeyV.raw I4 K1 rfl, d1⟩, rfl, rfl, ⟨KeyV.raw I4 K2 rfl, d2⟩, trivial⟩, hm, fun h' tk hm' sb => wpAny_pure ?_⟩
  have es : storedAllH [] [(k, b1, b), (l, e1, d)] = [(k, b1, b), (l, e1, d)] := by
    simp [storedAllH, storedH, atKey, ne]
  rw [es] at hm'
  obtain ⟨o', es, ep, g1, g2, g3, g4, g5, g6⟩ := hm'
  refine ⟨.ref s.heap.objs.size, _, (I4.write (e := s.heap.objs.size) (by rw [hh]; trivial) (.inl rfl) (fun b u hb hu => (sb.2 b hb).trans hu) ⟨_, g1⟩ (dicO_ok (xs := [(k, b1, y1), (l, e1, y2)]) (.cons ⟨rfl, rfl, r2⟩ (.cons ⟨rfl, rfl, r4⟩ .nil)) g1 g2 g3 (by
    rw [g4, entK_map]
    intro x hx
    rcases List.mem_cons.mp hx with rfl | hx
    · exact K1.num_of
    · rw [List.mem_singleton.mp hx]
      exact K2.num_of))), rfl, q⟩
end
end DK
end

section
set_option Elab.async false
set_option linter.all false
set_option maxRecDepth 100000
namespace DE
open PySem L2

inductive P where
  | non | bl (b : Bool) | int (i : Int) | str (x : Str) | lst (xs : List P) | tup (xs : List P) | fn (x : Nat) | scr (ns : List Int)
  | exo (c : Nat) (f : Option (Str × Int))
  deriving Inhabited
mutual
def P.pd : P → Option PyData
  | .non => some .none
  | .bl b => some (.bool b)
  | .int i => some (.int i)
  | .str x => some (.str x)
  | .lst xs => (P.pds xs).map .list
  | .tup xs => (P.pds xs).map .tuple
  | .fn _ => none
  | .scr _ => none
  | .exo _ _ => none
def P.pds : List P → Option (List PyData)
  | [] => some []
  | x :: xs => match P.pd x, P.pds xs with
    | some d, some ds => some (d :: ds)
    | _, _ => none
end
/-- what stands in the store, or in a name of its own -/
inductive SO where
  | lst (xs : List P) | dic (kvs : List (P × P))
/-- a value: data; a new list; what a name of its own holds, lent; a box of the store -/
inductive D where
  | p (x : P) | new (xs : List P) | bor (o : SO) | box (n : Nat)
abbrev Store := List SO
/-- a slot -/
inductive Sl where
  | un | val (d : D) | own (o : SO)
abbrev Env := List Sl
inductive R (α : Type) where
  | ok (a : α) (st : Store) | exc (c : Nat) (x : Option P) (st : Store) | bad
def R.bind {α β : Type} (r : R α) (f : α → Store → R β) : R β := match r with
  | .ok a st => f a st
  | .exc c x st => .exc c x st
  | .bad => .bad
/-- no exception here -/
def R.nx {α : Type} (r : R α) : R α := match r with
  | .ok a st => .ok a st
  | _ => .bad
def R.opt {α : Type} (o : Option α) (st : Store) : R α := match o with
  | some a => .ok a st
  | none => .bad
@[simp] theorem R.bind_ok {α β : Type} (a : α) (st : Store) (f : α → Store → R β) : (R.ok a st).bind f = f a st := rfl
@[simp] theorem R.bind_exc {α β : Type} (c : Nat) (x : Option P) (st : Store) (f : α → Store → R β) : (R.exc c x st).bind f = .exc c x st := rfl
@[simp] theorem R.bind_bad {α β : Type} (f : α → Store → R β) : (R.bad).bind f = .bad := rfl
@[simp] theorem R.nx_ok {α : Type} (a : α) (st : Store) : (R.ok a st).nx = .ok a st := rfl
@[simp] theorem R.opt_some {α : Type} (a : α) (st : Store) : R.opt (some a) st = .ok a st := rfl
@[simp] theorem R.opt_none {α : Type} (st : Store) : (R.opt none st : R α) = .bad := rfl

/-- read -/
def D.rd (st : Store) : D → Option P
  | .p x => some x
  | .new xs => some (.lst xs)
  | .bor (.lst xs) => some (.lst xs)
  | .bor (.dic _) => none
  | .box n => match st[n]? with
    | some (.lst xs) => some (.lst xs)
    | _ => none
/-- to be walked; b: by a for (a name's own may not be) -/
def D.rdI (b : Bool) : D → Option P
  | .p x => some x
  | .new xs => some (.lst xs)
  | .bor (.lst xs) => if b then none else some (.lst xs)
  | _ => none
/-- data, to be kept -/
def D.keep : D → Option P
  | .p x => some x
  | .new xs => some (.lst xs)
  | _ => none
/-- to be given to a def, or to a name -/
def D.arg : D → Option D
  | .p x => some (.p x)
  | .new xs => some (.p (.lst xs))
  | .bor _ => none
  | .box n => some (.box n)
/-- a list made by an operation is new -/
def D.mk : P → D
  | .lst xs => .new xs
  | x => .p x

inductive Tg where
  | one (i : Nat) | two (a b : Tg)
def Tg.slots : Tg → List Nat
  | .one i => [i]
  | .two a b => a.slots ++ b.slots
inductive Bf where
  | len | abs | int | max | min | tuple | list | all | any | str
inductive Me where
  | join | split | count | find
mutual
inductive IE where
  | v (i : Nat) | g (x : Nat) | int (i : Int) | str (x : Str) | bl (b : Bool) | non
  | bin (op : Operator) (a b : IE)
  | neg (a : IE) | no (a : IE)
  | and (r : IL) | or (r : IL)
  | cmp (op : CmpOp) (a b : IE)
  | chain (o1 o2 : CmpOp) (a b c : IE)
  | ife (t a b : IE)
  | tup (es : IL) | lst (es : IL)
  | call (f : Nat) (es : IL)
  | bi (f : Bf) (a : IE) (es : IL)
  | meth (m : Me) (o : IE) (a : IE)
  | idx (a b : IE) | slc (a : IE) (lo hi : IO) | rev (a : IE)
  | comp (elt : IE) (tg : Tg) (it : IT) (cond : IO)
  | isi (a : IE) (t : String)
  | callV (i : Nat) (fs : List Nat) (es : IL)
  | dget (gt : Bool) (ks : List Str) (vs : IL) (a : IE)
  | word (f : Nat) (get : Bool) (e : IE)
  | sort (k : Nat) (a : IE)
  | dnew | dtwo (k1 v1 k2 v2 : IE) | din (neg : Bool) (a : IE) (i : Nat) | dat (i : Nat) (a : IE)
  | mkx (c : Nat) | mkf (c : Nat) (n : Str) (a : IE) | isx (a : IE) (t : Bool) (j : Nat) | fld (a : IE) (n : Str)
inductive IL where
  | nil | cons (e : IE) (es : IL)
inductive IO where
  | non | som (e : IE)
inductive IT where
  | seq (e : IE) | rng1 (a : IE) | rng2 (a b : IE) | zip (a b : IE) | enum (e : IE)
end
mutual
inductive IS where
  | asg (t : Tg) (e : IE)
  | asgO (i : Nat) (e : IE)
  | par (is : List Nat) (os : List Bool) (es : IL)
  | seti (o k e : IE)
  | exp (e : IE)
  | app (i : Nat) (e : IE) | ext (i : Nat) (e : IE)
  | ret (e : IE) | retN | retB (e : IE)
  | ife (t : IE) (a b : IB)
  | whl (t : IE) (b : IB)
  | for_ (tg : Tg) (it : IT) (b : IB)
  | pass | brk | cont
  | raise (c : Nat) (m : Str)
  | frz (i : Nat)
  | tryN (f : Nat) (e : IE)
  | any
  | setd (i : Nat) (k e : IE)
inductive IB where
  | nil | cons (s : IS) (b : IB)
end

def b2i (b : Bool) : Int := if b then 1 else 0
def mulOk (i j : Int) : Bool := decide (-(2 ^ 64) < i ∧ i < 2 ^ 64) || decide (-(2 ^ 64) < j ∧ j < 2 ^ 64)
def divOk (j : Int) : Bool := decide (0 < j) && decide (j.natAbs.log2 < 9000)
def small (n : Nat) : Bool := decide (n ≤ sizeLine)
def rep {α : Type} (k : Int) (xs : List α) : List α := (List.replicate k.toNat xs).flatten
def opAdd : P → P → Option P
  | .int i, .int j => some (.int (i + j))
  | .int i, .bl b => some (.int (i + b2i b))
  | .bl b, .int j => some (.int (b2i b + j))
  | .str x, .str y => if small (x.length + y.length) then some (.str (x ++ y)) else none
  | .tup xs, .tup ys => if small (xs.length + ys.length) then some (.tup (xs ++ ys)) else none
  | .lst xs, .lst ys => if small (xs.length + ys.length) then some (.lst (xs ++ ys)) else none
  | _, _ => none
def opMul : P → P → Option P
  | .int i, .int j => if mulOk i j then some (.int (i * j)) else none
  | .tup xs, .int k => if decide (k ≤ 1000) && decide (-1000 ≤ k) && decide (xs.length ≤ 1000) then some (.tup (rep k xs)) else none
  | .lst xs, .int k => if decide (k ≤ 1000) && decide (-1000 ≤ k) && decide (xs.length ≤ 1000) then some (.lst (rep k xs)) else none
  | .str x, .int k => if decide (k ≤ 1000) && decide (-1000 ≤ k) && decide (x.length ≤ 1000) then some (.str ⟨(rep k x.cps.toList).toArray⟩) else none
  | _, _ => none
def opBin : Operator → P → P → Option P
  | .Add, x, y => opAdd x y
  | .Sub, .int i, .int j => some (.int (i - j))
  | .Sub, .bl b, .int j => some (.int (b2i b - j))
  | .Mult, x, y => opMul x y
  | .FloorDiv, .int i, .int j => if divOk j then some (.int (i / j)) else none
  | .Mod, .int i, .int j => if decide (0 < j) then some (.int (i % j)) else none
  | .Pow, .int i, .int j => if decide (0 ≤ j) && decide (j ≤ 1000000) && decide (i.natAbs < 2 ^ 64) then some (.int (i ^ j.toNat)) else none
  | _, _, _ => none
/-- == -/
def opEq (x y : P) : Option Bool := match x.pd, y.pd with
  | some d, some e => if SeqAt.shaped d && SeqAt.shaped e then some (PyData.eqv d e) else none
  | _, _ => none
def anyEq (x : P) : List P → Option Bool
  | [] => some false
  | y :: ys => match opEq y x with
    | some true => some true
    | some false => anyEq x ys
    | none => none
def P.flat : P → Bool
  | .non => true | .bl _ => true | .int _ => true | .str _ => true | _ => false
def opIn (x y : P) : Option Bool := match y with
  | .tup ys => if x.flat && ys.all P.flat then anyEq x ys else none
  | .lst ys => if x.flat && ys.all P.flat then anyEq x ys else none
  | .str z => match x with
    | .str c => if c.length == 1 then some (decide (c.cps.getD 0 0 ∈ z.cps.toList)) else none
    | _ => none
  | _ => none
def P.isNon : P → Bool
  | .non => true
  | _ => false
def opCmp : CmpOp → P → P → Option Bool
  | .Eq, x, y => opEq x y
  | .NotEq, x, y => (opEq x y).map not
  | .Lt, .int i, .int j => some (decide (i < j))
  | .LtE, .int i, .int j => some (decide (i ≤ j))
  | .Gt, .int i, .int j => some (decide (j < i))
  | .GtE, .int i, .int j => some (decide (j ≤ i))
  | .Is, x, .non => some x.isNon
  | .IsNot, x, .non => some (!x.isNon)
  | .Is, .bl a, .bl b => some (decide (a = b))
  | .IsNot, .bl a, .bl b => some (!decide (a = b))
  | .In, x, y => opIn x y
  | .NotIn, x, y => (opIn x y).map not
  | _, _, _ => none
def truth : P → Option Bool
  | .non => some false
  | .bl b => some b
  | .int i => some (i != 0)
  | .str x => if small x.length then some ((x.length : Int) != 0) else none
  | .lst xs => some (!xs.isEmpty)
  | .tup xs => some (!xs.isEmpty)
  | _ => none
def opIdx : P → P → Option P
  | .lst xs, .int i => atI xs i
  | .tup xs, .int i => atI xs i
  | .str z, .int i => if small z.length then (atI z.cps.toList i).map fun c => .str ⟨#[c]⟩ else none
  | .scr ns, .int i => (atI ns i).map .int
  | _, _ => none
def cutP {α : Type} (xs : List α) (lo hi : Option Int) : List α := (xs.drop (HT.sIx xs.length 0 lo)).take (HT.sIx xs.length xs.length hi - HT.sIx xs.length 0 lo)
def opSlc (x : P) (lo hi : Option Int) : Option P := match x with
  | .lst xs => some (.lst (cutP xs lo hi))
  | .tup xs => some (.tup (cutP xs lo hi))
  | .str z => if small z.length then some (.str (cutS z lo hi)) else none
  | _ => none
def opRev : P → Option P
  | .tup xs => some (.tup xs.reverse)
  | .str z => if small z.length then some (.str ⟨z.cps.toList.reverse.toArray⟩) else none
  | _ => none
def allBl : List P → Option (List Bool)
  | [] => some []
  | .bl b :: xs => (allBl xs).map (b :: ·)
  | _ :: _ => none
def allStr : List P → Option (List Str)
  | [] => some []
  | .str b :: xs => (allStr xs).map (b :: ·)
  | _ :: _ => none
def lenS (z : Str) : Option Nat := if small z.length then some z.length else none
def lenP : P → Option Nat
  | .lst xs => some xs.length
  | .tup xs => some xs.length
  | .scr xs => some xs.length
  | .str z => lenS z
  | _ => none
/-- built-in functions and types, called with data -/
def biLen : List P → Option P | [x] => (lenP x).map fun n => .int n | _ => none
def biAbs : List P → Option P | [.int i] => some (.int (if i < 0 then -i else i)) | _ => none
def biInt : List P → Option P | [.int i] => some (.int i) | [.bl b] => some (.int (if b then 1 else 0)) | _ => none
def biMax : List P → Option P | [.int i, .int j] => some (.int (if j > i then j else i)) | _ => none
def biMin : List P → Option P | [.int i, .int j] => some (.int (if j < i then j else i)) | _ => none
def biTuple : List P → Option P | [.lst xs] => some (.tup xs) | [.tup xs] => some (.tup xs) | _ => none
def biList : List P → Option P | [.lst xs] => some (.lst xs) | [.tup xs] => some (.lst xs) | _ => none
def biAll : List P → Option P | [.lst xs] => (allBl xs).map fun bs => .bl (bs.all id) | _ => none
def biAny : List P → Option P | [.lst xs] => (allBl xs).map fun bs => .bl (bs.any id) | _ => none
def biStr : List P → Option P | [.int i] => if decide (i.natAbs.log2 < 1920) then some (.str (toString i)) else none | [.str x] => some (.str x) | [.bl b] => some (.str (if b then Str.ofString "True" else Str.ofString "False")) | _ => none
def opBi : Bf → List P → Option P
  | .len, xs => biLen xs | .abs, xs => biAbs xs | .int, xs => biInt xs | .max, xs => biMax xs | .min, xs => biMin xs
  | .tuple, xs => biTuple xs | .list, xs => biList xs | .all, xs => biAll xs | .any, xs => biAny xs | .str, xs => biStr xs
def joinLen (a : Str) (ys : List Str) : Bool := decide ((ys.map (·.length)).sum + ys.length * a.length ≤ 16777216)
def joinP (a : Str) : Option (List Str) → Option P
  | some zs => if joinLen a zs then some (.str (Txt.join a zs)) else none
  | none => none
def splitP (a b : Str) : Option P := if !(b.length == 0) && decide (a.length + 2 ≤ sizeLine) then some (.lst ((Txt.split a b).map .str)) else none
def opMe : Me → P → P → Option P
  | .join, .str a, .lst ys => joinP a (allStr ys)
  | .split, .str a, .str b => splitP a b
  | .count, .str a, .str b => some (.int (Txt.count a b))
  | .find, .str a, .str b => some (.int (Txt.find a b))
  | _, _, _ => none
mutual
def P.nk : P → Option NestedKey
  | .int i => some (.num i)
  | .tup xs => (P.nks xs).map .tup
  | _ => none
def P.nks : List P → Option (List NestedKey)
  | [] => some []
  | x :: xs => match P.nk x, P.nks xs with
    | some k, some ks => some (k :: ks)
    | _, _ => none
end
def keyOk (k : NestedKey) : Option NestedKey := if decide (k.depth ≤ 8) then some k else none
def P.ky : P → Option NestedKey
  | .tup xs => (P.nks xs).bind fun ks => keyOk (.tup ks)
  | _ => none
def findP (kvs : List (P × P)) (k : NestedKey) : Option P := (kvs.find? fun x => decide (x.1.ky = some k)).map (·.2)
def putP (kvs : List (P × P)) (kp : P) (k : NestedKey) (v : P) : List (P × P) := if (kvs.find? fun x => decide (x.1.ky = some k)).isSome = true then kvs.map fun x => if x.1.ky = some k then (x.1, v) else x else kvs ++ [(kp, v)]
def dicAt (st : Store) (env : Env) (i : Nat) : Option (List (P × P)) := match env[i]? with
  | some (.val (.box n)) => match st[n]? with
    | some (.dic kvs) => some kvs
    | _ => none
  | _ => none
def hasD (neg : Bool) (kvs : Option (List (P × P))) (k : Option NestedKey) (st : Store) : R D := match kvs, k with
  | some kvs, some k => .ok (.p (.bl (if neg then !(findP kvs k).isSome else (findP kvs k).isSome))) st
  | _, _ => .bad
def getD (kvs : Option (List (P × P))) (k : Option NestedKey) (st : Store) : R D := match kvs, k with
  | some kvs, some k => match findP kvs k with
    | some v => .ok (.p v) st
    | none => .bad
  | _, _ => .bad
def D.ky : D → Option NestedKey
  | .p x => x.ky
  | _ => none
def twoD (k1 v1 k2 v2 : D) (st : Store) : R D := match k1, k2, v1, v2 with
  | .p a, .p b, .p v, .p u => match a.ky, b.ky with
    | some k, some l => if decide (k ≠ l) then .ok (.box st.length) (st ++ [.dic [(a, v), (b, u)]]) else .bad
    | _, _ => .bad
  | _, _, _, _ => .bad
def insB {α : Type} (le : α → α → Bool) (x : α) : List α → List α
  | [] => [x]
  | y :: r => if le x y then x :: y :: r else y :: insB le x r
def srtB {α : Type} (le : α → α → Bool) (xs : List α) : List α := xs.foldr (insB le) []
def leI (i j : Int) : Bool := decide (i ≤ j)
def leP (p q : Int × Int) : Bool := !SrtO.lexB q p
def allInt : List P → Option (List Int)
  | [] => some []
  | .int b :: xs => (allInt xs).map (b :: ·)
  | _ :: _ => none
def allPair : List P → Option (List (Int × Int))
  | [] => some []
  | .tup [.int a, .int b] :: xs => (allPair xs).map ((a, b) :: ·)
  | _ :: _ => none
def pairP (q : Int × Int) : P := .tup [.int q.1, .int q.2]
/-- sorted(set(texts)), sorted(ints), sorted(pairs) -/
def sortS : Option (List Str) → Option P
  | some zs => if decide (zs.length ≤ 4000) && decide ((SX.metS zs).length < 64) then some (.lst ((SX.srtS zs).map .str)) else none
  | none => none
def opSort : Nat → P → Option P
  | 0, .lst xs => sortS (allStr xs)
  | 1, .lst xs => (allInt xs).map fun ns => .lst ((srtB leI ns).map .int)
  | 2, .lst xs => (allPair xs).map fun ps => .lst ((srtB leP ps).map pairP)
  | _, _ => none
def isT (x : P) (t : String) : Option Bool := match x with
  | .non => kitB "NoneType" t
  | .bl _ => kitB "bool" t
  | .int _ => kitB "int" t
  | .str _ => kitB "str" t
  | .lst _ => kitB "list" t
  | .tup _ => kitB "tuple" t
  | _ => none

def setS (env : Env) (i : Nat) (d : D) : Env := env.set i (.val d)
def asgT : Tg → D → Env → Option Env
  | .one i, d, env => match d with
    | .p x => some (setS env i (.p x))
    | .box n => some (setS env i (.box n))
    | _ => none
  | .two a b, d, env => match d with
    | .p (.tup [x, y]) => match asgT a (.p x) env with
      | some env1 => asgT b (.p y) env1
      | none => none
    | _ => none
/-- a block's own slots are empty at its start -/
def wip (env : Env) : List Nat → Env
  | [] => env
  | i :: is => (wip env is).set i .un

structure Cf where
  call : Nat → List D → Store → R D
  gc : Nat → Option P
  wd : Nat → Nat → Option Str
def rdB (d : D) (st : Store) : R Bool := match d.rd st with
  | some x => R.opt (truth x) st
  | none => .bad
def mkD (o : Option P) (st : Store) : R D := match o with
  | some x => .ok (.mk x) st
  | none => .bad
def mkP (o : Option P) (st : Store) : R D := match o with
  | some x => .ok (.p x) st
  | none => .bad
def mkB (o : Option Bool) (st : Store) : R D := match o with
  | some x => .ok (.p (.bl x)) st
  | none => .bad
def rd2 (a b : D) (st : Store) (f : P → P → R D) : R D := match a.rd st, b.rd st with
  | some x, some y => f x y
  | _, _ => .bad
def keeps : List D → Option (List P)
  | [] => some []
  | d :: ds => match d.keep, keeps ds with
    | some x, some xs => some (x :: xs)
    | _, _ => none
def rds (st : Store) : List D → Option (List P)
  | [] => some []
  | d :: ds => match d.rd st, rds st ds with
    | some x, some xs => some (x :: xs)
    | _, _ => none
def argsD : List D → Option (List D)
  | [] => some []
  | d :: ds => match d.arg, argsD ds with
    | some x, some xs => some (x :: xs)
    | _, _ => none
def dGet (gt : Bool) (kvs : List (Str × P)) (z : Str) (st : Store) : R D := match kvs.lookup z with
  | some x => .ok (.p x) st
  | none => if gt then .ok (.p .non) st else .bad
def rngP (a b : Int) : List P := (List.range (b - a).toNat).map fun i => .int (a + (i : Nat))
def rngOk (_ _ : Int) : Bool := true
def itSeq : P → Option (List P)
  | .lst xs => some xs
  | .tup xs => some xs
  | .str z => some (z.cps.toList.map fun c => .str ⟨#[c]⟩)
  | _ => none
def itZip : P → P → Option (List P)
  | .lst xs, .lst ys => some ((xs.zip ys).map fun p => .tup [p.1, p.2])
  | .tup xs, .tup ys => some ((xs.zip ys).map fun p => .tup [p.1, p.2])
  | _, _ => none
def itEnum : P → Option (List P)
  | .lst xs => some ((xs.zipIdx).map fun p => .tup [.int p.2, p.1])
  | _ => none
def itRng (a b : D) (st : Store) : R (List P) := match a, b with
  | .p (.int i), .p (.int j) => if rngOk i j then .ok (rngP i j) st else .bad
  | _, _ => .bad
def mkfD (k : Nat) (n : Str) (x : D) (st : Store) : R D := match x with
  | .p (.int i) => .ok (.p (.exo k (some (n, i)))) st
  | _ => .bad
def isxD (t : Bool) (j : Nat) (x : D) (st : Store) : R D := match x with
  | .p (.exo k _) => .ok (.p (.bl (t || decide (j = k)))) st
  | _ => .bad
def fldD (n : Str) (x : D) (st : Store) : R D := match x with
  | .p (.exo _ (some (m, i))) => if decide (m = n) then .ok (.p (.int i)) st else .bad
  | _ => .bad
/-- a comprehension's turns -/
def compGo (f : Env → Store → R D) (t : Env → Store → R Bool) (tg : Tg) (env : Env) : List P → List P → Store → R (List P)
  | [], acc, st => .ok acc st
  | x :: xs, acc, st => match asgT tg (.p x) env with
    | some env1 => (t env1 st).nx.bind fun b st1 => if b then
        (f env1 st1).nx.bind fun d st2 => match d.keep with
          | some y => if decide (acc.length < sizeLine) then compGo f t tg env xs (acc ++ [y]) st2 else .bad
          | none => .bad
      else compGo f t tg env xs acc st1
    | none => .bad
mutual
def ev (c : Cf) : IE → Env → Store → R D
  | .v i, env, st => match env[i]? with
    | some (.val d) => .ok d st
    | some (.own o) => .ok (.bor o) st
    | _ => .bad
  | .g x, _, st => mkP (c.gc x) st
  | .int i, _, st => .ok (.p (.int i)) st
  | .str x, _, st => .ok (.p (.str x)) st
  | .bl b, _, st => .ok (.p (.bl b)) st
  | .non, _, st => .ok (.p .non) st
  | .bin op a b, env, st => (ev c a env st).bind fun x st => (ev c b env st).bind fun y st => rd2 x y st fun x y => mkD (opBin op x y) st
  | .neg a, env, st => (ev c a env st).bind fun x st => match x.rd st with
    | some (.int i) => .ok (.p (.int (-i))) st
    | some (.bl b) => .ok (.p (.int (-b2i b))) st
    | _ => .bad
  | .no a, env, st => (ev c a env st).bind fun d st => (rdB d st).bind fun b st => .ok (.p (.bl (!b))) st
  | .and r, env, st => evAnd c r env st
  | .or r, env, st => evOr c r env st
  | .cmp op a b, env, st => (ev c a env st).bind fun x st => (ev c b env st).bind fun y st => rd2 x y st fun x y => mkB (opCmp op x y) st
  | .chain o1 o2 a b d, env, st => (ev c a env st).bind fun x st => (ev c b env st).bind fun y st => rd2 x y st fun x y => match opCmp o1 x y with
    | some true => if y.flat then (ev c d env st).bind fun z st => match z.rd st with
        | some z => mkB (opCmp o2 y z) st
        | none => .bad
      else .bad
    | some false => .ok (.p (.bl false)) st
    | none => .bad
  | .ife t a b, env, st => (ev c t env st).bind fun k st => (rdB k st).bind fun k st => if k then ev c a env st else ev c b env st
  | .tup es, env, st => (evL c es env st).bind fun ds st => match keeps ds with
    | some xs => if small xs.length then .ok (.p (.tup xs)) st else .bad
    | none => .bad
  | .lst es, env, st => (evL c es env st).bind fun ds st => match keeps ds with
    | some xs => if small xs.length then .ok (.new xs) st else .bad
    | none => .bad
  | .call f es, env, st => (evL c es env st).bind fun ds st => match argsD ds with
    | some as => c.call f as st
    | none => .bad
  | .bi f a es, env, st => (ev c a env st).bind fun d st => (evL c es env st).bind fun ds st => match rds st (d :: ds) with
    | some xs => mkD (opBi f xs) st
    | none => .bad
  | .meth m o a, env, st => (ev c o env st).bind fun x st => match x with
    | .p (.str z) => (ev c a env st).bind fun y st => match y.rd st with
      | some y => mkD (opMe m (.str z) y) st
      | none => .bad
    | _ => .bad
  | .idx a b, env, st => (ev c a env st).bind fun x st => (ev c b env st).bind fun y st => rd2 x y st fun x y => mkP (opIdx x y) st
  | .slc a lo hi, env, st => (ev c a env st).bind fun x st => (evO c lo env st).bind fun l st => (evO c hi env st).bind fun h st => match x.rd st with
    | some x => mkD (opSlc x l h) st
    | none => .bad
  | .rev a, env, st => (ev c a env st).bind fun x st => match x.rd st with
    | some x => mkD (opRev x) st
    | none => .bad
  | .comp elt tg it cond, env, st => (evI c false it env st).bind fun xs st =>
      (compGo (fun env st => ev c elt env st) (fun env st => evC c cond env st) tg (wip env tg.slots) xs [] st).bind fun ys st => .ok (.new ys) st
  | .isi a t, env, st => (ev c a env st).bind fun x st => match x.rd st with
    | some x => mkB (isT x t) st
    | none => .bad
  | .callV i fs es, env, st => match env[i]? with
    | some (.val (.p (.fn f))) => if fs.contains f then (evL c es env st).bind fun ds st => match argsD ds with
        | some as => c.call f as st
        | none => .bad
      else .bad
    | _ => .bad
  | .dget gt ks vs a, env, st => (evL c vs env st).bind fun ds st => match keeps ds with
    | some xs => (ev c a env st).bind fun x st => match x with
      | .p (.str z) => dGet gt (ks.zip xs) z st
      | _ => .bad
    | none => .bad
  | .word f get e, env, st => match ev c e env st with
    | .ok d st => if get then .ok d st else .ok (.p (.str "")) st
    | .exc k none st => match c.wd f k with
      | some z => .ok (.p (.str z)) st
      | none => .bad
    | .exc _ (some _) _ => .bad
    | .bad => .bad
  | .sort k a, env, st => (ev c a env st).bind fun d st => match d.rd st with
    | some x => mkD (opSort k x) st
    | none => .bad
  | .dnew, _, st => .ok (.box st.length) (st ++ [.dic []])
  | .dtwo k1 v1 k2 v2, env, st => (ev c k1 env st).bind fun a st => (ev c v1 env st).bind fun b st => (ev c k2 env st).bind fun d st => (ev c v2 env st).bind fun e st => twoD a b d e st
  | .din neg a i, env, st => (ev c a env st).bind fun x st => hasD neg (dicAt st env i) x.ky st
  | .dat i a, env, st => match env[i]? with
    | some (.val (.box n)) => (ev c a env st).bind fun x st => getD (dicAt st env i) x.ky st
    | _ => .bad
  | .mkx k, _, st => .ok (.p (.exo k none)) st
  | .mkf k n a, env, st => (ev c a env st).bind fun x st => mkfD k n x st
  | .isx a t j, env, st => (ev c a env st).bind fun x st => isxD t j x st
  | .fld a n, env, st => (ev c a env st).bind fun x st => fldD n x st
def evL (c : Cf) : IL → Env → Store → R (List D)
  | .nil, _, st => .ok [] st
  | .cons e es, env, st => (ev c e env st).bind fun d st => (evL c es env st).bind fun ds st => .ok (d :: ds) st
def evAnd (c : Cf) : IL → Env → Store → R D
  | .nil, _, st => .bad
  | .cons e es, env, st => match es with
    | .nil => ev c e env st
    | es => (ev c e env st).bind fun x st => match x with
      | .p (.bl true) => evAnd c es env st
      | .p (.bl false) => .ok (.p (.bl false)) st
      | _ => .bad
def evOr (c : Cf) : IL → Env → Store → R D
  | .nil, _, st => .bad
  | .cons e es, env, st => match es with
    | .nil => ev c e env st
    | es => (ev c e env st).bind fun x st => match x with
      | .p (.bl false) => evOr c es env st
      | .p (.bl true) => .ok (.p (.bl true)) st
      | _ => .bad
def evO (c : Cf) : IO → Env → Store → R (Option Int)
  | .non, _, st => .ok none st
  | .som e, env, st => (ev c e env st).bind fun x st => match x with
    | .p (.int i) => .ok (some i) st
    | _ => .bad
def evC (c : Cf) : IO → Env → Store → R Bool
  | .non, _, st => .ok true st
  | .som e, env, st => (ev c e env st).bind rdB
def evI (c : Cf) (b : Bool) : IT → Env → Store → R (List P)
  | .seq e, env, st => (ev c e env st).bind fun x st => match x.rdI b with
    | some x => R.opt (itSeq x) st
    | none => .bad
  | .rng1 a, env, st => (ev c a env st).bind fun x st => itRng (.p (.int 0)) x st
  | .rng2 a d, env, st => (ev c a env st).bind fun x st => (ev c d env st).bind fun y st => itRng x y st
  | .zip a d, env, st => (ev c a env st).bind fun x st => (ev c d env st).bind fun y st => match x.rdI b, y.rdI b with
    | some x, some y => R.opt (itZip x y) st
    | _, _ => .bad
  | .enum e, env, st => (ev c e env st).bind fun x st => match x.rdI b with
    | some x => R.opt (itEnum x) st
    | none => .bad
end
def evT (c : Cf) (e : IE) (env : Env) (st : Store) : R Bool := (ev c e env st).bind rdB

inductive Fl where
  | nx (env : Env) | rt (d : D) | bk (env : Env) | ct (env : Env)
/-- what a list or a dict holds when it changes -/
def SO.push : SO → P → Option SO
  | .lst xs, y => if decide (xs.length < sizeLine) then some (.lst (xs ++ [y])) else none
  | .dic _, _ => none
def SO.extend : SO → P → Option SO
  | .lst xs, .lst ys => if small (xs.length + ys.length) then some (.lst (xs ++ ys)) else none
  | _, _ => none
/-- a key: an int or a text, or a tuple of such -/
def P.key : P → Option Key
  | .int i => some (.inl i)
  | .str x => some (.inr x)
  | _ => none
def SO.put : SO → P → P → Option SO
  | .lst xs, .int k, y => match ixN xs.length k with
    | some j => some (.lst (xs.set j y))
    | none => none
  | _, _, _ => none
def storD (n : Nat) (env : Env) (k y : D) (st : Store) : R Fl := match k, y.keep, st[n]? with
  | .p kp, some y, some (.dic kvs) => match kp.ky with
    | some kk => if decide (kvs.length < 50000) then .ok (.nx env) (st.set n (.dic (putP kvs kp kk y))) else .bad
    | none => .bad
  | _, _, _ => .bad
def setO (env : Env) (i : Nat) (o : SO) : Env := env.set i (.own o)
def ownOf : D → Option SO
  | .new xs => some (.lst xs)
  | _ => none
def parD (env : Env) : List Nat → List Bool → List D → Option Env
  | [], [], [] => some env
  | i :: is, o :: os, d :: ds => if o then match ownOf d with
      | some so => parD (setO env i so) is os ds
      | none => none
    else match d.arg with
      | some d' => parD (setS env i d') is os ds
      | none => none
  | _, _, _ => none
def WN : Nat := 1000000
def whileGo (t : Env → Store → R Bool) (f : Env → Store → R Fl) : Nat → Env → Store → R Fl
  | 0, _, _ => .bad
  | n + 1, env, st => (t env st).bind fun b st => if b then (f env st).bind fun r st => match r with
      | .nx env => whileGo t f n env st
      | .ct env => whileGo t f n env st
      | .bk env => .ok (.nx env) st
      | .rt d => .ok (.rt d) st
    else .ok (.nx env) st
def forGo (f : Env → Store → R Fl) (tg : Tg) : List P → Env → Store → R Fl
  | [], env, st => .ok (.nx env) st
  | x :: xs, env, st => match asgT tg (.p x) env with
    | some env1 => (f env1 st).bind fun r st => match r with
      | .nx env => forGo f tg xs env st
      | .ct env => forGo f tg xs env st
      | .bk env => .ok (.nx env) st
      | .rt d => .ok (.rt d) st
    | none => .bad
mutual
def exec (c : Cf) : IS → Env → Store → R Fl
  | .asg t e, env, st => (ev c e env st).bind fun d st => match d.arg with
    | some d => match asgT t d env with
      | some env => .ok (.nx env) st
      | none => .bad
    | none => .bad
  | .asgO i e, env, st => (ev c e env st).bind fun d st => match ownOf d with
    | some o => .ok (.nx (setO env i o)) st
    | none => .bad
  | .par is os es, env, st => (evL c es env st).bind fun ds st => match parD env is os ds with
    | some env => .ok (.nx env) st
    | none => .bad
  | .seti o k e, env, st => match o with
    | .v i => match env[i]? with
      | some (.own so) => (ev c e env st).bind fun y st => (ev c k env st).bind fun k st => match k.rd st, y.keep with
        | some k, some y => match so.put k y with
          | some so => .ok (.nx (setO env i so)) st
          | none => .bad
        | _, _ => .bad
      | some (.val (.box n)) => (ev c e env st).bind fun y st => (ev c k env st).bind fun k st => match k.rd st, y.keep, st[n]? with
        | some k, some y, some so => match so.put k y with
          | some so => .ok (.nx env) (st.set n so)
          | none => .bad
        | _, _, _ => .bad
      | _ => .bad
    | _ => .bad
  | .exp e, env, st => (ev c e env st).bind fun _ st => .ok (.nx env) st
  | .app i e, env, st => match env[i]? with
    | some (.own so) => (ev c e env st).bind fun y st => match y.keep with
      | some y => match so.push y with
        | some so => .ok (.nx (setO env i so)) st
        | none => .bad
      | none => .bad
    | _ => .bad
  | .ext i e, env, st => match env[i]? with
    | some (.own so) => (ev c e env st).bind fun y st => match y with
      | .new ys => match so.extend (.lst ys) with
        | some so => .ok (.nx (setO env i so)) st
        | none => .bad
      | _ => .bad
    | _ => .bad
  | .ret e, env, st => (ev c e env st).bind fun d st => match d.arg with
    | some d => .ok (.rt d) st
    | none => .bad
  | .retN, _, st => .ok (.rt (.p .non)) st
  | .retB e, env, st => (ev c e env st).bind fun d st => match d with
    | .new xs => .ok (.rt (.box st.length)) (st ++ [.lst xs])
    | _ => .bad
  | .ife t a b, env, st => (evT c t env st).bind fun k st => if k then execs c a env st else execs c b env st
  | .whl t b, env, st => whileGo (fun env st => evT c t env st) (fun env st => execs c b env st) WN env st
  | .for_ tg it b, env, st => (evI c true it env st).bind fun xs st => forGo (fun env st => execs c b env st) tg xs env st
  | .pass, env, st => .ok (.nx env) st
  | .brk, env, st => .ok (.bk env) st
  | .cont, env, st => .ok (.ct env) st
  | .raise k _, _, st => .exc k none st
  | .frz i, env, st => match env[i]? with
    | some (.own (.lst xs)) => .ok (.nx (setS env i (.p (.lst xs)))) st
    | _ => .bad
  | .tryN f e, env, st => match ev c e env st with
    | .ok d st => match d.arg with
      | some d => .ok (.rt d) st
      | none => .bad
    | .exc k none st => match c.wd f k with
      | some z => .ok (.rt (.p (.str z))) st
      | none => .bad
    | .exc _ (some _) _ => .bad
    | .bad => .bad
  | .any, _, _ => .bad
  | .setd i k e, env, st => match env[i]? with
    | some (.val (.box n)) => (ev c e env st).bind fun y st => (ev c k env st).bind fun k st => storD n env k y st
    | _ => .bad
def execs (c : Cf) : IB → Env → Store → R Fl
  | .nil, env, st => .ok (.nx env) st
  | .cons s b, env, st => (exec c s env st).bind fun r st => match r with
    | .nx env => execs c b env st
    | r => .ok r st
end

structure Df where
  np : Nat
  ns : Nat
  body : IB
  wt : List (Nat × Str) := []
def wdT (T : Nat → Option Df) (f k : Nat) : Option Str := match T f with
  | some d => d.wt.lookup k
  | none => none
def startE (d : Df) (as : List D) : Env := as.map .val ++ List.replicate (d.ns - d.np) .un
/-- behind a call: boxes made within are dropped, but the one that is handed back -/
def fin (n : Nat) : R Fl → R D
  | .ok (.rt (.p x)) st => .ok (.p x) (st.take n)
  | .ok (.rt (.box k)) st => if k < n then .ok (.box k) (st.take n) else match st[k]? with
    | some o => .ok (.box n) (st.take n ++ [o])
    | none => .bad
  | .ok (.nx _) st => .ok (.p .non) (st.take n)
  | .exc k x st => .exc k x (st.take n)
  | _ => .bad
def callK (T : Nat → Option Df) (gc : Nat → Option P) : Nat → Nat → List D → Store → R D
  | 0, _, _, _ => .bad
  | k + 1, f, as, st => match T f with
    | some d => if as.length = d.np then fin st.length (execs ⟨callK T gc k, gc, wdT T⟩ d.body (startE d as) st) else .bad
    | none => .bad
end DE
end

section
set_option Elab.async false
set_option linter.all false
set_option maxRecDepth 100000
set_option autoImplicit false
namespace DE
open PySem PySem.Spec L2

/-- where defs and classes stand; the tables of code objects -/
structure Fa where
  ad : Nat → Addr
  tb : List (Addr × Str)
  xs : List (Nat × Option Str) := []
instance : CoeFun Fa fun _ => Nat → Addr := ⟨Fa.ad⟩
/-- the heap, but the tables of code objects -/
def nt (H : Hp) : Hp := fun a => match H a with
  | some (.tbl _) => none
  | x => x
theorem nt_of {H : Hp} {a : Addr} (h : H a = none) : nt H a = none := by
  unfold nt
  rw [h]
theorem nt_abs {H : Hp} {a : Addr} {o : HO} (h : nt H a = none) (e : H a = some o) (ht : ∀ ps, o ≠ .tbl ps) : False := by
  unfold nt at h
  rw [e] at h
  split at h
  · rename_i q
    cases q
    exact ht _ rfl
  · cases h
theorem nt_ne {H : Hp} {a : Addr} {o : HO} (e : H a = some o) (ht : ∀ ps, o ≠ .tbl ps) : nt H a ≠ none := fun h => nt_abs h e ht
theorem nt_lst {H : Hp} {a : Addr} {vs : List V} (e : H a = some (.lst vs)) : nt H a ≠ none := nt_ne e (fun _ z => nomatch z)
theorem nt_get {H : Hp} {a : Addr} (h : nt H a ≠ none) : ∃ o, H a = some o ∧ ∀ ps, o ≠ .tbl ps := by
  unfold nt at h
  split at h
  · exact absurd rfl h
  · rename_i q
    cases e : H a with
    | none => exact absurd e h
    | some o => exact ⟨o, rfl, fun ps z => q ps (by rw [e, z])⟩
theorem nt_or {H : Hp} {a : Addr} (h : nt H a = none) : H a = none ∨ ∃ ps, H a = some (.tbl ps) := by
  cases e : H a with
  | none => exact .inl rfl
  | some o =>
    refine .inr ?_
    by_cases q : ∃ ps, o = .tbl ps
    · obtain ⟨ps, rfl⟩ := q
      exact ⟨ps, rfl⟩
    · exact (nt_abs h e fun ps z => q ⟨ps, z⟩).elim
theorem nt_upd {H : Hp} {a b : Addr} {o : HO} (ht : ∀ ps, o ≠ .tbl ps) (h : nt (upd H a o) b = none) : nt H b = none := by
  by_cases e : b = a
  · subst e
    exact (nt_abs h upd_same ht).elim
  · unfold nt at h ⊢
    rw [upd_ne e] at h
    exact h
/-- a tuple that is read: made by the call, or the module's own -/
def TupAt (K : PySem.W.Frag) (F : Addr → Prop) (H : Hp) (a : Addr) (vs : List V) : Prop := (F a ∧ H a = some (.tup vs)) ∨ ∀ H' : Hp, SqT K H' a vs
/-- the script -/
def ScrAt (K : PySem.W.Frag) (F : Addr → Prop) (H : Hp) (a : Addr) (ns : List Int) : Prop := (F a ∧ (H a = some (.lst (ns.map V.int)) ∨ ∃ o, H a = some (.frz o (.lst (ns.map V.int))))) ∨ ∀ H' : Hp, SqL K H' a (ns.map V.int)
section
variable (K : PySem.W.Frag) (fa : Fa)
mutual
inductive VR (F : Addr → Prop) (H : Hp) : V → P → Prop
  | non : VR F H .non .non
  | bl (b : Bool) : VR F H (.bl b) (.bl b)
  | int (i : Int) : VR F H (.int i) (.int i)
  | str (x : Str) : VR F H (.str x) (.str x)
  | lst {a : Addr} {vs : List V} {xs : List P} : F a → H a = some (.lst vs) → VRs F H vs xs → VR F H (.ref a) (.lst xs)
  | tup {a : Addr} {vs : List V} {xs : List P} : TupAt K F H a vs → VRs F H vs xs → VR F H (.ref a) (.tup xs)
  | fn (x : Nat) : VR F H (.ref (fa x)) (.fn x)
  | scr {a : Addr} {ns : List Int} : ScrAt K F H a ns → VR F H (.ref a) (.scr ns)
  | exo {a : Addr} {c : Nat} : (c, none) ∈ fa.xs → F a → H a = some (ExO (.ref (fa c)) a) → VR F H (.ref a) (.exo c none)
  | exf {a d : Addr} {c : Nat} {n : Str} {i : Int} : (c, some n) ∈ fa.xs → F a → F d → H a = some (L2.exo a (fa c) (some d)) → H d = some (exd d [(n, .int i)]) → VR F H (.ref a) (.exo c (some (n, i)))
inductive VRs (F : Addr → Prop) (H : Hp) : List V → List P → Prop
  | nil : VRs F H [] []
  | cons {v : V} {vs : List V} {x : P} {xs : List P} : VR F H v x → VRs F H vs xs → VRs F H (v :: vs) (x :: xs)
end
/-- what may be read -/
def VRr (F : Addr → Prop) (H : Hp) (v : V) : P → Prop
  | .lst xs => ∃ a vs, v = .ref a ∧ H a = some (.lst vs) ∧ VRs K fa F H vs xs
  | x => VR K fa F H v x
def SR (F : Addr → Prop) (H : Hp) (a : Addr) : SO → Prop
  | .lst xs => ∃ vs, H a = some (.lst vs) ∧ VRs K fa F H vs xs
  | .dic _ => False
/-- what a box holds -/
def DRel (F : Addr → Prop) (H : Hp) : List (P × P) → List DK.Ent → Prop
  | [], [] => True
  | q :: kvs, e :: xs => q.1.ky = some e.1 ∧ VR K fa F H (.ref e.2.1) q.1 ∧ VR K fa F H e.2.2 q.2 ∧ DRel F H kvs xs
  | _, _ => False
def SB (F : Addr → Prop) (H : Hp) (a : Addr) : SO → Prop
  | .lst xs => ∃ vs, H a = some (.lst vs) ∧ VRs K fa F H vs xs
  | .dic kvs => ∃ xs, H a = some (DK.DicO a xs) ∧ (a == sysModules) = false ∧ xs.length ≤ 50000 ∧ (xs.map (·.1)).Nodup ∧ DRel K fa F H kvs xs
structure Wok (F : Addr → Prop) (ρ : List Addr) (H : Hp) (st : Store) : Prop where
  len : ρ.length = st.length
  nd : ρ.Nodup
  box : ∀ (n : Nat) (a : Addr) (o : SO), ρ[n]? = some a → st[n]? = some o → SB K fa F H a o
  dis : ∀ a, a ∈ ρ → ¬ F a
  has : ∀ a, F a → nt H a ≠ none
  tab : LamX.Tabs fa.tb H
/-- a value; H0: where its making began -/
def DR (F : Addr → Prop) (ρ : List Addr) (H H0 : Hp) (v : V) : D → Prop
  | .p x => VR K fa F H v x
  | .new xs => ∃ a vs, v = .ref a ∧ H a = some (.lst vs) ∧ VRs K fa F H vs xs ∧ ¬ F a ∧ a ∉ ρ ∧ nt H0 a = none
  | .bor o => ∃ a, v = .ref a ∧ SR K fa F H a o ∧ a ∉ ρ
  | .box n => ∃ a, v = .ref a ∧ ρ[n]? = some a
def DRs (F : Addr → Prop) (ρ : List Addr) (H H0 : Hp) : List V → List D → Prop
  | [], [] => True
  | v :: vs, d :: ds => DR K fa F ρ H H0 v d ∧ DRs F ρ H H0 vs ds
  | _, _ => False
end
theorem ExO_nt {c : Value} {a : Addr} : ∀ ps, ExO c a ≠ .tbl ps := fun _ z => by
  unfold ExO at z
  cases z
theorem exo_nt {a C : Addr} {d : Option Addr} : ∀ ps, L2.exo a C d ≠ .tbl ps := fun _ z => by
  unfold L2.exo at z
  cases z
theorem exd_nt {d : Addr} {fs : List (Str × V)} : ∀ ps, exd d fs ≠ .tbl ps := fun _ z => by
  unfold exd at z
  cases z
structure Ext (F : Addr → Prop) (ρ : List Addr) (H : Hp) (F' : Addr → Prop) (ρ' : List Addr) (H' : Hp) : Prop where
  sub : ∀ a, F a → F' a
  new : ∀ a, F' a → F a ∨ nt H a = none
  pre : ∃ l, ρ' = ρ ++ l ∧ ∀ a ∈ l, nt H a = none
  keep : ∀ a o, H a = some o → a ∉ ρ → (∀ ps, o ≠ .tbl ps) → H' a = some o
  there : ∀ a, nt H' a = none → nt H a = none
section
variable {K : PySem.W.Frag} {fa : Fa} {F F' F2 : Addr → Prop} {ρ ρ' ρ2 : List Addr} {H H' H2 H0 : Hp} {st : Store} {v : V} {x : P} {vs : List V} {xs : List P}
theorem Ext.refl (F : Addr → Prop) (ρ : List Addr) (H : Hp) : Ext F ρ H F ρ H := ⟨fun _ h => h, fun _ h => .inl h, ⟨[], by simp, by simp⟩, fun _ _ h _ _ => h, fun _ h => h⟩
theorem Ext.trans (a : Ext F ρ H F' ρ' H') (b : Ext F' ρ' H' F2 ρ2 H2) : Ext F ρ H F2 ρ2 H2 := by
  obtain ⟨l1, e1, f1⟩ := a.pre
  obtain ⟨l2, e2, f2⟩ := b.pre
  refine ⟨fun c h => b.sub c (a.sub c h), fun c h => ?_, ⟨l1 ++ l2, by rw [e2, e1, List.append_assoc], fun c hc => ?_⟩, fun c o h hn ht => ?_, fun c h => a.there c (b.there c h)⟩
  · rcases b.new c h with h | h
    · exact a.new c h
    · exact .inr (a.there c h)
  · rcases List.mem_append.mp hc with hc | hc
    · exact f1 c hc
    · exact a.there c (f2 c hc)
  · refine b.keep c o (a.keep c o h hn ht) ?_ ht
    rw [e1]
    intro hm
    rcases List.mem_append.mp hm with hm | hm
    · exact hn hm
    · exact nt_abs (f1 c hm) h ht
mutual
theorem VR.mono2 (sub : ∀ a, F a → F' a) (kp : ∀ a o, F a → H a = some o → (∀ ps, o ≠ .tbl ps) → H' a = some o) : ∀ {v : V} {x : P}, VR K fa F H v x → VR K fa F' H' v x
  | _, _, .non => .non
  | _, _, .bl b => .bl b
  | _, _, .int b => .int b
  | _, _, .str b => .str b
  | _, _, .lst f h r => .lst (sub _ f) (kp _ _ f h (fun _ z => nomatch z)) (VRs.mono2 sub kp r)
  | _, _, .tup h r => by
    refine .tup ?_ (VRs.mono2 sub kp r)
    rcases h with ⟨f, h⟩ | h
    · exact .inl ⟨sub _ f, kp _ _ f h (fun _ z => nomatch z)⟩
    · exact .inr h
  | _, _, .fn b => .fn b
  | _, _, .scr h => by
    refine .scr ?_
    rcases h with ⟨f, h | ⟨o, h⟩⟩ | h
    · exact .inl ⟨sub _ f, .inl (kp _ _ f h (fun _ z => nomatch z))⟩
    · exact .inl ⟨sub _ f, .inr ⟨o, kp _ _ f h (fun _ z => nomatch z)⟩⟩
    · exact .inr h
  | _, _, .exo x f h => .exo x (sub _ f) (kp _ _ f h ExO_nt)
  | _, _, .exf x f g h r => .exf x (sub _ f) (sub _ g) (kp _ _ f h exo_nt) (kp _ _ g r exd_nt)
theorem VRs.mono2 (sub : ∀ a, F a → F' a) (kp : ∀ a o, F a → H a = some o → (∀ ps, o ≠ .tbl ps) → H' a = some o) : ∀ {vs : List V} {xs : List P}, VRs K fa F H vs xs → VRs K fa F' H' vs xs
  | _, _, .nil => .nil
  | _, _, .cons a b => .cons (VR.mono2 sub kp a) (VRs.mono2 sub kp b)
end
theorem VR.mono (dis : ∀ a, a ∈ ρ → ¬ F a) (e : Ext F ρ H F' ρ' H') (h : VR K fa F H v x) : VR K fa F' H' v x := h.mono2 e.sub fun a o f h t => e.keep a o h (fun z => dis a z f) t
theorem VRs.mono (dis : ∀ a, a ∈ ρ → ¬ F a) (e : Ext F ρ H F' ρ' H') (h : VRs K fa F H vs xs) : VRs K fa F' H' vs xs := h.mono2 e.sub fun a o f h t => e.keep a o h (fun z => dis a z f) t
theorem VR.sub (s : ∀ a, F a → F' a) (h : VR K fa F H v x) : VR K fa F' H v x := h.mono2 s fun _ _ _ h _ => h
theorem VRs.sub (s : ∀ a, F a → F' a) (h : VRs K fa F H vs xs) : VRs K fa F' H vs xs := h.mono2 s fun _ _ _ h _ => h
theorem SR.sub (s : ∀ a, F a → F' a) {a : Addr} {o : SO} (h : SR K fa F H a o) : SR K fa F' H a o := by
  cases o with
  | lst xs =>
    obtain ⟨vs, h1, h2⟩ := h
    exact ⟨vs, h1, h2.sub s⟩
  | dic kvs => exact h.elim
theorem SR.mono (dis : ∀ a, a ∈ ρ → ¬ F a) (e : Ext F ρ H F' ρ' H') {a : Addr} {o : SO} (ha : a ∉ ρ) (h : SR K fa F H a o) : SR K fa F' H' a o := by
  cases o with
  | lst xs =>
    obtain ⟨vs, h1, h2⟩ := h
    exact ⟨vs, e.keep _ _ h1 ha (fun _ z => nomatch z), h2.mono dis e⟩
  | dic kvs => exact h.elim
theorem SR.has {a : Addr} {o : SO} (h : SR K fa F H a o) : nt H a ≠ none := by
  cases o with
  | lst xs =>
    obtain ⟨vs, h1, h2⟩ := h
    exact nt_lst h1
  | dic kvs => exact h.elim
theorem DRel.mono2 (sub : ∀ a, F a → F' a) (kp : ∀ a o, F a → H a = some o → (∀ ps, o ≠ .tbl ps) → H' a = some o) : ∀ {kvs : List (P × P)} {xs : List DK.Ent}, DRel K fa F H kvs xs → DRel K fa F' H' kvs xs
  | [], [], _ => True.intro
  | _ :: _, _ :: _, h => ⟨h.1, h.2.1.mono2 sub kp, h.2.2.1.mono2 sub kp, DRel.mono2 sub kp h.2.2.2⟩
  | [], _ :: _, h => h.elim
  | _ :: _, [], h => h.elim
theorem SB.mono2 (sub : ∀ a, F a → F' a) (kp : ∀ a o, F a → H a = some o → (∀ ps, o ≠ .tbl ps) → H' a = some o) {a : Addr} {o : SO} (h : SB K fa F H a o) (ha : H' a = H a) : SB K fa F' H' a o := by
  cases o with
  | lst xs =>
    obtain ⟨vs, h1, h2⟩ := h
    exact ⟨vs, ha.trans h1, h2.mono2 sub kp⟩
  | dic kvs =>
    obtain ⟨xs, h1, h2, h3, h4, h5⟩ := h
    exact ⟨xs, ha.trans h1, h2, h3, h4, h5.mono2 sub kp⟩
theorem SB.sub (s : ∀ a, F a → F' a) {a : Addr} {o : SO} (h : SB K fa F H a o) : SB K fa F' H a o := h.mono2 s (fun _ _ _ h _ => h) rfl
theorem nt_dic {xs : List DK.Ent} {a : Addr} (h : H a = some (DK.DicO a xs)) : nt H a ≠ none := nt_ne h (fun _ z => nomatch z)
theorem SB.has {a : Addr} {o : SO} (h : SB K fa F H a o) : nt H a ≠ none := by
  cases o with
  | lst xs =>
    obtain ⟨vs, h1, h2⟩ := h
    exact nt_lst h1
  | dic kvs =>
    obtain ⟨xs, h1, _⟩ := h
    exact nt_dic h1
theorem SB.ob {a : Addr} {o : SO} (h : SB K fa F H a o) : ∃ u, H a = some u ∧ (∀ ps, u ≠ .tbl ps) ∧ ∀ c q, u ≠ LamX.CodeO c q := by
  cases o with
  | lst xs =>
    obtain ⟨vs, h1, h2⟩ := h
    exact ⟨_, h1, (fun _ z => nomatch z), fun _ _ z => by unfold LamX.CodeO at z; cases z⟩
  | dic kvs =>
    obtain ⟨xs, h1, _⟩ := h
    exact ⟨_, h1, (fun _ z => nomatch z), fun c q => DK.dic_code a c xs q⟩
theorem Ext.notin (e : Ext F ρ H F' ρ' H') {a : Addr} (ha : a ∉ ρ) (h : nt H a ≠ none) : a ∉ ρ' := by
  obtain ⟨l, e1, f1⟩ := e.pre
  rw [e1]
  intro hm
  rcases List.mem_append.mp hm with hm | hm
  · exact ha hm
  · exact h (f1 a hm)
theorem Ext.notF (e : Ext F ρ H F' ρ' H') {a : Addr} (ha : ¬ F a) (h : nt H a ≠ none) : ¬ F' a := fun z => (e.new a z).elim ha h
theorem Ext.at (e : Ext F ρ H F' ρ' H') {n : Nat} {a : Addr} (h : ρ[n]? = some a) : ρ'[n]? = some a := by
  obtain ⟨l, e1, f1⟩ := e.pre
  rw [e1, List.getElem?_append_left (List.getElem?_eq_some_iff.mp h).1]
  exact h
theorem DR.mono (dis : ∀ a, a ∈ ρ → ¬ F a) (e : Ext F ρ H F' ρ' H') {d : D} (h : DR K fa F ρ H H0 v d) : DR K fa F' ρ' H' H0 v d := by
  cases d with
  | p x => exact VR.mono dis e h
  | new xs =>
    obtain ⟨a, vs, e1, h1, h2, h3, h4, h5⟩ := h
    have hh := nt_lst h1
    exact ⟨a, vs, e1, e.keep _ _ h1 h4 (fun _ z => nomatch z), h2.mono dis e, e.notF h3 hh, e.notin h4 hh, h5⟩
  | bor o =>
    obtain ⟨a, e1, h1, h2⟩ := h
    exact ⟨a, e1, h1.mono dis e h2, e.notin h2 h1.has⟩
  | box n =>
    obtain ⟨a, e1, h1⟩ := h
    exact ⟨a, e1, e.at h1⟩
theorem DR.anti (e : Ext F2 ρ2 H2 F' ρ' H0) {d : D} (h : DR K fa F ρ H H0 v d) : DR K fa F ρ H H2 v d := by
  cases d with
  | p x => exact h
  | new xs =>
    obtain ⟨a, vs, e1, h1, h2, h3, h4, h5⟩ := h
    exact ⟨a, vs, e1, h1, h2, h3, h4, e.there a h5⟩
  | bor o => exact h
  | box n => exact h
theorem DRs.mono (dis : ∀ a, a ∈ ρ → ¬ F a) (e : Ext F ρ H F' ρ' H') : ∀ {vs : List V} {ds : List D}, DRs K fa F ρ H H0 vs ds → DRs K fa F' ρ' H' H0 vs ds
  | [], [], _ => True.intro
  | _ :: _, _ :: _, h => ⟨DR.mono dis e h.1, DRs.mono dis e h.2⟩
  | [], _ :: _, h => h.elim
  | _ :: _, [], h => h.elim
theorem DRs.anti (e : Ext F2 ρ2 H2 F' ρ' H0) : ∀ {vs : List V} {ds : List D}, DRs K fa F ρ H H0 vs ds → DRs K fa F ρ H H2 vs ds
  | [], [], _ => True.intro
  | _ :: _, _ :: _, h => ⟨DR.anti e h.1, DRs.anti e h.2⟩
  | [], _ :: _, h => h.elim
  | _ :: _, [], h => h.elim
theorem VR.r (h : VR K fa F H v x) : VRr K fa F H v x := by
  cases h with
  | lst f h r => exact ⟨_, _, rfl, h, r⟩
  | tup h r => exact .tup h r
  | non => exact .non
  | bl b => exact .bl b
  | int b => exact .int b
  | str b => exact .str b
  | fn b => exact .fn b
  | scr h => exact .scr h
  | exo x f h => exact .exo x f h
  | exf x f g h r => exact .exf x f g h r
theorem DR.rd (W : Wok K fa F ρ H st) {d : D} (h : DR K fa F ρ H H0 v d) (e : d.rd st = some x) : VRr K fa F H v x := by
  cases d with
  | p y =>
    cases e
    exact VR.r h
  | new xs =>
    cases e
    obtain ⟨a, vs, e1, h1, h2, h3, h4, h5⟩ := h
    exact ⟨a, vs, e1, h1, h2⟩
  | bor o =>
    cases o with
    | lst xs =>
      cases e
      obtain ⟨a, e1, ⟨vs, h1, h2⟩, h3⟩ := h
      exact ⟨a, vs, e1, h1, h2⟩
    | dic kvs => cases e
  | box n =>
    obtain ⟨a, e1, h1⟩ := h
    have e : (match st[n]? with | some (SO.lst xs) => some (P.lst xs) | _ => none) = some x := e
    cases q : st[n]? with
    | none => rw [q] at e; cases e
    | some o =>
      rw [q] at e
      cases o with
      | lst xs =>
        cases e
        obtain ⟨vs, h2, h3⟩ := W.box n a _ h1 q
        exact ⟨a, vs, e1, h2, h3⟩
      | dic kvs => cases e

variable {α β γ : Type}
/-- rel: the outcome's relation to what comes of the run; W: what is wanted of an exception -/
def Post (K : PySem.W.Frag) (fa : Fa) (rel : (Addr → Prop) → List Addr → Hp → Hp → β → α → Prop) (W : WX) (F : Addr → Prop) (ρ : List Addr) (H : Hp) (σ : St) (r : R α) (Q : β → Hp → Prop) : Prop :=
  match r with
  | .ok a st' => ∀ b F' ρ' H', Ext F ρ H F' ρ' H' → Wok K fa F' ρ' H' st' → rel F' ρ' H' H b a → Q b H'
  | .exc k x st' => ∀ F' ρ' H', Ext F ρ H F' ρ' H' → Wok K fa F' ρ' H' st' → x = none → W (.ref (fa k)) none σ H'
  | .bad => False
abbrev Rel (β α : Type) := (Addr → Prop) → List Addr → Hp → Hp → β → α → Prop
def Anti (rel : Rel β α) : Prop := ∀ F ρ H H0 H2 F2 ρ2 F3 ρ3 b a, Ext F2 ρ2 H2 F3 ρ3 H0 → rel F ρ H H0 b a → rel F ρ H H2 b a
theorem Post.step {rel1 : Rel β α} {β2 α2 : Type} {rel2 : Rel β2 α2} (an : Anti rel2) {W : WX} {σ : St} {r : R α} {f : α → Store → R α2} {Q : β2 → Hp → Prop}
    (h : Post K fa rel2 W F ρ H σ (r.bind f) Q) :
    Post K fa rel1 W F ρ H σ r (fun b H1 => ∃ F1 ρ1 a st1, Ext F ρ H F1 ρ1 H1 ∧ Wok K fa F1 ρ1 H1 st1 ∧ rel1 F1 ρ1 H1 H b a ∧ Post K fa rel2 W F1 ρ1 H1 σ (f a st1) Q) := by
  cases r with
  | bad => exact h
  | exc k x s => exact h
  | ok a st1 =>
    intro b F1 ρ1 H1 e1 w1 r1
    refine ⟨F1, ρ1, a, st1, e1, w1, r1, ?_⟩
    have h' : Post K fa rel2 W F ρ H σ (f a st1) Q := h
    cases q : f a st1 with
    | bad =>
      rw [q] at h'
      exact h'
    | exc k x s =>
      rw [q] at h'
      intro F2 ρ2 H2 e2 w2 ex
      exact h' F2 ρ2 H2 (e1.trans e2) w2 ex
    | ok a2 st2 =>
      rw [q] at h'
      intro b2 F2 ρ2 H2 e2 w2 r2
      exact h' b2 F2 ρ2 H2 (e1.trans e2) w2 (an _ _ _ _ _ _ _ _ _ _ _ e1 r2)
theorem Post.rebase {rel : Rel β α} (an : Anti rel) {W : WX} {σ : St} {r : R α} {Q : β → Hp → Prop} (h : Post K fa rel W F ρ H σ r Q) (e1 : Ext F ρ H F' ρ' H') : Post K fa rel W F' ρ' H' σ r Q := by
  cases r with
  | bad => exact h
  | exc k x s => exact fun F2 ρ2 H2 e2 w2 ex => h F2 ρ2 H2 (e1.trans e2) w2 ex
  | ok a2 st2 => exact fun b2 F2 ρ2 H2 e2 w2 r2 => h b2 F2 ρ2 H2 (e1.trans e2) w2 (an _ _ _ _ _ _ _ _ _ _ _ e1 r2)
theorem Post.step0 {F0 : Addr → Prop} {ρ0 : List Addr} {rel1 : Rel β α} {β2 α2 : Type} {rel2 : Rel β2 α2} {W : WX} {σ : St} {r : R α} {f : α → Store → R α2} {Q : β2 → Hp → Prop}
    (h : Post K fa rel2 W F0 ρ0 H0 σ (r.bind f) Q) (e0 : Ext F0 ρ0 H0 F ρ H) :
    Post K fa rel1 W F ρ H σ r (fun b H1 => ∃ F1 ρ1 a st1, Ext F ρ H F1 ρ1 H1 ∧ Wok K fa F1 ρ1 H1 st1 ∧ rel1 F1 ρ1 H1 H b a ∧ Post K fa rel2 W F0 ρ0 H0 σ (f a st1) Q) := by
  cases r with
  | bad => exact h
  | exc k x s => exact fun F' ρ' H' e w ex => h F' ρ' H' (e0.trans e) w ex
  | ok a st1 => exact fun b F1 ρ1 H1 e1 w1 r1 => ⟨F1, ρ1, a, st1, e1, w1, r1, h⟩
theorem Post.imp {rel : Rel β α} {W : WX} {σ : St} {r : R α} {Q Q' : β → Hp → Prop} (h : Post K fa rel W F ρ H σ r Q) (i : ∀ b H', Q b H' → Q' b H') : Post K fa rel W F ρ H σ r Q' := by
  cases r with
  | bad => exact h
  | exc k x s => exact h
  | ok a st1 => exact fun b F' ρ' H' e w r => i _ _ (h b F' ρ' H' e w r)
theorem Post.nx {rel : Rel β α} {W : WX} {σ : St} {r : R α} {Q : β → Hp → Prop} (h : Post K fa rel W F ρ H σ r.nx Q) : Post K fa rel (fun _ _ _ _ => False) F ρ H σ r Q := by
  cases r with
  | bad => exact h
  | exc k x s => exact h.elim
  | ok a st1 => exact h
theorem Post.ok {rel : Rel β α} {W : WX} {σ : St} {a : α} {Q : β → Hp → Prop} (h : Post K fa rel W F ρ H σ (.ok a st) Q) (w : Wok K fa F ρ H st) {b : β} (r : rel F ρ H H b a) : Q b H := h b F ρ H (.refl _ _ _) w r
end
abbrev relD (K : PySem.W.Frag) (fa : Fa) : Rel V D := fun F ρ H H0 v d => DR K fa F ρ H H0 v d
abbrev relL (K : PySem.W.Frag) (fa : Fa) : Rel (List V) (List D) := fun F ρ H H0 v d => DRs K fa F ρ H H0 v d
abbrev relE {α : Type} : Rel α α := fun _ _ _ _ b a => b = a
theorem anti_D {K : PySem.W.Frag} {fa : Fa} : Anti (relD K fa) := fun _ _ _ _ _ _ _ _ _ _ _ e h => h.anti e
theorem anti_L {K : PySem.W.Frag} {fa : Fa} : Anti (relL K fa) := fun _ _ _ _ _ _ _ _ _ _ _ e h => h.anti e
theorem anti_E {α : Type} : Anti (relE (α := α)) := fun _ _ _ _ _ _ _ _ _ _ _ e h => h

section
variable {K : PySem.W.Frag} {fa : Fa} {F : Addr → Prop} {ρ : List Addr} {H H0 : Hp} {st : Store} {p : Addr}
def addF (F : Addr → Prop) (p : Addr) : Addr → Prop := fun a => F a ∨ a = p
theorem Wok.free (W : Wok K fa F ρ H st) (hp : nt H p = none) : p ∉ ρ := fun hm => by
  obtain ⟨n, hn, e⟩ := List.getElem_of_mem hm
  have h1 : ρ[n]? = some p := by rw [List.getElem?_eq_getElem hn, e]
  have h2 : n < st.length := by rw [← W.len]; exact hn
  exact (W.box n p _ h1 (List.getElem?_eq_getElem h2)).has hp
theorem Wok.freeF (W : Wok K fa F ρ H st) (hp : nt H p = none) : ¬ F p := fun h => W.has p h hp
/-- kept by the world's own, it is a thing that may be written -/
theorem ext_new {o : HO} (hp : H p = none) (ht : ∀ ps, o ≠ .tbl ps := by intro _ z; cases z) : Ext F ρ H F ρ (upd H p o) := by
  refine ⟨fun _ h => h, fun _ h => .inl h, ⟨[], by simp, by simp⟩, fun a q h _ _ => ?_, fun a h => nt_upd ht h⟩
  rw [upd_ne (ne_of_none h hp)]
  exact h
theorem Wok.mono' {F' : Addr → Prop} {H' : Hp} (W : Wok K fa F ρ H st) (e : Ext F ρ H F' ρ H') (hb : ∀ a, a ∈ ρ → H' a = H a) (hd : ∀ a, a ∈ ρ → ¬ F' a) (hh : ∀ a, F' a → nt H' a ≠ none) (ht : LamX.Tabs fa.tb H') : Wok K fa F' ρ H' st := by
  refine ⟨W.len, W.nd, fun n a o h1 h2 => ?_, hd, hh, ht⟩
  exact (W.box n a o h1 h2).mono2 e.sub (fun a o f h t => e.keep a o h (fun z => W.dis a z f) t) (hb a (List.mem_of_getElem? h1))
theorem Wok.new {o : HO} (W : Wok K fa F ρ H st) (hp : H p = none) (ht : ∀ ps, o ≠ .tbl ps := by intro _ z; cases z) : Wok K fa F ρ (upd H p o) st := by
  refine W.mono' (ext_new hp ht) (fun a ha => upd_ne fun e => ?_) W.dis (fun a ha => fun q => W.has a ha (nt_upd ht q)) (W.tab.ext fun b o e => by rw [upd_ne (ne_of_none e hp)]; exact e)
  rw [e] at ha
  exact W.free (nt_of hp) ha
/-- from now on it stands still -/
theorem Ext.fz {F0 : Addr → Prop} {ρ0 : List Addr} (e : Ext F0 ρ0 H0 F ρ H) (hp : nt H0 p = none) : Ext F0 ρ0 H0 (addF F p) ρ H :=
  ⟨fun a h => .inl (e.sub a h), fun a h => h.elim (fun h => e.new a h) fun h => .inr (by rw [h]; exact hp), e.pre, e.keep, e.there⟩
theorem Wok.fz (W : Wok K fa F ρ H st) (hr : p ∉ ρ) (hp : nt H p ≠ none) : Wok K fa (addF F p) ρ H st :=
  ⟨W.len, W.nd, fun n a o h1 h2 => (W.box n a o h1 h2).sub fun _ h => .inl h, fun a ha h => h.elim (W.dis a ha) fun h => hr (h ▸ ha), fun a h => h.elim (W.has a) (fun h => by rw [h]; exact hp), W.tab⟩
/-- a thing that is neither table nor code is written -/
theorem tabs_updO {T : List (Addr × Str)} {a : Addr} {o : HO} (t : LamX.Tabs T H) (hu : ∃ u, H a = some u ∧ (∀ ps, u ≠ .tbl ps) ∧ ∀ c q, u ≠ LamX.CodeO c q) : LamX.Tabs T (upd H a o) := by
  intro p hp
  obtain ⟨u, ha, u1, u2⟩ := hu
  obtain ⟨ps, h1, h2, h3⟩ := t p hp
  have n1 : p.1 ≠ a := fun e => by
    rw [e, ha] at h1
    exact u1 _ (Option.some.inj h1)
  refine ⟨ps, by rw [upd_ne n1]; exact h1, h2, fun pos cv hc => ?_⟩
  obtain ⟨c, e1, e2⟩ := h3 pos cv hc
  have n2 : c ≠ a := fun e => by
    rw [e, ha] at e2
    exact u2 _ _ (Option.some.inj e2)
  exact ⟨c, e1, by rw [upd_ne n2]; exact e2⟩
/-- a list is written -/
theorem tabs_upd {T : List (Addr × Str)} {a : Addr} {xs : List V} {o : HO} (t : LamX.Tabs T H) (ha : H a = some (.lst xs)) : LamX.Tabs T (upd H a o) :=
  tabs_updO t ⟨_, ha, (fun _ z => nomatch z), fun _ _ z => by unfold LamX.CodeO at z; cases z⟩
/-- a value that is kept -/
theorem DR.keep {F0 : Addr → Prop} {ρ0 : List Addr} {v : V} {d : D} {x : P} (W : Wok K fa F ρ H st) (e0 : Ext F0 ρ0 H0 F ρ H) (h : DR K fa F ρ H H0 v d) (e : d.keep = some x) :
    ∃ F', Ext F0 ρ0 H0 F' ρ H ∧ Wok K fa F' ρ H st ∧ VR K fa F' H v x ∧ (∀ a, F a → F' a) ∧ ∀ a, F' a → F a ∨ nt H0 a = none ∧ ∃ xs vs, d = .new xs ∧ v = .ref a ∧ H a = some (.lst vs) := by
  cases d with
  | p y =>
    cases e
    exact ⟨F, e0, W, h, fun _ h => h, fun a h => .inl h⟩
  | new xs =>
    cases e
    obtain ⟨a, vs, e1, h1, h2, h3, h4, h5⟩ := h
    have ha := nt_lst h1
    refine ⟨addF F a, e0.fz h5, W.fz h4 ha, ?_, fun _ h => .inl h, fun b h => h.elim .inl fun h => .inr ?_⟩
    · rw [e1]
      exact .lst (.inr rfl) h1 (h2.sub fun _ h => .inl h)
    · subst h
      exact ⟨h5, xs, vs, rfl, e1, h1⟩
  | bor o => cases e
  | box n => cases e
end
end DE
end

section
set_option Elab.async false
set_option linter.all false
set_option maxRecDepth 100000
set_option autoImplicit false
namespace DE
open PySem PySem.Spec L2
section
variable {K : PySem.W.Frag} {fa : Fa} {F F' : Addr → Prop} {ρ : List Addr} {H H' H0 : Hp} {st : Store} {σ : L2.St} {W : WX}
abbrev W0 : WX := fun _ _ _ _ => False
/-- what is wanted of a value -/
abbrev PostD (K : PySem.W.Frag) (fa : Fa) (W : WX) (F : Addr → Prop) (ρ : List Addr) (H : Hp) (σ : L2.St) (r : R D) (Q : VK) : Prop := Post K fa (relD K fa) W F ρ H σ r Q
theorem pP {x : P} {v : V} {Q : VK} (h : PostD K fa W F ρ H σ (.ok (.p x) st) Q) (w : Wok K fa F ρ H st) (r : VR K fa F H v x) : Q v H := Post.ok h w r
theorem SqT_of {a : Addr} {vs : List V} (h : TupAt K F H a vs) : SqT K H a vs := by
  rcases h with ⟨_, h⟩ | h
  · exact SqT.of h
  · exact h H
theorem SqL_scr {a : Addr} {ns : List Int} (h : ScrAt K F H a ns) : SqL K H a (ns.map V.int) := by
  rcases h with ⟨_, h | ⟨o, h⟩⟩ | h
  · exact .inl (.inl h)
  · exact .inl (.inr ⟨o, h⟩)
  · exact h H
theorem VRs.length : ∀ {vs : List V} {xs : List P}, VRs K fa F H vs xs → vs.length = xs.length
  | _, _, .nil => rfl
  | _, _, .cons a b => by rw [List.length_cons, List.length_cons, b.length]
theorem VRs.append : ∀ {vs ws : List V} {xs ys : List P}, VRs K fa F H vs xs → VRs K fa F H ws ys → VRs K fa F H (vs ++ ws) (xs ++ ys)
  | _, _, _, _, .nil, h => h
  | _, _, _, _, .cons a b, h => .cons a (b.append h)
theorem VRs.get : ∀ {vs : List V} {xs : List P} {i : Nat} {x : P}, VRs K fa F H vs xs → xs[i]? = some x → ∃ v, vs[i]? = some v ∧ VR K fa F H v x
  | _, _, _, _, .nil, h => by simp at h
  | _, _, 0, _, .cons a b, h => by
    simp at h
    subst h
    exact ⟨_, rfl, a⟩
  | _, _, i + 1, x, .cons a b, h => by
    obtain ⟨v, h1, h2⟩ := VRs.get (i := i) (x := x) b (by simpa using h)
    exact ⟨v, by simpa using h1, h2⟩
theorem VRs.drop : ∀ {vs : List V} {xs : List P} (n : Nat), VRs K fa F H vs xs → VRs K fa F H (vs.drop n) (xs.drop n)
  | _, _, 0, h => h
  | _, _, n + 1, .nil => .nil
  | _, _, n + 1, .cons a b => b.drop n
theorem VRs.take : ∀ {vs : List V} {xs : List P} (n : Nat), VRs K fa F H vs xs → VRs K fa F H (vs.take n) (xs.take n)
  | _, _, 0, h => .nil
  | _, _, n + 1, .nil => .nil
  | _, _, n + 1, .cons a b => .cons a (b.take n)
theorem VRs.rep {vs : List V} {xs : List P} (h : VRs K fa F H vs xs) : ∀ k : Nat, VRs K fa F H (List.replicate k vs).flatten (List.replicate k xs).flatten
  | 0 => .nil
  | k + 1 => by
    rw [List.replicate_succ, List.replicate_succ, List.flatten_cons, List.flatten_cons]
    exact h.append (h.rep k)
theorem VRs.reverse : ∀ {vs : List V} {xs : List P}, VRs K fa F H vs xs → VRs K fa F H vs.reverse xs.reverse
  | _, _, .nil => .nil
  | _, _, .cons a b => by
    rw [List.reverse_cons, List.reverse_cons]
    exact b.reverse.append (.cons a .nil)
theorem VRs.setv {v : V} {x : P} (h : VR K fa F H v x) : ∀ {vs : List V} {xs : List P} (j : Nat), VRs K fa F H vs xs → VRs K fa F H (vs.set j v) (xs.set j x)
  | _, _, _, .nil => .nil
  | _, _, 0, .cons a b => .cons h b
  | _, _, j + 1, .cons a b => .cons a (b.setv h j)
/-- a new tuple -/
theorem pTup {xs : List P} {vs : List V} {Q : VK} (h : PostD K fa W F ρ H σ (.ok (.p (.tup xs)) st) Q) (w : Wok K fa F ρ H st) (r : VRs K fa F H vs xs) : ∀ p, H p = none → Q (.ref p) (upd H p (.tup vs)) := fun p hp => by
  have e := (ext_new (F := F) (ρ := ρ) (o := .tup vs) hp)
  have hh : nt (upd H p (.tup vs)) p ≠ none := nt_ne upd_same (fun _ z => nomatch z)
  refine h _ (addF F p) ρ _ (e.fz (nt_of hp)) ((w.new hp).fz (w.free (nt_of hp)) hh) (VR.tup (.inl ⟨.inr rfl, upd_same⟩) ?_)
  exact (r.mono w.dis e).sub fun _ h => .inl h
/-- a new list -/
theorem pNew {xs : List P} {vs : List V} {Q : VK} (h : PostD K fa W F ρ H σ (.ok (.new xs) st) Q) (w : Wok K fa F ρ H st) (r : VRs K fa F H vs xs) : ∀ p, H p = none → Q (.ref p) (upd H p (.lst vs)) := fun p hp => by
  have e := (ext_new (F := F) (ρ := ρ) (o := .lst vs) hp)
  exact h _ F ρ _ e (w.new hp) ⟨p, vs, rfl, upd_same, r.mono w.dis e, w.freeF (nt_of hp), w.free (nt_of hp), nt_of hp⟩
/-- the four inversions -/
theorem VRr.int {v : V} {i : Int} (h : VRr K fa F H v (.int i)) : v = .int i := by
  cases (show VR K fa F H v (.int i) from h)
  rfl
theorem VRr.bl {v : V} {i : Bool} (h : VRr K fa F H v (.bl i)) : v = .bl i := by
  cases (show VR K fa F H v (.bl i) from h)
  rfl
theorem VRr.str {v : V} {i : Str} (h : VRr K fa F H v (.str i)) : v = .str i := by
  cases (show VR K fa F H v (.str i) from h)
  rfl
theorem VRr.non {v : V} (h : VRr K fa F H v .non) : v = .non := by
  cases (show VR K fa F H v .non from h)
  rfl
theorem VRr.tup {v : V} {xs : List P} (h : VRr K fa F H v (.tup xs)) : ∃ a vs, v = .ref a ∧ TupAt K F H a vs ∧ VRs K fa F H vs xs := by
  cases (show VR K fa F H v (.tup xs) from h) with
  | tup h' r => exact ⟨_, _, rfl, h', r⟩
theorem VRr.scr {v : V} {xs : List Int} (h : VRr K fa F H v (.scr xs)) : ∃ a, v = .ref a ∧ ScrAt K F H a xs := by
  cases (show VR K fa F H v (.scr xs) from h) with
  | scr h' => exact ⟨_, rfl, h'⟩
end

section
variable {X : Cx} {fa : Fa}
def rOp2 (K : PySem.W.Frag) (fa : Fa) (f : P → P → Option P) : R2 := fun x y H Q => ∃ F ρ st px py, Wok K fa F ρ H st ∧ VRr K fa F H x px ∧ VRr K fa F H y py ∧ PostD K fa W0 F ρ H [] (mkD (f px py) st) Q
def rOpB (K : PySem.W.Frag) (fa : Fa) (f : P → P → Option Bool) : R2 := fun x y H Q => ∃ F ρ st px py, Wok K fa F ρ H st ∧ VRr K fa F H x px ∧ VRr K fa F H y py ∧ PostD K fa W0 F ρ H [] (mkB (f px py) st) Q
theorem sIx_flat {α : Type} (n : Nat) (xs : List α) : (List.replicate n xs).flatten.length = n * xs.length := PyProof.Rows.lm_len_rep_flat _ _
theorem op_add_bi : OpR X (binaryOp .Add) (fun x y H Q => ∃ k i, x = .bl k ∧ y = .int i ∧ Q (.int (b2i k + i)) H) := by
  intro pins s σ H x y v u Q I rx ry h
  obtain ⟨k, i, rfl, rfl, q⟩ := h
  obtain ⟨t, rfl⟩ := ry
  cases rx
  exact PySem.IntBool.add_bool_int ⟨.int (b2i k + i), H, I.tok _, ⟨_, rfl⟩, q⟩
theorem op_sub_bi : OpR X (binaryOp .Sub) (fun x y H Q => ∃ k i, x = .bl k ∧ y = .int i ∧ Q (.int (b2i k - i)) H) := by
  intro pins s σ H x y v u Q I rx ry h
  obtain ⟨k, i, rfl, rfl, q⟩ := h
  obtain ⟨t, rfl⟩ := ry
  cases rx
  exact PySem.IntBool.sub_bool_int ⟨.int (b2i k - i), H, I.tok _, ⟨_, rfl⟩, q⟩
theorem de_add : OpR X (binaryOp .Add) (rOp2 X.K fa opAdd) := by
  intro pins s σ H x y v u Q I rx ry h
  obtain ⟨F, ρ, st, px, py, w, hx, hy, q⟩ := h
  cases px with
  | int i =>
    cases hx.int
    cases py with
    | int j =>
      cases hy.int
      exact op_add pins s σ H _ _ v u Q I rx ry ⟨i, j, rfl, rfl, pP q w (.int _)⟩
    | bl b =>
      cases hy.bl
      exact op_add_ib pins s σ H _ _ v u Q I rx ry ⟨i, b, rfl, rfl, pP q w (.int _)⟩
    | _ => exact q.elim
  | bl b =>
    cases hx.bl
    cases py with
    | int j =>
      cases hy.int
      exact op_add_bi pins s σ H _ _ v u Q I rx ry ⟨b, j, rfl, rfl, pP q w (.int _)⟩
    | _ => exact q.elim
  | str a =>
    cases hx.str
    cases py with
    | str b =>
      cases hy.str
      have q' : PostD X.K fa W0 F ρ H [] (mkD (if small (a.length + b.length) then some (.str (a ++ b)) else none) st) Q := q
      cases hs : small (a.length + b.length) with
      | false =>
        rw [hs] at q'
        exact q'.elim
      | true =>
        rw [hs] at q'
        exact op_add_str pins s σ H _ _ v u Q I rx ry ⟨a, b, rfl, rfl, of_decide_eq_true hs, pP q' w (.str _)⟩
    | _ => exact q.elim
  | tup xs =>
    obtain ⟨a, vs, rfl, ha, hr⟩ := hx.tup
    cases py with
    | tup ys =>
      obtain ⟨b, ws, rfl, hb, hr2⟩ := hy.tup
      have q' : PostD X.K fa W0 F ρ H [] (mkD (if small (xs.length + ys.length) then some (.tup (xs ++ ys)) else none) st) Q := q
      cases hs : small (xs.length + ys.length) with
      | false =>
        rw [hs] at q'
        exact q'.elim
      | true =>
        rw [hs] at q'
        have hs' : xs.length + ys.length ≤ sizeLine := of_decide_eq_true hs
        refine op_catA pins s σ H _ _ v u Q I rx ry ⟨a, b, vs, ws, rfl, rfl, SqT_of ha, SqT_of hb, by rw [hr.length, hr2.length]; exact hs', fun e => ?_, fun _ e => ?_, fun _ _ => ?_⟩
        · subst e
          cases hr
          exact pP q' w (.tup hb hr2)
        · subst e
          cases hr2
          rw [List.append_nil] at q'
          exact pP q' w (.tup ha hr)
        · exact pTup q' w (hr.append hr2)
    | _ => exact q.elim
  | lst xs =>
    obtain ⟨a, vs, rfl, ha, hr⟩ := hx
    cases py with
    | lst ys =>
      obtain ⟨b, ws, rfl, hb, hr2⟩ := hy
      have q' : PostD X.K fa W0 F ρ H [] (mkD (if small (xs.length + ys.length) then some (.lst (xs ++ ys)) else none) st) Q := q
      cases hs : small (xs.length + ys.length) with
      | false =>
        rw [hs] at q'
        exact q'.elim
      | true =>
        rw [hs] at q'
        have hs' : xs.length + ys.length ≤ sizeLine := of_decide_eq_true hs
        exact op_cat pins s σ H _ _ v u Q I rx ry ⟨a, b, vs, ws, rfl, rfl, ha, hb, by rw [hr.length, hr2.length]; exact hs', pNew q' w (hr.append hr2)⟩
    | _ => exact q.elim
  | _ => exact q.elim
theorem ite_post {K : PySem.W.Frag} {F : Addr → Prop} {ρ : List Addr} {H : Hp} {σ : L2.St} {W : WX} {st : Store} {b : Bool} {x : P} {Q : VK} (q : PostD K fa W F ρ H σ (mkD (if b = true then some x else none) st) Q) : b = true ∧ PostD K fa W F ρ H σ (mkD (some x) st) Q := by
  cases b with
  | false => exact q.elim
  | true => exact ⟨rfl, q⟩
theorem de_bin1 (op : Operator) (hop : op ≠ .Mult) : OpR X (binaryOp op) (rOp2 X.K fa (opBin op)) := by
  cases op with
  | Add => exact de_add
  | Sub =>
    intro pins s σ H x y v u Q I rx ry h
    obtain ⟨F, ρ, st, px, py, w, hx, hy, q⟩ := h
    cases px with
    | int i =>
      cases hx.int
      cases py with
      | int j =>
        cases hy.int
        exact op_sub pins s σ H _ _ v u Q I rx ry ⟨i, j, rfl, rfl, pP q w (.int _)⟩
      | _ => exact q.elim
    | bl b =>
      cases hx.bl
      cases py with
      | int j =>
        cases hy.int
        exact op_sub_bi pins s σ H _ _ v u Q I rx ry ⟨b, j, rfl, rfl, pP q w (.int _)⟩
      | _ => exact q.elim
    | _ => exact q.elim
  | Mult => exact absurd rfl hop
  | FloorDiv =>
    intro pins s σ H x y v u Q I rx ry h
    obtain ⟨F, ρ, st, px, py, w, hx, hy, q⟩ := h
    cases px with
    | int i =>
      cases hx.int
      cases py with
      | int j =>
        cases hy.int
        obtain ⟨hd, q⟩ := ite_post (b := divOk j) q
        have hd' : 0 < j ∧ j.natAbs.log2 < 9000 := by simpa [divOk] using hd
        exact op_fdivW pins s σ H _ _ v u Q I rx ry ⟨i, j, rfl, rfl, hd', pP q w (.int _)⟩
      | _ => exact q.elim
    | _ => exact q.elim
  | Mod =>
    intro pins s σ H x y v u Q I rx ry h
    obtain ⟨F, ρ, st, px, py, w, hx, hy, q⟩ := h
    cases px with
    | int i =>
      cases hx.int
      cases py with
      | int j =>
        cases hy.int
        obtain ⟨hd, q⟩ := ite_post (b := decide (0 < j)) q
        exact op_mod pins s σ H _ _ v u Q I rx ry ⟨i, j, rfl, rfl, of_decide_eq_true hd, pP q w (.int _)⟩
      | _ => exact q.elim
    | _ => exact q.elim
  | Pow =>
    intro pins s σ H x y v u Q I rx ry h
    obtain ⟨F, ρ, st, px, py, w, hx, hy, q⟩ := h
    cases px with
    | int i =>
      cases hx.int
      cases py with
      | int j =>
        cases hy.int
        obtain ⟨hd, q⟩ := ite_post (b := decide (0 ≤ j) && decide (j ≤ 1000000) && decide (i.natAbs < 2 ^ 64)) q
        have hd' : (0 ≤ j ∧ j ≤ 1000000) ∧ i.natAbs < 2 ^ 64 := by simpa using hd
        exact op_pow pins s σ H _ _ v u Q I rx ry ⟨i, j, rfl, rfl, ⟨hd'.1.1, hd'.1.2, hd'.2⟩, pP q w (.int _)⟩
      | _ => exact q.elim
    | _ => exact q.elim
  | _ =>
    intro pins s σ H x y v u Q I rx ry h
    obtain ⟨F, ρ, st, px, py, w, hx, hy, q⟩ := h
    cases px <;> cases py <;> exact q.elim
mutual
theorem VR.dp {K : PySem.W.Frag} {F : Addr → Prop} {H : Hp} : ∀ {v : V} {x : P} {d : PyData}, VR K fa F H v x → x.pd = some d → Dp K H v d
  | _, _, _, .non, e => by
    cases e
    exact .non
  | _, _, _, .bl b, e => by
    cases e
    exact .bl b
  | _, _, _, .int b, e => by
    cases e
    exact .int b
  | _, _, _, .str b, e => by
    cases e
    exact .str b
  | _, _, _, .lst (xs := xs) f h r, e => by
    unfold P.pd at e
    cases q : P.pds xs with
    | none =>
      rw [q] at e
      cases e
    | some ds =>
      rw [q] at e
      cases e
      exact .lst (SqL.of h) (VRs.dp r q)
  | _, _, _, .tup (xs := xs) h r, e => by
    unfold P.pd at e
    cases q : P.pds xs with
    | none =>
      rw [q] at e
      cases e
    | some ds =>
      rw [q] at e
      cases e
      exact .tup (SqT_of h) (VRs.dp r q)
  | _, _, _, .fn b, e => by cases e
  | _, _, _, .scr h, e => by cases e
  | _, _, _, .exo _ _ _, e => by cases e
  | _, _, _, .exf _ _ _ _ _, e => by cases e
theorem VRs.dp {K : PySem.W.Frag} {F : Addr → Prop} {H : Hp} : ∀ {vs : List V} {xs : List P} {ds : List PyData}, VRs K fa F H vs xs → P.pds xs = some ds → DpAll K H vs ds
  | _, _, _, .nil, e => by
    cases e
    exact .nil
  | _, _, _, .cons (x := x) (xs := xs) a b, e => by
    unfold P.pds at e
    cases q : P.pd x with
    | none =>
      rw [q] at e
      cases e
    | some d =>
      cases q2 : P.pds xs with
      | none =>
        rw [q, q2] at e
        cases e
      | some ds =>
        rw [q, q2] at e
        cases e
        exact .cons (VR.dp a q) (VRs.dp b q2)
end
theorem VRr.dp {K : PySem.W.Frag} {F : Addr → Prop} {H : Hp} {v : V} {x : P} {d : PyData} (h : VRr K fa F H v x) (e : x.pd = some d) : Dp K H v d := by
  cases x with
  | lst xs =>
    obtain ⟨a, vs, rfl, ha, r⟩ := h
    unfold P.pd at e
    cases q : P.pds xs with
    | none =>
      rw [q] at e
      cases e
    | some ds =>
      rw [q] at e
      cases e
      exact .lst (SqL.of ha) (VRs.dp r q)
  | _ => exact VR.dp h e
theorem opEq_some {x y : P} {b : Bool} (h : opEq x y = some b) : ∃ d e, x.pd = some d ∧ y.pd = some e ∧ SeqAt.shaped d = true ∧ SeqAt.shaped e = true ∧ b = PyData.eqv d e := by
  unfold opEq at h
  cases q : x.pd with
  | none =>
    rw [q] at h
    cases h
  | some d =>
    cases q2 : y.pd with
    | none =>
      rw [q, q2] at h
      cases h
    | some e =>
      rw [q, q2] at h
      have h : (if (SeqAt.shaped d && SeqAt.shaped e) = true then some (PyData.eqv d e) else none) = some b := h
      cases z : SeqAt.shaped d && SeqAt.shaped e with
      | false =>
        rw [z] at h
        cases h
      | true =>
        rw [z] at h
        cases h
        obtain ⟨z1, z2⟩ := Bool.and_eq_true_iff.mp z
        exact ⟨d, e, rfl, rfl, z1, z2, rfl⟩
theorem postB {K : PySem.W.Frag} {F : Addr → Prop} {ρ : List Addr} {H : Hp} {σ : L2.St} {W : WX} {st : Store} {o : Option Bool} {Q : VK} (w : Wok K fa F ρ H st) (q : PostD K fa W F ρ H σ (mkB o st) Q) : ∃ b, o = some b ∧ Q (.bl b) H := by
  cases o with
  | none => exact q.elim
  | some b => exact ⟨b, rfl, pP q w (.bl b)⟩
theorem flat_ok {K : PySem.W.Frag} {F : Addr → Prop} {H : Hp} {v : V} {x : P} (h : VR K fa F H v x) (f : x.flat = true) : flatV v = true := by
  cases h <;> first | rfl | cases f
theorem flats_ok {K : PySem.W.Frag} {F : Addr → Prop} {H : Hp} : ∀ {vs : List V} {xs : List P}, VRs K fa F H vs xs → xs.all P.flat = true → vs.all flatV = true
  | _, _, .nil, _ => rfl
  | _, _, .cons a b, f => by
    rw [List.all_cons, Bool.and_eq_true] at f ⊢
    exact ⟨flat_ok a f.1, flats_ok b f.2⟩
theorem eqV_ok {K : PySem.W.Frag} {F : Addr → Prop} {H : Hp} {v u : V} {x y : P} {b : Bool} (h : VR K fa F H v x) (h2 : VR K fa F H u y) (f : x.flat = true) (f2 : y.flat = true) (e : opEq y x = some b) : eqV u v = b := by
  obtain ⟨d, d2, e1, e2, _, _, rfl⟩ := opEq_some e
  cases h <;> (try cases f) <;> cases h2 <;> (try cases f2) <;> cases e1 <;> cases e2 <;> simp [eqV, PyData.eqv]
theorem inV_ok {K : PySem.W.Frag} {F : Addr → Prop} {H : Hp} {v : V} {x : P} {b : Bool} (h : VR K fa F H v x) (f : x.flat = true) : ∀ {vs : List V} {xs : List P}, VRs K fa F H vs xs → xs.all P.flat = true → anyEq x xs = some b → inV v vs = b
  | _, _, .nil, _, e => by
    cases e
    rfl
  | _, _, .cons (v := u) (vs := us) (x := y) (xs := ys) a r, f2, e => by
    rw [List.all_cons, Bool.and_eq_true] at f2
    unfold anyEq at e
    show (eqV u v || inV v us) = b
    cases q : opEq y x with
    | none =>
      rw [q] at e
      cases e
    | some c =>
      rw [q] at e
      rw [eqV_ok h a f f2.1 q]
      cases c with
      | true =>
        cases e
        rfl
      | false =>
        rw [Bool.false_or]
        exact inV_ok h f r f2.2 e
theorem de_cmp (hu : X.A.units + 64 < cLine) (op : CmpOp) : OpR X (compareOp op) (rOpB X.K fa (opCmp op)) := by
  have hin : ∀ (neg : Bool) (pins : List (Addr × Obj)) (s : Shared) (σ : L2.St) (H : Hp) (x y : V) (v u : Value) (Q : VK), Inv X pins σ H s → RelV x v → RelV y u → rOpB X.K fa (fun x y => (opIn x y).map (fun b => if neg then !b else b)) x y H Q →
      wpAny (model X.prog X.w) X.A (compareOp (if neg then .NotIn else .In) v u) (EP X pins σ Q) X.xe s := by
    intro neg pins s σ H x y v u Q I rx ry h
    obtain ⟨F, ρ, st, px, py, w, hx, hy, q⟩ := h
    obtain ⟨b, e, qb⟩ := postB w q
    have e : (opIn px py).map (fun b => if neg = true then !b else b) = some b := e
    have e' : ∃ c, opIn px py = some c ∧ b = if neg then !c else c := by
      cases z : opIn px py with
      | none =>
        rw [z] at e
        cases e
      | some c =>
        rw [z] at e
        exact ⟨c, rfl, (Option.some.inj e).symm⟩
    obtain ⟨c, e1, e2⟩ := e'
    subst e2
    have seq : ∀ (p : Addr) (vs : List V) (ys : List P), y = .ref p → (SqL X.K H p vs ∨ SqT X.K H p vs) → VRs X.K fa F H vs ys → (if (px.flat && ys.all P.flat) = true then anyEq px ys else none) = some c → wpAny (model X.prog X.w) X.A (compareOp (if neg then .NotIn else .In) v u) (EP X pins σ Q) X.xe s := by
      intro p vs ys ey hs hr e3
      cases z : px.flat && ys.all P.flat with
      | false =>
        rw [z] at e3
        cases e3
      | true =>
        rw [z] at e3
        obtain ⟨z1, z2⟩ := Bool.and_eq_true_iff.mp z
        have hx' : VR X.K fa F H x px := by
          cases px <;> first | exact hx | cases z1
        have e4 := inV_ok hx' z1 hr z2 e3
        cases neg with
        | false => exact op_in_seq pins s σ H x y v u Q I rx ry ⟨p, vs, ey, hs, flat_ok hx' z1, flats_ok hr z2, by rw [e4, if_neg Bool.false_ne_true]; exact qb⟩
        | true => exact op_notIn_seq pins s σ H x y v u Q I rx ry ⟨p, vs, ey, hs, flat_ok hx' z1, flats_ok hr z2, by rw [e4, if_pos rfl]; exact qb⟩
    cases py with
    | tup ys =>
      obtain ⟨a, vs, ea, ha, hr⟩ := hy.tup
      exact seq a vs ys ea (.inr (SqT_of ha)) hr e1
    | lst ys =>
      obtain ⟨a, vs, ea, ha, hr⟩ := hy
      exact seq a vs ys ea (.inl (SqL.of ha)) hr e1
    | str z =>
      cases hy.str
      cases px with
      | str c1 =>
        cases hx.str
        have e3 : (if (c1.length == 1) = true then some (decide (c1.cps.getD 0 0 ∈ z.cps.toList)) else none) = some c := e1
        cases hl : c1.length == 1 with
        | false =>
          rw [hl] at e3
          cases e3
        | true =>
          rw [hl] at e3
          have e4 := Option.some.inj e3
          have hc : ∃ c0, c1 = ⟨#[c0]⟩ ∧ c1.cps.getD 0 0 = c0 := by
            obtain ⟨arr⟩ := c1
            have hl' : arr.size = 1 := by simpa [Str.length] using hl
            obtain ⟨l⟩ := arr
            match l, hl' with
            | [c0], _ => exact ⟨c0, rfl, rfl⟩
          obtain ⟨c0, rfl, e5⟩ := hc
          rw [e5] at e4
          cases neg with
          | false => exact op_in_sign pins s σ H _ _ v u Q I rx ry ⟨c0, z, rfl, rfl, by rw [e4]; exact qb⟩
          | true => exact op_notIn_sign pins s σ H _ _ v u Q I rx ry ⟨c0, z, rfl, rfl, by rw [e4]; exact qb⟩
      | _ => cases e1
    | _ => cases e1
  cases op with
  | Eq =>
    intro pins s σ H x y v u Q I rx ry h
    obtain ⟨F, ρ, st, px, py, w, hx, hy, q⟩ := h
    obtain ⟨b, e, q⟩ := postB w q
    obtain ⟨d, e', h1, h2, s1, s2, rfl⟩ := opEq_some e
    exact op_eqD hu pins s σ H x y v u Q I rx ry ⟨d, e', hx.dp h1, hy.dp h2, s1, s2, q⟩
  | NotEq =>
    intro pins s σ H x y v u Q I rx ry h
    obtain ⟨F, ρ, st, px, py, w, hx, hy, q⟩ := h
    obtain ⟨b, e, q⟩ := postB w q
    have e : (opEq px py).map not = some b := e
    cases z : opEq px py with
    | none =>
      rw [z] at e
      cases e
    | some c =>
      rw [z] at e
      cases e
      obtain ⟨d, e', h1, h2, s1, s2, rfl⟩ := opEq_some z
      exact op_neD hu pins s σ H x y v u Q I rx ry ⟨d, e', hx.dp h1, hy.dp h2, s1, s2, q⟩
  | In =>
    intro pins s σ H x y v u Q I rx ry h
    refine hin false pins s σ H x y v u Q I rx ry ?_
    obtain ⟨F, ρ, st, px, py, w, hx, hy, q⟩ := h
    refine ⟨F, ρ, st, px, py, w, hx, hy, ?_⟩
    have e : (opIn px py).map (fun b => if false = true then !b else b) = opIn px py := by
      cases opIn px py <;> rfl
    show PostD _ _ _ _ _ _ _ (mkB ((opIn px py).map (fun b => if false = true then !b else b)) st) Q
    rw [e]
    exact q
  | NotIn =>
    intro pins s σ H x y v u Q I rx ry h
    refine hin true pins s σ H x y v u Q I rx ry ?_
    obtain ⟨F, ρ, st, px, py, w, hx, hy, q⟩ := h
    exact ⟨F, ρ, st, px, py, w, hx, hy, q⟩
  | Is =>
    intro pins s σ H x y v u Q I rx ry h
    obtain ⟨F, ρ, st, px, py, w, hx, hy, q⟩ := h
    obtain ⟨b, e, q⟩ := postB w q
    cases py with
    | non =>
      cases hy.non
      refine op_isN pins s σ H _ _ v u Q I rx ry ⟨rfl, ?_⟩
      cases e
      have z : decide (x = V.non) = px.isNon := by
        cases px with
        | lst xs =>
          obtain ⟨a, vs, rfl, _⟩ := hx
          rfl
        | tup xs =>
          obtain ⟨a, vs, rfl, _⟩ := hx.tup
          rfl
        | _ => cases (show VR X.K fa F H x _ from hx) <;> rfl
      rw [z]
      exact q
    | bl b2 =>
      cases hy.bl
      cases px with
      | bl b1 =>
        cases hx.bl
        cases e
        exact op_isBl pins s σ H _ _ v u Q I rx ry ⟨b1, b2, rfl, rfl, q⟩
      | _ => cases e
    | _ => cases px <;> cases e
  | IsNot =>
    intro pins s σ H x y v u Q I rx ry h
    obtain ⟨F, ρ, st, px, py, w, hx, hy, q⟩ := h
    obtain ⟨b, e, q⟩ := postB w q
    cases py with
    | non =>
      cases hy.non
      refine op_notN pins s σ H _ _ v u Q I rx ry ⟨rfl, ?_⟩
      cases e
      have z : decide (x = V.non) = px.isNon := by
        cases px with
        | lst xs =>
          obtain ⟨a, vs, rfl, _⟩ := hx
          rfl
        | tup xs =>
          obtain ⟨a, vs, rfl, _⟩ := hx.tup
          rfl
        | _ => cases (show VR X.K fa F H x _ from hx) <;> rfl
      rw [z]
      exact q
    | bl b2 =>
      cases hy.bl
      cases px with
      | bl b1 =>
        cases hx.bl
        cases e
        exact op_notBl pins s σ H _ _ v u Q I rx ry ⟨b1, b2, rfl, rfl, q⟩
      | _ => cases e
    | _ => cases px <;> cases e
  | Lt =>
    intro pins s σ H x y v u Q I rx ry h
    obtain ⟨F, ρ, st, px, py, w, hx, hy, q⟩ := h
    obtain ⟨b, e, q⟩ := postB w q
    cases px <;> first | (cases e; done) | skip
    cases py <;> first | (cases e; done) | skip
    cases hx.int
    cases hy.int
    cases e
    exact op_lt pins s σ H _ _ v u Q I rx ry ⟨_, _, rfl, rfl, q⟩
  | LtE =>
    intro pins s σ H x y v u Q I rx ry h
    obtain ⟨F, ρ, st, px, py, w, hx, hy, q⟩ := h
    obtain ⟨b, e, q⟩ := postB w q
    cases px <;> first | (cases e; done) | skip
    cases py <;> first | (cases e; done) | skip
    cases hx.int
    cases hy.int
    cases e
    exact op_le pins s σ H _ _ v u Q I rx ry ⟨_, _, rfl, rfl, q⟩
  | Gt =>
    intro pins s σ H x y v u Q I rx ry h
    obtain ⟨F, ρ, st, px, py, w, hx, hy, q⟩ := h
    obtain ⟨b, e, q⟩ := postB w q
    cases px <;> first | (cases e; done) | skip
    cases py <;> first | (cases e; done) | skip
    cases hx.int
    cases hy.int
    cases e
    exact op_gt pins s σ H _ _ v u Q I rx ry ⟨_, _, rfl, rfl, q⟩
  | GtE =>
    intro pins s σ H x y v u Q I rx ry h
    obtain ⟨F, ρ, st, px, py, w, hx, hy, q⟩ := h
    obtain ⟨b, e, q⟩ := postB w q
    cases px <;> first | (cases e; done) | skip
    cases py <;> first | (cases e; done) | skip
    cases hx.int
    cases hy.int
    cases e
    exact op_ge pins s σ H _ _ v u Q I rx ry ⟨_, _, rfl, rfl, q⟩
end
end DE
end

section
set_option Elab.async false
set_option linter.all false
set_option maxRecDepth 100000
set_option autoImplicit false
namespace DE
open PySem PySem.Spec L2 PyProof.Rows
theorem tuple_mul_same (l : Addr) (items : Array Value) (n : Nat) (dd : Option Addr) (sl : Array (Option Value)) (x : Int) (u : Tok) (c0 : (decide (x < -(2 ^ 63)) || decide (x ≥ 2 ^ 63)) = false) (c1 : (items.isEmpty || x == 1) = true) :
    Meets (Builtin.«tuple.__mul__» ⟨[.ref l, .int x u], []⟩) (fun _ R s => s.heap.get? l = some { cls := .type "tuple", dict := dd, data := .seq items n, slots := sl } ∧
      R (.ok (.ret (Value.ref l))) s) :=
  .of_wp fun prog w A R s h => by
    obtain ⟨hp, g, d, tk, os⟩ := s
    obtain ⟨hl, h⟩ := h
    have f1 := AutoSeq1.idx_int
    wp_walk using wpAny_loadPart' hl
    repeat (first
      | (refine wpAny_ite_false (decide_eq_false (by rw [c0]; exact Bool.false_ne_true)) ?_; wp_walk using wpAny_loadPart' hl)
      | (refine wpAny_ite_true (decide_eq_true c1) ?_; wp_walk using wpAny_loadPart' hl))
    exact ⟨_, rfl, h⟩
theorem tuple_mul_none (l : Addr) (items : Array Value) (n : Nat) (dd : Option Addr) (sl : Array (Option Value)) (x : Int) (u : Tok) (c0 : (decide (x < -(2 ^ 63)) || decide (x ≥ 2 ^ 63)) = false) (c1 : (items.isEmpty || x == 1) = false) (c2 : (decide (x ≤ 0) || items.isEmpty) = true) :
    Meets (Builtin.«tuple.__mul__» ⟨[.ref l, .int x u], []⟩) (fun _ R s => s.heap.get? l = some { cls := .type "tuple", dict := dd, data := .seq items n, slots := sl } ∧
      R (.ok (.ret (Value.ref s.heap.objs.size))) { s with heap := s.heap.push { cls := Value.type "tuple", data := Data.seq #[] }, toks := s.toks }) :=
  .of_wp fun prog w A R s h => by
    obtain ⟨hp, g, d, tk, os⟩ := s
    obtain ⟨hl, h⟩ := h
    have f1 := AutoSeq1.idx_int
    wp_walk using wpAny_loadPart' hl
    repeat (first
      | (refine wpAny_ite_false (decide_eq_false (by rw [c0]; exact Bool.false_ne_true)) ?_; wp_walk using wpAny_loadPart' hl)
      | (refine wpAny_ite_false (decide_eq_false (by rw [c1]; exact Bool.false_ne_true)) ?_; wp_walk using wpAny_loadPart' hl)
      | (refine wpAny_ite_true (decide_eq_true c2) ?_; wp_walk using wpAny_loadPart' hl))
    exact ⟨_, rfl, h⟩

section
variable {X : Cx} {fa : Fa}
/-- tuple * int, any int of a small size -/
def rRepA (K : PySem.W.Frag) : R2 := fun x y H Q => ∃ l k xs, x = .ref l ∧ y = .int k ∧ SqT K H l xs ∧ -1000 ≤ k ∧ k ≤ 1000 ∧ xs.length ≤ 1000 ∧
  ((xs = [] ∨ k = 1) → Q (.ref l) H) ∧ ((xs ≠ [] ∧ k ≠ 1) → ∀ p, H p = none → Q (.ref p) (upd H p (.tup (List.replicate k.toNat xs).flatten)))
theorem op_repA : OpR X (binaryOp .Mult) (rRepA X.K) := by
  intro pins s σ H x y v u Q I rx ry h
  obtain ⟨l, k, xs, rfl, rfl, hT, h1, h2, hz, q1, q2⟩ := h
  by_cases hb : xs ≠ [] ∧ 2 ≤ k
  · exact op_repT pins s σ H _ _ v u Q I rx ry ⟨l, k, xs, rfl, rfl, hT, hb.1, hb.2, h2, hz, q2 ⟨hb.1, by omega⟩⟩
  cases rx
  obtain ⟨t, rfl⟩ := ry
  obtain ⟨its, r, ⟨⟨cls, dd, data, sl⟩, ho, hc, n, hd⟩, hs⟩ := I.tuple hT
  simp only at hc hd
  subst hc hd
  have hle : its.length = xs.length := r.length.symm
  have c0 : (decide (k < -(2 ^ 63)) || decide (k ≥ 2 ^ 63)) = false := by
    rw [decide_eq_false (by omega), decide_eq_false (by omega)] <;> rfl
  refine wpAny_binaryOp_repeat_ref (T := "tuple") (U := "int") (by decide) ⟨_, ho, rfl⟩ (fun s' => typeIs_int s' k t) noFill_tuple_mul F.fills_int_mul F.slot_int_rmul repeat_tuple F.slot_int_index.lookup
    (call_meets F.slot_int_rmul (typeIs_int s k t) F.entry_int_rmul (F.args_int_rmul_2 _ _) (int_rmul_tuple k t l its.toArray n dd sl)
      ⟨ho, rfl, ⟨_, ho, rfl⟩, ?_⟩)
  by_cases hc : xs = [] ∨ k = 1
  · have c1 : (its.toArray.isEmpty || k == 1) = true := by
      rcases hc with e | e
      · have e2 : its = [] := List.eq_nil_of_length_eq_zero (by rw [hle, e]; rfl)
        rw [e2] <;> rfl
      · rw [e] <;> simp
    exact call_meets F.slot_tuple_mul ⟨_, ho, rfl⟩ F.entry_tuple_mul (F.args_tuple_mul_2 _ _) (tuple_mul_same l its.toArray n dd sl k t c0 c1) ⟨ho, .ref l, H, I, rfl, q1 hc⟩
  · have hn : xs ≠ [] := fun e => hc (.inl e)
    have hk : k ≠ 1 := fun e => hc (.inr e)
    have hk0 : k ≤ 0 := by
      by_cases z : 2 ≤ k
      · exact absurd ⟨hn, z⟩ hb
      · omega
    have hi : its.toArray.isEmpty = false := by
      cases its with
      | nil => exact absurd (List.eq_nil_of_length_eq_zero (by rw [← hle]; rfl)) hn
      | cons a b => rfl
    have c1 : (its.toArray.isEmpty || k == 1) = false := by
      rw [hi, Bool.false_or]
      exact beq_eq_false_iff_ne.mpr hk
    have c2 : (decide (k ≤ 0) || its.toArray.isEmpty) = true := by
      rw [decide_eq_true hk0] <;> rfl
    have ek : k.toNat = 0 := by omega
    have q := q2 ⟨hn, hk⟩
    rw [ek] at q
    refine call_meets F.slot_tuple_mul ⟨_, ho, rfl⟩ F.entry_tuple_mul (F.args_tuple_mul_2 _ _) (tuple_mul_none l its.toArray n dd sl k t c0 c1 c2) ⟨ho, ?_⟩
    refine ⟨.ref s.heap.objs.size, _, I.laid (t' := s.toks) (o := .tup []) (fun b ob q => Heap.get?_push_of_some _ q) (Nat.le_refl _) ?_, rfl, q _ (I.hok.fresh (Nat.le_refl _))⟩
    exact ⟨Nat.zero_le _, [], .nil, IsTup.new _ _⟩
theorem foldl_arr (a : Array Nat) : ∀ (m : Nat) (acc : Array Nat), List.foldl (fun x y => x ++ y) acc (List.replicate m a) = acc ++ (List.replicate m a.toList).flatten.toArray
  | 0, acc => by simp
  | m + 1, acc => by
    rw [List.replicate_succ, List.foldl_cons, foldl_arr a m, List.replicate_succ, List.flatten_cons]
    rw [Array.append_assoc]
    congr 1
    simp
theorem op_repS : OpR X (binaryOp .Mult) (fun x y H Q => ∃ z k, x = .str z ∧ y = .int k ∧ -1000 ≤ k ∧ k ≤ 1000 ∧ z.length ≤ 1000 ∧ Q (.str ⟨(rep k z.cps.toList).toArray⟩) H) := by
  intro pins s σ H x y v u Q I rx ry h
  obtain ⟨z, k, rfl, rfl, h1, h2, hz, q⟩ := h
  obtain ⟨t, rfl⟩ := rx
  obtain ⟨t', rfl⟩ := ry
  have hlen : z.length = z.cps.toList.length := by simp [Str.length]
  refine P.mul_str (by rw [decide_eq_false (by omega), decide_eq_false (by omega)] <;> rfl) (fun a b => ?_) (fun a b => ?_) ?_
  · have hk : 0 < k := by omega
    have h3 : (1000 : Int) ≤ (2 ^ 63 - 1) / k := by
      rw [Int.le_ediv_iff_mul_le hk]
      omega
    omega
  · unfold Builtin.Str.tooLong
    rw [sizeLine_eq]
    have a1 : z.length * k.toNat ≤ 1000 * 1000 := Nat.mul_le_mul hz (by omega)
    exact decide_eq_false (by omega)
  · by_cases hk : k < 1
    · rw [if_pos hk]
      have e : rep k z.cps.toList = [] := by
        unfold rep
        rw [show k.toNat = 0 by omega] <;> rfl
      rw [e] at q
      exact ⟨by decide, ⟨.str _, H, I.tok _, ⟨_, rfl⟩, q⟩⟩
    · rw [if_neg hk]
      by_cases hc : (k == 1 || z.length == 0) = true
      · rw [if_pos hc]
        have e : rep k z.cps.toList = z.cps.toList := by
          unfold rep
          rw [Bool.or_eq_true] at hc
          rcases hc with e | e
          · rw [show k.toNat = 1 by have := beq_iff_eq.mp e; omega]
            simp
          · have e2 : z.cps.toList = [] := List.eq_nil_of_length_eq_zero (by rw [← hlen]; exact beq_iff_eq.mp e)
            rw [e2]
            simp
        rw [e] at q
        exact ⟨.str z, H, I, ⟨_, rfl⟩, q⟩
      · rw [if_neg hc]
        have e : List.foldl (fun x y => x ++ y) #[] (List.replicate k.toNat z.cps) = (rep k z.cps.toList).toArray := by
          rw [foldl_arr]
          simp [rep]
        rw [e]
        refine ⟨?_, ⟨.str _, H, I.tok _, ⟨_, rfl⟩, q⟩⟩
        show ((rep k z.cps.toList).toArray).size ≤ sizeLine
        rw [List.size_toArray]
        unfold rep
        rw [PyProof.Rows.lm_len_rep_flat, ← hlen, sizeLine_eq]
        have a1 : k.toNat * z.length ≤ 1000 * 1000 := Nat.mul_le_mul (by omega) hz
        omega
theorem de_mul : OpR X (binaryOp .Mult) (rOp2 X.K fa opMul) := by
  intro pins s σ H x y v u Q I rx ry h
  obtain ⟨F, ρ, st, px, py, w, hx, hy, q⟩ := h
  cases py with
  | int k =>
    cases hy.int
    cases px with
    | int i =>
      cases hx.int
      obtain ⟨hm, q⟩ := ite_post (b := mulOk i k) q
      have hm' : CMul i k := by
        unfold mulOk at hm
        rw [Bool.or_eq_true] at hm
        exact hm.imp of_decide_eq_true of_decide_eq_true
      exact op_mul pins s σ H _ _ v u Q I rx ry ⟨i, k, rfl, rfl, hm', pP q w (.int _)⟩
    | str z =>
      cases hx.str
      obtain ⟨hm, q⟩ := ite_post (b := decide (k ≤ 1000) && decide (-1000 ≤ k) && decide (z.length ≤ 1000)) q
      have hm' : (k ≤ 1000 ∧ -1000 ≤ k) ∧ z.length ≤ 1000 := by simpa using hm
      exact op_repS pins s σ H _ _ v u Q I rx ry ⟨z, k, rfl, rfl, hm'.1.2, hm'.1.1, hm'.2, pP q w (.str _)⟩
    | tup xs =>
      obtain ⟨a, vs, rfl, ha, hr⟩ := hx.tup
      obtain ⟨hm, q⟩ := ite_post (b := decide (k ≤ 1000) && decide (-1000 ≤ k) && decide (xs.length ≤ 1000)) q
      have hm' : (k ≤ 1000 ∧ -1000 ≤ k) ∧ xs.length ≤ 1000 := by simpa using hm
      refine op_repA pins s σ H _ _ v u Q I rx ry ⟨a, k, vs, rfl, rfl, SqT_of ha, hm'.1.2, hm'.1.1, by rw [hr.length]; exact hm'.2, fun e => ?_, fun e => ?_⟩
      · rcases e with e | e
        · subst e
          cases hr
          have e2 : rep k ([] : List P) = [] := by
            unfold rep
            simp
          rw [e2] at q
          exact pP q w (.tup ha .nil)
        · have e2 : rep k xs = xs := by
            unfold rep
            rw [e]
            simp
          rw [e2] at q
          exact pP q w (.tup ha hr)
      · exact pTup q w (hr.rep k.toNat)
    | lst xs =>
      obtain ⟨a, vs, rfl, ha, hr⟩ := hx
      obtain ⟨hm, q⟩ := ite_post (b := decide (k ≤ 1000) && decide (-1000 ≤ k) && decide (xs.length ≤ 1000)) q
      have hm' : (k ≤ 1000 ∧ -1000 ≤ k) ∧ xs.length ≤ 1000 := by simpa using hm
      refine op_rep pins s σ H _ _ v u Q I rx ry ⟨a, k, vs, rfl, rfl, ha, by omega, by omega, ?_, pNew q w (hr.rep k.toNat)⟩
      rw [hr.length, sizeLine_eq]
      have a1 : xs.length * k.toNat ≤ 1000 * 1000 := Nat.mul_le_mul hm'.2 (by omega)
      omega
    | _ => exact q.elim
  | _ => cases px <;> exact q.elim
theorem de_bin (op : Operator) : OpR X (binaryOp op) (rOp2 X.K fa (opBin op)) := by
  by_cases e : op = .Mult
  · subst e
    exact de_mul
  · exact de_bin1 op e
end
end DE
end

section
set_option Elab.async false
set_option linter.all false
set_option maxRecDepth 100000
set_option autoImplicit false
namespace DE
open PySem PySem.Spec L2
section
variable {X : Cx} {fa : Fa}
theorem VRs.at {K : PySem.W.Frag} {F : Addr → Prop} {H : Hp} {vs : List V} {xs : List P} {i : Int} {x : P} (h : VRs K fa F H vs xs) (e : atI xs i = some x) : ∃ v, atI vs i = some v ∧ VR K fa F H v x := by
  unfold atI at e ⊢
  rw [h.length]
  cases q : ixN xs.length i with
  | none =>
    rw [q] at e
    cases e
  | some j =>
    rw [q] at e
    exact h.get e
theorem atI_map {α β : Type} (f : α → β) (xs : List α) (i : Int) : atI (xs.map f) i = (atI xs i).map f := by
  unfold atI
  rw [List.length_map]
  cases ixN xs.length i with
  | none => rfl
  | some j => exact List.getElem?_map
def rOpP (K : PySem.W.Frag) (fa : Fa) (f : P → P → Option P) : R2 := fun x y H Q => ∃ F ρ st px py, Wok K fa F ρ H st ∧ VRr K fa F H x px ∧ VRr K fa F H y py ∧ PostD K fa W0 F ρ H [] (mkP (f px py) st) Q
theorem postP {K : PySem.W.Frag} {F : Addr → Prop} {ρ : List Addr} {H : Hp} {σ : L2.St} {W : WX} {st : Store} {o : Option P} {Q : VK} (q : PostD K fa W F ρ H σ (mkP o st) Q) : ∃ x, o = some x ∧ PostD K fa W F ρ H σ (.ok (.p x) st) Q := by
  cases o with
  | none => exact q.elim
  | some b => exact ⟨b, rfl, q⟩
theorem postM {K : PySem.W.Frag} {F : Addr → Prop} {ρ : List Addr} {H : Hp} {σ : L2.St} {W : WX} {st : Store} {o : Option P} {Q : VK} (q : PostD K fa W F ρ H σ (mkD o st) Q) : ∃ x, o = some x ∧ PostD K fa W F ρ H σ (.ok (.mk x) st) Q := by
  cases o with
  | none => exact q.elim
  | some b => exact ⟨b, rfl, q⟩
theorem de_ix : IxR X (rOpP X.K fa opIdx) := by
  intro value slice pins s σ H x y v u Q I rx ry h hs
  obtain ⟨F, ρ, st, px, py, w, hx, hy, q⟩ := h
  obtain ⟨z, e, q2⟩ := postP q
  clear q
  have q := q2
  clear q2
  cases py with
  | int i =>
    cases hy.int
    cases px with
    | lst xs =>
      obtain ⟨a, vs, rfl, ha, hr⟩ := hx
      obtain ⟨c, e1, e2⟩ := hr.at e
      exact ix_list value slice pins s σ H _ _ v u Q I rx ry ⟨a, vs, i, c, rfl, rfl, SqL.of ha, e1, pP q w e2⟩ hs
    | tup xs =>
      obtain ⟨a, vs, rfl, ha, hr⟩ := hx.tup
      obtain ⟨c, e1, e2⟩ := hr.at e
      exact ix_tup value slice pins s σ H _ _ v u Q I rx ry ⟨a, vs, i, c, rfl, rfl, SqT_of ha, e1, pP q w e2⟩ hs
    | scr ns =>
      obtain ⟨a, rfl, ha⟩ := hx.scr
      have e' : (atI ns i).map P.int = some z := e
      cases q2 : atI ns i with
      | none =>
        rw [q2] at e'
        cases e'
      | some n =>
        rw [q2] at e'
        cases e'
        exact ix_list value slice pins s σ H _ _ v u Q I rx ry ⟨a, _, i, .int n, rfl, rfl, SqL_scr ha, by rw [atI_map, q2]; rfl, pP q w (.int _)⟩ hs
    | str t =>
      cases hx.str
      have e' : (if small t.length = true then (atI t.cps.toList i).map fun c => P.str ⟨#[c]⟩ else none) = some z := e
      cases hm : small t.length with
      | false =>
        rw [hm] at e'
        cases e'
      | true =>
        rw [hm, if_pos rfl] at e'
        cases q2 : atI t.cps.toList i with
        | none =>
          rw [q2] at e'
          cases e'
        | some n =>
          rw [q2] at e'
          cases e'
          exact ix_str value slice pins s σ H _ _ v u Q I rx ry ⟨t, i, n, rfl, rfl, of_decide_eq_true hm, q2, pP q w (.str _)⟩ hs
    | _ => cases e
  | _ => cases px <;> cases e
def rSlD (K : PySem.W.Frag) (fa : Fa) : V → Option Int → Option Int → Hp → VK → Prop := fun x lo hi H Q => ∃ F ρ st px, Wok K fa F ρ H st ∧ VRr K fa F H x px ∧ PostD K fa W0 F ρ H [] (mkD (opSlc px lo hi) st) Q
theorem VRs.cut {K : PySem.W.Frag} {F : Addr → Prop} {H : Hp} {vs : List V} {xs : List P} (h : VRs K fa F H vs xs) (lo hi : Option Int) : VRs K fa F H (cutV vs lo hi) (cutP xs lo hi) := by
  unfold cutV cutP
  rw [h.length]
  exact (h.drop _).take _
theorem de_sl : SlR X (rSlD X.K fa) := by
  intro pins s σ H x v vl vu lo hi sl Q I rx hs pl pu h
  obtain ⟨F, ρ, st, px, w, hx, q⟩ := h
  obtain ⟨z, e, q⟩ := postM q
  cases px with
  | lst xs =>
    obtain ⟨a, vs, rfl, ha, hr⟩ := hx
    cases e
    exact sl_list pins s σ H _ v vl vu lo hi sl Q I rx hs pl pu ⟨a, vs, rfl, SqL.of ha, pNew q w (hr.cut lo hi)⟩
  | tup xs =>
    obtain ⟨a, vs, rfl, ha, hr⟩ := hx.tup
    cases e
    refine sl_tupA pins s σ H _ v vl vu lo hi sl Q I rx hs pl pu ⟨a, vs, rfl, SqT_of ha, fun e => ?_, fun e => ?_⟩
    · have e2 : cutP xs lo hi = xs := by
        unfold cutP
        rw [hr.length] at e
        rw [e.1, e.2, List.drop_zero, Nat.sub_zero, List.take_length]
      rw [e2] at q
      exact pP q w (.tup ha hr)
    · exact pTup q w (hr.cut lo hi)
  | str t =>
    cases hx.str
    have e' : (if small t.length = true then some (P.str (cutS t lo hi)) else none) = some z := e
    cases hm : small t.length with
    | false =>
      rw [hm] at e'
      cases e'
    | true =>
      rw [hm, if_pos rfl] at e'
      cases e'
      exact sl_str pins s σ H _ v vl vu lo hi sl Q I rx hs pl pu ⟨t, rfl, of_decide_eq_true hm, pP q w (.str _)⟩
  | _ => cases e
inductive VRrs (K : PySem.W.Frag) (fa : Fa) (F : Addr → Prop) (H : Hp) : List V → List P → Prop
  | nil : VRrs K fa F H [] []
  | cons {v : V} {vs : List V} {x : P} {xs : List P} : VRr K fa F H v x → VRrs K fa F H vs xs → VRrs K fa F H (v :: vs) (x :: xs)
def rBiD (K : PySem.W.Frag) (fa : Fa) (f : List P → Option P) : List V → Hp → VK → Prop := fun vs H Q => ∃ F ρ st ps, Wok K fa F ρ H st ∧ VRrs K fa F H vs ps ∧ PostD K fa W0 F ρ H [] (mkD (f ps) st) Q
theorem sized {pins : List (Addr × Obj)} {s : Shared} {σ : L2.St} {H : Hp} (I : Inv X pins σ H s) {a : Addr} {vs : List V} (h : SqL X.K H a vs) : vs.length ≤ sizeLine := by
  obtain ⟨_, _, _, hz⟩ := I.list h
  exact hz
theorem VRs.bls {K : PySem.W.Frag} {F : Addr → Prop} {H : Hp} : ∀ {vs : List V} {xs : List P} {bs : List Bool}, VRs K fa F H vs xs → allBl xs = some bs → vs = bs.map V.bl
  | _, _, _, .nil, e => by
    cases e
    rfl
  | _, _, _, .cons (x := x) (xs := xs) a b, e => by
    cases a with
    | bl c =>
      have e' : (allBl xs).map (c :: ·) = some _ := e
      cases q : allBl xs with
      | none =>
        rw [q] at e'
        cases e'
      | some bs =>
        rw [q] at e'
        cases e'
        rw [b.bls q] <;> rfl
    | _ => cases e
theorem VRs.strs {K : PySem.W.Frag} {F : Addr → Prop} {H : Hp} : ∀ {vs : List V} {xs : List P} {bs : List Str}, VRs K fa F H vs xs → allStr xs = some bs → vs = bs.map V.str
  | _, _, _, .nil, e => by
    cases e
    rfl
  | _, _, _, .cons (x := x) (xs := xs) a b, e => by
    cases a with
    | str c =>
      have e' : (allStr xs).map (c :: ·) = some _ := e
      cases q : allStr xs with
      | none =>
        rw [q] at e'
        cases e'
      | some bs =>
        rw [q] at e'
        cases e'
        rw [b.strs q] <;> rfl
    | _ => cases e
theorem VRs.ofStrs {K : PySem.W.Frag} {F : Addr → Prop} {H : Hp} : ∀ zs : List Str, VRs K fa F H (zs.map V.str) (zs.map P.str)
  | [] => .nil
  | z :: zs => .cons (.str z) (VRs.ofStrs zs)
theorem one_of {K : PySem.W.Frag} {F : Addr → Prop} {H : Hp} {vs : List V} {x : P} (h : VRrs K fa F H vs [x]) : ∃ v, vs = [v] ∧ VRr K fa F H v x := by
  cases h with
  | cons a b =>
    cases b
    exact ⟨_, rfl, a⟩
theorem two_of {K : PySem.W.Frag} {F : Addr → Prop} {H : Hp} {vs : List V} {x y : P} (h : VRrs K fa F H vs [x, y]) : ∃ v u, vs = [v, u] ∧ VRr K fa F H v x ∧ VRr K fa F H u y := by
  cases h with
  | cons a b =>
    cases b with
    | cons b c =>
      cases c
      exact ⟨_, _, rfl, a, b⟩
theorem de_len : CallR X (.builtin "len") (rBiD X.K fa biLen) := by
  intro pins s σ H vs us Q I rx h
  obtain ⟨F, ρ, st, ps, w, hx, q⟩ := h
  obtain ⟨z, e, q⟩ := postM q
  match ps, hx, e with
  | [x], hx, e =>
    obtain ⟨v, rfl, hv⟩ := one_of hx
    have e' : (lenP x).map (fun n => P.int n) = some z := e
    cases x with
    | lst xs =>
      obtain ⟨a, ws, rfl, ha, hr⟩ := hv
      cases e'
      exact call_len_seq pins s σ H _ us Q I rx ⟨a, ws, rfl, .inl (SqL.of ha), by rw [hr.length]; exact pP q w (.int _)⟩
    | tup xs =>
      obtain ⟨a, ws, rfl, ha, hr⟩ := hv.tup
      cases e'
      exact call_len_seq pins s σ H _ us Q I rx ⟨a, ws, rfl, .inr (SqT_of ha), by rw [hr.length]; exact pP q w (.int _)⟩
    | scr ns =>
      obtain ⟨a, rfl, ha⟩ := hv.scr
      cases e'
      exact call_len_seq pins s σ H _ us Q I rx ⟨a, _, rfl, .inl (SqL_scr ha), by rw [List.length_map]; exact pP q w (.int _)⟩
    | str t =>
      cases hv.str
      have e' : (if small t.length = true then some t.length else none).map (fun n => P.int n) = some z := e'
      cases hm : small t.length with
      | false =>
        rw [hm] at e'
        cases e'
      | true =>
        rw [hm] at e'
        cases e'
        exact call_len_str pins s σ H _ us Q I rx ⟨t, rfl, of_decide_eq_true hm, pP q w (.int _)⟩
    | _ => cases e'
theorem de_abs : CallR X (.builtin "abs") (rBiD X.K fa biAbs) := by
  intro pins s σ H vs us Q I rx h
  obtain ⟨F, ρ, st, ps, w, hx, q⟩ := h
  obtain ⟨z, e, q⟩ := postM q
  match ps, hx, e with
  | [.int i], hx, e =>
    obtain ⟨v, rfl, hv⟩ := one_of hx
    cases hv.int
    cases e
    exact call_abs pins s σ H _ us Q I rx ⟨i, rfl, pP q w (.int _)⟩
theorem de_int : CallR X (.type "int") (rBiD X.K fa biInt) := by
  intro pins s σ H vs us Q I rx h
  obtain ⟨F, ρ, st, ps, w, hx, q⟩ := h
  obtain ⟨z, e, q⟩ := postM q
  match ps, hx, e with
  | [.int i], hx, e =>
    obtain ⟨v, rfl, hv⟩ := one_of hx
    cases hv.int
    cases e
    exact call_int1 pins s σ H _ us Q I rx (.inl ⟨i, rfl, pP q w (.int _)⟩)
  | [.bl i], hx, e =>
    obtain ⟨v, rfl, hv⟩ := one_of hx
    cases hv.bl
    cases e
    exact call_int1 pins s σ H _ us Q I rx (.inr ⟨i, rfl, pP q w (.int _)⟩)
theorem de_max (hc : X.calm = true) : CallR X (.builtin "max") (rBiD X.K fa biMax) := by
  intro pins s σ H vs us Q I rx h
  obtain ⟨F, ρ, st, ps, w, hx, q⟩ := h
  obtain ⟨z, e, q⟩ := postM q
  match ps, hx, e with
  | [.int i, .int j], hx, e =>
    obtain ⟨v, u, rfl, hv, hu⟩ := two_of hx
    cases hv.int
    cases hu.int
    cases e
    exact call_max2 hc pins s σ H _ us Q I rx ⟨i, j, rfl, pP q w (.int _)⟩
theorem de_min (hc : X.calm = true) : CallR X (.builtin "min") (rBiD X.K fa biMin) := by
  intro pins s σ H vs us Q I rx h
  obtain ⟨F, ρ, st, ps, w, hx, q⟩ := h
  obtain ⟨z, e, q⟩ := postM q
  match ps, hx, e with
  | [.int i, .int j], hx, e =>
    obtain ⟨v, u, rfl, hv, hu⟩ := two_of hx
    cases hv.int
    cases hu.int
    cases e
    exact call_min2 hc pins s σ H _ us Q I rx ⟨i, j, rfl, pP q w (.int _)⟩
theorem de_tuple : CallR X (.type "tuple") (rBiD X.K fa biTuple) := by
  intro pins s σ H vs us Q I rx h
  obtain ⟨F, ρ, st, ps, w, hx, q⟩ := h
  obtain ⟨z, e, q⟩ := postM q
  match ps, hx, e with
  | [.lst xs], hx, e =>
    obtain ⟨v, rfl, a, ws, rfl, ha, hr⟩ := one_of hx
    cases e
    exact call_tuple_of pins s σ H _ us Q I rx ⟨a, ws, rfl, .inl ⟨SqL.of ha, pTup q w hr⟩⟩
  | [.tup xs], hx, e =>
    obtain ⟨v, rfl, hv⟩ := one_of hx
    obtain ⟨a, ws, rfl, ha, hr⟩ := hv.tup
    cases e
    exact call_tuple_of pins s σ H _ us Q I rx ⟨a, ws, rfl, .inr ⟨SqT_of ha, pP q w (.tup ha hr)⟩⟩
theorem de_list : CallR X (.type "list") (rBiD X.K fa biList) := by
  intro pins s σ H vs us Q I rx h
  obtain ⟨F, ρ, st, ps, w, hx, q⟩ := h
  obtain ⟨z, e, q⟩ := postM q
  match ps, hx, e with
  | [.lst xs], hx, e =>
    obtain ⟨v, rfl, a, ws, rfl, ha, hr⟩ := one_of hx
    cases e
    exact call_list_of pins s σ H _ us Q I rx ⟨a, ws, rfl, .inl (SqL.of ha), pNew q w hr⟩
  | [.tup xs], hx, e =>
    obtain ⟨v, rfl, hv⟩ := one_of hx
    obtain ⟨a, ws, rfl, ha, hr⟩ := hv.tup
    cases e
    exact call_list_of pins s σ H _ us Q I rx ⟨a, ws, rfl, .inr (SqT_of ha), pNew q w hr⟩
theorem de_all (hc : X.calm = true) : CallR X (.builtin "all") (rBiD X.K fa biAll) := by
  intro pins s σ H vs us Q I rx h
  obtain ⟨F, ρ, st, ps, w, hx, q⟩ := h
  obtain ⟨z, e, q⟩ := postM q
  match ps, hx, e with
  | [.lst xs], hx, e =>
    obtain ⟨v, rfl, a, ws, rfl, ha, hr⟩ := one_of hx
    have e' : (allBl xs).map (fun bs => P.bl (bs.all id)) = some z := e
    cases q2 : allBl xs with
    | none =>
      rw [q2] at e'
      cases e'
    | some bs =>
      rw [q2] at e'
      cases e'
      exact cr_all hc pins s σ H _ us Q I rx ⟨a, bs, rfl, by rw [← hr.bls q2]; exact SqL.of ha, pP q w (.bl _)⟩
theorem de_any (hc : X.calm = true) : CallR X (.builtin "any") (rBiD X.K fa biAny) := by
  intro pins s σ H vs us Q I rx h
  obtain ⟨F, ρ, st, ps, w, hx, q⟩ := h
  obtain ⟨z, e, q⟩ := postM q
  match ps, hx, e with
  | [.lst xs], hx, e =>
    obtain ⟨v, rfl, a, ws, rfl, ha, hr⟩ := one_of hx
    have e' : (allBl xs).map (fun bs => P.bl (bs.any id)) = some z := e
    cases q2 : allBl xs with
    | none =>
      rw [q2] at e'
      cases e'
    | some bs =>
      rw [q2] at e'
      cases e'
      exact cr_any hc pins s σ H _ us Q I rx ⟨a, bs, rfl, by rw [← hr.bls q2]; exact SqL.of ha, pP q w (.bl _)⟩
def Me.id : Me → String
  | .join => "str.join" | .split => "str.split" | .count => "str.count" | .find => "str.find"
def rMeD (K : PySem.W.Frag) (fa : Fa) (m : Me) : V → List V → Hp → VK → Prop := fun x vs H Q => ∃ F ρ st px py y, vs = [y] ∧ Wok K fa F ρ H st ∧ VRr K fa F H x px ∧ VRr K fa F H y py ∧ PostD K fa W0 F ρ H [] (mkD (opMe m px py) st) Q
theorem de_me (m : Me) : MtR X m.id (rMeD X.K fa m) := by
  intro pins s σ H x xs v us Q I rx rxs h
  obtain ⟨F, ρ, st, px, py, y, rfl, w, hx, hy, q⟩ := h
  obtain ⟨z, e, qq⟩ := postM q
  cases px with
  | str a =>
    cases hx.str
    cases m with
    | join =>
      cases py with
      | lst ys =>
        obtain ⟨b, ws, rfl, hb, hr⟩ := hy
        have e : joinP a (allStr ys) = some z := e
        cases q2 : allStr ys with
        | none =>
          rw [q2] at e
          cases e
        | some zs =>
          rw [q2] at e
          have e : (if joinLen a zs = true then some (P.str (Txt.join a zs)) else none) = some z := e
          cases hm : joinLen a zs with
          | false =>
            rw [hm] at e
            cases e
          | true =>
            rw [hm, if_pos rfl] at e
            cases e
            exact mt_join pins s σ H _ _ v us Q I rx rxs ⟨a, b, zs, rfl, rfl, .inl (by rw [← hr.strs q2]; exact SqL.of hb), of_decide_eq_true hm, pP qq w (.str _)⟩
      | _ => cases e
    | split =>
      cases py with
      | str b =>
        cases hy.str
        have e : (if (!(b.length == 0) && decide (a.length + 2 ≤ sizeLine)) = true then some (P.lst ((Txt.split a b).map P.str)) else none) = some z := e
        cases hm : (!(b.length == 0) && decide (a.length + 2 ≤ sizeLine)) with
        | false =>
          rw [hm] at e
          cases e
        | true =>
          rw [hm, if_pos rfl] at e
          cases e
          rw [Bool.and_eq_true] at hm
          exact mt_split pins s σ H _ _ v us Q I rx rxs ⟨a, b, rfl, rfl, by simpa using hm.1, of_decide_eq_true hm.2, pNew qq w (VRs.ofStrs _)⟩
      | _ => cases e
    | count =>
      cases py with
      | str b =>
        cases hy.str
        cases e
        exact mt_count pins s σ H _ _ v us Q I rx rxs ⟨a, b, rfl, rfl, pP qq w (.int _)⟩
      | _ => cases e
    | find =>
      cases py with
      | str b =>
        cases hy.str
        cases e
        exact mt_find pins s σ H _ _ v us Q I rx rxs ⟨a, b, rfl, rfl, pP qq w (.int _)⟩
      | _ => cases e
  | _ => cases m <;> cases py <;> cases e
theorem de_tru {K : PySem.W.Frag} {F : Addr → Prop} {H : Hp} {v : V} {x : P} {b : Bool} (h : VRr K fa F H v x) (e : truth x = some b) : TruV K v H b := by
  cases x with
  | non =>
    cases h.non
    cases e
    rfl
  | bl c =>
    cases h.bl
    cases e
    rfl
  | int i =>
    cases h.int
    cases e
    rfl
  | str z =>
    cases h.str
    have e : (if small z.length = true then some ((z.length : Int) != 0) else none) = some b := e
    cases hm : small z.length with
    | false =>
      rw [hm] at e
      cases e
    | true =>
      rw [hm] at e
      cases e
      exact ⟨of_decide_eq_true hm, rfl⟩
  | lst xs =>
    obtain ⟨a, vs, rfl, ha, hr⟩ := h
    cases e
    exact .inl ⟨vs, SqL.of ha, by cases hr <;> rfl⟩
  | tup xs =>
    obtain ⟨a, vs, rfl, ha, hr⟩ := h.tup
    cases e
    exact .inr (.inl ⟨vs, SqT_of ha, by cases hr <;> rfl⟩)
  | _ => cases e
theorem kTup_of {K : PySem.W.Frag} {a : Addr} {vs : List V} (h : ∀ H' : Hp, SqT K H' a vs) : ∃ o, K.lookup a = some o ∧ o.cls = .type "tuple" := by
  rcases h (fun _ => none) with (h | ⟨_, h⟩) | ⟨o, _, _, h1, h2, _⟩
  · cases h
  · cases h
  · exact ⟨o, h1, h2⟩
theorem de_isi {K : PySem.W.Frag} {F : Addr → Prop} {H : Hp} {v : V} {x : P} {t : String} {b : Bool} (h : VRr K fa F H v x) (e : isT x t = some b) : ∃ T : String, TyX K H v (.type T) ∧ PySem.W.kitOne K (.type T) (.type t) = some b := by
  cases x with
  | non =>
    cases h.non
    exact ⟨_, .base .non, kit_ty e⟩
  | bl c =>
    cases h.bl
    exact ⟨_, .base (.bl c), kit_ty e⟩
  | int i =>
    cases h.int
    exact ⟨_, .base (.int i), kit_ty e⟩
  | str z =>
    cases h.str
    exact ⟨_, .base (.str z), kit_ty e⟩
  | lst xs =>
    obtain ⟨a, vs, rfl, ha, hr⟩ := h
    exact ⟨_, .base (.lst ha), kit_ty e⟩
  | tup xs =>
    obtain ⟨a, vs, rfl, ha, hr⟩ := h.tup
    rcases ha with ⟨_, ha⟩ | ha
    · exact ⟨_, .base (.tup ha), kit_ty e⟩
    · obtain ⟨o, h1, h2⟩ := kTup_of ha
      exact ⟨_, .kTuple h1 h2, kit_ty e⟩
  | _ => cases e
end
end DE
end

section
set_option Elab.async false
set_option linter.all false
set_option maxRecDepth 100000
set_option autoImplicit false
namespace DE
open PySem PySem.Spec L2
section
variable (K : PySem.W.Frag) (fa : Fa)
/-- a value that a name holds -/
def DV (F : Addr → Prop) (ρ : List Addr) (H : Hp) (v : V) : D → Prop
  | .p x => VR K fa F H v x
  | .box n => ∃ a, v = .ref a ∧ ρ[n]? = some a
  | _ => False
structure ERel (F : Addr → Prop) (ρ : List Addr) (H : Hp) (σ : L2.St) (env : Env) : Prop where
  len : σ.length = env.length
  val : ∀ (i : Nat) (d : D), env[i]? = some (.val d) → ∃ v, σ[i]? = some (some v) ∧ DV K fa F ρ H v d
  own : ∀ (i : Nat) (o : SO), env[i]? = some (.own o) → ∃ a, σ[i]? = some (some (.ref a)) ∧ SR K fa F H a o ∧ ¬ F a ∧ a ∉ ρ
  dist : ∀ (i j : Nat) (o o' : SO) (a : Addr), env[i]? = some (.own o) → env[j]? = some (.own o') → σ[i]? = some (some (.ref a)) → σ[j]? = some (some (.ref a)) → i = j
end
section
variable {K : PySem.W.Frag} {fa : Fa} {F F' F2 : Addr → Prop} {ρ ρ' ρ2 : List Addr} {H H' H2 H0 : Hp} {st : Store} {v : V} {x : P} {σ : L2.St} {env : Env}
theorem DV.dr {d : D} (h : DV K fa F ρ H v d) : DR K fa F ρ H H0 v d := by
  cases d with
  | p x => exact h
  | box n => exact h
  | _ => exact h.elim
theorem DV.mono (dis : ∀ a, a ∈ ρ → ¬ F a) (e : Ext F ρ H F' ρ' H') {d : D} (h : DV K fa F ρ H v d) : DV K fa F' ρ' H' v d := by
  cases d with
  | p x => exact VR.mono dis e h
  | box n =>
    obtain ⟨a, e1, h1⟩ := h
    exact ⟨a, e1, e.at h1⟩
  | _ => exact h.elim
theorem DV.sub (s : ∀ a, F a → F' a) {d : D} (h : DV K fa F ρ H v d) : DV K fa F' ρ H v d := by
  cases d with
  | p x => exact VR.sub s h
  | box n => exact h
  | _ => exact h.elim
theorem ERel.mono (w : Wok K fa F ρ H st) (e : Ext F ρ H F' ρ' H') (r : ERel K fa F ρ H σ env) : ERel K fa F' ρ' H' σ env :=
  ⟨r.len, fun i d h => let ⟨v, h1, h2⟩ := r.val i d h; ⟨v, h1, h2.mono w.dis e⟩,
    fun i o h => let ⟨a, h1, h2, h3, h4⟩ := r.own i o h; ⟨a, h1, h2.mono w.dis e h4, e.notF h3 h2.has, e.notin h4 h2.has⟩, r.dist⟩
/-- a new value at a name -/
theorem ERel.set (r : ERel K fa F ρ H σ env) (i : Nat) {d : D} (h : DV K fa F ρ H v d) : ERel K fa F ρ H (σ.set i (some v)) (env.set i (.val d)) := by
  have key : ∀ j o, (env.set i (.val d))[j]? = some (Sl.own o) → j ≠ i ∧ env[j]? = some (Sl.own o) := fun j o e => by
    by_cases hj : i = j
    · subst hj
      rw [List.getElem?_set] at e
      rw [if_pos rfl] at e
      split at e <;> cases e
    · rw [List.getElem?_set_ne hj] at e
      exact ⟨fun z => hj z.symm, e⟩
  refine ⟨by rw [List.length_set, List.length_set]; exact r.len, fun j d' e => ?_, fun j o e => ?_, fun j k o o' a e1 e2 e3 e4 => ?_⟩
  · by_cases hj : i = j
    · subst hj
      rw [List.getElem?_set, if_pos rfl] at e
      split at e
      · rename_i hl
        cases e
        exact ⟨v, by rw [List.getElem?_set, if_pos rfl, if_pos (by rw [r.len]; exact hl)], h⟩
      · cases e
    · rw [List.getElem?_set_ne hj] at e
      obtain ⟨u, h1, h2⟩ := r.val j d' e
      exact ⟨u, by rw [List.getElem?_set_ne hj]; exact h1, h2⟩
  · obtain ⟨hj, e⟩ := key j o e
    obtain ⟨a, h1, h2⟩ := r.own j o e
    exact ⟨a, by rw [List.getElem?_set_ne (fun z => hj z.symm)]; exact h1, h2⟩
  · obtain ⟨hj, e1⟩ := key j o e1
    obtain ⟨hk, e2⟩ := key k o' e2
    rw [List.getElem?_set_ne (fun z => hj z.symm)] at e3
    rw [List.getElem?_set_ne (fun z => hk z.symm)] at e4
    exact r.dist j k o o' a e1 e2 e3 e4
/-- a name's own thing -/
theorem ERel.setO (r : ERel K fa F ρ H σ env) (i : Nat) {a : Addr} {o : SO} (h : SR K fa F H a o) (hf : ¬ F a) (hr : a ∉ ρ) (hn : ∀ j o', j ≠ i → env[j]? = some (.own o') → σ[j]? ≠ some (some (.ref a))) :
    ERel K fa F ρ H (σ.set i (some (.ref a))) (env.set i (.own o)) := by
  refine ⟨by rw [List.length_set, List.length_set]; exact r.len, fun j d' e => ?_, fun j o' e => ?_, fun j k o1 o2 b e1 e2 e3 e4 => ?_⟩
  · by_cases hj : i = j
    · subst hj
      rw [List.getElem?_set, if_pos rfl] at e
      split at e <;> cases e
    · rw [List.getElem?_set_ne hj] at e
      obtain ⟨u, h1, h2⟩ := r.val j d' e
      exact ⟨u, by rw [List.getElem?_set_ne hj]; exact h1, h2⟩
  · by_cases hj : i = j
    · subst hj
      rw [List.getElem?_set, if_pos rfl] at e
      split at e
      · rename_i hl
        cases e
        exact ⟨a, by rw [List.getElem?_set, if_pos rfl, if_pos (by rw [r.len]; exact hl)], h, hf, hr⟩
      · cases e
    · rw [List.getElem?_set_ne hj] at e
      obtain ⟨b, h1, h2⟩ := r.own j o' e
      exact ⟨b, by rw [List.getElem?_set_ne hj]; exact h1, h2⟩
  · have at_ : ∀ j o1 b, (env.set i (.own o))[j]? = some (Sl.own o1) → (σ.set i (some (.ref a)))[j]? = some (some (V.ref b)) → (j = i ∧ b = a) ∨ (j ≠ i ∧ env[j]? = some (Sl.own o1) ∧ σ[j]? = some (some (V.ref b))) := fun j o1 b e1 e3 => by
      by_cases hj : i = j
      · subst hj
        rw [List.getElem?_set, if_pos rfl] at e3
        split at e3
        · cases e3
          exact .inl ⟨rfl, rfl⟩
        · cases e3
      · rw [List.getElem?_set_ne hj] at e1 e3
        exact .inr ⟨fun z => hj z.symm, e1, e3⟩
    rcases at_ j o1 b e1 e3 with ⟨z1, z2⟩ | ⟨z1, z2, z3⟩
    · rcases at_ k o2 b e2 e4 with ⟨y1, y2⟩ | ⟨y1, y2, y3⟩
      · rw [z1, y1]
      · rw [z2] at y3
        exact absurd y3 (hn k o2 y1 y2)
    · rcases at_ k o2 b e2 e4 with ⟨y1, y2⟩ | ⟨y1, y2, y3⟩
      · rw [y2] at z3
        exact absurd z3 (hn j o1 z1 z2)
      · exact r.dist j k o1 o2 b z2 y2 z3 y3
theorem ERel.un (r : ERel K fa F ρ H σ env) (i : Nat) (s' : Option V) : ERel K fa F ρ H (σ.set i s') (env.set i .un) := by
  have key : ∀ j (s : Sl), s ≠ .un → (env.set i .un)[j]? = some s → j ≠ i ∧ env[j]? = some s := fun j s hs e => by
    by_cases hj : i = j
    · subst hj
      rw [List.getElem?_set, if_pos rfl] at e
      split at e
      · cases e
        exact absurd rfl hs
      · cases e
    · rw [List.getElem?_set_ne hj] at e
      exact ⟨fun z => hj z.symm, e⟩
  refine ⟨by rw [List.length_set, List.length_set]; exact r.len, fun j d' e => ?_, fun j o e => ?_, fun j k o o' a e1 e2 e3 e4 => ?_⟩
  · obtain ⟨hj, e⟩ := key j _ (by intro z; cases z) e
    obtain ⟨u, h1, h2⟩ := r.val j d' e
    exact ⟨u, by rw [List.getElem?_set_ne (fun z => hj z.symm)]; exact h1, h2⟩
  · obtain ⟨hj, e⟩ := key j _ (by intro z; cases z) e
    obtain ⟨a, h1, h2⟩ := r.own j o e
    exact ⟨a, by rw [List.getElem?_set_ne (fun z => hj z.symm)]; exact h1, h2⟩
  · obtain ⟨hj, e1⟩ := key j _ (by intro z; cases z) e1
    obtain ⟨hk, e2⟩ := key k _ (by intro z; cases z) e2
    rw [List.getElem?_set_ne (fun z => hj z.symm)] at e3
    rw [List.getElem?_set_ne (fun z => hk z.symm)] at e4
    exact r.dist j k o o' a e1 e2 e3 e4
theorem ERel.wip (r : ERel K fa F ρ H σ env) : ∀ is : List Nat, ERel K fa F ρ H (wipe σ is) (wip env is)
  | [] => r
  | i :: is => (ERel.wip r is).un i none
/-- what was made is kept from now on -/
theorem ERel.fz (r : ERel K fa F ρ H σ env) {a : Addr} (hn : ∀ (j : Nat) (o' : SO), env[j]? = some (.own o') → σ[j]? ≠ some (some (.ref a))) : ERel K fa (addF F a) ρ H σ env :=
  ⟨r.len, fun i d h => let ⟨v, h1, h2⟩ := r.val i d h; ⟨v, h1, h2.sub fun _ h => .inl h⟩,
    fun i o h => let ⟨b, h1, h2, h3, h4⟩ := r.own i o h; ⟨b, h1, h2.sub fun _ h => .inl h, fun z => z.elim h3 (fun z => hn i o h (by rw [← z]; exact h1)), h4⟩, r.dist⟩
/-- an own thing stands in the heap, so a new address is none of it -/
theorem ERel.fresh (r : ERel K fa F ρ H σ env) {a : Addr} (h : nt H a = none) : ∀ (j : Nat) (o' : SO), env[j]? = some (.own o') → σ[j]? ≠ some (some (.ref a)) := fun j o' e z => by
  obtain ⟨b, h1, h2, _⟩ := r.own j o' e
  rw [z] at h1
  cases h1
  exact h2.has h
def Off (is : List Nat) (σ' σ : L2.St) : Prop := σ'.length = σ.length ∧ ∀ j, j ∉ is → σ'[j]? = σ[j]?
theorem wipe_get (σ : L2.St) : ∀ (is : List Nat) (j : Nat), (wipe σ is)[j]? = if j ∈ is then (if j < σ.length then some none else none) else σ[j]?
  | [], j => by simp [wipe]
  | i :: is, j => by
    show ((wipe σ is).set i none)[j]? = _
    by_cases h : i = j
    · subst h
      rw [List.getElem?_set, if_pos rfl, wipe_length]
      simp
    · rw [List.getElem?_set_ne h, wipe_get σ is j]
      simp [Ne.symm h]
theorem Off.wipe {is : List Nat} {σ' σ : L2.St} (h : Off is σ' σ) : L2.wipe σ' is = L2.wipe σ is := by
  apply List.ext_getElem?
  intro j
  rw [wipe_get, wipe_get, h.1]
  by_cases hj : j ∈ is
  · rw [if_pos hj, if_pos hj]
  · rw [if_neg hj, if_neg hj, h.2 j hj]
theorem Off.refl (is : List Nat) (σ : L2.St) : Off is σ σ := ⟨rfl, fun _ _ => rfl⟩
theorem Off.set (i : Nat) (σ : L2.St) (s : Option V) : Off [i] (σ.set i s) σ := ⟨List.length_set .., fun j hj => List.getElem?_set_ne (fun z => hj (by simp [z]))⟩
theorem Off.trans {is js : List Nat} {a b c : L2.St} (h : Off js c b) (h2 : Off is b a) : Off (is ++ js) c a := ⟨h.1.trans h2.1, fun j hj => by
  rw [List.mem_append, not_or] at hj
  rw [h.2 j hj.2, h2.2 j hj.1]⟩
end
def visB (sc : Scope) (x : Str) : Bool := match sc.names.lookup x with
  | some .local => true | some .cell => true | some .free => true | _ => false
def locB (sc : Scope) (fn : Str → Bool) (x : Str) : Bool := match sc.names.lookup x with
  | some .local => true | some .cell => fn x | _ => false
def glB (sc : Scope) (x : Str) : Bool := match sc.names.lookup x with
  | some .globalImplicit => true | _ => false
def okN (x : Str) : Bool := !(x == (Str.ofString "__debug__")) && !(x == (Str.ofString "__classdict__")) && !(decide (x = (Str.ofString "__name__")))
def chT (N : List Str) (sc : Scope) (fn : Str → Bool) : Tg → Expr → Bool
  | .one i, e => match e with
    | .Name x _ => decide (N[i]? = some x) && locB sc fn x
    | _ => false
  | .two a b, e => match e with
    | .Tuple [s, t] _ _ => chT N sc fn a s && chT N sc fn b t
    | _ => false
theorem vis_of {sc : Scope} {x : Str} (h : visB sc x = true) : Vis sc x := by
  unfold visB at h
  unfold Vis
  split at h <;> first | (rename_i q; rw [q]; simp) | cases h
theorem loc_of {sc : Scope} {fn : Str → Bool} {x : Str} (h : locB sc fn x = true) : L2.Loc sc x ∧ (fn x = true ∨ sc.names.lookup x = some .local) := by
  unfold locB at h
  unfold L2.Loc
  split at h
  · rename_i q
    exact ⟨.inl q, .inr q⟩
  · rename_i q
    exact ⟨.inr q, .inl h⟩
  · cases h
/-- what a target makes of a value -/
def gTv (K : PySem.W.Frag) (fa : Fa) (tg : Tg) : TG := fun v σ H Q => ∃ F ρ env d env', DV K fa F ρ H v d ∧ ERel K fa F ρ H σ env ∧ asgT tg d env = some env' ∧ ∀ σ', ERel K fa F ρ H σ' env' → Off tg.slots σ' σ → Q σ' H
theorem sG {fa : Fa} {X : Cx} (hc : X.calm = true) (hN : X.N.Nodup) : ∀ (tg : Tg) (e : Expr), chT X.N X.env.scope X.fn tg e = true → PG X e (gTv X.K fa tg)
  | .one i, e, h => by
    unfold chT at h
    split at h
    · rename_i x pos
      rw [Bool.and_eq_true] at h
      obtain ⟨h1, h2⟩ := loc_of h.2
      have g := pg_name (pos := pos) hN (of_decide_eq_true h.1) h1 h2
      refine ⟨fun pins s σ H v u Q I r q => g.run pins s σ H v u Q I r ?_⟩
      obtain ⟨F, ρ, env, d, env', hv, hr, ha, q⟩ := q
      refine q _ ?_ (Off.set i σ _)
      cases d with
      | p x =>
        cases ha
        exact hr.set i hv
      | box n =>
        cases ha
        exact hr.set i hv
      | _ => cases ha
    · cases h
  | .two a b, e, h => by
    unfold chT at h
    split at h
    · rename_i s t kk pos
      rw [Bool.and_eq_true] at h
      have ga := sG (fa := fa) hc hN a s h.1
      have gb := sG (fa := fa) hc hN b t h.2
      have ns : ∀ (tg : Tg) (e : Expr) (es : List Expr), chT X.N X.env.scope X.fn tg e = true → assignEach (e :: es) X.env = (false, assign e X.env) :: assignEach es X.env := fun tg e es hh => by
        cases e <;> first | rfl | (cases tg <;> cases hh)
      have e1 := ns a s [t] h.1
      have e2 := ns b t [] h.2
      have g := pg_tup (k := kk) (pos := pos) (n := 2) hc (pgs_cons ga (pgs_cons gb pgs_nil (by rw [e2] <;> rfl)) (by rw [e1] <;> rfl)) (by rw [e1, e2] <;> rfl) (by rw [e1, e2] <;> rfl)
      refine ⟨fun pins s σ H v u Q I r q => g.run pins s σ H v u Q I r ?_⟩
      obtain ⟨F, ρ, env, d, env', hv, hr, ha, q⟩ := q
      cases d with
      | p x =>
        cases x with
        | tup xs =>
          match xs, ha, hv with
          | [x, y], ha, hv =>
            obtain ⟨ad, vs, rfl, ht, hvs⟩ := VRr.tup (VR.r hv)
            cases hvs with
            | cons v1 r1 =>
              cases r1 with
              | cons v2 r2 =>
                cases r2
                rename_i v1' v2'
                have ha : (match asgT a (.p x) env with | some env1 => asgT b (.p y) env1 | none => none) = some env' := ha
                cases q1 : asgT a (.p x) env with
                | none =>
                  rw [q1] at ha
                  cases ha
                | some env1 =>
                  rw [q1] at ha
                  refine ⟨ad, _, rfl, SqT_of ht, rfl, _, _, rfl, ⟨F, ρ, env, .p x, env1, v1, hr, q1, fun σ1 r1 o1 => ?_⟩⟩
                  exact ⟨_, _, rfl, ⟨F, ρ, env1, .p y, env', v2, r1, ha, fun σ2 r2 o2 => ⟨rfl, q σ2 r2 (o2.trans o1)⟩⟩⟩
        | _ => cases ha
      | _ => cases ha
    · cases h
end DE
end

section
set_option Elab.async false
set_option linter.all false
set_option maxRecDepth 100000
set_option autoImplicit false
namespace DE
open PySem PySem.Spec L2

def Bf.name : Bf → Str
  | .len => (Str.ofString "len") | .abs => (Str.ofString "abs") | .int => (Str.ofString "int") | .max => (Str.ofString "max") | .min => (Str.ofString "min")
  | .tuple => (Str.ofString "tuple") | .list => (Str.ofString "list") | .all => (Str.ofString "all") | .any => (Str.ofString "any") | .str => (Str.ofString "str")
def Me.name : Me → Str
  | .join => (Str.ofString "join") | .split => (Str.ofString "split") | .count => (Str.ofString "count") | .find => (Str.ofString "find")
def tyNames : List String := ["int", "bool", "str", "tuple", "list"]
/-- the built-in names that a text may use: none of them is stored by the module -/
def freeNames : List Str := [(Str.ofString "len"), (Str.ofString "abs"), (Str.ofString "int"), (Str.ofString "max"), (Str.ofString "min"), (Str.ofString "tuple"), (Str.ofString "list"), (Str.ofString "all"), (Str.ofString "any"),
  (Str.ofString "range"), (Str.ofString "zip"), (Str.ofString "enumerate"), (Str.ofString "isinstance"), (Str.ofString "bool"), (Str.ofString "str"), (Str.ofString "sorted"), (Str.ofString "set"), (Str.ofString "ValueError")]
def notStar : Expr → Bool
  | .Starred .. => false
  | _ => true
/-- no call without arguments: what super() would be -/
def notSup : Expr → Bool
  | .Call .. => false
  | _ => true
def notSl : Expr → Bool
  | .Slice .. => false
  | _ => true
def ownOfT (N : List Str) (tg : Tg) : List (Str × Nat) := tg.slots.map fun i => (N.getD i (Str.ofString ""), i)
def isTupE : Expr → Bool
  | .Tuple .. => true
  | _ => false
def notSet : Expr → Bool
  | .Set .. => false
  | _ => true
/-- the names of constants, of defs -/
structure Nm where
  c : Nat → Str
  f : Nat → Option Str
  e : Nat → Option Str
  w : Nat → Option (Str × Bool) := fun _ => none
  l : Bool := false
  x : Nat → Option Str := fun _ => none
  i : Nat → Option Str := fun _ => none
  s : Nat := 0
def noP (p : Arguments) : Bool := match p with
  | ⟨[], [], none, [], [], none, []⟩ => true
  | _ => false
/-- a constant -/
def chK (nm : Nm) (a : IE) (sc : Scope) (e : Expr) : Bool := match a, e with
  | .g k, .Name x _ => decide (x = nm.c k) && glB sc x && okN x
  | .str i, .Constant (.str j) _ _ => decide (j = i)
  | _, _ => false
mutual
def chE (nm : Nm) (N : List Str) : IE → Scope → Expr → Bool
  | .v i, sc, e => match e with
    | .Name x _ => decide (N[i]? = some x) && visB sc x && okN x
    | _ => false
  | .g k, sc, e => match e with
    | .Name x _ => decide (x = nm.c k) && glB sc x && okN x
    | _ => false
  | .int i, sc, e => match e with
    | .Constant (.int j) _ _ => decide (j = i)
    | _ => false
  | .str i, sc, e => match e with
    | .Constant (.str j) _ _ => decide (j = i)
    | _ => false
  | .bl i, sc, e => match e with
    | .Constant (.bool j) _ _ => decide (j = i)
    | _ => false
  | .non, sc, e => match e with
    | .Constant .none _ _ => true
    | _ => false
  | .bin op a b, sc, e => match e with
    | .BinOp l o r _ => decide (o = op) && chE nm N a sc l && chE nm N b sc r
    | _ => false
  | .neg a, sc, e => match e with
    | .UnaryOp .USub l _ => chE nm N a sc l
    | _ => false
  | .no a, sc, e => match e with
    | .UnaryOp .Not l _ => chE nm N a sc l
    | _ => false
  | .and r, sc, e => match e with
    | .BoolOp .And vs _ => chL nm N r sc vs
    | _ => false
  | .or r, sc, e => match e with
    | .BoolOp .Or vs _ => chL nm N r sc vs
    | _ => false
  | .cmp op a b, sc, e => match e with
    | .Compare l [o] [r] _ => decide (o = op) && !(behindInMarks op r) && chE nm N a sc l && chE nm N b sc r
    | _ => false
  | .chain o1 o2 a b d, sc, e => match e with
    | .Compare l [p1, p2] [m, r] _ => decide (p1 = o1) && decide (p2 = o2) && !(lastMarks [o1, o2] [m, r]) && chE nm N a sc l && chE nm N b sc m && chE nm N d sc r
    | _ => false
  | .ife t a b, sc, e => match e with
    | .IfExp u l r _ => chE nm N t sc u && chE nm N a sc l && chE nm N b sc r
    | _ => false
  | .tup es, sc, e => match e with
    | .Tuple xs _ _ => chL nm N es sc xs
    | _ => false
  | .lst es, sc, e => match e with
    | .List xs _ => chL nm N es sc xs
    | _ => false
  | .call f es, sc, e => match e with
    | .Call (.Name x _) as [] _ => decide (nm.f f = some x) && glB sc x && okN x && chL nm N es sc as
    | _ => false
  | .bi f a es, sc, e => match e with
    | .Call (.Name x _) (y :: ys) [] _ => decide (x = f.name) && glB sc x && chE nm N a sc y && chL nm N es sc ys
    | _ => false
  | .meth m o a, sc, e => match e with
    | .Call (.Attribute ov name ap) [y] [] cp => decide (name = m.name) && (ap.endLine == cp.line) && notSup ov && chE nm N o sc ov && chE nm N a sc y
    | _ => false
  | .idx a b, sc, e => match e with
    | .Subscript l r _ => notSl r && chE nm N a sc l && chE nm N b sc r
    | _ => false
  | .slc a lo hi, sc, e => match e with
    | .Subscript l (.Slice p q none _) _ => chE nm N a sc l && chO nm N lo sc p && chO nm N hi sc q
    | _ => false
  | .rev a, sc, e => match e with
    | .Subscript l (.Slice none none (some (.UnaryOp .USub (.Constant (.int 1) _ _) _)) _) _ => chE nm N a sc l
    | _ => false
  | .comp elt tg it cond, sc, e => match e with
    | .ListComp el [⟨t, i, ifs, 0⟩] scope _ => blkC N sc scope (ownOfT N tg) && chT N (relS scope sc) (fun x => scope.names.lookup x == some .cell) tg t && chI nm N it sc t i && notSet i && chC nm N cond (relS scope sc) ifs && chE nm N elt (relS scope sc) el
    | _ => false
  | .isi a t, sc, e => match e with
    | .Call (.Name x _) [y, .Name z _] [] _ => decide (x = (Str.ofString "isinstance")) && glB sc x && tyNames.contains t && decide (z = Str.ofString t) && glB sc z && chE nm N a sc y
    | _ => false
  | .callV i fs es, sc, e => match e with
    | .Call (.Name x _) (y :: ys) [] _ => decide (N[i]? = some x) && visB sc x && okN x && fs.all (fun f => (nm.f f).isSome) && chL nm N es sc (y :: ys)
    | _ => false
  | .dget gt ks vs a, sc, e => match e with
    | .Subscript (.Dict [some (.Constant (.str j1) _ _), some (.Constant (.str j2) _ _)] [e1, e2] _) r _ => match ks, vs with
      | [k1, k2], .cons i1 (.cons i2 .nil) => !gt && (decide (j1 = k1) && (decide (j2 = k2) && (decide (k1 ≠ k2) && (chK nm i1 sc e1 && (chK nm i2 sc e2 && (notSl r && chE nm N a sc r))))))
      | _, _ => false
    | .Call (.Attribute (.Dict [some (.Constant (.str j1) _ _), some (.Constant (.str j2) _ _)] [e1, e2] _) name ap) [r] [] cp => match ks, vs with
      | [k1, k2], .cons i1 (.cons i2 .nil) => gt && (decide (j1 = k1) && (decide (j2 = k2) && (decide (k1 ≠ k2) && (chK nm i1 sc e1 && (chK nm i2 sc e2 && (decide (name = Str.ofString "get") && ((ap.endLine == cp.line) && chE nm N a sc r)))))))
      | _, _ => false
    | _ => false
  | .word f get a, sc, e => match e with
    | .Call (.Name x _) [.Lambda params body scope _] [] _ => nm.l && decide (nm.w f = some (x, get)) && glB sc x && okN x && noP params && LamX.lamSB sc scope && chE { nm with l := false } N a scope body
    | _ => false
  | .sort k a, sc, e => match e with
    | .Call (.Name x _) [y] [] _ => decide (x = (Str.ofString "sorted")) && (glB sc x && match k with
      | 0 => match y with
        | .Call (.Name x2 _) [z] [] _ => decide (x2 = (Str.ofString "set")) && (glB sc x2 && chE nm N a sc z)
        | _ => false
      | k => decide (k ≤ 2) && chE nm N a sc y)
    | _ => false
  | .dnew, sc, e => match e with
    | .Dict [] [] _ => true
    | _ => false
  | .dtwo k1 v1 k2 v2, sc, e => match e with
    | .Dict [some a, some b] [x, y] _ => chE nm N k1 sc a && (chE nm N v1 sc x && (chE nm N k2 sc b && chE nm N v2 sc y))
    | _ => false
  | .din neg a i, sc, e => match e with
    | .Compare l [o] [.Name x _] _ => decide (o = if neg then .NotIn else .In) && (decide (N[i]? = some x) && (visB sc x && (okN x && chE nm N a sc l)))
    | _ => false
  | .dat i a, sc, e => match e with
    | .Subscript (.Name x _) r _ => notSl r && (decide (N[i]? = some x) && (visB sc x && (okN x && chE nm N a sc r)))
    | _ => false
  | .mkx k, sc, e => match e with
    | .Call (.Name x _) [.Constant (.str _) _ _] [] _ => decide (nm.x k = some x) && (decide (nm.i k = none) && (glB sc x && okN x))
    | _ => false
  | .mkf k n a, sc, e => match e with
    | .Call (.Name x _) [y] [] _ => decide (nm.x k = some x) && (decide (nm.i k = some n) && (nm.l && (glB sc x && (okN x && chE nm N a sc y))))
    | _ => false
  | .isx a t j, sc, e => match e with
    | .Call (.Name x _) [y, .Name z _] [] _ => decide (x = (Str.ofString "isinstance")) && (glB sc x && (glB sc z && (okN z && ((if t then (decide (j = 0) && decide (z = (Str.ofString "ValueError"))) || (decide (j = nm.s) && decide (nm.x j = some z)) else (decide (j ≠ nm.s) && decide (nm.x j = some z))) && chE nm N a sc y))))
    | _ => false
  | .fld a n, sc, e => match e with
    | .Attribute y m _ => decide (m = n) && (notSup y && chE nm N a sc y)
    | _ => false
def chL (nm : Nm) (N : List Str) : IL → Scope → List Expr → Bool
  | .nil, sc, es => es.isEmpty
  | .cons a r, sc, es => match es with
    | e :: es => chE nm N a sc e && chL nm N r sc es
    | [] => false
def chO (nm : Nm) (N : List Str) : IO → Scope → Option Expr → Bool
  | .non, sc, e => e.isNone
  | .som a, sc, e => match e with
    | some e => chE nm N a sc e
    | none => false
def chC (nm : Nm) (N : List Str) : IO → Scope → List Expr → Bool
  | .non, sc, e => e.isEmpty
  | .som a, sc, e => match e with
    | [e] => chE nm N a sc e
    | _ => false
def chI (nm : Nm) (N : List Str) : IT → Scope → Expr → Expr → Bool
  | .seq a, sc, t, e => chE nm N a sc e
  | .rng1 a, sc, t, e => match e with
    | .Call (.Name x _) [y] [] _ => decide (x = (Str.ofString "range")) && glB sc x && chE nm N a sc y
    | _ => false
  | .rng2 a b, sc, t, e => match e with
    | .Call (.Name x _) [y, z] [] _ => decide (x = (Str.ofString "range")) && glB sc x && chE nm N a sc y && chE nm N b sc z
    | _ => false
  | .zip a b, sc, t, e => match e with
    | .Call (.Name x _) [y, z] [] _ => decide (x = (Str.ofString "zip")) && glB sc x && isTupE t && chE nm N a sc y && chE nm N b sc z
    | _ => false
  | .enum a, sc, t, e => match e with
    | .Call (.Name x _) [y] [] _ => decide (x = (Str.ofString "enumerate")) && glB sc x && isTupE t && chE nm N a sc y
    | _ => false
end
theorem chE_star {nm : Nm} {N : List Str} {ie : IE} {sc : Scope} {e : Expr} (h : chE nm N ie sc e = true) : ∀ (es : List Expr) (env : PySem.Env), starEach (e :: es) env = (false, eval e env) :: starEach es env := by
  intro es env
  cases e <;> first | rfl | (cases ie <;> cases h)
theorem chE_sw {nm : Nm} {N : List Str} {ie : IE} {sc : Scope} {e : Expr} (h : chE nm N ie sc e = true) (hn : ∀ a b c d, ie ≠ .comp a b c d) : ∀ (t : Option Expr) (l : Nat) (env : PySem.Env), swapsWith e t l env = pure false := by
  intro t l env
  cases e <;> first | rfl | (cases ie <;> first | cases h | exact absurd rfl (hn _ _ _ _))
theorem chL_star {nm : Nm} {N : List Str} : ∀ {r : IL} {sc : Scope} {es : List Expr}, chL nm N r sc es = true → ∀ (env : PySem.Env) (pos : Pos), (backTo pos (starEach es env)).any (·.1) = false
  | .nil, sc, [], _ => fun _ _ => rfl
  | .nil, sc, _ :: _, h => by cases h
  | .cons a r, sc, [], h => by cases h
  | .cons a r, sc, e :: es, h => fun env pos => by
    have h : (chE nm N a sc e && chL nm N r sc es) = true := h
    rw [Bool.and_eq_true] at h
    rw [chE_star h.1]
    exact chL_star h.2 env pos

section
variable (K : PySem.W.Frag) (fa : Fa)
/-- J walks the items xs, whatever becomes of the heap, as long as what stands at S stands -/
structure ItW (S : List Addr) (F : Addr → Prop) (H : Hp) (J : It) (xs : List P) : Prop where
  go : ∀ (H' : Hp) (i : Nat), (∀ a, a ∈ S → H' a = H a) → i < xs.length → J.go i H'
  stop : ∀ (H' : Hp) (i : Nat), (∀ a, a ∈ S → H' a = H a) → xs.length ≤ i → J.stop i H'
  yld : ∀ (F' : Addr → Prop) (ρ' : List Addr) (H' : Hp) (st : Store) (i : Nat) (x : P) (v : V) (H2 : Hp), (∀ a, a ∈ S → H' a = H a) → (∀ a, F a → F' a) → (∀ a o, F a → H a = some o → (∀ ps, o ≠ .tbl ps) → H' a = some o) →
    Wok K fa F' ρ' H' st → xs[i]? = some x → J.yld i H' v H2 → ∃ F2, Ext F' ρ' H' F2 ρ' H2 ∧ Wok K fa F2 ρ' H2 st ∧ VR K fa F2 H2 v x ∧ ∀ a, F2 a → F' a ∨ nt H' a = none
end
section
variable {K : PySem.W.Frag} {fa : Fa} {F F' : Addr → Prop} {ρ : List Addr} {H H' H0 : Hp} {st : Store}
theorem VR.mono3 (s : ∀ a, F a → F' a) (kp : ∀ a o, F a → H a = some o → (∀ ps, o ≠ .tbl ps) → H' a = some o) {v : V} {x : P} (h : VR K fa F H v x) : VR K fa F' H' v x := h.mono2 s kp
theorem itw_lst {S : List Addr} {a : Addr} {vs : List V} {xs : List P} (hs : ∀ H' : Hp, (∀ b, b ∈ S → H' b = H b) → SqL K H' a vs) (hr : VRs K fa F H vs xs) : ItW K fa S F H (Itl K a) xs := by
  have len := hr.length
  refine ⟨fun H' i s hi => ?_, fun H' i s hi => ⟨vs, hs H' s, by rw [len]; exact hi⟩, fun F' ρ' H' st i x v H2 s sub kp w hx y => ?_⟩
  · have hi' : i < vs.length := by rw [len]; exact hi
    exact ⟨vs, vs[i], hs H' s, by rw [List.getElem?_eq_getElem hi']⟩
  · obtain ⟨rfl, y⟩ := y
    obtain ⟨v', h1, h2⟩ := hr.get hx
    have e := y vs (hs _ s)
    rw [h1] at e
    cases e
    exact ⟨F', .refl _ _ _, w, h2.mono3 sub kp, fun _ h => .inl h⟩
theorem itw_tup {S : List Addr} {a : Addr} {vs : List V} {xs : List P} (hs : ∀ H' : Hp, (∀ b, b ∈ S → H' b = H b) → SqT K H' a vs) (hr : VRs K fa F H vs xs) : ItW K fa S F H (Itt K a) xs := by
  have len := hr.length
  refine ⟨fun H' i s hi => ?_, fun H' i s hi => ⟨vs, hs H' s, by rw [len]; exact hi⟩, fun F' ρ' H' st i x v H2 s sub kp w hx y => ?_⟩
  · have hi' : i < vs.length := by rw [len]; exact hi
    exact ⟨vs, vs[i], hs H' s, by rw [List.getElem?_eq_getElem hi']⟩
  · obtain ⟨rfl, y⟩ := y
    obtain ⟨v', h1, h2⟩ := hr.get hx
    have e := y vs (hs _ s)
    rw [h1] at e
    cases e
    exact ⟨F', .refl _ _ _, w, h2.mono3 sub kp, fun _ h => .inl h⟩
theorem itw_str (z : Str) : ItW K fa [] F H (Its z) (z.cps.toList.map fun c => P.str ⟨#[c]⟩) := by
  have len : (z.cps.toList.map fun c => P.str ⟨#[c]⟩).length = z.cps.size := by simp
  refine ⟨fun H' i s hi => by rw [len] at hi; exact hi, fun H' i s hi => by rw [len] at hi; exact hi, fun F' ρ' H' st i x v H2 s sub kp w hx y => ?_⟩
  obtain ⟨rfl, c, h1, rfl⟩ := y
  rw [List.getElem?_map, Array.getElem?_toList, h1] at hx
  cases hx
  exact ⟨F', .refl _ _ _, w, .str _, fun _ h => .inl h⟩
theorem itw_rng (a b : Int) : ItW K fa [] F H (Itr a (b - a).toNat) (rngP a b) := by
  have len : (rngP a b).length = (b - a).toNat := by simp [rngP]
  refine ⟨fun H' i s hi => by rw [len] at hi; exact hi, fun H' i s hi => by rw [len] at hi; exact hi, fun F' ρ' H' st i x v H2 s sub kp w hx y => ?_⟩
  obtain ⟨rfl, rfl⟩ := y
  have hi : i < (b - a).toNat := by
    rw [← len]
    exact (List.getElem?_eq_some_iff.mp hx).1
  have e : (rngP a b)[i]? = some (P.int (a + (i : Nat))) := by
    unfold rngP
    rw [List.getElem?_map, List.getElem?_range hi]
    rfl
  rw [e] at hx
  cases hx
  exact ⟨F', .refl _ _ _, w, .int _, fun _ h => .inl h⟩
/-- a new pair -/
theorem new_pair {v u : V} {x y : P} {T : Addr} (w : Wok K fa F ρ H st) (hT : H T = none) (h1 : VR K fa F H v x) (h2 : VR K fa F H u y) :
    ∃ F2, Ext F ρ H F2 ρ (upd H T (.tup [v, u])) ∧ Wok K fa F2 ρ (upd H T (.tup [v, u])) st ∧ VR K fa F2 (upd H T (.tup [v, u])) (.ref T) (.tup [x, y]) ∧ ∀ a, F2 a → F a ∨ nt H a = none := by
  have e := (ext_new (F := F) (ρ := ρ) (o := .tup [v, u]) hT)
  have hh : nt (upd H T (.tup [v, u])) T ≠ none := nt_ne upd_same (fun _ z => nomatch z)
  refine ⟨addF F T, e.fz (nt_of hT), (w.new hT).fz (w.free (nt_of hT)) hh, VR.tup (.inl ⟨.inr rfl, upd_same⟩) ?_, fun a h => h.elim .inl fun h => .inr (by rw [h]; exact nt_of hT)⟩
  exact ((VRs.cons h1 (.cons h2 .nil)).mono w.dis e).sub fun _ h => .inl h
theorem zip_get {α β : Type} {xs : List α} {ys : List β} {i : Nat} {p : α × β} (h : (xs.zip ys)[i]? = some p) : xs[i]? = some p.1 ∧ ys[i]? = some p.2 := by
  rw [List.getElem?_zip_eq_some] at h
  exact h
theorem itw_zipL {S : List Addr} {a b : Addr} {vs ws : List V} {xs ys : List P} (hs : ∀ H' : Hp, (∀ c, c ∈ S → H' c = H c) → SqL K H' a vs ∧ SqL K H' b ws) (hr : VRs K fa F H vs xs) (hr2 : VRs K fa F H ws ys) : ItW K fa S F H (Itz K a b) ((xs.zip ys).map fun p => P.tup [p.1, p.2]) := by
  have len := hr.length
  have len2 := hr2.length
  have hl : ((xs.zip ys).map fun p => P.tup [p.1, p.2]).length = min xs.length ys.length := by simp
  refine ⟨fun H' i s hi => ?_, fun H' i s hi => ⟨vs, ws, (hs H' s).1, (hs H' s).2, ?_⟩, fun F' ρ' H' st i x v H2 s sub kp w hx y => ?_⟩
  · rw [hl] at hi
    have h1 : i < vs.length := by omega
    have h2 : i < ws.length := by omega
    exact ⟨vs, ws, vs[i], ws[i], (hs H' s).1, (hs H' s).2, by rw [List.getElem?_eq_getElem h1], by rw [List.getElem?_eq_getElem h2]⟩
  · rw [hl] at hi
    omega
  · obtain ⟨T, v1, v2, rfl, hT, rfl, y1, y2⟩ := y
    rw [List.getElem?_map] at hx
    cases q : (xs.zip ys)[i]? with
    | none =>
      rw [q] at hx
      cases hx
    | some p =>
      rw [q] at hx
      cases hx
      obtain ⟨q1, q2⟩ := zip_get q
      obtain ⟨v1', g1, g2⟩ := hr.get q1
      obtain ⟨v2', g3, g4⟩ := hr2.get q2
      have e1 := y1 vs ((hs _ s).1)
      have e2 := y2 ws ((hs _ s).2)
      rw [g1] at e1
      rw [g3] at e2
      cases e1
      cases e2
      exact new_pair w hT (g2.mono3 sub kp) (g4.mono3 sub kp)
theorem itw_zipT {S : List Addr} {a b : Addr} {vs ws : List V} {xs ys : List P} (hs : ∀ H' : Hp, (∀ c, c ∈ S → H' c = H c) → SqT K H' a vs ∧ SqT K H' b ws) (hr : VRs K fa F H vs xs) (hr2 : VRs K fa F H ws ys) : ItW K fa S F H (RZ.ItzT K a b) ((xs.zip ys).map fun p => P.tup [p.1, p.2]) := by
  have len := hr.length
  have len2 := hr2.length
  have hl : ((xs.zip ys).map fun p => P.tup [p.1, p.2]).length = min xs.length ys.length := by simp
  refine ⟨fun H' i s hi => ?_, fun H' i s hi => ⟨vs, ws, (hs H' s).1, (hs H' s).2, ?_⟩, fun F' ρ' H' st i x v H2 s sub kp w hx y => ?_⟩
  · rw [hl] at hi
    have h1 : i < vs.length := by omega
    have h2 : i < ws.length := by omega
    exact ⟨vs, ws, vs[i], ws[i], (hs H' s).1, (hs H' s).2, by rw [List.getElem?_eq_getElem h1], by rw [List.getElem?_eq_getElem h2]⟩
  · rw [hl] at hi
    omega
  · obtain ⟨T, v1, v2, rfl, hT, rfl, y1, y2⟩ := y
    rw [List.getElem?_map] at hx
    cases q : (xs.zip ys)[i]? with
    | none =>
      rw [q] at hx
      cases hx
    | some p =>
      rw [q] at hx
      cases hx
      obtain ⟨q1, q2⟩ := zip_get q
      obtain ⟨v1', g1, g2⟩ := hr.get q1
      obtain ⟨v2', g3, g4⟩ := hr2.get q2
      have e1 := y1 vs (hs _ s).1
      have e2 := y2 ws (hs _ s).2
      rw [g1] at e1
      rw [g3] at e2
      cases e1
      cases e2
      exact new_pair w hT (g2.mono3 sub kp) (g4.mono3 sub kp)
theorem itw_enum {S : List Addr} {a : Addr} {vs : List V} {xs : List P} (hs : ∀ H' : Hp, (∀ c, c ∈ S → H' c = H c) → SqL K H' a vs) (hr : VRs K fa F H vs xs) : ItW K fa S F H (Ite K a) (xs.zipIdx.map fun p => P.tup [.int p.2, p.1]) := by
  have len := hr.length
  have hl : (xs.zipIdx.map fun p => P.tup [.int p.2, p.1]).length = xs.length := by simp
  refine ⟨fun H' i s hi => ?_, fun H' i s hi => ⟨vs, hs H' s, by rw [hl] at hi; omega⟩, fun F' ρ' H' st i x v H2 s sub kp w hx y => ?_⟩
  · rw [hl] at hi
    have h1 : i < vs.length := by omega
    exact ⟨vs, vs[i], hs H' s, by rw [List.getElem?_eq_getElem h1]⟩
  · obtain ⟨T, v1, rfl, hT, rfl, y1⟩ := y
    rw [List.getElem?_map, List.getElem?_zipIdx] at hx
    cases q : xs[i]? with
    | none =>
      rw [q] at hx
      cases hx
    | some p =>
      rw [q] at hx
      cases hx
      obtain ⟨v1', g1, g2⟩ := hr.get q
      have e1 := y1 vs (hs _ s)
      rw [g1] at e1
      cases e1
      have r := new_pair (v := V.int (i : Nat)) (x := P.int (i : Nat)) w hT (.int _) (g2.mono3 sub kp)
      simpa using r
end
end DE
end

section
set_option Elab.async false
set_option linter.all false
set_option maxRecDepth 100000
set_option autoImplicit false
namespace DE
open PySem PySem.Spec L2

def DVs (K : PySem.W.Frag) (fa : Fa) (F : Addr → Prop) (ρ : List Addr) (H : Hp) : List V → List D → Prop
  | [], [] => True
  | v :: vs, d :: ds => DV K fa F ρ H v d ∧ DVs K fa F ρ H vs ds
  | _, _ => False
/-- a def's promise, by the evaluator -/
def spK (K : PySem.W.Frag) (fa : Fa) (cl : List D → Store → R D) : Sp := fun vs H Q E => ∃ F ρ ds st, Wok K fa F ρ H st ∧ DVs K fa F ρ H vs ds ∧ PostD K fa (fun cls d _ H' => E cls d H') F ρ H [] (cl ds st) Q
/-- what try: a() / except: the error's names makes of the lambda's reading -/
def TTw (fa : Fa) (get : Bool) (wd : Nat → Option Str) : (XK → Hp → VK → Prop) → Hp → VK → Prop := fun tl H Q =>
  tl (fun cls d H' => ∃ k z, cls = .ref (fa k) ∧ d = none ∧ wd k = some z ∧ ∀ H'' : Hp, (∀ a o, H' a = some o → H'' a = some o) → Q (.str z) H'') H (fun v H' => Q (if get then v else .str (Str.ofString "")) H')
/-- the def that calls a lambda and tells its error -/
structure WordOk (P : Program) (w : World) (K : PySem.W.Frag) (mg : Str → Option Value) (base : Heap) (fa : Fa) (x : Str) (get : Bool) (wd : Nat → Option Str) (pg : Arguments) (bg : List Stmt) (sg : Scope) (dV kV doc pm cdv ct oc : Value) (an od : Option Addr) (osl : Array (Option Value)) (Ng : List Str) (a : Str) (g : Addr) : Prop where
  hm : mg x = some (.ref g)
  hk : PySem.W.keepIn K (.ref g) = true
  lk : K.lookup g = some ⟨oc, od, .func (PySem.W.fnOf x x pg bg sg dV kV doc pm an cdv ct), osl⟩
  hcg : PySem.W.codeIn K cdv x = true
  hb : L2.Binds K (PySem.W.fnOf x x pg bg sg dV kV doc pm an cdv ct) [a] []
  Sg : FnScope Ng [a] sg
  hNg : Ng[0]? = some a
  hva : Vis sg a
  hd : (a == ("__debug__" : Str)) = false
  hcd : (a == ("__classdict__" : Str)) = false
  hG : ∀ (X : Cx) (q : Str), X.prog = P → X.w = w → X.K = K → X.mg = mg → X.base = base → DL.GivesTo X Ng x sg g cdv bg a q (TTw fa get wd)
/-- try: return e / except StripError as _law_error: return names(_law_error) -/
def trySt (xn : Str) (q : Nat → Pos) (e : Expr) : Stmt := .Try [.Return (some e) (q 8)] [.ExceptHandler (some (.Name "StripError" (q 0))) (some "_law_error") [.Return (some (.Call (.Name xn (q 1)) [.Name "_law_error" (q 2)] [] (q 3))) (q 4)] (q 5)] [] [] (q 9)
/-- what it makes of the reading of e -/
def TryOk (P : Program) (w : World) (K : PySem.W.Frag) (mg : Str → Option Value) (base : Heap) (fa : Fa) (xn : Str) (wd : Nat → Option Str) : Prop :=
  ∀ (X : Cx) (i : Nat) (q : Nat → Pos) (e : Expr) (te : WX → TE) (WO : WX), X.prog = P → X.w = w → X.K = K → X.mg = mg → X.base = base → X.stack = X.env :: X.outer → X.env.frame = some X.env.locals → X.N.Nodup → X.N[i]? = some ("_law_error" : Str) →
    X.env.scope.names.lookup ("_law_error" : Str) = some .local → Gl X xn → Gl X "StripError" → Room 1 X.A → L2N.Takes X WO →
    (∀ W W' : WX, (∀ c d σ H, W c d σ H → W' c d σ H) → ∀ σ H Q, te W σ H Q → te W' σ H Q) →
    (∀ (W : WX) (pn : List (Addr × Obj)) (xe : Value → Shared → Prop), L2N.Takes (X.tr pn xe) W → PassesOwn (model X.prog X.w) X.A X.env xe → PE (X.tr pn xe) e (te W)) →
    PS X (trySt xn q e) (fun D σ H => te (fun cls d σ' H' => ∃ k z, cls = .ref (fa k) ∧ d = none ∧ wd k = some z ∧ ∀ H'' : Hp, (∀ a o, H' a = some o → H'' a = some o) → D.rt (.str z) H'') σ H fun v H1 => D.rt v H1)
/-- a class whose exceptions are held as values -/
structure ExV (P : Program) (w : World) (K : PySem.W.Frag) (mg : Str → Option Value) (base : Heap) (nm : Nm) (fa : Fa) (c : Nat) (x : Str) : Prop where
  hm : mg x = some (.ref (fa c))
  kp : PySem.W.keepIn K (.ref (fa c)) = true
  mkr : nm.i c = none → ∃ B newId initId bmB, ExcBaseFacts B newId initId bmB ∧ PySem.W.excIn K (fa c) bmB newId = true
  ec : ExcC K (fa c)
  ve : PySem.W.kitOne K (.ref (fa c)) (.type "ValueError") = some true
  un : ∀ j z, nm.x j = some z → PySem.W.kitOne K (.ref (fa c)) (.ref (fa j)) = some (decide (j = nm.s) || decide (j = c))
  fl : ∀ n, nm.i c = some n → XfC K (fa c) ∧ PySem.W.findIn K (.ref (fa c)) n = some none ∧ ∃ fI fd ps, OexC K (fa c) ∧ PySem.W.findIn K (.ref (fa c)) "__init__" = some (some (.ref fI)) ∧ PySem.W.typeIn K (.ref fI) = some (.type "function") ∧ FnOk P w K mg base (L2N.CX P w) 1 fI fd ps (DX.spInit (fa c) n) ∧ Binds K fd ps []
/-- what a text's names stand for -/
structure Fx (P : Program) (w : World) (K : PySem.W.Frag) (mg : Str → Option Value) (base : Heap) (nm : Nm) (fa : Fa) (gc : Nat → Option DE.P) (T : Nat → Option Df) (k : Nat) : Prop where
  fn : ∀ f x, nm.f f = some x → ∃ fd ps, mg x = some (.ref (fa f)) ∧ PySem.W.keepIn K (.ref (fa f)) = true ∧ Binds K fd ps [] ∧ FnOk P w K mg base (L2N.CX P w) (3 * k) (fa f) fd ps (spK K fa (callK T gc k f))
  con : ∀ x p, gc x = some p → ∃ v u, mg (nm.c x) = some u ∧ RelV v u ∧ ∀ F H, VR K fa F H v p
  free : ∀ x, x ∈ freeNames → mg x = none
  exc : ∀ c x, nm.e c = some x → mg x = some (.ref (fa c)) ∧ PySem.W.keepIn K (.ref (fa c)) = true ∧ (∃ B newId initId bmB, ExcBaseFacts B newId initId bmB ∧ PySem.W.excIn K (fa c) bmB newId = true) ∧ ∀ X : Cx, X.K = K → Raises X (.ref (fa c))
  wrd : ∀ f x get, nm.w f = some (x, get) → ∃ pg bg sg dV kV doc pm cdv ct oc an od osl Ng a g, WordOk P w K mg base fa x get (wdT T f) pg bg sg dV kV doc pm cdv ct oc an od osl Ng a g
  tok : ∀ f x get, nm.w f = some (x, get) → TryOk P w K mg base fa "_law_names" (wdT T f)
  exv : ∀ c x, nm.x c = some x → (c, nm.i c) ∈ fa.xs ∧ ExV P w K mg base nm fa c x
  exw : ∀ q, q ∈ fa.xs → ∃ x, nm.x q.1 = some x ∧ nm.i q.1 = q.2
/-- where a lambda may be made -/
structure LamOk (fa : Fa) (k : Nat) (X : Cx) : Prop where
  room : Room (3 * k + 2) X.A
  tb : ∃ c P, LamX.TabB X.base X.mg c P ∧ X.env.code = .ref c ∧ (P, X.env.qual ++ "<lambda>") ∈ fa.tb ∧ ∀ p ∈ fa.tb, p.1 = P → p.2 = X.env.qual ++ "<lambda>"
structure Cok (nm : Nm) (fa : Fa) (gc : Nat → Option DE.P) (T : Nat → Option Df) (k : Nat) (X : Cx) : Prop where
  calm : X.calm = true
  nd : X.N.Nodup
  room : Room (3 * k) X.A
  fx : Fx X.prog X.w X.K X.mg X.base nm fa gc T k
  lam : nm.l = true → LamOk fa k X
theorem Fx.l {P : Program} {w : World} {K : PySem.W.Frag} {mg : Str → Option Value} {base : Heap} {nm : Nm} {fa : Fa} {gc : Nat → Option DE.P} {T : Nat → Option Df} {k : Nat} (o : Fx P w K mg base nm fa gc T k) (b : Bool) : Fx P w K mg base { nm with l := b } fa gc T k := ⟨o.fn, o.con, o.free, o.exc, o.wrd, o.tok, fun c x h => let v := (o.exv c x h).2; ⟨(o.exv c x h).1, ⟨v.hm, v.kp, v.mkr, v.ec, v.ve, v.un, v.fl⟩⟩, o.exw⟩
theorem Cok.blk {nm : Nm} {fa : Fa} {gc : Nat → Option DE.P} {T : Nat → Option Df} {k : Nat} {X : Cx} (o : Cok nm fa gc T k X) (s : Shared) (H : Hp) (scope : Scope) (cl : List (Str × Addr)) (C : Addr) (fp : List Addr) : Cok nm fa gc T k (X.blk s H scope (compEnvC scope cl C X.env) fp) :=
  ⟨o.calm, o.nd, o.room, o.fx, fun h => ⟨(o.lam h).room, let ⟨c, P, h1, h2, h3, h4⟩ := (o.lam h).tb; ⟨c, P, h1, h2, h3, h4⟩⟩⟩
theorem okN_of {x : Str} (h : okN x = true) : (x == ("__debug__" : Str)) = false ∧ (x == ("__classdict__" : Str)) = false ∧ x ≠ "__name__" := by
  unfold okN at h
  simp only [Bool.and_eq_true, Bool.not_eq_true', decide_eq_false_iff_not] at h
  exact ⟨h.1.1, h.1.2, h.2⟩
theorem gl_of {X : Cx} {x : Str} (h : glB X.env.scope x = true) : Gl X x := by
  unfold glB at h
  unfold Gl
  show X.env.scope.names.lookup x = _
  split at h
  · rename_i q
    exact q
  · cases h

def newsOf : List V → List D → List V
  | v :: vs, .new _ :: ds => v :: newsOf vs ds
  | _ :: vs, _ :: ds => newsOf vs ds
  | _, _ => []
/-- the new ones stand apart -/
def Apart : List V → List D → Prop
  | v :: vs, .new _ :: ds => v ∉ newsOf vs ds ∧ Apart vs ds
  | _ :: vs, _ :: ds => Apart vs ds
  | _, _ => True
abbrev relA (K : PySem.W.Frag) (fa : Fa) : Rel (List V) (List D) := fun F ρ H H0 v d => DRs K fa F ρ H H0 v d ∧ Apart v d
theorem anti_A {K : PySem.W.Frag} {fa : Fa} : Anti (relA K fa) := fun _ _ _ _ _ _ _ _ _ _ _ e h => ⟨h.1.anti e, h.2⟩
section
variable {K : PySem.W.Frag} {fa : Fa} {W : WX} {c : Cf} {F : Addr → Prop} {ρ : List Addr} {H : Hp} {σ : L2.St} {env : Env} {st : Store} {Q : VK}
def tEv (K : PySem.W.Frag) (fa : Fa) (W : WX) (c : Cf) (ie : IE) : TE := fun σ H Q => ∃ F ρ env st, Wok K fa F ρ H st ∧ ERel K fa F ρ H σ env ∧ PostD K fa W F ρ H σ (ev c ie env st) Q
def tEvL (K : PySem.W.Frag) (fa : Fa) (W : WX) (c : Cf) (il : IL) : TA := fun σ H Q => ∃ F ρ env st, Wok K fa F ρ H st ∧ ERel K fa F ρ H σ env ∧ Post K fa (relA K fa) W F ρ H σ (evL c il env st) Q
def tEvT (K : PySem.W.Frag) (fa : Fa) (W : WX) (c : Cf) (f : Env → Store → R Bool) : TT := fun σ H Q => ∃ F ρ env st, Wok K fa F ρ H st ∧ ERel K fa F ρ H σ env ∧ Post K fa relE W F ρ H σ (f env st) Q
def tEvF (K : PySem.W.Frag) (fa : Fa) (W : WX) (f : Env → Store → R D) : TE := fun σ H Q => ∃ F ρ env st, Wok K fa F ρ H st ∧ ERel K fa F ρ H σ env ∧ PostD K fa W F ρ H σ (f env st) Q
/-- a first part, then the rest -/
theorem ev0 {F0 : Addr → Prop} {ρ0 : List Addr} {H0 : Hp} {f : Env → Store → R D} {β α : Type} {rel : Rel β α} {g : D → Store → R α} {Q : β → Hp → Prop} (w : Wok K fa F ρ H st) (er : ERel K fa F ρ H σ env) (e0 : Ext F0 ρ0 H0 F ρ H) (h : Post K fa rel W F0 ρ0 H0 σ ((f env st).bind g) Q) {Q1 : VK}
    (k : ∀ x H1 F1 ρ1 d st1, Ext F ρ H F1 ρ1 H1 → Wok K fa F1 ρ1 H1 st1 → DR K fa F1 ρ1 H1 H x d → Post K fa rel W F0 ρ0 H0 σ (g d st1) Q → Q1 x H1) : tEvF K fa W f σ H Q1 :=
  ⟨F, ρ, env, st, w, er, (h.step0 (rel1 := relD K fa) e0).imp fun b H1 ⟨F1, ρ1, a, st1, e1, w1, r1, p1⟩ => k b H1 F1 ρ1 a st1 e1 w1 r1 p1⟩
theorem evl0 {F0 : Addr → Prop} {ρ0 : List Addr} {H0 : Hp} {il : IL} {β α : Type} {rel : Rel β α} {g : List D → Store → R α} {Q : β → Hp → Prop} (w : Wok K fa F ρ H st) (er : ERel K fa F ρ H σ env) (e0 : Ext F0 ρ0 H0 F ρ H) (h : Post K fa rel W F0 ρ0 H0 σ ((evL c il env st).bind g) Q) {Q1 : List V → Hp → Prop}
    (k : ∀ x H1 F1 ρ1 d st1, Ext F ρ H F1 ρ1 H1 → Wok K fa F1 ρ1 H1 st1 → DRs K fa F1 ρ1 H1 H x d → Apart x d → Post K fa rel W F0 ρ0 H0 σ (g d st1) Q → Q1 x H1) : tEvL K fa W c il σ H Q1 :=
  ⟨F, ρ, env, st, w, er, (h.step0 (rel1 := relA K fa) e0).imp fun b H1 ⟨F1, ρ1, a, st1, e1, w1, r1, p1⟩ => k b H1 F1 ρ1 a st1 e1 w1 r1.1 r1.2 p1⟩
theorem ev1 {f : Env → Store → R D} {β α : Type} {rel : Rel β α} {g : D → Store → R α} {Q : β → Hp → Prop} (an : Anti rel) (w : Wok K fa F ρ H st) (er : ERel K fa F ρ H σ env) (h : Post K fa rel W F ρ H σ ((f env st).bind g) Q) {Q1 : VK}
    (k : ∀ x H1 F1 ρ1 d st1, Ext F ρ H F1 ρ1 H1 → Wok K fa F1 ρ1 H1 st1 → ERel K fa F1 ρ1 H1 σ env → DR K fa F1 ρ1 H1 H x d → Post K fa rel W F1 ρ1 H1 σ (g d st1) Q → Q1 x H1) : tEvF K fa W f σ H Q1 :=
  ev0 w er (.refl _ _ _) h fun x H1 F1 ρ1 d st1 e1 w1 r1 p1 => k x H1 F1 ρ1 d st1 e1 w1 (er.mono w e1) r1 (p1.rebase an e1)
theorem evl1 {il : IL} {β α : Type} {rel : Rel β α} {g : List D → Store → R α} {Q : β → Hp → Prop} (an : Anti rel) (w : Wok K fa F ρ H st) (er : ERel K fa F ρ H σ env) (h : Post K fa rel W F ρ H σ ((evL c il env st).bind g) Q) {Q1 : List V → Hp → Prop}
    (k : ∀ x H1 F1 ρ1 d st1, Ext F ρ H F1 ρ1 H1 → Wok K fa F1 ρ1 H1 st1 → ERel K fa F1 ρ1 H1 σ env → DRs K fa F1 ρ1 H1 H x d → Apart x d → Post K fa rel W F1 ρ1 H1 σ (g d st1) Q → Q1 x H1) : tEvL K fa W c il σ H Q1 :=
  evl0 w er (.refl _ _ _) h fun x H1 F1 ρ1 d st1 e1 w1 r1 a1 p1 => k x H1 F1 ρ1 d st1 e1 w1 (er.mono w e1) r1 a1 (p1.rebase an e1)
theorem cvD {o : Option DE.P} (h : PostD K fa W F ρ H σ (mkD o st) Q) : PostD K fa W0 F ρ H [] (mkD o st) Q := by
  cases o with
  | none => exact h
  | some x => exact h
theorem cvP {o : Option DE.P} (h : PostD K fa W F ρ H σ (mkP o st) Q) : PostD K fa W0 F ρ H [] (mkP o st) Q := by
  cases o with
  | none => exact h
  | some x => exact h
theorem cvB {o : Option Bool} (h : PostD K fa W F ρ H σ (mkB o st) Q) : PostD K fa W0 F ρ H [] (mkB o st) Q := by
  cases o with
  | none => exact h
  | some x => exact h
theorem rd2_of {β α : Type} {rel : Rel β α} {Q : β → Hp → Prop} {a b : D} {f : DE.P → DE.P → R D} {Q : VK} (h : PostD K fa W F ρ H σ (rd2 a b st f) Q) : ∃ x y, a.rd st = some x ∧ b.rd st = some y ∧ PostD K fa W F ρ H σ (f x y) Q := by
  unfold rd2 at h
  cases q1 : a.rd st with
  | none =>
    rw [q1] at h
    exact h.elim
  | some x =>
    cases q2 : b.rd st with
    | none =>
      rw [q1, q2] at h
      exact h.elim
    | some y =>
      rw [q1, q2] at h
      exact ⟨x, y, rfl, rfl, h⟩
/-- two parts, read -/
theorem ev2 {fa1 fb : Env → Store → R D} {f : DE.P → DE.P → Store → R D} (w : Wok K fa F ρ H st) (er : ERel K fa F ρ H σ env) (h : PostD K fa W F ρ H σ ((fa1 env st).bind fun x st => (fb env st).bind fun y st => rd2 x y st fun x y => f x y st) Q) :
    tEvF K fa W fa1 σ H fun x H1 => tEvF K fa W fb σ H1 fun y H2 => ∃ F ρ st px py, Wok K fa F ρ H2 st ∧ VRr K fa F H2 x px ∧ VRr K fa F H2 y py ∧ PostD K fa W F ρ H2 σ (f px py st) Q :=
  ev1 anti_D w er h fun x H1 F1 ρ1 d st1 e1 w1 er1 r1 p1 => ev1 anti_D w1 er1 p1 fun y H2 F2 ρ2 d2 st2 e2 w2 er2 r2 p2 => by
    obtain ⟨px, py, q1, q2, p3⟩ := rd2_of (rel := relD K fa) (Q := Q) p2
    exact ⟨F2, ρ2, st2, px, py, w2, (r1.mono w1.dis e2).rd w2 q1, r2.rd w2 q2, p3⟩
theorem truth_of {d : D} {v : V} {H0 : Hp} {Q : Bool → Hp → Prop} (w : Wok K fa F ρ H st) (r : DR K fa F ρ H H0 v d) (h : Post K fa relE W F ρ H σ (rdB d st) Q) : ∃ b, TruV K v H b ∧ Q b H := by
  unfold rdB at h
  cases q : d.rd st with
  | none =>
    rw [q] at h
    exact h.elim
  | some x =>
    rw [q] at h
    have h : Post K fa relE W F ρ H σ (R.opt (truth x) st) Q := h
    cases q2 : truth x with
    | none =>
      rw [q2] at h
      exact h.elim
    | some b =>
      rw [q2] at h
      exact ⟨b, de_tru (r.rd w q) q2, Post.ok (rel := relE) h w rfl⟩
theorem news_fresh {F : Addr → Prop} {ρ : List Addr} {H H0 : Hp} : ∀ {vs : List V} {ds : List D}, DRs K fa F ρ H H0 vs ds → ∀ v ∈ newsOf vs ds, ∃ a, v = .ref a ∧ nt H0 a = none
  | [], [], _, v, hv => by cases hv
  | u :: us, d :: ds, h, v, hv => by
    cases d with
    | new xs =>
      have hv : v ∈ u :: newsOf us ds := hv
      rcases List.mem_cons.mp hv with e | hv
      · obtain ⟨a, ws, e1, h1, h2, h3, h4, h5⟩ := h.1
        exact ⟨a, by rw [e, e1], h5⟩
      · exact news_fresh h.2 v hv
    | p x => exact news_fresh h.2 v hv
    | bor x => exact news_fresh h.2 v hv
    | box x => exact news_fresh h.2 v hv
  | [], _ :: _, h, _, _ => h.elim
  | _ :: _, [], h, _, _ => h.elim
theorem DR.addF {F : Addr → Prop} {ρ : List Addr} {H H0 : Hp} {v : V} {d : D} {a : Addr} (hn : ∀ xs, d = .new xs → v ≠ .ref a) (h : DR K fa F ρ H H0 v d) : DR K fa (addF F a) ρ H H0 v d := by
  cases d with
  | p x => exact VR.sub (fun _ h => .inl h) h
  | new xs =>
    obtain ⟨b, ws, e1, h1, h2, h3, h4, h5⟩ := h
    exact ⟨b, ws, e1, h1, h2.sub fun _ h => .inl h, fun z => z.elim h3 fun z => hn xs rfl (by rw [e1, z]), h4, h5⟩
  | bor o =>
    obtain ⟨b, e1, h1, h2⟩ := h
    exact ⟨b, e1, h1.sub fun _ h => .inl h, h2⟩
  | box n => exact h
theorem DRs.addF {F : Addr → Prop} {ρ : List Addr} {H H0 : Hp} {a : Addr} : ∀ {vs : List V} {ds : List D}, V.ref a ∉ newsOf vs ds → DRs K fa F ρ H H0 vs ds → DRs K fa (addF F a) ρ H H0 vs ds
  | [], [], _, _ => True.intro
  | u :: us, d :: ds, hn, h => by
    cases d with
    | new xs =>
      have hn : V.ref a ∉ u :: newsOf us ds := hn
      rw [List.mem_cons, not_or] at hn
      exact ⟨h.1.addF fun _ _ e => hn.1 e.symm, DRs.addF hn.2 h.2⟩
    | p x => exact ⟨h.1.addF (fun _ e => by cases e), DRs.addF hn h.2⟩
    | bor x => exact ⟨h.1.addF (fun _ e => by cases e), DRs.addF hn h.2⟩
    | box x => exact ⟨h.1.addF (fun _ e => by cases e), DRs.addF hn h.2⟩
  | [], _ :: _, _, h => h.elim
  | _ :: _, [], _, h => h.elim
/-- kept as items -/
theorem keeps_ok {F0 : Addr → Prop} {ρ0 ρ : List Addr} {H0 H : Hp} {st : Store} : ∀ {vs : List V} {ds : List D} {xs : List DE.P} {F : Addr → Prop}, Wok K fa F ρ H st → Ext F0 ρ0 H0 F ρ H → DRs K fa F ρ H H0 vs ds → Apart vs ds → keeps ds = some xs →
    ∃ F', Ext F0 ρ0 H0 F' ρ H ∧ Wok K fa F' ρ H st ∧ VRs K fa F' H vs xs ∧ ∀ a, F a → F' a
  | [], [], xs, F, w, e, _, _, hk => by
    cases hk
    exact ⟨F, e, w, .nil, fun _ h => h⟩
  | v :: vs, d :: ds, xs, F, w, e, h, ap, hk => by
    unfold keeps at hk
    cases q1 : d.keep with
    | none =>
      rw [q1] at hk
      cases hk
    | some x =>
      cases q2 : keeps ds with
      | none =>
        rw [q1, q2] at hk
        cases hk
      | some ys =>
        rw [q1, q2] at hk
        cases hk
        cases d with
        | p y =>
          cases q1
          obtain ⟨F', e', w', r', s'⟩ := keeps_ok w e h.2 ap q2
          exact ⟨F', e', w', .cons (VR.sub s' h.1) r', s'⟩
        | new zs =>
          cases q1
          obtain ⟨a, ws, e1, h1, h2, h3, h4, h5⟩ := h.1
          have hh := nt_lst h1
          subst e1
          obtain ⟨F', e', w', r', s'⟩ := keeps_ok (F := DE.addF F a) (w.fz h4 hh) (e.fz h5) (DRs.addF ap.1 h.2) ap.2 q2
          exact ⟨F', e', w', .cons (.lst (s' a (.inr rfl)) h1 (h2.sub fun b hb => s' b (.inl hb))) r', fun b hb => s' b (.inl hb)⟩
        | bor o => cases q1
        | box n => cases q1
  | [], _ :: _, _, _, _, _, h, _, _ => h.elim
  | _ :: _, [], _, _, _, _, h, _, _ => h.elim
/-- given to a def -/
theorem args_ok {F0 : Addr → Prop} {ρ0 ρ : List Addr} {H0 H : Hp} {st : Store} : ∀ {vs : List V} {ds xs : List D} {F : Addr → Prop}, Wok K fa F ρ H st → Ext F0 ρ0 H0 F ρ H → DRs K fa F ρ H H0 vs ds → Apart vs ds → argsD ds = some xs →
    ∃ F', Ext F0 ρ0 H0 F' ρ H ∧ Wok K fa F' ρ H st ∧ DVs K fa F' ρ H vs xs ∧ ∀ a, F a → F' a
  | [], [], xs, F, w, e, _, _, hk => by
    cases hk
    exact ⟨F, e, w, True.intro, fun _ h => h⟩
  | v :: vs, d :: ds, xs, F, w, e, h, ap, hk => by
    unfold argsD at hk
    cases q1 : d.arg with
    | none =>
      rw [q1] at hk
      cases hk
    | some x =>
      cases q2 : argsD ds with
      | none =>
        rw [q1, q2] at hk
        cases hk
      | some ys =>
        rw [q1, q2] at hk
        cases hk
        cases d with
        | p y =>
          cases q1
          obtain ⟨F', e', w', r', s'⟩ := args_ok w e h.2 ap q2
          exact ⟨F', e', w', ⟨VR.sub s' h.1, r'⟩, s'⟩
        | new zs =>
          cases q1
          obtain ⟨a, ws, e1, h1, h2, h3, h4, h5⟩ := h.1
          have hh := nt_lst h1
          subst e1
          obtain ⟨F', e', w', r', s'⟩ := args_ok (F := DE.addF F a) (w.fz h4 hh) (e.fz h5) (DRs.addF ap.1 h.2) ap.2 q2
          exact ⟨F', e', w', ⟨VR.lst (s' a (.inr rfl)) h1 (h2.sub fun b hb => s' b (.inl hb)), r'⟩, fun b hb => s' b (.inl hb)⟩
        | bor o => cases q1
        | box n =>
          cases q1
          obtain ⟨F', e', w', r', s'⟩ := args_ok w e h.2 ap q2
          exact ⟨F', e', w', ⟨h.1, r'⟩, s'⟩
  | [], _ :: _, _, _, _, _, h, _, _ => h.elim
  | _ :: _, [], _, _, _, _, h, _, _ => h.elim
/-- read -/
theorem rds_ok {F : Addr → Prop} {ρ : List Addr} {H0 H : Hp} {st : Store} : ∀ {vs : List V} {ds : List D} {xs : List DE.P}, Wok K fa F ρ H st → DRs K fa F ρ H H0 vs ds → rds st ds = some xs → VRrs K fa F H vs xs
  | [], [], xs, w, _, hk => by
    cases hk
    exact .nil
  | v :: vs, d :: ds, xs, w, h, hk => by
    unfold rds at hk
    cases q1 : d.rd st with
    | none =>
      rw [q1] at hk
      cases hk
    | some x =>
      cases q2 : rds st ds with
      | none =>
        rw [q1, q2] at hk
        cases hk
      | some ys =>
        rw [q1, q2] at hk
        cases hk
        exact .cons (h.1.rd w q1) (rds_ok w h.2 q2)
  | [], _ :: _, _, _, h, _ => h.elim
  | _ :: _, [], _, _, h, _ => h.elim
end
end DE
end

section
set_option Elab.async false
set_option linter.all false
set_option maxRecDepth 100000
set_option autoImplicit false
namespace DE
open PySem PySem.Spec L2
section
variable {X : Cx} {e e1 e2 e3 : Expr} {es : List Expr} {pos : Pos} {fa : Fa} {W : WX} {c : Cf} {a b d : IE} {il : IL}
theorem pe_of {t t' : TE} (h : PE X e t) (i : ∀ σ H Q, t' σ H Q → t σ H Q) : PE X e t' := ⟨fun pins s σ H Q I q => h.run pins s σ H Q I (i σ H Q q)⟩
theorem pa_of {t t' : TA} (h : PA X es t) (i : ∀ σ H Q, t' σ H Q → t σ H Q) : PA X es t' := ⟨fun po pins s σ H Q I q => h.run po pins s σ H Q I (i σ H Q q)⟩
theorem pt_of {t t' : TT} (h : PT X e t) (i : ∀ σ H Q, t' σ H Q → t σ H Q) : PT X e t' := ⟨fun pins s σ H Q I q => h.run pins s σ H Q I (i σ H Q q)⟩
theorem c_val {v : V} {x : DE.P} (h : PE X e (tC v)) (he : ∀ env st, ev c a env st = .ok (.p x) st) (hv : ∀ F H, VR X.K fa F H v x) : PE X e (tEv X.K fa W c a) := pe_of h fun σ H Q ⟨F, ρ, env, st, w, er, p⟩ => by
  rw [he] at p
  exact pP p w (hv F H)
theorem c_var {i : Nat} {x : Str} (hN : X.N[i]? = some x) (hv : Vis X.env.scope x) (hd : (x == ("__debug__" : Str)) = false) (hcd : (x == ("__classdict__" : Str)) = false) : PE X (.Name x pos) (tEv X.K fa W c (.v i)) := pe_of (pe_var hN hv hd hcd) fun σ H Q ⟨F, ρ, env, st, w, er, p⟩ => by
  have p : PostD X.K fa W F ρ H σ (match env[i]? with | some (.val d) => .ok d st | some (.own o) => .ok (.bor o) st | _ => .bad) Q := p
  cases q : env[i]? with
  | none =>
    rw [q] at p
    exact p.elim
  | some sl =>
    rw [q] at p
    cases sl with
    | un => exact p.elim
    | val d =>
      obtain ⟨v, h1, h2⟩ := er.val i d q
      exact ⟨v, h1, Post.ok (rel := relD X.K fa) p w h2.dr⟩
    | own so =>
      obtain ⟨ad, h1, h2, h3, h4⟩ := er.own i so q
      exact ⟨_, h1, Post.ok (rel := relD X.K fa) p w ⟨ad, rfl, h2, h4⟩⟩
theorem imp1 {f : Env → Store → R D} {σ : L2.St} {H : Hp} {Q Q' : VK} {K : PySem.W.Frag} (h : tEvF K fa W f σ H Q) (i : ∀ v H', Q v H' → Q' v H') : tEvF K fa W f σ H Q' := by
  obtain ⟨F, ρ, env, st, w, er, p⟩ := h
  exact ⟨F, ρ, env, st, w, er, p.imp i⟩
theorem c_bin {op : Operator} (ha : PE X e1 (tEv X.K fa W c a)) (hb : PE X e2 (tEv X.K fa W c b)) : PE X (.BinOp e1 op e2 pos) (tEv X.K fa W c (.bin op a b)) := pe_of (pe_op (de_bin (fa := fa) op) ha hb) fun σ H Q ⟨F, ρ, env, st, w, er, p⟩ =>
  imp1 (ev2 (fa1 := ev c a) (fb := ev c b) (f := fun x y st => mkD (opBin op x y) st) w er p) fun x H1 h1 => imp1 h1 fun y H2 ⟨F, ρ, st, px, py, w, hx, hy, p⟩ => ⟨F, ρ, st, px, py, w, hx, hy, cvD p⟩
theorem c_cmp {op : CmpOp} (hu : X.A.units + 64 < cLine) (hm : behindInMarks op e2 = false) (ha : PE X e1 (tEv X.K fa W c a)) (hb : PE X e2 (tEv X.K fa W c b)) : PE X (.Compare e1 [op] [e2] pos) (tEv X.K fa W c (.cmp op a b)) := pe_of (pe_cmpR (de_cmp (fa := fa) hu op) ha hb hm) fun σ H Q ⟨F, ρ, env, st, w, er, p⟩ =>
  imp1 (ev2 (fa1 := ev c a) (fb := ev c b) (f := fun x y st => mkB (opCmp op x y) st) w er p) fun x H1 h1 => imp1 h1 fun y H2 ⟨F, ρ, st, px, py, w, hx, hy, p⟩ => ⟨F, ρ, st, px, py, w, hx, hy, cvB p⟩
theorem c_idx (hs : PlainIx e2) (ha : PE X e1 (tEv X.K fa W c a)) (hb : PE X e2 (tEv X.K fa W c b)) : PE X (.Subscript e1 e2 pos) (tEv X.K fa W c (.idx a b)) := pe_of (pe_ix (de_ix (fa := fa)) ha hb hs) fun σ H Q ⟨F, ρ, env, st, w, er, p⟩ =>
  imp1 (ev2 (fa1 := ev c a) (fb := ev c b) (f := fun x y st => mkP (opIdx x y) st) w er p) fun x H1 h1 => imp1 h1 fun y H2 ⟨F, ρ, st, px, py, w, hx, hy, p⟩ => ⟨F, ρ, st, px, py, w, hx, hy, cvP p⟩
theorem un_negB : UnR X (unaryOp .USub) (fun x H Q => ∃ b, x = .bl b ∧ Q (.int (-b2i b)) H) := by
  intro pins s σ H x v Q I rx h
  obtain ⟨b, rfl, q⟩ := h
  cases rx
  unfold unaryOp
  refine wpAny_holding ?_
  refine wpAny_bind (m := callSpecial? (.bool b) (Str.ofString "__neg__")) (wpAny_callSpecial?_slot (name := Str.ofString "__neg__") (T := "bool") rfl F.slot_bool_neg
    (wpAny_call_entry F.slot_bool_neg (show s.TypeIs (.bool b) "bool" from rfl) F.entry_int_neg ?_ (F.args_int_neg_1 _)))
  show wpAny _ _ (do ret (← mkInt (-b2i b))) _ _ s
  exact wpAny_ret_mkInt (wpAny_pure ⟨.int (-b2i b), H, I.tok _, ⟨_, rfl⟩, q⟩)
def rNeg : V → Hp → VK → Prop := fun x H Q => (∃ i, x = .int i ∧ Q (.int (-i)) H) ∨ ∃ b, x = .bl b ∧ Q (.int (-b2i b)) H
theorem un_neg2 : UnR X (unaryOp .USub) rNeg := by
  intro pins s σ H x v Q I rx h
  rcases h with h | h
  · exact un_neg pins s σ H x v Q I rx h
  · exact un_negB pins s σ H x v Q I rx h
theorem c_neg (ha : PE X e1 (tEv X.K fa W c a)) : PE X (.UnaryOp .USub e1 pos) (tEv X.K fa W c (.neg a)) := pe_of (pe_un un_neg2 ha) fun σ H Q ⟨F, ρ, env, st, w, er, p⟩ =>
  ev1 (f := ev c a) (g := fun x st => match x.rd st with | some (.int i) => .ok (.p (.int (-i))) st | some (.bl b) => .ok (.p (.int (-b2i b))) st | _ => .bad) anti_D w er p fun x H1 F1 ρ1 d st1 _ w1 er1 r1 p1 => by
    cases q : d.rd st1 with
    | none =>
      simp only [q] at p1
      exact p1.elim
    | some y =>
      simp only [q] at p1
      cases y with
      | int i =>
        cases (r1.rd w1 q).int
        exact .inl ⟨i, rfl, pP p1 w1 (.int _)⟩
      | bl i =>
        cases (r1.rd w1 q).bl
        exact .inr ⟨i, rfl, pP p1 w1 (.int _)⟩
      | _ => exact p1.elim
theorem c_no (ha : PE X e1 (tEv X.K fa W c a)) : PE X (.UnaryOp .Not e1 pos) (tEv X.K fa W c (.no a)) := pe_of (pe_notT ha) fun σ H Q ⟨F, ρ, env, st, w, er, p⟩ =>
  ev1 (f := ev c a) (g := fun d st => (rdB d st).bind fun b st => .ok (.p (.bl (!b))) st) anti_D w er p fun x H1 F1 ρ1 d st1 _ w1 er1 r1 p1 => by
    have p2 : Post X.K fa relE W F1 ρ1 H1 σ (rdB d st1) (fun b H' => Q (.bl (!b)) H') := by
      cases q : rdB d st1 with
      | bad =>
        simp only [q] at p1
        exact p1.elim
      | exc kk xx ss =>
        simp only [q] at p1
        exact p1
      | ok b ss =>
        simp only [q] at p1
        intro b' F' ρ' H' e' w' r'
        cases (show b' = b from r')
        exact p1 _ F' ρ' H' e' w' (VR.bl _)
    exact truth_of w1 r1 p2
theorem c_ife {f1 f2 f3 : Env → Store → R D} (ht : PT X e1 (tEvT X.K fa W c fun env st => evT c a env st)) (ha : PE X e2 (tEv X.K fa W c b)) (hb : PE X e3 (tEv X.K fa W c d)) : PE X (.IfExp e1 e2 e3 pos) (tEv X.K fa W c (.ife a b d)) := pe_of (pe_ifExp ht ha hb) fun σ H Q ⟨F, ρ, env, st, w, er, p⟩ => by
  have p : PostD X.K fa W F ρ H σ ((ev c a env st).bind fun k st => (rdB k st).bind fun k st => if k then ev c b env st else ev c d env st) Q := p
  have p' : PostD X.K fa W F ρ H σ ((evT c a env st).bind fun k st => if k then ev c b env st else ev c d env st) Q := by
    unfold evT
    cases q : ev c a env st with
    | ok x s1 => simpa [q, R.bind] using p
    | exc kk xx ss => simpa [q, R.bind] using p
    | bad => simpa [q, R.bind] using p
  refine ⟨F, ρ, env, st, w, er, (p'.step (rel1 := relE) anti_D).imp fun k H1 ⟨F1, ρ1, k', st1, e1, w1, r1, p1⟩ => ?_⟩
  cases (show k = k' from r1)
  cases k with
  | true => exact iteT ⟨F1, ρ1, env, st1, w1, er.mono w e1, p1⟩
  | false => exact iteF ⟨F1, ρ1, env, st1, w1, er.mono w e1, p1⟩
theorem c_tup {kk : Nat} (h : PA X es (tEvL X.K fa W c il)) : PE X (.Tuple es kk pos) (tEv X.K fa W c (.tup il)) := pe_of (pe_tup h) fun σ H Q ⟨F, ρ, env, st, w, er, p⟩ =>
  evl0 w er (.refl _ _ _) p fun vs H1 F1 ρ1 ds st1 e1 w1 r1 ap1 p1 => by
    cases q : keeps ds with
    | none =>
      simp only [q] at p1
      exact p1.elim
    | some xs =>
      simp only [q] at p1
      cases hm : small xs.length with
      | false =>
        simp only [hm] at p1
        exact p1.elim
      | true =>
        simp only [hm] at p1
        obtain ⟨F', e', w', r', s'⟩ := keeps_ok w1 e1 r1 ap1 q
        exact ⟨by rw [r'.length]; exact of_decide_eq_true hm, pTup (p1.rebase anti_D e') w' r'⟩
theorem c_lst (h : PA X es (tEvL X.K fa W c il)) : PE X (.List es pos) (tEv X.K fa W c (.lst il)) := pe_of (pe_lst h) fun σ H Q ⟨F, ρ, env, st, w, er, p⟩ =>
  evl0 w er (.refl _ _ _) p fun vs H1 F1 ρ1 ds st1 e1 w1 r1 ap1 p1 => by
    cases q : keeps ds with
    | none =>
      simp only [q] at p1
      exact p1.elim
    | some xs =>
      simp only [q] at p1
      cases hm : small xs.length with
      | false =>
        simp only [hm] at p1
        exact p1.elim
      | true =>
        simp only [hm] at p1
        obtain ⟨F', e', w', r', s'⟩ := keeps_ok w1 e1 r1 ap1 q
        exact ⟨by rw [r'.length]; exact of_decide_eq_true hm, pNew (p1.rebase anti_D e') w' r'⟩
theorem c_nil : PA X [] (tEvL X.K fa W c .nil) := pa_of pa_nil fun σ H Q ⟨F, ρ, env, st, w, er, p⟩ => Post.ok (rel := relA X.K fa) p w ⟨True.intro, True.intro⟩
theorem c_cons (ha : PE X e (tEv X.K fa W c a)) (hr : PA X es (tEvL X.K fa W c il)) (hs : starEach (e :: es) X.env = (false, eval e X.env) :: starEach es X.env) : PA X (e :: es) (tEvL X.K fa W c (.cons a il)) := pa_of (pa_cons ha hr hs) fun σ H Q ⟨F, ρ, env, st, w, er, p⟩ => by
  have p : Post X.K fa (relA X.K fa) W F ρ H σ ((ev c a env st).bind fun d st => (evL c il env st).bind fun ds st => .ok (d :: ds) st) Q := p
  refine ev0 w er (.refl _ _ _) p fun v H1 F1 ρ1 d st1 e1 w1 r1 p1 => ?_
  refine evl0 w1 (er.mono w e1) e1 p1 fun vs H2 F2 ρ2 ds st2 e2 w2 r2 a2 p2 => ?_
  refine p2 (v :: vs) F2 ρ2 H2 (e1.trans e2) w2 ⟨⟨r1.mono w1.dis e2, r2.anti e1⟩, ?_⟩
  cases d with
  | new xs =>
    obtain ⟨b, ws, z1, h1, h2, h3, h4, h5⟩ := r1
    refine ⟨fun hm => ?_, a2⟩
    obtain ⟨b', z2, z3⟩ := news_fresh r2 v hm
    rw [z1] at z2
    cases z2
    exact nt_abs z3 h1 (fun _ z => nomatch z)
  | p x => exact a2
  | bor x => exact a2
  | box x => exact a2
end
end DE
end

section
set_option Elab.async false
set_option linter.all false
set_option maxRecDepth 100000
set_option autoImplicit false
namespace DE
open PySem PySem.Spec L2
section
variable {X : Cx} {e e1 e2 e3 : Expr} {es : List Expr} {pos p : Pos} {fa : Fa} {W : WX} {c : Cf} {a b d : IE} {il : IL}
/-- a wish at one slot list is a wish for all -/
theorem post_at {K : PySem.W.Frag} {F : Addr → Prop} {ρ : List Addr} {H : Hp} {σ : L2.St} {r : R D} {Q : VK} (h : PostD K fa W F ρ H σ r Q) : PostD K fa (fun cls d _ H' => W cls d σ H') F ρ H [] r Q := by
  cases r with
  | ok a s => exact h
  | exc k x s => exact h
  | bad => exact h
theorem c_call {T : Nat → Option Df} {gc : Nat → Option DE.P} {nm : Nm} {k f : Nat} {x : Str} (o : Cok nm fa gc T k X) (tk : L2N.Takes X W) (hf : nm.f f = some x) (hg : Gl X x) (hdb : (x == ("__debug__" : Str)) = false)
    (ha : PA X es (tEvL X.K fa W ⟨callK T gc k, gc, wdT T⟩ il)) (hst : ∀ e r, es = e :: r → starEach (e :: r) X.env = (false, eval e X.env) :: starEach r X.env) (hpl : ∀ e r, es = e :: r → (backTo pos (starEach r X.env)).any (·.1) = false) (h0 : es = [] → il = .nil) :
    PE X (.Call (.Name x p) es [] pos) (tEv X.K fa W ⟨callK T gc k, gc, wdT T⟩ (.call f il)) := by
  obtain ⟨fd, ps, h1, h2, h3, h4⟩ := o.fx.fn f x hf
  have rd : ∀ σ H Q, tEv X.K fa W ⟨callK T gc k, gc, wdT T⟩ (.call f il) σ H Q → tCallS (spK X.K fa (callK T gc k f)) (WE W) (tEvL X.K fa W ⟨callK T gc k, gc, wdT T⟩ il) σ H Q := fun σ H Q ⟨F, ρ, env, st, w, er, p⟩ =>
    evl0 w er (.refl _ _ _) p fun vs H1 F1 ρ1 ds st1 e1 w1 r1 ap1 p1 => by
      cases q : argsD ds with
      | none =>
        simp only [q] at p1
        exact p1.elim
      | some xs =>
        simp only [q] at p1
        obtain ⟨F', e', w', r', s'⟩ := args_ok w1 e1 r1 ap1 q
        exact ⟨F', ρ1, xs, st1, w', r', post_at (p1.rebase anti_D e')⟩
  cases es with
  | nil =>
    refine ⟨fun pins s σ H Q I h => ?_⟩
    refine wpAny_Call_Name_kw (ld_glob I hg h1 ?_ hdb)
    cases h0 rfl
    obtain ⟨F, ρ, env, st, w, er, q⟩ := h
    refine PySem.W.callWith_K0 I.kIn h2 ?_
    exact run_fnS (us := []) (vs := []) h4 o.room h3 (L2N.passAt tk σ) I .nil ⟨F, ρ, [], st, w, True.intro, post_at q⟩
  | cons e r =>
    exact pe_of (pe_callS h4 o.room hg h1 h2 h3 (L2N.passAt tk) ha hdb (hst e r rfl) (hpl e r rfl)) rd
/-- a def in a slot -/
theorem c_callV {T : Nat → Option Df} {gc : Nat → Option DE.P} {nm : Nm} {k i : Nat} {fs : List Nat} {x : Str} (o : Cok nm fa gc T k X) (tk : L2N.Takes X W) (hN : X.N[i]? = some x) (hv : Vis X.env.scope x) (hdb : (x == ("__debug__" : Str)) = false) (hcd : (x == ("__classdict__" : Str)) = false)
    (hfs : fs.all (fun f => (nm.f f).isSome) = true) (ha : PA X (e :: es) (tEvL X.K fa W ⟨callK T gc k, gc, wdT T⟩ il)) (hst : starEach (e :: es) X.env = (false, eval e X.env) :: starEach es X.env) (hpl : (backTo pos (starEach es X.env)).any (·.1) = false) :
    PE X (.Call (.Name x p) (e :: es) [] pos) (tEv X.K fa W ⟨callK T gc k, gc, wdT T⟩ (.callV i fs il)) := by
  refine ⟨fun pins s σ H Q I h => ?_⟩
  obtain ⟨F, ρ, env, st, w, er, q⟩ := h
  have q : PostD X.K fa W F ρ H σ (match env[i]? with
    | some (.val (.p (.fn f))) => if fs.contains f then (evL ⟨callK T gc k, gc, wdT T⟩ il env st).bind fun ds st => match argsD ds with
        | some as => callK T gc k f as st
        | none => .bad
      else .bad
    | _ => .bad) Q := q
  cases hq : env[i]? with
  | none =>
    rw [hq] at q
    exact q.elim
  | some sl =>
    cases sl with
    | un =>
      rw [hq] at q
      exact q.elim
    | own oo =>
      rw [hq] at q
      exact q.elim
    | val d =>
      cases d with
      | new xs =>
        rw [hq] at q
        exact q.elim
      | bor xs =>
        rw [hq] at q
        exact q.elim
      | box xs =>
        rw [hq] at q
        exact q.elim
      | p y =>
        cases y with
        | fn f =>
          simp only [hq] at q
          obtain ⟨v, e1, hv2⟩ := er.val i _ hq
          have hv2 : VR X.K fa F H v (.fn f) := hv2
          cases hv2
          cases hc : fs.contains f with
          | false =>
            simp only [hc] at q
            exact q.elim
          | true =>
            simp only [hc, if_true] at q
            have hm : (nm.f f).isSome = true := List.all_eq_true.mp hfs f (List.contains_iff_mem.mp hc)
            obtain ⟨xf, hxf⟩ := Option.isSome_iff_exists.mp hm
            obtain ⟨fd, ps, h1, h2, h3, h4⟩ := o.fx.fn f xf hxf
            refine wpAny_Call_Name_kw (thn ((pe_var (pos := p) hN hv hdb hcd).run pins s σ H (fun v H1 => v = .ref (fa f) ∧ H1 = H) I ⟨.ref (fa f), e1, rfl, rfl⟩) fun u s1 ⟨v, H1, I1, r1, q1⟩ => ?_)
            obtain ⟨rfl, rfl⟩ := q1
            cases r1
            have hh : tEvL X.K fa W ⟨callK T gc k, gc, wdT T⟩ il σ H1 (fun vs H2 => spK X.K fa (callK T gc k f) vs H2 Q (WE W σ)) := evl0 w er (.refl _ _ _) q fun vs H1 F1 ρ1 ds st1 e1 w1 r1 ap1 p1 => by
              cases q : argsD ds with
              | none =>
                simp only [q] at p1
                exact p1.elim
              | some xs =>
                simp only [q] at p1
                obtain ⟨F', e', w', r', s'⟩ := args_ok w1 e1 r1 ap1 q
                exact ⟨F', ρ1, xs, st1, w', r', post_at (p1.rebase anti_D e')⟩
            refine PySem.W.callWith_K (h₀ := X.base) I.ok.mod.kin h2 (thn (ha.run pos pins s1 σ _ _ I1 hh) fun us s2 ⟨vs, H2, I2, r, q⟩ => ⟨I2.kIn, ?_⟩) hst hpl
            exact run_fnS h4 o.room h3 (L2N.passAt tk σ) I2 r q
        | _ =>
          simp only [hq] at q
          exact q.elim
theorem call_str_bool : CallR X (.type "str") (fun xs H Q => ∃ b : Bool, xs = [.bl b] ∧ Q (.str (if b then Str.ofString "True" else Str.ofString "False")) H) := by
  intro pins s σ H xs us Q I r h
  obtain ⟨b, rfl, q⟩ := h
  obtain ⟨u, rfl, r1⟩ := vals1 r
  cases r1
  refine PySem.P.str_of_bool ⟨.str (if b then Str.ofString "True" else Str.ofString "False"), H, I.tok _, ⟨s.toks, ?_⟩, q⟩
  cases b <;> rfl
theorem de_str : CallR X (.type "str") (rBiD X.K fa biStr) := by
  intro pins s σ H vs us Q I rx h
  obtain ⟨F, ρ, st, ps, w, hx, q⟩ := h
  obtain ⟨z, e, q⟩ := postM q
  match ps, hx, e with
  | [.int i], hx, e =>
    obtain ⟨v, rfl, hv⟩ := one_of hx
    cases hv.int
    have e : (if decide (i.natAbs.log2 < 1920) = true then some (DE.P.str (toString i)) else none) = some z := e
    by_cases h : decide (i.natAbs.log2 < 1920) = true
    · rw [if_pos h] at e
      cases e
      exact call_str_int pins s σ H _ us Q I rx ⟨i, rfl, of_decide_eq_true h, pP q w (.str _)⟩
    · rw [if_neg h] at e
      cases e
  | [.str i], hx, e =>
    obtain ⟨v, rfl, hv⟩ := one_of hx
    cases hv.str
    cases e
    exact SkE.call_str_str pins s σ H _ us Q I rx ⟨i, rfl, pP q w (.str _)⟩
  | [.bl i], hx, e =>
    obtain ⟨v, rfl, hv⟩ := one_of hx
    cases hv.bl
    cases e
    exact call_str_bool pins s σ H _ us Q I rx ⟨i, rfl, pP q w (.str _)⟩
theorem c_bi {f : Bf} {x : Str} {es : List Expr} (hc : X.calm = true) (hx : x = f.name) (hg : Gl X x) (hm : X.mg x = none) (ha : PE X e (tEv X.K fa W c a)) (hr : PA X es (tEvL X.K fa W c il))
    (hst : starEach (e :: es) X.env = (false, eval e X.env) :: starEach es X.env) (hpl : (backTo pos (starEach es X.env)).any (·.1) = false) :
    PE X (.Call (.Name x p) (e :: es) [] pos) (tEv X.K fa W c (.bi f a il)) := by
  have pa := pa_cons ha hr hst
  have rd : ∀ σ H Q, tEv X.K fa W c (.bi f a il) σ H Q → tCB (rBiD X.K fa (opBi f)) (tCons (tEv X.K fa W c a) (tEvL X.K fa W c il)) σ H Q := fun σ H Q ⟨F, ρ, env, st, w, er, p⟩ => by
    have p : PostD X.K fa W F ρ H σ ((ev c a env st).bind fun d st => (evL c il env st).bind fun ds st => match rds st (d :: ds) with | some xs => mkD (opBi f xs) st | none => .bad) Q := p
    refine ev1 anti_D w er p fun v H1 F1 ρ1 d st1 e1 w1 er1 r1 p1 => evl1 anti_D w1 er1 p1 fun vs H2 F2 ρ2 ds st2 e2 w2 er2 r2 a2 p2 => ?_
    cases q : rds st2 (d :: ds) with
    | none =>
      simp only [q] at p2
      exact p2.elim
    | some xs =>
      simp only [q] at p2
      have h : DRs X.K fa F2 ρ2 H2 H1 (v :: vs) (d :: ds) → VRrs X.K fa F2 H2 (v :: vs) xs := fun h => rds_ok w2 h q
      have r1' := r1.mono w1.dis e2
      unfold rds at q
      cases q1 : d.rd st2 with
      | none =>
        rw [q1] at q
        cases q
      | some y =>
        cases q2 : rds st2 ds with
        | none =>
          rw [q1, q2] at q
          cases q
        | some ys =>
          rw [q1, q2] at q
          cases q
          exact ⟨F2, ρ2, st2, _, w2, .cons (r1'.rd w2 q1) (rds_ok w2 r2 q2), cvD p2⟩
  have go : ∀ (hv : bootBuiltins x = some (.builtin x.toString)) (r : CallR X (.builtin x.toString) (rBiD X.K fa (opBi f))), True := fun _ _ => trivial
  subst hx
  cases f with
  | len => exact pe_of (pe_callB (id := "len") de_len hg hm (by decide +kernel) pa (by decide +kernel) (by decide +kernel) hst hpl) rd
  | abs => exact pe_of (pe_callB (id := "abs") de_abs hg hm (by decide +kernel) pa (by decide +kernel) (by decide +kernel) hst hpl) rd
  | max => exact pe_of (pe_callB (id := "max") (de_max hc) hg hm (by decide +kernel) pa (by decide +kernel) (by decide +kernel) hst hpl) rd
  | min => exact pe_of (pe_callB (id := "min") (de_min hc) hg hm (by decide +kernel) pa (by decide +kernel) (by decide +kernel) hst hpl) rd
  | all => exact pe_of (pe_callB (id := "all") (de_all hc) hg hm (by decide +kernel) pa (by decide +kernel) (by decide +kernel) hst hpl) rd
  | any => exact pe_of (pe_callB (id := "any") (de_any hc) hg hm (by decide +kernel) pa (by decide +kernel) (by decide +kernel) hst hpl) rd
  | int => exact pe_of (pe_callTy (T := "int") de_int hg hm (by decide +kernel) pa (by decide +kernel) (by decide +kernel) hst hpl) rd
  | tuple => exact pe_of (pe_callTy (T := "tuple") de_tuple hg hm (by decide +kernel) pa (by decide +kernel) (by decide +kernel) hst hpl) rd
  | str => exact pe_of (pe_callTy (T := "str") de_str hg hm (by decide +kernel) pa (by decide +kernel) (by decide +kernel) hst hpl) rd
  | list => exact pe_of (pe_callTy (T := "list") de_list hg hm (by decide +kernel) pa (by decide +kernel) (by decide +kernel) hst hpl) rd
theorem base_of {o : Expr} {name : Str} {env : PySem.Env} {whole : Sem Value} (h : notSup o = true) : attributeBase o name env whole = whole := by
  unfold attributeBase
  cases o <;> first | rfl | cases h
theorem c_meth {m : Me} {name : Str} {ov arg : Expr} {ap cp : Pos} (hn : name = m.name) (hl : (ap.endLine == cp.line) = true) (hb : notSup ov = true) (ho : PE X ov (tEv X.K fa W c a)) (ha : PE X arg (tEv X.K fa W c b))
    (hst : starEach [arg] X.env = (false, eval arg X.env) :: starEach [] X.env) : PE X (.Call (.Attribute ov name ap) [arg] [] cp) (tEv X.K fa W c (.meth m a b)) := by
  have pa := pa_cons ha pa_nil hst
  have rd : ∀ σ H Q, tEv X.K fa W c (.meth m a b) σ H Q → tBM X.K "str" (rMeD X.K fa m) (tEv X.K fa W c a) (tCons (tEv X.K fa W c b) tNil) σ H Q := fun σ H Q ⟨F, ρ, env, st, w, er, p⟩ => by
    refine ev1 (f := ev c a) (g := fun x st => match x with | .p (.str z) => ((ev c b env st).bind fun y st => match y.rd st with | some y => mkD (opMe m (.str z) y) st | none => .bad) | _ => .bad) anti_D w er p fun v H1 F1 ρ1 d1 st1 e1 w1 er1 r1 p1 => ?_
    cases d1 with
    | p x =>
      cases x with
      | str z =>
        cases (VR.r r1).str
        refine ⟨rfl, ev1 (f := ev c b) (g := fun y st => match y.rd st with | some y => mkD (opMe m (.str z) y) st | none => .bad) anti_D w1 er1 p1 fun y H2 F2 ρ2 d2 st2 e2 w2 er2 r2 p2 => ?_⟩
        cases q : d2.rd st2 with
        | none =>
          simp only [q] at p2
          exact p2.elim
        | some py =>
          simp only [q] at p2
          exact ⟨F2, ρ2, st2, .str z, py, y, rfl, w2, VR.str z, r2.rd w2 q, cvD p2⟩
      | _ => exact p1.elim
    | _ => exact p1.elim
  subst hn
  have few : ∀ e : Expr, starEach [e] X.env = (false, eval e X.env) :: starEach [] X.env → ((backTo cp (starEach (e :: []) X.env)).all (fun x => !x.1) && (backToKw cp (keywordEach [] X.env)).all (fun x => x.1.isSome)
      && decide ((e :: ([] : List Expr)).length + ([] : List Keyword).length + (if ([] : List Keyword).isEmpty then 0 else 1) < 30)) = true := fun e h => by
    rw [h] <;> rfl
  cases m with
  | join => exact pe_of (pe_bm PySem.F.plainAttrs_str PySem.F.slot_str_join PySem.F.type_str_join (de_me .join) ho pa (base_of hb) (few arg hst) hl hst rfl) rd
  | split => exact pe_of (pe_bm PySem.F.plainAttrs_str PySem.F.slot_str_split PySem.F.type_str_split (de_me .split) ho pa (base_of hb) (few arg hst) hl hst rfl) rd
  | count => exact pe_of (pe_bm PySem.F.plainAttrs_str PySem.F.slot_str_count PySem.F.type_str_count (de_me .count) ho pa (base_of hb) (few arg hst) hl hst rfl) rd
  | find => exact pe_of (pe_bm PySem.F.plainAttrs_str PySem.F.slot_str_find PySem.F.type_str_find (de_me .find) ho pa (base_of hb) (few arg hst) hl hst rfl) rd
theorem c_slc {lo hi : Option Expr} {l h : IO} {p2 : Pos} (ha : PE X e (tEv X.K fa W c a)) (hl : PO X lo fun σ H Q => ∃ F ρ env st, Wok X.K fa F ρ H st ∧ ERel X.K fa F ρ H σ env ∧ Post X.K fa relE W F ρ H σ (evO c l env st) Q)
    (hh : PO X hi fun σ H Q => ∃ F ρ env st, Wok X.K fa F ρ H st ∧ ERel X.K fa F ρ H σ env ∧ Post X.K fa relE W F ρ H σ (evO c h env st) Q) : PE X (.Subscript e (.Slice lo hi none p2) pos) (tEv X.K fa W c (.slc a l h)) :=
  pe_of (pe_slice (de_sl (fa := fa)) ha hl hh) fun σ H Q ⟨F, ρ, env, st, w, er, p⟩ => by
    have p : PostD X.K fa W F ρ H σ ((ev c a env st).bind fun x st => (evO c l env st).bind fun l st => (evO c h env st).bind fun h st => match x.rd st with | some x => mkD (opSlc x l h) st | none => .bad) Q := p
    refine ev1 anti_D w er p fun v H1 F1 ρ1 d1 st1 e1 w1 er1 r1 p1 => ?_
    refine ⟨F1, ρ1, env, st1, w1, er1, (p1.step (rel1 := relE) anti_D).imp fun l' H2 ⟨F2, ρ2, l2, st2, e2, w2, q2, p2⟩ => ?_⟩
    cases (show l' = l2 from q2)
    refine ⟨F2, ρ2, env, st2, w2, er1.mono w1 e2, (p2.step (rel1 := relE) anti_D).imp fun h' H3 ⟨F3, ρ3, h3, st3, e3, w3, q3, p3⟩ => ?_⟩
    cases (show h' = h3 from q3)
    cases q : d1.rd st3 with
    | none =>
      simp only [q] at p3
      exact p3.elim
    | some x =>
      simp only [q] at p3
      exact ⟨F3, ρ3, st3, x, w3, ((r1.mono w1.dis e2).mono w2.dis e3).rd w3 q, cvD p3⟩
theorem c_oN : PO X none fun σ H Q => ∃ F ρ env st, Wok X.K fa F ρ H st ∧ ERel X.K fa F ρ H σ env ∧ Post X.K fa relE W F ρ H σ (evO c .non env st) Q := ⟨fun pins s σ H Q I ⟨F, ρ, env, st, w, er, p⟩ =>
  po_none.run pins s σ H Q I (Post.ok (rel := relE) p w rfl)⟩
theorem c_oS (ha : PE X e (tEv X.K fa W c a)) : PO X (some e) fun σ H Q => ∃ F ρ env st, Wok X.K fa F ρ H st ∧ ERel X.K fa F ρ H σ env ∧ Post X.K fa relE W F ρ H σ (evO c (.som a) env st) Q := ⟨fun pins s σ H Q I ⟨F, ρ, env, st, w, er, p⟩ =>
  (po_some ha).run pins s σ H Q I (ev1 (f := ev c a) (g := fun x st => match x with | .p (.int i) => .ok (some i) st | _ => .bad) anti_E w er p fun v H1 F1 ρ1 d1 st1 e1 w1 er1 r1 p1 => by
    cases d1 with
    | p x =>
      cases x with
      | int i =>
        cases (VR.r r1).int
        exact ⟨i, rfl, Post.ok (rel := relE) p1 w1 rfl⟩
      | _ => exact p1.elim
    | _ => exact p1.elim)⟩
theorem pExo {K : PySem.W.Frag} {F : Addr → Prop} {ρ : List Addr} {H : Hp} {σ : L2.St} {st : Store} {k : Nat} {Q : VK} (hx : (k, none) ∈ fa.xs) (h : PostD K fa W F ρ H σ (.ok (.p (.exo k none)) st) Q) (w : Wok K fa F ρ H st) : ∀ q, H q = none → Q (.ref q) (upd H q (ExO (.ref (fa k)) q)) := fun q hq => by
  have e := ext_new (F := F) (ρ := ρ) (o := ExO (.ref (fa k)) q) hq ExO_nt
  exact h _ (addF F q) ρ _ (e.fz (nt_of hq)) ((w.new hq ExO_nt).fz (w.free (nt_of hq)) (nt_ne upd_same ExO_nt)) (VR.exo hx (.inr rfl) upd_same)
theorem c_mkx {k : Nat} {x m : Str} {j : Nat} {p2 : Pos} (hx : (k, none) ∈ fa.xs) (hmk : ∃ B newId initId bmB, ExcBaseFacts B newId initId bmB ∧ PySem.W.excIn X.K (fa k) bmB newId = true) (hm : X.mg x = some (.ref (fa k))) (kp : PySem.W.keepIn X.K (.ref (fa k)) = true) (hg : Gl X x) (hdb : (x == ("__debug__" : Str)) = false) :
    PE X (.Call (.Name x p) [.Constant (.str m) j p2] [] pos) (tEv X.K fa W c (.mkx k)) := by
  obtain ⟨B, n1, n2, bm, h3, h4⟩ := hmk
  exact pe_of (pe_exc1 h3 h4 hm kp hg pe_str rfl hdb) fun σ H Q ⟨F, ρ, env, st, w, er, p⟩ => pExo hx p w
theorem pExf {K : PySem.W.Frag} {F : Addr → Prop} {ρ : List Addr} {H : Hp} {σ : L2.St} {st : Store} {k : Nat} {n : Str} {i : Int} {Q : VK} {a dx : Addr} (hx : (k, some n) ∈ fa.xs) (h : PostD K fa W F ρ H σ (.ok (.p (.exo k (some (n, i)))) st) Q) (w : Wok K fa F ρ H st) (ha : H a = none) (hd : upd H a (L2.exo a (fa k) none) dx = none) (ne : dx ≠ a) :
    Q (.ref a) (upd (upd (upd H a (L2.exo a (fa k) none)) dx (exd dx [(n, .int i)])) a (L2.exo a (fa k) (some dx))) := by
  rw [upd_ne ne] at hd
  have he : upd (upd (upd H a (L2.exo a (fa k) none)) dx (exd dx [(n, .int i)])) a (L2.exo a (fa k) (some dx)) = upd (upd H dx (exd dx [(n, .int i)])) a (L2.exo a (fa k) (some dx)) := by
    funext b
    by_cases hb : b = a
    · rw [hb, upd_same, upd_same]
    · rw [upd_ne hb, upd_ne hb]
      by_cases hb2 : b = dx
      · rw [hb2, upd_same, upd_same]
      · rw [upd_ne hb2, upd_ne hb2, upd_ne hb]
  rw [he]
  have ha' : upd H dx (exd dx [(n, V.int i)]) a = none := by rw [upd_ne (Ne.symm ne)]; exact ha
  have e1 := ext_new (F := F) (ρ := ρ) (o := exd dx [(n, V.int i)]) hd exd_nt
  have w1 := w.new (o := exd dx [(n, V.int i)]) hd exd_nt
  have e1' := e1.fz (nt_of hd)
  have w1' := w1.fz (w.free (nt_of hd)) (nt_ne upd_same exd_nt)
  have e2 := ext_new (F := addF F dx) (ρ := ρ) (o := L2.exo a (fa k) (some dx)) ha' exo_nt
  have w2 := w1'.new (o := L2.exo a (fa k) (some dx)) ha' exo_nt
  refine h _ (addF (addF F dx) a) ρ _ (e1'.trans (e2.fz (nt_of ha'))) (w2.fz (w1'.free (nt_of ha')) (nt_ne upd_same exo_nt)) (VR.exf hx (.inr rfl) (.inl (.inr rfl)) upd_same ?_)
  rw [upd_ne ne, upd_same]
theorem c_mkf {k : Nat} {x n : Str} {fI : Addr} {fd : FuncData} {ps : List Str} (hx : (k, some n) ∈ fa.xs) (tk : L2N.Takes X W) (T : OexC X.K (fa k)) (iC : PySem.W.findIn X.K (.ref (fa k)) "__init__" = some (some (.ref fI))) (tI : PySem.W.typeIn X.K (.ref fI) = some (.type "function"))
    (F1 : FnOk X.prog X.w X.K X.mg X.base (L2N.CX X.prog X.w) 1 fI fd ps (DX.spInit (fa k) n)) (hr : Room 2 X.A) (hb : Binds X.K fd ps []) (hg : Gl X x) (hm : X.mg x = some (.ref (fa k))) (hdb : (x == ("__debug__" : Str)) = false) (ha : PE X e (tEv X.K fa W c a))
    (hst : starEach [e] X.env = (false, eval e X.env) :: starEach [] X.env) : PE X (.Call (.Name x p) [e] [] pos) (tEv X.K fa W c (.mkf k n a)) := by
  refine pe_of (DX.pe_oex T iC tI F1 hr hb (L2N.passes_call (E := fun _ _ _ => False) tk fun _ _ _ _ h => h.elim) hg hm (pa_cons ha pa_nil hst) hdb hst (by rfl)) fun σ H Q ⟨F, ρ, env, st, w, er, p⟩ => ?_
  refine ev1 (f := ev c a) (g := fun x st => mkfD k n x st) anti_D w er p fun v H1 F1 ρ1 d1 st1 e1 w1 er1 r1 p1 => ?_
  cases d1 with
  | p y =>
    cases y with
    | int i =>
      cases (VR.r r1).int
      exact ⟨by show 1 ≤ 1000; decide, fun a ha => ⟨a, _, rfl, upd_same, fun dx hd ne => ⟨rfl, pExf hx p1 w1 ha hd ne⟩⟩⟩
    | _ => exact p1.elim
  | _ => exact p1.elim
theorem ex_of {K : PySem.W.Frag} {F : Addr → Prop} {H : Hp} {v : V} {k : Nat} {f : Option (Str × Int)} (h : VR K fa F H v (.exo k f)) : ∃ a fs, v = .ref a ∧ DX.ExAt H a (fa k) fs := by
  cases h with
  | exo x f h => exact ⟨_, [], rfl, .inl ⟨rfl, h⟩⟩
  | exf x f g h r => exact ⟨_, _, rfl, .inr ⟨_, h, r⟩⟩
theorem ex_mem {K : PySem.W.Frag} {F : Addr → Prop} {H : Hp} {v : V} {k : Nat} {f : Option (Str × Int)} (h : VR K fa F H v (.exo k f)) : ∃ n, (k, n) ∈ fa.xs := by
  cases h with
  | exo x f h => exact ⟨_, x⟩
  | exf x f g h r => exact ⟨_, x⟩
theorem c_isx {t : Bool} {j : Nat} {x z : Str} {p1 p3 : Pos} (hx : x = (Str.ofString "isinstance")) (hg : Gl X x) (hm : X.mg x = none) {cv : V} {cu : Value} (hz : PE X (.Name z p3) (tC cv)) (hcu : ∀ u, RelV cv u → u = cu) (ha : PE X e (tEv X.K fa W c a))
    (hk : ∀ (k : Nat) (n : Option Str), (k, n) ∈ fa.xs → ExcC X.K (fa k) ∧ PySem.W.kitOne X.K (.ref (fa k)) cu = some (t || decide (j = k)))
    (hst : ∀ r, starEach (e :: r) X.env = (false, eval e X.env) :: starEach r X.env) : PE X (.Call (.Name x p1) [e, .Name z p3] [] pos) (tEv X.K fa W c (.isx a t j)) := by
  subst hx
  have pa := pa_cons (es := [.Name z p3]) ha (pa_cons hz pa_nil rfl) (hst _)
  refine pe_of (pe_callB (id := "isinstance") DX.call_isV hg hm (by decide +kernel) pa (by decide +kernel) (by decide +kernel) (hst _) rfl) fun σ H Q ⟨F, ρ, env, st, w, er, p⟩ => ?_
  refine ev1 (f := ev c a) (g := fun x st => isxD t j x st) anti_D w er p fun v H1 F1 ρ1 d1 st1 e1 w1 er1 r1 p1 => ?_
  cases d1 with
  | p y =>
    cases y with
    | exo k f =>
      obtain ⟨ad, fs, rfl, h1⟩ := ex_of (show VR X.K fa F1 H1 v (.exo k f) from r1)
      obtain ⟨n, hn⟩ := ex_mem (show VR X.K fa F1 H1 _ (.exo k f) from r1)
      obtain ⟨h2, h3⟩ := hk k n hn
      exact ⟨ad, fa k, fs, cv, cu, _, rfl, h1, h2, hcu, h3, Post.ok (rel := relD X.K fa) p1 w1 (VR.bl _)⟩
    | _ => exact p1.elim
  | _ => exact p1.elim
theorem c_fld {n : Str} (hb : notSup e = true) (ha : PE X e (tEv X.K fa W c a)) (hk : ∀ k : Nat, (k, some n) ∈ fa.xs → XfC X.K (fa k) ∧ PySem.W.findIn X.K (.ref (fa k)) n = some none) : PE X (.Attribute e n pos) (tEv X.K fa W c (.fld a n)) := by
  refine pe_of (DX.pe_xv ha (base_of hb)) fun σ H Q ⟨F, ρ, env, st, w, er, p⟩ => ?_
  refine ev1 (f := ev c a) (g := fun x st => fldD n x st) anti_D w er p fun v H1 F1 ρ1 d1 st1 e1 w1 er1 r1 p1 => ?_
  cases d1 with
  | p y =>
    cases y with
    | exo k f =>
      cases f with
      | none => exact p1.elim
      | some q =>
        obtain ⟨m, i⟩ := q
        have p2 : PostD X.K fa W F1 ρ1 H1 σ (if decide (m = n) then .ok (.p (.int i)) st1 else .bad) Q := p1
        cases hq : decide (m = n) with
        | false =>
          rw [hq] at p2
          exact p2.elim
        | true =>
          rw [hq] at p2
          have hmn := of_decide_eq_true hq
          subst hmn
          cases (show VR X.K fa F1 H1 v (.exo k (some (m, i))) from r1) with
          | exf x f g h r =>
            obtain ⟨h2, h3⟩ := hk k x
            exact ⟨_, _, _, _, .int i, rfl, h, r, h2, h3, by simp [List.lookup], Post.ok (rel := relD X.K fa) p2 w1 (VR.int i)⟩
    | _ => exact p1.elim
  | _ => exact p1.elim
theorem c_isi {t : String} {x z : Str} {p1 p3 : Pos} (ht : tyNames.contains t = true) (hx : x = (Str.ofString "isinstance")) (hz : z = Str.ofString t) (hg : Gl X x) (hg2 : Gl X z) (hm : X.mg x = none) (hm2 : X.mg z = none) (ha : PE X e (tEv X.K fa W c a))
    (hst : ∀ r, starEach (e :: r) X.env = (false, eval e X.env) :: starEach r X.env) : PE X (.Call (.Name x p1) [e, .Name z p3] [] pos) (tEv X.K fa W c (.isi a t)) := by
  subst hx
  have hz' : PE X (.Name z p3) (tC (.ty t)) := by
    subst hz
    have hc : t = "int" ∨ t = "bool" ∨ t = "str" ∨ t = "tuple" ∨ t = "list" := by
      simpa [tyNames] using ht
    rcases hc with rfl | rfl | rfl | rfl | rfl <;> exact pe_bltn hg2 hm2 (by decide +kernel) rfl (by decide +kernel) (by decide +kernel)
  have pa := pa_cons (es := [.Name z p3]) ha (pa_cons hz' pa_nil rfl) (hst _)
  refine pe_of (pe_callB (id := "isinstance") call_isi hg hm (by decide +kernel) pa (by decide +kernel) (by decide +kernel) (hst _) rfl) fun σ H Q ⟨F, ρ, env, st, w, er, p⟩ => ?_
  refine ev1 (f := ev c a) (g := fun x st => match x.rd st with | some x => mkB (isT x t) st | none => .bad) anti_D w er p fun v H1 F1 ρ1 d1 st1 e1 w1 er1 r1 p1 => ?_
  cases q : d1.rd st1 with
  | none =>
    simp only [q] at p1
    exact p1.elim
  | some y =>
    simp only [q] at p1
    obtain ⟨b, e2, q2⟩ := postB w1 p1
    obtain ⟨T, t1, t2⟩ := de_isi (r1.rd w1 q) e2
    exact ⟨v, .ty t, _, _, b, rfl, .ty t, t1, t2, q2⟩
theorem chain_rd {o1 o2 : CmpOp} (hu : X.A.units + 64 < cLine) {σ : L2.St} {H : Hp} {Q : VK} (h : tEv X.K fa W c (.chain o1 o2 a b d) σ H Q) : tChain (rOpB X.K fa (opCmp o1)) (rOpB X.K fa (opCmp o2)) (tEv X.K fa W c a) (tEv X.K fa W c b) (tEv X.K fa W c d) σ H Q := by
  obtain ⟨F, ρ, env, st, w, er, p⟩ := h
  have p : PostD X.K fa W F ρ H σ ((ev c a env st).bind fun x st => (ev c b env st).bind fun y st => rd2 x y st fun x y => match opCmp o1 x y with
    | some true => if y.flat then ((ev c d env st).bind fun z st => match z.rd st with | some z => mkB (opCmp o2 y z) st | none => .bad) else .bad
    | some false => .ok (.p (.bl false)) st
    | none => .bad) Q := p
  refine ev1 anti_D w er p fun v H1 F1 ρ1 d1 st1 e1 w1 er1 r1 p1 => ev1 anti_D w1 er1 p1 fun u H2 F2 ρ2 d2 st2 e2 w2 er2 r2 p2 => ?_
  obtain ⟨px, py, q1, q2, p3⟩ := rd2_of (rel := relD X.K fa) (Q := Q) p2
  have hx := (r1.mono w1.dis e2).rd w2 q1
  have hy := r2.rd w2 q2
  cases q : opCmp o1 px py with
  | none =>
    simp only [q] at p3
    exact p3.elim
  | some k =>
    refine ⟨F2, ρ2, st2, px, py, w2, hx, hy, ?_⟩
    rw [q]
    intro v' F' ρ' H' ex wk rv
    have hv : v' = .bl k := (VRr.bl (VR.r (show VR X.K fa F' H' v' (.bl k) from rv)))
    subst hv
    refine ⟨k, rfl, ?_⟩
    cases k with
    | true =>
      simp only [q] at p3
      cases hf : py.flat with
      | false =>
        rw [hf] at p3
        exact p3.elim
      | true =>
        rw [hf, if_pos rfl] at p3
        refine iteT (ev1 (f := ev c d) (g := fun z st => match z.rd st with | some z => mkB (opCmp o2 py z) st | none => .bad) anti_D wk (er2.mono w2 ex) (p3.rebase anti_D ex) fun z H3 F3 ρ3 d3 st3 e3 w3 er3 r3 p4 => ?_)
        cases q3 : d3.rd st3 with
        | none =>
          simp only [q3] at p4
          exact p4.elim
        | some pz =>
          simp only [q3] at p4
          have hy' : VRr X.K fa F3 H3 u py := by
            cases py with
            | non =>
              cases hy.non
              exact VR.non
            | bl k =>
              cases hy.bl
              exact VR.bl k
            | int k =>
              cases hy.int
              exact VR.int k
            | str k =>
              cases hy.str
              exact VR.str k
            | _ => cases hf
          exact ⟨F3, ρ3, st3, py, pz, w3, hy', r3.rd w3 q3, cvB p4⟩
    | false =>
      simp only [q] at p3
      exact iteF (p3 _ F' ρ' H' ex wk (VR.bl false))
theorem c_chain {o1 o2 : CmpOp} (hu : X.A.units + 64 < cLine) (hm : lastMarks [o1, o2] [e2, e3] = false) (ha : PE X e1 (tEv X.K fa W c a)) (hb : PE X e2 (tEv X.K fa W c b)) (hd : PE X e3 (tEv X.K fa W c d)) :
    PE X (.Compare e1 [o1, o2] [e2, e3] pos) (tEv X.K fa W c (.chain o1 o2 a b d)) := pe_of (pe_chain (de_cmp (fa := fa) hu o1) (de_cmp (fa := fa) hu o2) ha hb hd hm) fun σ H Q h => chain_rd hu h
end
end DE
end

section
set_option Elab.async false
set_option linter.all false
set_option maxRecDepth 100000
set_option autoImplicit false
namespace DE
open PySem PySem.Spec L2
section
variable {X : Cx} {e e1 e2 e3 : Expr} {es : List Expr} {pos p : Pos} {fa : Fa} {W : WX} {c : Cf} {a b d : IE} {il : IL}
abbrev tT (K : PySem.W.Frag) (fa : Fa) (W : WX) (c : Cf) (a : IE) : TT := tEvT K fa W c fun env st => evT c a env st
/-- a plain test -/
theorem t_plain (ha : PE X e (tEv X.K fa W c a)) (he : ∀ whole, isTrue e X.env whole = (do let v ← whole; standAt e.pos; holding [v] (truthy v))) : PT X e (tT X.K fa W c a) := pt_of (pt_truth ha he) fun σ H Q ⟨F, ρ, env, st, w, er, p⟩ => by
  have p : Post X.K fa relE W F ρ H σ ((ev c a env st).bind rdB) Q := p
  exact ev1 (f := ev c a) anti_E w er p fun v H1 F1 ρ1 d1 st1 e1 w1 er1 r1 p1 => truth_of w1 r1 p1
/-- an expression whose value is a bool -/
theorem pt_bool {t : TE} (h : PT X e (tTest t)) {f : Env → Store → R D} (i : ∀ σ H Q, tEvF X.K fa W f σ H Q → t σ H Q) (hb : ∀ env st d st', f env st = .ok d st' → ∃ k, d = .p (.bl k)) : PT X e (tEvT X.K fa W c fun env st => (f env st).bind rdB) := pt_of h fun σ H Q ⟨F, ρ, env, st, w, er, p⟩ => by
  refine i σ H _ ⟨F, ρ, env, st, w, er, ?_⟩
  cases q : f env st with
  | bad =>
    simp only [q] at p
    exact p
  | exc k x s =>
    simp only [q] at p
    exact p
  | ok d s =>
    obtain ⟨k, rfl⟩ := hb env st d s q
    simp only [q] at p
    intro v F' ρ' H' ex wk rv
    have hv : v = .bl k := (VRr.bl (VR.r (show VR X.K fa F' H' v (.bl k) from rv)))
    exact ⟨k, hv, p k F' ρ' H' ex wk rfl⟩
theorem mkB_bl {o : Option Bool} {st st' : Store} {d : D} (h : mkB o st = .ok d st') : ∃ k, d = .p (.bl k) := by
  cases o with
  | none => cases h
  | some b =>
    cases h
    exact ⟨b, rfl⟩
theorem bind_ok_inv {α β : Type} {r : R α} {f : α → Store → R β} {b : β} {st : Store} (h : r.bind f = .ok b st) : ∃ a s, r = .ok a s ∧ f a s = .ok b st := by
  cases r with
  | ok a s => exact ⟨a, s, rfl, h⟩
  | exc k x s => cases h
  | bad => cases h
theorem rd2_inv {x y : D} {st : Store} {f : DE.P → DE.P → R D} {d : D} {st' : Store} (h : rd2 x y st f = .ok d st') : ∃ a b, f a b = .ok d st' := by
  unfold rd2 at h
  cases q1 : x.rd st with
  | none =>
    rw [q1] at h
    cases h
  | some a =>
    cases q2 : y.rd st with
    | none =>
      rw [q1, q2] at h
      cases h
    | some b =>
      rw [q1, q2] at h
      exact ⟨a, b, h⟩
theorem t_cmp {op : CmpOp} (hu : X.A.units + 64 < cLine) (hm : behindInMarks op e2 = false) (ha : PE X e1 (tEv X.K fa W c a)) (hb : PE X e2 (tEv X.K fa W c b)) : PT X (.Compare e1 [op] [e2] pos) (tT X.K fa W c (.cmp op a b)) :=
  pt_bool (f := ev c (.cmp op a b)) (pt_cmpR (de_cmp (fa := fa) hu op) ha hb hm) (fun σ H Q ⟨F, ρ, env, st, w, er, p⟩ =>
    imp1 (ev2 (fa1 := ev c a) (fb := ev c b) (f := fun x y st => mkB (opCmp op x y) st) w er p) fun x H1 h1 => imp1 h1 fun y H2 ⟨F, ρ, st, px, py, w, hx, hy, p⟩ => ⟨F, ρ, st, px, py, w, hx, hy, cvB p⟩)
    fun env st d st' h => by
      have h : ((ev c a env st).bind fun x st => (ev c b env st).bind fun y st => rd2 x y st fun x y => mkB (opCmp op x y) st) = .ok d st' := h
      obtain ⟨x, s1, _, h⟩ := bind_ok_inv h
      obtain ⟨y, s2, _, h⟩ := bind_ok_inv h
      obtain ⟨u, v, h⟩ := rd2_inv h
      exact mkB_bl h
theorem t_chain {o1 o2 : CmpOp} (hu : X.A.units + 64 < cLine) (hm : lastMarks [o1, o2] [e2, e3] = false) (ha : PE X e1 (tEv X.K fa W c a)) (hb : PE X e2 (tEv X.K fa W c b)) (hd : PE X e3 (tEv X.K fa W c d)) :
    PT X (.Compare e1 [o1, o2] [e2, e3] pos) (tT X.K fa W c (.chain o1 o2 a b d)) :=
  pt_bool (f := ev c (.chain o1 o2 a b d)) (pt_chain (de_cmp (fa := fa) hu o1) (de_cmp (fa := fa) hu o2) ha hb hd hm) (fun σ H Q h => chain_rd hu h)
    fun env st d' st' h => by
      have h : ((ev c a env st).bind fun x st => (ev c b env st).bind fun y st => rd2 x y st fun x y => match opCmp o1 x y with
        | some true => if y.flat then ((ev c d env st).bind fun z st => match z.rd st with | some z => mkB (opCmp o2 y z) st | none => .bad) else .bad
        | some false => .ok (.p (.bl false)) st
        | none => .bad) = .ok d' st' := h
      obtain ⟨x, s1, _, h⟩ := bind_ok_inv h
      obtain ⟨y, s2, _, h⟩ := bind_ok_inv h
      obtain ⟨u, v, h⟩ := rd2_inv h
      cases q : opCmp o1 u v with
      | none =>
        simp only [q] at h
        cases h
      | some k =>
        simp only [q] at h
        cases k with
        | false =>
          cases h
          exact ⟨false, rfl⟩
        | true =>
          simp only at h
          cases hf : v.flat with
          | false =>
            rw [hf] at h
            cases h
          | true =>
            rw [hf, if_pos rfl] at h
            obtain ⟨z, s3, _, h⟩ := bind_ok_inv h
            cases q3 : z.rd s3 with
            | none =>
              simp only [q3] at h
              cases h
            | some z' =>
              simp only [q3] at h
              exact mkB_bl h
theorem t_no (ha : PT X e (tT X.K fa W c a)) : PT X (.UnaryOp .Not e pos) (tT X.K fa W c (.no a)) := pt_of (pt_not ha) fun σ H Q ⟨F, ρ, env, st, w, er, p⟩ => by
  have p : Post X.K fa relE W F ρ H σ (((ev c a env st).bind fun d st => (rdB d st).bind fun b st => R.ok (.p (.bl (!b))) st).bind rdB) Q := p
  refine ⟨F, ρ, env, st, w, er, ?_⟩
  show Post X.K fa relE W F ρ H σ ((ev c a env st).bind rdB) (fun b H1 => Q (!b) H1)
  cases q : ev c a env st with
  | bad =>
    simp only [q] at p
    exact p
  | exc k x s =>
    simp only [q] at p
    exact p
  | ok d s =>
    simp only [q, R.bind_ok] at p ⊢
    cases q2 : rdB d s with
    | bad =>
      simp only [q2] at p
      exact p
    | exc k x s =>
      simp only [q2] at p
      exact p
    | ok b s2 =>
      simp only [q2, R.bind_ok] at p
      intro b' F' ρ' H' ex wk rv
      cases (show b' = b from rv)
      exact p _ F' ρ' H' ex wk rfl
theorem t_ife (ht : PT X e1 (tT X.K fa W c a)) (ha : PT X e2 (tT X.K fa W c b)) (hb : PT X e3 (tT X.K fa W c d)) : PT X (.IfExp e1 e2 e3 pos) (tT X.K fa W c (.ife a b d)) := by
  refine ⟨fun pins s σ H Q I h => ?_⟩
  have hif : isTrue (.IfExp e1 e2 e3 pos) X.env (eval (.IfExp e1 e2 e3 pos) X.env) = (do if ← isTrue e1 X.env (eval e1 X.env) then isTrue e2 X.env (eval e2 X.env) else isTrue e3 X.env (eval e3 X.env)) := rfl
  rw [hif]
  obtain ⟨F, ρ, env, st, w, er, p⟩ := h
  have p : Post X.K fa relE W F ρ H σ (((ev c a env st).bind fun k st => (rdB k st).bind fun k st => if k then ev c b env st else ev c d env st).bind rdB) Q := p
  have p' : Post X.K fa relE W F ρ H σ ((evT c a env st).bind fun k st => if k then evT c b env st else evT c d env st) Q := by
    unfold evT
    cases q : ev c a env st with
    | bad => simpa only [q, R.bind_bad] using p
    | exc k x s => simpa only [q, R.bind_exc] using p
    | ok k s =>
      simp only [q, R.bind_ok] at p ⊢
      cases q2 : rdB k s with
      | bad => simpa only [q2, R.bind_bad] using p
      | exc k x s => simpa only [q2, R.bind_exc] using p
      | ok k s =>
        simp only [q2, R.bind_ok] at p ⊢
        cases k <;> simpa using p
  have z : tT X.K fa W c a σ H (fun k H1 => if k = true then tT X.K fa W c b σ H1 Q else tT X.K fa W c d σ H1 Q) := by
    refine ⟨F, ρ, env, st, w, er, (p'.step (rel1 := relE) anti_E).imp fun k H1 ⟨F1, ρ1, k', st1, e1, w1, r1, p1⟩ => ?_⟩
    cases (show k = k' from r1)
    cases k with
    | true => exact iteT ⟨F1, ρ1, env, st1, w1, er.mono w e1, p1⟩
    | false => exact iteF ⟨F1, ρ1, env, st1, w1, er.mono w e1, p1⟩
  refine wpAny_bind (thn (ht.run pins s σ H _ I z) fun k s1 ⟨H1, I1, q1⟩ => ?_)
  cases k with
  | true => exact ha.run pins s1 σ H1 Q I1 q1
  | false => exact hb.run pins s1 σ H1 Q I1 q1
abbrev tA (K : PySem.W.Frag) (fa : Fa) (W : WX) (c : Cf) (r : IL) : TE := tEvF K fa W (evAnd c r)
abbrev tO (K : PySem.W.Frag) (fa : Fa) (W : WX) (c : Cf) (r : IL) : TE := tEvF K fa W (evOr c r)
theorem v_and1 (ha : PE X e (tEv X.K fa W c a)) : PE X (.BoolOp .And [e] pos) (tA X.K fa W c (.cons a .nil)) := pe_of (pe_one ha) fun σ H Q h => h
theorem v_or1 (ha : PE X e (tEv X.K fa W c a)) : PE X (.BoolOp .Or [e] pos) (tO X.K fa W c (.cons a .nil)) := pe_of (pe_one ha) fun σ H Q h => h
theorem v_and {r : IL} (ha : PE X e (tEv X.K fa W c a)) (hr : PE X (.BoolOp .And (e1 :: es) pos) (tA X.K fa W c (.cons b r))) : PE X (.BoolOp .And (e :: e1 :: es) pos) (tA X.K fa W c (.cons a (.cons b r))) := pe_of (pe_and ha hr) fun σ H Q ⟨F, ρ, env, st, w, er, p⟩ => by
  have p : PostD X.K fa W F ρ H σ ((ev c a env st).bind fun x st => match x with | .p (.bl true) => evAnd c (.cons b r) env st | .p (.bl false) => .ok (.p (.bl false)) st | _ => .bad) Q := p
  refine ev1 (f := ev c a) anti_D w er p fun v H1 F1 ρ1 d1 st1 e1 w1 er1 r1 p1 => ?_
  cases d1 with
  | p x =>
    cases x with
    | bl k =>
      cases (VR.r r1).bl
      refine ⟨k, rfl, ?_⟩
      cases k with
      | true => exact iteT ⟨F1, ρ1, env, st1, w1, er1, p1⟩
      | false => exact iteF (pP p1 w1 (.bl false))
    | _ => exact p1.elim
  | _ => exact p1.elim
theorem v_or {r : IL} (ha : PE X e (tEv X.K fa W c a)) (hr : PE X (.BoolOp .Or (e1 :: es) pos) (tO X.K fa W c (.cons b r))) : PE X (.BoolOp .Or (e :: e1 :: es) pos) (tO X.K fa W c (.cons a (.cons b r))) := pe_of (pe_or ha hr) fun σ H Q ⟨F, ρ, env, st, w, er, p⟩ => by
  have p : PostD X.K fa W F ρ H σ ((ev c a env st).bind fun x st => match x with | .p (.bl false) => evOr c (.cons b r) env st | .p (.bl true) => .ok (.p (.bl true)) st | _ => .bad) Q := p
  refine ev1 (f := ev c a) anti_D w er p fun v H1 F1 ρ1 d1 st1 e1 w1 er1 r1 p1 => ?_
  cases d1 with
  | p x =>
    cases x with
    | bl k =>
      cases (VR.r r1).bl
      refine ⟨k, rfl, ?_⟩
      cases k with
      | false => exact iteF ⟨F1, ρ1, env, st1, w1, er1, p1⟩
      | true => exact iteT (pP p1 w1 (.bl true))
    | _ => exact p1.elim
  | _ => exact p1.elim
abbrev tAT (K : PySem.W.Frag) (fa : Fa) (W : WX) (c : Cf) (r : IL) : TT := tEvT K fa W c fun env st => (evAnd c r env st).bind rdB
abbrev tOT (K : PySem.W.Frag) (fa : Fa) (W : WX) (c : Cf) (r : IL) : TT := tEvT K fa W c fun env st => (evOr c r env st).bind rdB
theorem pw_of {t t' : TT} (h : PW X e t) (i : ∀ σ H Q, t' σ H Q → t σ H Q) : PW X e t' := ⟨fun wh pins s σ H Q I q => h.run wh pins s σ H Q I (i σ H Q q)⟩
theorem t_and1 (ha : PT X e (tT X.K fa W c a)) : PW X (.BoolOp .And [e] pos) (tAT X.K fa W c (.cons a .nil)) := pw_of (pw_and1 ha) fun σ H Q h => h
theorem t_or1 (ha : PT X e (tT X.K fa W c a)) : PW X (.BoolOp .Or [e] pos) (tOT X.K fa W c (.cons a .nil)) := pw_of (pw_or1 ha) fun σ H Q h => h
theorem t_and {r : IL} (ha : PT X e (tT X.K fa W c a)) (hr : PW X (.BoolOp .And (e1 :: es) pos) (tAT X.K fa W c (.cons b r))) : PW X (.BoolOp .And (e :: e1 :: es) pos) (tAT X.K fa W c (.cons a (.cons b r))) := pw_of (pw_and ha hr) fun σ H Q ⟨F, ρ, env, st, w, er, p⟩ => by
  have p : Post X.K fa relE W F ρ H σ (((ev c a env st).bind fun x st => match x with | .p (.bl true) => evAnd c (.cons b r) env st | .p (.bl false) => .ok (.p (.bl false)) st | _ => .bad).bind rdB) Q := p
  refine ⟨F, ρ, env, st, w, er, ?_⟩
  show Post X.K fa relE W F ρ H σ ((ev c a env st).bind rdB) _
  cases q : ev c a env st with
  | bad =>
    simp only [q, R.bind_bad] at p
    exact p
  | exc k x s =>
    simp only [q, R.bind_exc] at p
    exact p
  | ok d s =>
    simp only [q, R.bind_ok] at p ⊢
    cases d with
    | p x =>
      cases x with
      | bl k =>
        intro k' F' ρ' H' ex wk rv
        cases (show k' = k from rv)
        cases k with
        | true => exact iteT ⟨F', ρ', env, s, wk, er.mono w ex, p.rebase anti_E ex⟩
        | false => exact iteF (p false F' ρ' H' ex wk rfl)
      | _ => exact p.elim
    | _ => exact p.elim
theorem t_or {r : IL} (ha : PT X e (tT X.K fa W c a)) (hr : PW X (.BoolOp .Or (e1 :: es) pos) (tOT X.K fa W c (.cons b r))) : PW X (.BoolOp .Or (e :: e1 :: es) pos) (tOT X.K fa W c (.cons a (.cons b r))) := pw_of (pw_or ha hr) fun σ H Q ⟨F, ρ, env, st, w, er, p⟩ => by
  have p : Post X.K fa relE W F ρ H σ (((ev c a env st).bind fun x st => match x with | .p (.bl false) => evOr c (.cons b r) env st | .p (.bl true) => .ok (.p (.bl true)) st | _ => .bad).bind rdB) Q := p
  refine ⟨F, ρ, env, st, w, er, ?_⟩
  show Post X.K fa relE W F ρ H σ ((ev c a env st).bind rdB) _
  cases q : ev c a env st with
  | bad =>
    simp only [q, R.bind_bad] at p
    exact p
  | exc k x s =>
    simp only [q, R.bind_exc] at p
    exact p
  | ok d s =>
    simp only [q, R.bind_ok] at p ⊢
    cases d with
    | p x =>
      cases x with
      | bl k =>
        intro k' F' ρ' H' ex wk rv
        cases (show k' = k from rv)
        cases k with
        | false => exact iteF ⟨F', ρ', env, s, wk, er.mono w ex, p.rebase anti_E ex⟩
        | true => exact iteT (p true F' ρ' H' ex wk rfl)
      | _ => exact p.elim
    | _ => exact p.elim
end
end DE
end

section
set_option Elab.async false
set_option linter.all false
set_option maxRecDepth 100000
set_option autoImplicit false
namespace DE
open PySem PySem.Spec L2
/-- J walks xs while S stands; b: S stands still by itself (a for), else by the ways of expressions -/
def relJ (K : PySem.W.Frag) (fa : Fa) (b : Bool) : Rel It (List DE.P) := fun F ρ H H0 J xs => ∃ S, ItW K fa S F H J xs ∧ ∀ a, a ∈ S → a ∉ ρ ∧ (∃ o, H a = some o ∧ ∀ ps, o ≠ .tbl ps) ∧ (b = true → F a ∨ nt H0 a = none)
def tIv (K : PySem.W.Frag) (fa : Fa) (W : WX) (c : Cf) (b : Bool) (it : IT) : TI := fun σ H R => ∃ F ρ env st, Wok K fa F ρ H st ∧ ERel K fa F ρ H σ env ∧ Post K fa (relJ K fa b) W F ρ H σ (evI c b it env st) R
section
variable {X : Cx} {tg e e1 e2 : Expr} {pos p : Pos} {fa : Fa} {W : WX} {c : Cf} {a b d : IE} {il : IL} {fl : Bool}
theorem pi_of {t t' : TI} (h : PI X tg e t) (i : ∀ σ H Q, t' σ H Q → t σ H Q) : PI X tg e t' := ⟨fun pins s σ H Q I q => h.run pins s σ H Q I (i σ H Q q)⟩
/-- a list, a tuple, a text -/
def iAny (K : PySem.W.Frag) (te : TE) : TI := fun σ H R => te σ H fun x H1 => (∃ a, x = .ref a ∧ (∃ xs, SqL K H1 a xs) ∧ R (Itl K a) H1) ∨ (∃ a, x = .ref a ∧ (∃ xs, SqT K H1 a xs) ∧ R (Itt K a) H1) ∨ ∃ z, x = .str z ∧ R (Its z) H1
theorem pi_any {te : TE} (he : PE X e te) : PI X tg e (iAny X.K te) := by
  refine ⟨fun pins s σ H R I h => ?_⟩
  refine thn (he.run pins s σ H _ I h) fun v s1 ⟨x, H1, I1, r1, q1⟩ => ?_
  rcases q1 with ⟨ad, rfl, ⟨xs, hq⟩, q⟩ | ⟨ad, rfl, ⟨xs, hq⟩, q⟩ | ⟨z, rfl, q⟩
  · cases r1
    obtain ⟨its, rv, pl, hz⟩ := I1.list hq
    refine wpAny_pyIter_list pl.isList ?_
    refine ⟨s1.heap.objs.size, [s1.heap.objs.size], _, _, H1, rfl, I1.kept (t' := s1.toks) fun b o e => Heap.get?_push_of_some _ e, turn_list ad _, ⟨_, Heap.get?_push_size _ rfl, rfl, rfl⟩, fun b hb => ?_, q⟩
    have e : b = s1.heap.objs.size := by simpa using hb
    subst e
    exact I1.fpOk (Nat.le_refl _) (I1.hok.fresh (Nat.le_refl _))
  · cases r1
    obtain ⟨its, rv, pl, hz⟩ := I1.tuple hq
    refine wpAny_pyIter_tuple (show s1.heap.IsTuple ad its.toArray from pl) ?_
    refine ⟨s1.heap.objs.size, [s1.heap.objs.size], _, _, H1, rfl, I1.kept (t' := s1.toks) fun b o e => Heap.get?_push_of_some _ e, turn_tuple ad _, ⟨_, Heap.get?_push_size _ rfl, rfl, rfl⟩, fun b hb => ?_, q⟩
    have e : b = s1.heap.objs.size := by simpa using hb
    subst e
    exact I1.fpOk (Nat.le_refl _) (I1.hok.fresh (Nat.le_refl _))
  · obtain ⟨t, rfl⟩ := r1
    cases ha : z.cps.all (· < 128)
    · exact wpAny_pyIter_wide ha (pi_one (tk := s1.toks) I1 _ (turn_str _ z t "str_iterator" (.inr rfl)) ⟨_, Heap.get?_push_size _ rfl, rfl, rfl⟩ q)
    · exact wpAny_pyIter_ascii ha (pi_one (tk := s1.toks) I1 _ (turn_str _ z t "str_ascii_iterator" (.inl rfl)) ⟨_, Heap.get?_push_size _ rfl, rfl, rfl⟩ q)
/-- where a walked list stands -/
theorem lst_at {K : PySem.W.Frag} {F : Addr → Prop} {ρ : List Addr} {H H0 : Hp} {st : Store} {v : V} {dd : D} {xs : List DE.P} (w : Wok K fa F ρ H st) (r : DR K fa F ρ H H0 v dd) (q : dd.rdI fl = some (.lst xs)) :
    ∃ ad vs, v = .ref ad ∧ H ad = some (.lst vs) ∧ VRs K fa F H vs xs ∧ ad ∉ ρ ∧ (fl = true → F ad ∨ nt H0 ad = none) := by
  cases dd with
  | p x =>
    cases q
    cases (show VR K fa F H v (.lst xs) from r) with
    | lst f h r' => exact ⟨_, _, rfl, h, r', fun z => w.dis _ z f, fun _ => .inl f⟩
  | new ys =>
    cases q
    obtain ⟨ad, vs, e1, h1, h2, h3, h4, h5⟩ := r
    exact ⟨ad, vs, e1, h1, h2, h4, fun _ => .inr h5⟩
  | bor o =>
    cases o with
    | lst ys =>
      have q : (if fl = true then none else some (DE.P.lst ys)) = some (.lst xs) := q
      cases fl with
      | true => cases q
      | false =>
        cases q
        obtain ⟨ad, e1, ⟨vs, h1, h2⟩, h3⟩ := r
        exact ⟨ad, vs, e1, h1, h2, h3, fun z => by cases z⟩
    | dic kvs => cases q
  | box n => cases q
/-- where a walked tuple stands -/
theorem tup_at {K : PySem.W.Frag} {F : Addr → Prop} {ρ : List Addr} {H H0 : Hp} {st : Store} {v : V} {dd : D} {xs : List DE.P} (w : Wok K fa F ρ H st) (r : DR K fa F ρ H H0 v dd) (q : dd.rdI fl = some (.tup xs)) :
    ∃ (ad : Addr) (vs : List V) (S : List Addr), v = .ref ad ∧ (∀ H' : Hp, (∀ b, b ∈ S → H' b = H b) → SqT K H' ad vs) ∧ VRs K fa F H vs xs ∧ ∀ b, b ∈ S → b ∉ ρ ∧ (∃ o, H b = some o ∧ ∀ ps, o ≠ .tbl ps) ∧ F b := by
  cases dd with
  | p x =>
    cases q
    obtain ⟨ad, vs, rfl, ht, hr⟩ := (VR.r (show VR K fa F H v (.tup xs) from r)).tup
    rcases ht with ⟨f, h⟩ | h
    · refine ⟨ad, vs, [ad], rfl, fun H' s => SqT.of (by rw [s ad (by simp)]; exact h), hr, fun b hb => ?_⟩
      have e : b = ad := by simpa using hb
      subst e
      exact ⟨fun z => w.dis _ z f, ⟨_, h, fun _ z => nomatch z⟩, f⟩
    · exact ⟨ad, vs, [], rfl, fun H' _ => h H', hr, fun b hb => absurd hb (by simp)⟩
  | new ys => cases q
  | bor o =>
    cases o with
    | lst ys =>
      have q : (if fl = true then none else some (DE.P.lst ys)) = some (.tup xs) := q
      cases fl <;> cases q
    | dic kvs => cases q
  | box n => cases q
theorem i_seq (ha : PE X e (tEv X.K fa W c a)) : PI X tg e (tIv X.K fa W c fl (.seq a)) := pi_of (pi_any ha) fun σ H R ⟨F, ρ, env, st, w, er, p⟩ => by
  have p : Post X.K fa (relJ X.K fa fl) W F ρ H σ ((ev c a env st).bind fun x st => match x.rdI fl with | some x => DE.R.opt (itSeq x) st | none => .bad) R := p
  refine ev0 (f := ev c a) w er (.refl _ _ _) p fun v H1 F1 ρ1 d1 st1 e1 w1 r1 p1 => ?_
  cases q : d1.rdI fl with
  | none =>
    simp only [q] at p1
    exact p1.elim
  | some x =>
    simp only [q] at p1
    cases x with
    | lst xs =>
      obtain ⟨ad, vs, rfl, h1, h2, h3, h4⟩ := lst_at w1 r1 q
      refine .inl ⟨ad, rfl, ⟨vs, SqL.of h1⟩, p1 _ F1 ρ1 H1 e1 w1 ⟨[ad], itw_lst (fun H' s => SqL.of (by rw [s ad (by simp)]; exact h1)) h2, fun b hb => ?_⟩⟩
      have e : b = ad := by simpa using hb
      subst e
      exact ⟨h3, ⟨_, h1, fun _ z => nomatch z⟩, h4⟩
    | tup xs =>
      obtain ⟨ad, vs, S, rfl, h1, h2, h3⟩ := tup_at w1 r1 q
      exact .inr (.inl ⟨ad, rfl, ⟨vs, h1 H1 fun _ _ => rfl⟩, p1 _ F1 ρ1 H1 e1 w1 ⟨S, itw_tup h1 h2, fun b hb => ⟨(h3 b hb).1, (h3 b hb).2.1, fun _ => .inl (h3 b hb).2.2⟩⟩⟩)
    | str z =>
      cases d1 with
      | p y =>
        cases q
        cases (VR.r (show VR X.K fa F1 H1 v (.str z) from r1)).str
        exact .inr (.inr ⟨z, rfl, p1 _ F1 ρ1 H1 e1 w1 ⟨[], itw_str z, fun b hb => absurd hb (by simp)⟩⟩)
      | new ys => cases q
      | bor o =>
        cases o with
        | lst ys =>
          have q : (if fl = true then none else some (DE.P.lst ys)) = some (.str z) := q
          cases fl <;> cases q
        | dic kvs => cases q
      | box n => cases q
    | _ => exact p1.elim
theorem rng_of {K : PySem.W.Frag} {F0 F : Addr → Prop} {ρ0 ρ : List Addr} {H H0 H2 : Hp} {st : Store} {σ : L2.St} {u v : V} {x y : D} {Q : It → Hp → Prop} (h : Post K fa (relJ K fa fl) W F0 ρ0 H0 σ (itRng x y st) Q) (e : Ext F0 ρ0 H0 F ρ H) (w : Wok K fa F ρ H st) (hx : DR K fa F ρ H H2 u x) (hy : DR K fa F ρ H H2 v y) :
    ∃ i j : Int, u = .int i ∧ v = .int j ∧ Q (Itr i (j - i).toNat) H := by
  unfold itRng at h
  cases x with
  | p x =>
    cases x with
    | int i =>
      cases y with
      | p y =>
        cases y with
        | int j =>
          cases ho : rngOk i j with
          | false =>
            simp only [ho] at h
            exact h.elim
          | true =>
            simp only [ho] at h
            cases (VR.r (show VR K fa F H u (.int i) from hx)).int
            cases (VR.r (show VR K fa F H v (.int j) from hy)).int
            exact ⟨i, j, rfl, rfl, h _ F ρ H e w ⟨[], itw_rng i j, fun b hb => absurd hb (by simp)⟩⟩
        | _ => exact h.elim
      | _ => exact h.elim
    | _ => cases y <;> exact h.elim
  | _ => cases y <;> exact h.elim
theorem i_rng1 {x : Str} (hx : x = (Str.ofString "range")) (hg : Gl X x) (hm : X.mg x = none) (ha : PE X e1 (tEv X.K fa W c a)) (hst : ∀ r, starEach (e1 :: r) X.env = (false, eval e1 X.env) :: starEach r X.env) : PI X tg (.Call (.Name x p) [e1] [] pos) (tIv X.K fa W c fl (.rng1 a)) := by
  subst hx
  refine pi_of (RB.pi_rangeB1 hg hm (pa_cons ha pa_nil (hst _)) (hst _)) fun σ H R ⟨F, ρ, env, st, w, er, p⟩ => ?_
  refine ev0 (f := ev c a) w er (.refl _ _ _) p fun v H1 F1 ρ1 d1 st1 e1 w1 r1 p1 => ?_
  obtain ⟨i, j, h1, rfl, q⟩ := rng_of (u := .int 0) (H2 := H) p1 e1 w1 (VR.int 0) r1
  cases h1
  exact ⟨j, rfl, by rw [Int.sub_zero] at q; exact q⟩
theorem i_rng2 {x : Str} (hx : x = (Str.ofString "range")) (hg : Gl X x) (hm : X.mg x = none) (ha : PE X e1 (tEv X.K fa W c a)) (hb : PE X e2 (tEv X.K fa W c b)) (hst : ∀ r, starEach (e1 :: r) X.env = (false, eval e1 X.env) :: starEach r X.env) (hst2 : ∀ r, starEach (e2 :: r) X.env = (false, eval e2 X.env) :: starEach r X.env) :
    PI X tg (.Call (.Name x p) [e1, e2] [] pos) (tIv X.K fa W c fl (.rng2 a b)) := by
  subst hx
  refine pi_of (RB.pi_rangeB2 hg hm (pa_cons ha (pa_cons hb pa_nil (hst2 _)) (hst _)) (by rw [hst, hst2] <;> rfl) (hst2 _)) fun σ H R ⟨F, ρ, env, st, w, er, p⟩ => ?_
  refine ev0 (f := ev c a) w er (.refl _ _ _) p fun v H1 F1 ρ1 d1 st1 e1 w1 r1 p1 => ?_
  refine ev0 (f := ev c b) w1 (er.mono w e1) e1 p1 fun u H2 F2 ρ2 d2 st2 e2 w2 r2 p2 => ?_
  obtain ⟨i, j, rfl, rfl, q⟩ := rng_of (H2 := H) p2 (e1.trans e2) w2 (r1.mono w1.dis e2) (r2.anti e1)
  exact ⟨i, j, rfl, q⟩
theorem lst_keep {K : PySem.W.Frag} {F F2 : Addr → Prop} {ρ ρ2 : List Addr} {H H2 : Hp} {ad : Addr} {vs : List V} (e : Ext F ρ H F2 ρ2 H2) (h : H ad = some (.lst vs)) (hn : ad ∉ ρ) : H2 ad = some (.lst vs) := e.keep _ _ h hn (fun _ z => nomatch z)
theorem i_zip {x : Str} {elts : List Expr} {kk : Nat} {tp : Pos} (hx : x = (Str.ofString "zip")) (hg : Gl X x) (hm : X.mg x = none) (ha : PE X e1 (tEv X.K fa W c a)) (hb : PE X e2 (tEv X.K fa W c b)) (hst : ∀ r, starEach (e1 :: r) X.env = (false, eval e1 X.env) :: starEach r X.env) (hst2 : ∀ r, starEach (e2 :: r) X.env = (false, eval e2 X.env) :: starEach r X.env) :
    PI X (.Tuple elts kk tp) (.Call (.Name x p) [e1, e2] [] pos) (tIv X.K fa W c fl (.zip a b)) := by
  subst hx
  refine pi_of (RZ.pi_zipA hg hm (pa_cons ha (pa_cons hb pa_nil (hst2 _)) (hst _)) (hst _) (by rw [hst2] <;> rfl)) fun σ H R ⟨F, ρ, env, st, w, er, p⟩ => ?_
  have p : Post X.K fa (relJ X.K fa fl) W F ρ H σ ((ev c a env st).bind fun x st => (ev c b env st).bind fun y st => match x.rdI fl, y.rdI fl with | some x, some y => DE.R.opt (itZip x y) st | _, _ => .bad) R := p
  refine ev0 (f := ev c a) w er (.refl _ _ _) p fun v H1 F1 ρ1 d1 st1 e1 w1 r1 p1 => ?_
  refine ev0 (f := ev c b) w1 (er.mono w e1) e1 p1 fun u H2 F2 ρ2 d2 st2 e2 w2 r2 p2 => ?_
  have r1' := (r1.mono w1.dis e2)
  have r2' := r2.anti e1
  cases q1 : d1.rdI fl with
  | none =>
    simp only [q1] at p2
    exact p2.elim
  | some x =>
    cases q2 : d2.rdI fl with
    | none =>
      simp only [q1, q2] at p2
      exact p2.elim
    | some y =>
      simp only [q1, q2] at p2
      cases x with
      | lst xs =>
        cases y with
        | lst ys =>
          obtain ⟨ad, vs, rfl, h1, h2, h3, h4⟩ := lst_at w2 r1' q1
          obtain ⟨bd, ws, rfl, g1, g2, g3, g4⟩ := lst_at w2 r2' q2
          refine ⟨ad, bd, vs, ws, rfl, .inl ⟨SqL.of h1, SqL.of g1, p2 _ F2 ρ2 H2 (e1.trans e2) w2 ⟨[ad, bd], itw_zipL (fun H' s => ⟨SqL.of (by rw [s ad (by simp)]; exact h1), SqL.of (by rw [s bd (by simp)]; exact g1)⟩) h2 g2, fun b hb => ?_⟩⟩⟩
          have e : b = ad ∨ b = bd := by simpa using hb
          rcases e with rfl | rfl
          · exact ⟨h3, ⟨_, h1, fun _ z => nomatch z⟩, h4⟩
          · exact ⟨g3, ⟨_, g1, fun _ z => nomatch z⟩, g4⟩
        | _ => exact p2.elim
      | tup xs =>
        cases y with
        | tup ys =>
          obtain ⟨ad, vs, S, rfl, h1, h2, h3⟩ := tup_at w2 r1' q1
          obtain ⟨bd, ws, S', rfl, g1, g2, g3⟩ := tup_at w2 r2' q2
          have hh : ∀ H' : Hp, (∀ z, z ∈ S ++ S' → H' z = H2 z) → SqT X.K H' ad vs ∧ SqT X.K H' bd ws := fun H' s => ⟨h1 H' fun z hz => s z (List.mem_append_left _ hz), g1 H' fun z hz => s z (List.mem_append_right _ hz)⟩
          refine ⟨ad, bd, vs, ws, rfl, .inr ⟨(hh H2 fun _ _ => rfl).1, (hh H2 fun _ _ => rfl).2, p2 _ F2 ρ2 H2 (e1.trans e2) w2 ⟨S ++ S', itw_zipT hh h2 g2, fun b hb => ?_⟩⟩⟩
          rcases List.mem_append.mp hb with hb | hb
          · exact ⟨(h3 b hb).1, (h3 b hb).2.1, fun _ => .inl (h3 b hb).2.2⟩
          · exact ⟨(g3 b hb).1, (g3 b hb).2.1, fun _ => .inl (g3 b hb).2.2⟩
        | _ => exact p2.elim
      | _ => cases y <;> exact p2.elim
theorem i_enum {x : Str} {elts : List Expr} {kk : Nat} {tp : Pos} (hx : x = (Str.ofString "enumerate")) (hg : Gl X x) (hm : X.mg x = none) (ha : PE X e1 (tEv X.K fa W c a)) (hst : ∀ r, starEach (e1 :: r) X.env = (false, eval e1 X.env) :: starEach r X.env) :
    PI X (.Tuple elts kk tp) (.Call (.Name x p) [e1] [] pos) (tIv X.K fa W c fl (.enum a)) := by
  subst hx
  refine pi_of (pi_enum hg hm (pa_cons ha pa_nil (hst _)) (hst _)) fun σ H R ⟨F, ρ, env, st, w, er, p⟩ => ?_
  have p : Post X.K fa (relJ X.K fa fl) W F ρ H σ ((ev c a env st).bind fun x st => match x.rdI fl with | some x => DE.R.opt (itEnum x) st | none => .bad) R := p
  refine ev0 (f := ev c a) w er (.refl _ _ _) p fun v H1 F1 ρ1 d1 st1 e1 w1 r1 p1 => ?_
  cases q1 : d1.rdI fl with
  | none =>
    simp only [q1] at p1
    exact p1.elim
  | some x =>
    simp only [q1] at p1
    cases x with
    | lst xs =>
      obtain ⟨ad, vs, rfl, h1, h2, h3, h4⟩ := lst_at w1 r1 q1
      refine ⟨ad, vs, rfl, SqL.of h1, p1 _ F1 ρ1 H1 e1 w1 ⟨[ad], itw_enum (fun H' s => SqL.of (by rw [s ad (by simp)]; exact h1)) h2, fun b hb => ?_⟩⟩
      have e : b = ad := by simpa using hb
      subst e
      exact ⟨h3, ⟨_, h1, fun _ z => nomatch z⟩, h4⟩
    | _ => exact p1.elim
end
end DE
end

section
set_option Elab.async false
set_option linter.all false
set_option maxRecDepth 100000
set_option autoImplicit false
namespace DE
open PySem PySem.Spec L2
theorem R.bind_assoc {α β γ : Type} (r : R α) (f : α → Store → R β) (g : β → Store → R γ) : (r.bind f).bind g = r.bind fun a st => (f a st).bind g := by
  cases r <;> rfl
section
variable {K : PySem.W.Frag} {fa : Fa} {F F' : Addr → Prop} {ρ ρ' : List Addr} {H H' H0 : Hp} {st : Store} {D : Addr}
theorem ext_updF (e : Ext F ρ H F' ρ' H') (hD : H D = none) (vs : List V) : Ext F ρ H F' ρ' (upd H' D (.lst vs)) :=
  ⟨e.sub, e.new, e.pre, fun a q h hn ht => by rw [upd_ne (ne_of_none h hD)]; exact e.keep a q h hn ht, fun a h => e.there a (nt_upd (o := .lst vs) (fun _ z => nomatch z) h)⟩
theorem Wok.updF (w : Wok K fa F ρ H st) (hf : ¬ F D) (hr : D ∉ ρ) {ws : List V} (hD : H D = some (.lst ws)) (vs : List V) : Wok K fa F ρ (upd H D (.lst vs)) st := by
  have ne : ∀ a, F a → a ≠ D := fun a f (z : a = D) => hf (z ▸ f)
  have kp : ∀ a q, F a → H a = some q → upd H D (.lst vs) a = some q := fun a q f h => by
    rw [upd_ne (ne a f)]
    exact h
  refine ⟨w.len, w.nd, fun n a q h1 h2 => ?_, w.dis, fun a f q => w.has a f (nt_upd (o := .lst vs) (fun _ z => nomatch z) q), tabs_upd w.tab hD⟩
  · exact (w.box n a q h1 h2).mono2 (fun _ h => h) (fun a q f h _ => kp a q f h) (upd_ne (fun (z : a = D) => hr (z ▸ List.mem_of_getElem? h1)))
theorem VRs.updF {vs : List V} {xs : List P} (h : VRs K fa F H vs xs) (hf : ¬ F D) (o : HO) : VRs K fa F (upd H D o) vs xs := h.mono2 (fun _ h => h) fun a q f h _ => by
  rw [upd_ne (fun (z : a = D) => hf (z ▸ f))]
  exact h
end
section
variable {X : Cx} {fa : Fa} {W : WX} {c : Cf}
theorem c_compR {wi : TI} {it : IT} {tgt : Tg} {elt : IE} {cond : IO} {tt : TT} {te : TE} {σ : L2.St} {H : Hp} {Q : VK}
    (hwi : ∀ σ H R, tIv X.K fa W c false it σ H R → wi σ H R) (htt : ∀ σ H Q, tEvT X.K fa W0 c (fun env st => evC c cond env st) σ H Q → tt σ H Q) (hte : ∀ σ H Q, tEv X.K fa W0 c elt σ H Q → te σ H Q)
    (h : tEv X.K fa W c (.comp elt tgt it cond) σ H Q) : tLc wi (gTv X.K fa tgt) tt te tgt.slots σ H Q := by
  obtain ⟨F, ρ, env, st, w, er, p⟩ := h
  have p : PostD X.K fa W F ρ H σ ((evI c false it env st).bind fun xs st => (compGo (fun env st => ev c elt env st) (fun env st => evC c cond env st) tgt (wip env tgt.slots) xs [] st).bind fun ys st => .ok (.new ys) st) Q := p
  refine hwi σ H _ ⟨F, ρ, env, st, w, er, (p.step0 (rel1 := relJ X.K fa false) (.refl _ _ _)).imp fun J H1 ⟨F1, ρ1, xs, st1, e1, w1, r1, p1⟩ => ?_⟩
  obtain ⟨S, itw, hS⟩ := r1
  intro Dl hD
  have hDH : nt H Dl = none := e1.there Dl (nt_of hD)
  have keepS : ∀ {F' : Addr → Prop} {ρ' : List Addr} {H' : Hp}, Ext F1 ρ1 H1 F' ρ' H' → ∀ a, a ∈ S → H' a = H1 a := fun {F' ρ' H'} e a ha => by
    obtain ⟨s1, ⟨o, s2, s3⟩, _⟩ := hS a ha
    rw [e.keep a o s2 s1 s3, s2]
  refine ⟨fun i m H' => m = xs.length - i ∧ i ≤ xs.length ∧ ∃ F' ρ' st' vacc acc, Ext F1 ρ1 H1 F' ρ' H' ∧ Wok X.K fa F' ρ' H' st' ∧ H' Dl = some (.lst vacc) ∧ VRs X.K fa F' H' vacc acc ∧ ¬ F' Dl ∧ Dl ∉ ρ' ∧
      PostD X.K fa W F ρ H σ ((compGo (fun env st => ev c elt env st) (fun env st => evC c cond env st) tgt (wip env tgt.slots) (xs.drop i) acc st').bind fun ys st => .ok (.new ys) st) Q,
    ⟨xs.length, by simp, Nat.zero_le _, F1, ρ1, st1, [], [], ext_new hD, w1.new hD, upd_same, .nil, w1.freeF (nt_of hD), w1.free (nt_of hD), p1⟩, ?_⟩
  rintro i m H' ⟨rfl, hi, F', ρ', st', vacc, acc, ex, wk, hl, hv, hf, hr, pp⟩
  have hS' := keepS ex
  by_cases hlt : i < xs.length
  · -- a turn
    refine .inr ⟨itw.go H' i hS' hlt, fun H2 => ∃ F' ρ' st' vacc acc, Ext F1 ρ1 H1 F' ρ' H2 ∧ Wok X.K fa F' ρ' H2 st' ∧ H2 Dl = some (.lst vacc) ∧ VRs X.K fa F' H2 vacc acc ∧ ¬ F' Dl ∧ Dl ∉ ρ' ∧
      PostD X.K fa W F ρ H σ ((compGo (fun env st => ev c elt env st) (fun env st => evC c cond env st) tgt (wip env tgt.slots) (xs.drop (i + 1)) acc st').bind fun ys st => .ok (.new ys) st) Q,
      fun H2 h2 => ⟨xs.length - (i + 1), by omega, rfl, hlt, h2⟩, fun v H2 y => ?_⟩
    have hx : xs[i]? = some xs[i] := List.getElem?_eq_getElem hlt
    have hdrop : xs.drop i = xs[i] :: xs.drop (i + 1) := List.drop_eq_getElem_cons hlt
    rw [hdrop] at pp
    obtain ⟨F2, ex2, wk2, hv2, _⟩ := itw.yld F' ρ' H' st' i xs[i] v H2 hS' ex.sub (fun a o f h nt => ex.keep a o h (fun z => w1.dis a z f) nt) wk hx y
    have pp : PostD X.K fa W F ρ H σ ((match asgT tgt (.p xs[i]) (wip env tgt.slots) with
      | some env1 => (evC c cond env1 st').nx.bind fun b st1 => if b then
          (ev c elt env1 st1).nx.bind fun d st2 => match d.keep with
            | some y => if decide (acc.length < sizeLine) then compGo (fun env st => ev c elt env st) (fun env st => evC c cond env st) tgt (wip env tgt.slots) (xs.drop (i + 1)) (acc ++ [y]) st2 else .bad
            | none => .bad
        else compGo (fun env st => ev c elt env st) (fun env st => evC c cond env st) tgt (wip env tgt.slots) (xs.drop (i + 1)) acc st1
      | none => .bad).bind fun ys st => .ok (.new ys) st) Q := pp
    cases hq : asgT tgt (.p xs[i]) (wip env tgt.slots) with
    | none =>
      rw [hq] at pp
      exact pp.elim
    | some env1 =>
      rw [hq] at pp
      have ex3 := ex.trans ex2
      have e3 := e1.trans ex3
      have erw : ERel X.K fa F2 ρ' H2 (L2.wipe σ tgt.slots) (wip env tgt.slots) := (er.mono w e3).wip _
      refine ⟨F2, ρ', wip env tgt.slots, .p xs[i], env1, hv2, erw, hq, fun σ2 er2 off => ⟨?_, ?_⟩⟩
      · rw [off.wipe]
        exact Off.wipe ⟨wipe_length _ _, fun j hj => by rw [wipe_get, if_neg hj]⟩
      · simp only [R.bind_assoc] at pp
        refine htt _ _ _ ⟨F2, ρ', env1, st', wk2, er2, ((pp.step0 (rel1 := relE) e3).nx).imp fun b H3 ⟨F3, ρ3, b', st3, e4, w3, r3, p3⟩ => ?_⟩
        cases (show b = b' from r3)
        have hl' : nt H' Dl ≠ none := nt_lst hl
        have hD2 : H2 Dl = some (.lst vacc) := ex2.keep _ _ hl hr (fun _ z => nomatch z)
        have hl2 : nt H2 Dl ≠ none := nt_lst hD2
        have hD3 : H3 Dl = some (.lst vacc) := e4.keep _ _ hD2 (ex2.notin hr (nt_lst hl)) (fun _ z => nomatch z)
        have hl3 : nt H3 Dl ≠ none := nt_lst hD3
        have hf3 : ¬ F3 Dl := e4.notF (ex2.notF hf hl') hl2
        have hr3 : Dl ∉ ρ3 := e4.notin (ex2.notin hr hl') hl2
        have hv3 : VRs X.K fa F3 H3 vacc acc := (hv.mono wk.dis ex2).mono wk2.dis e4
        cases b with
        | false => exact iteF ⟨F3, ρ3, st3, vacc, acc, ex3.trans e4, w3, hD3, hv3, hf3, hr3, by simpa using p3⟩
        | true =>
          have p3' : PostD X.K fa W F ρ H σ ((ev c elt env1 st3).nx.bind fun a st => (match a.keep with
              | some y => if decide (acc.length < sizeLine) then compGo (fun env st => ev c elt env st) (fun env st => evC c cond env st) tgt (wip env tgt.slots) (xs.drop (i + 1)) (acc ++ [y]) st else .bad
              | none => .bad).bind fun ys st => .ok (.new ys) st) Q := by
            rw [← R.bind_assoc]
            simpa using p3
          refine iteT (hte _ _ _ ⟨F3, ρ3, env1, st3, w3, er2.mono wk2 e4, ((p3'.step0 (rel1 := relD X.K fa) (e3.trans e4)).nx).imp fun y H4 ⟨F4, ρ4, d, st4, e5, w4, r4, p4⟩ => ?_⟩)
          have hD4 : H4 Dl = some (.lst vacc) := e5.keep _ _ hD3 hr3 (fun _ z => nomatch z)
          have hf4 : ¬ F4 Dl := e5.notF hf3 hl3
          have hr4 : Dl ∉ ρ4 := e5.notin hr3 hl3
          cases qk : d.keep with
          | none =>
            simp only [qk] at p4
            exact p4.elim
          | some x =>
            simp only [qk] at p4
            cases hm : decide (acc.length < sizeLine) with
            | false =>
              simp only [hm] at p4
              exact p4.elim
            | true =>
              simp only [hm] at p4
              obtain ⟨F5, e6, w5, r5, s5, n5⟩ := DR.keep w4 e5 r4 qk
              have hf5 : ¬ F5 Dl := fun z => by
                rcases n5 Dl z with z | ⟨z, _⟩
                · exact hf4 z
                · exact nt_lst hD3 z
              have hv5 : VRs X.K fa F5 H4 (vacc ++ [y]) (acc ++ [x]) := ((hv3.mono w3.dis e5).sub s5).append (.cons r5 .nil)
              exact ⟨vacc, hD4, by rw [hv3.length]; exact of_decide_eq_true hm, F5, ρ4, st4, vacc ++ [y], acc ++ [x], ext_updF ((ex3.trans e4).trans e6) hD _, w5.updF hf5 hr4 hD4 _, upd_same, hv5.updF hf5 _, hf5, hr4, p4⟩
  · have he : i = xs.length := by omega
    subst he
    refine .inl ⟨itw.stop H' _ hS' (Nat.le_refl _), ?_⟩
    rw [List.drop_length] at pp
    exact pp (.ref Dl) F' ρ' H' (e1.trans ex) wk ⟨Dl, vacc, rfl, hl, hv, hf, hr, hDH⟩
end
end DE
end

section
set_option Elab.async false
set_option linter.all false
set_option maxRecDepth 100000
set_option autoImplicit false
namespace DE
open PySem PySem.Spec L2
section
variable {X : Cx} {fa : Fa} {W : WX} {c : Cf}
/-- an expression that is a constant -/
def CE (X : Cx) (fa : Fa) (c : Cf) (a : IE) (e : Expr) : Prop := (∃ v x, PE X e (tC v) ∧ (∀ env st, ev c a env st = .ok (.p x) st) ∧ ∀ F H, VR X.K fa F H v x) ∨ ∀ env st, ev c a env st = .bad
theorem dget_core {gt : Bool} {k1 k2 : Str} {v1 v2 : V} {x1 x2 : DE.P} {i1 i2 a : IE} (h1 : ∀ env st, ev c i1 env st = .ok (.p x1) st) (h2 : ∀ env st, ev c i2 env st = .ok (.p x2) st)
    (r1 : ∀ F H, VR X.K fa F H v1 x1) (r2 : ∀ F H, VR X.K fa F H v2 x2) (hk : k1 ≠ k2) {σ : L2.St} {H : Hp} {Q : VK} (h : tEv X.K fa W c (.dget gt [k1, k2] (.cons i1 (.cons i2 .nil)) a) σ H Q) (p : Addr) (hp : H p = none) :
    tEv X.K fa W c a σ (upd H p (.dK (mergeK [] [(.inr k1, v1), (.inr k2, v2)]))) fun y H2 => ∃ o, DGet H2 p y o ∧ (gt = false → ∃ v, o = some v) ∧ Q (o.getD .non) H2 := by
  obtain ⟨F, ρ, env, st, w, er, q⟩ := h
  have e0 : mergeK [] [(.inr k1, v1), (.inr k2, v2)] = [((.inr k1 : Key), v1), (.inr k2, v2)] := by
    have hn : ¬ ((.inr k1 : Key) = .inr k2) := fun h => hk (by cases h; rfl)
    simp [mergeK, putK, hn]
  rw [e0]
  have q : Post X.K fa (relD X.K fa) W F ρ H σ ((ev c a env st).bind fun x st => match x with | .p (.str z) => dGet gt [(k1, x1), (k2, x2)] z st | _ => .bad) Q := by
    have q : Post X.K fa (relD X.K fa) W F ρ H σ (ev c (.dget gt [k1, k2] (.cons i1 (.cons i2 .nil)) a) env st) Q := q
    rw [ev] at q
    simp only [evL, h1, h2, R.bind, keeps, D.keep, List.zip_cons_cons, List.zip_nil_right] at q
    exact q
  have e1 : Ext F ρ H F ρ (upd H p (.dK [((.inr k1 : Key), v1), (.inr k2, v2)])) := ext_new hp
  refine ev0 (f := ev c a) (w.new hp) (er.mono w e1) e1 q fun y H3 F3 ρ3 d st3 e3 w3 r3 p3 => ?_
  have hd : H3 p = some (.dK [((.inr k1 : Key), v1), (.inr k2, v2)]) := e3.keep _ _ upd_same (w.free (nt_of hp)) (fun _ z => nomatch z)
  cases d with
  | p z =>
    cases z with
    | str z =>
      cases (VR.r r3).str
      have g := DGet.k (k := .inr z) hd
      refine ⟨_, g, ?_⟩
      have p3 : Post X.K fa (relD X.K fa) W F ρ H σ (dGet gt [(k1, x1), (k2, x2)] z st3) Q := p3
      by_cases c1 : k1 = z
      · subst c1
        rw [valV_pos rfl]
        have l : ([(k1, x1), (k2, x2)] : List (Str × DE.P)).lookup k1 = some x1 := by simp [List.lookup]
        unfold dGet at p3
        simp only [l] at p3
        exact ⟨fun _ => ⟨_, rfl⟩, p3 _ F3 ρ3 H3 (e1.trans e3) w3 (r1 _ _)⟩
      · have hn : ¬ ((.inr k1 : Key) = .inr z) := fun h => c1 (by cases h; rfl)
        rw [valV_neg hn]
        by_cases c2 : k2 = z
        · subst c2
          rw [valV_pos rfl]
          have b1 : (k2 == k1) = false := beq_eq_false_iff_ne.mpr fun h => c1 h.symm
          have l : ([(k1, x1), (k2, x2)] : List (Str × DE.P)).lookup k2 = some x2 := by simp [List.lookup, b1]
          unfold dGet at p3
          simp only [l] at p3
          exact ⟨fun _ => ⟨_, rfl⟩, p3 _ F3 ρ3 H3 (e1.trans e3) w3 (r2 _ _)⟩
        · have hn2 : ¬ ((.inr k2 : Key) = .inr z) := fun h => c2 (by cases h; rfl)
          rw [valV_neg hn2, valV_nil]
          have b1 : (z == k1) = false := beq_eq_false_iff_ne.mpr fun h => c1 h.symm
          have b2 : (z == k2) = false := beq_eq_false_iff_ne.mpr fun h => c2 h.symm
          have l : ([(k1, x1), (k2, x2)] : List (Str × DE.P)).lookup z = none := by simp [List.lookup, b1, b2]
          unfold dGet at p3
          simp only [l] at p3
          cases gt with
          | false => exact p3.elim
          | true => exact ⟨fun h => (Bool.noConfusion h), p3 _ F3 ρ3 H3 (e1.trans e3) w3 (VR.non)⟩
    | _ => exact p3.elim
  | _ => exact p3.elim
variable {e1 e2 r : Expr} {p1 p2 kp1 kp2 ap cp : Pos} {q1 q2 : Nat} {gt : Bool} {k1 k2 : Str} {i1 i2 a : IE}
theorem bad1 {Q : VK} {σ : L2.St} {H : Hp} (h : (∀ env st, ev c i1 env st = .bad) ∨ ∀ env st, ev c i2 env st = .bad) (hg : tEv X.K fa W c (.dget gt [k1, k2] (.cons i1 (.cons i2 .nil)) a) σ H Q) (h1 : ∀ env st, (∃ x, ev c i1 env st = .ok (.p x) st) ∨ ev c i1 env st = .bad) : False := by
  obtain ⟨F, ρ, env, st, w, er, q⟩ := hg
  have q : Post X.K fa (relD X.K fa) W F ρ H σ (ev c (.dget gt [k1, k2] (.cons i1 (.cons i2 .nil)) a) env st) Q := q
  rw [ev] at q
  rcases h with h | h
  · simp only [evL, h, R.bind] at q
    exact q
  · rcases h1 env st with ⟨x, h1⟩ | h1
    · simp only [evL, h, h1, R.bind] at q
      exact q
    · simp only [evL, h1, R.bind] at q
      exact q
theorem disp_two {v1 v2 : V} (h1 : PE X e1 (tC v1)) (h2 : PE X e2 (tC v2)) : PE X (.Dict [some (.Constant (.str k1) q1 kp1), some (.Constant (.str k2) q2 kp2)] [e1, e2] p1) (tDisp [(tC (.str k1), tC v1), (tC (.str k2), tC v2)]) :=
  pe_disp (pps_cons pe_str h1 (pps_cons pe_str h2 pps_nil)) rfl rfl (by simp) (by simp)
theorem disp_at {v1 v2 : V} {σ : L2.St} {H : Hp} {Q : VK} (h : ∀ p, H p = none → Q (.ref p) (upd H p (.dK (mergeK [] [(.inr k1, v1), (.inr k2, v2)])))) : tDisp [(tC (.str k1), tC v1), (tC (.str k2), tC v2)] σ H Q := fun p hp =>
  ⟨upd_same, [(.inr k1, v1), (.inr k2, v2)], rfl, by simp, by rw [upd_upd]; exact h p hp⟩
theorem c_dget0 (hu : X.A.units + 1 < cLine) (h1 : CE X fa c i1 e1) (h2 : CE X fa c i2 e2) (hk : k1 ≠ k2) (ha : PE X r (tEv X.K fa W c a)) (hs : NoSl r) :
    PE X (.Subscript (.Dict [some (.Constant (.str k1) q1 kp1), some (.Constant (.str k2) q2 kp2)] [e1, e2] p1) r p2) (tEv X.K fa W c (.dget false [k1, k2] (.cons i1 (.cons i2 .nil)) a)) := by
  rcases h1 with ⟨v1, x1, g1, g2, g3⟩ | b
  · rcases h2 with ⟨v2, x2, f1, f2, f3⟩ | b
    · refine pe_of (pe_dget hu (disp_two g1 f1) ha hs) fun σ H Q h => disp_at fun p hp => ?_
      refine imp1 (dget_core g2 f2 g3 f3 hk h p hp) fun y H2 ⟨o, d, ho, q⟩ => ?_
      obtain ⟨v, rfl⟩ := ho rfl
      exact ⟨p, v, rfl, d, q⟩
    · exact ⟨fun pins s σ H Q I h => (bad1 (.inr b) h fun env st => .inl ⟨_, g2 env st⟩).elim⟩
  · exact ⟨fun pins s σ H Q I h => (bad1 (.inl b) h fun env st => .inr (b env st)).elim⟩
theorem c_dget1 (hu : X.A.units + 1 < cLine) (h1 : CE X fa c i1 e1) (h2 : CE X fa c i2 e2) (hk : k1 ≠ k2) (ha : PE X r (tEv X.K fa W c a)) (hl : (ap.endLine == cp.line) = true)
    (hst : starEach [r] X.env = (false, eval r X.env) :: starEach [] X.env) {name : Str} (hn : name = Str.ofString "get") :
    PE X (.Call (.Attribute (.Dict [some (.Constant (.str k1) q1 kp1), some (.Constant (.str k2) q2 kp2)] [e1, e2] p1) name ap) [r] [] cp) (tEv X.K fa W c (.dget true [k1, k2] (.cons i1 (.cons i2 .nil)) a)) := by
  subst hn
  rcases h1 with ⟨v1, x1, g1, g2, g3⟩ | b
  · rcases h2 with ⟨v2, x2, f1, f2, f3⟩ | b
    · refine pe_of (pe_dget1 hu (disp_two g1 f1) ha ⟨base_of rfl, by rw [hst]; rfl, hl, by rw [hst]; rfl⟩) fun σ H Q h => disp_at fun p hp => ?_
      refine ⟨p, rfl, .inl ⟨_, .inl upd_same⟩, ?_⟩
      refine imp1 (dget_core g2 f2 g3 f3 hk h p hp) fun y H2 ⟨o, d, _, q⟩ => ⟨o, d, q⟩
    · exact ⟨fun pins s σ H Q I h => (bad1 (.inr b) h fun env st => .inl ⟨_, g2 env st⟩).elim⟩
  · exact ⟨fun pins s σ H Q I h => (bad1 (.inl b) h fun env st => .inr (b env st)).elim⟩
end
end DE
end

section
set_option Elab.async false
set_option linter.all false
set_option maxRecDepth 100000
set_option autoImplicit false
namespace DE
open PySem PySem.Spec L2
theorem insB_perm {α : Type} (le : α → α → Bool) (x : α) : ∀ l : List α, (insB le x l).Perm (x :: l)
  | [] => List.Perm.refl _
  | y :: r => by
    unfold insB
    split
    · exact List.Perm.refl _
    · exact ((insB_perm le x r).cons y).trans (List.Perm.swap x y r)
theorem srtB_perm {α : Type} (le : α → α → Bool) : ∀ l : List α, (srtB le l).Perm l
  | [] => List.Perm.refl _
  | y :: r => (insB_perm le y (srtB le r)).trans ((srtB_perm le r).cons y)
structure Ord {α : Type} (le : α → α → Bool) : Prop where
  tot : ∀ x y, le x y = false → le y x = true
  tr : ∀ x y z, le x y = true → le y z = true → le x z = true
  anti : ∀ x y, le x y = true → le y x = true → x = y
theorem insB_up {α : Type} {le : α → α → Bool} (O : Ord le) {x : α} : ∀ {l : List α}, l.Pairwise (fun a b => le a b = true) → (insB le x l).Pairwise (fun a b => le a b = true)
  | [], _ => List.pairwise_singleton _ _
  | y :: r, h => by
    obtain ⟨h1, h2⟩ := List.pairwise_cons.mp h
    unfold insB
    split
    · rename_i q
      refine List.pairwise_cons.mpr ⟨fun z hz => ?_, h⟩
      rcases List.mem_cons.mp hz with rfl | hz
      · exact q
      · exact O.tr _ _ _ q (h1 z hz)
    · rename_i q
      refine List.pairwise_cons.mpr ⟨fun z hz => ?_, insB_up O h2⟩
      rcases List.mem_cons.mp ((insB_perm le x r).mem_iff.mp hz) with rfl | hz
      · exact O.tot _ _ (by simpa using q)
      · exact h1 z hz
theorem srtB_up {α : Type} {le : α → α → Bool} (O : Ord le) : ∀ l : List α, (srtB le l).Pairwise (fun a b => le a b = true)
  | [] => List.Pairwise.nil
  | y :: r => insB_up O (srtB_up O r)
theorem srtB_uniq {α : Type} {le : α → α → Bool} (O : Ord le) {l m : List α} (h1 : m.Perm l) (h2 : m.Pairwise (fun a b => le a b = true)) : m = srtB le l :=
  List.Perm.eq_of_pairwise (fun a b _ _ => O.anti a b) h2 (srtB_up O l) (h1.trans (srtB_perm le l).symm)
theorem ord_I : Ord leI := ⟨fun x y h => by simp only [leI, decide_eq_false_iff_not, decide_eq_true_eq] at *; omega, fun x y z h1 h2 => by simp only [leI, decide_eq_true_eq] at *; omega, fun x y h1 h2 => by simp only [leI, decide_eq_true_eq] at *; omega⟩
theorem leP_iff {p q : Int × Int} : leP p q = true ↔ ¬ (q.1 < p.1 ∨ (q.1 = p.1 ∧ q.2 < p.2)) := by
  unfold leP
  rw [Bool.not_eq_true', SrtO.lexB_no]
theorem ord_P : Ord leP := by
  refine ⟨fun x y h => ?_, fun x y z h1 h2 => ?_, fun x y h1 h2 => ?_⟩
  · have h : ¬ leP x y = true := by rw [h]; decide
    rw [leP_iff] at h ⊢
    omega
  · rw [leP_iff] at h1 h2 ⊢
    omega
  · rw [leP_iff] at h1 h2
    obtain ⟨a, b⟩ := x
    obtain ⟨c, d⟩ := y
    simp only at h1 h2
    have e1 : a = c := by omega
    have e2 : b = d := by omega
    rw [e1, e2]
def rdPair (h : Heap) : Value → Int × Int
  | .ref t => match h.get? t with
    | some ⟨_, _, .seq xs _, _⟩ => match xs.toList with
      | [.int i _, .int j _] => (i, j)
      | _ => (0, 0)
    | _ => (0, 0)
  | _ => (0, 0)
def rSortP (K : PySem.W.Frag) : List V → Hp → VK → Prop := fun vs H Q => ∃ (a : Addr) (xs : List V) (ps : List (Int × Int)), vs = [V.ref a] ∧ SqL K H a xs ∧ xs.length = ps.length ∧ (∀ z ∈ xs.zip ps, ∃ t, z.1 = V.ref t ∧ SqT K H t [.int z.2.1, .int z.2.2]) ∧
  ∀ (ys : List V) (k : V → Int × Int) (p : Addr), (∀ z ∈ xs.zip ps, k z.1 = z.2) → ys.Perm xs → ys.Pairwise (fun x y => leP (k x) (k y) = true) → H p = none → Q (.ref p) (upd H p (.lst ys))
theorem zip_left {α β : Type} : ∀ {xs : List α} {ps : List β}, xs.length = ps.length → ∀ x ∈ xs, ∃ q, (x, q) ∈ xs.zip ps
  | [], _, _, _, h => by cases h
  | y :: xs, [], e, _, _ => by cases e
  | y :: xs, q :: ps, e, x, h => by
    rcases List.mem_cons.mp h with rfl | h
    · exact ⟨q, List.mem_cons_self⟩
    · obtain ⟨r, hr⟩ := zip_left (by simpa using e) x h
      exact ⟨r, List.mem_cons_of_mem _ hr⟩
theorem cr_sortP {X : Cx} : CallR X (.builtin "sorted") (rSortP X.K) := by
  intro pins s σ H vs us Q I r h
  obtain ⟨a, xs, ps, rfl, hs, hl, hx, q⟩ := h
  obtain ⟨its, rv, hi, hz⟩ := I.list hs
  obtain ⟨u, rfl, ru⟩ := vals1 r
  obtain rfl : u = Value.ref a := ru
  have isP : ∀ z ∈ xs.zip ps, ∃ t, z.1 = V.ref t ∧ Srt.IsPair s.heap (.ref t) z.2.1 z.2.2 ∧ rdPair s.heap (.ref t) = z.2 := fun z m => by
    obtain ⟨t, e, ht⟩ := hx z m
    obtain ⟨its2, r2, ⟨⟨c0, d0, x0, s0⟩, ho, hc, n, hd⟩, _⟩ := I.tuple ht
    simp only at hc hd
    subst hc hd
    obtain ⟨u1, u2, rfl, ri, rj⟩ := vals2 r2
    obtain ⟨t1, rfl⟩ := ri
    obtain ⟨t2, rfl⟩ := rj
    refine ⟨t, e, ⟨t, _, t1, t2, n, rfl, ho, rfl, rfl⟩, ?_⟩
    unfold rdPair
    simp only [ho]
  obtain ⟨e1, e2⟩ := refs_back rv fun x m => by
    obtain ⟨p, hp⟩ := zip_left hl x m
    obtain ⟨t, e, _⟩ := isP _ hp
    exact ⟨t, e⟩
  refine SrtO.sorted_pairsO (k := rdPair s.heap) hi.isList (by rw [← rv.length]; exact hz) (fun v hv => ?_) fun h' d out h1 h2 kp hd hn => ?_
  · obtain ⟨t, rfl⟩ := e2 v hv
    have hm : V.ref t ∈ xs := by rw [e1]; exact List.mem_map.mpr ⟨_, hv, rfl⟩
    obtain ⟨p, hp⟩ := zip_left hl _ hm
    obtain ⟨t', e, i1, i2⟩ := isP _ hp
    cases e
    rw [i2]
    exact i1
  · have h3 : ∀ u ∈ out, ∃ a, u = Value.ref a := fun u hu => e2 u (h2.perm.mem_iff.mp hu)
    obtain ⟨n, hn⟩ := hn
    have pm : (out.map backV).Perm xs := by
      rw [e1]
      exact h2.perm.map backV
    refine ⟨.ref d, upd H d (.lst (out.map backV)), I.laid (t' := s.toks) kp hd ⟨?_, out, n, vals_back h3, hn⟩, rfl, q _ (fun x => match x with
      | .ref t => rdPair s.heap (.ref t)
      | _ => (0, 0)) d (fun z m => ?_) pm ?_ (I.hok.fresh hd)⟩
    · rw [pm.length_eq]
      exact hz
    · obtain ⟨t, e, _, i2⟩ := isP z m
      rw [e]
      exact i2
    · rw [List.pairwise_map]
      refine List.Pairwise.imp_of_mem (fun {x y} mx my hxy => ?_) h1
      obtain ⟨tx, rfl⟩ := h3 x mx
      obtain ⟨ty, rfl⟩ := h3 y my
      have hxy : SrtO.lexB (rdPair s.heap (.ref ty)) (rdPair s.heap (.ref tx)) = false := hxy
      show (!SrtO.lexB (rdPair s.heap (.ref ty)) (rdPair s.heap (.ref tx))) = true
      rw [hxy]
      rfl
section
variable {X : Cx} {fa : Fa} {W : WX} {c : Cf} {e : Expr} {a : IE} {p p2 q2 pos : Pos}
theorem VRs.ints' {K : PySem.W.Frag} {F : Addr → Prop} {H : Hp} : ∀ {vs : List V} {xs : List P} {ns : List Int}, VRs K fa F H vs xs → allInt xs = some ns → vs = ns.map V.int
  | _, _, _, .nil, e => by
    cases e
    rfl
  | _, _, _, .cons (x := x) (xs := xs) r b, e => by
    cases r with
    | int c =>
      have e' : (allInt xs).map (c :: ·) = some _ := e
      cases q : allInt xs with
      | none =>
        rw [q] at e'
        cases e'
      | some bs =>
        rw [q] at e'
        cases e'
        rw [b.ints' q] <;> rfl
    | _ => cases e
theorem VRs.ofInts {K : PySem.W.Frag} {F : Addr → Prop} {H : Hp} : ∀ zs : List Int, VRs K fa F H (zs.map V.int) (zs.map P.int)
  | [] => .nil
  | z :: zs => .cons (.int z) (VRs.ofInts zs)
theorem allPair_eq : ∀ {xs : List P} {ps : List (Int × Int)}, allPair xs = some ps → xs = ps.map pairP
  | [], _, e => by
    cases e
    rfl
  | x :: xs, ps, e => by
    unfold allPair at e
    split at e
    · rename_i h1
      cases h1
    · rename_i a b ys h1
      cases h1
      cases q : allPair xs with
      | none =>
        rw [q] at e
        cases e
      | some qs =>
        rw [q] at e
        cases e
        rw [allPair_eq q]
        rfl
    · cases e
theorem VRs.len {K : PySem.W.Frag} {F : Addr → Prop} {H : Hp} : ∀ {vs : List V} {xs : List P}, VRs K fa F H vs xs → vs.length = xs.length
  | _, _, .nil => rfl
  | _, _, .cons _ b => by rw [List.length_cons, List.length_cons, b.len]
theorem VRs.zip {K : PySem.W.Frag} {F : Addr → Prop} {H : Hp} : ∀ {vs : List V} {ps : List (Int × Int)}, VRs K fa F H vs (ps.map pairP) → ∀ z ∈ vs.zip ps, VR K fa F H z.1 (pairP z.2)
  | _, [], .nil, z, h => by cases h
  | _, q :: ps, .cons r b, z, h => by
    rcases List.mem_cons.mp h with rfl | h
    · exact r
    · exact b.zip z h
theorem VRs.back {K : PySem.W.Frag} {F : Addr → Prop} {H : Hp} {vs : List V} {ps : List (Int × Int)} {k : V → Int × Int} (h : ∀ z ∈ vs.zip ps, VR K fa F H z.1 (pairP z.2)) (hk : ∀ z ∈ vs.zip ps, k z.1 = z.2) (hl : vs.length = ps.length) : ∀ {ys : List V}, (∀ y ∈ ys, y ∈ vs) → VRs K fa F H ys ((ys.map k).map pairP)
  | [], _ => .nil
  | y :: ys, hy => by
    obtain ⟨q, hq⟩ := zip_left hl y (hy y List.mem_cons_self)
    refine .cons ?_ (VRs.back h hk hl fun z hz => hy z (List.mem_cons_of_mem _ hz))
    rw [hk _ hq]
    exact h _ hq
theorem zip_map {vs : List V} {ps : List (Int × Int)} {k : V → Int × Int} : vs.length = ps.length → (∀ z ∈ vs.zip ps, k z.1 = z.2) → vs.map k = ps := by
  induction vs generalizing ps with
  | nil =>
    intro hl _
    cases ps with
    | nil => rfl
    | cons a b => cases hl
  | cons v vs ih =>
    intro hl hk
    cases ps with
    | nil => cases hl
    | cons q ps =>
      rw [List.map_cons, hk (v, q) List.mem_cons_self, ih (by simpa using hl) fun z hz => hk z (List.mem_cons_of_mem _ hz)]
theorem c_sort0 (hc : X.calm = true) (hg : Gl X "sorted") (hm : X.mg "sorted" = none) (hg2 : Gl X "set") (hm2 : X.mg "set" = none) (ha : PE X e (tEv X.K fa W c a)) (hst : starEach [e] X.env = (false, eval e X.env) :: starEach [] X.env) :
    PE X (.Call (.Name "sorted" p) [.Call (.Name "set" p2) [e] [] q2] [] pos) (tEv X.K fa W c (.sort 0 a)) := by
  refine pe_of (pe_callB (id := "sorted") (SX.cr_sortSet hc) hg hm (by decide +kernel) (pa_cons (pe_callTy (T := "set") (SX.cr_setS hc) hg2 hm2 (by decide +kernel) (pa_cons ha pa_nil hst) (by decide +kernel) (by decide +kernel) hst rfl) pa_nil rfl) (by decide +kernel) (by decide +kernel) rfl rfl) fun σ H Q ⟨F, ρ, env, st, w, er, pq⟩ => ?_
  refine ev1 (f := ev c a) (g := fun d st => match d.rd st with | some x => mkD (opSort 0 x) st | none => .bad) anti_D w er pq fun v H1 F1 ρ1 d st1 e1 w1 er1 r1 p1 => ?_
  cases q : d.rd st1 with
  | none =>
    simp only [q] at p1
    exact p1.elim
  | some x =>
    simp only [q] at p1
    have r := r1.rd w1 q
    cases x with
    | lst xs =>
      obtain ⟨ad, vs, rfl, h1, h2⟩ := r
      have p1 : PostD X.K fa W F1 ρ1 H1 σ (mkD (sortS (allStr xs)) st1) Q := p1
      cases hs : allStr xs with
      | none =>
        rw [hs] at p1
        exact p1.elim
      | some zs =>
        rw [hs] at p1
        have e2 := h2.strs hs
        subst e2
        have p1 : PostD X.K fa W F1 ρ1 H1 σ (mkD (if (decide (zs.length ≤ 4000) && decide ((SX.metS zs).length < 64)) = true then some (.lst ((SX.srtS zs).map .str)) else none) st1) Q := p1
        by_cases hb : (decide (zs.length ≤ 4000) && decide ((SX.metS zs).length < 64)) = true
        · rw [if_pos hb] at p1
          obtain ⟨b1, b2⟩ := Bool.and_eq_true_iff.mp hb
          refine ⟨ad, zs, rfl, SqL.of h1, of_decide_eq_true b1, fun pp hp => ⟨pp, SX.metS zs, rfl, upd_same, of_decide_eq_true b2, fun p3 hp3 => ?_⟩⟩
          rw [SX.srt_met]
          exact pNew (p1.rebase anti_D (ext_new hp)) (w1.new hp) (VRs.ofStrs _) p3 hp3
        · rw [if_neg hb] at p1
          exact p1.elim
    | _ => exact p1.elim
theorem c_sortN {k : Nat} (hc : X.calm = true) (hg : Gl X "sorted") (hm : X.mg "sorted" = none) (ha : PE X e (tEv X.K fa W c a)) (hst : starEach [e] X.env = (false, eval e X.env) :: starEach [] X.env) (hk : k ≠ 0) (hk2 : k ≤ 2) :
    PE X (.Call (.Name "sorted" p) [e] [] pos) (tEv X.K fa W c (.sort k a)) := by
  by_cases h1 : k = 1
  · subst h1
    refine pe_of (pe_callB (id := "sorted") cr_sortedI hg hm (by decide +kernel) (pa_cons ha pa_nil hst) (by decide +kernel) (by decide +kernel) hst rfl) fun σ H Q ⟨F, ρ, env, st, w, er, pq⟩ => ?_
    refine ev1 (f := ev c a) (g := fun d st => match d.rd st with | some x => mkD (opSort 1 x) st | none => .bad) anti_D w er pq fun v H1 F1 ρ1 d st1 e1 w1 er1 r1 p1 => ?_
    cases q : d.rd st1 with
    | none =>
      simp only [q] at p1
      exact p1.elim
    | some x =>
      simp only [q] at p1
      have r := r1.rd w1 q
      cases x with
      | lst xs =>
        obtain ⟨ad, vs, rfl, g1, g2⟩ := r
        have p1 : PostD X.K fa W F1 ρ1 H1 σ (mkD ((allInt xs).map fun ns => .lst ((srtB leI ns).map .int)) st1) Q := p1
        cases hs : allInt xs with
        | none =>
          rw [hs] at p1
          exact p1.elim
        | some ns =>
          rw [hs] at p1
          have e2 := g2.ints' hs
          subst e2
          refine ⟨ad, ns, rfl, SqL.of g1, fun ns' pp pm up hp => ?_⟩
          have e3 : ns' = srtB leI ns := srtB_uniq ord_I pm (up.imp fun h => decide_eq_true h)
          rw [e3]
          exact pNew p1 w1 (VRs.ofInts _) pp hp
      | _ => exact p1.elim
  · by_cases h2 : k = 2
    · subst h2
      refine pe_of (pe_callB (id := "sorted") cr_sortP hg hm (by decide +kernel) (pa_cons ha pa_nil hst) (by decide +kernel) (by decide +kernel) hst rfl) fun σ H Q ⟨F, ρ, env, st, w, er, pq⟩ => ?_
      refine ev1 (f := ev c a) (g := fun d st => match d.rd st with | some x => mkD (opSort 2 x) st | none => .bad) anti_D w er pq fun v H1 F1 ρ1 d st1 e1 w1 er1 r1 p1 => ?_
      cases q : d.rd st1 with
      | none =>
        simp only [q] at p1
        exact p1.elim
      | some x =>
        simp only [q] at p1
        have r := r1.rd w1 q
        cases x with
        | lst xs =>
          obtain ⟨ad, vs, rfl, g1, g2⟩ := r
          have pp2 : PostD X.K fa W F1 ρ1 H1 σ (mkD ((allPair xs).map fun ps => .lst ((srtB leP ps).map pairP)) st1) Q := p1
          clear p1
          cases hs : allPair xs with
          | none =>
            rw [hs] at pp2
            exact pp2.elim
          | some ps =>
            rw [hs] at pp2
            have e2 := allPair_eq hs
            subst e2
            have hl : vs.length = ps.length := by rw [g2.len, List.length_map]
            have hz := g2.zip
            refine ⟨ad, vs, ps, rfl, SqL.of g1, hl, fun z m => ?_, fun ys kk pp hkk pm up hp => ?_⟩
            · obtain ⟨t, ws, e, ht, hw⟩ := (VR.r (hz z m)).tup
              cases hw with
              | cons a1 b1 =>
                cases b1 with
                | cons a2 b2 =>
                  cases b2
                  cases a1
                  cases a2
                  exact ⟨t, e, SqT_of ht⟩
            · have e3 : ys.map kk = srtB leP ps := srtB_uniq ord_P (by rw [← zip_map hl hkk]; exact pm.map kk) (List.pairwise_map.mpr up)
              have g3 := VRs.back hz hkk hl (ys := ys) fun y hy => pm.mem_iff.mp hy
              rw [e3] at g3
              exact pNew pp2 w1 g3 pp hp
        | _ => exact p1.elim
    · omega
end
end DE
end

section
set_option Elab.async false
set_option linter.all false
set_option maxRecDepth 100000
set_option autoImplicit false
namespace DE
open PySem PySem.Spec L2
section
variable {K : PySem.W.Frag} {fa : Fa} {F F' : Addr → Prop} {ρ ρ' : List Addr} {H H' H0 : Hp} {st : Store} {d : Addr}
mutual
theorem keyV_of : ∀ {v : V} {x : P} {k : NestedKey}, VR K fa F H v x → P.nk x = some k → DK.KeyV K H k v
  | _, _, k, .int i, e => by
    rw [P.nk] at e
    cases e
    exact .num i
  | _, _, k, .tup (xs := xs) h r, e => by
    rw [P.nk] at e
    cases q : P.nks xs with
    | none =>
      rw [q] at e
      cases e
    | some ks =>
      rw [q] at e
      cases e
      exact .tup (SqT_of h) (keyVs_of r q)
  | _, _, k, .non, e => by simp [P.nk] at e
  | _, _, k, .bl b, e => by simp [P.nk] at e
  | _, _, k, .str b, e => by simp [P.nk] at e
  | _, _, k, .fn b, e => by simp [P.nk] at e
  | _, _, k, .scr b, e => by simp [P.nk] at e
  | _, _, k, .exo _ _ _, e => by simp [P.nk] at e
  | _, _, k, .exf _ _ _ _ _, e => by simp [P.nk] at e
  | _, _, k, .lst f h r, e => by simp [P.nk] at e
theorem keyVs_of : ∀ {vs : List V} {xs : List P} {ks : List NestedKey}, VRs K fa F H vs xs → P.nks xs = some ks → DK.KeyVs K H ks vs
  | _, _, ks, .nil, e => by
    rw [P.nks] at e
    cases e
    exact .nil
  | _, _, ks, .cons (x := x) (xs := xs) a b, e => by
    rw [P.nks] at e
    cases q1 : P.nk x with
    | none =>
      rw [q1] at e
      cases e
    | some k =>
      cases q2 : P.nks xs with
      | none =>
        rw [q1, q2] at e
        cases e
      | some ks =>
        rw [q1, q2] at e
        cases e
        exact .cons (keyV_of a q1) (keyVs_of b q2)
end
theorem key_of {v : V} {x : P} {k : NestedKey} (r : VR K fa F H v x) (h : x.ky = some k) : ∃ a, v = .ref a ∧ DK.KeyV K H k (.ref a) ∧ k.depth ≤ 8 := by
  cases x with
  | tup xs =>
    have h : (P.nks xs).bind (fun ks => keyOk (.tup ks)) = some k := h
    cases q : P.nks xs with
    | none =>
      rw [q] at h
      cases h
    | some ks =>
      rw [q] at h
      have h : (if decide ((NestedKey.tup ks).depth ≤ 8) then some (NestedKey.tup ks) else none) = some k := h
      by_cases hd : (NestedKey.tup ks).depth ≤ 8
      · rw [if_pos (decide_eq_true hd)] at h
        cases h
        have kk := keyV_of r (k := .tup ks) (by rw [P.nk, q]; rfl)
        obtain ⟨a, ws, rfl, ha, hr⟩ := VRr.tup (VR.r r)
        exact ⟨a, rfl, kk, hd⟩
      · rw [if_neg (by simpa using hd)] at h
        cases h
  | _ => cases h
theorem drel_keys : ∀ {kvs : List (P × P)} {xs : List DK.Ent}, DRel K fa F H kvs xs → ∀ e ∈ xs, DK.KeyV K H e.1 (.ref e.2.1) ∧ e.1.depth ≤ 8
  | [], [], _ => fun e he => nomatch he
  | q :: kvs, e :: xs, h => fun y hy => by
    rcases List.mem_cons.mp hy with rfl | hy
    · obtain ⟨a, e1, k1, k2⟩ := key_of h.2.1 h.1
      cases e1
      exact ⟨k1, k2⟩
    · exact drel_keys h.2.2.2 y hy
  | [], _ :: _, h => h.elim
  | _ :: _, [], h => h.elim
theorem drel_len : ∀ {kvs : List (P × P)} {xs : List DK.Ent}, DRel K fa F H kvs xs → kvs.length = xs.length
  | [], [], _ => rfl
  | q :: kvs, e :: xs, h => by rw [List.length_cons, List.length_cons, drel_len h.2.2.2]
  | [], _ :: _, h => h.elim
  | _ :: _, [], h => h.elim
theorem drel_find (k : NestedKey) : ∀ {kvs : List (P × P)} {xs : List DK.Ent}, DRel K fa F H kvs xs → (findP kvs k = none ∧ DK.findK xs k = none) ∨ ∃ p v, findP kvs k = some p ∧ DK.findK xs k = some v ∧ VR K fa F H v p
  | [], [], _ => .inl ⟨rfl, rfl⟩
  | q :: kvs, e :: xs, h => by
    by_cases hk : e.1 = k
    · right
      refine ⟨q.2, e.2.2, ?_, ?_, h.2.2.1⟩
      · simp [findP, h.1, hk]
      · simp [DK.findK, hk]
    · have q1 : findP (q :: kvs) k = findP kvs k := by simp [findP, h.1, hk]
      have q2 : DK.findK (e :: xs) k = DK.findK xs k := by simp [DK.findK, hk]
      rw [q1, q2]
      exact drel_find k h.2.2.2
  | [], _ :: _, h => h.elim
  | _ :: _, [], h => h.elim
theorem drel_map {k : NestedKey} {u : P} {w : V} (hv : VR K fa F H w u) : ∀ {kvs : List (P × P)} {xs : List DK.Ent}, DRel K fa F H kvs xs → DRel K fa F H (kvs.map fun x => if x.1.ky = some k then (x.1, u) else x) (xs.map fun x => if x.1 = k then (x.1, x.2.1, w) else x)
  | [], [], _ => True.intro
  | q :: kvs, e :: xs, h => by
    rw [List.map_cons, List.map_cons]
    by_cases hk : e.1 = k
    · rw [if_pos hk, if_pos (by rw [h.1, hk])]
      exact ⟨h.1, h.2.1, hv, drel_map hv h.2.2.2⟩
    · rw [if_neg hk, if_neg (by rw [h.1]; exact fun z => hk (Option.some.inj z))]
      exact ⟨h.1, h.2.1, h.2.2.1, drel_map hv h.2.2.2⟩
  | [], _ :: _, h => h.elim
  | _ :: _, [], h => h.elim
theorem drel_snoc {q : P × P} {e : DK.Ent} (he : q.1.ky = some e.1 ∧ VR K fa F H (.ref e.2.1) q.1 ∧ VR K fa F H e.2.2 q.2) : ∀ {kvs : List (P × P)} {xs : List DK.Ent}, DRel K fa F H kvs xs → DRel K fa F H (kvs ++ [q]) (xs ++ [e])
  | [], [], _ => ⟨he.1, he.2.1, he.2.2, True.intro⟩
  | _ :: _, _ :: _, h => ⟨h.1, h.2.1, h.2.2.1, drel_snoc he h.2.2.2⟩
  | [], _ :: _, h => h.elim
  | _ :: _, [], h => h.elim
theorem find_isSome {α β : Type} {l : List α} {p : α → Bool} {f : α → β} : ((l.find? p).map f).isSome = (l.find? p).isSome := by cases l.find? p <;> rfl
theorem drel_put {kvs : List (P × P)} {xs : List DK.Ent} {k : NestedKey} {kp u : P} {w : V} {b : Addr} (h : DRel K fa F H kvs xs) (hk : kp.ky = some k) (hb : VR K fa F H (.ref b) kp) (hv : VR K fa F H w u) : DRel K fa F H (putP kvs kp k u) (DK.putE xs k b w) := by
  have e1 : (kvs.find? fun x => decide (x.1.ky = some k)).isSome = (xs.find? fun x => decide (x.1 = k)).isSome := by
    rcases drel_find k h with ⟨h1, h2⟩ | ⟨p, v, h1, h2, _⟩
    · have g1 := find_isSome (l := kvs) (p := fun x => decide (x.1.ky = some k)) (f := (·.2))
      have g2 := find_isSome (l := xs) (p := fun x => decide (x.1 = k)) (f := fun x => x.2.2)
      rw [← g1, ← g2]
      show (findP kvs k).isSome = (DK.findK xs k).isSome
      rw [h1, h2]
      rfl
    · have g1 := find_isSome (l := kvs) (p := fun x => decide (x.1.ky = some k)) (f := (·.2))
      have g2 := find_isSome (l := xs) (p := fun x => decide (x.1 = k)) (f := fun x => x.2.2)
      rw [← g1, ← g2]
      show (findP kvs k).isSome = (DK.findK xs k).isSome
      rw [h1, h2]
      rfl
  unfold putP DK.putE
  rw [e1]
  split
  · exact drel_map hv h
  · exact drel_snoc ⟨hk, hb, hv⟩ h
theorem putE_nd {xs : List DK.Ent} {k : NestedKey} {b : Addr} {w : V} (h : (xs.map (·.1)).Nodup) : ((DK.putE xs k b w).map (·.1)).Nodup := by
  unfold DK.putE
  split
  · rw [List.map_map]
    have e : ((·.1) ∘ fun x : DK.Ent => if x.1 = k then (x.1, x.2.1, w) else x) = (·.1) := by
      funext x
      show (if x.1 = k then (x.1, x.2.1, w) else x).1 = x.1
      split <;> rfl
    rw [e]
    exact h
  · rename_i hn
    rw [List.map_append, List.nodup_append]
    refine ⟨h, by simp, fun y hy z hz => ?_⟩
    have : z = k := by simpa using hz
    rw [this]
    intro e
    obtain ⟨x, hx, rfl⟩ := List.mem_map.mp hy
    apply hn
    rw [List.find?_isSome]
    exact ⟨x, hx, by simpa using e⟩
theorem putE_len {xs : List DK.Ent} {k : NestedKey} {b : Addr} {w : V} : (DK.putE xs k b w).length ≤ xs.length + 1 := by
  unfold DK.putE
  split
  · rw [List.length_map]
    omega
  · rw [List.length_append]
    exact Nat.le_refl _
theorem SB.dic {a : Addr} {kvs : List (P × P)} (h : SB K fa F H a (.dic kvs)) : ∃ xs, DK.DicOk K H a xs ∧ DRel K fa F H kvs xs ∧ xs.length ≤ 50000 := by
  obtain ⟨xs, h1, h2, h3, h4, h5⟩ := h
  exact ⟨xs, ⟨h1, h2, by omega, h4, drel_keys h5⟩, h5, h3⟩
theorem ext_updX {F0 : Addr → Prop} {ρ0 : List Addr} (e : Ext F0 ρ0 H0 F ρ H) (hD : nt H0 d = none) {o : HO} (ht : ∀ ps, o ≠ .tbl ps) : Ext F0 ρ0 H0 F ρ (upd H d o) :=
  ⟨e.sub, e.new, e.pre, fun a q h hn hq => by
    have hne : a ≠ d := fun z => nt_abs hD (z ▸ h) hq
    rw [upd_ne hne]
    exact e.keep a q h hn hq, fun a h => e.there a (nt_upd ht h)⟩
theorem Wok.updX (w : Wok K fa F ρ H st) (hf : ¬ F d) (hr : d ∉ ρ) (hu : ∃ u, H d = some u ∧ (∀ ps, u ≠ .tbl ps) ∧ ∀ c q, u ≠ LamX.CodeO c q) {o : HO} (ht : ∀ ps, o ≠ .tbl ps) : Wok K fa F ρ (upd H d o) st := by
  have ne : ∀ a, F a → a ≠ d := fun a f (z : a = d) => hf (z ▸ f)
  refine ⟨w.len, w.nd, fun n a q h1 h2 => ?_, w.dis, fun a f q => w.has a f (nt_upd ht q), tabs_updO w.tab hu⟩
  exact (w.box n a q h1 h2).mono2 (fun _ h => h) (fun a q f h _ => by rw [upd_ne (ne a f)]; exact h) (upd_ne (fun (z : a = d) => hr (z ▸ List.mem_of_getElem? h1)))
theorem ext_box {F0 : Addr → Prop} {ρ0 : List Addr} (e : Ext F0 ρ0 H0 F ρ H) (hD : nt H0 d = none) : Ext F0 ρ0 H0 F (ρ ++ [d]) H := by
  obtain ⟨l, q1, q2⟩ := e.pre
  refine ⟨e.sub, e.new, ⟨l ++ [d], by rw [q1, List.append_assoc], fun b hb => ?_⟩, e.keep, e.there⟩
  rcases List.mem_append.mp hb with hb | hb
  · exact q2 b hb
  · rw [List.mem_singleton.mp hb]
    exact hD
theorem Wok.boxed (w : Wok K fa F ρ H st) (hf : ¬ F d) (hr : d ∉ ρ) {so : SO} (hs : SB K fa F H d so) : Wok K fa F (ρ ++ [d]) H (st ++ [so]) := by
  refine ⟨?_, ?_, ?_, ?_, w.has, w.tab⟩
  · rw [List.length_append, List.length_append, w.len]
    rfl
  · rw [List.nodup_append]
    exact ⟨w.nd, by simp, fun b hb c hc => by
      have : c = d := by simpa using hc
      rw [this]
      exact fun z => hr (z ▸ hb)⟩
  · intro n b o q1 q2
    by_cases hn : n < ρ.length
    · rw [List.getElem?_append_left hn] at q1
      rw [List.getElem?_append_left (by rw [← w.len]; exact hn)] at q2
      exact w.box n b o q1 q2
    · have hn' : n = ρ.length := by
        have := (List.getElem?_eq_some_iff.mp q1).1
        rw [List.length_append] at this
        simp at this
        omega
      subst hn'
      rw [List.getElem?_append_right (Nat.le_refl _)] at q1
      rw [w.len, List.getElem?_append_right (Nat.le_refl _)] at q2
      simp at q1 q2
      subst q1 q2
      exact hs
  · intro b hb f
    rcases List.mem_append.mp hb with hb | hb
    · exact w.dis b hb f
    · rw [List.mem_singleton.mp hb] at f
      exact hf f
theorem at_end {w : Wok K fa F ρ H st} : (ρ ++ [d])[st.length]? = some d := by
  rw [← w.len, List.getElem?_append_right (Nat.le_refl _)]
  simp
theorem dic_nt {a : Addr} {xs : List DK.Ent} : ∀ ps, DK.DicO a xs ≠ .tbl ps := fun _ z => nomatch z
theorem dic_ob {a b : Addr} {xs : List DK.Ent} (h : H b = some (DK.DicO a xs)) : ∃ u, H b = some u ∧ (∀ ps, u ≠ .tbl ps) ∧ ∀ c q, u ≠ LamX.CodeO c q := ⟨_, h, dic_nt, fun c q => DK.dic_code a c xs q⟩
end
section
variable {X : Cx} {fa : Fa} {W : WX} {c : Cf}
theorem c_dnew {pos : Pos} : PE X (.Dict [] [] pos) (tEv X.K fa W c .dnew) := pe_of DK.pe_dicNew fun σ H Q ⟨F, ρ, env, st, w, er, q⟩ d hd hs => by
  have q : PostD X.K fa W F ρ H σ (.ok (.box st.length) (st ++ [.dic []])) Q := q
  have w1 : Wok X.K fa F ρ (upd H d (DK.DicO d [])) st := w.new hd dic_nt
  have hf : ¬ F d := fun z => w.has d z (nt_of hd)
  have hr : d ∉ ρ := w.free (nt_of hd)
  exact q (.ref d) F (ρ ++ [d]) _ (ext_box (ext_new hd dic_nt) (nt_of hd)) (w1.boxed hf hr ⟨[], upd_same, hs, Nat.zero_le _, List.nodup_nil, True.intro⟩) ⟨d, rfl, at_end (w := w)⟩
theorem dicAt_some {st : Store} {env : Env} {i : Nat} {kvs : List (P × P)} (h : dicAt st env i = some kvs) : ∃ n, env[i]? = some (.val (.box n)) ∧ st[n]? = some (.dic kvs) := by
  unfold dicAt at h
  split at h
  · rename_i n hn
    split at h
    · rename_i kvs' hk
      cases h
      exact ⟨n, hn, hk⟩
    · cases h
  · cases h
theorem D.ky_some {x : D} {k : NestedKey} (h : x.ky = some k) : ∃ p, x = .p p ∧ p.ky = some k := by
  cases x with
  | p x => exact ⟨x, rfl, h⟩
  | _ => cases h
theorem hasD_of {neg : Bool} {kvs : Option (List (P × P))} {k : Option NestedKey} {st : Store} {F : Addr → Prop} {ρ : List Addr} {H : Hp} {σ : L2.St} {Q : VK} (h : PostD X.K fa W F ρ H σ (hasD neg kvs k st) Q) :
    ∃ l kk, kvs = some l ∧ k = some kk ∧ PostD X.K fa W F ρ H σ (.ok (.p (.bl (if neg then !(findP l kk).isSome else (findP l kk).isSome))) st) Q := by
  cases kvs with
  | none => exact h.elim
  | some l =>
    cases k with
    | none => exact h.elim
    | some kk => exact ⟨l, kk, rfl, rfl, h⟩
theorem getD_of {kvs : Option (List (P × P))} {k : Option NestedKey} {st : Store} {F : Addr → Prop} {ρ : List Addr} {H : Hp} {σ : L2.St} {Q : VK} (h : PostD X.K fa W F ρ H σ (getD kvs k st) Q) :
    ∃ l kk v, kvs = some l ∧ k = some kk ∧ findP l kk = some v ∧ PostD X.K fa W F ρ H σ (.ok (.p v) st) Q := by
  cases kvs with
  | none => exact h.elim
  | some l =>
    cases k with
    | none => exact h.elim
    | some kk =>
      have h : PostD X.K fa W F ρ H σ (match findP l kk with
        | some v => .ok (.p v) st
        | none => .bad) Q := h
      cases hv : findP l kk with
      | none =>
        rw [hv] at h
        exact h.elim
      | some v =>
        rw [hv] at h
        exact ⟨l, kk, v, rfl, rfl, hv, h⟩
theorem din_op {neg : Bool} (hu : X.A.units + 64 < cLine) : OpR X (compareOp (if neg then .NotIn else .In)) (DK.rInD X.K neg) := by
  cases neg with
  | false => exact DK.or_inD (by omega)
  | true => exact DK.or_ninD (by omega)
theorem din_core {neg : Bool} {a : IE} {i : Nat} {σ : L2.St} {H : Hp} {Q : VK} (h : tEv X.K fa W c (.din neg a i) σ H Q) : tOp (DK.rInD X.K neg) (tEv X.K fa W c a) (tVar i) σ H Q := by
  obtain ⟨F, ρ, env, st, w, er, q⟩ := h
  have q : PostD X.K fa W F ρ H σ ((ev c a env st).bind fun x st => hasD neg (dicAt st env i) x.ky st) Q := q
  refine ev1 (f := ev c a) anti_D w er q fun y H1 F1 ρ1 d st1 e1 w1 er1 r1 q1 => ?_
  obtain ⟨l, kk, h1, h2, q2⟩ := hasD_of q1
  obtain ⟨n, h3, h4⟩ := dicAt_some h1
  obtain ⟨p, rfl, h5⟩ := D.ky_some h2
  obtain ⟨v, h6, b, rfl, h7⟩ := er1.val i _ h3
  refine ⟨.ref b, h6, ?_⟩
  obtain ⟨ka, rfl, k1, k2⟩ := key_of r1 h5
  obtain ⟨xs, d1, d2, _⟩ := (w1.box n b _ h7 h4).dic
  refine ⟨kk, ka, b, xs, rfl, rfl, k1, k2, d1, ?_⟩
  have e : (DK.findK xs kk).isSome = (findP l kk).isSome := by
    rcases drel_find kk d2 with ⟨g1, g2⟩ | ⟨p, v, g1, g2, _⟩
    · rw [g1, g2]
      rfl
    · rw [g1, g2]
      rfl
  rw [e]
  exact pP q2 w1 (.bl _)
theorem c_din {neg : Bool} {a : IE} {i : Nat} {x : Str} {e : Expr} {p1 pos : Pos} (hu : X.A.units + 64 < cLine) (hN : X.N[i]? = some x) (hv : Vis X.env.scope x) (hd : (x == ("__debug__" : Str)) = false) (hcd : (x == ("__classdict__" : Str)) = false) (ha : PE X e (tEv X.K fa W c a)) :
    PE X (.Compare e [if neg then .NotIn else .In] [.Name x p1] pos) (tEv X.K fa W c (.din neg a i)) ∧ PT X (.Compare e [if neg then .NotIn else .In] [.Name x p1] pos) (tT X.K fa W c (.din neg a i)) :=
  ⟨pe_of (pe_cmpR (din_op hu) ha (pe_var hN hv hd hcd) (by cases neg <;> rfl)) fun σ H Q h => din_core h,
    pt_bool (f := ev c (.din neg a i)) (pt_cmpR (din_op hu) ha (pe_var hN hv hd hcd) (by cases neg <;> rfl)) (fun σ H Q h => din_core h) fun env st d st' h => by
      have h : ((ev c a env st).bind fun x st => hasD neg (dicAt st env i) x.ky st) = .ok d st' := h
      obtain ⟨x, s1, _, h⟩ := bind_ok_inv h
      unfold hasD at h
      split at h
      · cases h
        exact ⟨_, rfl⟩
      · cases h⟩
theorem c_dat {a : IE} {i : Nat} {x : Str} {e : Expr} {p1 pos : Pos} (hu : X.A.units + 64 < cLine) (hN : X.N[i]? = some x) (hv : Vis X.env.scope x) (hd : (x == ("__debug__" : Str)) = false) (hcd : (x == ("__classdict__" : Str)) = false) (hs : PlainIx e) (ha : PE X e (tEv X.K fa W c a)) :
    PE X (.Subscript (.Name x p1) e pos) (tEv X.K fa W c (.dat i a)) := by
  refine pe_of (pe_ix (DK.ix_dic (by omega)) (pe_var hN hv hd hcd) ha hs) fun σ H Q ⟨F, ρ, env, st, w, er, q⟩ => ?_
  have q : PostD X.K fa W F ρ H σ (match env[i]? with
    | some (.val (.box n)) => (ev c a env st).bind fun x st => getD (dicAt st env i) x.ky st
    | _ => .bad) Q := q
  split at q
  · rename_i n hn
    obtain ⟨v, h6, b, rfl, h7⟩ := er.val i _ hn
    refine ⟨.ref b, h6, ?_⟩
    refine ev1 (f := ev c a) anti_D w er q fun y H1 F1 ρ1 d st1 e1 w1 er1 r1 q1 => ?_
    obtain ⟨l, kk, v, h1, h2, h8, q2⟩ := getD_of q1
    obtain ⟨n', h3, h4⟩ := dicAt_some h1
    rw [hn] at h3
    cases h3
    obtain ⟨p, rfl, h5⟩ := D.ky_some h2
    obtain ⟨ka, rfl, k1, k2⟩ := key_of r1 h5
    obtain ⟨xs, d1, d2, _⟩ := (w1.box n b _ (e1.at h7) h4).dic
    rcases drel_find kk d2 with ⟨g1, g2⟩ | ⟨p', v', g1, g2, g3⟩
    · rw [g1] at h8
      cases h8
    · rw [g1] at h8
      cases h8
      exact ⟨kk, ka, b, xs, v', rfl, rfl, k1, k2, d1, g2, pP q2 w1 g3⟩
  · exact q.elim
theorem twoD_of {a b d e : D} {st : Store} {F : Addr → Prop} {ρ : List Addr} {H : Hp} {σ : L2.St} {Q : VK} (h : PostD X.K fa W F ρ H σ (twoD a b d e st) Q) :
    ∃ pa pb pd pe k l, a = .p pa ∧ b = .p pb ∧ d = .p pd ∧ e = .p pe ∧ pa.ky = some k ∧ pd.ky = some l ∧ k ≠ l ∧ PostD X.K fa W F ρ H σ (.ok (.box st.length) (st ++ [.dic [(pa, pb), (pd, pe)]])) Q := by
  unfold twoD at h
  split at h
  · rename_i pa pd pb pe
    split at h
    · rename_i k l h1 h2
      split at h
      · rename_i h3
        exact ⟨pa, pb, pd, pe, k, l, rfl, rfl, rfl, rfl, h1, h2, of_decide_eq_true h3, h⟩
      · exact h.elim
    · exact h.elim
  · exact h.elim
theorem c_dtwo {k1 v1 k2 v2 : IE} {e1 e2 e3 e4 : Expr} {pos : Pos} (hu : X.A.units + 64 < cLine) (h1 : PE X e1 (tEv X.K fa W c k1)) (h2 : PE X e2 (tEv X.K fa W c v1)) (h3 : PE X e3 (tEv X.K fa W c k2)) (h4 : PE X e4 (tEv X.K fa W c v2)) :
    PE X (.Dict [some e1, some e3] [e2, e4] pos) (tEv X.K fa W c (.dtwo k1 v1 k2 v2)) := by
  refine pe_of (DK.pe_dic2 (by omega) h1 h2 h3 h4) fun σ H Q ⟨F, ρ, env, st, w, er, q⟩ d hd hs => ?_
  have q : PostD X.K fa W F ρ H σ ((ev c k1 env st).bind fun a st => (ev c v1 env st).bind fun b st => (ev c k2 env st).bind fun d st => (ev c v2 env st).bind fun e st => twoD a b d e st) Q := q
  have w0 : Wok X.K fa F ρ (upd H d (DK.DicO d [])) st := w.new hd dic_nt
  have E0 : Ext F ρ H F ρ (upd H d (DK.DicO d [])) := ext_new hd dic_nt
  have hf : ¬ F d := fun z => w.has d z (nt_of hd)
  have hr : d ∉ ρ := w.free (nt_of hd)
  refine ev0 (f := ev c k1) w0 (er.mono w E0) E0 q fun x1 H1 F1 ρ1 d1 st1 E1 w1 r1 q1 => ?_
  have er1 := er.mono w (E0.trans E1)
  refine ev0 (f := ev c v1) w1 er1 (E0.trans E1) q1 fun x2 H2 F2 ρ2 d2 st2 E2 w2 r2 q2 => ?_
  refine ev0 (f := ev c k2) w2 (er1.mono w1 E2) ((E0.trans E1).trans E2) q2 fun x3 H3 F3 ρ3 d3 st3 E3 w3 r3 q3 => ?_
  refine ev0 (f := ev c v2) w3 ((er1.mono w1 E2).mono w2 E3) (((E0.trans E1).trans E2).trans E3) q3 fun x4 H4 F4 ρ4 d4 st4 E4 w4 r4 q4 => ?_
  obtain ⟨pa, pb, pd, pe, k, l, rfl, rfl, rfl, rfl, g1, g2, ne, q5⟩ := twoD_of q4
  have E14 := (E1.trans E2).trans (E3.trans E4)
  have R1 : VR X.K fa F4 H4 x1 pa := VR.mono w1.dis (E2.trans (E3.trans E4)) r1
  have R2 : VR X.K fa F4 H4 x2 pb := VR.mono w2.dis (E3.trans E4) r2
  have R3 : VR X.K fa F4 H4 x3 pd := VR.mono w3.dis E4 r3
  obtain ⟨a1, rfl, k1, k2⟩ := key_of R1 g1
  obtain ⟨a2, rfl, k3, k4⟩ := key_of R3 g2
  have hD : H4 d = some (DK.DicO d []) := E14.keep d _ upd_same hr dic_nt
  have hh : nt (upd H d (DK.DicO d [])) d ≠ none := nt_dic upd_same
  have hf4 : ¬ F4 d := E14.notF hf hh
  have hr4 : d ∉ ρ4 := E14.notin hr hh
  refine ⟨k, l, a1, a2, rfl, rfl, k1, k3, k2, k4, ne, hD, ?_⟩
  have w5 : Wok X.K fa F4 ρ4 (upd H4 d (DK.DicO d [(k, a1, x2), (l, a2, x4)])) st4 := w4.updX hf4 hr4 (dic_ob hD) dic_nt
  have kp : ∀ {v : V} {p : P}, VR X.K fa F4 H4 v p → VR X.K fa F4 (upd H4 d (DK.DicO d [(k, a1, x2), (l, a2, x4)])) v p := fun h => h.mono2 (fun _ h => h) fun a o f ho _ => by
    rw [upd_ne (fun (z : a = d) => hf4 (z ▸ f))]
    exact ho
  refine q5 (.ref d) F4 (ρ4 ++ [d]) _ (ext_box (ext_updX (E0.trans E14) (nt_of hd) dic_nt) (nt_of hd)) (w5.boxed hf4 hr4 ⟨_, upd_same, hs, (by show 2 ≤ 50000; omega), ?_, g1, kp R1, kp R2, g2, kp R3, kp r4, True.intro⟩) ⟨d, rfl, at_end (w := w4)⟩
  simp [ne]
end
end DE
end

section
set_option Elab.async false
set_option linter.all false
set_option maxRecDepth 100000
set_option autoImplicit false
namespace DE
open PySem PySem.Spec L2
section
open PyProof.Rows
variable {prog : Program} {w : World} {A : Around} {E : Value → Shared → Prop} {s : Shared}
theorem fm_congr {α β : Type} {f g : α → Option β} : ∀ {l : List α}, (∀ x ∈ l, f x = g x) → l.filterMap f = l.filterMap g
  | [], _ => rfl
  | x :: l, h => by
    rw [List.filterMap_cons, List.filterMap_cons, h x List.mem_cons_self, fm_congr fun y hy => h y (List.mem_cons_of_mem _ hy)]
theorem sliceApplied_rev {sl : Addr} {vl vu vs : Value} {n : Nat} {Q : Int × Int × Nat → Shared → Prop} (hs : s.heap.IsSliceOf sl vl vu vs) (pl : IsPart vl none) (pu : IsPart vu none) (ps : IsPart vs (some (-1)))
    (h : Q ((n : Int) - 1, -1, n) s) : wpAny (model prog w) A (Builtin.Slice.sliceApplied (.ref sl) (pure (n : Int))) Q E s := by
  obtain ⟨os, hos, hcs, hds⟩ := id hs
  have e1 : Builtin.Slice.sliceAdjust none none (-1) (n : Int) = ((n : Int) - 1, -1) := rfl
  have e2 : Builtin.Slice.slicePlaces ((n : Int) - 1) (-1) (-1) = n := by
    unfold Builtin.Slice.slicePlaces
    have h1 : ¬ ((-1 : Int) > 0) := by omega
    rw [if_neg h1]
    by_cases hn : (n : Int) - 1 > -1
    · rw [if_pos hn, show (-(-1) : Int) = 1 by decide, Int.ediv_one]
      omega
    · rw [if_neg hn]
      omega
  unfold Builtin.Slice.sliceApplied Builtin.Slice.sliceFields
  refine wpAny_bind (wpAny_bind (wpAny_field hos hds (x := vl) rfl (wpAny_bind (wpAny_field hos hds (x := vu) rfl (wpAny_bind (wpAny_field hos hds (x := vs) rfl (wpAny_pure ?_)))))))
  refine wpAny_bind (HT.slicePart_ ps ?_)
  show wpAny _ _ (if ((-1 : Int) == 0) = true then _ else _) _ _ s
  rw [if_neg (by decide)]
  refine wpAny_bind (HT.slicePart_ pl (wpAny_bind (HT.slicePart_ pu (wpAny_bind (wpAny_pure ?_)))))
  show wpAny _ _ (match Builtin.Slice.sliceAdjust none none (-1) (n : Int) with | (lo, hi) => pure (lo, (-1 : Int), Builtin.Slice.slicePlaces lo hi (-1))) _ _ s
  rw [e1]
  show wpAny _ _ (pure ((n : Int) - 1, (-1 : Int), Builtin.Slice.slicePlaces ((n : Int) - 1) (-1) (-1))) _ _ s
  rw [e2]
  exact wpAny_pure h
theorem pick_rev {α : Type} (xs : List α) (n : Nat) (hn : xs.length = n) : (List.range n).filterMap (fun (m : Nat) => xs.toArray[(((n : Int) - 1) + (m : Int) * (-1)).toNat]?) = xs.reverse := by
  have e : ∀ m, m ∈ List.range n → xs.toArray[(((n : Int) - 1) + (m : Int) * (-1)).toNat]? = xs.reverse[m]? := fun m hm => by
    have := List.mem_range.mp hm
    have e1 : (((n : Int) - 1) + (m : Int) * (-1)).toNat = n - 1 - m := by omega
    rw [e1, List.getElem?_reverse (by omega), hn]
    simp
  have e2 : (List.range n).filterMap (fun (m : Nat) => xs.toArray[(((n : Int) - 1) + (m : Int) * (-1)).toNat]?) = (List.range n).filterMap (fun m => xs.reverse[m]?) := fm_congr e
  rw [e2]
  have key : ∀ (ys : List α), (List.range ys.length).filterMap (fun m => ys[m]?) = ys := fun ys => by
    induction ys with
    | nil => rfl
    | cons y ys ih =>
      rw [List.length_cons, List.range_succ_eq_map, List.filterMap_cons]
      simp only [List.getElem?_cons_zero, List.filterMap_map]
      congr 1
  have := key xs.reverse
  rw [List.length_reverse, hn] at this
  rw [this]
theorem getItem_tuple_rev {t sl : Addr} {items : List Value} {vl vu vs : Value} {Q : Value → Shared → Prop} (ht : IsTup s.heap t items.toArray) (hs : s.heap.IsSliceOf sl vl vu vs) (pl : IsPart vl none) (pu : IsPart vu none) (ps : IsPart vs (some (-1)))
    (h : Q (.ref s.heap.objs.size) { s with heap := s.heap.push { cls := .type "tuple", data := .seq items.reverse.toArray } })
    (hsz : items.length ≤ sizeLine) : wpAny (model prog w) A (getItem (.ref t) (.ref sl)) Q E s := by
  have htake : sizeOk (.seq items.reverse.toArray) := by
    show items.reverse.toArray.size ≤ sizeLine
    rw [List.size_toArray, List.length_reverse]
    exact hsz
  obtain ⟨os, hos, hcs, hds⟩ := id hs
  have hTs : s.TypeIs (.ref sl) "slice" := ⟨os, hos, hcs⟩
  unfold getItem
  try with_reducible refine wpAny_holding ?_
  first | refine wpAny_bind (wpAny_pure ?_) | skip
  refine wpAny_bind (wpAny_sequenceKey ht.typeIs (by decide) ?_)
  refine wpAny_bind (wpAny_callSpecial?_slot (name := Str.ofString "__getitem__") ht.typeIs PyProof.Rows.slot_tuple_getitem
    (wpAny_call_entry PyProof.Rows.slot_tuple_getitem ht.typeIs PyProof.Rows.entry_tuple_getitem ?_ (PyProof.Rows.args_tuple_getitem _ _)))
  show wpAny _ _ (Builtin.Tuple.tupleItemsOf (.ref t) >>= _) _ _ s
  refine wpAny_bind (PyProof.Rows.tupleItemsOf_ ht ?_)
  refine wpAny_bind (wpAny_typeOf hTs ?_)
  rw [if_pos (by decide)]
  refine wpAny_bind (sliceApplied_rev (n := items.toArray.size) hs pl pu ps ?_)
  show wpAny _ _ (if (((items.toArray.size : Int) - 1) == 0 && (-1 : Int) == 1 && items.toArray.size == items.toArray.size) = true then _ else _) _ _ s
  rw [if_neg (by simp), pick_rev items items.toArray.size (by simp)]
  first
    | exact wpAny_bind (m := Builtin.Tuple.tupleExact _) (wpAny_newObj_type (wpAny_pure ⟨_, rfl, wpAny_pure h⟩) htake)
    | exact wpAny_bind (m := Builtin.Tuple.tupleExact _) (wpAny_newObj_type (wpAny_bind (wpAny_pure (wpAny_pure ⟨_, rfl, wpAny_pure h⟩))) htake)
    | exact wpAny_bind (wpAny_bind (m := Builtin.Tuple.tupleExact _) (wpAny_newObj_type (wpAny_pure (wpAny_pure ⟨_, rfl, wpAny_pure h⟩)) htake))
    | exact wpAny_bind (wpAny_bind (m := Builtin.Tuple.tupleExact _) (wpAny_newObj_type (wpAny_pure ⟨_, rfl, wpAny_pure h⟩) htake))
end
theorem c_rev {X : Cx} {fa : Fa} {W : WX} {c : Cf} {a : IE} {e : Expr} {kk : Nat} {q1 p2 p3 pos : Pos} (ha : PE X e (tEv X.K fa W c a)) : PE X (.Subscript e (.Slice none none (some (.UnaryOp .USub (.Constant (.int 1) kk q1) p2)) p3) pos) (tEv X.K fa W c (.rev a)) := by
  refine ⟨fun pins s σ H Q I h => ?_⟩
  obtain ⟨F, ρ, env, st, w, er, p⟩ := h
  have p : PostD X.K fa W F ρ H σ ((ev c a env st).bind fun x st => match x.rd st with
    | some x => mkD (opRev x) st
    | none => .bad) Q := p
  have hh : tEvF X.K fa W (ev c a) σ H (fun x H1 => ∃ F1 ρ1 st1 px, Wok X.K fa F1 ρ1 H1 st1 ∧ VRr X.K fa F1 H1 x px ∧ PostD X.K fa W F1 ρ1 H1 σ (mkD (opRev px) st1) Q) := ev1 anti_D w er p fun x H1 F1 ρ1 d st1 e1 w1 er1 r1 p1 => by
    cases q : d.rd st1 with
    | none =>
      simp only [q] at p1
      exact p1.elim
    | some px =>
      simp only [q] at p1
      exact ⟨F1, ρ1, st1, px, w1, r1.rd w1 q, p1⟩
  refine PyProof.Rows.Subscript_ (thn (ha.run pins s σ H _ I hh) fun v s1 ⟨x, H1, I1, r1, F1, ρ1, st1, px, w1, hx, p1⟩ => ?_)
  have hst : PO X (some (.UnaryOp .USub (.Constant (.int 1) kk q1) p2)) (tPart (tUn (rU fun i => .int (-i)) (tC (.int 1)))) := po_some (pe_un un_neg pe_int)
  refine wpAny_Slice (thn (po_none.run pins s1 σ H1 (fun o H2 => o = none ∧ H2 = H1) I1 ⟨rfl, rfl⟩) fun vl s2 ⟨l, H2, I2, pl, el, e2⟩ => ?_)
  subst el e2
  refine thn (po_none.run pins s2 σ H2 (fun o H3 => o = none ∧ H3 = H2) I2 ⟨rfl, rfl⟩) fun vu s3 ⟨u, H3, I3, pu, eu, e3⟩ => ?_
  subst eu e3
  refine thn (hst.run pins s3 σ H3 (fun o H4 => o = some (-1) ∧ H4 = H3) I3 ⟨1, rfl, -1, rfl, rfl, rfl⟩) fun vs s4 ⟨o, H4, I4, ps, eo, e4⟩ => ?_
  subst eo e4
  have I5 : L2.Inv X pins σ H4 { s4 with heap := s4.heap.push { cls := .type "slice", data := .fields #[vl, vu, vs] } } := I4.kept (t' := s4.toks) fun b ob q => Heap.get?_push_of_some _ q
  show wpAny (model X.prog X.w) X.A (PyProof.Rows.subscriptTail e (.Slice none none (some (.UnaryOp .USub (.Constant (.int 1) kk q1) p2)) p3) v (.ref s4.heap.objs.size)) (EP X pins σ Q) X.xe { s4 with heap := s4.heap.push { cls := .type "slice", data := .fields #[vl, vu, vs] } }
  cases px with
  | tup xs =>
    obtain ⟨a, ws, rfl, ha, hr⟩ := hx.tup
    cases r1
    obtain ⟨its, r, ht, hz⟩ := I5.tuple (SqT_of ha)
    have hlen := r.length
    refine PyProof.Rows.tail_any (ops := [.ref a, .ref s4.heap.objs.size]) ht.typeIs PyProof.Rows.slot_tuple_getitem.lookup ?_ (by with_unfolding_all rfl)
    refine getItem_tuple_rev ht (Heap.IsSliceOf.new _ vl vu vs) pl pu ps ?_ (by rw [← hlen]; exact hz)
    refine ⟨.ref _, _, I5.laid (t' := s4.toks) (o := .tup ws.reverse) (fun b ob q => Heap.get?_push_of_some _ q) (Nat.le_refl _) ?_, rfl, ?_⟩
    · exact ⟨by rw [List.length_reverse]; exact hz, _, r.reverse, PyProof.Rows.IsTup.new _ _⟩
    · exact pTup p1 w1 hr.reverse _ (I5.hok.fresh (Nat.le_refl _))
  | str z =>
    cases hx.str
    obtain ⟨t, rfl⟩ := r1
    have p1 : PostD X.K fa W F1 ρ1 H4 σ (mkD (if small z.length then some (.str ⟨z.cps.toList.reverse.toArray⟩) else none) st1) Q := p1
    cases hm : small z.length with
    | false =>
      rw [hm] at p1
      exact p1.elim
    | true =>
      rw [hm] at p1
      cases pl
      cases pu
      cases ps with
      | int _ tk =>
        refine PyProof.Rows.tail_any (ops := [.str z t, .ref s4.heap.objs.size]) (typeIs_str _ _ _) PySem.F.slot_str_getitem.lookup ?_ (by with_unfolding_all rfl)
        refine wpAny_getItem_str_slice (l := none) (u := none) (st := some (-1, tk)) ⟨_, Heap.get?_push_size _ rfl, rfl, rfl⟩ rfl ?_
        have e1 : slicePicked z none none (some (-1, tk)) = (List.range z.length).reverse := by
          show sliceRange ((z.length : Int) - 1) (-1) (-1) = _
          rw [PySem.W.krv_sliceRange, PySem.W.krv_range]
        have e2 : ((slicePicked z none none (some (-1, tk))).filterMap (z.cps[·]?)).toArray = z.cps.toList.reverse.toArray := by
          rw [e1, List.filterMap_reverse]
          congr 2
          exact PySem.W.krv_all z.cps
        show Made.post (if ((-1 : Int) == 1 && (slicePicked z none none (some (-1, tk))).length == z.length) = true then Made.val (.str z t) else Made.str ⟨((slicePicked z none none (some (-1, tk))).filterMap (z.cps[·]?)).toArray⟩) _ _
        rw [if_neg (by simp), e2]
        refine ⟨?_, .str _, H4, I5.tok _, ⟨_, rfl⟩, pP p1 w1 (.str _)⟩
        have := of_decide_eq_true hm
        show z.cps.toList.reverse.toArray.size ≤ sizeLine
        rw [List.size_toArray, List.length_reverse]
        exact this
  | _ => exact p1.elim
theorem plainIx_of {b : Expr} (h : notSl b = true) : PlainIx b := fun o i => by
  cases b <;> first | rfl | cases h
section
variable {fa : Fa} {gc : Nat → Option DE.P} {T : Nat → Option Df} {k : Nat}
theorem units_of {nm : Nm} {X : Cx} (o : Cok nm fa gc T k X) : X.A.units + 64 < cLine := o.room.units
theorem free_of {nm : Nm} {X : Cx} (o : Cok nm fa gc T k X) {x : Str} (h : x ∈ freeNames) : X.mg x = none := o.fx.free x h
theorem bf_free (f : Bf) : f.name ∈ freeNames := by
  cases f <;> simp [Bf.name, freeNames]
theorem both {X : Cx} {W : WX} {e : Expr} {ie : IE} {c : Cf} (q : PE X e (tEv X.K fa W c ie)) (he : ∀ whole, isTrue e X.env whole = (do let v ← whole; standAt e.pos; holding [v] (truthy v))) : PE X e (tEv X.K fa W c ie) ∧ PT X e (tT X.K fa W c ie) := ⟨q, t_plain q he⟩
theorem b3 {a b : Bool} (h : (a && b) = true) : a = true ∧ b = true := Bool.and_eq_true_iff.mp h
theorem no_case {X : Cx} {e : Expr} {t : TE} {u : TT} (h : false = true) : PE X e t ∧ PT X e u := by cases h
/-- at a heap in which no more than tables were written -/
theorem extN_ext {F : Addr → Prop} {ρ : List Addr} {H H1 : Hp} (e : LamX.ExtN H H1) : Ext F ρ H F ρ H1 := ⟨fun _ h => h, fun _ h => .inl h, ⟨[], by simp, by simp⟩, fun a o h _ ht => e a o h ht, fun a h => by
  cases q : nt H a with
  | none => rfl
  | some o =>
    obtain ⟨o', h1, h2⟩ := nt_get (H := H) (a := a) (by rw [q]; exact fun z => nomatch z)
    exact (nt_abs h (e a o' h1 h2) h2).elim⟩
theorem Wok.extN {K : PySem.W.Frag} {F : Addr → Prop} {ρ : List Addr} {H H1 : Hp} {st : Store} (w : Wok K fa F ρ H st) (e : LamX.ExtN H H1) (ht : LamX.Tabs fa.tb H1) : Wok K fa F ρ H1 st := by
  have same : ∀ a, nt H a ≠ none → H1 a = H a := fun a h => by
    obtain ⟨o, h1, h2⟩ := nt_get h
    rw [h1, e a o h1 h2]
  refine w.mono' (extN_ext e) (fun a ha => same a ?_) w.dis (fun a f => ?_) ht
  · intro q
    exact w.free q ha
  · obtain ⟨o, h1, h2⟩ := nt_get (w.has a f)
    exact nt_ne (e a o h1 h2) h2
theorem noP_of {p : Arguments} (h : noP p = true) : p = ⟨[], [], none, [], [], none, []⟩ := by
  unfold noP at h
  split at h
  · rfl
  · cases h
/-- x(lambda: e), x the def that tells the error -/
theorem c_word {nm : Nm} {X : Cx} {W : WX} {f : Nat} {get : Bool} {a : IE} {x : Str} {p lpos pos : Pos} {params : Arguments} {body : Expr} {scope : Scope} (o : Cok nm fa gc T k X) (hl : nm.l = true) (hw : nm.w f = some (x, get)) (hg : Gl X x) (hdb : (x == ("__debug__" : Str)) = false)
    (hp : noP params = true) (hs : LamX.lamSB X.env.scope scope = true)
    (ih : ∀ {X' : Cx} {W : WX}, Cok { nm with l := false } fa gc T k X' → L2N.Takes X' W → X'.N = X.N → X'.env.scope = scope → PE X' body (tEv X'.K fa W (Cf.mk (callK T gc k) gc (wdT T)) a)) :
    PE X (.Call (.Name x p) [.Lambda params body scope lpos] [] pos) (tEv X.K fa W (Cf.mk (callK T gc k) gc (wdT T)) (.word f get a)) := by
  obtain ⟨pg, bg, sg, dV, kV, doc, pm, cdv, ct, oc, an, od, osl, Ng, y, g, wo⟩ := o.fx.wrd f x get hw
  obtain ⟨hr, c, P, hTB, hcode, hmT, hu⟩ := o.lam hl
  cases noP_of hp
  refine pe_of (DL.pe_lamcall (t := fun E => tEv X.K fa (fun cls d _ H' => E cls d H') (Cf.mk (callK T gc k) gc (wdT T)) a) (k := 3 * k) hg wo.hm wo.hk wo.lk wo.hcg wo.hb wo.Sg wo.hNg wo.hva (wo.hG X _ rfl rfl rfl rfl rfl) hTB hcode hmT hu hr (LamX.lamS_by hs) rfl (fun _ _ _ _ _ => rfl)
    (fun A outer s H E fn c' hr' => ih (X' := DL.lamCx X A outer s H E scope fn c') ⟨rfl, o.nd, hr', o.fx.l false, fun h => by cases h⟩ DL.lamCx_takes rfl rfl) hdb wo.hd wo.hcd) fun σ H Q ⟨F, ρ, env, st, w, er, q⟩ => ?_
  refine ⟨w.tab, fun H1 eN hT => ?_⟩
  have e1 : Ext F ρ H F ρ H1 := extN_ext eN
  refine ⟨F, ρ, env, st, w.extN eN hT, er.mono w e1, ?_⟩
  have q : PostD X.K fa W F ρ H σ (match ev (Cf.mk (callK T gc k) gc (wdT T)) a env st with
    | .ok d st => if get then .ok d st else .ok (.p (.str "")) st
    | .exc k none st => match wdT T f k with
      | some z => .ok (.p (.str z)) st
      | none => .bad
    | .exc _ (some _) _ => .bad
    | .bad => .bad) Q := q
  cases h : ev (Cf.mk (callK T gc k) gc (wdT T)) a env st with
  | bad =>
    rw [h] at q
    exact q.elim
  | ok d s =>
    simp only [h] at q
    cases get with
    | true => exact fun b F' ρ' H' e' w' r' => q b F' ρ' H' (e1.trans e') w' (r'.anti e1)
    | false => exact fun b F' ρ' H' e' w' r' => q (.str "") F' ρ' H' (e1.trans e') w' (VR.str _)
  | exc kk xx s =>
    cases xx with
    | some xx =>
      simp only [h] at q
      exact q.elim
    | none =>
      simp only [h] at q
      cases hz : wdT T f kk with
      | none =>
        simp only [hz] at q
        exact q.elim
      | some z =>
        simp only [hz] at q
        exact fun F' ρ' H' e' w' _ => ⟨kk, z, rfl, rfl, hz, fun H'' hk => q (.str z) F' ρ' H'' ((e1.trans e').trans (extN_ext fun a o h _ => hk a o h)) (w'.extN (fun a o h _ => hk a o h) (LamX.Tabs.ext w'.tab hk)) (VR.str _)⟩
theorem ce_of {nm : Nm} {X : Cx} (o : Cok nm fa gc T k X) {a : IE} {e : Expr} (h : chK nm a X.env.scope e = true) : CE X fa (Cf.mk (callK T gc k) gc (wdT T)) a e := by
  unfold chK at h
  split at h
  · rename_i i x pos
    obtain ⟨h1, h2⟩ := b3 h
    obtain ⟨h3, h4⟩ := b3 h1
    obtain ⟨g1, g2, g3⟩ := okN_of h2
    have h3 : x = nm.c i := of_decide_eq_true h3
    cases q : gc i with
    | none =>
      have e1 : ∀ (env : Env) (st : Store), ev (Cf.mk (callK T gc k) gc (wdT T)) (.g i) env st = .bad := fun env st => by
        show mkP (gc i) st = _
        rw [q]
        rfl
      exact .inr e1
    | some c =>
      obtain ⟨v, u, m1, m2, m3⟩ := o.fx.con i c q
      have e1 : ∀ (env : Env) (st : Store), ev (Cf.mk (callK T gc k) gc (wdT T)) (.g i) env st = .ok (.p c) st := fun env st => by
        show mkP (gc i) st = _
        rw [q]
        rfl
      exact .inl ⟨v, c, pe_glob (gl_of h4) (by rw [h3]; exact m1) m2 g1, e1, m3⟩
  · rename_i i j kk pos
    cases of_decide_eq_true h
    exact .inl ⟨.str _, .str _, pe_str, fun _ _ => rfl, fun _ _ => VR.str _⟩
  · cases h
mutual
theorem sE : (ie : IE) → ∀ {nm : Nm} {X : Cx} {W : WX}, Cok nm fa gc T k X → L2N.Takes X W → ∀ e : Expr, chE nm X.N ie X.env.scope e = true → PE X e (tEv X.K fa W (Cf.mk (callK T gc k) gc (wdT T)) ie) ∧ PT X e (tT X.K fa W (Cf.mk (callK T gc k) gc (wdT T)) ie)
  | .v i, nm, X, W, o, tk, e, h => by
    unfold chE at h
    split at h
    · rename_i x pos
      obtain ⟨h1, h2⟩ := b3 h
      obtain ⟨h3, h4⟩ := b3 h1
      obtain ⟨g1, g2, g3⟩ := okN_of h2
      have q : PE X (.Name x pos) (tEv X.K fa W (Cf.mk (callK T gc k) gc (wdT T)) (.v i)) := c_var (of_decide_eq_true h3) (vis_of h4) g1 g2
      exact ⟨q, t_plain q fun _ => rfl⟩
    · exact no_case h
  | .g i, nm, X, W, o, tk, e, h => by
    unfold chE at h
    split at h
    · rename_i x pos
      obtain ⟨h1, h2⟩ := b3 h
      obtain ⟨h3, h4⟩ := b3 h1
      obtain ⟨g1, g2, g3⟩ := okN_of h2
      have h3 : x = nm.c i := of_decide_eq_true h3
      have q : PE X (.Name x pos) (tEv X.K fa W (Cf.mk (callK T gc k) gc (wdT T)) (.g i)) := by
        refine ⟨fun pins s σ H Q I hh => ?_⟩
        obtain ⟨F, ρ, env, st, w, er, p⟩ := hh
        have p : PostD X.K fa W F ρ H σ (mkP (gc i) st) Q := p
        obtain ⟨c, e1, p⟩ := postP p
        obtain ⟨v, u, m1, m2, m3⟩ := o.fx.con i c e1
        exact (pe_glob (gl_of h4) (by rw [h3]; exact m1) m2 g1).run pins s σ H Q I (pP p w (m3 F H))
      exact ⟨q, t_plain q fun _ => rfl⟩
    · exact no_case h
  | .int i, nm, X, W, o, tk, e, h => by
    unfold chE at h
    split at h
    · rename_i j kk pos
      cases of_decide_eq_true h
      exact both (c_val (X := X) (fa := fa) (W := W) (c := (Cf.mk (callK T gc k) gc (wdT T))) (a := .int i) (pe_int (j := kk) (pos := pos)) (fun _ _ => rfl) (fun _ _ => VR.int i)) fun _ => rfl
    · exact no_case h
  | .str i, nm, X, W, o, tk, e, h => by
    unfold chE at h
    split at h
    · rename_i j kk pos
      cases of_decide_eq_true h
      exact both (c_val (X := X) (fa := fa) (W := W) (c := (Cf.mk (callK T gc k) gc (wdT T))) (a := .str i) (pe_str (j := kk) (pos := pos)) (fun _ _ => rfl) (fun _ _ => VR.str i)) fun _ => rfl
    · exact no_case h
  | .bl i, nm, X, W, o, tk, e, h => by
    unfold chE at h
    split at h
    · rename_i j kk pos
      cases of_decide_eq_true h
      exact both (c_val (X := X) (fa := fa) (W := W) (c := (Cf.mk (callK T gc k) gc (wdT T))) (a := .bl i) (pe_bl (j := kk) (pos := pos)) (fun _ _ => rfl) (fun _ _ => VR.bl i)) fun _ => rfl
    · exact no_case h
  | .non, nm, X, W, o, tk, e, h => by
    unfold chE at h
    split at h
    · rename_i kk pos
      exact both (c_val (X := X) (fa := fa) (W := W) (c := (Cf.mk (callK T gc k) gc (wdT T))) (a := .non) (pe_non (j := kk) (pos := pos)) (fun _ _ => rfl) (fun _ _ => VR.non)) fun _ => rfl
    · exact no_case h
  | .bin op a b, nm, X, W, o, tk, e, h => by
    unfold chE at h
    split at h
    · obtain ⟨h1, h2⟩ := b3 h
      obtain ⟨h3, h4⟩ := b3 h1
      cases of_decide_eq_true h3
      exact both (c_bin (op := op) (sE a o tk _ h4).1 (sE b o tk _ h2).1) fun _ => rfl
    · exact no_case h
  | .neg a, nm, X, W, o, tk, e, h => by
    unfold chE at h
    split at h
    · exact both (c_neg (sE a o tk _ h).1) fun _ => rfl
    · exact no_case h
  | .no a, nm, X, W, o, tk, e, h => by
    unfold chE at h
    split at h
    · exact ⟨c_no (sE a o tk _ h).1, t_no (sE a o tk _ h).2⟩
    · exact no_case h
  | .and r, nm, X, W, o, tk, e, h => by
    unfold chE at h
    split at h
    · rename_i vs pos
      have q := sAnd r o tk vs pos h
      exact ⟨pe_of q.1 fun σ H Q h => h, pt_of q.2.pt fun σ H Q h => h⟩
    · exact no_case h
  | .or r, nm, X, W, o, tk, e, h => by
    unfold chE at h
    split at h
    · rename_i vs pos
      have q := sOr r o tk vs pos h
      exact ⟨pe_of q.1 fun σ H Q h => h, pt_of q.2.pt fun σ H Q h => h⟩
    · exact no_case h
  | .cmp op a b, nm, X, W, o, tk, e, h => by
    unfold chE at h
    split at h
    · rename_i l oo r pos
      obtain ⟨h1, h2⟩ := b3 h
      obtain ⟨h3, h4⟩ := b3 h1
      obtain ⟨h5, h6⟩ := b3 h3
      cases of_decide_eq_true h5
      have hm : behindInMarks op r = false := by simpa using h6
      have qa := (sE a o tk _ h4).1
      have qb := (sE b o tk _ h2).1
      exact ⟨c_cmp (units_of o) hm qa qb, t_cmp (units_of o) hm qa qb⟩
    · exact no_case h
  | .chain o1 o2 a b d, nm, X, W, o, tk, e, h => by
    unfold chE at h
    split at h
    · rename_i l p1 p2 m r pos
      obtain ⟨h1, h2⟩ := b3 h
      obtain ⟨h3, h4⟩ := b3 h1
      obtain ⟨h5, h6⟩ := b3 h3
      obtain ⟨h7, h8⟩ := b3 h5
      obtain ⟨h9, h10⟩ := b3 h7
      cases of_decide_eq_true h9
      cases of_decide_eq_true h10
      have hm : lastMarks [o1, o2] [m, r] = false := by simpa using h8
      have qa := (sE a o tk _ h6).1
      have qb := (sE b o tk _ h4).1
      have qd := (sE d o tk _ h2).1
      exact ⟨c_chain (units_of o) hm qa qb qd, t_chain (units_of o) hm qa qb qd⟩
    · exact no_case h
  | .ife t a b, nm, X, W, o, tk, e, h => by
    unfold chE at h
    split at h
    · obtain ⟨h1, h2⟩ := b3 h
      obtain ⟨h3, h4⟩ := b3 h1
      have qt := sE t o tk _ h3
      have qa := sE a o tk _ h4
      have qb := sE b o tk _ h2
      exact ⟨c_ife (f1 := fun _ _ => .bad) (f2 := fun _ _ => .bad) (f3 := fun _ _ => .bad) qt.2 qa.1 qb.1, t_ife qt.2 qa.2 qb.2⟩
    · exact no_case h
  | .tup es, nm, X, W, o, tk, e, h => by
    unfold chE at h
    split at h
    · exact both (c_tup (sL es o tk _ h)) fun _ => rfl
    · exact no_case h
  | .lst es, nm, X, W, o, tk, e, h => by
    unfold chE at h
    split at h
    · exact both (c_lst (sL es o tk _ h)) fun _ => rfl
    · exact no_case h
  | .call f es, nm, X, W, o, tk, e, h => by
    unfold chE at h
    split at h
    · rename_i x p as pos
      obtain ⟨h1, h2⟩ := b3 h
      obtain ⟨h3, h4⟩ := b3 h1
      obtain ⟨h5, h6⟩ := b3 h3
      obtain ⟨g1, g2, g3⟩ := okN_of h4
      have pa := sL es o tk _ h2
      have st : ∀ e r, as = e :: r → starEach (e :: r) X.env = (false, eval e X.env) :: starEach r X.env := fun e r ee => by
        subst ee
        cases es with
        | nil => cases h2
        | cons a es => exact chE_star (b3 h2).1 _ _
      have q : PE X (.Call (.Name x p) as [] pos) (tEv X.K fa W (Cf.mk (callK T gc k) gc (wdT T)) (.call f es)) := by
        refine c_call o tk (of_decide_eq_true h5) (gl_of h6) g1 pa st (fun e r ee => ?_) (fun ee => ?_)
        · subst ee
          cases es with
          | nil => cases h2
          | cons a es => exact chL_star (b3 h2).2 _ _
        · subst ee
          cases es with
          | nil => rfl
          | cons a es => cases h2
      exact ⟨q, t_plain q fun _ => rfl⟩
    · exact no_case h
  | .bi f a es, nm, X, W, o, tk, e, h => by
    unfold chE at h
    split at h
    · obtain ⟨h1, h2⟩ := b3 h
      obtain ⟨h3, h4⟩ := b3 h1
      obtain ⟨h5, h6⟩ := b3 h3
      have hx := of_decide_eq_true h5
      exact both (c_bi o.calm hx (gl_of h6) (by rw [hx]; exact free_of o (bf_free f)) (sE a o tk _ h4).1 (sL es o tk _ h2) (chE_star h4 _ _) (chL_star h2 _ _)) fun _ => rfl
    · exact no_case h
  | .meth m a b, nm, X, W, o, tk, e, h => by
    unfold chE at h
    split at h
    · obtain ⟨h1, h2⟩ := b3 h
      obtain ⟨h3, h4⟩ := b3 h1
      obtain ⟨h5, h6⟩ := b3 h3
      obtain ⟨h7, h8⟩ := b3 h5
      exact both (c_meth (of_decide_eq_true h7) h8 h6 (sE a o tk _ h4).1 (sE b o tk _ h2).1 (chE_star h2 _ _)) fun _ => rfl
    · exact no_case h
  | .idx a b, nm, X, W, o, tk, e, h => by
    unfold chE at h
    split at h
    · obtain ⟨h1, h2⟩ := b3 h
      obtain ⟨h3, h4⟩ := b3 h1
      exact both (c_idx (plainIx_of h3) (sE a o tk _ h4).1 (sE b o tk _ h2).1) fun _ => rfl
    · exact no_case h
  | .slc a lo hi, nm, X, W, o, tk, e, h => by
    unfold chE at h
    split at h
    · obtain ⟨h1, h2⟩ := b3 h
      obtain ⟨h3, h4⟩ := b3 h1
      exact both (c_slc (sE a o tk _ h3).1 (sO lo o tk _ h4) (sO hi o tk _ h2)) fun _ => rfl
    · exact no_case h
  | .rev a, nm, X, W, o, tk, e, h => by
    unfold chE at h
    split at h
    · exact both (c_rev (sE a o tk _ h).1) fun _ => rfl
    · exact no_case h
  | .comp elt tg it cond, nm, X, W, o, tk, e, h => by
    unfold chE at h
    split at h
    · rename_i el t i ifs scope pos
      obtain ⟨h1, h2⟩ := b3 h
      obtain ⟨h3, h4⟩ := b3 h1
      obtain ⟨h5, h6⟩ := b3 h3
      obtain ⟨h7, h8⟩ := b3 h5
      obtain ⟨h9, h10⟩ := b3 h7
      have hi := sI it o tk false t i h8
      have hs : ∀ x, foldedSetIterable i X.env x = pure x := fun x => by
        cases i <;> first | rfl | cases h6
      have q := pe_lc (pos := pos) (elt := el) (tg := t) (iter := i) (ifs := ifs) (scope := scope) (own := ownOfT X.N tg) (g := gTv X.K fa tg) (tt := tEvT X.K fa W0 (Cf.mk (callK T gc k) gc (wdT T)) fun env st => evC (Cf.mk (callK T gc k) gc (wdT T)) cond env st) (te := tEv X.K fa W0 (Cf.mk (callK T gc k) gc (wdT T)) elt) o.calm o.nd hi (blkOk_by h9)
        (fun s H C cl fp => sG (fa := fa) (o.blk s H scope cl C fp).calm o.nd tg t h10)
        (fun s H C cl fp => sC cond (o.blk s H scope cl C fp) DL.takes0 ifs h4)
        (fun s H C cl fp => (sE elt (o.blk s H scope cl C fp) DL.takes0 el h2).1) hs
      have hown : (ownOfT X.N tg).map (·.2) = tg.slots := by
        unfold ownOfT
        rw [List.map_map]
        exact List.map_id _
      rw [hown] at q
      have q' : PE X (.ListComp el [⟨t, i, ifs, 0⟩] scope pos) (tEv X.K fa W (Cf.mk (callK T gc k) gc (wdT T)) (.comp elt tg it cond)) := pe_of q fun σ H Q hh => c_compR (fun _ _ _ h => h) (fun _ _ _ h => h) (fun _ _ _ h => h) hh
      exact ⟨q', t_plain q' fun _ => rfl⟩
    · exact no_case h
  | .isi a t, nm, X, W, o, tk, e, h => by
    unfold chE at h
    split at h
    · obtain ⟨h1, h2⟩ := b3 h
      obtain ⟨h3, h4⟩ := b3 h1
      obtain ⟨h5, h6⟩ := b3 h3
      obtain ⟨h7, h8⟩ := b3 h5
      obtain ⟨h9, h10⟩ := b3 h7
      have hx := of_decide_eq_true h9
      have hz := of_decide_eq_true h6
      have hc : t = "int" ∨ t = "bool" ∨ t = "str" ∨ t = "tuple" ∨ t = "list" := by
        simpa [tyNames] using h8
      have hz2 : Str.ofString t ∈ freeNames := by
        rcases hc with rfl | rfl | rfl | rfl | rfl <;> simp [freeNames]
      exact both (c_isi h8 hx hz (gl_of h10) (gl_of h4) (by rw [hx]; exact free_of o (by simp [freeNames])) (by rw [hz]; exact free_of o hz2) (sE a o tk _ h2).1 (fun r => chE_star h2 r _)) fun _ => rfl
    · exact no_case h
  | .callV i fs es, nm, X, W, o, tk, e, h => by
    unfold chE at h
    split at h
    · obtain ⟨h1, h2⟩ := b3 h
      obtain ⟨h3, h4⟩ := b3 h1
      obtain ⟨h5, h6⟩ := b3 h3
      obtain ⟨h7, h8⟩ := b3 h5
      obtain ⟨g1, g2, g3⟩ := okN_of h6
      have hst := fun (y : Expr) (ys : List Expr) (z : chL nm X.N es X.env.scope (y :: ys) = true) => (by
        cases es with
        | nil => cases z
        | cons a r => exact ⟨chE_star (b3 z).1 _ _, fun pos => chL_star (b3 z).2 _ pos⟩ : starEach (y :: ys) X.env = (false, eval y X.env) :: starEach ys X.env ∧ ∀ pos, (backTo pos (starEach ys X.env)).any (·.1) = false)
      exact both (c_callV o tk (of_decide_eq_true h7) (vis_of h8) g1 g2 h4 (sL es o tk _ h2) (hst _ _ h2).1 ((hst _ _ h2).2 _)) fun _ => rfl
    · exact no_case h
  | .dget gt ks vs a, nm, X, W, o, tk, e, h => by
    unfold chE at h
    split at h
    · split at h
      · obtain ⟨h0, h⟩ := b3 h
        obtain ⟨h1, h⟩ := b3 h
        obtain ⟨h2, h⟩ := b3 h
        obtain ⟨h3, h⟩ := b3 h
        obtain ⟨h4, h⟩ := b3 h
        obtain ⟨h5, h⟩ := b3 h
        obtain ⟨h6, hz⟩ := b3 h
        cases of_decide_eq_true h1
        cases of_decide_eq_true h2
        cases gt with
        | true => cases h0
        | false => exact both (c_dget0 (by have := units_of o; omega) (ce_of o h4) (ce_of o h5) (of_decide_eq_true h3) (sE a o tk _ hz).1 (plainIx_of h6)) fun _ => rfl
      · exact no_case h
    · split at h
      · obtain ⟨h0, h⟩ := b3 h
        obtain ⟨h1, h⟩ := b3 h
        obtain ⟨h2, h⟩ := b3 h
        obtain ⟨h3, h⟩ := b3 h
        obtain ⟨h4, h⟩ := b3 h
        obtain ⟨h5, h⟩ := b3 h
        obtain ⟨h6, h⟩ := b3 h
        obtain ⟨h7, hz⟩ := b3 h
        cases of_decide_eq_true h1
        cases of_decide_eq_true h2
        cases gt with
        | false => cases h0
        | true => exact both (c_dget1 (by have := units_of o; omega) (ce_of o h4) (ce_of o h5) (of_decide_eq_true h3) (sE a o tk _ hz).1 h7 (chE_star hz _ _) (of_decide_eq_true h6)) fun _ => rfl
      · exact no_case h
    · exact no_case h
  | .word f get a, nm, X, W, o, tk, e, h => by
    unfold chE at h
    split at h
    · obtain ⟨h1, h2⟩ := b3 h
      obtain ⟨h3, h4⟩ := b3 h1
      obtain ⟨h5, h6⟩ := b3 h3
      obtain ⟨h7, h8⟩ := b3 h5
      obtain ⟨h9, h10⟩ := b3 h7
      obtain ⟨h11, h12⟩ := b3 h9
      obtain ⟨g1, g2, g3⟩ := okN_of h8
      exact both (c_word o h11 (of_decide_eq_true h12) (gl_of h10) g1 h6 h4 fun {X' W'} o' tk' hN hs => (sE a o' tk' _ (by rw [hN, hs]; exact h2)).1) fun _ => rfl
    · exact no_case h
  | .sort kk a, nm, X, W, o, tk, e, h => by
    unfold chE at h
    split at h
    · rename_i x p y pos
      obtain ⟨h1, h2⟩ := b3 h
      obtain ⟨h3, h4⟩ := b3 h2
      cases of_decide_eq_true h1
      have m1 := free_of (x := Str.ofString "sorted") o (by decide +kernel)
      have m2 := free_of (x := Str.ofString "set") o (by decide +kernel)
      split at h4
      · split at h4
        · rename_i x2 p2 z pos2
          obtain ⟨h5, h6⟩ := b3 h4
          obtain ⟨h7, h8⟩ := b3 h6
          cases of_decide_eq_true h5
          exact both (c_sort0 o.calm (gl_of h3) m1 (gl_of h7) m2 (sE a o tk _ h8).1 (chE_star h8 _ _)) fun _ => rfl
        · exact no_case h4
      · rename_i hne
        obtain ⟨h5, h6⟩ := b3 h4
        exact both (c_sortN o.calm (gl_of h3) m1 (sE a o tk _ h6).1 (chE_star h6 _ _) (fun z => hne z) (of_decide_eq_true h5)) fun _ => rfl
    · exact no_case h
  | .dnew, nm, X, W, o, tk, e, h => by
    unfold chE at h
    split at h
    · exact both c_dnew fun _ => rfl
    · exact no_case h
  | .dtwo k1 v1 k2 v2, nm, X, W, o, tk, e, h => by
    unfold chE at h
    split at h
    · obtain ⟨h1, h⟩ := b3 h
      obtain ⟨h2, h⟩ := b3 h
      obtain ⟨h3, h4⟩ := b3 h
      exact both (c_dtwo (units_of o) (sE k1 o tk _ h1).1 (sE v1 o tk _ h2).1 (sE k2 o tk _ h3).1 (sE v2 o tk _ h4).1) fun _ => rfl
    · exact no_case h
  | .din neg a i, nm, X, W, o, tk, e, h => by
    unfold chE at h
    split at h
    · obtain ⟨h1, h⟩ := b3 h
      obtain ⟨h2, h⟩ := b3 h
      obtain ⟨h3, h⟩ := b3 h
      obtain ⟨h4, h5⟩ := b3 h
      obtain ⟨g1, g2, g3⟩ := okN_of h4
      cases of_decide_eq_true h1
      exact c_din (units_of o) (of_decide_eq_true h2) (vis_of h3) g1 g2 (sE a o tk _ h5).1
    · exact no_case h
  | .dat i a, nm, X, W, o, tk, e, h => by
    unfold chE at h
    split at h
    · obtain ⟨h1, h⟩ := b3 h
      obtain ⟨h2, h⟩ := b3 h
      obtain ⟨h3, h⟩ := b3 h
      obtain ⟨h4, h5⟩ := b3 h
      obtain ⟨g1, g2, g3⟩ := okN_of h4
      exact both (c_dat (units_of o) (of_decide_eq_true h2) (vis_of h3) g1 g2 (plainIx_of h1) (sE a o tk _ h5).1) fun _ => rfl
    · exact no_case h
  | .mkx k', nm, X, W, o, tk, e, h => by
    unfold chE at h
    split at h
    · obtain ⟨h1, h⟩ := b3 h
      obtain ⟨h2, h⟩ := b3 h
      obtain ⟨h3, h4⟩ := b3 h
      obtain ⟨g1, g2, g3⟩ := okN_of h4
      obtain ⟨m, v⟩ := o.fx.exv k' _ (of_decide_eq_true h1)
      have hi := of_decide_eq_true h2
      rw [hi] at m
      exact both (c_mkx m (v.mkr hi) v.hm v.kp (gl_of h3) g1) fun _ => rfl
    · exact no_case h
  | .mkf k' n a, nm, X, W, o, tk, e, h => by
    unfold chE at h
    split at h
    · obtain ⟨h1, h⟩ := b3 h
      obtain ⟨h2, h⟩ := b3 h
      obtain ⟨h5, h⟩ := b3 h
      obtain ⟨h3, h⟩ := b3 h
      obtain ⟨h4, h6⟩ := b3 h
      obtain ⟨g1, g2, g3⟩ := okN_of h4
      obtain ⟨m, v⟩ := o.fx.exv k' _ (of_decide_eq_true h1)
      have hi := of_decide_eq_true h2
      rw [hi] at m
      obtain ⟨_, _, fI, fd, ps, T, iC, tI, F1, hb⟩ := v.fl n hi
      exact both (c_mkf m tk T iC tI F1 ((o.lam h5).room.mono (by omega)) hb (gl_of h3) v.hm g1 (sE a o tk _ h6).1 (chE_star h6 _ _)) fun _ => rfl
    · exact no_case h
  | .isx a t j, nm, X, W, o, tk, e, h => by
    unfold chE at h
    split at h
    · obtain ⟨h1, h⟩ := b3 h
      obtain ⟨h2, h⟩ := b3 h
      obtain ⟨h3, h⟩ := b3 h
      obtain ⟨h4, h⟩ := b3 h
      obtain ⟨h5, h6⟩ := b3 h
      obtain ⟨g1, g2, g3⟩ := okN_of h4
      have hx := of_decide_eq_true h1
      have qa := (sE a o tk _ h6).1
      have hm : X.mg (Str.ofString "isinstance") = none := free_of o (by simp [freeNames])
      have key : ∀ {z : Str} {p1 p3 pos : Pos}, nm.x j = some z → okN z = true → glB X.env.scope z = true → (t = decide (j = nm.s)) → PE X (.Call (.Name _ p1) [_, .Name z p3] [] pos) (tEv X.K fa W (Cf.mk (callK T gc k) gc (wdT T)) (.isx a t j)) := fun {z p1 p3 pos} hz ho hgz ht => by
        obtain ⟨g1, g2, g3⟩ := okN_of ho
        obtain ⟨m, v⟩ := o.fx.exv j _ hz
        refine c_isx (cv := .ref (fa j)) (cu := .ref (fa j)) hx (gl_of h2) (by rw [hx]; exact hm) (pe_glob (gl_of hgz) v.hm rfl g1) (fun u r => by cases r; rfl) qa (fun k' n hn => ?_) (fun r => chE_star h6 r _)
        obtain ⟨y, hy, _⟩ := o.fx.exw _ hn
        obtain ⟨_, v'⟩ := o.fx.exv k' _ hy
        exact ⟨v'.ec, by rw [v'.un j _ hz, ht]⟩
      cases t with
      | false =>
        obtain ⟨h7, h8⟩ := b3 (show (decide (j ≠ nm.s) && decide (nm.x j = some _)) = true from h5)
        exact both (key (of_decide_eq_true h8) h4 h3 (by rw [decide_eq_false (of_decide_eq_true h7)])) fun _ => rfl
      | true =>
        rcases Bool.or_eq_true_iff.mp (show ((decide (j = 0) && decide (_ = Str.ofString "ValueError")) || (decide (j = nm.s) && decide (nm.x j = some _))) = true from h5) with h5 | h5
        · obtain ⟨h7, h8⟩ := b3 h5
          have hz := of_decide_eq_true h8
          subst hz
          have hm2 : X.mg (Str.ofString "ValueError") = none := free_of o (by simp [freeNames])
          refine both (c_isx (cv := .ty "ValueError") (cu := .type "ValueError") hx (gl_of h2) (by rw [hx]; exact hm) (pe_bltn (gl_of h3) hm2 (by decide +kernel) rfl (by decide +kernel) (by decide +kernel)) (fun u r => by cases r; rfl) qa (fun k' n hn => ?_) (fun r => chE_star h6 r _)) fun _ => rfl
          obtain ⟨y, hy, _⟩ := o.fx.exw _ hn
          obtain ⟨_, v'⟩ := o.fx.exv k' _ hy
          exact ⟨v'.ec, by rw [v'.ve, Bool.true_or]⟩
        · obtain ⟨h7, h8⟩ := b3 h5
          exact both (key (of_decide_eq_true h8) h4 h3 (by rw [decide_eq_true (of_decide_eq_true h7)])) fun _ => rfl
    · exact no_case h
  | .fld a n, nm, X, W, o, tk, e, h => by
    unfold chE at h
    split at h
    · obtain ⟨h1, h⟩ := b3 h
      obtain ⟨h2, h3⟩ := b3 h
      cases of_decide_eq_true h1
      refine both (c_fld h2 (sE a o tk _ h3).1 fun k' hk => ?_) fun _ => rfl
      obtain ⟨y, hy, hi⟩ := o.fx.exw _ hk
      obtain ⟨_, v'⟩ := o.fx.exv k' _ hy
      obtain ⟨q1, q2, _⟩ := v'.fl n hi
      exact ⟨q1, q2⟩
    · exact no_case h
theorem sL : (il : IL) → ∀ {nm : Nm} {X : Cx} {W : WX}, Cok nm fa gc T k X → L2N.Takes X W → ∀ es : List Expr, chL nm X.N il X.env.scope es = true → PA X es (tEvL X.K fa W (Cf.mk (callK T gc k) gc (wdT T)) il)
  | .nil, nm, X, W, o, tk, es, h => by
    cases es with
    | nil => exact c_nil
    | cons a b => cases h
  | .cons a r, nm, X, W, o, tk, es, h => by
    cases es with
    | nil => cases h
    | cons e es =>
      obtain ⟨h1, h2⟩ := b3 h
      exact c_cons (sE a o tk e h1).1 (sL r o tk es h2) (chE_star h1 _ _)
theorem sAnd : (il : IL) → ∀ {nm : Nm} {X : Cx} {W : WX}, Cok nm fa gc T k X → L2N.Takes X W → ∀ (es : List Expr) (pos : Pos), chL nm X.N il X.env.scope es = true → PE X (.BoolOp .And es pos) (tA X.K fa W (Cf.mk (callK T gc k) gc (wdT T)) il) ∧ PW X (.BoolOp .And es pos) (tAT X.K fa W (Cf.mk (callK T gc k) gc (wdT T)) il)
  | .nil, nm, X, W, o, tk, es, pos, h => ⟨⟨fun _ _ _ _ _ _ ⟨_, _, _, _, _, _, p⟩ => p.elim⟩, ⟨fun _ _ _ _ _ _ _ ⟨_, _, _, _, _, _, p⟩ => p.elim⟩⟩
  | .cons a r, nm, X, W, o, tk, es, pos, h => by
    cases es with
    | nil => cases h
    | cons e es =>
      obtain ⟨h1, h2⟩ := b3 h
      have qa := sE a o tk e h1
      have qr := sAnd r o tk es pos h2
      cases r with
      | nil =>
        cases es with
        | nil => exact ⟨v_and1 qa.1, t_and1 qa.2⟩
        | cons b c => cases h2
      | cons b r =>
        cases es with
        | nil => cases h2
        | cons e1 es => exact ⟨v_and qa.1 qr.1, t_and qa.2 qr.2⟩
theorem sOr : (il : IL) → ∀ {nm : Nm} {X : Cx} {W : WX}, Cok nm fa gc T k X → L2N.Takes X W → ∀ (es : List Expr) (pos : Pos), chL nm X.N il X.env.scope es = true → PE X (.BoolOp .Or es pos) (tO X.K fa W (Cf.mk (callK T gc k) gc (wdT T)) il) ∧ PW X (.BoolOp .Or es pos) (tOT X.K fa W (Cf.mk (callK T gc k) gc (wdT T)) il)
  | .nil, nm, X, W, o, tk, es, pos, h => ⟨⟨fun _ _ _ _ _ _ ⟨_, _, _, _, _, _, p⟩ => p.elim⟩, ⟨fun _ _ _ _ _ _ _ ⟨_, _, _, _, _, _, p⟩ => p.elim⟩⟩
  | .cons a r, nm, X, W, o, tk, es, pos, h => by
    cases es with
    | nil => cases h
    | cons e es =>
      obtain ⟨h1, h2⟩ := b3 h
      have qa := sE a o tk e h1
      have qr := sOr r o tk es pos h2
      cases r with
      | nil =>
        cases es with
        | nil => exact ⟨v_or1 qa.1, t_or1 qa.2⟩
        | cons b c => cases h2
      | cons b r =>
        cases es with
        | nil => cases h2
        | cons e1 es => exact ⟨v_or qa.1 qr.1, t_or qa.2 qr.2⟩
theorem sO : (io : IO) → ∀ {nm : Nm} {X : Cx} {W : WX}, Cok nm fa gc T k X → L2N.Takes X W → ∀ oe : Option Expr, chO nm X.N io X.env.scope oe = true → PO X oe fun σ H Q => ∃ F ρ env st, Wok X.K fa F ρ H st ∧ ERel X.K fa F ρ H σ env ∧ Post X.K fa relE W F ρ H σ (evO (Cf.mk (callK T gc k) gc (wdT T)) io env st) Q
  | .non, nm, X, W, o, tk, oe, h => by
    cases oe with
    | none => exact c_oN
    | some e => cases h
  | .som a, nm, X, W, o, tk, oe, h => by
    cases oe with
    | none => cases h
    | some e => exact c_oS (sE a o tk e h).1
theorem sC : (io : IO) → ∀ {nm : Nm} {X : Cx} {W : WX}, Cok nm fa gc T k X → L2N.Takes X W → ∀ es : List Expr, chC nm X.N io X.env.scope es = true → PTs X es (tEvT X.K fa W (Cf.mk (callK T gc k) gc (wdT T)) fun env st => evC (Cf.mk (callK T gc k) gc (wdT T)) io env st)
  | .non, nm, X, W, o, tk, es, h => by
    cases es with
    | nil => exact ⟨fun pins s σ H Q I ⟨F, ρ, env, st, w, er, p⟩ => pts_nil.run pins s σ H Q I (Post.ok (rel := relE) p w rfl)⟩
    | cons a b => cases h
  | .som a, nm, X, W, o, tk, es, h => by
    unfold chC at h
    split at h
    · exact pts_one (sE a o tk _ h).2
    · cases h
theorem sI : (it : IT) → ∀ {nm : Nm} {X : Cx} {W : WX}, Cok nm fa gc T k X → L2N.Takes X W → ∀ (fl : Bool) (t e : Expr), chI nm X.N it X.env.scope t e = true → PI X t e (tIv X.K fa W (Cf.mk (callK T gc k) gc (wdT T)) fl it)
  | .seq a, nm, X, W, o, tk, fl, t, e, h => i_seq (sE a o tk e h).1
  | .rng1 a, nm, X, W, o, tk, fl, t, e, h => by
    unfold chI at h
    split at h
    · obtain ⟨h1, h2⟩ := b3 h
      obtain ⟨h3, h4⟩ := b3 h1
      have hx := of_decide_eq_true h3
      exact i_rng1 hx (gl_of h4) (by rw [hx]; exact free_of o (by simp [freeNames])) (sE a o tk _ h2).1 (fun r => chE_star h2 r _)
    · cases h
  | .rng2 a b, nm, X, W, o, tk, fl, t, e, h => by
    unfold chI at h
    split at h
    · obtain ⟨h1, h2⟩ := b3 h
      obtain ⟨h3, h4⟩ := b3 h1
      obtain ⟨h5, h6⟩ := b3 h3
      have hx := of_decide_eq_true h5
      exact i_rng2 hx (gl_of h6) (by rw [hx]; exact free_of o (by simp [freeNames])) (sE a o tk _ h4).1 (sE b o tk _ h2).1 (fun r => chE_star h4 r _) (fun r => chE_star h2 r _)
    · cases h
  | .zip a b, nm, X, W, o, tk, fl, t, e, h => by
    unfold chI at h
    split at h
    · obtain ⟨h1, h2⟩ := b3 h
      obtain ⟨h3, h4⟩ := b3 h1
      obtain ⟨h5, h6⟩ := b3 h3
      obtain ⟨h7, h8⟩ := b3 h5
      have hx := of_decide_eq_true h7
      cases t <;> first | cases h6 | skip
      exact i_zip hx (gl_of h8) (by rw [hx]; exact free_of o (by simp [freeNames])) (sE a o tk _ h4).1 (sE b o tk _ h2).1 (fun r => chE_star h4 r _) (fun r => chE_star h2 r _)
    · cases h
  | .enum a, nm, X, W, o, tk, fl, t, e, h => by
    unfold chI at h
    split at h
    · obtain ⟨h1, h2⟩ := b3 h
      obtain ⟨h3, h4⟩ := b3 h1
      obtain ⟨h5, h6⟩ := b3 h3
      have hx := of_decide_eq_true h5
      cases t <;> first | cases h4 | skip
      exact i_enum hx (gl_of h6) (by rw [hx]; exact free_of o (by simp [freeNames])) (sE a o tk _ h2).1 (fun r => chE_star h2 r _)
    · cases h
end
end
end DE
end

section
set_option Elab.async false
set_option linter.all false
set_option maxRecDepth 100000
set_option autoImplicit false
namespace DE
open PySem PySem.Spec L2
/-- what stands still stands -/
structure SExt (F : Addr → Prop) (H : Hp) (F' : Addr → Prop) (H' : Hp) : Prop where
  sub : ∀ a, F a → F' a
  keep : ∀ a o, F a → H a = some o → (∀ ps, o ≠ .tbl ps) → H' a = some o
theorem SExt.refl (F : Addr → Prop) (H : Hp) : SExt F H F H := ⟨fun _ h => h, fun _ _ _ h _ => h⟩
theorem SExt.trans {F F' F2 : Addr → Prop} {H H' H2 : Hp} (a : SExt F H F' H') (b : SExt F' H' F2 H2) : SExt F H F2 H2 := ⟨fun c h => b.sub c (a.sub c h), fun c o f h t => b.keep c o (a.sub c f) (a.keep c o f h t) t⟩
theorem SExt.of {F F' : Addr → Prop} {ρ ρ' : List Addr} {H H' : Hp} (dis : ∀ a, a ∈ ρ → ¬ F a) (e : Ext F ρ H F' ρ' H') : SExt F H F' H' := ⟨e.sub, fun a o f h t => e.keep a o h (fun z => dis a z f) t⟩
/-- a name's own things are younger than the entry -/
def OwnF (H0 : Hp) (σ : L2.St) (env : Env) : Prop := ∀ (i : Nat) (o : SO) (a : Addr), env[i]? = some (.own o) → σ[i]? = some (some (.ref a)) → nt H0 a = none
/-- the entry -/
structure Ent where
  F : Addr → Prop
  ρ : List Addr
  H : Hp
/-- where one stands -/
structure At (K : PySem.W.Frag) (fa : Fa) (z : Ent) (F : Addr → Prop) (ρ : List Addr) (H : Hp) (σ : L2.St) (env : Env) (st : Store) : Prop where
  ext : Ext z.F z.ρ z.H F ρ H
  wok : Wok K fa F ρ H st
  er : ERel K fa F ρ H σ env
  ow : OwnF z.H σ env
def PostS (K : PySem.W.Frag) (fa : Fa) (W : WX) (z : Ent) (F : Addr → Prop) (H : Hp) (r : R Fl) (D : Ends) : Prop := match r with
  | .ok (.nx env) st => ∀ σ F' ρ' H', At K fa z F' ρ' H' σ env st → SExt F H F' H' → D.nx σ H'
  | .ok (.bk env) st => ∀ σ F' ρ' H', At K fa z F' ρ' H' σ env st → SExt F H F' H' → D.bk σ H'
  | .ok (.ct env) st => ∀ σ F' ρ' H', At K fa z F' ρ' H' σ env st → SExt F H F' H' → D.ct σ H'
  | .ok (.rt d) st => ∀ v F' ρ' H', Ext z.F z.ρ z.H F' ρ' H' → Wok K fa F' ρ' H' st → DV K fa F' ρ' H' v d → D.rt v H'
  | .exc k x st => ∀ σ F' ρ' H', Ext z.F z.ρ z.H F' ρ' H' → Wok K fa F' ρ' H' st → x = none → W (.ref (fa k)) none σ H'
  | .bad => False
def tEx (K : PySem.W.Frag) (fa : Fa) (W : WX) (z : Ent) (f : Env → Store → R Fl) : TS := fun D σ H => ∃ F ρ env st, At K fa z F ρ H σ env st ∧ PostS K fa W z F H (f env st) D
section
variable {K : PySem.W.Frag} {fa : Fa} {W : WX} {z : Ent} {F F' : Addr → Prop} {ρ ρ' : List Addr} {H H' : Hp} {σ : L2.St} {env : Env} {st : Store} {DD : Ends} {r : R Fl}
theorem PostS.rebase (h : PostS K fa W z F H r DD) (e : SExt F H F' H') : PostS K fa W z F' H' r DD := by
  cases r with
  | bad => exact h
  | exc k x s => exact h
  | ok a s =>
    cases a with
    | nx env => exact fun σ F2 ρ2 H2 a x => h σ F2 ρ2 H2 a (e.trans x)
    | bk env => exact fun σ F2 ρ2 H2 a x => h σ F2 ρ2 H2 a (e.trans x)
    | ct env => exact fun σ F2 ρ2 H2 a x => h σ F2 ρ2 H2 a (e.trans x)
    | rt d => exact h
theorem OwnF.mono (h : OwnF H σ env) (e : Ext F ρ H' F' ρ' H) : OwnF H' σ env := fun i o a h1 h2 => e.there a (h i o a h1 h2)
/-- behind an expression -/
theorem At.expr (a : At K fa z F ρ H σ env st) {st' : Store} (e : Ext F ρ H F' ρ' H') (w : Wok K fa F' ρ' H' st') : At K fa z F' ρ' H' σ env st' := ⟨a.ext.trans e, w, a.er.mono a.wok e, a.ow⟩
/-- an expression first, then the rest -/
theorem exS {f : Env → Store → R D} {g : D → Store → R Fl} (a : At K fa z F ρ H σ env st) (h : PostS K fa W z F H ((f env st).bind g) DD) {Q1 : VK}
    (k : ∀ x H1 F1 ρ1 d st1, Ext F ρ H F1 ρ1 H1 → Wok K fa F1 ρ1 H1 st1 → DR K fa F1 ρ1 H1 H x d → PostS K fa W z F H (g d st1) DD → Q1 x H1) : tEvF K fa W f σ H Q1 := by
  refine ⟨F, ρ, env, st, a.wok, a.er, ?_⟩
  cases q : f env st with
  | bad =>
    rw [q] at h
    exact h.elim
  | exc kk x s =>
    rw [q] at h
    exact fun F' ρ' H' e w ex => h σ F' ρ' H' (a.ext.trans e) w ex
  | ok d s =>
    rw [q] at h
    exact fun b F1 ρ1 H1 e w r => k b H1 F1 ρ1 d s e w r h
theorem exSL {c : Cf} {il : IL} {g : List D → Store → R Fl} (a : At K fa z F ρ H σ env st) (h : PostS K fa W z F H ((evL c il env st).bind g) DD) {Q1 : List V → Hp → Prop}
    (k : ∀ x H1 F1 ρ1 d st1, Ext F ρ H F1 ρ1 H1 → Wok K fa F1 ρ1 H1 st1 → DRs K fa F1 ρ1 H1 H x d → Apart x d → PostS K fa W z F H (g d st1) DD → Q1 x H1) : tEvL K fa W c il σ H Q1 := by
  refine ⟨F, ρ, env, st, a.wok, a.er, ?_⟩
  cases q : evL c il env st with
  | bad =>
    rw [q] at h
    exact h.elim
  | exc kk x s =>
    rw [q] at h
    exact fun F' ρ' H' e w ex => h σ F' ρ' H' (a.ext.trans e) w ex
  | ok d s =>
    rw [q] at h
    exact fun b F1 ρ1 H1 e w r => k b H1 F1 ρ1 d s e w r.1 r.2 h
theorem exST {c : Cf} {t : Env → Store → R Bool} {g : Bool → Store → R Fl} (a : At K fa z F ρ H σ env st) (h : PostS K fa W z F H ((t env st).bind g) DD) {Q1 : Bool → Hp → Prop}
    (k : ∀ b H1 F1 ρ1 st1, At K fa z F1 ρ1 H1 σ env st1 → SExt F H F1 H1 → PostS K fa W z F H (g b st1) DD → Q1 b H1) : tEvT K fa W c t σ H Q1 := by
  refine ⟨F, ρ, env, st, a.wok, a.er, ?_⟩
  cases q : t env st with
  | bad =>
    rw [q] at h
    exact h.elim
  | exc kk x s =>
    rw [q] at h
    exact fun F' ρ' H' e w ex => h σ F' ρ' H' (a.ext.trans e) w ex
  | ok b s =>
    rw [q] at h
    intro b' F1 ρ1 H1 e w r
    cases (show b' = b from r)
    exact k b H1 F1 ρ1 s (a.expr e w) (SExt.of a.wok.dis e) h
variable {X : Cx} {s : Stmt} {ss : List Stmt} {c : Cf}
theorem ps_of {t t' : TS} (h : PS X s t) (i : ∀ D σ H, t' D σ H → t D σ H) : PS X s t' := ⟨fun pins sh σ H D I q => h.run pins sh σ H D I (i D σ H q)⟩
theorem pss_of {t t' : TS} (h : PSs X ss t) (i : ∀ D σ H, t' D σ H → t D σ H) : PSs X ss t' := ⟨fun pins sh σ H D I q => h.run pins sh σ H D I (i D σ H q)⟩
theorem PostS.next (a : At K fa z F ρ H σ env st) (h : PostS K fa W z F H (.ok (.nx env) st) DD) : DD.nx σ H := h σ F ρ H a (.refl _ _)
theorem b_nil : PSs X [] (tEx X.K fa W z (execs c .nil)) := pss_of pss_nil fun D σ H ⟨F, ρ, env, st, a, p⟩ => PostS.next a p
theorem seqR {G : Env → Store → R Fl} (a : At K fa z F ρ H σ env st) {f : Env → Store → R Fl} (h : PostS K fa W z F H ((f env st).bind fun r st => match r with | .nx env => G env st | r => .ok r st) DD) : PostS K fa W z F H (f env st) { DD with nx := tEx K fa W z G DD } := by
  cases q : f env st with
  | bad =>
    rw [q] at h
    exact h
  | exc kk x s =>
    rw [q] at h
    exact h
  | ok d s =>
    rw [q] at h
    cases d with
    | nx env' => exact fun σ' F' ρ' H' a' e => ⟨F', ρ', env', s, a', PostS.rebase h e⟩
    | bk env' => exact h
    | ct env' => exact h
    | rt d => exact h
theorem b_cons {is : IS} {ib : IB} (h1 : PS X s (tEx X.K fa W z (exec c is))) (h2 : PSs X ss (tEx X.K fa W z (execs c ib))) : PSs X (s :: ss) (tEx X.K fa W z (execs c (.cons is ib))) := pss_of (pss_cons h1 h2) fun D σ H ⟨F, ρ, env, st, a, p⟩ =>
  ⟨F, ρ, env, st, a, seqR a p⟩
/-- a name's own list is let go -/
theorem b_frz {i : Nat} {ib : IB} (h2 : PSs X ss (tEx X.K fa W z (execs c ib))) : PSs X ss (tEx X.K fa W z (execs c (.cons (.frz i) ib))) := pss_of h2 fun D σ H ⟨F, ρ, env, st, a, p⟩ => by
  have p : PostS X.K fa W z F H ((match env[i]? with | some (.own (.lst xs)) => R.ok (Fl.nx (setS env i (.p (.lst xs)))) st | _ => .bad).bind fun r st => match r with | .nx env => execs c ib env st | r => .ok r st) D := p
  cases q : env[i]? with
  | none =>
    rw [q] at p
    exact p.elim
  | some sl =>
    rw [q] at p
    cases sl with
    | un => exact p.elim
    | val d => exact p.elim
    | own so =>
      cases so with
      | dic kvs => exact p.elim
      | lst xs =>
        obtain ⟨ad, h1, ⟨vs, h3, h4⟩, h5, h6⟩ := a.er.own i _ q
        have hh := nt_lst h3
        have hi : i < env.length := (List.getElem?_eq_some_iff.mp q).1
        -- the others stand elsewhere
        have other : ∀ (j : Nat) (o' : SO), j ≠ i → env[j]? = some (.own o') → σ[j]? ≠ some (some (.ref ad)) := fun j o' hj e1 e2 => hj (a.er.dist j i o' _ ad e1 q e2 h1)
        have σi : σ.set i (some (.ref ad)) = σ := by
          apply List.ext_getElem?
          intro j
          by_cases hj : i = j
          · subst hj
            rw [List.getElem?_set, if_pos rfl, if_pos (by rw [a.er.len]; exact hi), h1]
          · rw [List.getElem?_set_ne hj]
        have er1 : ERel X.K fa (addF F ad) ρ H σ (setS env i (.p (.lst xs))) := by
          have un := a.er.un i (some (.ref ad))
          rw [σi] at un
          have fz := un.fz (a := ad) (fun j o' e => by
            by_cases hj : i = j
            · subst hj
              rw [List.getElem?_set, if_pos rfl, if_pos hi] at e
              cases e
            · rw [List.getElem?_set_ne hj] at e
              exact other j o' (fun z => hj z.symm) e)
          have st2 := fz.set i (v := .ref ad) (d := .p (.lst xs)) (VR.lst (.inr rfl) h3 (h4.sub fun _ h => .inl h))
          rw [σi, List.set_set] at st2
          exact st2
        have at1 : At X.K fa z (addF F ad) ρ H σ (setS env i (.p (.lst xs))) st := ⟨a.ext.fz (a.ow i _ ad q h1), a.wok.fz h6 hh, er1, fun j o b e1 e2 => by
          by_cases hj : i = j
          · subst hj
            unfold setS at e1
            rw [List.getElem?_set, if_pos rfl, if_pos hi] at e1
            cases e1
          · unfold setS at e1
            rw [List.getElem?_set_ne hj] at e1
            exact a.ow j o b e1 e2⟩
        exact ⟨_, ρ, _, st, at1, PostS.rebase p ⟨fun _ h => .inl h, fun _ _ _ h _ => h⟩⟩
variable {e : Expr} {pos : Pos} {ie : IE}
theorem s_pass : PS X (.Pass pos) (tEx X.K fa W z (exec c .pass)) := ps_of ps_pass fun D σ H ⟨F, ρ, env, st, a, p⟩ => PostS.next a p
theorem s_brk : PS X (.Break pos) (tEx X.K fa W z (exec c .brk)) := ps_of ps_break fun D σ H ⟨F, ρ, env, st, a, p⟩ => p σ F ρ H a (.refl _ _)
theorem s_cont : PS X (.Continue pos) (tEx X.K fa W z (exec c .cont)) := ps_of ps_continue fun D σ H ⟨F, ρ, env, st, a, p⟩ => p σ F ρ H a (.refl _ _)
theorem s_exp (he : PE X e (tEv X.K fa W c ie)) (hs : swapsWith e none pos.line X.env = pure false) : PS X (.Expr e pos) (tEx X.K fa W z (exec c (.exp ie))) := ps_of (ps_expr he hs) fun D σ H ⟨F, ρ, env, st, a, p⟩ =>
  exS (f := ev c ie) (g := fun _ st => .ok (.nx env) st) a p fun x H1 F1 ρ1 d st1 e1 w1 r1 p1 => PostS.next (a.expr e1 w1) (PostS.rebase p1 (SExt.of a.wok.dis e1))
theorem s_retN : PS X (.Return none pos) (tEx X.K fa W z (exec c .retN)) := ps_of ps_retN fun D σ H ⟨F, ρ, env, st, a, p⟩ => p .non F ρ H a.ext a.wok VR.non
theorem s_ret (he : PE X e (tEv X.K fa W c ie)) : PS X (.Return (some e) pos) (tEx X.K fa W z (exec c (.ret ie))) := ps_of (ps_ret he) fun D σ H ⟨F, ρ, env, st, a, p⟩ => by
  have p : PostS X.K fa W z F H ((ev c ie env st).bind fun d st => match d.arg with
    | some d => .ok (.rt d) st
    | none => .bad) D := p
  refine exS (f := ev c ie) a p fun x H1 F1 ρ1 d st1 e1 w1 r1 p1 => ?_
  cases d with
  | p y => exact p1 x F1 ρ1 H1 (a.ext.trans e1) w1 r1
  | new xs =>
    obtain ⟨ad, vs, rfl, h1, h2, h3, h4, h5⟩ := r1
    have hh := nt_lst h1
    exact p1 _ (addF F1 ad) ρ1 H1 ((a.ext.trans e1).fz (a.ext.there ad h5)) (w1.fz h4 hh) (VR.lst (.inr rfl) h1 (h2.sub fun _ h => .inl h))
  | box n => exact p1 x F1 ρ1 H1 (a.ext.trans e1) w1 r1
  | bor o => exact p1.elim
theorem s_retB (he : PE X e (tEv X.K fa W c ie)) : PS X (.Return (some e) pos) (tEx X.K fa W z (exec c (.retB ie))) := ps_of (ps_ret he) fun D σ H ⟨F, ρ, env, st, a, p⟩ => by
  have p : PostS X.K fa W z F H ((ev c ie env st).bind fun d st => match d with
    | .new xs => .ok (.rt (.box st.length)) (st ++ [.lst xs])
    | _ => .bad) D := p
  refine exS (f := ev c ie) a p fun x H1 F1 ρ1 d st1 e1 w1 r1 p1 => ?_
  cases d with
  | new xs =>
    obtain ⟨ad, vs, rfl, h1, h2, h3, h4, h5⟩ := r1
    have hh := nt_lst h1
    refine p1 _ F1 (ρ1 ++ [ad]) H1 ?_ ⟨?_, ?_, ?_, ?_, w1.has, w1.tab⟩ ⟨ad, rfl, ?_⟩
    · obtain ⟨l, q1, q2⟩ := (a.ext.trans e1).pre
      refine ⟨(a.ext.trans e1).sub, (a.ext.trans e1).new, ⟨l ++ [ad], by rw [q1, List.append_assoc], fun b hb => ?_⟩, (a.ext.trans e1).keep, (a.ext.trans e1).there⟩
      rcases List.mem_append.mp hb with hb | hb
      · exact q2 b hb
      · have : b = ad := by simpa using hb
        rw [this]
        exact a.ext.there ad h5
    · rw [List.length_append, List.length_append, w1.len]
      rfl
    · rw [List.nodup_append]
      exact ⟨w1.nd, by simp, fun b hb c hc => by
        have : c = ad := by simpa using hc
        rw [this]
        exact fun z => h4 (z ▸ hb)⟩
    · intro n b o q1 q2
      by_cases hn : n < ρ1.length
      · rw [List.getElem?_append_left hn] at q1
        rw [List.getElem?_append_left (by rw [← w1.len]; exact hn)] at q2
        exact w1.box n b o q1 q2
      · have hn' : n = ρ1.length := by
          have := (List.getElem?_eq_some_iff.mp q1).1
          rw [List.length_append] at this
          simp at this
          omega
        subst hn'
        rw [List.getElem?_append_right (Nat.le_refl _)] at q1
        rw [w1.len, List.getElem?_append_right (Nat.le_refl _)] at q2
        simp at q1 q2
        subst q1 q2
        exact ⟨vs, h1, h2⟩
    · intro b hb f
      rcases List.mem_append.mp hb with hb | hb
      · exact w1.dis b hb f
      · have : b = ad := by simpa using hb
        rw [this] at f
        exact h3 f
    · rw [← w1.len, List.getElem?_append_right (Nat.le_refl _)]
      simp
  | _ => exact p1.elim
theorem s_ife {ia ib : IB} {sa sb : List Stmt} (ht : PT X e (tT X.K fa W c ie)) (ha : PSs X sa (tEx X.K fa W z (execs c ia))) (hb : PSs X sb (tEx X.K fa W z (execs c ib))) : PS X (.If e sa sb pos) (tEx X.K fa W z (exec c (.ife ie ia ib))) := ps_of (ps_if ht ha hb) fun D σ H ⟨F, ρ, env, st, a, p⟩ => by
  have p : PostS X.K fa W z F H ((evT c ie env st).bind fun k st => if k then execs c ia env st else execs c ib env st) D := p
  refine exST (c := c) a p fun b H1 F1 ρ1 st1 a1 s1 p1 => ?_
  cases b with
  | true => exact iteT ⟨F1, ρ1, env, st1, a1, PostS.rebase p1 s1⟩
  | false => exact iteF ⟨F1, ρ1, env, st1, a1, PostS.rebase p1 s1⟩
end
end DE
end

section
set_option Elab.async false
set_option linter.all false
set_option maxRecDepth 100000
set_option autoImplicit false
namespace DE
open PySem PySem.Spec L2
section
variable {X : Cx} {fa : Fa} {W : WX} {z : Ent} {c : Cf} {e : Expr} {pos : Pos} {ie : IE} {ib : IB} {ss : List Stmt}
theorem s_whl (hp : PassesOwn (model X.prog X.w) X.A X.env X.xe) (ht : PT X e (tT X.K fa W c ie)) (hb : PSs X ss (tEx X.K fa W z (execs c ib))) : PS X (.While e ss [] pos) (tEx X.K fa W z (exec c (.whl ie ib))) := ps_of (ps_while hp ht hb) fun D σ H h => by
  refine ⟨fun m σ H => tEx X.K fa W z (fun env st => whileGo (fun env st => evT c ie env st) (fun env st => execs c ib env st) m env st) D σ H, ⟨WN, h⟩, ?_⟩
  rintro m σ H ⟨F, ρ, env, st, a, p⟩
  cases m with
  | zero => exact p.elim
  | succ m =>
    have p : PostS X.K fa W z F H ((evT c ie env st).bind fun b st => if b then (execs c ib env st).bind fun r st => match r with
        | .nx env => whileGo (fun env st => evT c ie env st) (fun env st => execs c ib env st) m env st
        | .ct env => whileGo (fun env st => evT c ie env st) (fun env st => execs c ib env st) m env st
        | .bk env => .ok (.nx env) st
        | .rt d => .ok (.rt d) st
      else .ok (.nx env) st) D := p
    refine exST (c := c) a p fun b H1 F1 ρ1 st1 a1 s1 p1 => ?_
    have p1 := p1.rebase s1
    cases b with
    | false => exact iteF (PostS.next a1 p1)
    | true =>
      refine iteT ⟨fun σ' H' => tEx X.K fa W z (fun env st => whileGo (fun env st => evT c ie env st) (fun env st => execs c ib env st) m env st) D σ' H', fun σ' H' h => ⟨m, Nat.lt_succ_self _, h⟩, F1, ρ1, env, st1, a1, ?_⟩
      simp only [if_true] at p1
      cases q : execs c ib env st1 with
      | bad =>
        rw [q] at p1
        exact p1
      | exc kk x s =>
        rw [q] at p1
        exact p1
      | ok r s =>
        rw [q] at p1
        cases r with
        | nx env' => exact fun σ' F' ρ' H' a' e => ⟨F', ρ', env', s, a', PostS.rebase p1 e⟩
        | ct env' => exact fun σ' F' ρ' H' a' e => ⟨F', ρ', env', s, a', PostS.rebase p1 e⟩
        | bk env' => exact p1
        | rt d => exact p1
theorem asgT_own : ∀ {tg : Tg} {d : D} {env env1 : Env}, asgT tg d env = some env1 → ∀ (i : Nat) (o : SO), env1[i]? = some (.own o) → env[i]? = some (.own o) ∧ i ∉ tg.slots
  | .one j, d, env, env1, h, i, o, e => by
    have key : ∀ d', env1 = setS env j d' → env[i]? = some (Sl.own o) ∧ i ∉ (Tg.one j).slots := fun d' q => by
      subst q
      by_cases hj : j = i
      · subst hj
        unfold setS at e
        rw [List.getElem?_set, if_pos rfl] at e
        split at e <;> cases e
      · unfold setS at e
        rw [List.getElem?_set_ne hj] at e
        exact ⟨e, by simp [Tg.slots, Ne.symm hj]⟩
    cases d with
    | p x => exact key _ (Option.some.inj h).symm
    | box n => exact key _ (Option.some.inj h).symm
    | _ => cases h
  | .two a b, d, env, env1, h, i, o, e => by
    cases d with
    | p x =>
      cases x with
      | tup xs =>
        match xs, h with
        | [x, y], h =>
          have h : (match asgT a (.p x) env with | some env1 => asgT b (.p y) env1 | none => none) = some env1 := h
          cases q : asgT a (.p x) env with
          | none =>
            rw [q] at h
            cases h
          | some env2 =>
            rw [q] at h
            obtain ⟨h1, h2⟩ := asgT_own h i o e
            obtain ⟨h3, h4⟩ := asgT_own q i o h1
            exact ⟨h3, by simp [Tg.slots, h2, h4]⟩
      | _ => cases h
    | _ => cases h
theorem s_for {tgt : Tg} {it : IT} {t i : Expr} (hp : PassesOwn (model X.prog X.w) X.A X.env X.xe) (hc : X.calm = true) (hi : PI X t i (tIv X.K fa W c true it)) (hg : PG X t (gTv X.K fa tgt)) (hb : PSs X ss (tEx X.K fa W z (execs c ib))) (hs : ∀ x, foldedSetIterable i X.env x = pure x) :
    PS X (.For t i ss [] pos) (tEx X.K fa W z (exec c (.for_ tgt it ib))) := ps_of (ps_for hp hc hi hg hb hs) fun D σ H ⟨F, ρ, env, st, a, p⟩ => by
  have p : PostS X.K fa W z F H ((evI c true it env st).bind fun xs st => forGo (fun env st => execs c ib env st) tgt xs env st) D := p
  refine ⟨F, ρ, env, st, a.wok, a.er, ?_⟩
  cases q : evI c true it env st with
  | bad =>
    rw [q] at p
    exact p.elim
  | exc kk x s =>
    rw [q] at p
    exact fun F' ρ' H' e w ex => p σ F' ρ' H' (a.ext.trans e) w ex
  | ok xs st1 =>
    rw [q] at p
    have p : PostS X.K fa W z F H (forGo (fun env st => execs c ib env st) tgt xs env st1) D := p
    intro J F1 ρ1 H1 e1 w1 ⟨S, itw, hS⟩
    -- what is walked is kept
    have a1 := a.expr e1 w1
    have a2 : At X.K fa z (fun b => F1 b ∨ b ∈ S) ρ1 H1 σ env st1 := by
      refine ⟨⟨fun b h => .inl (a1.ext.sub b h), fun b h => ?_, a1.ext.pre, a1.ext.keep, a1.ext.there⟩, ⟨w1.len, w1.nd, fun n b o h1 h2 => (w1.box n b o h1 h2).sub fun _ h => .inl h, fun b hb h => ?_, fun b h => ?_, w1.tab⟩, ⟨a1.er.len, fun i d h => ?_, fun i o h => ?_, a1.er.dist⟩, a1.ow⟩
      · rcases h with h | h
        · exact a1.ext.new b h
        · rcases (hS b h).2.2 rfl with h | h
          · exact a1.ext.new b h
          · exact .inr (a.ext.there b h)
      · rcases h with h | h
        · exact w1.dis b hb h
        · exact (hS b h).1 hb
      · rcases h with h | h
        · exact w1.has b h
        · obtain ⟨o, h1, h2⟩ := (hS b h).2.1
          exact nt_ne h1 h2
      · obtain ⟨v, h1, h2⟩ := a1.er.val i d h
        exact ⟨v, h1, h2.sub fun _ h => .inl h⟩
      · obtain ⟨b, h1, h2, h3, h4⟩ := a1.er.own i o h
        refine ⟨b, h1, h2.sub fun _ h => .inl h, fun hb => ?_, h4⟩
        rcases hb with hb | hb
        · exact h3 hb
        · rcases (hS b hb).2.2 rfl with hb | hb
          · exact h3 hb
          · obtain ⟨b', g1, g2, _⟩ := a.er.own i o h
            rw [h1] at g1
            cases g1
            exact g2.has hb
    have s2 : SExt F H (fun b => F1 b ∨ b ∈ S) H1 := (SExt.of a.wok.dis e1).trans ⟨fun _ h => .inl h, fun _ _ _ h _ => h⟩
    have keepS : ∀ {F' : Addr → Prop} {H' : Hp}, SExt (fun b => F1 b ∨ b ∈ S) H1 F' H' → ∀ b, b ∈ S → H' b = H1 b := fun {F' H'} e b hb => by
      obtain ⟨_, ⟨o, h1, h2⟩, _⟩ := hS b hb
      rw [e.keep b o (.inr hb) h1 h2, h1]
    refine ⟨fun i m σ' H' => m = xs.length - i ∧ i ≤ xs.length ∧ ∃ F' ρ' env' st', At X.K fa z F' ρ' H' σ' env' st' ∧ SExt (fun b => F1 b ∨ b ∈ S) H1 F' H' ∧ PostS X.K fa W z F' H' (forGo (fun env st => execs c ib env st) tgt (xs.drop i) env' st') D,
      ⟨xs.length, by simp, Nat.zero_le _, _, ρ1, env, st1, a2, .refl _ _, p.rebase s2⟩, ?_⟩
    rintro i m σ' H' ⟨rfl, hi, F', ρ', env', st', a', s', p'⟩
    have hS' := keepS s'
    by_cases hlt : i < xs.length
    · refine .inr ⟨itw.go H' i hS' hlt, fun σ' H' => ∃ F' ρ' env' st', At X.K fa z F' ρ' H' σ' env' st' ∧ SExt (fun b => F1 b ∨ b ∈ S) H1 F' H' ∧ PostS X.K fa W z F' H' (forGo (fun env st => execs c ib env st) tgt (xs.drop (i + 1)) env' st') D,
        fun σ2 H2 h2 => ⟨xs.length - (i + 1), by omega, rfl, hlt, h2⟩, fun v H2 y => ?_⟩
      have hx : xs[i]? = some xs[i] := List.getElem?_eq_getElem hlt
      rw [List.drop_eq_getElem_cons hlt] at p'
      have p' : PostS X.K fa W z F' H' (match asgT tgt (.p xs[i]) env' with
        | some env1 => (execs c ib env1 st').bind fun r st => match r with
          | .nx env => forGo (fun env st => execs c ib env st) tgt (xs.drop (i + 1)) env st
          | .ct env => forGo (fun env st => execs c ib env st) tgt (xs.drop (i + 1)) env st
          | .bk env => .ok (.nx env) st
          | .rt d => .ok (.rt d) st
        | none => .bad) D := p'
      obtain ⟨F2, ex2, wk2, hv2, _⟩ := itw.yld F' ρ' H' st' i xs[i] v H2 hS' (fun b h => s'.sub b (.inl h)) (fun b o f h t => s'.keep b o (.inl f) h t) a'.wok hx y
      cases hq : asgT tgt (.p xs[i]) env' with
      | none =>
        rw [hq] at p'
        exact p'.elim
      | some env1 =>
        rw [hq] at p'
        refine ⟨F2, ρ', env', .p xs[i], env1, hv2, a'.er.mono a'.wok ex2, hq, fun σ2 er2 off => ?_⟩
        have a3 : At X.K fa z F2 ρ' H2 σ2 env1 st' := ⟨a'.ext.trans ex2, wk2, er2, fun j o b g1 g2 => by
          obtain ⟨g3, g4⟩ := asgT_own hq j o g1
          rw [off.2 j g4] at g2
          exact a'.ow j o b g3 g2⟩
        have s3 := SExt.of a'.wok.dis ex2
        have p3 := p'.rebase s3
        refine ⟨F2, ρ', env1, st', a3, ?_⟩
        cases q2 : execs c ib env1 st' with
        | bad =>
          simp only [q2] at p3
          exact p3
        | exc kk x s =>
          simp only [q2] at p3
          exact p3
        | ok r s =>
          simp only [q2] at p3
          cases r with
          | nx env2 => exact fun σ4 F4 ρ4 H4 a4 e4 => ⟨F4, ρ4, env2, s, a4, (s'.trans s3).trans e4, PostS.rebase p3 e4⟩
          | ct env2 => exact fun σ4 F4 ρ4 H4 a4 e4 => ⟨F4, ρ4, env2, s, a4, (s'.trans s3).trans e4, PostS.rebase p3 e4⟩
          | bk env2 => exact p3
          | rt d => exact p3
    · have he : i = xs.length := by omega
      subst he
      rw [List.drop_length] at p'
      exact .inl ⟨itw.stop H' _ hS' (Nat.le_refl _), PostS.next a' p'⟩
end
end DE
end

section
set_option Elab.async false
set_option linter.all false
set_option maxRecDepth 100000
set_option autoImplicit false
namespace DE
open PySem PySem.Spec L2
def isComp : Expr → Option Scope
  | .ListComp _ _ s _ => some s
  | .SetComp _ _ s _ => some s
  | .DictComp _ _ _ s _ => some s
  | _ => none
theorem sw_no {e : Expr} {t : Option Expr} {l : Nat} {env : PySem.Env} (h : isComp e = none) : swapsWith e t l env = pure false := by
  cases e <;> first | rfl | cases h
theorem sw_sub {e o i : Expr} {p : Pos} {l : Nat} {env : PySem.Env} : swapsWith e (some (.Subscript o i p)) l env = pure false := by
  cases e <;> rfl
theorem sw_tup {e : Expr} {es : List Expr} {k : Nat} {p : Pos} {l : Nat} {env : PySem.Env} : swapsWith e (some (.Tuple es k p)) l env = pure false := by
  cases e <;> rfl
theorem sw_cell {e : Expr} {x : Str} {p : Pos} {l : Nat} {env : PySem.Env} (h : env.scope.names.lookup x = some .cell) : swapsWith e (some (.Name x p)) l env = pure false := by
  have ky : env.kindOf x = some .cell := h
  cases e <;> first | rfl | (unfold swapsWith; simp only [ky]; show pure ((_ && false && _) && _) = pure false; rw [Bool.and_false]; rfl)
/-- the names that are stored from the right -/
def swP (ts vs : List Expr) (isF : Bool) (sc : Scope) : Option (Option (List Str)) :=
  if !(ts.length == 2 || ts.length == 3) || vs.length != ts.length || !isF then some none
  else if vs.any (fun | .Starred .. => true | _ => false) then some none
  else
    let line := (ts.head?.map (·.pos.line)).getD 0
    let names := ts.filterMap fun
      | .Name id pos => if sc.names.lookup id == some .local && pos.line == line then some id else none
      | _ => none
    if names.length != ts.length || names.eraseDups.length != names.length then some none
    else if vs.all (foldedForSure 8) then some none
    else if vs.all (constantsAlone 8) then none
    else some (some names)
def isFn (sc : Scope) : Bool := (if sc.kind.isAnnotationScope then ScopeKind.function else sc.kind) == .function
theorem swP_ok {ts vs : List Expr} {k k2 : Nat} {p p2 : Pos} {env : PySem.Env} {r : Option (List Str)} (h : swP ts vs (isFn env.scope) env.scope = some r) : swappedStores [.Tuple ts k p] (.Tuple vs k2 p2) env = pure r := by
  unfold swP at h
  unfold swappedStores
  dsimp only
  split at h
  · rename_i q
    cases h
    exact if_pos q
  · rename_i q
    refine (if_neg q).trans ?_
    split at h
    · rename_i q2
      cases h
      exact if_pos q2
    · rename_i q2
      refine (if_neg q2).trans ?_
      dsimp only at h
      split at h
      · rename_i q3
        cases h
        exact if_pos q3
      · rename_i q3
        refine (if_neg q3).trans ?_
        split at h
        · rename_i q4
          cases h
          exact if_pos q4
        · rename_i q4
          refine (if_neg q4).trans ?_
          split at h
          · cases h
          · rename_i q5
            cases h
            exact if_neg q5

section
variable {K : PySem.W.Frag} {fa : Fa} {W : WX} {z : Ent} {F F' : Addr → Prop} {ρ ρ' : List Addr} {H H' H0 : Hp} {σ : L2.St} {env : Env} {st : Store} {DD : Ends} {r : R Fl} {v : V} {d : D} {ad : Addr} {o : SO}
theorem set_own {env : Env} {i j : Nat} {s : Sl} {o : SO} (hs : ∀ o, s ≠ .own o) (h : (env.set i s)[j]? = some (.own o)) : j ≠ i ∧ env[j]? = some (.own o) := by
  by_cases hj : i = j
  · subst hj
    rw [List.getElem?_set, if_pos rfl] at h
    split at h
    · cases h
      exact absurd rfl (hs o)
    · cases h
  · rw [List.getElem?_set_ne hj] at h
    exact ⟨fun z => hj z.symm, h⟩
theorem At.setV (a : At K fa z F ρ H σ env st) (i : Nat) (hv : DV K fa F ρ H v d) : At K fa z F ρ H (σ.set i (some v)) (setS env i d) st :=
  ⟨a.ext, a.wok, a.er.set i hv, fun j o b h1 h2 => by
    obtain ⟨hj, h1⟩ := set_own (fun _ e => by cases e) h1
    rw [List.getElem?_set_ne (fun z => hj z.symm)] at h2
    exact a.ow j o b h1 h2⟩
theorem At.setO (a : At K fa z F ρ H σ env st) (i : Nat) (h : SR K fa F H ad o) (hf : ¬ F ad) (hr : ad ∉ ρ) (hn : ∀ j o', j ≠ i → env[j]? = some (.own o') → σ[j]? ≠ some (some (.ref ad))) (hz : nt z.H ad = none) :
    At K fa z F ρ H (σ.set i (some (.ref ad))) (DE.setO env i o) st :=
  ⟨a.ext, a.wok, a.er.setO i h hf hr hn, fun j o' b h1 h2 => by
    unfold DE.setO at h1
    by_cases hj : i = j
    · subst hj
      rw [List.getElem?_set, if_pos rfl] at h2
      split at h2
      · cases h2
        exact hz
      · cases h2
    · rw [List.getElem?_set_ne hj] at h1 h2
      exact a.ow j o' b h1 h2⟩
theorem At.fz (a : At K fa z F ρ H σ env st) (hn : ∀ (j : Nat) (o' : SO), env[j]? = some (.own o') → σ[j]? ≠ some (some (.ref ad))) (hr : ad ∉ ρ) (hh : nt H ad ≠ none) (hz : nt z.H ad = none) : At K fa z (addF F ad) ρ H σ env st :=
  ⟨a.ext.fz hz, a.wok.fz hr hh, a.er.fz hn, a.ow⟩
theorem keepF {o : HO} (hf : ¬ F ad) : ∀ b q, F b → H b = some q → (∀ ps, q ≠ .tbl ps) → upd H ad o b = some q := fun b q f h _ => by
  have hb : b ≠ ad := fun e => by
    rw [e] at f
    exact hf f
  rw [upd_ne hb]
  exact h
theorem SR.upd {o : HO} {b : Addr} {so : SO} (hf : ¬ F ad) (hb : b ≠ ad) (h : SR K fa F H b so) : SR K fa F (upd H ad o) b so := by
  cases so with
  | lst xs =>
    obtain ⟨vs, h1, h2⟩ := h
    exact ⟨vs, by rw [upd_ne hb]; exact h1, h2.mono2 (fun _ h => h) (keepF hf)⟩
  | dic kvs => exact h.elim
theorem SB.upd {o : HO} {b : Addr} {so : SO} (hf : ¬ F ad) (hb : b ≠ ad) (h : SB K fa F H b so) : SB K fa F (upd H ad o) b so := h.mono2 (fun _ h => h) (keepF hf) (upd_ne hb)
theorem SR.isL {a : Addr} {o : SO} (h : SR K fa F H a o) : ∃ ws, H a = some (.lst ws) := by
  cases o with
  | lst xs => exact ⟨_, h.choose_spec.1⟩
  | dic kvs => exact h.elim
/-- a name's own list is written -/
theorem At.updO (a : At K fa z F ρ H σ env st) {i : Nat} {so : SO} {vs : List V} {xs : List P} (hi : env[i]? = some (.own so)) (hs : σ[i]? = some (some (.ref ad))) (hv : VRs K fa F H vs xs) :
    At K fa z F ρ (upd H ad (.lst vs)) σ (DE.setO env i (.lst xs)) st ∧ SExt F H F (upd H ad (.lst vs)) := by
  obtain ⟨b, h1, h2, h3, h4⟩ := a.er.own i so hi
  rw [hs] at h1
  cases h1
  have hz : nt z.H ad = none := a.ow i so ad hi hs
  obtain ⟨ws, hl⟩ := h2.isL
  have hil : i < env.length := (List.getElem?_eq_some_iff.mp hi).1
  have σi : σ.set i (some (.ref ad)) = σ := by
    apply List.ext_getElem?
    intro j
    by_cases hj : i = j
    · subst hj
      rw [List.getElem?_set, if_pos rfl, if_pos (by rw [a.er.len]; exact hil), hs]
    · rw [List.getElem?_set_ne hj]
  refine ⟨⟨⟨a.ext.sub, a.ext.new, a.ext.pre, fun b q h hb ht => ?_, fun b h => a.ext.there b (nt_upd (o := .lst vs) (fun _ z => nomatch z) h)⟩, ⟨a.wok.len, a.wok.nd, fun n b o q1 q2 => ?_, a.wok.dis, fun b f h => a.wok.has b f (nt_upd (o := .lst vs) (fun _ z => nomatch z) h), tabs_upd a.wok.tab hl⟩, ?_, ?_⟩, ⟨fun _ h => h, keepF h3⟩⟩
  · have hne : b ≠ ad := fun e => nt_abs hz (e ▸ h) ht
    rw [upd_ne hne]
    exact a.ext.keep b q h hb ht
  · exact (a.wok.box n b o q1 q2).upd h3 (fun e => h4 (e ▸ List.mem_of_getElem? q1))
  · have er1 : ERel K fa F ρ (upd H ad (.lst vs)) σ (env.set i .un) := by
      have un := a.er.un i (some (.ref ad))
      rw [σi] at un
      refine ⟨un.len, fun j d h => ?_, fun j o h => ?_, un.dist⟩
      · obtain ⟨v, g1, g2⟩ := un.val j d h
        refine ⟨v, g1, ?_⟩
        cases d with
        | p x => exact VR.mono2 (fun _ h => h) (keepF h3) g2
        | box n => exact g2
        | _ => exact g2.elim
      · obtain ⟨b, g1, g2, g3, g4⟩ := un.own j o h
        obtain ⟨hj, h'⟩ := set_own (fun _ e => by cases e) h
        exact ⟨b, g1, g2.upd h3 (fun e => hj (a.er.dist j i o so ad h' hi (e ▸ g1) hs)), g3, g4⟩
    have er2 := er1.setO i (a := ad) (o := .lst xs) ⟨vs, upd_same, hv.mono2 (fun _ h => h) (keepF h3)⟩ h3 h4 (fun j o' hj e => by
      obtain ⟨_, e⟩ := set_own (fun _ e => by cases e) e
      exact fun q => hj (a.er.dist j i o' so ad e hi q hs))
    rw [σi, List.set_set] at er2
    exact er2
  · intro j o b g1 g2
    by_cases hj : i = j
    · subst hj
      rw [hs] at g2
      cases g2
      exact hz
    · unfold DE.setO at g1
      rw [List.getElem?_set_ne hj] at g1
      exact a.ow j o b g1 g2
/-- a box is written -/
theorem At.updBO (a : At K fa z F ρ H σ env st) {n : Nat} {u : HO} {so : SO} (hn : ρ[n]? = some ad) (hut : ∀ ps, u ≠ .tbl ps) (hv : SB K fa F (upd H ad u) ad so) (hst : n < st.length) :
    At K fa z F ρ (upd H ad u) σ env (st.set n so) ∧ SExt F H F (upd H ad u) := by
  have hm : ad ∈ ρ := List.mem_of_getElem? hn
  have h3 : ¬ F ad := a.wok.dis ad hm
  have hl := (a.wok.box n ad _ hn (List.getElem?_eq_getElem hst)).ob
  refine ⟨⟨⟨a.ext.sub, a.ext.new, a.ext.pre, fun b q h hb ht => ?_, fun b h => a.ext.there b (nt_upd (o := u) hut h)⟩, ⟨by rw [List.length_set]; exact a.wok.len, a.wok.nd, fun m b o q1 q2 => ?_, a.wok.dis, fun b f h => a.wok.has b f (nt_upd (o := u) hut h), tabs_updO a.wok.tab hl⟩, ?_, a.ow⟩, ⟨fun _ h => h, keepF h3⟩⟩
  · have hne : b ≠ ad := fun e => by
      obtain ⟨l, p1, p2⟩ := a.ext.pre
      rw [p1] at hm
      rcases List.mem_append.mp hm with hm | hm
      · exact hb (e ▸ hm)
      · exact nt_abs (p2 ad hm) (e ▸ h) ht
    rw [upd_ne hne]
    exact a.ext.keep b q h hb ht
  · by_cases hnm : n = m
    · subst hnm
      rw [hn] at q1
      cases q1
      rw [List.getElem?_set, if_pos rfl, if_pos hst] at q2
      cases q2
      exact hv
    · rw [List.getElem?_set_ne hnm] at q2
      refine (a.wok.box m b o q1 q2).upd h3 (fun e => hnm ?_)
      subst e
      obtain ⟨l1, e1⟩ := List.getElem?_eq_some_iff.mp hn
      obtain ⟨l2, e2⟩ := List.getElem?_eq_some_iff.mp q1
      exact (List.getElem_inj (h₀ := l1) (h₁ := l2) a.wok.nd).mp (e1.trans e2.symm)
  · refine ⟨a.er.len, fun j d h => ?_, fun j o h => ?_, a.er.dist⟩
    · obtain ⟨v, g1, g2⟩ := a.er.val j d h
      refine ⟨v, g1, ?_⟩
      cases d with
      | p x => exact VR.mono2 (fun _ h => h) (keepF h3) g2
      | box n => exact g2
      | _ => exact g2.elim
    · obtain ⟨b, g1, g2, g3, g4⟩ := a.er.own j o h
      exact ⟨b, g1, g2.upd h3 (fun e => g4 (e ▸ hm)), g3, g4⟩
theorem At.updB (a : At K fa z F ρ H σ env st) {n : Nat} {vs : List V} {xs : List P} (hn : ρ[n]? = some ad) (hv : VRs K fa F H vs xs) (hst : n < st.length) :
    At K fa z F ρ (upd H ad (.lst vs)) σ env (st.set n (.lst xs)) ∧ SExt F H F (upd H ad (.lst vs)) :=
  a.updBO hn (fun _ z => nomatch z) ⟨vs, upd_same, hv.mono2 (fun _ h => h) (keepF (a.wok.dis ad (List.mem_of_getElem? hn)))⟩ hst
def stV : L2.St → List Nat → List V → L2.St
  | σ, i :: is, v :: vs => stV (σ.set i (some v)) is vs
  | σ, _, _ => σ
theorem par_ok : ∀ (is : List Nat) (os : List Bool) (ds : List D) (vs : List V) {F : Addr → Prop} {σ : L2.St} {env env' : Env}, At K fa z F ρ H σ env st → DRs K fa F ρ H H0 vs ds → Apart vs ds →
    (∀ ad, V.ref ad ∈ newsOf vs ds → ∀ (j : Nat) (o : SO), env[j]? = some (.own o) → σ[j]? ≠ some (some (.ref ad))) → (∀ ad, nt H0 ad = none → nt z.H ad = none) → parD env is os ds = some env' →
    vs.length = is.length ∧ ∃ F', At K fa z F' ρ H (stV σ is vs) env' st ∧ ∀ a, F a → F' a
  | [], [], [], vs, F, σ, env, env', a, r, ap, hn, hz, hp => by
    cases hp
    cases vs with
    | nil => exact ⟨rfl, F, a, fun _ h => h⟩
    | cons v vs => exact r.elim
  | [], os, d :: ds, vs, F, σ, env, env', a, r, ap, hn, hz, hp => by cases os <;> cases hp
  | [], o :: os, [], vs, F, σ, env, env', a, r, ap, hn, hz, hp => by cases hp
  | i :: is, [], ds, vs, F, σ, env, env', a, r, ap, hn, hz, hp => by cases ds <;> cases hp
  | i :: is, o :: os, [], vs, F, σ, env, env', a, r, ap, hn, hz, hp => by cases hp
  | i :: is, o :: os, d :: ds, [], F, σ, env, env', a, r, ap, hn, hz, hp => r.elim
  | i :: is, o :: os, d :: ds, v :: vs, F, σ, env, env', a, r, ap, hn, hz, hp => by
    have hp : (if o then match ownOf d with
        | some so => parD (DE.setO env i so) is os ds
        | none => none
      else match d.arg with
        | some d' => parD (setS env i d') is os ds
        | none => none) = some env' := hp
    have step : ∀ {F1 : Addr → Prop} {env1 : Env}, (∀ a, F a → F1 a) → At K fa z F1 ρ H (σ.set i (some v)) env1 st → DRs K fa F1 ρ H H0 vs ds → Apart vs ds → (∀ ad, V.ref ad ∈ newsOf vs ds → ∀ (j : Nat) (o : SO), env1[j]? = some (.own o) → (σ.set i (some v))[j]? ≠ some (some (.ref ad))) → parD env1 is os ds = some env' →
        (v :: vs).length = (i :: is).length ∧ ∃ F', At K fa z F' ρ H (stV σ (i :: is) (v :: vs)) env' st ∧ ∀ a, F a → F' a := fun s a1 r1 ap1 hn1 hp1 => by
      obtain ⟨e, F', a', s'⟩ := par_ok is os ds vs a1 r1 ap1 hn1 hz hp1
      exact ⟨by rw [List.length_cons, List.length_cons, e], F', a', fun b hb => s' b (s b hb)⟩
    have rest : ∀ d', (∀ o, d' ≠ Sl.own o) → (∀ ad, V.ref ad ∈ newsOf vs ds → V.ref ad ∈ newsOf (v :: vs) (d :: ds)) → ∀ ad, V.ref ad ∈ newsOf vs ds → ∀ (j : Nat) (o : SO), (env.set i d')[j]? = some (.own o) → (σ.set i (some v))[j]? ≠ some (some (.ref ad)) := fun d' hd hsub ad hm j o e q => by
      obtain ⟨hj, e⟩ := set_own hd e
      rw [List.getElem?_set_ne (fun z => hj z.symm)] at q
      exact hn ad (hsub ad hm) j o e q
    cases o with
    | true =>
      simp only [if_true] at hp
      cases d with
      | new xs =>
        have hp : parD (DE.setO env i (.lst xs)) is os ds = some env' := hp
        obtain ⟨ad, ws, rfl, h1, h2, h3, h4, h5⟩ := r.1
        refine step (fun _ h => h) (a.setO i (o := .lst xs) ⟨ws, h1, h2⟩ h3 h4 (fun j o' _ e => hn ad List.mem_cons_self j o' e) (hz ad h5)) r.2 ap.2 (fun b hb j o e q => ?_) hp
        by_cases hj : i = j
        · subst hj
          rw [List.getElem?_set, if_pos rfl] at q
          split at q
          · cases q
            exact ap.1 hb
          · cases q
        · unfold DE.setO at e
          rw [List.getElem?_set_ne hj] at e q
          exact hn b (List.mem_cons_of_mem _ hb) j o e q
      | _ => cases hp
    | false =>
      simp only [Bool.false_eq_true, if_false] at hp
      cases d with
      | new xs =>
        have hp : parD (setS env i (.p (.lst xs))) is os ds = some env' := hp
        obtain ⟨ad, ws, rfl, h1, h2, h3, h4, h5⟩ := r.1
        have a1 := a.fz (hn ad List.mem_cons_self) h4 (nt_lst h1) (hz ad h5)
        refine step (F1 := addF F ad) (fun _ h => .inl h) (a1.setV i (d := .p (.lst xs)) (VR.lst (.inr rfl) h1 (h2.sub fun _ h => .inl h))) (DRs.addF ap.1 r.2) ap.2 (rest _ (fun _ e => by cases e) fun b hb => List.mem_cons_of_mem _ hb) hp
      | p x => exact step (fun _ h => h) (a.setV i (d := .p x) r.1) r.2 ap (rest _ (fun _ e => by cases e) fun b hb => hb) hp
      | box n => exact step (fun _ h => h) (a.setV i (d := .box n) r.1) r.2 ap (rest _ (fun _ e => by cases e) fun b hb => hb) hp
      | bor o => cases hp
end
end DE
end

section
set_option Elab.async false
set_option linter.all false
set_option maxRecDepth 100000
set_option autoImplicit false
namespace DE
open PySem PySem.Spec L2
section
variable {X : Cx} {fa : Fa} {W : WX} {z : Ent} {c : Cf} {e : Expr} {pos : Pos} {ie : IE}
theorem s_asgG {s : Stmt} {te : TE} {g : TG} {t : Tg} (h : PS X s (tAsg te g)) (hte : ∀ σ H Q, tEv X.K fa W c ie σ H Q → te σ H Q) (hg : ∀ v σ H Q, gTv X.K fa t v σ H Q → g v σ H Q) : PS X s (tEx X.K fa W z (exec c (.asg t ie))) := ps_of h fun D σ H ⟨F, ρ, env, st, a, p⟩ => by
  have p : PostS X.K fa W z F H ((ev c ie env st).bind fun d st => match d.arg with
    | some d => match asgT t d env with
      | some env => .ok (.nx env) st
      | none => .bad
    | none => .bad) D := p
  refine hte _ _ _ (exS (f := ev c ie) a p fun x H1 F1 ρ1 d st1 e1 w1 r1 p1 => hg _ _ _ _ ?_)
  have key : ∀ (F2 : Addr → Prop) (d' : DE.D), At X.K fa z F2 ρ1 H1 σ env st1 → SExt F H F2 H1 → DV X.K fa F2 ρ1 H1 x d' → d.arg = some d' → gTv X.K fa t x σ H1 D.nx := fun F2 d' a2 s2 hv ha => by
    simp only [ha] at p1
    cases q : asgT t d' env with
    | none =>
      simp only [q] at p1
      exact p1.elim
    | some env' =>
      simp only [q] at p1
      exact ⟨F2, ρ1, env, d', env', hv, a2.er, q, fun σ' er' off => PostS.next ⟨a2.ext, a2.wok, er', fun j o b g1 g2 => by
        obtain ⟨g3, g4⟩ := asgT_own q j o g1
        rw [off.2 j g4] at g2
        exact a2.ow j o b g3 g2⟩ (PostS.rebase p1 s2)⟩
  have a1 := a.expr e1 w1
  have s1 := SExt.of a.wok.dis e1
  cases d with
  | p y => exact key F1 (.p y) a1 s1 r1 rfl
  | box n => exact key F1 (.box n) a1 s1 r1 rfl
  | bor o => exact p1.elim
  | new xs =>
    obtain ⟨ad, vs, rfl, h1, h2, h3, h4, h5⟩ := r1
    exact key (addF F1 ad) (.p (.lst xs)) (a1.fz (a.er.fresh h5) h4 (nt_lst h1) (a.ext.there ad h5)) (s1.trans ⟨fun _ h => .inl h, fun _ _ _ h _ => h⟩) (VR.lst (.inr rfl) h1 (h2.sub fun _ h => .inl h)) rfl
theorem gTv_name {t : Nat} : ∀ v σ H Q, gTv X.K fa (.one t) v σ H Q → gName t v σ H Q := fun v σ H Q ⟨F, ρ, env, d, env', hv, hr, ha, q⟩ => by
  cases d with
  | p x =>
    cases ha
    exact q _ (hr.set t hv) (Off.set t σ _)
  | box n =>
    cases ha
    exact q _ (hr.set t hv) (Off.set t σ _)
  | _ => cases ha
theorem s_asgO {s : Stmt} {te : TE} {i : Nat} (h : PS X s (tAsg te (gName i))) (hte : ∀ σ H Q, tEv X.K fa W c ie σ H Q → te σ H Q) : PS X s (tEx X.K fa W z (exec c (.asgO i ie))) := ps_of h fun D σ H ⟨F, ρ, env, st, a, p⟩ => by
  have p : PostS X.K fa W z F H ((ev c ie env st).bind fun d st => match ownOf d with
    | some o => .ok (.nx (setO env i o)) st
    | none => .bad) D := p
  refine hte _ _ _ (exS (f := ev c ie) a p fun x H1 F1 ρ1 d st1 e1 w1 r1 p1 => ?_)
  have a1 := a.expr e1 w1
  have s1 := SExt.of a.wok.dis e1
  cases d with
  | new xs =>
    obtain ⟨ad, vs, rfl, h1, h2, h3, h4, h5⟩ := r1
    exact PostS.next (a1.setO i (o := .lst xs) ⟨vs, h1, h2⟩ h3 h4 (fun j o' _ e => a.er.fresh h5 j o' e) (a.ext.there ad h5)) (PostS.rebase p1 s1)
  | _ => exact p1.elim
theorem s_parG {s : Stmt} {il : IL} {is : List Nat} {os : List Bool} {ts : TS} (h : PS X s ts) (hts : ∀ D σ H, tEvL X.K fa W c il σ H (fun vs H1 => vs.length = is.length ∧ D.nx (stV σ is vs) H1 ∧ ∀ p, H1 p = none → D.nx (stV σ is vs) (upd H1 p (.tup vs))) → ts D σ H) : PS X s (tEx X.K fa W z (exec c (.par is os il))) := ps_of h fun D σ H ⟨F, ρ, env, st, a, p⟩ => by
  have p : PostS X.K fa W z F H ((evL c il env st).bind fun ds st => match parD env is os ds with
    | some env => .ok (.nx env) st
    | none => .bad) D := p
  refine hts D σ H (exSL a p fun vs H1 F1 ρ1 ds st1 e1 w1 r1 ap1 p1 => ?_)
  have a1 := a.expr e1 w1
  have s1 := SExt.of a.wok.dis e1
  cases q : parD env is os ds with
  | none =>
    simp only [q] at p1
    exact p1.elim
  | some env' =>
    simp only [q] at p1
    obtain ⟨hl, F', a', s'⟩ := par_ok is os ds vs a1 r1 ap1 (fun ad hm j o g => by
      obtain ⟨b, e2, h2⟩ := news_fresh r1 _ hm
      cases e2
      exact a.er.fresh h2 j o g) (fun ad h => a.ext.there ad h) q
    have p2 := PostS.rebase p1 (s1.trans ⟨s', fun _ _ _ h _ => h⟩)
    refine ⟨hl, PostS.next a' p2, fun p hp => ?_⟩
    have e3 := ext_new (F := F') (ρ := ρ1) (o := .tup vs) hp
    exact PostS.next (a'.expr e3 (a'.wok.new hp)) (PostS.rebase p2 (SExt.of a'.wok.dis e3))
theorem len2 {α : Type} {vs : List α} (h : vs.length = 2) : ∃ a b, vs = [a, b] := by
  match vs, h with
  | [a, b], _ => exact ⟨a, b, rfl⟩
theorem len3 {α : Type} {vs : List α} (h : vs.length = 3) : ∃ a b c, vs = [a, b, c] := by
  match vs, h with
  | [a, b, c], _ => exact ⟨a, b, c, rfl⟩
theorem pa_imp {es : List Expr} {il : IL} {σ : L2.St} {H : Hp} {Q Q' : List V → Hp → Prop} (h : tEvL X.K fa W c il σ H Q) (i : ∀ v H', Q v H' → Q' v H') : tEvL X.K fa W c il σ H Q' := by
  obtain ⟨F, ρ, env, st, w, er, p⟩ := h
  exact ⟨F, ρ, env, st, w, er, p.imp i⟩
def gNames (is : List Nat) : TGs := fun vs σ H Q => vs.length = is.length ∧ Q (stV σ is vs) H
theorem pgs_of {ts : List Expr} {t t' : TGs} (h : PGs X ts t) (i : ∀ vs σ H Q, t' vs σ H Q → t vs σ H Q) : PGs X ts t' := ⟨fun pins s σ H vs us Q I r q => h.run pins s σ H vs us Q I r (i _ _ _ _ q)⟩
theorem gNames_cons {i : Nat} {is : List Nat} : ∀ vs σ H Q, gNames (i :: is) vs σ H Q → gCons (gName i) (gNames is) vs σ H Q := fun vs σ H Q ⟨h1, h2⟩ => by
  cases vs with
  | nil => cases h1
  | cons v vs => exact ⟨v, vs, rfl, by simpa using h1, h2⟩
theorem s_seti {x : Str} {i : Nat} {k : Expr} {ik : IE} {p1 p2 : Pos} (hN : X.N[i]? = some x) (hv : Vis X.env.scope x) (hd : (x == ("__debug__" : Str)) = false) (hcd : (x == ("__classdict__" : Str)) = false) (he : PE X e (tEv X.K fa W c ie)) (hk : PE X k (tEv X.K fa W c ik))
    (ha : ∀ v, assign (.Subscript (.Name x p1) k p2) X.env v = (do
      let ov ← holding [v] (eval (.Name x p1) X.env)
      let iv ← holding [v, ov] (eval k X.env)
      standAt p2
      holding [v, ov, iv] (setItem ov iv v)
      release [v, ov, iv] [])) : PS X (.Assign [.Subscript (.Name x p1) k p2] e pos) (tEx X.K fa W z (exec c (.seti (.v i) ik ie))) := by
  refine ps_of (ps_asg he (pg_sub (pe_var hN hv hd hcd) hk set_list ha) (show swapsWith e (some (.Subscript (.Name x p1) k p2)) pos.line X.env = pure false from sw_sub) rfl rfl) fun D σ H ⟨F, ρ, env, st, a, p⟩ => ?_
  cases hi : env[i]? with
  | none =>
    simp only [exec, hi] at p
    exact p.elim
  | some sl =>
    cases sl with
    | un =>
      simp only [exec, hi] at p
      exact p.elim
    | own so =>
      simp only [exec, hi] at p
      obtain ⟨ad, h1, h2, h3, h4⟩ := a.er.own i so hi
      refine exS (f := ev c ie) a p fun v H1 F1 ρ1 d st1 e1 w1 r1 p1 => ⟨.ref ad, h1, ?_⟩
      have a1 := a.expr e1 w1
      refine exS (f := ev c ik) a1 (PostS.rebase p1 (SExt.of a.wok.dis e1)) fun u H2 F2 ρ2 dk st2 e2 w2 r2 p2 => ?_
      have a2 := a1.expr e2 w2
      cases q1 : dk.rd st2 with
      | none =>
        simp only [q1] at p2
        exact p2.elim
      | some pk =>
        cases q2 : d.keep with
        | none =>
          simp only [q1, q2] at p2
          exact p2.elim
        | some py =>
          simp only [q1, q2] at p2
          obtain ⟨F3, e3, w3, v3, s3, n3⟩ := DR.keep w2 (e1.trans e2) (r1.mono w1.dis e2) q2
          have a3 : At X.K fa z F3 ρ2 H2 σ env st2 := ⟨a.ext.trans e3, w3, ⟨a2.er.len, fun j dd g => let ⟨vv, g1, g2⟩ := a2.er.val j dd g; ⟨vv, g1, g2.sub s3⟩, fun j oo g => by
            obtain ⟨b, g1, g2, g3, g4⟩ := a2.er.own j oo g
            refine ⟨b, g1, g2.sub s3, fun hb => ?_, g4⟩
            rcases n3 b hb with hb | ⟨hb, _⟩
            · exact g3 hb
            · exact a.er.fresh hb j oo g g1, a2.er.dist⟩, a2.ow⟩
          have s3' : SExt F1 H1 F3 H2 := (SExt.of a1.wok.dis e2).trans ⟨s3, fun _ _ _ h _ => h⟩
          cases so with
          | dic kvs => cases pk <;> exact p2.elim
          | lst xs =>
            cases pk with
            | int kk =>
              cases (r2.rd w2 q1).int
              have p2 : PostS X.K fa W z F1 H1 (match (match ixN xs.length kk with
                | some j => some (SO.lst (xs.set j py))
                | none => none) with
                | some so => .ok (.nx (setO env i so)) st2
                | none => .bad) D := p2
              cases q3 : ixN xs.length kk with
              | none =>
                rw [q3] at p2
                exact p2.elim
              | some j =>
                rw [q3] at p2
                simp only at p2
                obtain ⟨b, g1, ⟨ws, g2, g3⟩, _, _⟩ := a3.er.own i _ hi
                rw [h1] at g1
                cases g1
                obtain ⟨a4, s4⟩ := a3.updO hi h1 (g3.setv v3 j)
                exact ⟨ad, ws, kk, j, rfl, rfl, g2, by rw [g3.length]; exact q3, PostS.next a4 (PostS.rebase p2 (s3'.trans s4))⟩
            | _ => exact p2.elim
    | val dv =>
      cases dv with
      | box n =>
        simp only [exec, hi] at p
        obtain ⟨vv, h1, ad, rfl, h2⟩ := a.er.val i _ hi
        refine exS (f := ev c ie) a p fun v H1 F1 ρ1 d st1 e1 w1 r1 p1 => ⟨.ref ad, h1, ?_⟩
        have a1 := a.expr e1 w1
        refine exS (f := ev c ik) a1 (PostS.rebase p1 (SExt.of a.wok.dis e1)) fun u H2 F2 ρ2 dk st2 e2 w2 r2 p2 => ?_
        have a2 := a1.expr e2 w2
        cases q1 : dk.rd st2 with
        | none =>
          simp only [q1] at p2
          exact p2.elim
        | some pk =>
          cases q2 : d.keep with
          | none =>
            simp only [q1, q2] at p2
            exact p2.elim
          | some py =>
            cases q0 : st2[n]? with
            | none =>
              simp only [q1, q2, q0] at p2
              exact p2.elim
            | some so =>
              simp only [q1, q2, q0] at p2
              obtain ⟨F3, e3, w3, v3, s3, n3⟩ := DR.keep w2 (e1.trans e2) (r1.mono w1.dis e2) q2
              have a3 : At X.K fa z F3 ρ2 H2 σ env st2 := ⟨a.ext.trans e3, w3, ⟨a2.er.len, fun j dd g => let ⟨vv, g1, g2⟩ := a2.er.val j dd g; ⟨vv, g1, g2.sub s3⟩, fun j oo g => by
                obtain ⟨b, g1, g2, g3, g4⟩ := a2.er.own j oo g
                refine ⟨b, g1, g2.sub s3, fun hb => ?_, g4⟩
                rcases n3 b hb with hb | ⟨hb, _⟩
                · exact g3 hb
                · exact a.er.fresh hb j oo g g1, a2.er.dist⟩, a2.ow⟩
              have s3' : SExt F1 H1 F3 H2 := (SExt.of a1.wok.dis e2).trans ⟨s3, fun _ _ _ h _ => h⟩
              cases so with
              | dic kvs => cases pk <;> exact p2.elim
              | lst xs =>
                cases pk with
                | int kk =>
                  cases (r2.rd w2 q1).int
                  have p2 : PostS X.K fa W z F1 H1 (match (match ixN xs.length kk with
                    | some j => some (SO.lst (xs.set j py))
                    | none => none) with
                    | some so => .ok (.nx env) (st2.set n so)
                    | none => .bad) D := p2
                  cases q3 : ixN xs.length kk with
                  | none =>
                    rw [q3] at p2
                    exact p2.elim
                  | some j =>
                    rw [q3] at p2
                    simp only at p2
                    have hn := (e1.trans e2).at h2
                    obtain ⟨ws, g2, g3⟩ := a3.wok.box n ad _ hn q0
                    obtain ⟨a4, s4⟩ := a3.updB hn (g3.setv v3 j) (List.getElem?_eq_some_iff.mp q0).1
                    exact ⟨ad, ws, kk, j, rfl, rfl, g2, by rw [g3.length]; exact q3, PostS.next a4 (PostS.rebase p2 (s3'.trans s4))⟩
                | _ => exact p2.elim
      | _ =>
        simp only [exec, hi] at p
        exact p.elim
theorem storD_of {n : Nat} {env : Env} {k y : D} {st : Store} {F0 : Addr → Prop} {H0 : Hp} {DD : Ends} (h : PostS X.K fa W z F0 H0 (storD n env k y st) DD) :
    ∃ kp kk py kvs, k = .p kp ∧ kp.ky = some kk ∧ y.keep = some py ∧ st[n]? = some (.dic kvs) ∧ kvs.length < 50000 ∧ PostS X.K fa W z F0 H0 (.ok (.nx env) (st.set n (.dic (putP kvs kp kk py)))) DD := by
  unfold storD at h
  split at h
  · rename_i kp py kvs h1 h2
    split at h
    · rename_i kk h3
      split at h
      · rename_i h4
        exact ⟨kp, kk, py, kvs, rfl, h3, h1, h2, of_decide_eq_true h4, h⟩
      · exact h.elim
    · exact h.elim
  · exact h.elim
/-- d[k] = e, d a box that holds a dict -/
theorem s_setd {x : Str} {i : Nat} {k : Expr} {ik : IE} {p1 p2 : Pos} (hu : X.A.units + 64 < cLine) (hN : X.N[i]? = some x) (hv : Vis X.env.scope x) (hd : (x == ("__debug__" : Str)) = false) (hcd : (x == ("__classdict__" : Str)) = false) (he : PE X e (tEv X.K fa W c ie)) (hk : PE X k (tEv X.K fa W c ik))
    (ha : ∀ v, assign (.Subscript (.Name x p1) k p2) X.env v = (do
      let ov ← holding [v] (eval (.Name x p1) X.env)
      let iv ← holding [v, ov] (eval k X.env)
      standAt p2
      holding [v, ov, iv] (setItem ov iv v)
      release [v, ov, iv] [])) : PS X (.Assign [.Subscript (.Name x p1) k p2] e pos) (tEx X.K fa W z (exec c (.setd i ik ie))) := by
  refine ps_of (ps_asg he (pg_sub (pe_var hN hv hd hcd) hk (DK.set_dic (by omega)) ha) (show swapsWith e (some (.Subscript (.Name x p1) k p2)) pos.line X.env = pure false from sw_sub) rfl rfl) fun D σ H ⟨F, ρ, env, st, a, p⟩ => ?_
  have p : PostS X.K fa W z F H (match env[i]? with
    | some (.val (.box n)) => (ev c ie env st).bind fun y st => (ev c ik env st).bind fun k st => storD n env k y st
    | _ => .bad) D := p
  split at p
  · rename_i n hi
    obtain ⟨vv, h1, ad, rfl, h2⟩ := a.er.val i _ hi
    refine exS (f := ev c ie) a p fun v H1 F1 ρ1 d st1 e1 w1 r1 p1 => ⟨.ref ad, h1, ?_⟩
    have a1 := a.expr e1 w1
    refine exS (f := ev c ik) a1 (PostS.rebase p1 (SExt.of a.wok.dis e1)) fun u H2 F2 ρ2 dk st2 e2 w2 r2 p2 => ?_
    have a2 := a1.expr e2 w2
    obtain ⟨kp, kk, py, kvs, rfl, q1, q2, q0, q4, p3⟩ := storD_of p2
    obtain ⟨F3, e3, w3, v3, s3, n3⟩ := DR.keep w2 (e1.trans e2) (r1.mono w1.dis e2) q2
    have a3 : At X.K fa z F3 ρ2 H2 σ env st2 := ⟨a.ext.trans e3, w3, ⟨a2.er.len, fun j dd g => let ⟨vv, g1, g2⟩ := a2.er.val j dd g; ⟨vv, g1, g2.sub s3⟩, fun j oo g => by
      obtain ⟨b, g1, g2, g3, g4⟩ := a2.er.own j oo g
      refine ⟨b, g1, g2.sub s3, fun hb => ?_, g4⟩
      rcases n3 b hb with hb | ⟨hb, _⟩
      · exact g3 hb
      · exact a.er.fresh hb j oo g g1, a2.er.dist⟩, a2.ow⟩
    have s3' : SExt F1 H1 F3 H2 := (SExt.of a1.wok.dis e2).trans ⟨s3, fun _ _ _ h _ => h⟩
    have h2' : ρ2[n]? = some ad := (e1.trans e2).at h2
    have r2' : VR X.K fa F3 H2 u kp := VR.mono2 s3 (fun _ _ _ h _ => h) r2
    obtain ⟨b, rfl, k1, k2⟩ := key_of r2' q1
    obtain ⟨xs, d1, d2, d3⟩ := (w3.box n ad _ h2' q0).dic
    have hm : ad ∈ ρ2 := List.mem_of_getElem? h2'
    have kpp := keepF (H := H2) (o := DK.DicO ad (DK.putE xs kk b v)) (w3.dis ad hm)
    have hlen := drel_len d2
    have hst : n < st2.length := (List.getElem?_eq_some_iff.mp q0).1
    have nb : SB X.K fa F3 (upd H2 ad (DK.DicO ad (DK.putE xs kk b v))) ad (.dic (putP kvs kp kk py)) :=
      ⟨_, upd_same, d1.sys, Nat.le_trans putE_len (by omega), putE_nd d1.nd, (drel_put d2 q1 r2' v3).mono2 (fun _ h => h) kpp⟩
    obtain ⟨a4, s4⟩ := a3.updBO (u := DK.DicO ad (DK.putE xs kk b v)) h2' dic_nt nb hst
    exact ⟨kk, b, ad, xs, rfl, rfl, k1, k2, d1, PostS.next a4 (PostS.rebase p3 (s3'.trans s4))⟩
  · exact p.elim
end
end DE
end

section
set_option Elab.async false
set_option linter.all false
set_option maxRecDepth 100000
set_option autoImplicit false
namespace DE
open PySem PySem.Spec L2
section
variable {X : Cx} {fa : Fa} {W : WX} {z : Ent} {c : Cf} {e : Expr} {pos : Pos} {ie : IE}
theorem few1 {X : Cx} {cp : Pos} {e : Expr} (h : starEach [e] X.env = (false, eval e X.env) :: starEach [] X.env) : ((backTo cp (starEach (e :: []) X.env)).all (fun x => !x.1) && (backToKw cp (keywordEach [] X.env)).all (fun x => x.1.isSome)
      && decide ((e :: ([] : List Expr)).length + ([] : List Keyword).length + (if ([] : List Keyword).isEmpty then 0 else 1) < 30)) = true := by
  rw [h] <;> rfl
theorem s_app {x name : Str} {i : Nat} {p ap cp : Pos} (hn : name = Str.ofString "append") (hl : (ap.endLine == cp.line) = true) (hN : X.N[i]? = some x) (hv : Vis X.env.scope x) (hd : (x == ("__debug__" : Str)) = false) (hcd : (x == ("__classdict__" : Str)) = false) (he : PE X e (tEv X.K fa W c ie))
    (hst : starEach [e] X.env = (false, eval e X.env) :: starEach [] X.env) : PS X (.Expr (.Call (.Attribute (.Name x p) name ap) [e] [] cp) pos) (tEx X.K fa W z (exec c (.app i ie))) := by
  subst hn
  refine ps_of (ps_expr (pe_bm PySem.F.plainAttrs_list PySem.F.slot_list_append PySem.F.type_list_append mt_append (pe_var hN hv hd hcd) (pa_cons he pa_nil hst) (base_of rfl) (few1 hst) hl hst rfl) rfl) fun D σ H ⟨F, ρ, env, st, a, p⟩ => ?_
  cases hi : env[i]? with
  | none =>
    simp only [exec, hi] at p
    exact p.elim
  | some sl =>
    cases sl with
    | un =>
      simp only [exec, hi] at p
      exact p.elim
    | val d =>
      simp only [exec, hi] at p
      exact p.elim
    | own so =>
      simp only [exec, hi] at p
      obtain ⟨ad, h1, h2, h3, h4⟩ := a.er.own i so hi
      obtain ⟨ws, hw⟩ := h2.isL
      refine ⟨.ref ad, h1, .inl ⟨rfl, ws, SqL.of hw⟩, exS (f := ev c ie) a p fun v H1 F1 ρ1 d st1 e1 w1 r1 p1 => ?_⟩
      have a1 := a.expr e1 w1
      cases q2 : d.keep with
      | none =>
        simp only [q2] at p1
        exact p1.elim
      | some py =>
        simp only [q2] at p1
        obtain ⟨F3, e3, w3, v3, s3, n3⟩ := DR.keep w1 e1 r1 q2
        have a3 : At X.K fa z F3 ρ1 H1 σ env st1 := ⟨a.ext.trans e3, w3, ⟨a1.er.len, fun j dd g => let ⟨vv, g1, g2⟩ := a1.er.val j dd g; ⟨vv, g1, g2.sub s3⟩, fun j oo g => by
          obtain ⟨b, g1, g2, g3, g4⟩ := a1.er.own j oo g
          refine ⟨b, g1, g2.sub s3, fun hb => ?_, g4⟩
          rcases n3 b hb with hb | ⟨hb, _⟩
          · exact g3 hb
          · exact a.er.fresh hb j oo g g1, a1.er.dist⟩, a1.ow⟩
        have s3' : SExt F H F3 H1 := (SExt.of a.wok.dis e1).trans ⟨s3, fun _ _ _ h _ => h⟩
        cases so with
        | dic kvs => exact p1.elim
        | lst xs =>
          have p1 : PostS X.K fa W z F H (match (if decide (xs.length < sizeLine) then some (SO.lst (xs ++ [py])) else none) with
            | some so => .ok (.nx (setO env i so)) st1
            | none => .bad) D := p1
          cases q3 : decide (xs.length < sizeLine) with
          | false =>
            rw [q3] at p1
            exact p1.elim
          | true =>
            rw [q3] at p1
            simp only [if_true] at p1
            obtain ⟨b, g1, ⟨us, g2, g3⟩, _, _⟩ := a3.er.own i _ hi
            rw [h1] at g1
            cases g1
            obtain ⟨a4, s4⟩ := a3.updO hi h1 (g3.append (.cons v3 .nil))
            exact ⟨ad, us, v, rfl, rfl, g2, by rw [g3.length]; exact of_decide_eq_true q3, PostS.next a4 (PostS.rebase p1 (s3'.trans s4))⟩
theorem s_ext {x name : Str} {i : Nat} {p ap cp : Pos} (hn : name = Str.ofString "extend") (hl : (ap.endLine == cp.line) = true) (hN : X.N[i]? = some x) (hv : Vis X.env.scope x) (hd : (x == ("__debug__" : Str)) = false) (hcd : (x == ("__classdict__" : Str)) = false) (he : PE X e (tEv X.K fa W c ie))
    (hst : starEach [e] X.env = (false, eval e X.env) :: starEach [] X.env) : PS X (.Expr (.Call (.Attribute (.Name x p) name ap) [e] [] cp) pos) (tEx X.K fa W z (exec c (.ext i ie))) := by
  subst hn
  refine ps_of (ps_expr (pe_bm PySem.F.plainAttrs_list PySem.F.slot_list_extend PySem.F.type_list_extend mt_extend (pe_var hN hv hd hcd) (pa_cons he pa_nil hst) (base_of rfl) (few1 hst) hl hst rfl) rfl) fun D σ H ⟨F, ρ, env, st, a, p⟩ => ?_
  cases hi : env[i]? with
  | none =>
    simp only [exec, hi] at p
    exact p.elim
  | some sl =>
    cases sl with
    | un =>
      simp only [exec, hi] at p
      exact p.elim
    | val d =>
      simp only [exec, hi] at p
      exact p.elim
    | own so =>
      simp only [exec, hi] at p
      obtain ⟨ad, h1, h2, h3, h4⟩ := a.er.own i so hi
      obtain ⟨ws, hw⟩ := h2.isL
      refine ⟨.ref ad, h1, .inl ⟨rfl, ws, SqL.of hw⟩, exS (f := ev c ie) a p fun v H1 F1 ρ1 d st1 e1 w1 r1 p1 => ?_⟩
      have a1 := a.expr e1 w1
      cases d with
      | new ys =>
        obtain ⟨bd, vs, rfl, k1, k2, k3, k4, k5⟩ := r1
        cases so with
        | dic kvs => exact p1.elim
        | lst xs =>
          have p1 : PostS X.K fa W z F H (match (if small (xs.length + ys.length) then some (SO.lst (xs ++ ys)) else none) with
            | some so => .ok (.nx (setO env i so)) st1
            | none => .bad) D := p1
          cases q3 : small (xs.length + ys.length) with
          | false =>
            rw [q3] at p1
            exact p1.elim
          | true =>
            rw [q3] at p1
            simp only [if_true] at p1
            obtain ⟨b, g1, ⟨us, g2, g3⟩, _, _⟩ := a1.er.own i _ hi
            rw [h1] at g1
            cases g1
            obtain ⟨a4, s4⟩ := a1.updO hi h1 (g3.append k2)
            exact ⟨ad, bd, us, vs, rfl, rfl, g2, k1, by rw [g3.length, k2.length]; exact of_decide_eq_true q3, PostS.next a4 (PostS.rebase p1 ((SExt.of a.wok.dis e1).trans s4))⟩
      | _ => exact p1.elim
theorem s_raise {nm : Nm} {gc : Nat → Option DE.P} {T : Nat → Option Df} {kk k : Nat} {x m : Str} {j : Nat} {p p2 p3 : Pos} (o : Cok nm fa gc T kk X) (tk : L2N.Takes X W) (hx : nm.e k = some x) (hg : Gl X x) (hdb : (x == ("__debug__" : Str)) = false) :
    PS X (.Raise (some (.Call (.Name x p) [.Constant (.str m) j p2] [] p3)) none pos) (tEx X.K fa W z (exec c (.raise k m))) := by
  obtain ⟨h1, h2, ⟨B, n1, n2, bm, h3, h4⟩, h5⟩ := o.fx.exc k x hx
  exact ps_of (L2N.ps_raise o.calm tk (L2N.pmk_own h3 h4 h1 h2 (h5 X rfl) hg hdb)) fun D σ H ⟨F, ρ, env, st, a, p⟩ => p σ F ρ H a.ext a.wok rfl
end
def swA (sc : Scope) (tg v : Expr) : Bool := match isComp v with
  | none => match tg, v with
    | .Tuple ts _ _, .Tuple vs _ _ => decide (swP ts vs (isFn sc) sc = some none)
    | _, _ => true
  | some _ => match tg with
    | .Name x _ => decide (sc.names.lookup x = some .cell)
    | .Tuple .. => true
    | _ => false
def swC (sc : Scope) (y : Str) (py : Pos) (scope : Scope) (pos : Pos) : Bool := decide (sc.kind = .function) && decide (sc.names.lookup y = some .local) && (py.line == pos.line) && !(scope.names.any fun (n, k) => n == y && (k == .local || k == .cell))
def namesB (N : List Str) (sc : Scope) : List Nat → List Expr → Bool
  | [], [] => true
  | i :: is, .Name x _ :: es => decide (N[i]? = some x) && locB sc (fun _ => true) x && namesB N sc is es
  | _, _ => false
def parB (N : List Str) (sc : Scope) (is : List Nat) (ts vs : List Expr) : Bool := match swP ts vs (isFn sc) sc with
  | some none => decide (is.length ≤ 100)
  | some (some ns) => match is, ts, vs with
    | [i, j], [.Name x _, .Name y _], [_, _] => decide (ns = [x, y]) && decide (i ≠ j) && decide (sc.names.lookup x = some .local) && decide (sc.names.lookup y = some .local)
    | [i, j, l], [.Name x _, .Name y _, .Name z _], [_, _, _] => decide (ns = [x, y, z]) && decide (i ≠ j) && decide (i ≠ l) && decide (j ≠ l) && decide (sc.names.lookup x = some .local) && decide (sc.names.lookup y = some .local) && decide (sc.names.lookup z = some .local)
    | _, _, _ => false
  | none => false
mutual
def chS (nm : Nm) (N : List Str) (sc : Scope) : IS → Stmt → Bool
  | .asg t e, s => match s with
    | .Assign [tg] v pos => chT N sc (fun _ => true) t tg && chE nm N e sc v && (swA sc tg v || match t, tg, v with
      | .one _, .Name y py, .ListComp _ _ scope p => swC sc y py scope p
      | _, _, _ => false)
    | _ => false
  | .asgO i e, s => match s with
    | .Assign [tg] v pos => chT N sc (fun _ => true) (.one i) tg && chE nm N e sc v && (swA sc tg v || match tg, v with
      | .Name y py, .ListComp _ _ scope p => swC sc y py scope p
      | _, _ => false)
    | _ => false
  | .par is os es, s => match s with
    | .Assign [.Tuple ts tk tp] (.Tuple vs vk vp) pos => namesB N sc is ts && chL nm N es sc vs && parB N sc is ts vs
    | _ => false
  | .seti o k e, s => match o, s with
    | .v i, .Assign [.Subscript (.Name x p1) kx p2] v pos => decide (N[i]? = some x) && visB sc x && okN x && notSl kx && chE nm N k sc kx && chE nm N e sc v
    | _, _ => false
  | .setd i k e, s => match s with
    | .Assign [.Subscript (.Name x p1) kx p2] v pos => decide (N[i]? = some x) && (visB sc x && (okN x && (notSl kx && (chE nm N k sc kx && chE nm N e sc v))))
    | _ => false
  | .exp e, s => match s with
    | .Expr v pos => chE nm N e sc v && (isComp v).isNone
    | _ => false
  | .app i e, s => match s with
    | .Expr (.Call (.Attribute (.Name x p) name ap) [y] [] cp) pos => decide (name = Str.ofString "append") && (ap.endLine == cp.line) && decide (N[i]? = some x) && visB sc x && okN x && chE nm N e sc y
    | _ => false
  | .ext i e, s => match s with
    | .Expr (.Call (.Attribute (.Name x p) name ap) [y] [] cp) pos => decide (name = Str.ofString "extend") && (ap.endLine == cp.line) && decide (N[i]? = some x) && visB sc x && okN x && chE nm N e sc y
    | _ => false
  | .ret e, s => match s with
    | .Return (some v) pos => chE nm N e sc v
    | _ => false
  | .retN, s => match s with
    | .Return none pos => true
    | _ => false
  | .retB e, s => match s with
    | .Return (some v) pos => chE nm N e sc v
    | _ => false
  | .ife t a b, s => match s with
    | .If u x y _ => chE nm N t sc u && chB nm N sc a x && chB nm N sc b y
    | _ => false
  | .whl t b, s => match s with
    | .While u x [] _ => chE nm N t sc u && chB nm N sc b x
    | _ => false
  | .for_ tg it b, s => match s with
    | .For t i x [] _ => chT N sc (fun _ => true) tg t && chI nm N it sc t i && notSet i && chB nm N sc b x
    | _ => false
  | .pass, s => match s with
    | .Pass _ => true
    | _ => false
  | .brk, s => match s with
    | .Break _ => true
    | _ => false
  | .cont, s => match s with
    | .Continue _ => true
    | _ => false
  | .raise k m, s => match s with
    | .Raise (some (.Call (.Name x p) [.Constant (.str m2) j p2] [] p3)) none pos => decide (nm.e k = some x) && decide (m2 = m) && glB sc x && okN x
    | _ => false
  | .frz _, s => false
  | .tryN f e, s => match s with
    | .Try [.Return (some v) _] [.ExceptHandler (some (.Name cx _)) (some ev) [.Return (some (.Call (.Name xn _) [.Name ev2 _] [] _)) _] _] [] [] _ => decide (cx = "StripError") && decide (ev = "_law_error") && decide (ev2 = "_law_error") && decide (xn = "_law_names") && (nm.w f).isSome && N.contains ("_law_error" : Str) && decide (sc.names.lookup ("_law_error" : Str) = some .local) && glB sc "_law_names" && glB sc "StripError" && chE nm N e sc v
    | _ => false
  | .any, s => true
def chB (nm : Nm) (N : List Str) (sc : Scope) : IB → List Stmt → Bool
  | .nil, ss => ss.isEmpty
  | .cons s b, ss => match s with
    | .frz _ => chB nm N sc b ss
    | s => match ss with
      | x :: xs => chS nm N sc s x && chB nm N sc b xs
      | [] => false
end
end DE
end

section
set_option Elab.async false
set_option linter.all false
set_option maxRecDepth 100000
set_option autoImplicit false
namespace DE
open PySem PySem.Spec L2
theorem swA_of {N : List Str} {sc : Scope} {fn : Str → Bool} {t : Tg} {tg v : Expr} {l : Nat} {env : PySem.Env} (he : env.scope = sc) (ht : chT N sc fn t tg = true) (h : swA sc tg v = true) :
    swapsWithSole [tg] v l env = pure false ∧ swappedStores [tg] v env = pure none ∧ (assignEach [tg] env).map (·.2) = [assign tg env] := by
  have key : swapsWith v (some tg) l env = pure false ∧ swappedStores [tg] v env = pure none := by
    unfold swA at h
    cases tg with
    | Name x p =>
      refine ⟨?_, rfl⟩
      cases q : isComp v with
      | none => exact sw_no q
      | some s =>
        rw [q] at h
        exact sw_cell (by rw [he]; exact of_decide_eq_true h)
    | Tuple ts k p =>
      refine ⟨sw_tup, ?_⟩
      cases q : isComp v with
      | none =>
        rw [q] at h
        cases v with
        | Tuple vs k2 p2 => exact swP_ok (by rw [he]; exact of_decide_eq_true h)
        | _ => rfl
      | some s => cases v <;> first | rfl | cases q
    | _ => cases t <;> cases ht
  refine ⟨key.1, key.2, ?_⟩
  cases tg <;> first | rfl | (cases t <;> cases ht)
theorem names_len {N : List Str} {sc : Scope} : ∀ {is : List Nat} {es : List Expr}, namesB N sc is es = true → is.length = es.length
  | [], [], _ => rfl
  | [], _ :: _, h => by cases h
  | i :: is, [], h => by cases h
  | i :: is, e :: es, h => by
    cases e with
    | Name x p =>
      have h : (decide (N[i]? = some x) && locB sc (fun _ => true) x && namesB N sc is es) = true := h
      rw [List.length_cons, List.length_cons, names_len (b3 h).2]
    | _ => cases h
section
variable {X : Cx} {fa : Fa}
theorem names_star {N : List Str} {sc : Scope} : ∀ {is : List Nat} {es : List Expr} (env : PySem.Env), namesB N sc is es = true → (assignEach es env).length = es.length ∧ (assignEach es env).findIdx? (·.1) = none
  | [], [], env, _ => ⟨rfl, rfl⟩
  | [], _ :: _, env, h => by cases h
  | i :: is, [], env, h => by cases h
  | i :: is, e :: es, env, h => by
    cases e with
    | Name x p =>
      have h : (decide (N[i]? = some x) && locB sc (fun _ => true) x && namesB N sc is es) = true := h
      obtain ⟨h1, h2⟩ := names_star env (b3 h).2
      have e0 : assignEach (.Name x p :: es) env = (false, assign (.Name x p) env) :: assignEach es env := rfl
      rw [e0]
      refine ⟨by rw [List.length_cons, List.length_cons, h1], ?_⟩
      rw [List.findIdx?_cons]
      simp [h2]
    | _ => cases h
theorem names_pgs (hN : X.N.Nodup) (hfn : ∀ x, X.fn x = true) : ∀ {is : List Nat} {es : List Expr}, namesB X.N X.env.scope is es = true → PGs X es (gNames is)
  | [], [], _ => pgs_of pgs_nil fun vs σ H Q ⟨h1, h2⟩ => by
    cases vs with
    | nil => exact ⟨rfl, h2⟩
    | cons v vs => cases h1
  | [], _ :: _, h => by cases h
  | i :: is, [], h => by cases h
  | i :: is, e :: es, h => by
    cases e with
    | Name x p =>
      have h : (decide (X.N[i]? = some x) && locB X.env.scope (fun _ => true) x && namesB X.N X.env.scope is es) = true := h
      obtain ⟨h1, h2⟩ := b3 h
      obtain ⟨h3, h4⟩ := b3 h1
      obtain ⟨h5, h6⟩ := loc_of h4
      exact pgs_of (pgs_cons (pg_name hN (of_decide_eq_true h3) h5 (.inl (hfn x))) (names_pgs hN hfn h2) rfl) gNames_cons
    | _ => cases h
theorem chT_fn {N : List Str} {sc : Scope} {fn : Str → Bool} (hfn : ∀ x, fn x = true) {t : Tg} {e : Expr} (h : chT N sc (fun _ => true) t e = true) : chT N sc fn t e = true := by
  have : fn = fun _ => true := funext hfn
  rw [this]
  exact h
theorem name_of {N : List Str} {sc : Scope} {fn : Str → Bool} {i : Nat} {e : Expr} (h : chT N sc fn (.one i) e = true) : ∃ x p, e = .Name x p ∧ N[i]? = some x ∧ locB sc fn x = true := by
  cases e with
  | Name x p => exact ⟨x, p, rfl, of_decide_eq_true (b3 h).1, (b3 h).2⟩
  | _ => cases h
end
section
variable {fa : Fa} {gc : Nat → Option DE.P} {T : Nat → Option Df} {k : Nat} {nm : Nm}
/-- name = [..] on one line -/
theorem c_setLc {X : Cx} {W : WX} {i : Nat} {y : Str} {py p spos : Pos} {ie : IE} {elt : Expr} {gs : List Comprehension} {scope : Scope} (o : Cok nm fa gc T k X) (tk : L2N.Takes X W) (hy : X.N[i]? = some y) (hc : swC X.env.scope y py scope p = true) (he : chE nm X.N ie X.env.scope (.ListComp elt gs scope p) = true) :
    ∃ te : TE, PS X (.Assign [.Name y py] (.ListComp elt gs scope p) spos) (tAsg te (gName i)) ∧ ∀ σ H Q, tEv X.K fa W (Cf.mk (callK T gc k) gc (wdT T)) ie σ H Q → te σ H Q := by
  obtain ⟨s1, s2⟩ := b3 hc
  obtain ⟨s3, s4⟩ := b3 s1
  obtain ⟨s5, s6⟩ := b3 s3
  have hsw : swapsWith (.ListComp elt gs scope p) (some (.Name y py)) spos.line X.env = pure true := sw_true (of_decide_eq_true s5) (of_decide_eq_true s6) s4 (by simpa using s2)
  cases ie with
  | comp elt' tg it cond =>
    unfold chE at he
    split at he
    · rename_i el t i' ifs scope' pos' heq
      cases heq
      obtain ⟨h1, h2⟩ := b3 he
      obtain ⟨h3, h4⟩ := b3 h1
      obtain ⟨h5, h6⟩ := b3 h3
      obtain ⟨h7, h8⟩ := b3 h5
      obtain ⟨h9, h10⟩ := b3 h7
      have hs : ∀ x, foldedSetIterable i' X.env x = pure x := fun x => by
        cases i' <;> first | rfl | cases h6
      have hown : (ownOfT X.N tg).map (·.2) = tg.slots := by
        unfold ownOfT
        rw [List.map_map]
        exact List.map_id _
      refine ⟨_, ps_setLc (own := ownOfT X.N tg) (g := gTv X.K fa tg) (tt := tEvT X.K fa W0 (Cf.mk (callK T gc k) gc (wdT T)) fun env st => evC (Cf.mk (callK T gc k) gc (wdT T)) cond env st) (te := tEv X.K fa W0 (Cf.mk (callK T gc k) gc (wdT T)) elt') o.calm o.nd hy (of_decide_eq_true s6) hsw (sI it o tk false t i' h8) (blkOk_by h9)
        (fun s H C cl fp => sG (fa := fa) (o.blk s H scope cl C fp).calm o.nd tg t h10)
        (fun s H C cl fp => sC cond (o.blk s H scope cl C fp) DL.takes0 ifs h4)
        (fun s H C cl fp => (sE elt' (o.blk s H scope cl C fp) DL.takes0 elt h2).1) hs, fun σ H Q hh => ?_⟩
      rw [hown]
      exact c_compR (fun _ _ _ h => h) (fun _ _ _ h => h) (fun _ _ _ h => h) hh
    · cases he
  | _ => simp [chE] at he
/-- the context of a def's own statements -/
structure DefX (X : Cx) : Prop where
  fn : ∀ x, X.fn x = true
  stk : X.stack = X.env :: X.outer
  frm : X.env.frame = some X.env.locals
  rm : Room 1 X.A
theorem tEv_mono {K : PySem.W.Frag} {W W' : WX} {c : Cf} {ie : IE} {σ : L2.St} {H : Hp} {Q : VK} (m : ∀ c d σ H, W c d σ H → W' c d σ H) (t : tEv K fa W c ie σ H Q) : tEv K fa W' c ie σ H Q := by
  obtain ⟨F, ρ, env, st, w, er, p⟩ := t
  refine ⟨F, ρ, env, st, w, er, ?_⟩
  revert p
  cases ev c ie env st with
  | bad => exact id
  | ok d s => exact id
  | exc k x s => exact fun p F' ρ' H' e w' ex => m _ _ _ _ (p F' ρ' H' e w' ex)
/-- try: return e / except StripError as _law_error: return _law_names(_law_error) -/
theorem s_try {X : Cx} {W : WX} {z : Ent} {f : Nat} {ie : IE} {e : Expr} {i : Nat} {q : Nat → Pos} {x : Str} {get : Bool} (o : Cok nm fa gc T k X) (tk : L2N.Takes X W) (dx : DefX X) (hw : nm.w f = some (x, get)) (hN : X.N[i]? = some ("_law_error" : Str)) (hv : X.env.scope.names.lookup ("_law_error" : Str) = some .local) (hg : Gl X "_law_names") (hs : Gl X "StripError")
    (he : ∀ {X' : Cx} {W : WX}, Cok nm fa gc T k X' → L2N.Takes X' W → X'.N = X.N → X'.env = X.env → X'.K = X.K → PE X' e (tEv X'.K fa W (Cf.mk (callK T gc k) gc (wdT T)) ie)) :
    PS X (trySt "_law_names" q e) (tEx X.K fa W z (exec (Cf.mk (callK T gc k) gc (wdT T)) (.tryN f ie))) := by
  have h := o.fx.tok f x get hw X i q e (fun W => tEv X.K fa W (Cf.mk (callK T gc k) gc (wdT T)) ie) W rfl rfl rfl rfl rfl dx.stk dx.frm o.nd hN hv hg hs dx.rm tk (fun W W' m σ H Q => tEv_mono m)
    (fun W pn xe tk' po => he (X' := X.tr pn xe) ⟨o.calm, o.nd, o.room, o.fx, fun hl => ⟨(o.lam hl).room, (o.lam hl).tb⟩⟩ tk' rfl rfl rfl)
  refine ps_of h fun D σ H ⟨F, ρ, env, st, a, p⟩ => ⟨F, ρ, env, st, a.wok, a.er, ?_⟩
  have p : PostS X.K fa W z F H (match ev (Cf.mk (callK T gc k) gc (wdT T)) ie env st with
    | .ok d st => match d.arg with
      | some d => .ok (.rt d) st
      | none => .bad
    | .exc k none st => match wdT T f k with
      | some z => .ok (.rt (.p (.str z))) st
      | none => .bad
    | .exc _ (some _) _ => .bad
    | .bad => .bad) D := p
  cases hev : ev (Cf.mk (callK T gc k) gc (wdT T)) ie env st with
  | bad =>
    rw [hev] at p
    exact p.elim
  | ok d s =>
    simp only [hev] at p
    intro x F1 ρ1 H1 e1 w1 r1
    cases d with
    | p y => exact p x F1 ρ1 H1 (a.ext.trans e1) w1 r1
    | new xs =>
      obtain ⟨ad, vs, rfl, h1, h2, h3, h4, h5⟩ := r1
      have hh := nt_lst h1
      exact p _ (addF F1 ad) ρ1 H1 ((a.ext.trans e1).fz (a.ext.there ad h5)) (w1.fz h4 hh) (VR.lst (.inr rfl) h1 (h2.sub fun _ h => .inl h))
    | box n => exact p x F1 ρ1 H1 (a.ext.trans e1) w1 r1
    | bor o => exact p.elim
  | exc kk xx s =>
    cases xx with
    | some xx =>
      simp only [hev] at p
      exact p.elim
    | none =>
      simp only [hev] at p
      cases hz : wdT T f kk with
      | none =>
        simp only [hz] at p
        exact p.elim
      | some z =>
        simp only [hz] at p
        exact fun F' ρ' H' e' w' _ => ⟨kk, z, rfl, rfl, hz, fun H'' hk => p (.str z) F' ρ' H'' ((a.ext.trans e').trans (extN_ext fun a o h _ => hk a o h)) (w'.extN (fun a o h _ => hk a o h) (LamX.Tabs.ext w'.tab hk)) (VR.str _)⟩
mutual
theorem sS : (is : IS) → ∀ {X : Cx} {W : WX} {z : Ent}, Cok nm fa gc T k X → L2N.Takes X W → PassesOwn (model X.prog X.w) X.A X.env X.xe → DefX X → ∀ s : Stmt, chS nm X.N X.env.scope is s = true → PS X s (tEx X.K fa W z (exec (Cf.mk (callK T gc k) gc (wdT T)) is))
  | .asg t e, X, W, z, o, tk, hp, hfn, s, h => by
    unfold chS at h
    split at h
    · rename_i tg v pos
      obtain ⟨h1, h2⟩ := b3 h
      obtain ⟨h3, h4⟩ := b3 h1
      rcases Bool.or_eq_true_iff.mp h2 with h2 | h2
      · obtain ⟨w1, w2, w3⟩ := swA_of (l := pos.line) (env := X.env) rfl h3 h2
        exact s_asgG (ps_asg (sE e o tk v h4).1 (sG (fa := fa) o.calm o.nd t tg (chT_fn hfn.fn h3)) w1 w2 w3) (fun _ _ _ h => h) (fun _ _ _ _ h => h)
      · split at h2
        · rename_i i y py el gs scope p
          obtain ⟨x, p', e1, e2, e3⟩ := name_of h3
          cases e1
          obtain ⟨te, q1, q2⟩ := c_setLc (fa := fa) (spos := pos) o tk e2 h2 h4
          exact s_asgG q1 q2 gTv_name
        · cases h2
    · cases h
  | .asgO i e, X, W, z, o, tk, hp, hfn, s, h => by
    unfold chS at h
    split at h
    · rename_i tg v pos
      obtain ⟨h1, h2⟩ := b3 h
      obtain ⟨h3, h4⟩ := b3 h1
      obtain ⟨x, p', e1, e2, e3⟩ := name_of h3
      cases e1
      rcases Bool.or_eq_true_iff.mp h2 with h2 | h2
      · obtain ⟨w1, w2, w3⟩ := swA_of (l := pos.line) (env := X.env) rfl h3 h2
        exact s_asgO (ps_asg (sE e o tk v h4).1 (pg_name o.nd e2 (loc_of e3).1 (.inl (hfn.fn x))) w1 w2 w3) (fun _ _ _ h => h)
      · cases v with
        | ListComp el gs scope p =>
          obtain ⟨te, q1, q2⟩ := c_setLc (fa := fa) (spos := pos) o tk e2 h2 h4
          exact s_asgO q1 q2
        | _ => cases h2
    · cases h
  | .par is os es, X, W, z, o, tk, hp, hfn, s, h => by
    unfold chS at h
    split at h
    · rename_i ts tk' tp vs vk vp pos
      obtain ⟨h1, h2⟩ := b3 h
      obtain ⟨h3, h4⟩ := b3 h1
      have ha := sL es o tk vs h4
      unfold parB at h2
      split at h2
      · rename_i hsw
        obtain ⟨n1, n2⟩ := names_star X.env h3
        have hg := pg_tup (k := tk') (pos := tp) (n := is.length) o.calm (names_pgs o.nd hfn.fn h3) (by rw [n1, names_len h3]) n2
        refine s_parG (ps_asg (pe_tup ha) hg (show swapsWith (.Tuple vs vk vp) (some (.Tuple ts tk' tp)) pos.line X.env = pure false from sw_tup) (swP_ok hsw) rfl) fun D σ H hh => ?_
        have hle : is.length ≤ sizeLine := Nat.le_trans (of_decide_eq_true h2) (by rw [sizeLine_eq]; omega)
        exact pa_imp (es := []) hh fun vs' H' ⟨q1, q2, q3⟩ => ⟨by rw [q1]; exact hle, fun p hp => ⟨p, vs', rfl, SqT.of upd_same, q1, q1, q3 p hp⟩⟩
      · rename_i ns hsw
        split at h2
        · rename_i i j x px y py a b
          obtain ⟨a1, a2⟩ := b3 h2
          obtain ⟨a3, a4⟩ := b3 a1
          obtain ⟨a5, a6⟩ := b3 a3
          cases of_decide_eq_true a5
          have h3 : (decide (X.N[i]? = some x) && locB X.env.scope (fun _ => true) x && (decide (X.N[j]? = some y) && locB X.env.scope (fun _ => true) y && namesB X.N X.env.scope [] [])) = true := h3
          obtain ⟨c1, c2⟩ := b3 h3
          obtain ⟨c3, c4⟩ := b3 c2
          refine s_parG (ps_par o.calm o.nd (of_decide_eq_true (b3 c1).1) (of_decide_eq_true (b3 c3).1) (of_decide_eq_true a6) (of_decide_eq_true a4) (of_decide_eq_true a2) ha (swP_ok hsw) rfl) fun D σ H hh => pa_imp (es := []) hh fun vs' H' ⟨q1, q2, _⟩ => ?_
          obtain ⟨v1, v2, rfl⟩ := len2 q1
          exact ⟨v1, v2, rfl, q2⟩
        · rename_i i j l x px y py zz pz a b d
          obtain ⟨a1, a2⟩ := b3 h2
          obtain ⟨a3, a4⟩ := b3 a1
          obtain ⟨a5, a6⟩ := b3 a3
          obtain ⟨a7, a8⟩ := b3 a5
          obtain ⟨a9, a10⟩ := b3 a7
          obtain ⟨a11, a12⟩ := b3 a9
          cases of_decide_eq_true a11
          have h3 : (decide (X.N[i]? = some x) && locB X.env.scope (fun _ => true) x && (decide (X.N[j]? = some y) && locB X.env.scope (fun _ => true) y && (decide (X.N[l]? = some zz) && locB X.env.scope (fun _ => true) zz && namesB X.N X.env.scope [] []))) = true := h3
          obtain ⟨c1, c2⟩ := b3 h3
          obtain ⟨c3, c4⟩ := b3 c2
          obtain ⟨c5, c6⟩ := b3 c4
          refine s_parG (ps_par3 o.calm o.nd (of_decide_eq_true (b3 c1).1) (of_decide_eq_true (b3 c3).1) (of_decide_eq_true (b3 c5).1) (of_decide_eq_true a12) (of_decide_eq_true a10) (of_decide_eq_true a8) (of_decide_eq_true a6) (of_decide_eq_true a4) (of_decide_eq_true a2) ha (swP_ok hsw) rfl) fun D σ H hh => pa_imp (es := []) hh fun vs' H' ⟨q1, q2, _⟩ => ?_
          obtain ⟨v1, v2, v3, rfl⟩ := len3 q1
          exact ⟨v1, v2, v3, rfl, q2⟩
        · cases h2
      · cases h2
    · cases h
  | .seti oo kx e, X, W, z, o, tk, hp, hfn, s, h => by
    unfold chS at h
    split at h
    · rename_i i x p1 ky p2 v pos
      obtain ⟨h1, h2⟩ := b3 h
      obtain ⟨h3, h4⟩ := b3 h1
      obtain ⟨h5, h6⟩ := b3 h3
      obtain ⟨h7, h8⟩ := b3 h5
      obtain ⟨h9, h10⟩ := b3 h7
      obtain ⟨g1, g2, g3⟩ := okN_of h8
      exact s_seti (of_decide_eq_true h9) (vis_of h10) g1 g2 (sE e o tk v h2).1 (sE kx o tk _ h4).1 (fun w => by cases ky <;> first | rfl | cases h6)
    · cases h
  | .setd i kx e, X, W, z, o, tk, hp, hfn, s, h => by
    unfold chS at h
    split at h
    · rename_i x p1 ky p2 v pos
      obtain ⟨h1, h⟩ := b3 h
      obtain ⟨h2, h⟩ := b3 h
      obtain ⟨h3, h⟩ := b3 h
      obtain ⟨h4, h⟩ := b3 h
      obtain ⟨h5, h6⟩ := b3 h
      obtain ⟨g1, g2, g3⟩ := okN_of h3
      exact s_setd (units_of o) (of_decide_eq_true h1) (vis_of h2) g1 g2 (sE e o tk v h6).1 (sE kx o tk _ h5).1 (fun w => by cases ky <;> first | rfl | cases h4)
    · cases h
  | .exp e, X, W, z, o, tk, hp, hfn, s, h => by
    unfold chS at h
    split at h
    · obtain ⟨h1, h2⟩ := b3 h
      exact s_exp (sE e o tk _ h1).1 (sw_no (by simpa using h2))
    · cases h
  | .app i e, X, W, z, o, tk, hp, hfn, s, h => by
    unfold chS at h
    split at h
    · obtain ⟨h1, h2⟩ := b3 h
      obtain ⟨h3, h4⟩ := b3 h1
      obtain ⟨h5, h6⟩ := b3 h3
      obtain ⟨h7, h8⟩ := b3 h5
      obtain ⟨h9, h10⟩ := b3 h7
      obtain ⟨g1, g2, g3⟩ := okN_of h4
      exact s_app (of_decide_eq_true h9) h10 (of_decide_eq_true h8) (vis_of h6) g1 g2 (sE e o tk _ h2).1 (chE_star h2 _ _)
    · cases h
  | .ext i e, X, W, z, o, tk, hp, hfn, s, h => by
    unfold chS at h
    split at h
    · obtain ⟨h1, h2⟩ := b3 h
      obtain ⟨h3, h4⟩ := b3 h1
      obtain ⟨h5, h6⟩ := b3 h3
      obtain ⟨h7, h8⟩ := b3 h5
      obtain ⟨h9, h10⟩ := b3 h7
      obtain ⟨g1, g2, g3⟩ := okN_of h4
      exact s_ext (of_decide_eq_true h9) h10 (of_decide_eq_true h8) (vis_of h6) g1 g2 (sE e o tk _ h2).1 (chE_star h2 _ _)
    · cases h
  | .ret e, X, W, z, o, tk, hp, hfn, s, h => by
    unfold chS at h
    split at h
    · exact s_ret (sE e o tk _ h).1
    · cases h
  | .retN, X, W, z, o, tk, hp, hfn, s, h => by
    unfold chS at h
    split at h
    · exact s_retN
    · cases h
  | .retB e, X, W, z, o, tk, hp, hfn, s, h => by
    unfold chS at h
    split at h
    · exact s_retB (sE e o tk _ h).1
    · cases h
  | .ife t a b, X, W, z, o, tk, hp, hfn, s, h => by
    unfold chS at h
    split at h
    · obtain ⟨h1, h2⟩ := b3 h
      obtain ⟨h3, h4⟩ := b3 h1
      exact s_ife (sE t o tk _ h3).2 (sB a o tk hp hfn _ h4) (sB b o tk hp hfn _ h2)
    · cases h
  | .whl t b, X, W, z, o, tk, hp, hfn, s, h => by
    unfold chS at h
    split at h
    · obtain ⟨h1, h2⟩ := b3 h
      exact s_whl hp (sE t o tk _ h1).2 (sB b o tk hp hfn _ h2)
    · cases h
  | .for_ tg it b, X, W, z, o, tk, hp, hfn, s, h => by
    unfold chS at h
    split at h
    · rename_i t i x pos
      obtain ⟨h1, h2⟩ := b3 h
      obtain ⟨h3, h4⟩ := b3 h1
      obtain ⟨h5, h6⟩ := b3 h3
      have hs : ∀ x, foldedSetIterable i X.env x = pure x := fun x => by
        cases i <;> first | rfl | cases h4
      exact s_for hp o.calm (sI it o tk true t i h6) (sG (fa := fa) o.calm o.nd tg t (chT_fn hfn.fn h5)) (sB b o tk hp hfn _ h2) hs
    · cases h
  | .pass, X, W, z, o, tk, hp, hfn, s, h => by
    unfold chS at h
    split at h
    · exact s_pass
    · cases h
  | .brk, X, W, z, o, tk, hp, hfn, s, h => by
    unfold chS at h
    split at h
    · exact s_brk
    · cases h
  | .cont, X, W, z, o, tk, hp, hfn, s, h => by
    unfold chS at h
    split at h
    · exact s_cont
    · cases h
  | .raise kk m, X, W, z, o, tk, hp, hfn, s, h => by
    unfold chS at h
    split at h
    · obtain ⟨h1, h2⟩ := b3 h
      obtain ⟨h3, h4⟩ := b3 h1
      obtain ⟨h5, h6⟩ := b3 h3
      obtain ⟨g1, g2, g3⟩ := okN_of h2
      cases of_decide_eq_true h6
      exact s_raise o tk (of_decide_eq_true h5) (gl_of h4) g1
    · cases h
  | .frz _, X, W, z, o, tk, hp, hfn, s, h => by cases h
  | .tryN f e, X, W, z, o, tk, hp, hfn, s, h => by
    unfold chS at h
    split at h
    · rename_i v p8 cx p0 ev xn p1 ev2 p2 p3 p4 p5 p9
      obtain ⟨h1, g10⟩ := b3 h
      obtain ⟨h2, g9⟩ := b3 h1
      obtain ⟨h3, g8⟩ := b3 h2
      obtain ⟨h4, g7⟩ := b3 h3
      obtain ⟨h5, g6⟩ := b3 h4
      obtain ⟨h6, g5⟩ := b3 h5
      obtain ⟨h7, g4⟩ := b3 h6
      obtain ⟨h8, g3⟩ := b3 h7
      obtain ⟨g1, g2⟩ := b3 h8
      cases of_decide_eq_true g1
      cases of_decide_eq_true g2
      cases of_decide_eq_true g3
      cases of_decide_eq_true g4
      obtain ⟨⟨x, get⟩, hw⟩ := Option.isSome_iff_exists.mp g5
      obtain ⟨i, hi⟩ := List.getElem?_of_mem (List.contains_iff_mem.mp g6)
      exact s_try (q := fun n => match n with | 0 => p0 | 1 => p1 | 2 => p2 | 3 => p3 | 4 => p4 | 5 => p5 | 8 => p8 | _ => p9) o tk hfn hw hi (of_decide_eq_true g7) (gl_of g8) (gl_of g9) fun o' tk' hN henv _ => (sE e o' tk' v (by rw [hN, henv]; exact g10)).1
    · cases h
  | .any, X, W, z, o, tk, hp, hfn, s, h => ⟨fun _ _ _ _ _ _ ⟨_, _, _, _, _, p⟩ => p.elim⟩
theorem sB : (ib : IB) → ∀ {X : Cx} {W : WX} {z : Ent}, Cok nm fa gc T k X → L2N.Takes X W → PassesOwn (model X.prog X.w) X.A X.env X.xe → DefX X → ∀ ss : List Stmt, chB nm X.N X.env.scope ib ss = true → PSs X ss (tEx X.K fa W z (execs (Cf.mk (callK T gc k) gc (wdT T)) ib))
  | .nil, X, W, z, o, tk, hp, hfn, ss, h => by
    cases ss with
    | nil => exact b_nil
    | cons a b => cases h
  | .cons s b, X, W, z, o, tk, hp, hfn, ss, h => by
    by_cases hf : ∃ i, s = .frz i
    · obtain ⟨i, rfl⟩ := hf
      exact b_frz (sB b o tk hp hfn ss h)
    · cases ss with
      | nil =>
        cases s <;> first | cases h | exact absurd ⟨_, rfl⟩ hf
      | cons x xs =>
        have h : (chS nm X.N X.env.scope s x && chB nm X.N X.env.scope b xs) = true := by
          cases s <;> first | exact h | exact absurd ⟨_, rfl⟩ hf
        exact b_cons (sS s o tk hp hfn x (b3 h).1) (sB b o tk hp hfn xs (b3 h).2)
end
end
end DE
end

section
set_option Elab.async false
set_option linter.all false
set_option maxRecDepth 100000
set_option autoImplicit false
namespace DE
open PySem PySem.Spec L2 PyProof.Rows
section
variable {K : PySem.W.Frag} {fa : Fa} {F : Addr → Prop} {ρ : List Addr} {H : Hp} {st : Store}
theorem DVs.length : ∀ {vs : List V} {ds : List D}, DVs K fa F ρ H vs ds → vs.length = ds.length
  | [], [], _ => rfl
  | _ :: _, _ :: _, h => congrArg Nat.succ (DVs.length h.2)
  | [], _ :: _, h => h.elim
  | _ :: _, [], h => h.elim
theorem DVs.get : ∀ {vs : List V} {ds : List D} {i : Nat} {d : D}, DVs K fa F ρ H vs ds → ds[i]? = some d → ∃ v, vs[i]? = some v ∧ DV K fa F ρ H v d
  | [], [], i, d, _, h => by cases h
  | v :: vs, d0 :: ds, 0, d, r, h => by
    cases h
    exact ⟨v, rfl, r.1⟩
  | v :: vs, d0 :: ds, i + 1, d, r, h => by
    obtain ⟨u, h1, h2⟩ := DVs.get r.2 h
    exact ⟨u, h1, h2⟩
  | [], _ :: _, _, _, r, _ => r.elim
  | _ :: _, [], _, _, r, _ => r.elim
/-- the slots at a def's start -/
theorem start_rel {N : List Str} {d : Df} {vs : List V} {ds : List D} (h : DVs K fa F ρ H vs ds) (hn : d.ns = N.length) (hp : ds.length = d.np) (hle : d.np ≤ d.ns) : ERel K fa F ρ H (L2.start N vs) (startE d ds) ∧ ∀ (i : Nat) (o : SO), (startE d ds)[i]? ≠ some (.own o) := by
  have hl := h.length
  have noown : ∀ (i : Nat) (o : SO), (startE d ds)[i]? ≠ some (.own o) := fun i o e => by
    have hm := List.mem_of_getElem? e
    unfold startE at hm
    rcases List.mem_append.mp hm with hm | hm
    · obtain ⟨x, _, hx⟩ := List.mem_map.mp hm
      cases hx
    · have := (List.mem_replicate.mp hm).2
      cases this
  refine ⟨⟨?_, fun i x e => ?_, fun i o e => absurd e (noown i o), fun i j o o' a e => absurd e (noown i o)⟩, noown⟩
  · unfold L2.start startE
    rw [List.length_append, List.length_append, List.length_map, List.length_map, List.length_replicate, List.length_replicate]
    omega
  · unfold startE at e
    by_cases hi : i < ds.length
    · rw [List.getElem?_append_left (by rw [List.length_map]; exact hi), List.getElem?_map] at e
      cases q : ds[i]? with
      | none =>
        rw [q] at e
        cases e
      | some y =>
        rw [q] at e
        cases e
        obtain ⟨v, h1, h2⟩ := h.get q
        refine ⟨v, ?_, h2⟩
        unfold L2.start
        rw [List.getElem?_append_left (by rw [List.length_map, hl]; exact hi), List.getElem?_map, h1]
        rfl
    · have hm := List.mem_of_getElem? (by
        rw [List.getElem?_append_right (by rw [List.length_map]; omega)] at e
        exact e)
      have := (List.mem_replicate.mp hm).2
      cases this
/-- behind a call: its boxes are dropped -/
theorem drop_boxes {F' : Addr → Prop} {ρ' : List Addr} {H' : Hp} {st' : Store} (w0 : Wok K fa F ρ H st) (e : Ext F ρ H F' ρ' H') (w : Wok K fa F' ρ' H' st') : Ext F ρ H F' ρ H' ∧ Wok K fa F' ρ H' (st'.take st.length) := by
  obtain ⟨l, e1, e2⟩ := e.pre
  subst e1
  have hlen : st'.length = ρ.length + l.length := by
    rw [← w.len, List.length_append]
  refine ⟨⟨e.sub, e.new, ⟨[], by simp, by simp⟩, e.keep, e.there⟩, ⟨?_, (List.nodup_append.mp w.nd).1, fun n a o h1 h2 => ?_, fun a ha => w.dis a (List.mem_append_left _ ha), w.has, w.tab⟩⟩
  · rw [List.length_take, ← w0.len, hlen]
    omega
  · have hn : n < ρ.length := (List.getElem?_eq_some_iff.mp h1).1
    rw [List.getElem?_take_of_lt (by rw [← w0.len]; exact hn)] at h2
    exact w.box n a o (by rw [List.getElem?_append_left hn]; exact h1) h2
/-- all but one -/
theorem keep_box {F' : Addr → Prop} {ρ' : List Addr} {H' : Hp} {st' : Store} {k : Nat} {a : Addr} {o : SO} (w0 : Wok K fa F ρ H st) (e : Ext F ρ H F' ρ' H') (w : Wok K fa F' ρ' H' st') (hk : ¬ k < st.length) (ha : ρ'[k]? = some a) (ho : st'[k]? = some o) :
    Ext F ρ H F' (ρ ++ [a]) H' ∧ Wok K fa F' (ρ ++ [a]) H' (st'.take st.length ++ [o]) ∧ (ρ ++ [a])[st.length]? = some a := by
  obtain ⟨e', w'⟩ := drop_boxes w0 e w
  obtain ⟨l, e1, e2⟩ := e.pre
  subst e1
  have hm : a ∈ l := by
    rw [List.getElem?_append_right (by rw [w0.len]; omega)] at ha
    exact List.mem_of_getElem? ha
  have hnot : a ∉ ρ := fun h => by
    have := (List.nodup_append.mp w.nd).2.2 a h a hm
    exact this rfl
  refine ⟨⟨e.sub, e.new, ⟨[a], rfl, fun b hb => ?_⟩, e.keep, e.there⟩, ⟨?_, ?_, fun n b o' h1 h2 => ?_, fun b hb => ?_, w.has, w.tab⟩, ?_⟩
  · rw [List.mem_singleton.mp hb]
    exact e2 a hm
  · rw [List.length_append, List.length_append, w'.len]
    rfl
  · rw [List.nodup_append]
    exact ⟨w0.nd, by simp, fun b hb c hc => by
      rw [List.mem_singleton.mp hc]
      exact fun z => hnot (z ▸ hb)⟩
  · by_cases hn : n < ρ.length
    · rw [List.getElem?_append_left hn] at h1
      rw [List.getElem?_append_left (by rw [← w'.len]; exact hn)] at h2
      exact w'.box n b o' h1 h2
    · have hn' : n = ρ.length := by
        have := (List.getElem?_eq_some_iff.mp h1).1
        rw [List.length_append] at this
        simp at this
        omega
      subst hn'
      rw [List.getElem?_append_right (Nat.le_refl _)] at h1
      rw [w'.len, List.getElem?_append_right (Nat.le_refl _)] at h2
      simp at h1 h2
      subst h1 h2
      exact w.box k a o ha ho
  · rcases List.mem_append.mp hb with hb | hb
    · exact w'.dis b hb
    · rw [List.mem_singleton.mp hb]
      exact w.dis a (List.mem_append_right _ hm)
  · rw [← w0.len, List.getElem?_append_right (Nat.le_refl _)]
    simp
theorem fin_post {E : XK} {Q : VK} {r : R Fl} (w0 : Wok K fa F ρ H st) (h : PostD K fa (fun cls d _ H' => E cls d H') F ρ H [] (fin st.length r) Q) : PostS K fa (fun cls d _ H' => E cls d H') ⟨F, ρ, H⟩ F H r { nx := fun _ H' => Q .non H', rt := Q } := by
  cases r with
  | bad => exact h.elim
  | exc k x s =>
    intro σ F' ρ' H' e w ex
    obtain ⟨e', w'⟩ := drop_boxes w0 e w
    exact h F' ρ H' e' w' ex
  | ok fl s =>
    cases fl with
    | nx env =>
      intro σ F' ρ' H' a _
      obtain ⟨e', w'⟩ := drop_boxes w0 a.ext a.wok
      exact h .non F' ρ H' e' w' VR.non
    | bk env => exact h.elim
    | ct env => exact h.elim
    | rt d =>
      cases d with
      | p x =>
        intro v F' ρ' H' e w hv
        obtain ⟨e', w'⟩ := drop_boxes w0 e w
        exact h v F' ρ H' e' w' hv
      | new xs => exact h.elim
      | bor xs => exact h.elim
      | box k =>
        intro v F' ρ' H' e w hv
        obtain ⟨a, rfl, ha⟩ := hv
        have h : PostD K fa (fun cls d _ H' => E cls d H') F ρ H [] (if k < st.length then .ok (.box k) (s.take st.length) else match s[k]? with
          | some o => .ok (.box st.length) (s.take st.length ++ [o])
          | none => .bad) Q := h
        by_cases hk : k < st.length
        · rw [if_pos hk] at h
          obtain ⟨e', w'⟩ := drop_boxes w0 e w
          refine h (.ref a) F' ρ H' e' w' ⟨a, rfl, ?_⟩
          obtain ⟨l, e1, _⟩ := e.pre
          rw [e1, List.getElem?_append_left (by rw [w0.len]; exact hk)] at ha
          exact ha
        · rw [if_neg hk] at h
          cases ho : s[k]? with
          | none =>
            rw [ho] at h
            exact h.elim
          | some o =>
            rw [ho] at h
            obtain ⟨e', w', q⟩ := keep_box w0 e w hk ha ho
            exact h (.ref a) F' _ H' e' w' ⟨a, rfl, q⟩
end
/-- a def of the text -/
structure DefAt (K : PySem.W.Frag) (mg : Str → Option Value) (base : Heap) (nm : Nm) (fa : Fa) (T : Nat → Option Df) (f : Nat) (x : Str) (ps : List Str) (fd : FuncData) : Prop where
  ex : ∃ (params : Arguments) (body : List Stmt) (scope : Scope) (N : List Str) (d : Df) (lf : Bool), FunD K x x params body scope [] [] (fa f) fd ∧ mg x = some (.ref (fa f)) ∧ Binds K fd ps [] ∧ FnScope N ps scope ∧ T f = some d ∧ d.np = ps.length ∧ d.ns = N.length ∧ d.np ≤ d.ns ∧
    chB { nm with l := lf } N scope d.body body = true ∧
    (lf = true → ∃ c P, fd.code = .ref c ∧ LamX.TabB base mg c P ∧ ∀ (n : Nat) (g : Addr) (cd : Value), (P, (envOfC x scope n g cd).qual ++ "<lambda>") ∈ fa.tb ∧ ∀ p ∈ fa.tb, p.1 = P → p.2 = (envOfC x scope n g cd).qual ++ "<lambda>")
section
variable {P : Program} {w : World} {K : PySem.W.Frag} {mg : Str → Option Value} {base : Heap} {nm : Nm} {fa : Fa} {gc : Nat → Option DE.P} {T : Nat → Option Df}
theorem def_fn {k f : Nat} {x : Str} {ps : List Str} {fd : FuncData} (ih : Fx P w K mg base nm fa gc T k) (D : DefAt K mg base nm fa T f x ps fd) : FnOk P w K mg base (L2N.CX P w) (3 * (k + 1)) (fa f) fd ps (spK K fa (callK T gc (k + 1) f)) := by
  obtain ⟨params, body, scope, N, d, lf, FF, hm, hb, S, h1, h2, h3, h4, h5, h6⟩ := D.ex
  obtain ⟨oc, od, dV, kV, doc, pm, an, cdv, ct, osl, rfl, lk, hcd, _, _⟩ := FF.ex
  have unf : ∀ ds st, callK T gc (k + 1) f ds st = if ds.length = d.np then fin st.length (execs (Cf.mk (callK T gc k) gc (wdT T)) d.body (startE d ds) st) else .bad := fun ds st => by
    show (match T f with
      | some d => if ds.length = d.np then fin st.length (execs (Cf.mk (callK T gc k) gc (wdT T)) d.body (startE d ds) st) else .bad
      | none => .bad) = _
    rw [h1]
  have hlen : ∀ vs H Q E, spK K fa (callK T gc (k + 1) f) vs H Q E → vs.length = ps.length := fun vs H Q E ⟨F, ρ, ds, st, w, r, p⟩ => by
    rw [unf] at p
    by_cases hl : ds.length = d.np
    · rw [r.length, hl, h2]
    · rw [if_neg hl] at p
      exact p.elim
  refine fn_of (k := 3 * k + 2) lk hcd S hlen fun A outer s H vs Q E hr hsp => ?_
  obtain ⟨F, ρ, ds, st, w0, r, p⟩ := hsp
  rw [unf] at p
  by_cases hl : ds.length = d.np
  · rw [if_pos hl] at p
    have ck : Cok { nm with l := lf } fa gc T k (cxOf (L2N.CX P w) P w K mg base N x scope (fa f) cdv A outer s H E) := ⟨rfl, S.nd, hr.mono (by omega), ih.l lf, fun hlf => by
      obtain ⟨c, P', g1, g2, g3⟩ := h6 hlf
      have g1 : cdv = .ref c := g1
      exact ⟨hr, ⟨c, P', g2, g1, g3 _ _ _⟩⟩⟩
    refine ⟨tEx K fa (fun cls d _ H' => E cls d H') ⟨F, ρ, H⟩ (execs (Cf.mk (callK T gc k) gc (wdT T)) d.body), ?_, ?_⟩
    · exact sB d.body ck (L2N.takes_of rfl rfl rfl rfl) (passes_of rfl) ⟨fun _ => rfl, rfl, rfl, hr.mono (by omega)⟩ body h5
    · obtain ⟨er, no⟩ := start_rel (N := N) (d := d) r h3 hl h4
      exact ⟨F, ρ, _, st, ⟨.refl _ _ _, w0, er, fun i o a e => absurd e (no i o)⟩, fin_post w0 p⟩
  · rw [if_neg hl] at p
    exact p.elim
theorem fx_all (hd : ∀ f x, nm.f f = some x → ∃ ps fd, DefAt K mg base nm fa T f x ps fd)
    (con : ∀ x p, gc x = some p → ∃ v u, mg (nm.c x) = some u ∧ RelV v u ∧ ∀ F H, VR K fa F H v p) (free : ∀ x, x ∈ freeNames → mg x = none)
    (exc : ∀ c x, nm.e c = some x → mg x = some (.ref (fa c)) ∧ PySem.W.keepIn K (.ref (fa c)) = true ∧ (∃ B newId initId bmB, ExcBaseFacts B newId initId bmB ∧ PySem.W.excIn K (fa c) bmB newId = true) ∧ ∀ X : Cx, X.K = K → Raises X (.ref (fa c)))
    (wrd : ∀ f x get, nm.w f = some (x, get) → ∃ pg bg sg dV kV doc pm cdv ct oc an od osl Ng a g, WordOk P w K mg base fa x get (wdT T f) pg bg sg dV kV doc pm cdv ct oc an od osl Ng a g)
    (tok : ∀ f x get, nm.w f = some (x, get) → TryOk P w K mg base fa "_law_names" (wdT T f))
    (exv : ∀ c x, nm.x c = some x → (c, nm.i c) ∈ fa.xs ∧ ExV P w K mg base nm fa c x) (exw : ∀ q, q ∈ fa.xs → ∃ x, nm.x q.1 = some x ∧ nm.i q.1 = q.2) :
    ∀ k, Fx P w K mg base nm fa gc T k := by
  intro k
  induction k with
  | zero =>
    refine ⟨fun f x hf => ?_, con, free, exc, wrd, tok, exv, exw⟩
    obtain ⟨ps, fd, D⟩ := hd f x hf
    obtain ⟨params, body, scope, N, d, lf, F, hm, hb, _⟩ := D.ex
    exact ⟨fd, ps, hm, F.kp, hb, ⟨fun vs H Q E ⟨F, ρ, ds, st, w, _, p⟩ => p.elim, fun A outer s H args us vs Q E _ _ _ _ ⟨F, ρ, ds, st, w, _, p⟩ => p.elim⟩⟩
  | succ k ih =>
    refine ⟨fun f x hf => ?_, con, free, exc, wrd, tok, exv, exw⟩
    obtain ⟨ps, fd, D⟩ := hd f x hf
    have q := def_fn ih D
    obtain ⟨params, body, scope, N, d, lf, F, hm, hb, _⟩ := D.ex
    exact ⟨fd, ps, hm, F.kp, hb, q⟩
end
end DE
end

section
set_option Elab.async false
set_option linter.all false
set_option maxRecDepth 100000
set_option autoImplicit false
namespace DE
open PySem PySem.Spec L2 PyProof.Rows
theorem law_at {l : PySem.W.OpenLaw} {w : World} {K : PySem.W.Frag} {mg : Str → Option Value} {h : Heap} {nm : Nm} {fa : Fa} {gc : Nat → Option DE.P} {T : Nat → Option Df} {fL k n : Nat} {x xl : Str} {fA : Addr} {fd : FuncData} {cs : List (Addr × Addr)}
    (hc1 : ∀ p ∈ cs, h.get? p.2 = some { cls := .none, data := .fields #[] }) (hc2 : ∀ p ∈ cs, K.lookup p.2 = none) (hc3 : ∀ p ∈ cs, PySem.W.CodeHd h p.1 p.2) (htb : ∀ p ∈ fa.tb, ∃ q ∈ cs, q.2 = p.1)
    (hfx : ∀ base : Heap, K.In base → base.Ns mainGlobals mg → (∀ p ∈ cs, LamX.TabB base mg p.1 p.2) → Fx l.prog w K mg base nm fa gc T k)
    (hdl : ∀ base : Heap, K.In base → base.Ns mainGlobals mg → (∀ p ∈ cs, LamX.TabB base mg p.1 p.2) → DefAt K mg base nm fa T fL xl [x] fd)
    (hfa : fa fL = fA) (hb : ∀ (s : Shared) (u : Value), BindsTo s fd ⟨[u], []⟩ [(x, u)])
    (hlaw : ∀ ns : List Int, ns.length ≤ n → (∀ z ∈ ns, Builtin.Int.intBits z ≤ 1048576) → ∃ st, callK T gc (k + 1) fL [.p (.scr ns)] [] = .ok (.p (.bl true)) st) :
    LamX.LawAtS l w K (L2N.CX l.prog w) (3 * (k + 1)) n x mg fA h := by
  subst hfa
  refine ⟨fd, cs, spK K fa (callK T gc (k + 1) fL), hc1, hc2, hc3, hb, fun H a ns hl hz hH hS => ?_, fun base h1 h2 h3 => def_fn (hfx base h1 h2 h3) (hdl base h1 h2 h3)⟩
  obtain ⟨st, e⟩ := hlaw ns hl hz
  have tabs : LamX.Tabs fa.tb H := fun p hp => by
    obtain ⟨q, hq, e⟩ := htb p hp
    exact LamX.TabS.nil (by rw [← e]; exact hH q hq)
  have go : ∀ F : Addr → Prop, (∀ b, F b → nt H b ≠ none) → ScrAt K F H a ns → spK K fa (callK T gc (k + 1) fL) [.ref a] H (fun v _ => v = .bl true) fun _ _ _ => False := fun F hF hs => by
    refine ⟨F, [], [.p (.scr ns)], [], ⟨rfl, by simp, fun n b o h => by simp at h, fun b hb => by simp at hb, hF, tabs⟩, ⟨VR.scr hs, True.intro⟩, ?_⟩
    rw [e]
    intro b F' ρ' H' _ _ r
    cases (show VR K fa F' H' b (.bl true) from r)
    rfl
  rcases hS with (hS | ⟨o, hS⟩) | ⟨o, its, m, q1, q2, q3, q4, q5, q6⟩
  · exact go (fun b => b = a) (fun b hb => by rw [hb]; exact nt_lst hS) (.inl ⟨rfl, .inl hS⟩)
  · exact go (fun b => b = a) (fun b hb => by rw [hb]; exact nt_ne hS (fun _ z => nomatch z)) (.inl ⟨rfl, .inr ⟨o, hS⟩⟩)
  · exact go (fun _ => False) (fun b hb => hb.elim) (.inr fun H' => .inr ⟨o, its, m, q1, q2, q3, q4, q5, q6⟩)
theorem lookup_memN {α : Type} {e : Nat} {x : α} : ∀ {l : List (Nat × α)}, l.lookup e = some x → (e, x) ∈ l
  | [], h => by cases h
  | (n, y) :: l, h => by
    have h : (match e == n with | true => some y | false => l.lookup e) = some x := h
    cases q : (e == n) with
    | true =>
      rw [q] at h
      cases h
      rw [beq_iff_eq.mp q]
      exact List.mem_cons_self
    | false =>
      rw [q] at h
      exact List.mem_cons_of_mem _ (lookup_memN h)
theorem code_of {K : PySem.W.Frag} {p : He.Defn} {x q : Str} {a : Arguments} {b : List Stmt} {s : Scope} {fd : FuncData} (F : FunD K x q a b s [] [] (He.fAd K p) fd) : fd.code = .ref (He.cT K p).1 := by
  obtain ⟨oc, od, dV, kV, doc, pm, an, cdv, ct, osl, rfl, lk, hcd, _, _⟩ := F.ex
  obtain ⟨c, e⟩ := He.codeIn_ref hcd
  have e2 : He.codeOf K p = c := He.codeOf_eq lk e
  show cdv = .ref (He.codeOf K p)
  rw [e2, e]
section
variable {faL : List He.Fa} {fn : List He.DefD} {K : PySem.W.Frag} {h : Heap} {mg : Str → Option Value}
theorem free_all (c : He.SaysD faL fn K) (X : K.In h) (G : h.Ns mainGlobals mg) (hf : ∀ x ∈ freeNames, He.Fa.free x ∈ faL) : ∀ x, x ∈ freeNames → mg x = none := fun x hx => He.free_ok X G (c.facts (hf x hx))
theorem exc_one (c : He.SaysD faL fn K) (X : K.In h) (G : h.Ns mainGlobals mg) {x : Str} (h1 : He.Fa.glo x ∈ faL) (h2 : He.Fa.exc x ∈ faL) :
    mg x = some (.ref (He.ga K x)) ∧ PySem.W.keepIn K (.ref (He.ga K x)) = true ∧ (∃ B newId initId bmB, ExcBaseFacts B newId initId bmB ∧ PySem.W.excIn K (He.ga K x) bmB newId = true) ∧ ∀ X : Cx, X.K = K → Raises X (.ref (He.ga K x)) := by
  obtain ⟨e1, e2, e3, e4⟩ := He.exc_ok (c.facts h2)
  exact ⟨He.glo_ok X G (c.facts h1), e2, ⟨_, _, _, _, F.excBase_ValueError, e1⟩, fun X hX => raises_own (by rw [hX]; exact e3) (by rw [hX]; exact e4)⟩
theorem con_int (c : He.SaysD faL fn K) (X : K.In h) (G : h.Ns mainGlobals mg) {fa : Fa} {x : Str} {i : Int} (h1 : He.Fa.int x i ∈ faL) : ∃ v u, mg x = some u ∧ RelV v u ∧ ∀ F H, VR K fa F H v (.int i) := by
  obtain ⟨t, e⟩ := He.int_ok X G (c.facts h1)
  exact ⟨.int i, _, e, ⟨t, rfl⟩, fun _ _ => VR.int i⟩
theorem con_str (c : He.SaysD faL fn K) (X : K.In h) (G : h.Ns mainGlobals mg) {fa : Fa} {x z : Str} (h1 : He.Fa.str x z ∈ faL) : ∃ v u, mg x = some u ∧ RelV v u ∧ ∀ F H, VR K fa F H v (.str z) := by
  obtain ⟨t, e⟩ := He.str_ok X G (c.facts h1)
  exact ⟨.str z, _, e, ⟨t, rfl⟩, fun _ _ => VR.str z⟩
theorem con_fn (c : He.SaysD faL fn K) (X : K.In h) (G : h.Ns mainGlobals mg) {fa : Fa} {x : Str} {f : Nat} (h1 : He.Fa.glo x ∈ faL) (h2 : fa f = He.ga K x) : ∃ v u, mg x = some u ∧ RelV v u ∧ ∀ F H, VR K fa F H v (.fn f) := by
  refine ⟨.ref (fa f), _, He.glo_ok X G (c.facts h1), ?_, fun _ _ => VR.fn f⟩
  rw [h2]
  rfl
end
end DE
end

section
set_option Elab.async false
set_option linter.all false
set_option maxRecDepth 100000
set_option autoImplicit false
namespace DE
open PySem
section
variable {α β : Type}
def Wp (r : R α) (Q : α → Store → Prop) : Prop := ∃ a st, r = .ok a st ∧ Q a st
theorem Wp.ok {a : α} {st : Store} {Q : α → Store → Prop} (h : Q a st) : Wp (.ok a st) Q := ⟨a, st, rfl, h⟩
theorem Wp.get {a : α} {st : Store} {Q : α → Store → Prop} (h : Wp (.ok a st) Q) : Q a st := by
  obtain ⟨a', st', e, q⟩ := h
  cases e
  exact q
theorem wp_ok {a : α} {st : Store} {Q : α → Store → Prop} : Wp (.ok a st) Q = Q a st := propext ⟨Wp.get, Wp.ok⟩
theorem Wp.noExc {c : Nat} {x : Option P} {st : Store} {Q : α → Store → Prop} (h : Wp (.exc c x st) Q) : False := by
  obtain ⟨a', st', e, q⟩ := h
  cases e
theorem Wp.noBad {Q : α → Store → Prop} (h : Wp .bad Q) : False := by
  obtain ⟨a', st', e, q⟩ := h
  cases e
theorem Wp.bind {r : R α} {f : α → Store → R β} {Q : β → Store → Prop} {Q1 : α → Store → Prop} (h : Wp r Q1) (h2 : ∀ a st, Q1 a st → Wp (f a st) Q) : Wp (r.bind f) Q := by
  obtain ⟨a, st, rfl, q⟩ := h
  exact h2 a st q
theorem Wp.nx {r : R α} {Q : α → Store → Prop} (h : Wp r Q) : Wp r.nx Q := by
  obtain ⟨a, st, rfl, q⟩ := h
  exact ⟨a, st, rfl, q⟩
theorem Wp.mono {r : R α} {Q Q1 : α → Store → Prop} (h : Wp r Q1) (h2 : ∀ a st, Q1 a st → Q a st) : Wp r Q := by
  obtain ⟨a, st, rfl, q⟩ := h
  exact ⟨a, st, rfl, h2 a st q⟩
theorem Wp.ex {r : R α} {Q : α → Store → Prop} (h : Wp r Q) : ∃ a st, r = .ok a st ∧ Q a st := h
theorem Wp.of_eq {r : R α} {a : α} {st : Store} {Q : α → Store → Prop} (e : r = .ok a st) (h : Q a st) : Wp r Q := ⟨a, st, e, h⟩
/-- what a call makes of a body's outcome -/
def FinQ (n : Nat) (Q : D → Store → Prop) : Fl → Store → Prop
  | .rt (.p x), st => Q (.p x) (st.take n)
  | .rt (.box k), st => if k < n then Q (.box k) (st.take n) else match st[k]? with
    | some o => Q (.box n) (st.take n ++ [o])
    | none => False
  | .nx _, st => Q (.p .non) (st.take n)
  | _, _ => False
theorem Wp.fin {n : Nat} {r : R Fl} {Q : D → Store → Prop} (h : Wp r (FinQ n Q)) : Wp (fin n r) Q := by
  obtain ⟨a, st, rfl, h⟩ := h
  cases a with
  | nx e => exact Wp.ok h
  | bk e => exact h.elim
  | ct e => exact h.elim
  | rt d =>
    cases d with
    | p x => exact Wp.ok h
    | new xs => exact h.elim
    | bor o => exact h.elim
    | box k =>
      have h : (if k < n then Q (.box k) (st.take n) else match st[k]? with
        | some o => Q (.box n) (st.take n ++ [o])
        | none => False) := h
      show Wp (if k < n then _ else _) Q
      split
      · rename_i hk
        rw [if_pos hk] at h
        exact Wp.ok h
      · rename_i hk
        rw [if_neg hk] at h
        cases q : st[k]? with
        | none => rw [q] at h; exact h.elim
        | some o => rw [q] at h; exact Wp.ok h
theorem fin_rtp {n : Nat} {x : P} {st : Store} : fin n (.ok (.rt (.p x)) st) = .ok (.p x) (st.take n) := rfl
theorem fin_nx {n : Nat} {e : Env} {st : Store} : fin n (.ok (.nx e) st) = .ok (.p .non) (st.take n) := rfl
theorem fin_exc {n : Nat} {c : Nat} {x : Option P} {st : Store} : fin n (.exc c x st) = .exc c x (st.take n) := rfl
theorem callK_eq {T : Nat → Option Df} {gc : Nat → Option P} {f k : Nat} {d : Df} {as : List D} {st : Store} (h : T f = some d) (hl : as.length = d.np) :
    callK T gc (k + 1) f as st = fin st.length (execs ⟨callK T gc k, gc, wdT T⟩ d.body (startE d as) st) := by
  show (match T f with
    | some d => if as.length = d.np then fin st.length (execs ⟨callK T gc k, gc, wdT T⟩ d.body (startE d as) st) else .bad
    | none => .bad) = _
  rw [h]
  exact if_pos hl

theorem forGo_wp {f : Env → Store → R Fl} {tg : Tg} {Q : Fl → Store → Prop} (I : Nat → Env → Store → Prop) (ys : List P)
    (h : ∀ i x env st, ys[i]? = some x → I i env st → ∃ env1, asgT tg (.p x) env = some env1 ∧ Wp (f env1 st) (fun r st => match r with
      | .nx env => I (i + 1) env st
      | .ct env => I (i + 1) env st
      | .bk env => Q (.nx env) st
      | .rt d => Q (.rt d) st))
    (he : ∀ env st, I ys.length env st → Q (.nx env) st) {env : Env} {st : Store} (h0 : I 0 env st) : Wp (forGo f tg ys env st) Q := by
  have go : ∀ (xs : List P) (j : Nat) (env : Env) (st : Store), ys.drop j = xs → j ≤ ys.length → I j env st → Wp (forGo f tg xs env st) Q := by
    intro xs
    induction xs with
    | nil =>
      intro j env st hd hj hi
      have : ys.length ≤ j := List.drop_eq_nil_iff.mp hd
      have e : j = ys.length := Nat.le_antisymm hj this
      subst e
      exact Wp.ok (he _ _ hi)
    | cons x xs ih =>
      intro j env st hd hj hi
      have hlt : j < ys.length := by
        rcases Nat.lt_or_ge j ys.length with q | q
        · exact q
        · rw [List.drop_of_length_le q] at hd; cases hd
      rw [List.drop_eq_getElem_cons hlt] at hd
      cases hd
      obtain ⟨env1, e1, w⟩ := h j ys[j] env st (List.getElem?_eq_getElem hlt) hi
      unfold forGo
      rw [e1]
      refine Wp.bind w fun r st1 hr => ?_
      cases r with
      | nx env2 => exact ih (j + 1) env2 st1 rfl hlt hr
      | ct env2 => exact ih (j + 1) env2 st1 rfl hlt hr
      | bk env2 => exact Wp.ok hr
      | rt d => exact Wp.ok hr
  exact go ys 0 env st rfl (Nat.zero_le _) h0
theorem whileGo_wp {t : Env → Store → R Bool} {f : Env → Store → R Fl} {Q : Fl → Store → Prop} (I : Nat → Env → Store → Prop)
    (h : ∀ m env st, I m env st → Wp (t env st) fun b st1 => if b = true then Wp (f env st1) (fun r st => match r with
      | .nx env => ∃ m', m' < m ∧ I m' env st
      | .ct env => ∃ m', m' < m ∧ I m' env st
      | .bk env => Q (.nx env) st
      | .rt d => Q (.rt d) st) else Q (.nx env) st1) : ∀ (n m : Nat) (env : Env) (st : Store), m < n → I m env st → Wp (whileGo t f n env st) Q
  | 0, m, env, st, hm, _ => absurd hm (Nat.not_lt_zero _)
  | n + 1, m, env, st, hm, hi => by
    unfold whileGo
    refine Wp.bind (h m env st hi) fun b st1 hb => ?_
    cases b with
    | false => exact Wp.ok (by simpa using hb)
    | true =>
      refine Wp.bind (by simpa using hb) fun r st2 hr => ?_
      cases r with
      | nx env2 =>
        obtain ⟨m', h1, h2⟩ := hr
        exact whileGo_wp I h n m' env2 st2 (by omega) h2
      | ct env2 =>
        obtain ⟨m', h1, h2⟩ := hr
        exact whileGo_wp I h n m' env2 st2 (by omega) h2
      | bk env2 => exact Wp.ok hr
      | rt d => exact Wp.ok hr
theorem whl_wp {c : Cf} {t : IE} {b : IB} {env : Env} {st : Store} {Q : Fl → Store → Prop} (I : Nat → Env → Store → Prop) (m : Nat) (hm : m < 1000000)
    (h : ∀ m env st, I m env st → Wp (evT c t env st) fun bb st1 => if bb = true then Wp (execs c b env st1) (fun r st => match r with
      | .nx env => ∃ m', m' < m ∧ I m' env st
      | .ct env => ∃ m', m' < m ∧ I m' env st
      | .bk env => Q (.nx env) st
      | .rt d => Q (.rt d) st) else Q (.nx env) st1) (h0 : I m env st) : Wp (exec c (.whl t b) env st) Q := by
  show Wp (whileGo _ _ WN env st) Q
  exact whileGo_wp I h WN m env st hm h0
/-- a comprehension whose turns draw nothing -/
theorem compGo_det {f : Env → Store → R D} {t : Env → Store → R Bool} {tg : Tg} {env : Env} {st : Store} {b : P → Bool} {y : P → P} : ∀ (xs acc : List P),
    (∀ x ∈ xs, ∃ env1, asgT tg (.p x) env = some env1 ∧ t env1 st = .ok (b x) st ∧ (b x = true → ∃ d, f env1 st = .ok d st ∧ d.keep = some (y x))) → acc.length + xs.length ≤ sizeLine →
    compGo f t tg env xs acc st = .ok (acc ++ (xs.filter b).map y) st
  | [], acc, _, _ => by simp [compGo]
  | x :: xs, acc, h, hl => by
    obtain ⟨env1, e1, e2, e3⟩ := h x List.mem_cons_self
    have hr : ∀ z ∈ xs, ∃ env1, asgT tg (.p z) env = some env1 ∧ t env1 st = .ok (b z) st ∧ (b z = true → ∃ d, f env1 st = .ok d st ∧ d.keep = some (y z)) := fun z hz => h z (List.mem_cons_of_mem _ hz)
    rw [List.length_cons] at hl
    unfold compGo
    rw [e1]
    simp only [e2, R.nx_ok, R.bind_ok]
    cases hb : b x with
    | false =>
      rw [if_neg Bool.false_ne_true, compGo_det xs acc hr (by omega), List.filter_cons_of_neg (by simp [hb])]
    | true =>
      obtain ⟨d, e4, e5⟩ := e3 hb
      rw [if_pos rfl]
      simp only [e4, R.nx_ok, R.bind_ok, e5]
      rw [if_pos (decide_eq_true (by omega)), compGo_det xs (acc ++ [y x]) hr (by rw [List.length_append, List.length_singleton]; omega), List.filter_cons_of_pos hb]
      simp
/-- one that draws -/
theorem compGo_wp {f : Env → Store → R D} {t : Env → Store → R Bool} {tg : Tg} {env : Env} {Q : List P → Store → Prop} (I : Nat → List P → Store → Prop) (ys : List P)
    (h : ∀ i x acc st, ys[i]? = some x → I i acc st → ∃ env1, asgT tg (.p x) env = some env1 ∧ Wp (t env1 st) fun b st1 => if b = true then Wp (f env1 st1) (fun d st2 => ∃ y, d.keep = some y ∧ acc.length < sizeLine ∧ I (i + 1) (acc ++ [y]) st2) else I (i + 1) acc st1)
    (he : ∀ acc st, I ys.length acc st → Q acc st) {st : Store} (h0 : I 0 [] st) : Wp (compGo f t tg env ys [] st) Q := by
  have go : ∀ (xs : List P) (j : Nat) (acc : List P) (st : Store), ys.drop j = xs → j ≤ ys.length → I j acc st → Wp (compGo f t tg env xs acc st) Q := by
    intro xs
    induction xs with
    | nil =>
      intro j acc st hd hj hi
      have : ys.length ≤ j := List.drop_eq_nil_iff.mp hd
      have e : j = ys.length := Nat.le_antisymm hj this
      subst e
      exact Wp.ok (he _ _ hi)
    | cons x xs ih =>
      intro j acc st hd hj hi
      have hlt : j < ys.length := by
        rcases Nat.lt_or_ge j ys.length with q | q
        · exact q
        · rw [List.drop_of_length_le q] at hd; cases hd
      rw [List.drop_eq_getElem_cons hlt] at hd
      cases hd
      obtain ⟨env1, e1, w⟩ := h j ys[j] acc st (List.getElem?_eq_getElem hlt) hi
      unfold compGo
      rw [e1]
      refine Wp.bind w.nx fun b st1 hb => ?_
      cases b with
      | false => exact ih (j + 1) acc st1 rfl hlt hb
      | true =>
        refine Wp.bind (Wp.nx hb) fun d st2 hd => ?_
        obtain ⟨y, e2, e3, hi2⟩ := hd
        rw [e2]
        show Wp (if decide (acc.length < sizeLine) = true then _ else _) Q
        rw [if_pos (decide_eq_true e3)]
        exact ih (j + 1) (acc ++ [y]) st2 rfl hlt hi2
  exact go ys 0 [] st rfl (Nat.zero_le _) h0
theorem rngP_get {a b : Int} {i : Nat} {x : P} (h : (rngP a b)[i]? = some x) : x = .int (a + i) ∧ a + i < b := by
  unfold rngP at h
  rw [List.getElem?_map] at h
  cases q : (List.range (b - a).toNat)[i]? with
  | none => rw [q] at h; cases h
  | some j =>
    rw [q] at h
    cases h
    obtain ⟨h1, h2⟩ := List.getElem?_eq_some_iff.mp q
    rw [List.getElem_range] at h2
    subst h2
    rw [List.length_range] at h1
    exact ⟨rfl, by omega⟩
theorem rngP_len {a b : Int} : (rngP a b).length = (b - a).toNat := by simp [rngP]

mutual
/-- plain data, nested at most so deep -/
def P.okD : Nat → P → Bool
  | _, .non => true
  | _, .bl _ => true
  | _, .int _ => true
  | _, .str x => PyData.strOk x
  | n + 1, .lst xs => P.okDs n xs
  | n + 1, .tup xs => P.okDs n xs
  | _, _ => false
def P.okDs : Nat → List P → Bool
  | _, [] => true
  | n, x :: xs => P.okD n x && P.okDs n xs
end
mutual
theorem P.okD_pd : ∀ {n : Nat} {x : P}, P.okD n x = true → ∃ d, x.pd = some d ∧ d.canLay0 = true ∧ d.depth ≤ n
  | _, .non, _ => ⟨_, rfl, rfl, Nat.zero_le _⟩
  | _, .bl b, _ => ⟨_, rfl, rfl, Nat.zero_le _⟩
  | _, .int b, _ => ⟨_, rfl, rfl, Nat.zero_le _⟩
  | _, .str x, h => ⟨.str x, rfl, by simpa [PyData.canLay0, P.okD] using h, Nat.zero_le _⟩
  | n + 1, .lst xs, h => by
    unfold P.okD at h
    obtain ⟨ds, e, h1, h2⟩ := P.okDs_pds h
    refine ⟨.list ds, by unfold P.pd; rw [e]; rfl, by simpa [PyData.canLay0] using h1, by simp [PyData.depth]; exact h2⟩
  | n + 1, .tup xs, h => by
    unfold P.okD at h
    obtain ⟨ds, e, h1, h2⟩ := P.okDs_pds h
    refine ⟨.tuple ds, by unfold P.pd; rw [e]; rfl, by simpa [PyData.canLay0] using h1, by simp [PyData.depth]; exact h2⟩
  | 0, .lst xs, h => by simp [P.okD] at h
  | 0, .tup xs, h => by simp [P.okD] at h
  | _, .fn _, h => by simp [P.okD] at h
  | _, .scr _, h => by simp [P.okD] at h
  | _, .exo _ _, h => by simp [P.okD] at h
theorem P.okDs_pds : ∀ {n : Nat} {xs : List P}, P.okDs n xs = true → ∃ ds, P.pds xs = some ds ∧ PyData.canLayAll0 ds = true ∧ PyData.depthAll ds ≤ n
  | _, [], _ => ⟨[], rfl, rfl, Nat.zero_le _⟩
  | n, x :: xs, h => by
    unfold P.okDs at h
    rw [Bool.and_eq_true] at h
    obtain ⟨d, e, h1, h2⟩ := P.okD_pd h.1
    obtain ⟨ds, e2, h3, h4⟩ := P.okDs_pds h.2
    refine ⟨d :: ds, by unfold P.pds; rw [e, e2], by simp [PyData.canLayAll0, h1, h3], by simp [PyData.depthAll]; omega⟩
end
mutual
/-- == of data -/
def P.eqv : P → P → Bool
  | .non, .non => true
  | .bl a, .bl b => a == b
  | .bl a, .int j => (if a then 1 else 0) == j
  | .int i, .bl b => i == (if b then 1 else 0)
  | .int i, .int j => i == j
  | .str x, .str y => x == y
  | .lst xs, .lst ys => P.eqvs xs ys
  | .tup xs, .tup ys => P.eqvs xs ys
  | _, _ => false
def P.eqvs : List P → List P → Bool
  | [], [] => true
  | x :: xs, y :: ys => P.eqv x y && P.eqvs xs ys
  | _, _ => false
end
mutual
theorem P.eqv_pd : ∀ {x y : P} {d e : PyData}, x.pd = some d → y.pd = some e → PyData.eqv d e = P.eqv x y
  | .lst xs, .lst ys, d, e, h1, h2 => by
    unfold P.pd at h1 h2
    cases q1 : P.pds xs with
    | none => rw [q1] at h1; cases h1
    | some ds =>
      cases q2 : P.pds ys with
      | none => rw [q2] at h2; cases h2
      | some es =>
        rw [q1] at h1; rw [q2] at h2; cases h1; cases h2
        simp only [PyData.eqv, P.eqv]
        exact P.eqvs_pds q1 q2
  | .tup xs, .tup ys, d, e, h1, h2 => by
    unfold P.pd at h1 h2
    cases q1 : P.pds xs with
    | none => rw [q1] at h1; cases h1
    | some ds =>
      cases q2 : P.pds ys with
      | none => rw [q2] at h2; cases h2
      | some es =>
        rw [q1] at h1; rw [q2] at h2; cases h1; cases h2
        simp only [PyData.eqv, P.eqv]
        exact P.eqvs_pds q1 q2
  | .lst xs, .tup ys, d, e, h1, h2 => by
    unfold P.pd at h1 h2
    cases q1 : P.pds xs with
    | none => rw [q1] at h1; cases h1
    | some ds =>
      cases q2 : P.pds ys with
      | none => rw [q2] at h2; cases h2
      | some es =>
        rw [q1] at h1; rw [q2] at h2; cases h1; cases h2
        simp [PyData.eqv, P.eqv]
  | .tup xs, .lst ys, d, e, h1, h2 => by
    unfold P.pd at h1 h2
    cases q1 : P.pds xs with
    | none => rw [q1] at h1; cases h1
    | some ds =>
      cases q2 : P.pds ys with
      | none => rw [q2] at h2; cases h2
      | some es =>
        rw [q1] at h1; rw [q2] at h2; cases h1; cases h2
        simp [PyData.eqv, P.eqv]
  | .lst xs, .non, d, e, h1, h2 | .lst xs, .bl _, d, e, h1, h2 | .lst xs, .int _, d, e, h1, h2 | .lst xs, .str _, d, e, h1, h2
  | .tup xs, .non, d, e, h1, h2 | .tup xs, .bl _, d, e, h1, h2 | .tup xs, .int _, d, e, h1, h2 | .tup xs, .str _, d, e, h1, h2 => by
    unfold P.pd at h1 h2
    cases q1 : P.pds xs with
    | none => rw [q1] at h1; cases h1
    | some ds => rw [q1] at h1; cases h1; cases h2; simp [PyData.eqv, P.eqv]
  | .non, .lst ys, d, e, h1, h2 | .bl _, .lst ys, d, e, h1, h2 | .int _, .lst ys, d, e, h1, h2 | .str _, .lst ys, d, e, h1, h2
  | .non, .tup ys, d, e, h1, h2 | .bl _, .tup ys, d, e, h1, h2 | .int _, .tup ys, d, e, h1, h2 | .str _, .tup ys, d, e, h1, h2 => by
    unfold P.pd at h1 h2
    cases q1 : P.pds ys with
    | none => rw [q1] at h2; cases h2
    | some ds => rw [q1] at h2; cases h1; cases h2; simp [PyData.eqv, P.eqv]
  | .non, .non, d, e, h1, h2 | .non, .bl _, d, e, h1, h2 | .non, .int _, d, e, h1, h2 | .non, .str _, d, e, h1, h2
  | .bl _, .non, d, e, h1, h2 | .bl _, .bl _, d, e, h1, h2 | .bl _, .int _, d, e, h1, h2 | .bl _, .str _, d, e, h1, h2
  | .int _, .non, d, e, h1, h2 | .int _, .bl _, d, e, h1, h2 | .int _, .int _, d, e, h1, h2 | .int _, .str _, d, e, h1, h2
  | .str _, .non, d, e, h1, h2 | .str _, .bl _, d, e, h1, h2 | .str _, .int _, d, e, h1, h2 | .str _, .str _, d, e, h1, h2 => by
    cases h1; cases h2; simp [PyData.eqv, P.eqv]
  | .fn _, _, d, e, h1, h2 => by cases h1
  | .scr _, _, d, e, h1, h2 => by cases h1
  | .exo _ _, _, d, e, h1, h2 => by cases h1
  | _, .exo _ _, d, e, h1, h2 => by cases h2
  | _, .fn _, d, e, h1, h2 => by cases h2
  | _, .scr _, d, e, h1, h2 => by cases h2
theorem P.eqvs_pds : ∀ {xs ys : List P} {ds es : List PyData}, P.pds xs = some ds → P.pds ys = some es → PyData.eqvAll ds es = P.eqvs xs ys
  | [], [], ds, es, h1, h2 => by cases h1; cases h2; rfl
  | [], y :: ys, ds, es, h1, h2 => by
    cases h1
    unfold P.pds at h2
    split at h2
    · cases h2; rfl
    · cases h2
  | x :: xs, [], ds, es, h1, h2 => by
    cases h2
    unfold P.pds at h1
    split at h1
    · cases h1; rfl
    · cases h1
  | x :: xs, y :: ys, ds, es, h1, h2 => by
    unfold P.pds at h1 h2
    split at h1
    · rename_i d1 ds1 e1 e2
      cases h1
      split at h2
      · rename_i d2 ds2 e3 e4
        cases h2
        show (PyData.eqv d1 d2 && PyData.eqvAll ds1 ds2) = (P.eqv x y && P.eqvs xs ys)
        rw [P.eqv_pd e1 e3, P.eqvs_pds e2 e4]
      · cases h2
    · cases h1
end
theorem opEq_ok {x y : P} (hx : P.okD 64 x = true) (hy : P.okD 64 y = true) : opEq x y = some (P.eqv x y) := by
  obtain ⟨d, e1, h1, h2⟩ := P.okD_pd hx
  obtain ⟨e, e2, h3, h4⟩ := P.okD_pd hy
  unfold opEq
  rw [e1, e2]
  show (if (SeqAt.shaped d && SeqAt.shaped e) = true then some (PyData.eqv d e) else none) = _
  rw [if_pos (by simp [SeqAt.shaped, h1, h2, h3, h4]), P.eqv_pd e1 e2]
mutual
theorem P.okD_mono : ∀ {n m : Nat} {x : P}, n ≤ m → P.okD n x = true → P.okD m x = true
  | _, _, .non, _, _ => by simp [P.okD]
  | _, _, .bl b, _, _ => by simp [P.okD]
  | _, _, .int b, _, _ => by simp [P.okD]
  | _, _, .str x, _, h => by simpa [P.okD] using h
  | n + 1, m + 1, .lst xs, hm, h => by
    unfold P.okD at h ⊢
    exact P.okDs_mono (Nat.le_of_succ_le_succ hm) h
  | n + 1, m + 1, .tup xs, hm, h => by
    unfold P.okD at h ⊢
    exact P.okDs_mono (Nat.le_of_succ_le_succ hm) h
  | n + 1, 0, .lst xs, hm, h => by omega
  | n + 1, 0, .tup xs, hm, h => by omega
  | 0, _, .lst xs, _, h => by simp [P.okD] at h
  | 0, _, .tup xs, _, h => by simp [P.okD] at h
  | _, _, .fn _, _, h => by simp [P.okD] at h
  | _, _, .scr _, _, h => by simp [P.okD] at h
  | _, _, .exo _ _, _, h => by simp [P.okD] at h
theorem P.okDs_mono : ∀ {n m : Nat} {xs : List P}, n ≤ m → P.okDs n xs = true → P.okDs m xs = true
  | _, _, [], _, _ => by simp [P.okDs]
  | n, m, x :: xs, hm, h => by
    unfold P.okDs at h ⊢
    rw [Bool.and_eq_true] at h ⊢
    exact ⟨P.okD_mono hm h.1, P.okDs_mono hm h.2⟩
end
theorem P.okDs_iff {n : Nat} {xs : List P} : P.okDs n xs = true ↔ ∀ x ∈ xs, P.okD n x = true := by
  induction xs with
  | nil => simp [P.okDs]
  | cons x xs ih => simp [P.okDs, ih]
end
end DE
end

section
set_option Elab.async false
set_option linter.all false
set_option maxRecDepth 100000
set_option autoImplicit false
namespace DE
open PySem L2
section
variable {c : Cf} {env env1 : Env} {st : Store} {a b e d0 t : IE} {es : IL} {x y z : P} {d d1 : D} {ds as : List D} {xs ys : List P} {i j n k f : Nat} {op o1 o2 : Operator} {cop cop2 : CmpOp} {w : Option P} {lo hi : IO} {l h : Option Int} {tg : Tg} {it : IT} {cond : IO} {bb : Bool} {ibl ibl2 : IB} {fl : Fl} {o : SO} {sl : Sl} {zs : Str} {bf : Bf} {me : Me} {ty : String} {fs is : List Nat} {os bs : List Bool} {ks : List Str} {kx : IE} {msg : Str}
def kV (s : Option Sl) (st : Store) : R D := match s with
  | some (.val d) => .ok d st
  | some (.own o) => .ok (.bor o) st
  | _ => .bad
theorem V1 : ev c (.v i) env st = kV env[i]? st := by rw [ev]; rfl
theorem V2 : kV (some (.val d)) st = .ok d st := rfl
theorem V3 : kV (some (.own o)) st = .ok (.bor o) st := rfl
theorem V4 : ev c (.g i) env st = mkP (c.gc i) st := by rw [ev]
theorem V5 : mkP (some x) st = .ok (.p x) st := rfl
theorem V6 : mkB (some bb) st = .ok (.p (.bl bb)) st := rfl
theorem V7 (i : Int): ev c (.int i) env st = .ok (.p (.int i)) st := by rw [ev]
theorem V8 (i : Bool): ev c (.bl i) env st = .ok (.p (.bl i)) st := by rw [ev]
theorem V9 (i : Str): ev c (.str i) env st = .ok (.p (.str i)) st := by rw [ev]
theorem V10 : ev c .non env st = .ok (.p .non) st := by rw [ev]
theorem V11 (i : Int): mkD (some (.int i)) st = .ok (.p (.int i)) st := rfl
theorem V12 (i : Bool): mkD (some (.bl i)) st = .ok (.p (.bl i)) st := rfl
theorem V13 (i : Str): mkD (some (.str i)) st = .ok (.p (.str i)) st := rfl
theorem V14 (xs : List P): mkD (some (.tup xs)) st = .ok (.p (.tup xs)) st := rfl
theorem V15 : mkD (some .non) st = .ok (.p .non) st := rfl
theorem V16 : mkD (some (.lst xs)) st = .ok (.new xs) st := rfl
theorem V17 : (D.p x).rd st = some x := rfl
theorem V18 : (D.new xs).rd st = some (.lst xs) := rfl
theorem V19 : (D.bor (.lst xs)).rd st = some (.lst xs) := rfl
def kBx (o : Option SO) : Option P := match o with
  | some (.lst xs) => some (.lst xs)
  | _ => none
theorem V20 : (D.box n).rd st = kBx st[n]? := rfl
theorem V21 : kBx (some (.lst xs)) = some (.lst xs) := rfl
theorem V22 : (D.p x).rdI false = some x := rfl
theorem V23 : (D.new xs).rdI false = some (.lst xs) := rfl
theorem V24 : (D.p x).rdI true = some x := rfl
theorem V25 : (D.new xs).rdI true = some (.lst xs) := rfl
theorem V26 : (D.bor (.lst xs)).rdI false = some (.lst xs) := rfl
theorem V27 : (D.p x).keep = some x := rfl
theorem V28 : (D.new xs).keep = some (.lst xs) := rfl
theorem V29 : (D.p x).arg = some (.p x) := rfl
theorem V30 : (D.new xs).arg = some (.p (.lst xs)) := rfl
theorem V31 : (D.box n).arg = some (.box n) := rfl
def kTr (o : Option P) (st : Store) : R Bool := match o with
  | some x => R.opt (truth x) st
  | none => .bad
theorem V32 : rdB d st = kTr (d.rd st) st := rfl
theorem V33 : kTr (some x) st = R.opt (truth x) st := rfl
theorem V34 : R.opt (some bb) st = .ok bb st := rfl
theorem V35 : R.opt (some xs) st = .ok xs st := rfl
def kBinR (op : Operator) (a b : Option P) (st : Store) : R D := match a, b with
  | some x, some y => mkD (opBin op x y) st
  | _, _ => .bad
theorem V36 : kBinR op (some x) (some y) st = mkD (opBin op x y) st := rfl
def kBin2 (r : R D)  (op : Operator) (x : D) : R D := r.bind fun y st => kBinR op (x.rd st) (y.rd st) st
theorem V37 : kBin2 (.exc k w st) op d = .exc k w st := rfl
theorem V38 : kBin2 (.ok d1 st) op d = kBinR op (d.rd st) (d1.rd st) st := rfl
def kBin1 (r : R D)  (c : Cf) (op : Operator) (b : IE) (env : Env) : R D := r.bind fun x st => kBin2 (ev c b env st) op x
theorem V39 : kBin1 (.exc k w st) c op b env = .exc k w st := rfl
theorem V40 : kBin1 (.ok d st) c op b env = kBin2 (ev c b env st) op d := rfl
theorem V41 : ev c (.bin op a b) env st = kBin1 (ev c a env st) c op b env := by rw [ev]; rfl
def kCmpR (op : CmpOp) (a b : Option P) (st : Store) : R D := match a, b with
  | some x, some y => mkB (opCmp op x y) st
  | _, _ => .bad
theorem V42 : kCmpR cop (some x) (some y) st = mkB (opCmp cop x y) st := rfl
def kCmp2 (r : R D)  (op : CmpOp) (x : D) : R D := r.bind fun y st => kCmpR op (x.rd st) (y.rd st) st
theorem V43 : kCmp2 (.exc k w st) cop d = .exc k w st := rfl
theorem V44 : kCmp2 (.ok d1 st) cop d = kCmpR cop (d.rd st) (d1.rd st) st := rfl
def kCmp1 (r : R D)  (c : Cf) (op : CmpOp) (b : IE) (env : Env) : R D := r.bind fun x st => kCmp2 (ev c b env st) op x
theorem V45 : kCmp1 (.exc k w st) c cop b env = .exc k w st := rfl
theorem V46 : kCmp1 (.ok d st) c cop b env = kCmp2 (ev c b env st) cop d := rfl
theorem V47 : ev c (.cmp cop a b) env st = kCmp1 (ev c a env st) c cop b env := by rw [ev]; rfl
def kIxR (a b : Option P) (st : Store) : R D := match a, b with
  | some x, some y => mkP (opIdx x y) st
  | _, _ => .bad
theorem V48 : kIxR (some x) (some y) st = mkP (opIdx x y) st := rfl
def kIx2 (r : R D)  (x : D) : R D := r.bind fun y st => kIxR (x.rd st) (y.rd st) st
theorem V49 : kIx2 (.exc k w st) d = .exc k w st := rfl
theorem V50 : kIx2 (.ok d1 st) d = kIxR (d.rd st) (d1.rd st) st := rfl
def kIx1 (r : R D)  (c : Cf) (b : IE) (env : Env) : R D := r.bind fun x st => kIx2 (ev c b env st) x
theorem V51 : kIx1 (.exc k w st) c b env = .exc k w st := rfl
theorem V52 : kIx1 (.ok d st) c b env = kIx2 (ev c b env st) d := rfl
theorem V53 : ev c (.idx a b) env st = kIx1 (ev c a env st) c b env := by rw [ev]; rfl
def kNegR (a : Option P) (st : Store) : R D := match a with
  | some (.int i) => .ok (.p (.int (-i))) st
  | some (.bl b) => .ok (.p (.int (-b2i b))) st
  | _ => .bad
theorem V54 (i : Int): kNegR (some (.int i)) st = .ok (.p (.int (-i))) st := rfl
theorem V55 : kNegR (some (.bl bb)) st = .ok (.p (.int (-b2i bb))) st := rfl
def kNeg (r : R D)  : R D := r.bind fun x st => kNegR (x.rd st) st
theorem V56 : kNeg (.exc k w st)  = .exc k w st := rfl
theorem V57 : kNeg (.ok d st) = kNegR (d.rd st) st := rfl
theorem V58 : ev c (.neg a) env st = kNeg (ev c a env st) := by rw [ev]; rfl
def kNoR (r : R Bool)  : R D := r.bind fun b st => .ok (.p (.bl (!b))) st
theorem V59 : kNoR (.exc k w st)  = .exc k w st := rfl
theorem V60 : kNoR (.ok bb st) = .ok (.p (.bl (!bb))) st := rfl
def kNo (r : R D)  : R D := r.bind fun d st => kNoR (rdB d st)
theorem V61 : kNo (.exc k w st)  = .exc k w st := rfl
theorem V62 : kNo (.ok d st) = kNoR (rdB d st) := rfl
theorem V63 : ev c (.no a) env st = kNo (ev c a env st) := by rw [ev]; rfl
def kAnd (r : R D) (c : Cf) (es : IL) (env : Env) : R D := r.bind fun x st => match x with
  | .p (.bl true) => evAnd c es env st
  | .p (.bl false) => .ok (.p (.bl false)) st
  | _ => .bad
theorem V64 : kAnd (.exc k w st) c es env = .exc k w st := rfl
theorem V65 : kAnd (.ok (.p (.bl true)) st) c es env = evAnd c es env st := rfl
theorem V66 : kAnd (.ok (.p (.bl false)) st) c es env = .ok (.p (.bl false)) st := rfl
theorem V67 : ev c (.and es) env st = evAnd c es env st := by rw [ev]
theorem V68 : evAnd c (.cons e .nil) env st = ev c e env st := by rw [evAnd]
theorem V69 : evAnd c (.cons e (.cons a es)) env st = kAnd (ev c e env st) c (.cons a es) env := by rw [evAnd]; rfl; exact fun h => nomatch h
def kOr (r : R D) (c : Cf) (es : IL) (env : Env) : R D := r.bind fun x st => match x with
  | .p (.bl false) => evOr c es env st
  | .p (.bl true) => .ok (.p (.bl true)) st
  | _ => .bad
theorem V70 : kOr (.exc k w st) c es env = .exc k w st := rfl
theorem V71 : kOr (.ok (.p (.bl false)) st) c es env = evOr c es env st := rfl
theorem V72 : kOr (.ok (.p (.bl true)) st) c es env = .ok (.p (.bl true)) st := rfl
theorem V73 : ev c (.or es) env st = evOr c es env st := by rw [ev]
theorem V74 : evOr c (.cons e .nil) env st = ev c e env st := by rw [evOr]
theorem V75 : evOr c (.cons e (.cons a es)) env st = kOr (ev c e env st) c (.cons a es) env := by rw [evOr]; rfl; exact fun h => nomatch h
def kCh6 (w : Option P) (o2 : CmpOp) (y : P) (st : Store) : R D := match w with
  | some z => mkB (opCmp o2 y z) st
  | none => .bad
theorem V76 : kCh6 (some z) cop2 y st = mkB (opCmp cop2 y z) st := rfl
def kCh5 (r : R D)  (o2 : CmpOp) (y : P) : R D := r.bind fun z st => kCh6 (z.rd st) o2 y st
theorem V77 : kCh5 (.exc k w st) cop2 y = .exc k w st := rfl
theorem V78 : kCh5 (.ok d st) cop2 y = kCh6 (d.rd st) cop2 y st := rfl
def kCh4 (f : Bool) (y : P) (st : Store) (c : Cf) (o2 : CmpOp) (d : IE) (env : Env) : R D := if f then kCh5 (ev c d env st) o2 y else .bad
theorem V79 : kCh4 true y st c cop2 e env = kCh5 (ev c e env st) cop2 y := rfl
def kCh3 (b : Option Bool) (y : P) (st : Store) (c : Cf) (o2 : CmpOp) (d : IE) (env : Env) : R D := match b with
  | some true => kCh4 y.flat y st c o2 d env
  | some false => .ok (.p (.bl false)) st
  | none => .bad
theorem V80 : kCh3 (some true) y st c cop2 e env = kCh4 y.flat y st c cop2 e env := rfl
theorem V81 : kCh3 (some false) y st c cop2 e env = .ok (.p (.bl false)) st := rfl
def kChR (a b : Option P) (o1 o2 : CmpOp) (st : Store) (c : Cf) (d : IE) (env : Env) : R D := match a, b with
  | some x, some y => kCh3 (opCmp o1 x y) y st c o2 d env
  | _, _ => .bad
theorem V82 : kChR (some x) (some y) cop cop2 st c e env = kCh3 (opCmp cop x y) y st c cop2 e env := rfl
def kCh2 (r : R D)  (c : Cf) (o1 o2 : CmpOp) (x : D) (d : IE) (env : Env) : R D := r.bind fun y st => kChR (x.rd st) (y.rd st) o1 o2 st c d env
theorem V83 : kCh2 (.exc k w st) c cop cop2 d e env = .exc k w st := rfl
theorem V84 : kCh2 (.ok d1 st) c cop cop2 d e env = kChR (d.rd st) (d1.rd st) cop cop2 st c e env := rfl
def kCh1 (r : R D)  (c : Cf) (o1 o2 : CmpOp) (b d : IE) (env : Env) : R D := r.bind fun x st => kCh2 (ev c b env st) c o1 o2 x d env
theorem V85 : kCh1 (.exc k w st) c cop cop2 b e env = .exc k w st := rfl
theorem V86 : kCh1 (.ok d st) c cop cop2 b e env = kCh2 (ev c b env st) c cop cop2 d e env := rfl
theorem V87 : ev c (.chain cop cop2 a b e) env st = kCh1 (ev c a env st) c cop cop2 b e env := by rw [ev]; rfl
theorem V88 : P.flat .non = true := rfl
theorem V89 : P.flat (.bl bb) = true := rfl
theorem V90 (i : Int): P.flat (.int i) = true := rfl
theorem V91 : P.flat (.str zs) = true := rfl
theorem V92 : P.flat (.lst xs) = false := rfl
theorem V93 : P.flat (.tup xs) = false := rfl
def kIf2 (r : R Bool)  (c : Cf) (a b : IE) (env : Env) : R D := r.bind fun k st => if k then ev c a env st else ev c b env st
theorem V94 : kIf2 (.exc k w st) c a b env = .exc k w st := rfl
theorem V95 : kIf2 (.ok true st) c a b env = ev c a env st := rfl
theorem V96 : kIf2 (.ok false st) c a b env = ev c b env st := rfl
def kIf1 (r : R D)  (c : Cf) (a b : IE) (env : Env) : R D := r.bind fun k st => kIf2 (rdB k st) c a b env
theorem V97 : kIf1 (.exc k w st) c a b env = .exc k w st := rfl
theorem V98 : kIf1 (.ok d st) c a b env = kIf2 (rdB d st) c a b env := rfl
theorem V99 : ev c (.ife t a b) env st = kIf1 (ev c t env st) c a b env := by rw [ev]; rfl
def kTup3 (s : Bool) (xs : List P) (st : Store) : R D := if s then .ok (.p (.tup xs)) st else .bad
theorem V100 : kTup3 true xs st = .ok (.p (.tup xs)) st := rfl
def kTup2 (o : Option (List P)) (st : Store) : R D := match o with
  | some xs => kTup3 (small xs.length) xs st
  | none => .bad
theorem V101 : kTup2 (some xs) st = kTup3 (small xs.length) xs st := rfl
def kTup (r : R (List D))  : R D := r.bind fun ds st => kTup2 (keeps ds) st
theorem V102 : kTup (.exc k w st)  = .exc k w st := rfl
theorem V103 : kTup (.ok ds st) = kTup2 (keeps ds) st := rfl
theorem V104 : ev c (.tup es) env st = kTup (evL c es env st) := by rw [ev]; rfl
def kLst3 (s : Bool) (xs : List P) (st : Store) : R D := if s then .ok (.new xs) st else .bad
theorem V105 : kLst3 true xs st = .ok (.new xs) st := rfl
def kLst2 (o : Option (List P)) (st : Store) : R D := match o with
  | some xs => kLst3 (small xs.length) xs st
  | none => .bad
theorem V106 : kLst2 (some xs) st = kLst3 (small xs.length) xs st := rfl
def kLst (r : R (List D))  : R D := r.bind fun ds st => kLst2 (keeps ds) st
theorem V107 : kLst (.exc k w st)  = .exc k w st := rfl
theorem V108 : kLst (.ok ds st) = kLst2 (keeps ds) st := rfl
theorem V109 : ev c (.lst es) env st = kLst (evL c es env st) := by rw [ev]; rfl
def kCons (a : Option P) (b : Option (List P)) : Option (List P) := match a, b with
  | some x, some xs => some (x :: xs)
  | _, _ => none
def kConsD (a : Option D) (b : Option (List D)) : Option (List D) := match a, b with
  | some x, some xs => some (x :: xs)
  | _, _ => none
theorem V110 : kCons (some x) (some xs) = some (x :: xs) := rfl
theorem V111 : kConsD (some d) (some ds) = some (d :: ds) := rfl
theorem V112 : keeps [] = some [] := rfl
theorem V113 : keeps (d :: ds) = kCons d.keep (keeps ds) := rfl
theorem V114 : rds st [] = some [] := rfl
theorem V115 : rds st (d :: ds) = kCons (d.rd st) (rds st ds) := rfl
theorem V116 : argsD [] = some [] := rfl
theorem V117 : argsD (d :: ds) = kConsD d.arg (argsD ds) := rfl
def kL2 (r : R (List D))  (d : D) : R (List D) := r.bind fun ds st => .ok (d :: ds) st
theorem V118 : kL2 (.exc k w st) d = .exc k w st := rfl
theorem V119 : kL2 (.ok ds st) d = .ok (d :: ds) st := rfl
def kL1 (r : R D)  (c : Cf) (es : IL) (env : Env) : R (List D) := r.bind fun d st => kL2 (evL c es env st) d
theorem V120 : kL1 (.exc k w st) c es env = .exc k w st := rfl
theorem V121 : kL1 (.ok d st) c es env = kL2 (evL c es env st) d := rfl
theorem V122 : evL c .nil env st = .ok [] st := by rw [evL]
theorem V123 : evL c (.cons e es) env st = kL1 (ev c e env st) c es env := by rw [evL]; rfl
def kCall2 (o : Option (List D)) (c : Cf) (f : Nat) (st : Store) : R D := match o with
  | some as => c.call f as st
  | none => .bad
theorem V124 : kCall2 (some as) c f st = c.call f as st := rfl
def kCall (r : R (List D))  (c : Cf) (f : Nat) : R D := r.bind fun ds st => kCall2 (argsD ds) c f st
theorem V125 : kCall (.exc k w st) c f = .exc k w st := rfl
theorem V126 : kCall (.ok ds st) c f = kCall2 (argsD ds) c f st := rfl
theorem V127 : ev c (.call f es) env st = kCall (evL c es env st) c f := by rw [ev]; rfl
def kCv (s : Option Sl) (fs : List Nat) (c : Cf) (es : IL) (env : Env) (st : Store) : R D := match s with
  | some (.val (.p (.fn f))) => if fs.contains f then kCall (evL c es env st) c f else .bad
  | _ => .bad
theorem V128 : ev c (.callV i fs es) env st = kCv env[i]? fs c es env st := by rw [ev]; rfl
theorem V129 : kCv (some (.val (.p (.fn f)))) fs c es env st = if fs.contains f then kCall (evL c es env st) c f else .bad := rfl
def kBi3 (o : Option (List P)) (f : Bf) (st : Store) : R D := match o with
  | some xs => mkD (opBi f xs) st
  | none => .bad
theorem V130 : kBi3 (some xs) bf st = mkD (opBi bf xs) st := rfl
def kBi2 (r : R (List D))  (f : Bf) (d : D) : R D := r.bind fun ds st => kBi3 (rds st (d :: ds)) f st
theorem V131 : kBi2 (.exc k w st) bf d = .exc k w st := rfl
theorem V132 : kBi2 (.ok ds st) bf d = kBi3 (rds st (d :: ds)) bf st := rfl
def kBi1 (r : R D)  (c : Cf) (f : Bf) (es : IL) (env : Env) : R D := r.bind fun d st => kBi2 (evL c es env st) f d
theorem V133 : kBi1 (.exc k w st) c bf es env = .exc k w st := rfl
theorem V134 : kBi1 (.ok d st) c bf es env = kBi2 (evL c es env st) bf d := rfl
theorem V135 : ev c (.bi bf a es) env st = kBi1 (ev c a env st) c bf es env := by rw [ev]; rfl
def kMe3 (o : Option P) (m : Me) (z : Str) (st : Store) : R D := match o with
  | some y => mkD (opMe m (.str z) y) st
  | none => .bad
theorem V136 : kMe3 (some y) me zs st = mkD (opMe me (.str zs) y) st := rfl
def kMe2 (r : R D)  (m : Me) (z : Str) : R D := r.bind fun y st => kMe3 (y.rd st) m z st
theorem V137 : kMe2 (.exc k w st) me zs = .exc k w st := rfl
theorem V138 : kMe2 (.ok d st) me zs = kMe3 (d.rd st) me zs st := rfl
def kMe1 (r : R D) (c : Cf) (m : Me) (a : IE) (env : Env) : R D := r.bind fun x st => match x with
  | .p (.str z) => kMe2 (ev c a env st) m z
  | _ => .bad
theorem V139 : kMe1 (.ok (.p (.str zs)) st) c me a env = kMe2 (ev c a env st) me zs := rfl
theorem V140 : kMe1 (.exc k w st) c me a env = .exc k w st := rfl
theorem V141 : ev c (.meth me e a) env st = kMe1 (ev c e env st) c me a env := by rw [ev]; rfl
def kSl4 (o : Option P) (l h : Option Int) (st : Store) : R D := match o with
  | some x => mkD (opSlc x l h) st
  | none => .bad
theorem V142 : kSl4 (some x) l h st = mkD (opSlc x l h) st := rfl
def kSl3 (r : R (Option Int))  (x : D) (l : Option Int) : R D := r.bind fun h st => kSl4 (x.rd st) l h st
theorem V143 : kSl3 (.exc k w st) d l = .exc k w st := rfl
theorem V144 : kSl3 (.ok h st) d l = kSl4 (d.rd st) l h st := rfl
def kSl2 (r : R (Option Int))  (c : Cf) (x : D) (hi : IO) (env : Env) : R D := r.bind fun l st => kSl3 (evO c hi env st) x l
theorem V145 : kSl2 (.exc k w st) c d hi env = .exc k w st := rfl
theorem V146 : kSl2 (.ok l st) c d hi env = kSl3 (evO c hi env st) d l := rfl
def kSl1 (r : R D)  (c : Cf) (lo hi : IO) (env : Env) : R D := r.bind fun x st => kSl2 (evO c lo env st) c x hi env
theorem V147 : kSl1 (.exc k w st) c lo hi env = .exc k w st := rfl
theorem V148 : kSl1 (.ok d st) c lo hi env = kSl2 (evO c lo env st) c d hi env := rfl
theorem V149 : ev c (.slc a lo hi) env st = kSl1 (ev c a env st) c lo hi env := by rw [ev]; rfl
def kO (r : R D) : R (Option Int) := r.bind fun x st => match x with
  | .p (.int i) => .ok (some i) st
  | _ => .bad
theorem V150 (i : Int): kO (.ok (.p (.int i)) st) = .ok (some i) st := rfl
theorem V151 : kO (.exc k w st) = .exc k w st := rfl
theorem V152 : evO c .non env st = .ok none st := by rw [evO]
theorem V153 : evO c (.som e) env st = kO (ev c e env st) := by rw [evO]; rfl
def kRev2 (o : Option P) (st : Store) : R D := match o with
  | some x => mkD (opRev x) st
  | none => .bad
theorem V154 : kRev2 (some x) st = mkD (opRev x) st := rfl
def kRev (r : R D)  : R D := r.bind fun x st => kRev2 (x.rd st) st
theorem V155 : kRev (.exc k w st)  = .exc k w st := rfl
theorem V156 : kRev (.ok d st) = kRev2 (d.rd st) st := rfl
theorem V157 : ev c (.rev a) env st = kRev (ev c a env st) := by rw [ev]; rfl
def compC (c : Cf) (elt : IE) (cond : IO) (tg : Tg) (env : Env) (xs : List P) (st : Store) : R (List P) := compGo (fun env st => ev c elt env st) (fun env st => evC c cond env st) tg env xs [] st
def kCo2 (r : R (List P))  : R D := r.bind fun ys st => .ok (.new ys) st
theorem V158 : kCo2 (.exc k w st)  = .exc k w st := rfl
theorem V159 : kCo2 (.ok xs st) = .ok (.new xs) st := rfl
def kCo (r : R (List P))  (c : Cf) (elt : IE) (tg : Tg) (cond : IO) (env : Env) : R D := r.bind fun xs st => kCo2 (compC c elt cond tg (wip env tg.slots) xs st)
theorem V160 : kCo (.exc k w st) c e tg cond env = .exc k w st := rfl
theorem V161 : kCo (.ok xs st) c e tg cond env = kCo2 (compC c e cond tg (wip env tg.slots) xs st) := rfl
theorem V162 : ev c (.comp e tg it cond) env st = kCo (evI c false it env st) c e tg cond env := by rw [ev]; rfl
theorem V163 : Tg.slots (.one i) = [i] := rfl
theorem V164 (t1 t2 : Tg): Tg.slots (.two t1 t2) = t1.slots ++ t2.slots := rfl
theorem V165 : DE.wip env [] = env := rfl
theorem V166 : DE.wip env (i :: is) = (DE.wip env is).set i .un := rfl
def kIsi2 (o : Option P) (t : String) (st : Store) : R D := match o with
  | some x => mkB (isT x t) st
  | none => .bad
theorem V167 : kIsi2 (some x) ty st = mkB (isT x ty) st := rfl
def kIsi (r : R D)  (t : String) : R D := r.bind fun x st => kIsi2 (x.rd st) t st
theorem V168 : kIsi (.exc k w st) ty = .exc k w st := rfl
theorem V169 : kIsi (.ok d st) ty = kIsi2 (d.rd st) ty st := rfl
theorem V170 : ev c (.isi a ty) env st = kIsi (ev c a env st) ty := by rw [ev]; rfl
theorem V171 : isT .non "int" = some false := by show kitB "NoneType" "int" = _; decide +kernel
theorem V172 : isT .non "bool" = some false := by show kitB "NoneType" "bool" = _; decide +kernel
theorem V173 : isT .non "str" = some false := by show kitB "NoneType" "str" = _; decide +kernel
theorem V174 : isT .non "tuple" = some false := by show kitB "NoneType" "tuple" = _; decide +kernel
theorem V175 : isT .non "list" = some false := by show kitB "NoneType" "list" = _; decide +kernel
theorem V176 : isT (.bl bb) "int" = some true := by show kitB "bool" "int" = _; decide +kernel
theorem V177 : isT (.bl bb) "bool" = some true := by show kitB "bool" "bool" = _; decide +kernel
theorem V178 : isT (.bl bb) "str" = some false := by show kitB "bool" "str" = _; decide +kernel
theorem V179 : isT (.bl bb) "tuple" = some false := by show kitB "bool" "tuple" = _; decide +kernel
theorem V180 : isT (.bl bb) "list" = some false := by show kitB "bool" "list" = _; decide +kernel
theorem V181 (i : Int): isT (.int i) "int" = some true := by show kitB "int" "int" = _; decide +kernel
theorem V182 (i : Int): isT (.int i) "bool" = some false := by show kitB "int" "bool" = _; decide +kernel
theorem V183 (i : Int): isT (.int i) "str" = some false := by show kitB "int" "str" = _; decide +kernel
theorem V184 (i : Int): isT (.int i) "tuple" = some false := by show kitB "int" "tuple" = _; decide +kernel
theorem V185 (i : Int): isT (.int i) "list" = some false := by show kitB "int" "list" = _; decide +kernel
theorem V186 : isT (.str zs) "int" = some false := by show kitB "str" "int" = _; decide +kernel
theorem V187 : isT (.str zs) "bool" = some false := by show kitB "str" "bool" = _; decide +kernel
theorem V188 : isT (.str zs) "str" = some true := by show kitB "str" "str" = _; decide +kernel
theorem V189 : isT (.str zs) "tuple" = some false := by show kitB "str" "tuple" = _; decide +kernel
theorem V190 : isT (.str zs) "list" = some false := by show kitB "str" "list" = _; decide +kernel
theorem V191 : isT (.lst xs) "int" = some false := by show kitB "list" "int" = _; decide +kernel
theorem V192 : isT (.lst xs) "bool" = some false := by show kitB "list" "bool" = _; decide +kernel
theorem V193 : isT (.lst xs) "str" = some false := by show kitB "list" "str" = _; decide +kernel
theorem V194 : isT (.lst xs) "tuple" = some false := by show kitB "list" "tuple" = _; decide +kernel
theorem V195 : isT (.lst xs) "list" = some true := by show kitB "list" "list" = _; decide +kernel
theorem V196 : isT (.tup xs) "int" = some false := by show kitB "tuple" "int" = _; decide +kernel
theorem V197 : isT (.tup xs) "bool" = some false := by show kitB "tuple" "bool" = _; decide +kernel
theorem V198 : isT (.tup xs) "str" = some false := by show kitB "tuple" "str" = _; decide +kernel
theorem V199 : isT (.tup xs) "tuple" = some true := by show kitB "tuple" "tuple" = _; decide +kernel
theorem V200 : isT (.tup xs) "list" = some false := by show kitB "tuple" "list" = _; decide +kernel
def kDg2 (r : R D) (gt : Bool) (ks : List Str) (xs : List P) : R D := r.bind fun x st => match x with
  | .p (.str z) => dGet gt (ks.zip xs) z st
  | _ => .bad
theorem V201 : kDg2 (.ok (.p (.str zs)) st) bb ks xs = dGet bb (ks.zip xs) zs st := rfl
theorem V202 : kDg2 (.exc k w st) bb ks xs = .exc k w st := rfl
def kDg1 (r : R (List D)) (c : Cf) (gt : Bool) (ks : List Str) (a : IE) (env : Env) : R D := r.bind fun ds st => match keeps ds with
    | some xs => kDg2 (ev c a env st) gt ks xs
    | none => .bad
def kDg0 (o : Option (List P)) (c : Cf) (gt : Bool) (ks : List Str) (a : IE) (env : Env) (st : Store) : R D := match o with
    | some xs => kDg2 (ev c a env st) gt ks xs
    | none => .bad
theorem V203 : kDg1 (.ok ds st) c bb ks a env = kDg0 (keeps ds) c bb ks a env st := rfl
theorem V204 : kDg0 (some xs) c bb ks a env st = kDg2 (ev c a env st) bb ks xs := rfl
theorem V205 : ev c (.dget bb ks es a) env st = kDg1 (evL c es env st) c bb ks a env := by rw [ev]; rfl
def kWd2 (o : Option Str) (st : Store) : R D := match o with
  | some z => .ok (.p (.str z)) st
  | none => .bad
def kWd (r : R D) (c : Cf) (f : Nat) (get : Bool) : R D := match r with
    | .ok d st => if get then .ok d st else .ok (.p (.str "")) st
    | .exc k none st => kWd2 (c.wd f k) st
    | .exc _ (some _) _ => .bad
    | .bad => .bad
theorem V206 : kWd2 (some zs) st = .ok (.p (.str zs)) st := rfl
theorem V207 : kWd (.ok d st) c f true = .ok d st := rfl
theorem V208 : kWd (.ok d st) c f false = .ok (.p (.str "")) st := rfl
theorem V209 : kWd (.exc k none st) c f bb = kWd2 (c.wd f k) st := rfl
theorem V210 : ev c (.word f bb e) env st = kWd (ev c e env st) c f bb := by rw [ev]; rfl
def kC (r : R D)  : R Bool := r.bind fun d st => rdB d st
theorem V211 : kC (.exc k w st)  = .exc k w st := rfl
theorem V212 : kC (.ok d st) = rdB d st := rfl
theorem V213 : evC c .non env st = .ok true st := by rw [evC]
theorem V214 : evC c (.som e) env st = kC (ev c e env st) := by rw [evC]; rfl
theorem V215 : evT c e env st = kC (ev c e env st) := rfl
def kSeq2 (o : Option P) (st : Store) : R (List P) := match o with
  | some x => R.opt (itSeq x) st
  | none => .bad
theorem V216 : kSeq2 (some x) st = R.opt (itSeq x) st := rfl
def kSeq (r : R D)  (b : Bool) : R (List P) := r.bind fun x st => kSeq2 (x.rdI b) st
theorem V217 : kSeq (.exc k w st) bb = .exc k w st := rfl
theorem V218 : kSeq (.ok d st) bb = kSeq2 (d.rdI bb) st := rfl
theorem V219 : evI c bb (.seq e) env st = kSeq (ev c e env st) bb := by rw [evI]; rfl
def kR1 (r : R D)  (d : D) : R (List P) := r.bind fun x st => itRng d x st
theorem V220 : kR1 (.exc k w st) d = .exc k w st := rfl
theorem V221 : kR1 (.ok d1 st) d = itRng d d1 st := rfl
theorem V222 : evI c bb (.rng1 e) env st = kR1 (ev c e env st) (.p (.int 0)) := by rw [evI]; rfl
def kR2 (r : R D)  (c : Cf) (b : IE) (env : Env) : R (List P) := r.bind fun x st => kR1 (ev c b env st) x
theorem V223 : kR2 (.exc k w st) c b env = .exc k w st := rfl
theorem V224 : kR2 (.ok d st) c b env = kR1 (ev c b env st) d := rfl
theorem V225 : evI c bb (.rng2 a b) env st = kR2 (ev c a env st) c b env := by rw [evI]; rfl
def kRg (o : Bool) (i j : Int) (st : Store) : R (List P) := if o then .ok (rngP i j) st else .bad
theorem V226 (i j : Int): itRng (.p (.int i)) (.p (.int j)) st = kRg (rngOk i j) i j st := rfl
theorem V227 (i j : Int): kRg true i j st = .ok (rngP i j) st := rfl
def kZ3 (a b : Option P) (st : Store) : R (List P) := match a, b with
  | some x, some y => R.opt (itZip x y) st
  | _, _ => .bad
theorem V228 : kZ3 (some x) (some y) st = R.opt (itZip x y) st := rfl
def kZ2 (r : R D)  (bb : Bool) (x : D) : R (List P) := r.bind fun y st => kZ3 (x.rdI bb) (y.rdI bb) st
theorem V229 : kZ2 (.exc k w st) bb d = .exc k w st := rfl
theorem V230 : kZ2 (.ok d1 st) bb d = kZ3 (d.rdI bb) (d1.rdI bb) st := rfl
def kZ1 (r : R D)  (c : Cf) (bb : Bool) (b : IE) (env : Env) : R (List P) := r.bind fun x st => kZ2 (ev c b env st) bb x
theorem V231 : kZ1 (.exc k w st) c bb b env = .exc k w st := rfl
theorem V232 : kZ1 (.ok d st) c bb b env = kZ2 (ev c b env st) bb d := rfl
theorem V233 : evI c bb (.zip a b) env st = kZ1 (ev c a env st) c bb b env := by rw [evI]; rfl
def kEn2 (o : Option P) (st : Store) : R (List P) := match o with
  | some x => R.opt (itEnum x) st
  | none => .bad
theorem V234 : kEn2 (some x) st = R.opt (itEnum x) st := rfl
def kEn (r : R D)  (b : Bool) : R (List P) := r.bind fun x st => kEn2 (x.rdI b) st
theorem V235 : kEn (.exc k w st) bb = .exc k w st := rfl
theorem V236 : kEn (.ok d st) bb = kEn2 (d.rdI bb) st := rfl
theorem V237 : evI c bb (.enum e) env st = kEn (ev c e env st) bb := by rw [evI]; rfl
def kAsg3 (o : Option Env) (st : Store) : R Fl := match o with
  | some env => .ok (.nx env) st
  | none => .bad
def kAsg2 (o : Option D) (t : Tg) (env : Env) (st : Store) : R Fl := match o with
  | some d => kAsg3 (asgT t d env) st
  | none => .bad
theorem V238 : kAsg3 (some env) st = .ok (.nx env) st := rfl
theorem V239 : kAsg2 (some d) tg env st = kAsg3 (asgT tg d env) st := rfl
def kAsg (r : R D)  (t : Tg) (env : Env) : R Fl := r.bind fun d st => kAsg2 d.arg t env st
theorem V240 : kAsg (.exc k w st) tg env = .exc k w st := rfl
theorem V241 : kAsg (.ok d st) tg env = kAsg2 d.arg tg env st := rfl
theorem V242 : exec c (.asg tg e) env st = kAsg (ev c e env st) tg env := by rw [exec]; rfl
theorem V243 : asgT (.one i) (.p x) env = some (env.set i (.val (.p x))) := rfl
theorem V244 : asgT (.one i) (.box n) env = some (env.set i (.val (.box n))) := rfl
def kTwo (o : Option Env) (b : Tg) (y : P) : Option Env := match o with | some env1 => asgT b (.p y) env1 | none => none
theorem V245 (t1 t2 : Tg): asgT (.two t1 t2) (.p (.tup [x, y])) env = kTwo (asgT t1 (.p x) env) t2 y := rfl
theorem V246 : kTwo (some env) tg y = asgT tg (.p y) env := rfl
def kAsO2 (o : Option SO) (i : Nat) (env : Env) (st : Store) : R Fl := match o with
  | some o => .ok (.nx (setO env i o)) st
  | none => .bad
theorem V247 : kAsO2 (some o) i env st = .ok (.nx (env.set i (.own o))) st := rfl
def kAsO (r : R D)  (i : Nat) (env : Env) : R Fl := r.bind fun d st => kAsO2 (ownOf d) i env st
theorem V248 : kAsO (.exc k w st) i env = .exc k w st := rfl
theorem V249 : kAsO (.ok d st) i env = kAsO2 (ownOf d) i env st := rfl
theorem V250 : exec c (.asgO i e) env st = kAsO (ev c e env st) i env := by rw [exec]; rfl
theorem V251 : ownOf (.new xs) = some (.lst xs) := rfl
def kPar (r : R (List D))  (is : List Nat) (os : List Bool) (env : Env) : R Fl := r.bind fun ds st => kAsg3 (parD env is os ds) st
theorem V252 : kPar (.exc k w st) is os env = .exc k w st := rfl
theorem V253 : kPar (.ok ds st) is os env = kAsg3 (parD env is os ds) st := rfl
theorem V254 : exec c (.par is os es) env st = kPar (evL c es env st) is os env := by rw [exec]; rfl
def kPd (o : Option SO) (env : Env) (i : Nat) (is : List Nat) (os : List Bool) (ds : List D) : Option Env := match o with
  | some so => parD (setO env i so) is os ds
  | none => none
def kPv (o : Option D) (env : Env) (i : Nat) (is : List Nat) (os : List Bool) (ds : List D) : Option Env := match o with
  | some d => parD (setS env i d) is os ds
  | none => none
theorem V255 : parD env [] [] [] = some env := rfl
theorem V256 : parD env (i :: is) (true :: os) (d :: ds) = kPd (ownOf d) env i is os ds := by rw [parD]; rfl
theorem V257 : parD env (i :: is) (false :: os) (d :: ds) = kPv d.arg env i is os ds := by rw [parD]; rfl
theorem V258 : kPd (some o) env i is os ds = parD (env.set i (.own o)) is os ds := rfl
theorem V259 : kPv (some d) env i is os ds = parD (env.set i (.val d)) is os ds := rfl
def kSt4 (o : Option SO) (i : Nat) (env : Env) (st : Store) : R Fl := match o with
  | some so => .ok (.nx (setO env i so)) st
  | none => .bad
def kSt3 (a b : Option P) (so : SO) (i : Nat) (env : Env) (st : Store) : R Fl := match a, b with
  | some k, some y => kSt4 (so.put k y) i env st
  | _, _ => .bad
def kSb4 (o : Option SO) (n : Nat) (env : Env) (st : Store) : R Fl := match o with
  | some so => .ok (.nx env) (st.set n so)
  | none => .bad
def kSb3 (a b : Option P) (o : Option SO) (n : Nat) (env : Env) (st : Store) : R Fl := match a, b, o with
  | some k, some y, some so => kSb4 (so.put k y) n env st
  | _, _, _ => .bad
theorem V260 : kSt4 (some o) i env st = .ok (.nx (env.set i (.own o))) st := rfl
theorem V261 : kSt3 (some x) (some y) o i env st = kSt4 (o.put x y) i env st := rfl
theorem V262 : kSb4 (some o) n env st = .ok (.nx env) (st.set n o) := rfl
theorem V263 : kSb3 (some x) (some y) (some o) n env st = kSb4 (o.put x y) n env st := rfl
def kSt2 (r : R D)  (y : D) (so : SO) (i : Nat) (env : Env) : R Fl := r.bind fun k st => kSt3 (k.rd st) y.keep so i env st
theorem V264 : kSt2 (.exc k w st) d o i env = .exc k w st := rfl
theorem V265 : kSt2 (.ok d1 st) d o i env = kSt3 (d1.rd st) d.keep o i env st := rfl
def kSt1 (r : R D)  (c : Cf) (k : IE) (so : SO) (i : Nat) (env : Env) : R Fl := r.bind fun y st => kSt2 (ev c k env st) y so i env
theorem V266 : kSt1 (.exc k w st) c a o i env = .exc k w st := rfl
theorem V267 : kSt1 (.ok d st) c a o i env = kSt2 (ev c a env st) d o i env := rfl
def kSb2 (r : R D)  (y : D) (n : Nat) (env : Env) : R Fl := r.bind fun k st => kSb3 (k.rd st) y.keep st[n]? n env st
theorem V268 : kSb2 (.exc k w st) d n env = .exc k w st := rfl
theorem V269 : kSb2 (.ok d1 st) d n env = kSb3 (d1.rd st) d.keep st[n]? n env st := rfl
def kSb1 (r : R D)  (c : Cf) (k : IE) (n : Nat) (env : Env) : R Fl := r.bind fun y st => kSb2 (ev c k env st) y n env
theorem V270 : kSb1 (.exc k w st) c a n env = .exc k w st := rfl
theorem V271 : kSb1 (.ok d st) c a n env = kSb2 (ev c a env st) d n env := rfl
def kSeti (s : Option Sl) (c : Cf) (i : Nat) (k e : IE) (env : Env) (st : Store) : R Fl := match s with
  | some (.own so) => kSt1 (ev c e env st) c k so i env
  | some (.val (.box n)) => kSb1 (ev c e env st) c k n env
  | _ => .bad
theorem V272 : exec c (.seti (.v i) a e) env st = kSeti env[i]? c i a e env st := by rw [exec]; rfl
theorem V273 : kSeti (some (.own o)) c i a e env st = kSt1 (ev c e env st) c a o i env := rfl
theorem V274 : kSeti (some (.val (.box n))) c i a e env st = kSb1 (ev c e env st) c a n env := rfl
def kExp (r : R D)  (env : Env) : R Fl := r.bind fun _ st => .ok (.nx env) st
theorem V275 : kExp (.exc k w st) env = .exc k w st := rfl
theorem V276 : kExp (.ok d st) env = .ok (.nx env) st := rfl
theorem V277 : exec c (.exp e) env st = kExp (ev c e env st) env := by rw [exec]; rfl
def kAp3 (o : Option SO) (i : Nat) (env : Env) (st : Store) : R Fl := match o with
  | some so => .ok (.nx (setO env i so)) st
  | none => .bad
def kAp2 (o : Option P) (so : SO) (i : Nat) (env : Env) (st : Store) : R Fl := match o with
  | some y => kAp3 (so.push y) i env st
  | none => .bad
theorem V278 : kAp3 (some o) i env st = .ok (.nx (env.set i (.own o))) st := rfl
theorem V279 : kAp2 (some x) o i env st = kAp3 (o.push x) i env st := rfl
def kAp1 (r : R D)  (so : SO) (i : Nat) (env : Env) : R Fl := r.bind fun y st => kAp2 y.keep so i env st
theorem V280 : kAp1 (.exc k w st) o i env = .exc k w st := rfl
theorem V281 : kAp1 (.ok d st) o i env = kAp2 d.keep o i env st := rfl
def kApp (s : Option Sl) (c : Cf) (i : Nat) (e : IE) (env : Env) (st : Store) : R Fl := match s with
  | some (.own so) => kAp1 (ev c e env st) so i env
  | _ => .bad
theorem V282 : exec c (.app i e) env st = kApp env[i]? c i e env st := by rw [exec]; rfl
theorem V283 : kApp (some (.own o)) c i e env st = kAp1 (ev c e env st) o i env := rfl
def kEx1 (r : R D) (so : SO) (i : Nat) (env : Env) : R Fl := r.bind fun y st => match y with
  | .new ys => match so.extend (.lst ys) with
    | some so => .ok (.nx (setO env i so)) st
    | none => .bad
  | _ => .bad
theorem V284 : kEx1 (.ok (.new xs) st) o i env = kAp3 (o.extend (.lst xs)) i env st := rfl
theorem V285 : kEx1 (.exc k w st) o i env = .exc k w st := rfl
def kExt (s : Option Sl) (c : Cf) (i : Nat) (e : IE) (env : Env) (st : Store) : R Fl := match s with
  | some (.own so) => kEx1 (ev c e env st) so i env
  | _ => .bad
theorem V286 : exec c (.ext i e) env st = kExt env[i]? c i e env st := by rw [exec]; rfl
theorem V287 : kExt (some (.own o)) c i e env st = kEx1 (ev c e env st) o i env := rfl
def kRet2 (o : Option D) (st : Store) : R Fl := match o with
  | some d => .ok (.rt d) st
  | none => .bad
theorem V288 : kRet2 (some d) st = .ok (.rt d) st := rfl
def kRet (r : R D)  : R Fl := r.bind fun d st => kRet2 d.arg st
theorem V289 : kRet (.exc k w st)  = .exc k w st := rfl
theorem V290 : kRet (.ok d st) = kRet2 d.arg st := rfl
theorem V291 : exec c (.ret e) env st = kRet (ev c e env st) := by rw [exec]; rfl
theorem V292 : exec c .retN env st = .ok (.rt (.p .non)) st := by rw [exec]
def kRetB (r : R D) : R Fl := r.bind fun d st => match d with
  | .new xs => .ok (.rt (.box st.length)) (st ++ [.lst xs])
  | _ => .bad
theorem V293 : kRetB (.ok (.new xs) st) = .ok (.rt (.box st.length)) (st ++ [.lst xs]) := rfl
theorem V294 : exec c (.retB e) env st = kRetB (ev c e env st) := by rw [exec]; rfl
def kIfS (r : R Bool)  (c : Cf) (a b : IB) (env : Env) : R Fl := r.bind fun k st => if k then execs c a env st else execs c b env st
theorem V295 : kIfS (.exc k w st) c ibl ibl2 env = .exc k w st := rfl
theorem V296 : kIfS (.ok true st) c ibl ibl2 env = execs c ibl env st := rfl
theorem V297 : kIfS (.ok false st) c ibl ibl2 env = execs c ibl2 env st := rfl
theorem V298 : exec c (.ife t ibl ibl2) env st = kIfS (evT c t env st) c ibl ibl2 env := by rw [exec]; rfl
def forC (c : Cf) (tg : Tg) (b : IB) (xs : List P) (env : Env) (st : Store) : R Fl := forGo (fun env st => execs c b env st) tg xs env st
def kFor (r : R (List P))  (c : Cf) (tg : Tg) (b : IB) (env : Env) : R Fl := r.bind fun xs st => forC c tg b xs env st
theorem V299 : kFor (.exc k w st) c tg ibl env = .exc k w st := rfl
theorem V300 : kFor (.ok xs st) c tg ibl env = forC c tg ibl xs env st := rfl
theorem V301 : exec c (.for_ tg it ibl) env st = kFor (evI c true it env st) c tg ibl env := by rw [exec]; rfl
theorem V302 : exec c .pass env st = .ok (.nx env) st := by rw [exec]
theorem V303 : exec c .brk env st = .ok (.bk env) st := by rw [exec]
theorem V304 : exec c .cont env st = .ok (.ct env) st := by rw [exec]
theorem V305 : exec c (.raise k msg) env st = .exc k none st := by rw [exec]
def kFrz (s : Option Sl) (i : Nat) (env : Env) (st : Store) : R Fl := match s with
  | some (.own (.lst xs)) => .ok (.nx (setS env i (.p (.lst xs)))) st
  | _ => .bad
theorem V306 : exec c (.frz i) env st = kFrz env[i]? i env st := by rw [exec]; rfl
theorem V307 : kFrz (some (.own (.lst xs))) i env st = .ok (.nx (env.set i (.val (.p (.lst xs))))) st := rfl
def kTry2 (o : Option Str) (st : Store) : R Fl := match o with
  | some z => .ok (.rt (.p (.str z))) st
  | none => .bad
def kTry (r : R D) (c : Cf) (f : Nat) : R Fl := match r with
    | .ok d st => kRet2 d.arg st
    | .exc k none st => kTry2 (c.wd f k) st
    | .exc _ (some _) _ => .bad
    | .bad => .bad
theorem V308 : kTry2 (some zs) st = .ok (.rt (.p (.str zs))) st := rfl
theorem V309 : kTry (.ok d st) c f = kRet2 d.arg st := rfl
theorem V310 : kTry (.exc k none st) c f = kTry2 (c.wd f k) st := rfl
theorem V311 : exec c (.tryN f e) env st = kTry (ev c e env st) c f := by rw [exec]; rfl
def kB (r : R Fl) (c : Cf) (b : IB) : R Fl := r.bind fun r st => match r with
    | .nx env => execs c b env st
    | r => .ok r st
theorem V312 : kB (.exc k w st) c ibl = .exc k w st := rfl
theorem V313 : kB (.ok (.nx env) st) c ibl = execs c ibl env st := rfl
theorem V314 : kB (.ok (.rt d) st) c ibl = .ok (.rt d) st := rfl
theorem V315 : kB (.ok (.bk env) st) c ibl = .ok (.bk env) st := rfl
theorem V316 : kB (.ok (.ct env) st) c ibl = .ok (.ct env) st := rfl
theorem V317 : execs c .nil env st = .ok (.nx env) st := by rw [execs]
variable {s : IS}
theorem V318 : execs c (.cons s ibl) env st = kB (exec c s env st) c ibl := by rw [execs]; rfl
theorem V319 : fin n (.ok (.rt (.p x)) st) = .ok (.p x) (st.take n) := rfl
theorem V320 : fin n (.ok (.nx env) st) = .ok (.p .non) (st.take n) := rfl
theorem V321 : fin n (.exc k w st) = .exc k w (st.take n) := rfl
theorem V322 (i : Int) (j : Int): opBin .Add (.int i) (.int j) = some (.int (i + j)) := rfl
theorem V323 (i : Int) : opBin .Add (.int i) (.bl bb) = some (.int (i + b2i bb)) := rfl
theorem V324 (j : Int): opBin .Add (.bl bb) (.int j) = some (.int (b2i bb + j)) := rfl
def kSm (b : Bool) (x : P) : Option P := if b then some x else none
theorem V325 : kSm true x = some x := rfl
theorem V326 (z2 : Str): opBin .Add (.str zs) (.str z2) = kSm (small (zs.length + z2.length)) (.str (zs ++ z2)) := rfl
theorem V327 : opBin .Add (.tup xs) (.tup ys) = kSm (small (xs.length + ys.length)) (.tup (xs ++ ys)) := rfl
theorem V328 : opBin .Add (.lst xs) (.lst ys) = kSm (small (xs.length + ys.length)) (.lst (xs ++ ys)) := rfl
theorem V329 (i j : Int): opBin .Sub (.int i) (.int j) = some (.int (i - j)) := rfl
theorem V330 (j : Int): opBin .Sub (.bl bb) (.int j) = some (.int (b2i bb - j)) := rfl
theorem V331 (i j : Int): opBin .Mult (.int i) (.int j) = kSm (mulOk i j) (.int (i * j)) := rfl
theorem V332 (j : Int): opBin .Mult (.tup xs) (.int j) = kSm (decide (j ≤ 1000) && decide (-1000 ≤ j) && decide (xs.length ≤ 1000)) (.tup (rep j xs)) := rfl
theorem V333 (j : Int): opBin .Mult (.lst xs) (.int j) = kSm (decide (j ≤ 1000) && decide (-1000 ≤ j) && decide (xs.length ≤ 1000)) (.lst (rep j xs)) := rfl
theorem V334 (i j : Int): opBin .FloorDiv (.int i) (.int j) = kSm (divOk j) (.int (i / j)) := rfl
theorem V335 (i j : Int): opBin .Mod (.int i) (.int j) = kSm (decide (0 < j)) (.int (i % j)) := rfl
theorem pow_eq {i j : Int} : opBin .Pow (.int i) (.int j) = kSm (decide (0 ≤ j) && decide (j ≤ 1000000) && decide (i.natAbs < 2 ^ 64)) (.int (i ^ j.toNat)) := rfl
theorem V336 : opCmp .Eq x y = opEq x y := rfl
theorem V337 : opCmp .NotEq x y = (opEq x y).map not := rfl
theorem V338 (i j : Int): opCmp .Lt (.int i) (.int j) = some (decide (i < j)) := rfl
theorem V339 (i j : Int): opCmp .LtE (.int i) (.int j) = some (decide (i ≤ j)) := rfl
theorem V340 (i j : Int): opCmp .Gt (.int i) (.int j) = some (decide (j < i)) := rfl
theorem V341 (i j : Int): opCmp .GtE (.int i) (.int j) = some (decide (j ≤ i)) := rfl
theorem V342 : opCmp .Is x .non = some x.isNon := rfl
theorem V343 : opCmp .IsNot x .non = some (!x.isNon) := rfl
theorem V344 (b2 : Bool): opCmp .Is (.bl bb) (.bl b2) = some (decide (bb = b2)) := rfl
theorem V345 (b2 : Bool): opCmp .IsNot (.bl bb) (.bl b2) = some (!decide (bb = b2)) := rfl
theorem V346 : opCmp .In x y = opIn x y := rfl
theorem V347 : opCmp .NotIn x y = (opIn x y).map not := rfl
theorem V348 : P.isNon .non = true := rfl
theorem V349 : P.isNon (.bl bb) = false := rfl
theorem V350 (i : Int): P.isNon (.int i) = false := rfl
theorem V351 : P.isNon (.str zs) = false := rfl
theorem V352 : P.isNon (.lst xs) = false := rfl
theorem V353 : P.isNon (.tup xs) = false := rfl
theorem V354 : truth .non = some false := rfl
theorem V355 : truth (.bl bb) = some bb := rfl
theorem V356 (i : Int): truth (.int i) = some (i != 0) := rfl
theorem V357 : truth (.lst xs) = some (!xs.isEmpty) := rfl
theorem V358 : truth (.tup xs) = some (!xs.isEmpty) := rfl
theorem V359 (i : Int): opIdx (.lst xs) (.int i) = atI xs i := rfl
theorem V360 (i : Int): opIdx (.tup xs) (.int i) = atI xs i := rfl
theorem V361 (i : Int) (ns : List Int): opIdx (.scr ns) (.int i) = (atI ns i).map .int := rfl
theorem V362 : opSlc (.lst xs) l h = some (.lst (cutP xs l h)) := rfl
theorem V363 : opSlc (.tup xs) l h = some (.tup (cutP xs l h)) := rfl
theorem V364 : opSlc (.str zs) l h = kSm (small zs.length) (.str (cutS zs l h)) := rfl
theorem V365 : opRev (.tup xs) = some (.tup xs.reverse) := rfl
theorem V366 : opRev (.str zs) = kSm (small zs.length) (.str ⟨zs.cps.toList.reverse.toArray⟩) := rfl
theorem V367 : opBi .len [.lst xs] = some (.int xs.length) := rfl
theorem V368 : opBi .len [.tup xs] = some (.int xs.length) := rfl
theorem V369 (ns : List Int): opBi .len [.scr ns] = some (.int ns.length) := rfl
theorem V370 : opBi .len [.str zs] = (lenS zs).map fun n => .int n := by simp only [opBi, biLen, lenP]; cases lenS zs <;> rfl
theorem V371 (i : Int): opBi .abs [.int i] = some (.int (if i < 0 then -i else i)) := rfl
theorem V372 (i : Int): opBi .int [.int i] = some (.int i) := rfl
theorem V373 : opBi .int [.bl bb] = some (.int (b2i bb)) := by cases bb <;> rfl
theorem V374 (i j : Int): opBi .max [.int i, .int j] = some (.int (if j > i then j else i)) := rfl
theorem V375 (i j : Int): opBi .min [.int i, .int j] = some (.int (if j < i then j else i)) := rfl
theorem V376 : opBi .tuple [.lst xs] = some (.tup xs) := rfl
theorem V377 : opBi .tuple [.tup xs] = some (.tup xs) := rfl
theorem V378 : opBi .list [.lst xs] = some (.lst xs) := rfl
theorem V379 : opBi .list [.tup xs] = some (.lst xs) := rfl
theorem V380 : opBi .all [.lst xs] = (allBl xs).map fun bs => .bl (bs.all id) := rfl
theorem V381 : opBi .any [.lst xs] = (allBl xs).map fun bs => .bl (bs.any id) := rfl
theorem V382 : opBi .str [.str zs] = some (.str zs) := rfl
theorem V383 : itSeq (.lst xs) = some xs := rfl
theorem V384 : itSeq (.tup xs) = some xs := rfl
theorem V385 : itSeq (.str zs) = some (zs.cps.toList.map fun c => .str ⟨#[c]⟩) := rfl
theorem V386 : opMe .join (.str zs) (.lst xs) = joinP zs (allStr xs) := rfl
theorem V387 (z2 : Str): opMe .split (.str zs) (.str z2) = splitP zs z2 := rfl
theorem V388 : SO.push (.lst xs) y = if decide (xs.length < sizeLine) then some (.lst (xs ++ [y])) else none := rfl
theorem V389 : SO.extend (.lst xs) (.lst ys) = if small (xs.length + ys.length) then some (.lst (xs ++ ys)) else none := rfl
def kPut (o : Option Nat) (xs : List P) (y : P) : Option SO := match o with
  | some j => some (.lst (xs.set j y))
  | none => none
theorem put_eq {i : Int} : SO.put (.lst xs) (.int i) y = kPut (ixN xs.length i) xs y := rfl
def kSort (r : R D)  (k : Nat) : R D := r.bind fun d st => (match d.rd st with | some x => mkD (opSort k x) st | none => .bad)
theorem V390 : kSort (.exc k w st) n = .exc k w st := rfl
def kSort2 (o : Option P) (k : Nat) (st : Store) : R D := match o with
  | some x => mkD (opSort k x) st
  | none => .bad
theorem V391 : kSort (.ok d st) n = kSort2 (d.rd st) n st := rfl
theorem V392 : kSort2 (some x) n st = mkD (opSort n x) st := rfl
theorem V393 : ev c (.sort n a) env st = kSort (ev c a env st) n := by rw [ev]; rfl
theorem V394 : opSort 0 (.lst xs) = sortS (allStr xs) := rfl
end
end DE
end

section
set_option Elab.async false
set_option linter.all false
set_option maxRecDepth 100000
set_option autoImplicit false
namespace DE
open PySem L2
section
variable {x y z : P} {xs ys : List P} {i j : Int}
theorem atI0 {α : Type} {x : α} {xs : List α} : atI (x :: xs) 0 = some x := by
  unfold atI ixN
  rw [if_pos (Int.le_refl 0), if_pos (by rw [List.length_cons]; omega)]
  rfl
theorem atI1 {α : Type} {x y : α} {xs : List α} : atI (x :: y :: xs) 1 = some y := by
  unfold atI ixN
  rw [if_pos (by omega), if_pos (by rw [List.length_cons, List.length_cons]; omega)]
  rfl
theorem atI2 {α : Type} {x y z : α} {xs : List α} : atI (x :: y :: z :: xs) 2 = some z := by
  unfold atI ixN
  rw [if_pos (by omega), if_pos (by rw [List.length_cons, List.length_cons, List.length_cons]; omega)]
  rfl
theorem atI3 {α : Type} {x y z w : α} {xs : List α} : atI (x :: y :: z :: w :: xs) 3 = some w := by
  unfold atI ixN
  rw [if_pos (by omega), if_pos (by rw [List.length_cons, List.length_cons, List.length_cons, List.length_cons]; omega)]
  rfl
theorem atI_nat {α : Type} {xs : List α} {n : Nat} (h : n < xs.length) : atI xs (n : Int) = some xs[n] := by
  unfold atI ixN
  rw [if_pos (Int.natCast_nonneg n), if_pos (by omega)]
  show xs[(n : Int).toNat]? = _
  rw [Int.toNat_natCast, List.getElem?_eq_getElem h]
theorem atI_natQ {α : Type} {xs : List α} {n : Nat} (h : n < xs.length) : atI xs (n : Int) = xs[n]? := by
  rw [atI_nat h, List.getElem?_eq_getElem h]
theorem atI_int {α : Type} {xs : List α} {i : Int} (h : 0 ≤ i) (h2 : i < xs.length) : ∃ y, atI xs i = some y ∧ xs[i.toNat]? = some y ∧ y ∈ xs := by
  obtain ⟨n, rfl⟩ := Int.eq_ofNat_of_zero_le h
  have hn : n < xs.length := by omega
  exact ⟨xs[n], atI_nat hn, by rw [Int.toNat_natCast, List.getElem?_eq_getElem hn], List.getElem_mem hn⟩
theorem atI_last {α : Type} {xs : List α} (h : xs ≠ []) : atI xs (-1) = xs.getLast? := by
  have hp : 0 < xs.length := List.length_pos_iff.mpr h
  unfold atI ixN
  rw [if_neg (by omega), if_pos (by omega)]
  show xs[((-1 : Int) + xs.length).toNat]? = _
  rw [List.getLast?_eq_getElem?]
  congr 1
  omega
theorem put0 : SO.put (.lst (x :: xs)) (.int 0) y = some (.lst (y :: xs)) := by
  show kPut (ixN (x :: xs).length 0) _ _ = _
  unfold ixN
  rw [if_pos (Int.le_refl 0), if_pos (by rw [List.length_cons]; omega)]
  rfl
theorem put1 : SO.put (.lst (x :: z :: xs)) (.int 1) y = some (.lst (x :: y :: xs)) := by
  show kPut (ixN (x :: z :: xs).length 1) _ _ = _
  unfold ixN
  rw [if_pos (by omega), if_pos (by rw [List.length_cons, List.length_cons]; omega)]
  rfl
theorem divOk_lit (h : 0 < j) (h2 : j < 9223372036854775808) : divOk j = true := by
  have : j.natAbs < 2 ^ 9000 := Nat.lt_of_lt_of_le (show j.natAbs < 2 ^ 63 by omega) (Nat.pow_le_pow_right (by decide) (by decide))
  simp only [divOk, Bool.and_eq_true, decide_eq_true_eq]
  refine ⟨h, ?_⟩
  by_cases h0 : j.natAbs = 0
  · rw [h0]; decide
  · exact (Nat.log2_lt h0).mpr this
theorem mulOk_r (h : -9223372036854775808 < j) (h2 : j < 9223372036854775808) : mulOk i j = true := by
  simp only [mulOk, Bool.or_eq_true, decide_eq_true_eq]
  exact .inr ⟨by omega, by omega⟩
theorem mulOk_l (h : -9223372036854775808 < i) (h2 : i < 9223372036854775808) : mulOk i j = true := by
  simp only [mulOk, Bool.or_eq_true, decide_eq_true_eq]
  exact .inl ⟨by omega, by omega⟩
theorem small_lit {n : Nat} (h : n ≤ 16000000) : small n = true := by
  have : sizeLine = 16777216 := by decide
  simp only [small, this, decide_eq_true_eq]
  omega
theorem sizeLine_lit : sizeLine = 16777216 := by decide
theorem rngOk_lit {a b : Int} (h1 : -4000000000000000000 ≤ a) (h2 : a ≤ 4000000000000000000) (h3 : -4000000000000000000 ≤ b) (h4 : b ≤ 4000000000000000000) : rngOk a b = true := rfl
theorem rngOk_any (a b : Int) : rngOk a b = true := rfl
end
section
variable {c : Cf} {elt : IE} {cond : IO} {tg : Tg} {env : Env} {st : Store} {xs : List P}
theorem compC_det {b : P → Bool} {y : P → P} (h : ∀ x ∈ xs, ∃ env1, asgT tg (.p x) env = some env1 ∧ evC c cond env1 st = .ok (b x) st ∧ (b x = true → ∃ d, ev c elt env1 st = .ok d st ∧ d.keep = some (y x))) (hl : xs.length ≤ 16000000) :
    compC c elt cond tg env xs st = .ok ((xs.filter b).map y) st := by
  have := compGo_det (f := fun env st => ev c elt env st) (t := fun env st => evC c cond env st) (tg := tg) (env := env) (st := st) (b := b) (y := y) xs [] h (by rw [sizeLine_lit, List.length_nil]; omega)
  rwa [List.nil_append] at this
/-- without a test -/
theorem compC_map {y : P → P} (h : ∀ x ∈ xs, ∃ env1, asgT tg (.p x) env = some env1 ∧ ∃ d, ev c elt env1 st = .ok d st ∧ d.keep = some (y x)) (hl : xs.length ≤ 16000000) :
    compC c elt .non tg env xs st = .ok (xs.map y) st := by
  have := compC_det (c := c) (elt := elt) (cond := .non) (tg := tg) (env := env) (st := st) (xs := xs) (b := fun _ => true) (y := y) (fun x hx => by
    obtain ⟨e1, h1, d, h2, h3⟩ := h x hx
    exact ⟨e1, h1, by rw [evC], fun _ => ⟨d, h2, h3⟩⟩) hl
  rwa [List.filter_eq_self.mpr (fun _ _ => rfl)] at this
theorem compC_wp {Q : List P → Store → Prop} (I : Nat → List P → Store → Prop)
    (h : ∀ i x acc st, xs[i]? = some x → I i acc st → ∃ env1, asgT tg (.p x) env = some env1 ∧ Wp (evC c cond env1 st) fun b st1 => if b = true then Wp (ev c elt env1 st1) (fun d st2 => ∃ y, d.keep = some y ∧ acc.length < sizeLine ∧ I (i + 1) (acc ++ [y]) st2) else I (i + 1) acc st1)
    (he : ∀ acc st, I xs.length acc st → Q acc st) (h0 : I 0 [] st) : Wp (compC c elt cond tg env xs st) Q :=
  compGo_wp I xs h he h0
theorem forC_wp {b : IB} {Q : Fl → Store → Prop} (I : Nat → Env → Store → Prop)
    (h : ∀ i x env st, xs[i]? = some x → I i env st → ∃ env1, asgT tg (.p x) env = some env1 ∧ Wp (execs c b env1 st) (fun r st => match r with
      | .nx env => I (i + 1) env st
      | .ct env => I (i + 1) env st
      | .bk env => Q (.nx env) st
      | .rt d => Q (.rt d) st))
    (he : ∀ env st, I xs.length env st → Q (.nx env) st) (h0 : I 0 env st) : Wp (forC c tg b xs env st) Q :=
  forGo_wp I xs h he h0
theorem wp_kB {r : R Fl} {c : Cf} {b : IB} {Q : Fl → Store → Prop} (h : Wp r fun fl st => match fl with
    | .nx env => Wp (execs c b env st) Q
    | r => Q r st) : Wp (kB r c b) Q := by
  obtain ⟨fl, st, rfl, h⟩ := h
  cases fl with
  | nx env => exact h
  | rt d => exact Wp.ok h
  | bk env => exact Wp.ok h
  | ct env => exact Wp.ok h
theorem wp_bindR {α β : Type} {r : R α} {f : α → Store → R β} {Q : β → Store → Prop} (h : Wp r fun a st => Wp (f a st) Q) : Wp (r.bind f) Q := Wp.bind h fun _ _ x => x
end
end DE
namespace DE
open PySem L2
theorem pow18 : opBin .Pow (.int 10) (.int 18) = some (.int 1000000000000000000) := rfl
theorem pow30 : opBin .Pow (.int 10) (.int 30) = some (.int 1000000000000000000000000000000) := rfl
theorem pow28 : opBin .Pow (.int 10) (.int 28) = some (.int 10000000000000000000000000000) := rfl
end DE
end

section
set_option Elab.async false
set_option linter.all false
set_option maxRecDepth 100000
set_option autoImplicit false
namespace DE
open PySem L2
theorem opEq_int {i j : Int} : opEq (.int i) (.int j) = some (i == j) := by rw [opEq_ok (by simp [P.okD]) (by simp [P.okD])]; rfl
theorem opEq_bl {i j : Bool} : opEq (.bl i) (.bl j) = some (i == j) := by rw [opEq_ok (by simp [P.okD]) (by simp [P.okD])]; rfl
theorem strOk_ofString (s : String) : PyData.strOk (Str.ofString s) = true := by
  rw [Str.ofString_eq_toList]
  simp only [PyData.strOk, List.all_toArray, List.all_map, List.all_eq_true]
  intro c _
  simp only [Function.comp, decide_eq_true_eq]
  have hv : c.toNat < 0xd800 ∨ (0xdfff < c.toNat ∧ c.toNat < 0x110000) := c.valid
  omega
theorem len_ofString (s : String) : (Str.ofString s).length = s.toList.length := by
  rw [Str.ofString_eq_toList]
  simp [Str.length]
theorem opEq_strs {x y : Str} (hx : PyData.strOk x = true) (hy : PyData.strOk y = true) : opEq (.str x) (.str y) = some (x == y) := by rw [opEq_ok (by simpa [P.okD] using hx) (by simpa [P.okD] using hy)]; rfl
theorem len_toString (i : Int) {B : Nat} (hB : 0 < B) (h : i.natAbs < 10 ^ B) : (Str.ofString (toString i)).length ≤ B + 1 := by
  rw [len_ofString]
  cases i with
  | ofNat n =>
    have e : (toString (Int.ofNat n)).toList = Nat.toDigits 10 n := by
      show (Nat.repr n).toList = _
      simp [Nat.repr]
    rw [e]
    have := (Nat.length_toDigits_le_iff (b := 10) (n := n) (k := B) (by decide) hB).mpr h
    omega
  | negSucc n =>
    have e : (toString (Int.negSucc n)).toList = '-' :: Nat.toDigits 10 (n + 1) := by
      show ("-" ++ Nat.repr (n + 1)).toList = _
      simp [Nat.repr]
    rw [e]
    have := (Nat.length_toDigits_le_iff (b := 10) (n := n + 1) (k := B) (by decide) hB).mpr h
    simp only [List.length_cons]
    omega
mutual
/-- plain data, nested at most so deep, of bounded sizes -/
def P.gd (B : Nat) : Nat → P → Bool
  | _, .non => true
  | _, .bl _ => true
  | _, .int i => decide (i.natAbs < 2 ^ B)
  | _, .str x => PyData.strOk x && decide (x.length ≤ B)
  | n + 1, .lst xs => P.gds B n xs && decide (xs.length ≤ B)
  | n + 1, .tup xs => P.gds B n xs && decide (xs.length ≤ B)
  | _, _ => false
def P.gds (B : Nat) : Nat → List P → Bool
  | _, [] => true
  | n, x :: xs => P.gd B n x && P.gds B n xs
end
theorem P.gds_iff {B n : Nat} {xs : List P} : P.gds B n xs = true ↔ ∀ x ∈ xs, P.gd B n x = true := by
  induction xs with
  | nil => simp [P.gds]
  | cons x xs ih => simp [P.gds, ih]
mutual
theorem P.gd_ok {B : Nat} : ∀ {n : Nat} {x : P}, P.gd B n x = true → P.okD n x = true
  | _, .non, _ => by simp [P.okD]
  | _, .bl b, _ => by simp [P.okD]
  | _, .int b, _ => by simp [P.okD]
  | _, .str x, h => by
    simp only [P.gd, Bool.and_eq_true] at h
    simpa [P.okD] using h.1
  | n + 1, .lst xs, h => by
    simp only [P.gd, Bool.and_eq_true] at h
    unfold P.okD
    exact P.gds_ok h.1
  | n + 1, .tup xs, h => by
    simp only [P.gd, Bool.and_eq_true] at h
    unfold P.okD
    exact P.gds_ok h.1
  | 0, .lst xs, h => by simp [P.gd] at h
  | 0, .tup xs, h => by simp [P.gd] at h
  | _, .fn _, h => by simp [P.gd] at h
  | _, .scr _, h => by simp [P.gd] at h
  | _, .exo _ _, h => by simp [P.gd] at h
theorem P.gds_ok {B : Nat} : ∀ {n : Nat} {xs : List P}, P.gds B n xs = true → P.okDs n xs = true
  | _, [], _ => rfl
  | n, x :: xs, h => by
    unfold P.gds at h
    unfold P.okDs
    rw [Bool.and_eq_true] at h ⊢
    exact ⟨P.gd_ok h.1, P.gds_ok h.2⟩
end
mutual
theorem P.gd_mono {B B' : Nat} (hB : B ≤ B') : ∀ {n m : Nat} {x : P}, n ≤ m → P.gd B n x = true → P.gd B' m x = true
  | _, _, .non, _, _ => by simp [P.gd]
  | _, _, .bl b, _, _ => by simp [P.gd]
  | _, _, .int b, _, h => by
    simp only [P.gd, decide_eq_true_eq] at h ⊢
    exact Nat.lt_of_lt_of_le h (Nat.pow_le_pow_right (by decide) hB)
  | _, _, .str x, _, h => by
    simp only [P.gd, Bool.and_eq_true, decide_eq_true_eq] at h ⊢
    exact ⟨h.1, by omega⟩
  | n + 1, m + 1, .lst xs, hm, h => by
    simp only [P.gd, Bool.and_eq_true, decide_eq_true_eq] at h ⊢
    exact ⟨P.gds_mono hB (Nat.le_of_succ_le_succ hm) h.1, by omega⟩
  | n + 1, m + 1, .tup xs, hm, h => by
    simp only [P.gd, Bool.and_eq_true, decide_eq_true_eq] at h ⊢
    exact ⟨P.gds_mono hB (Nat.le_of_succ_le_succ hm) h.1, by omega⟩
  | n + 1, 0, .lst xs, hm, h => by omega
  | n + 1, 0, .tup xs, hm, h => by omega
  | 0, _, .lst xs, _, h => by simp [P.gd] at h
  | 0, _, .tup xs, _, h => by simp [P.gd] at h
  | _, _, .fn _, _, h => by simp [P.gd] at h
  | _, _, .scr _, _, h => by simp [P.gd] at h
  | _, _, .exo _ _, _, h => by simp [P.gd] at h
theorem P.gds_mono {B B' : Nat} (hB : B ≤ B') : ∀ {n m : Nat} {xs : List P}, n ≤ m → P.gds B n xs = true → P.gds B' m xs = true
  | _, _, [], _, _ => by simp [P.gds]
  | n, m, x :: xs, hm, h => by
    unfold P.gds at h ⊢
    rw [Bool.and_eq_true] at h ⊢
    exact ⟨P.gd_mono hB hm h.1, P.gds_mono hB hm h.2⟩
end
def isF : P → Bool
  | .str s => (Str.ofString "over" == s) || (Str.ofString "under" == s)
  | _ => false
def plen : P → Nat
  | .tup xs => xs.length
  | _ => 0
def areF : P → Bool
  | .tup xs => xs.all isF
  | _ => false
def isR : P → Bool
  | .tup [a, b] => areF a && areF b && decide (plen a ≤ 12) && (decide (1 ≤ plen b) && decide (plen b ≤ 12))
  | _ => false
theorem in_folds {s : Str} (h : PyData.strOk s = true) : opIn (.str s) (.tup [.str "over", .str "under"]) = some (isF (.str s)) := by
  show (if ((P.str s).flat && [P.str (Str.ofString "over"), P.str (Str.ofString "under")].all P.flat) = true then anyEq (.str s) [.str (Str.ofString "over"), .str (Str.ofString "under")] else none) = _
  rw [if_pos (by rfl)]
  simp only [anyEq, opEq_strs (strOk_ofString _) h]
  show _ = some ((Str.ofString "over" == s) || (Str.ofString "under" == s))
  cases (Str.ofString "over" == s) <;> cases (Str.ofString "under" == s) <;> rfl
theorem in_foldsL {s : Str} (h : PyData.strOk s = true) : opIn (.str s) (.lst [.str "over", .str "under"]) = some (isF (.str s)) := in_folds h
theorem allBl_map (f : P → Bool) : ∀ xs : List P, allBl (xs.map fun x => .bl (f x)) = some (xs.map f)
  | [] => rfl
  | x :: xs => by
    show (allBl (xs.map fun x => .bl (f x))).map (f x :: ·) = _
    rw [allBl_map f xs]
    rfl
theorem eqL0 {n : Nat} {xs : List P} (h : P.okDs 60 xs = true) : opEq (.lst xs) (.lst []) = some xs.isEmpty := by
  rw [opEq_ok (P.okD_mono (n := 61) (by decide) (by unfold P.okD; exact h)) (by simp [P.okD, P.okDs])]
  cases xs <;> simp [P.eqv, P.eqvs]
theorem eqT0 {xs : List P} (h : P.okDs 60 xs = true) : opEq (.tup xs) (.tup []) = some xs.isEmpty := by
  rw [opEq_ok (P.okD_mono (n := 61) (by decide) (by unfold P.okD; exact h)) (by simp [P.okD, P.okDs])]
  cases xs <;> simp [P.eqv, P.eqvs]
theorem okD_tup {n : Nat} {xs : List P} (h : P.okD n (.tup xs) = true) : ∀ x ∈ xs, P.okD n x = true := by
  cases n with
  | zero => simp [P.okD] at h
  | succ n =>
    unfold P.okD at h
    exact fun x hx => P.okD_mono (Nat.le_succ n) (P.okDs_iff.mp h x hx)
theorem okDs_tup {n : Nat} {xs : List P} (h : P.okD n (.tup xs) = true) : P.okDs n xs = true := P.okDs_iff.mpr (okD_tup h)
theorem not_all_F (xs : List P) : (xs.filter fun x => !isF x).isEmpty = xs.all isF := by
  induction xs with
  | nil => rfl
  | cons x xs ih =>
    rw [List.filter_cons, List.all_cons]
    cases isF x with
    | true => simpa using ih
    | false => simp
def EVC := (And.intro (And.intro (And.intro (And.intro (And.intro (And.intro (And.intro (And.intro @V1 (And.intro @V2 @V3)) (And.intro @V4 (And.intro @V5 @V6))) (And.intro (And.intro @V7 (And.intro @V8 @V9)) (And.intro @V10 (And.intro @V11 @V12)))) (And.intro (And.intro (And.intro @V13 (And.intro @V14 @V15)) (And.intro @V16 (And.intro @V17 @V18))) (And.intro (And.intro @V19 (And.intro @V20 @V21)) (And.intro @V22 (And.intro @V23 @V24))))) (And.intro (And.intro (And.intro (And.intro @V25 (And.intro @V26 @V27)) (And.intro @V28 (And.intro @V29 @V30))) (And.intro (And.intro @V31 (And.intro @V32 @V33)) (And.intro @V34 (And.intro @V35 @V36)))) (And.intro (And.intro (And.intro @V37 (And.intro @V38 @V39)) (And.intro @V40 (And.intro @V41 @V42))) (And.intro (And.intro @V43 (And.intro @V44 @V45)) (And.intro @V46 (And.intro @V47 @V48)))))) (And.intro (And.intro (And.intro (And.intro (And.intro @V49 (And.intro @V50 @V51)) (And.intro @V52 (And.intro @V53 @V54))) (And.intro (And.intro @V55 (And.intro @V56 @V57)) (And.intro @V58 (And.intro @V59 @V60)))) (And.intro (And.intro (And.intro @V61 (And.intro @V62 @V63)) (And.intro @V64 (And.intro @V65 @V66))) (And.intro (And.intro @V67 (And.intro @V68 @V69)) (And.intro @V70 (And.intro @V71 @V72))))) (And.intro (And.intro (And.intro (And.intro @V73 (And.intro @V74 @V75)) (And.intro @V76 (And.intro @V77 @V78))) (And.intro (And.intro @V79 (And.intro @V80 @V81)) (And.intro @V82 (And.intro @V83 @V84)))) (And.intro (And.intro (And.intro @V85 (And.intro @V86 @V87)) (And.intro @V88 (And.intro @V89 @V90))) (And.intro (And.intro @V91 (And.intro @V92 @V93)) (And.intro (And.intro @V94 @V95) (And.intro @V96 @V97))))))) (And.intro (And.intro (And.intro (And.intro (And.intro (And.intro @V98 (And.intro @V99 @V100)) (And.intro @V101 (And.intro @V102 @V103))) (And.intro (And.intro @V104 (And.intro @V105 @V106)) (And.intro @V107 (And.intro @V108 @V109)))) (And.intro (And.intro (And.intro @V110 (And.intro @V111 @V112)) (And.intro @V113 (And.intro @V114 @V115))) (And.intro (And.intro @V116 (And.intro @V117 @V118)) (And.intro @V119 (And.intro @V120 @V121))))) (And.intro (And.intro (And.intro (And.intro @V122 (And.intro @V123 @V124)) (And.intro @V125 (And.intro @V126 @V127))) (And.intro (And.intro @V128 (And.intro @V129 @V130)) (And.intro @V131 (And.intro @V132 @V133)))) (And.intro (And.intro (And.intro @V134 (And.intro @V135 @V136)) (And.intro @V137 (And.intro @V138 @V139))) (And.intro (And.intro @V140 (And.intro @V141 @V142)) (And.intro @V143 (And.intro @V144 @V145)))))) (And.intro (And.intro (And.intro (And.intro (And.intro @V146 (And.intro @V147 @V148)) (And.intro @V149 (And.intro @V150 @V151))) (And.intro (And.intro @V152 (And.intro @V153 @V154)) (And.intro @V155 (And.intro @V156 @V157)))) (And.intro (And.intro (And.intro @V158 (And.intro @V159 @V160)) (And.intro @V161 (And.intro @V162 @V163))) (And.intro (And.intro @V164 (And.intro @V165 @V166)) (And.intro @V167 (And.intro @V168 @V169))))) (And.intro (And.intro (And.intro (And.intro @V170 (And.intro @V171 @V172)) (And.intro @V173 (And.intro @V174 @V175))) (And.intro (And.intro @V176 (And.intro @V177 @V178)) (And.intro @V179 (And.intro @V180 @V181)))) (And.intro (And.intro (And.intro @V182 (And.intro @V183 @V184)) (And.intro @V185 (And.intro @V186 @V187))) (And.intro (And.intro @V188 (And.intro @V189 @V190)) (And.intro (And.intro @V191 @V192) (And.intro @V193 @V194)))))))) (And.intro (And.intro (And.intro (And.intro (And.intro (And.intro (And.intro @V195 (And.intro @V196 @V197)) (And.intro @V198 (And.intro @V199 @V200))) (And.intro (And.intro @V201 (And.intro @V202 @V203)) (And.intro @V204 (And.intro @V205 @V206)))) (And.intro (And.intro (And.intro @V207 (And.intro @V208 @V209)) (And.intro @V210 (And.intro @V211 @V212))) (And.intro (And.intro @V213 (And.intro @V214 @V215)) (And.intro @V216 (And.intro @V217 @V218))))) (And.intro (And.intro (And.intro (And.intro @V219 (And.intro @V220 @V221)) (And.intro @V222 (And.intro @V223 @V224))) (And.intro (And.intro @V225 (And.intro @V226 @V227)) (And.intro @V228 (And.intro @V229 @V230)))) (And.intro (And.intro (And.intro @V231 (And.intro @V232 @V233)) (And.intro @V234 (And.intro @V235 @V236))) (And.intro (And.intro @V237 (And.intro @V238 @V239)) (And.intro @V240 (And.intro @V241 @V242)))))) (And.intro (And.intro (And.intro (And.intro (And.intro @V243 (And.intro @V244 @V245)) (And.intro @V246 (And.intro @V247 @V248))) (And.intro (And.intro @V249 (And.intro @V250 @V251)) (And.intro @V252 (And.intro @V253 @V254)))) (And.intro (And.intro (And.intro @V255 (And.intro @V256 @V257)) (And.intro @V258 (And.intro @V259 @V260))) (And.intro (And.intro @V261 (And.intro @V262 @V263)) (And.intro @V264 (And.intro @V265 @V266))))) (And.intro (And.intro (And.intro (And.intro @V267 (And.intro @V268 @V269)) (And.intro @V270 (And.intro @V271 @V272))) (And.intro (And.intro @V273 (And.intro @V274 @V275)) (And.intro @V276 (And.intro @V277 @V278)))) (And.intro (And.intro (And.intro @V279 (And.intro @V280 @V281)) (And.intro @V282 (And.intro @V283 @V284))) (And.intro (And.intro @V285 (And.intro @V286 @V287)) (And.intro (And.intro @V288 @V289) (And.intro @V290 @V291))))))) (And.intro (And.intro (And.intro (And.intro (And.intro (And.intro @V292 (And.intro @V293 @V294)) (And.intro @V295 (And.intro @V296 @V297))) (And.intro (And.intro @V298 (And.intro @V299 @V300)) (And.intro @V301 (And.intro @V302 @V303)))) (And.intro (And.intro (And.intro @V304 (And.intro @V305 @V306)) (And.intro @V307 (And.intro @V308 @V309))) (And.intro (And.intro @V310 (And.intro @V311 @V312)) (And.intro @V313 (And.intro @V314 @V315))))) (And.intro (And.intro (And.intro (And.intro @V316 (And.intro @V317 @V318)) (And.intro @V319 (And.intro @V320 @V321))) (And.intro (And.intro @V322 (And.intro @V323 @V324)) (And.intro @V325 (And.intro @V326 @V327)))) (And.intro (And.intro (And.intro @V328 (And.intro @V329 @V330)) (And.intro @V331 (And.intro @V332 @V333))) (And.intro (And.intro @V334 (And.intro @V335 @V336)) (And.intro (And.intro @V337 @V338) (And.intro @V339 @V340)))))) (And.intro (And.intro (And.intro (And.intro (And.intro @V341 (And.intro @V342 @V343)) (And.intro @V344 (And.intro @V345 @V346))) (And.intro (And.intro @V347 (And.intro @V348 @V349)) (And.intro @V350 (And.intro @V351 @V352)))) (And.intro (And.intro (And.intro @V353 (And.intro @V354 @V355)) (And.intro @V356 (And.intro @V357 @V358))) (And.intro (And.intro @V359 (And.intro @V360 @V361)) (And.intro @V362 (And.intro @V363 @V364))))) (And.intro (And.intro (And.intro (And.intro @V365 (And.intro @V366 @V367)) (And.intro @V368 (And.intro @V369 @V370))) (And.intro (And.intro @V371 (And.intro @V372 @V373)) (And.intro @V374 (And.intro @V375 @V376)))) (And.intro (And.intro (And.intro @V377 (And.intro @V378 @V379)) (And.intro @V380 (And.intro @V381 @V382))) (And.intro (And.intro @V383 (And.intro @V384 @V385)) (And.intro (And.intro @V386 @V387) (And.intro @V388 @V389)))))))))
def EVD := (And.intro (And.intro (And.intro @wp_ok (And.intro @atI0 @atI1)) (And.intro @atI2 (And.intro @atI3 @put0))) (And.intro (And.intro @put1 (And.intro @divOk_lit @mulOk_r)) (And.intro (And.intro @mulOk_l @small_lit) (And.intro @opEq_int @opEq_bl))))
def EVS := And.intro (And.intro @V390 @V391) (And.intro @V392 (And.intro @V393 @V394))
end DE
end

section
set_option Elab.async false
set_option linter.all false
set_option maxRecDepth 100000
set_option autoImplicit false
namespace DE
open PySem
def D.sh (n : Nat) : D → D
  | .box k => .box (n + k)
  | d => d
def Sl.sh (n : Nat) : Sl → Sl
  | .val d => .val (d.sh n)
  | s => s
abbrev shEnv (n : Nat) (env : Env) : Env := env.map (Sl.sh n)
def Fl.sh (n : Nat) : Fl → Fl
  | .nx env => .nx (shEnv n env)
  | .bk env => .bk (shEnv n env)
  | .ct env => .ct (shEnv n env)
  | .rt d => .rt (d.sh n)
def R.sh {α β : Type} (g : α → β) (pre : Store) : R α → R β
  | .ok a st => .ok (g a) (pre ++ st)
  | .exc c x st => .exc c x (pre ++ st)
  | .bad => .bad
section
variable {pre : Store}
theorem sh_bind {α α' β β' : Type} {g : α → α'} {h : β → β'} {r : R α} {f : α → Store → R β} {f' : α' → Store → R β'} (hf : ∀ a st, f' (g a) (pre ++ st) = (f a st).sh h pre) : (r.sh g pre).bind f' = (r.bind f).sh h pre := by
  cases r with
  | ok a st => exact hf a st
  | exc c x st => rfl
  | bad => rfl
theorem sh_nx {α α' : Type} {g : α → α'} {r : R α} : (r.sh g pre).nx = r.nx.sh g pre := by cases r <;> rfl
theorem at_sh {st : Store} {k : Nat} : (pre ++ st)[pre.length + k]? = st[k]? := by
  rw [List.getElem?_append_right (Nat.le_add_right _ _)]
  congr 1
  omega
theorem set_sh {st : Store} {k : Nat} {o : SO} : (pre ++ st).set (pre.length + k) o = pre ++ st.set k o := by
  rw [List.set_append_right _ _ (Nat.le_add_right _ _)]
  congr 2
  omega
theorem rd_sh {st : Store} (d : D) : (d.sh pre.length).rd (pre ++ st) = d.rd st := by
  cases d with
  | box k =>
    show (match (pre ++ st)[pre.length + k]? with
      | some (.lst xs) => some (P.lst xs)
      | _ => none) = _
    rw [at_sh]
    try rfl
  | bor o => cases o <;> rfl
  | _ => rfl
theorem rdI_sh {n : Nat} {b : Bool} (d : D) : (d.sh n).rdI b = d.rdI b := by
  cases d with
  | bor o => cases o <;> rfl
  | _ => rfl
theorem keep_sh {n : Nat} (d : D) : (d.sh n).keep = d.keep := by cases d <;> rfl
theorem arg_sh {n : Nat} (d : D) : (d.sh n).arg = d.arg.map (D.sh n) := by cases d <;> rfl
theorem ky_sh {n : Nat} (d : D) : (d.sh n).ky = d.ky := by cases d <;> rfl
theorem ownOf_sh {n : Nat} (d : D) : ownOf (d.sh n) = ownOf d := by cases d <;> rfl
theorem mk_sh {n : Nat} (x : P) : (D.mk x).sh n = .mk x := by cases x <;> rfl
theorem keeps_sh {n : Nat} : ∀ ds : List D, keeps (ds.map (D.sh n)) = keeps ds
  | [] => rfl
  | d :: ds => by rw [List.map_cons, keeps, keeps, keep_sh, keeps_sh ds]
theorem rds_sh {st : Store} : ∀ ds : List D, rds (pre ++ st) (ds.map (D.sh pre.length)) = rds st ds
  | [] => rfl
  | d :: ds => by rw [List.map_cons, rds, rds, rd_sh, rds_sh ds]
theorem argsD_sh {n : Nat} : ∀ ds : List D, argsD (ds.map (D.sh n)) = (argsD ds).map (List.map (D.sh n))
  | [] => rfl
  | d :: ds => by
    rw [List.map_cons, argsD, argsD, arg_sh, argsD_sh ds]
    cases d.arg with
    | none => rfl
    | some a => cases argsD ds <;> rfl
theorem mkD_sh {st : Store} (o : Option P) : mkD o (pre ++ st) = (mkD o st).sh (D.sh pre.length) pre := by
  cases o with
  | none => rfl
  | some x =>
    show R.ok (D.mk x) (pre ++ st) = .ok ((D.mk x).sh _) (pre ++ st)
    rw [mk_sh]
theorem mkP_sh {st : Store} (o : Option P) : mkP o (pre ++ st) = (mkP o st).sh (D.sh pre.length) pre := by cases o <;> rfl
theorem mkB_sh {st : Store} (o : Option Bool) : mkB o (pre ++ st) = (mkB o st).sh (D.sh pre.length) pre := by cases o <;> rfl
theorem opt_sh {α : Type} {st : Store} (o : Option α) : R.opt o (pre ++ st) = (R.opt o st).sh id pre := by cases o <;> rfl
theorem rdB_sh {st : Store} (d : D) : rdB (d.sh pre.length) (pre ++ st) = (rdB d st).sh id pre := by
  unfold rdB
  rw [rd_sh]
  cases d.rd st with
  | none => rfl
  | some x => exact opt_sh _
theorem rd2_sh {st : Store} {a b : D} {f f' : P → P → R D} (h : ∀ x y, f' x y = (f x y).sh (D.sh pre.length) pre) : rd2 (a.sh pre.length) (b.sh pre.length) (pre ++ st) f' = (rd2 a b st f).sh (D.sh pre.length) pre := by
  unfold rd2
  rw [rd_sh, rd_sh]
  cases a.rd st with
  | none => rfl
  | some x =>
    cases b.rd st with
    | none => rfl
    | some y => exact h x y
theorem setS_sh {n i : Nat} {env : Env} {d : D} : setS (shEnv n env) i (d.sh n) = shEnv n (setS env i d) := by
  unfold setS shEnv
  rw [List.map_set]
  rfl
theorem setO_sh {n i : Nat} {env : Env} {o : SO} : setO (shEnv n env) i o = shEnv n (setO env i o) := by
  unfold setO shEnv
  rw [List.map_set]
  rfl
theorem asgT_p {n : Nat} : ∀ (t : Tg) (x : P) (env : Env), asgT t (.p x) (shEnv n env) = (asgT t (.p x) env).map (shEnv n)
  | .one i, x, env => by
    show some (setS (shEnv n env) i ((D.p x).sh n)) = _
    rw [setS_sh]
    rfl
  | .two a b, x, env => by
    rw [asgT.eq_def, asgT.eq_def]
    dsimp only
    split
    · rename_i y z e
      cases e
      rw [asgT_p a y env]
      cases asgT a (.p y) env with
      | none => rfl
      | some e1 => exact asgT_p b z e1
    · rfl
theorem asgT_sh {n : Nat} (t : Tg) (d : D) (env : Env) : asgT t (d.sh n) (shEnv n env) = (asgT t d env).map (shEnv n) := by
  cases d with
  | p x => exact asgT_p t x env
  | box k =>
    cases t with
    | one i =>
      show some (setS (shEnv n env) i ((D.box k).sh n)) = _
      rw [setS_sh]
      rfl
    | two a b => rfl
  | new xs => cases t <;> rfl
  | bor o => cases t <;> rfl
theorem wip_sh {n : Nat} {env : Env} : ∀ is : List Nat, wip (shEnv n env) is = shEnv n (wip env is)
  | [] => rfl
  | i :: is => by
    rw [wip, wip, wip_sh is]
    unfold shEnv
    rw [List.map_set]
    rfl
theorem parD_sh {n : Nat} : ∀ (is : List Nat) (os : List Bool) (ds : List D) (env : Env), parD (shEnv n env) is os (ds.map (D.sh n)) = (parD env is os ds).map (shEnv n)
  | [], [], [], env => rfl
  | i :: is, o :: os, d :: ds, env => by
    rw [List.map_cons, parD, parD, ownOf_sh, arg_sh]
    cases o with
    | true =>
      cases ownOf d with
      | none => rfl
      | some so =>
        show parD (setO (shEnv n env) i so) is os (ds.map (D.sh n)) = _
        rw [setO_sh]
        exact parD_sh is os ds _
    | false =>
      cases d.arg with
      | none => rfl
      | some d' =>
        show parD (setS (shEnv n env) i (d'.sh n)) is os (ds.map (D.sh n)) = _
        rw [setS_sh]
        exact parD_sh is os ds _
  | [], [], _ :: _, env => rfl
  | [], _ :: _, ds, env => by cases ds <;> rfl
  | _ :: _, [], ds, env => by cases ds <;> rfl
  | _ :: _, _ :: _, [], env => rfl
theorem dicAt_sh {st : Store} {env : Env} {i : Nat} : dicAt (pre ++ st) (shEnv pre.length env) i = dicAt st env i := by
  unfold dicAt shEnv
  rw [List.getElem?_map]
  cases env[i]? with
  | none => rfl
  | some s =>
    cases s with
    | val d =>
      cases d with
      | box k =>
        show (match (pre ++ st)[pre.length + k]? with
          | some (.dic kvs) => some kvs
          | _ => none) = _
        rw [at_sh]
        try rfl
      | _ => rfl
    | _ => rfl
theorem hasD_sh {st : Store} {neg : Bool} {kvs : Option (List (P × P))} {k : Option NestedKey} : hasD neg kvs k (pre ++ st) = (hasD neg kvs k st).sh (D.sh pre.length) pre := by
  cases kvs <;> cases k <;> rfl
theorem getD_sh {st : Store} {kvs : Option (List (P × P))} {k : Option NestedKey} : getD kvs k (pre ++ st) = (getD kvs k st).sh (D.sh pre.length) pre := by
  cases kvs with
  | none => cases k <;> rfl
  | some l =>
    cases k with
    | none => rfl
    | some kk =>
      show (match findP l kk with
        | some v => R.ok (D.p v) (pre ++ st)
        | none => .bad) = R.sh _ pre (match findP l kk with
        | some v => .ok (D.p v) st
        | none => .bad)
      cases findP l kk <;> rfl
theorem twoD_sh {st : Store} {a b d e : D} : twoD (a.sh pre.length) (b.sh pre.length) (d.sh pre.length) (e.sh pre.length) (pre ++ st) = (twoD a b d e st).sh (D.sh pre.length) pre := by
  cases a <;> cases b <;> cases d <;> cases e <;> try rfl
  rename_i a b d e
  show (match a.ky, d.ky with
    | some k, some l => if decide (k ≠ l) then R.ok (D.box (pre ++ st).length) ((pre ++ st) ++ [.dic [(a, b), (d, e)]]) else .bad
    | _, _ => .bad) = R.sh _ pre (match a.ky, d.ky with
    | some k, some l => if decide (k ≠ l) then .ok (D.box st.length) (st ++ [.dic [(a, b), (d, e)]]) else .bad
    | _, _ => .bad)
  cases a.ky with
  | none => rfl
  | some k =>
    cases d.ky with
    | none => rfl
    | some l =>
      show (if decide (k ≠ l) then R.ok (D.box (pre ++ st).length) ((pre ++ st) ++ [.dic [(a, b), (d, e)]]) else .bad) = R.sh _ pre (if decide (k ≠ l) then .ok (D.box st.length) (st ++ [.dic [(a, b), (d, e)]]) else .bad)
      cases decide (k ≠ l)
      · rfl
      · show R.ok (D.box (pre ++ st).length) ((pre ++ st) ++ [.dic [(a, b), (d, e)]]) = R.ok (D.box (pre.length + st.length)) (pre ++ (st ++ [.dic [(a, b), (d, e)]]))
        rw [List.length_append, List.append_assoc]
theorem dGet_sh {st : Store} {gt : Bool} {kvs : List (Str × P)} {z : Str} : dGet gt kvs z (pre ++ st) = (dGet gt kvs z st).sh (D.sh pre.length) pre := by
  unfold dGet
  cases kvs.lookup z with
  | none => cases gt <;> rfl
  | some x => rfl
theorem itRng_sh {st : Store} {a b : D} : itRng (a.sh pre.length) (b.sh pre.length) (pre ++ st) = (itRng a b st).sh id pre := by
  unfold itRng
  cases a with
  | p x =>
    cases b with
    | p y => cases x <;> cases y <;> rfl
    | _ => cases x <;> rfl
  | _ => rfl
theorem compGo_sh {f : Env → Store → R D} {t : Env → Store → R Bool} {tg : Tg} {env : Env} (hf : ∀ env st, f (shEnv pre.length env) (pre ++ st) = (f env st).sh (D.sh pre.length) pre) (ht : ∀ env st, t (shEnv pre.length env) (pre ++ st) = (t env st).sh id pre) :
    ∀ (xs acc : List P) (st : Store), compGo f t tg (shEnv pre.length env) xs acc (pre ++ st) = (compGo f t tg env xs acc st).sh id pre
  | [], acc, st => rfl
  | x :: xs, acc, st => by
    rw [compGo, compGo, asgT_p]
    cases asgT tg (.p x) env with
    | none => rfl
    | some e1 =>
      show ((t (shEnv pre.length e1) (pre ++ st)).nx.bind _) = R.sh id pre ((t e1 st).nx.bind _)
      rw [ht, sh_nx]
      refine sh_bind fun b st => ?_
      cases b with
      | false => exact compGo_sh hf ht xs acc st
      | true =>
        show ((f (shEnv pre.length e1) (pre ++ st)).nx.bind _) = R.sh id pre ((f e1 st).nx.bind _)
        rw [hf, sh_nx]
        refine sh_bind fun d st => ?_
        rw [keep_sh]
        cases d.keep with
        | none => rfl
        | some y =>
          show (if decide (acc.length < sizeLine) then compGo f t tg (shEnv pre.length env) xs (acc ++ [y]) (pre ++ st) else R.bad) = R.sh id pre (if decide (acc.length < sizeLine) then compGo f t tg env xs (acc ++ [y]) st else R.bad)
          split
          · exact compGo_sh hf ht xs _ st
          · rfl
section
variable {c : Cf} (hc : ∀ f as st, c.call f (as.map (D.sh pre.length)) (pre ++ st) = (c.call f as st).sh (D.sh pre.length) pre)
include hc
theorem call_sh (f : Nat) (ds : List D) (st : Store) : (match argsD (ds.map (D.sh pre.length)) with
    | some as => c.call f as (pre ++ st)
    | none => .bad) = R.sh (D.sh pre.length) pre (match argsD ds with
    | some as => c.call f as st
    | none => .bad) := by
  rw [argsD_sh]
  cases argsD ds with
  | none => rfl
  | some as => exact hc f as st
mutual
theorem shE : (e : IE) → ∀ env st, ev c e (shEnv pre.length env) (pre ++ st) = (ev c e env st).sh (D.sh pre.length) pre
  | .v i, env, st => by
    simp only [ev, List.getElem?_map]
    cases env[i]? with
    | none => rfl
    | some s => cases s <;> rfl
  | .g x, env, st => by simp only [ev]; exact mkP_sh _
  | .int i, env, st => by simp only [ev]; rfl
  | .str i, env, st => by simp only [ev]; rfl
  | .bl i, env, st => by simp only [ev]; rfl
  | .non, env, st => by simp only [ev]; rfl
  | .bin op a b, env, st => by
    simp only [ev, shE a]
    refine sh_bind fun x st => ?_
    simp only [shE b]
    exact sh_bind fun y st => rd2_sh fun x y => mkD_sh _
  | .neg a, env, st => by
    simp only [ev, shE a]
    refine sh_bind fun x st => ?_
    simp only [rd_sh]
    cases x.rd st with
    | none => rfl
    | some y => cases y <;> rfl
  | .no a, env, st => by
    simp only [ev, shE a]
    refine sh_bind fun x st => ?_
    simp only [rdB_sh]
    exact sh_bind fun b st => rfl
  | .and r, env, st => by simp only [ev]; exact shAnd r env st
  | .or r, env, st => by simp only [ev]; exact shOr r env st
  | .cmp op a b, env, st => by
    simp only [ev, shE a]
    refine sh_bind fun x st => ?_
    simp only [shE b]
    exact sh_bind fun y st => rd2_sh fun x y => mkB_sh _
  | .chain o1 o2 a b d, env, st => by
    simp only [ev, shE a]
    refine sh_bind fun x st => ?_
    simp only [shE b]
    refine sh_bind fun y st => rd2_sh fun x y => ?_
    cases opCmp o1 x y with
    | none => rfl
    | some k =>
      cases k with
      | false => rfl
      | true =>
        cases hy : y.flat with
        | false => simp only [hy]; rfl
        | true =>
          simp only [hy, if_true, shE d]
          refine sh_bind fun z st => ?_
          simp only [rd_sh]
          cases z.rd st with
          | none => rfl
          | some z => exact mkB_sh _
  | .ife t a b, env, st => by
    simp only [ev, shE t]
    refine sh_bind fun x st => ?_
    simp only [rdB_sh]
    refine sh_bind fun k st => ?_
    cases k with
    | true => exact shE a env st
    | false => exact shE b env st
  | .tup es, env, st => by
    simp only [ev, shL es]
    refine sh_bind fun ds st => ?_
    simp only [keeps_sh]
    cases keeps ds with
    | none => rfl
    | some xs => cases h : small xs.length <;> simp only [h] <;> rfl
  | .lst es, env, st => by
    simp only [ev, shL es]
    refine sh_bind fun ds st => ?_
    simp only [keeps_sh]
    cases keeps ds with
    | none => rfl
    | some xs => cases h : small xs.length <;> simp only [h] <;> rfl
  | .call f es, env, st => by
    simp only [ev, shL es]
    exact sh_bind fun ds st => call_sh hc f ds st
  | .bi f a es, env, st => by
    simp only [ev, shE a]
    refine sh_bind fun x st => ?_
    simp only [shL es]
    refine sh_bind fun ds st => ?_
    have e := rds_sh (pre := pre) (st := st) (x :: ds)
    rw [List.map_cons] at e
    simp only [e]
    cases rds st (x :: ds) with
    | none => rfl
    | some xs => exact mkD_sh _
  | .meth m o a, env, st => by
    simp only [ev, shE o]
    refine sh_bind fun x st => ?_
    cases x with
    | p x =>
      cases x with
      | str z =>
        show ((ev c a (shEnv pre.length env) (pre ++ st)).bind _) = R.sh _ pre ((ev c a env st).bind _)
        rw [shE a]
        refine sh_bind fun y st => ?_
        rw [rd_sh]
        cases y.rd st with
        | none => rfl
        | some y => exact mkD_sh _
      | _ => rfl
    | _ => rfl
  | .idx a b, env, st => by
    simp only [ev, shE a]
    refine sh_bind fun x st => ?_
    simp only [shE b]
    exact sh_bind fun y st => rd2_sh fun x y => mkP_sh _
  | .slc a lo hi, env, st => by
    simp only [ev, shE a]
    refine sh_bind fun x st => ?_
    simp only [shO lo]
    refine sh_bind fun l st => ?_
    simp only [shO hi]
    refine sh_bind fun h st => ?_
    simp only [rd_sh, id]
    cases x.rd st with
    | none => rfl
    | some y => exact mkD_sh _
  | .rev a, env, st => by
    simp only [ev, shE a]
    refine sh_bind fun x st => ?_
    simp only [rd_sh]
    cases x.rd st with
    | none => rfl
    | some y => exact mkD_sh _
  | .comp elt tg it cond, env, st => by
    simp only [ev, shI it]
    refine sh_bind fun xs st => ?_
    simp only [wip_sh, id]
    rw [compGo_sh (fun env st => shE elt env st) (fun env st => shC cond env st)]
    exact sh_bind fun ys st => rfl
  | .isi a t, env, st => by
    simp only [ev, shE a]
    refine sh_bind fun x st => ?_
    simp only [rd_sh]
    cases x.rd st with
    | none => rfl
    | some y => exact mkB_sh _
  | .callV i fs es, env, st => by
    simp only [ev, List.getElem?_map]
    cases env[i]? with
    | none => rfl
    | some s =>
      cases s with
      | val d =>
        cases d with
        | p x =>
          cases x with
          | fn f =>
            show (if fs.contains f then (evL c es (shEnv pre.length env) (pre ++ st)).bind _ else R.bad) = R.sh _ pre (if fs.contains f then (evL c es env st).bind _ else R.bad)
            cases fs.contains f with
            | false => rfl
            | true =>
              simp only [if_true, shL es]
              exact sh_bind fun ds st => call_sh hc f ds st
          | _ => rfl
        | _ => rfl
      | _ => rfl
  | .dget gt ks vs a, env, st => by
    simp only [ev, shL vs]
    refine sh_bind fun ds st => ?_
    simp only [keeps_sh]
    cases keeps ds with
    | none => rfl
    | some xs =>
      show ((ev c a (shEnv pre.length env) (pre ++ st)).bind _) = R.sh _ pre ((ev c a env st).bind _)
      rw [shE a]
      refine sh_bind fun x st => ?_
      cases x with
      | p x =>
        cases x with
        | str z => exact dGet_sh
        | _ => rfl
      | _ => rfl
  | .word f get e, env, st => by
    simp only [ev, shE e]
    cases ev c e env st with
    | ok d st => cases get <;> rfl
    | exc k x st =>
      cases x with
      | none =>
        show (match c.wd f k with
          | some z => R.ok (D.p (.str z)) (pre ++ st)
          | none => .bad) = R.sh _ pre (match c.wd f k with
          | some z => .ok (D.p (.str z)) st
          | none => .bad)
        cases c.wd f k <;> rfl
      | some x => rfl
    | bad => rfl
  | .sort k a, env, st => by
    simp only [ev, shE a]
    refine sh_bind fun x st => ?_
    simp only [rd_sh]
    cases x.rd st with
    | none => rfl
    | some y => exact mkD_sh _
  | .dnew, env, st => by
    simp only [ev, R.sh, D.sh, List.length_append, List.append_assoc]
  | .dtwo k1 v1 k2 v2, env, st => by
    simp only [ev, shE k1]
    refine sh_bind fun x st => ?_
    simp only [shE v1]
    refine sh_bind fun y st => ?_
    simp only [shE k2]
    refine sh_bind fun z st => ?_
    simp only [shE v2]
    exact sh_bind fun u st => twoD_sh
  | .din neg a i, env, st => by
    simp only [ev, shE a]
    refine sh_bind fun x st => ?_
    simp only [dicAt_sh, ky_sh]
    exact hasD_sh
  | .dat i a, env, st => by
    simp only [ev, List.getElem?_map]
    cases env[i]? with
    | none => rfl
    | some s =>
      cases s with
      | val d =>
        cases d with
        | box k =>
          show ((ev c a (shEnv pre.length env) (pre ++ st)).bind _) = R.sh _ pre ((ev c a env st).bind _)
          rw [shE a]
          refine sh_bind fun x st => ?_
          rw [dicAt_sh, ky_sh]
          exact getD_sh
        | _ => rfl
      | _ => rfl
  | .mkx k, env, st => by
    simp only [ev]
    rfl
  | .mkf k n a, env, st => by
    simp only [ev, shE a]
    exact sh_bind fun x st => by
      cases x with
      | p y => cases y <;> rfl
      | _ => rfl
  | .isx a t j, env, st => by
    simp only [ev, shE a]
    exact sh_bind fun x st => by
      cases x with
      | p y => cases y <;> rfl
      | _ => rfl
  | .fld a n, env, st => by
    simp only [ev, shE a]
    exact sh_bind fun x st => by
      cases x with
      | p y =>
        cases y with
        | exo k f =>
          cases f with
          | none => rfl
          | some q =>
            obtain ⟨m, i⟩ := q
            show (if decide (m = n) then R.ok (D.p (.int i)) (pre ++ st) else .bad) = R.sh (D.sh pre.length) pre (if decide (m = n) then R.ok (D.p (.int i)) st else .bad)
            split <;> rfl
        | _ => rfl
      | _ => rfl
theorem shL : (es : IL) → ∀ env st, evL c es (shEnv pre.length env) (pre ++ st) = (evL c es env st).sh (List.map (D.sh pre.length)) pre
  | .nil, env, st => by simp only [evL]; rfl
  | .cons e es, env, st => by
    simp only [evL, shE e]
    refine sh_bind fun d st => ?_
    simp only [shL es]
    exact sh_bind fun ds st => rfl
theorem shAnd : (es : IL) → ∀ env st, evAnd c es (shEnv pre.length env) (pre ++ st) = (evAnd c es env st).sh (D.sh pre.length) pre
  | .nil, env, st => by simp only [evAnd]; rfl
  | .cons e .nil, env, st => by simp only [evAnd]; exact shE e env st
  | .cons e (.cons a b), env, st => by
    simp only [evAnd, shE e]
    refine sh_bind fun x st => ?_
    cases x with
    | p x =>
      cases x with
      | bl k =>
        cases k with
        | true => exact shAnd (.cons a b) env st
        | false => rfl
      | _ => rfl
    | _ => rfl
theorem shOr : (es : IL) → ∀ env st, evOr c es (shEnv pre.length env) (pre ++ st) = (evOr c es env st).sh (D.sh pre.length) pre
  | .nil, env, st => by simp only [evOr]; rfl
  | .cons e .nil, env, st => by simp only [evOr]; exact shE e env st
  | .cons e (.cons a b), env, st => by
    simp only [evOr, shE e]
    refine sh_bind fun x st => ?_
    cases x with
    | p x =>
      cases x with
      | bl k =>
        cases k with
        | false => exact shOr (.cons a b) env st
        | true => rfl
      | _ => rfl
    | _ => rfl
theorem shO : (e : IO) → ∀ env st, evO c e (shEnv pre.length env) (pre ++ st) = (evO c e env st).sh id pre
  | .non, env, st => by simp only [evO]; rfl
  | .som e, env, st => by
    simp only [evO, shE e]
    refine sh_bind fun x st => ?_
    cases x with
    | p x => cases x <;> rfl
    | _ => rfl
theorem shC : (e : IO) → ∀ env st, evC c e (shEnv pre.length env) (pre ++ st) = (evC c e env st).sh id pre
  | .non, env, st => by simp only [evC]; rfl
  | .som e, env, st => by
    simp only [evC, shE e]
    exact sh_bind fun x st => rdB_sh x
theorem shI {b : Bool} : (e : IT) → ∀ env st, evI c b e (shEnv pre.length env) (pre ++ st) = (evI c b e env st).sh id pre
  | .seq e, env, st => by
    simp only [evI, shE e]
    refine sh_bind fun x st => ?_
    simp only [rdI_sh]
    cases x.rdI b with
    | none => rfl
    | some x => exact opt_sh _
  | .rng1 a, env, st => by
    simp only [evI, shE a]
    exact sh_bind fun x st => itRng_sh (a := .p (.int 0))
  | .rng2 a d, env, st => by
    simp only [evI, shE a]
    refine sh_bind fun x st => ?_
    simp only [shE d]
    exact sh_bind fun y st => itRng_sh
  | .zip a d, env, st => by
    simp only [evI, shE a]
    refine sh_bind fun x st => ?_
    simp only [shE d]
    refine sh_bind fun y st => ?_
    simp only [rdI_sh]
    cases x.rdI b with
    | none => rfl
    | some u =>
      cases y.rdI b with
      | none => rfl
      | some v => exact opt_sh _
  | .enum e, env, st => by
    simp only [evI, shE e]
    refine sh_bind fun x st => ?_
    simp only [rdI_sh]
    cases x.rdI b with
    | none => rfl
    | some x => exact opt_sh _
end
theorem shT (e : IE) (env : Env) (st : Store) : evT c e (shEnv pre.length env) (pre ++ st) = (evT c e env st).sh id pre := by
  unfold evT
  rw [shE hc e]
  exact sh_bind fun x st => rdB_sh x
end
theorem whileGo_sh {t : Env → Store → R Bool} {f : Env → Store → R Fl} (ht : ∀ env st, t (shEnv pre.length env) (pre ++ st) = (t env st).sh id pre) (hf : ∀ env st, f (shEnv pre.length env) (pre ++ st) = (f env st).sh (Fl.sh pre.length) pre) :
    ∀ n env st, whileGo t f n (shEnv pre.length env) (pre ++ st) = (whileGo t f n env st).sh (Fl.sh pre.length) pre
  | 0, env, st => rfl
  | n + 1, env, st => by
    rw [whileGo, whileGo, ht]
    refine sh_bind fun b st => ?_
    cases b with
    | false => rfl
    | true =>
      show ((f (shEnv pre.length env) (pre ++ st)).bind _) = R.sh _ pre ((f env st).bind _)
      rw [hf]
      refine sh_bind fun r st => ?_
      cases r with
      | nx env => exact whileGo_sh ht hf n env st
      | ct env => exact whileGo_sh ht hf n env st
      | bk env => rfl
      | rt d => rfl
theorem forGo_sh {f : Env → Store → R Fl} {tg : Tg} (hf : ∀ env st, f (shEnv pre.length env) (pre ++ st) = (f env st).sh (Fl.sh pre.length) pre) :
    ∀ xs env st, forGo f tg xs (shEnv pre.length env) (pre ++ st) = (forGo f tg xs env st).sh (Fl.sh pre.length) pre
  | [], env, st => rfl
  | x :: xs, env, st => by
    rw [forGo, forGo, asgT_p]
    cases asgT tg (.p x) env with
    | none => rfl
    | some e1 =>
      show ((f (shEnv pre.length e1) (pre ++ st)).bind _) = R.sh _ pre ((f e1 st).bind _)
      rw [hf]
      refine sh_bind fun r st => ?_
      cases r with
      | nx env => exact forGo_sh hf xs env st
      | ct env => exact forGo_sh hf xs env st
      | bk env => rfl
      | rt d => rfl
theorem storD_sh {n : Nat} {env : Env} {k y : D} {st : Store} : storD (pre.length + n) (shEnv pre.length env) (k.sh pre.length) (y.sh pre.length) (pre ++ st) = (storD n env k y st).sh (Fl.sh pre.length) pre := by
  unfold storD
  rw [keep_sh, at_sh]
  cases k with
  | p kp =>
    cases y.keep with
    | none => rfl
    | some v =>
      cases st[n]? with
      | none => rfl
      | some o =>
        cases o with
        | lst xs => rfl
        | dic kvs =>
          show (match kp.ky with
            | some kk => if decide (kvs.length < 50000) then R.ok (Fl.nx (shEnv pre.length env)) ((pre ++ st).set (pre.length + n) (.dic (putP kvs kp kk v))) else .bad
            | none => .bad) = R.sh _ pre (match kp.ky with
            | some kk => if decide (kvs.length < 50000) then .ok (Fl.nx env) (st.set n (.dic (putP kvs kp kk v))) else .bad
            | none => .bad)
          cases kp.ky with
          | none => rfl
          | some kk =>
            dsimp only
            split
            · rw [set_sh]
              rfl
            · rfl
  | _ => rfl
section
variable {c : Cf} (hc : ∀ f as st, c.call f (as.map (D.sh pre.length)) (pre ++ st) = (c.call f as st).sh (D.sh pre.length) pre)
include hc
mutual
theorem shS : (s : IS) → ∀ env st, exec c s (shEnv pre.length env) (pre ++ st) = (exec c s env st).sh (Fl.sh pre.length) pre
  | .asg t e, env, st => by
    simp only [exec, shE hc e]
    refine sh_bind fun d st => ?_
    simp only [arg_sh]
    cases d.arg with
    | none => rfl
    | some d' =>
      simp only [Option.map_some, asgT_sh]
      cases asgT t d' env <;> rfl
  | .asgO i e, env, st => by
    simp only [exec, shE hc e]
    refine sh_bind fun d st => ?_
    simp only [ownOf_sh]
    cases ownOf d with
    | none => rfl
    | some o =>
      simp only [setO_sh]
      rfl
  | .par is os es, env, st => by
    simp only [exec, shL hc es]
    refine sh_bind fun d st => ?_
    simp only [parD_sh]
    cases parD env is os d <;> rfl
  | .seti o k e, env, st => by
    cases o with
    | v i =>
      simp only [exec, List.getElem?_map]
      cases env[i]? with
      | none => rfl
      | some s =>
        cases s with
        | un => rfl
        | own so =>
          show ((ev c e (shEnv pre.length env) (pre ++ st)).bind _) = R.sh _ pre ((ev c e env st).bind _)
          rw [shE hc e]
          refine sh_bind fun y st => ?_
          rw [shE hc k]
          refine sh_bind fun k st => ?_
          rw [rd_sh, keep_sh]
          cases k.rd st with
          | none => rfl
          | some k =>
            cases y.keep with
            | none => rfl
            | some y =>
              dsimp only
              cases so.put k y with
              | none => rfl
              | some so =>
                dsimp only
                rw [setO_sh]
                rfl
        | val d =>
          cases d with
          | box n =>
            show ((ev c e (shEnv pre.length env) (pre ++ st)).bind _) = R.sh _ pre ((ev c e env st).bind _)
            rw [shE hc e]
            refine sh_bind fun y st => ?_
            rw [shE hc k]
            refine sh_bind fun k st => ?_
            rw [rd_sh, keep_sh, at_sh]
            cases k.rd st with
            | none => rfl
            | some k =>
              cases y.keep with
              | none => rfl
              | some y =>
                cases st[n]? with
                | none => rfl
                | some so =>
                  dsimp only
                  cases so.put k y with
                  | none => rfl
                  | some so =>
                    dsimp only
                    rw [set_sh]
                    rfl
          | _ => rfl
    | _ => simp only [exec] <;> rfl
  | .exp e, env, st => by
    simp only [exec, shE hc e]
    exact sh_bind fun d st => rfl
  | .app i e, env, st => by
    simp only [exec, List.getElem?_map]
    cases env[i]? with
    | none => rfl
    | some s =>
      cases s with
      | own so =>
        show ((ev c e (shEnv pre.length env) (pre ++ st)).bind _) = R.sh _ pre ((ev c e env st).bind _)
        rw [shE hc e]
        refine sh_bind fun y st => ?_
        rw [keep_sh]
        cases y.keep with
        | none => rfl
        | some y =>
          dsimp only
          cases so.push y with
          | none => rfl
          | some so =>
            dsimp only
            rw [setO_sh]
            rfl
      | _ => rfl
  | .ext i e, env, st => by
    simp only [exec, List.getElem?_map]
    cases env[i]? with
    | none => rfl
    | some s =>
      cases s with
      | own so =>
        show ((ev c e (shEnv pre.length env) (pre ++ st)).bind _) = R.sh _ pre ((ev c e env st).bind _)
        rw [shE hc e]
        refine sh_bind fun y st => ?_
        cases y with
        | new ys =>
          dsimp only [D.sh]
          cases so.extend (.lst ys) with
          | none => rfl
          | some so =>
            dsimp only
            rw [setO_sh]
            rfl
        | _ => rfl
      | _ => rfl
  | .ret e, env, st => by
    simp only [exec, shE hc e]
    refine sh_bind fun d st => ?_
    simp only [arg_sh]
    cases d.arg <;> rfl
  | .retN, env, st => by simp only [exec]; rfl
  | .retB e, env, st => by
    simp only [exec, shE hc e]
    refine sh_bind fun d st => ?_
    cases d with
    | new xs =>
      show R.ok (Fl.rt (.box (pre ++ st).length)) ((pre ++ st) ++ [.lst xs]) = R.ok (Fl.rt (.box (pre.length + st.length))) (pre ++ (st ++ [.lst xs]))
      rw [List.length_append, List.append_assoc]
    | _ => rfl
  | .ife t a b, env, st => by
    simp only [exec, shT hc t]
    refine sh_bind fun k st => ?_
    cases k with
    | true => exact shB a env st
    | false => exact shB b env st
  | .whl t b, env, st => by
    simp only [exec]
    exact whileGo_sh (fun env st => shT hc t env st) (fun env st => shB b env st) WN env st
  | .for_ tg it b, env, st => by
    simp only [exec, shI hc it]
    exact sh_bind fun xs st => forGo_sh (fun env st => shB b env st) xs env st
  | .pass, env, st => by simp only [exec]; rfl
  | .brk, env, st => by simp only [exec]; rfl
  | .cont, env, st => by simp only [exec]; rfl
  | .raise k m, env, st => by simp only [exec]; rfl
  | .frz i, env, st => by
    simp only [exec, List.getElem?_map]
    cases env[i]? with
    | none => rfl
    | some s =>
      cases s with
      | own so =>
        cases so with
        | lst xs =>
          show R.ok (Fl.nx (setS (shEnv pre.length env) i ((D.p (.lst xs)).sh pre.length))) (pre ++ st) = _
          rw [setS_sh]
          rfl
        | dic kvs => rfl
      | _ => rfl
  | .tryN f e, env, st => by
    simp only [exec, shE hc e]
    cases ev c e env st with
    | ok d st =>
      show (match (d.sh pre.length).arg with
        | some d => R.ok (Fl.rt d) (pre ++ st)
        | none => .bad) = R.sh _ pre (match d.arg with
        | some d => .ok (Fl.rt d) st
        | none => .bad)
      rw [arg_sh]
      cases d.arg <;> rfl
    | exc k x st =>
      cases x with
      | none =>
        show (match c.wd f k with
          | some z => R.ok (Fl.rt (D.p (.str z))) (pre ++ st)
          | none => .bad) = R.sh _ pre (match c.wd f k with
          | some z => .ok (Fl.rt (D.p (.str z))) st
          | none => .bad)
        cases c.wd f k <;> rfl
      | some x => rfl
    | bad => rfl
  | .any, env, st => by simp only [exec]; rfl
  | .setd i k e, env, st => by
    simp only [exec, List.getElem?_map]
    cases env[i]? with
    | none => rfl
    | some s =>
      cases s with
      | val d =>
        cases d with
        | box n =>
          show ((ev c e (shEnv pre.length env) (pre ++ st)).bind _) = R.sh _ pre ((ev c e env st).bind _)
          rw [shE hc e]
          refine sh_bind fun y st => ?_
          rw [shE hc k]
          exact sh_bind fun k st => storD_sh
        | _ => rfl
      | _ => rfl
theorem shB : (b : IB) → ∀ env st, execs c b (shEnv pre.length env) (pre ++ st) = (execs c b env st).sh (Fl.sh pre.length) pre
  | .nil, env, st => by simp only [execs]; rfl
  | .cons s b, env, st => by
    simp only [execs, shS s]
    refine sh_bind fun r st => ?_
    cases r with
    | nx env => exact shB b env st
    | _ => rfl
end
end
theorem startE_sh {n : Nat} {d : Df} {as : List D} : startE d (as.map (D.sh n)) = shEnv n (startE d as) := by
  unfold startE shEnv
  rw [List.map_append, List.map_map, List.map_map, List.map_replicate]
  rfl
theorem take_sh {st : Store} {n : Nat} : (pre ++ st).take (pre.length + n) = pre ++ st.take n := by
  rw [List.take_append]
  congr 1
  · exact List.take_of_length_le (by omega)
  · congr 1
    omega
theorem fin_sh {n : Nat} {r : R Fl} : fin (pre.length + n) (r.sh (Fl.sh pre.length) pre) = (fin n r).sh (D.sh pre.length) pre := by
  cases r with
  | bad => rfl
  | exc k x st =>
    show R.exc k x ((pre ++ st).take (pre.length + n)) = .exc k x (pre ++ st.take n)
    rw [take_sh]
  | ok a st =>
    cases a with
    | nx env =>
      show R.ok (D.p .non) ((pre ++ st).take (pre.length + n)) = .ok (.p .non) (pre ++ st.take n)
      rw [take_sh]
    | bk env => rfl
    | ct env => rfl
    | rt d =>
      cases d with
      | p x =>
        show R.ok (D.p x) ((pre ++ st).take (pre.length + n)) = .ok (.p x) (pre ++ st.take n)
        rw [take_sh]
      | new xs => rfl
      | bor o => rfl
      | box k =>
        show (if pre.length + k < pre.length + n then R.ok (D.box (pre.length + k)) ((pre ++ st).take (pre.length + n)) else match (pre ++ st)[pre.length + k]? with
          | some o => .ok (.box (pre.length + n)) ((pre ++ st).take (pre.length + n) ++ [o])
          | none => .bad) = R.sh _ pre (if k < n then .ok (D.box k) (st.take n) else match st[k]? with
          | some o => .ok (.box n) (st.take n ++ [o])
          | none => .bad)
        rw [take_sh, at_sh]
        by_cases h : k < n
        · rw [if_pos h, if_pos (by omega)]
          rfl
        · rw [if_neg h, if_neg (by omega)]
          cases st[k]? with
          | none => rfl
          | some o =>
            show R.ok (D.box (pre.length + n)) (pre ++ st.take n ++ [o]) = .ok (.box (pre.length + n)) (pre ++ (st.take n ++ [o]))
            rw [List.append_assoc]
theorem callK_sh {T : Nat → Option Df} {gc : Nat → Option P} : ∀ (k f : Nat) (as : List D) (st : Store), callK T gc k f (as.map (D.sh pre.length)) (pre ++ st) = (callK T gc k f as st).sh (D.sh pre.length) pre
  | 0, f, as, st => rfl
  | k + 1, f, as, st => by
    rw [callK, callK]
    cases T f with
    | none => rfl
    | some d =>
      dsimp only
      rw [List.length_map]
      by_cases h : as.length = d.np
      · rw [if_pos h, if_pos h, startE_sh, List.length_append, shB (c := ⟨callK T gc k, gc, wdT T⟩) (callK_sh k)]
        exact fin_sh
      · rw [if_neg h, if_neg h]
        rfl
/-- a closed call, asked at no store -/
theorem callK_any {T : Nat → Option Df} {gc : Nat → Option P} {k f : Nat} {xs : List P} {y : P} (h : callK T gc k f (xs.map .p) [] = .ok (.p y) []) (st : Store) : callK T gc k f (xs.map .p) st = .ok (.p y) st := by
  have e := callK_sh (pre := st) (T := T) (gc := gc) k f (xs.map D.p) []
  rw [h, List.append_nil, List.map_map] at e
  have e2 : (D.sh st.length ∘ D.p) = D.p := rfl
  rw [e2] at e
  rw [e]
  show R.ok (D.p y) (st ++ []) = _
  rw [List.append_nil]
end
end DE
end

section
set_option Elab.async false
set_option linter.all false
set_option maxRecDepth 100000
set_option autoImplicit false
namespace DE
open PySem L2 PyProof.Rows
def pvB (K : PySem.W.Frag) : Nat → Value → P → Bool
  | _, .int j _, .int i => decide (j = i)
  | _, .str y _, .str z => decide (y = z)
  | n + 1, .ref a, .tup xs => match K.lookup a with
    | some ⟨.type t, _, .seq its _, _⟩ => decide (t = "tuple") && (decide (its.size ≤ sizeLine) && (decide (its.size = xs.length) && (its.toList.zip xs).all fun q => pvB K n q.1 q.2))
    | _ => false
  | _, _, _ => false
section
variable {K : PySem.W.Frag} {fa : Fa}
theorem pvs_ok {f : Value → P → Bool} (hf : ∀ u p, f u p = true → ∃ v, RelV v u ∧ ∀ F H, VR K fa F H v p) : ∀ (us : List Value) (ps : List P), us.length = ps.length → ((us.zip ps).all fun q => f q.1 q.2) = true → ∃ vs, Vals vs us ∧ ∀ F H, VRs K fa F H vs ps
  | [], [], _, _ => ⟨[], .nil, fun _ _ => .nil⟩
  | u :: us, p :: ps, hl, h => by
    rw [List.zip_cons_cons, List.all_cons, Bool.and_eq_true] at h
    obtain ⟨v, h1, h2⟩ := hf u p h.1
    obtain ⟨vs, h3, h4⟩ := pvs_ok hf us ps (by simpa using hl) h.2
    exact ⟨v :: vs, .cons h1 h3, fun F H => .cons (h2 F H) (h4 F H)⟩
  | [], _ :: _, hl, _ => by cases hl
  | _ :: _, [], hl, _ => by cases hl
theorem pv_ok : ∀ (n : Nat) (u : Value) (p : P), pvB K n u p = true → ∃ v, RelV v u ∧ ∀ F H, VR K fa F H v p := by
  intro n
  induction n with
  | zero =>
    intro u p h
    unfold pvB at h
    split at h
    · cases of_decide_eq_true h
      exact ⟨.int _, ⟨_, rfl⟩, fun _ _ => VR.int _⟩
    · cases of_decide_eq_true h
      exact ⟨.str _, ⟨_, rfl⟩, fun _ _ => VR.str _⟩
    · rename_i e
      cases e
    · cases h
  | succ n ih =>
    intro u p h
    unfold pvB at h
    split at h
    · cases of_decide_eq_true h
      exact ⟨.int _, ⟨_, rfl⟩, fun _ _ => VR.int _⟩
    · cases of_decide_eq_true h
      exact ⟨.str _, ⟨_, rfl⟩, fun _ _ => VR.str _⟩
    · rename_i m a xs e
      cases e
      split at h
      · rename_i t od its ep sl hk
        rw [Bool.and_eq_true, Bool.and_eq_true, Bool.and_eq_true] at h
        obtain ⟨h1, h2, h3, h4⟩ := h
        have h1 := of_decide_eq_true h1
        subst h1
        obtain ⟨vs, h5, h6⟩ := pvs_ok (fa := fa) (fun u p h => ih u p h) its.toList xs (by simpa using of_decide_eq_true h3) h4
        exact ⟨.ref a, rfl, fun F H => VR.tup (.inr fun H' => .inr ⟨_, its, ep, hk, rfl, rfl, of_decide_eq_true h2, h5⟩) (h6 F H)⟩
      · cases h
    · cases h
/-- the name x of the text stands for p -/
def conB (K : PySem.W.Frag) (x : Str) (p : P) : Bool := match PySem.W.nsIn K mainGlobals x with
  | some (some u) => pvB K 4 u p
  | _ => false
theorem con_tup {h : Heap} {mg : Str → Option Value} (X : K.In h) (G : h.Ns mainGlobals mg) {x : Str} {p : P} (c : conB K x p = true) : ∃ v u, mg x = some u ∧ RelV v u ∧ ∀ F H, VR K fa F H v p := by
  unfold conB at c
  split at c
  · rename_i u e
    obtain ⟨v, h1, h2⟩ := pv_ok (fa := fa) 4 u p c
    exact ⟨v, u, PySem.W.mg_of X G e, h1, h2⟩
  · cases c
end
end DE
end

section
set_option Elab.async false
set_option linter.all false
set_option maxRecDepth 100000
set_option maxHeartbeats 2000000
set_option autoImplicit false
namespace DH
open PySem PySem.Spec PyProof.Rows L2 HotX
section
variable {prog : Program} {w : World} {A : Around} {E : Value → Shared → Prop} {s : Shared}
theorem nextOf_list_end {it l x1 : Addr} {i : Nat} {items : Array Value} {Q : Value → Shared → Prop} (hot : HotAt A x1 s.heap) (hne : x1 ≠ it) (hit : s.heap.IsListIter it l i) (hl : s.heap.IsList l items) (hx : items[i]? = none)
    (hE : ∀ h' e, Heap.ExtBut it s.heap h' → (∃ o, h'.get? e = some o ∧ o.cls = .type "StopIteration") → E (.ref e) { s with heap := h' }) : wpAny (model prog w) A (Builtin.SmallTypes.nextOf (.ref it)) Q E s := by
  obtain ⟨o, ho, hc, hd⟩ := id hit
  obtain ⟨ol, hol, _, nl, hdl⟩ := hl
  obtain ⟨hh, o1, vs1, h1, d1, c1⟩ := hot
  have hu : ∀ f, (s.heap.update it f).get? x1 = some o1 := fun f => by
    rw [Heap.get?_update_other _ _ (Ne.symm hne)]
    exact h1
  unfold Builtin.SmallTypes.nextOf
  refine wpAny_bind (wpAny_callSpecial?_slot (name := Str.ofString "__next__") hit.typeIs slot_listiter_next
    (wpAny_call_entry slot_listiter_next hit.typeIs entry_listiter_next ?_ (args_listiter_next _)))
  show wpAny _ _ (field (.ref it) 0 >>= _) _ _ s
  refine wpAny_bind (wpAny_field ho hd (x := .ref l) rfl ?_)
  show wpAny _ _ (if (Value.ref l == Value.none) = true then _ else _) _ _ s
  rw [if_neg (show ¬ ((Value.ref l == Value.none) = true) from Bool.false_ne_true)]
  show wpAny _ _ (field (.ref it) 1 >>= _) _ _ s
  refine wpAny_bind (wpAny_field ho hd (x := .int i 0) rfl ?_)
  show wpAny _ _ (seqItems? (.ref l) >>= _) _ _ s
  refine wpAny_bind (wpAny_seqItems hol hdl ?_)
  simp only [Int.toNat_natCast, hx]
  refine wpAny_bind (wpAny_rule (wpAny_bind (wpAny_setField ho hd (by simp) ?_)))
  show wpAny _ _ (newExc (.type "StopIteration") [] >>= _) _ _ _
  refine wpAny_bind ?_
  simp only [newExc, newTuple]
  refine wpAny_bind (wpAny_newObj_type ?_ (by size_fits))
  refine wpAny_bind (m := firstArgMember _ _) (wpAny_of_eq (a := Value.none) (by first | rfl | (simp only [firstArgMember]; rfl)) ?_)
  refine wpAny_newObj_type ?_ (by size_fits)
  refine raiseNew_hot ⟨hh, o1, vs1, Heap.get?_push_of_some _ (Heap.get?_push_of_some _ (hu _)), d1, c1⟩ (Nat.ne_of_lt (Heap.lt_size (Heap.get?_push_of_some _ (hu _)))) (Heap.get?_push_size _ rfl) rfl (by rw [Array.size_append]; exact Nat.lt_of_lt_of_le (show 2 < 6 by decide) (Nat.le_add_right _ _)) ?_
  refine hE _ _ (fun b o hb e => ?_) ⟨_, Heap.get?_update_self _ (Heap.get?_push_size _ rfl) rfl, rfl⟩
  have e2 : ∀ f, (s.heap.update it f).get? b = some o := fun f => (Heap.get?_update_other _ _ (Ne.symm hb)).trans e
  rw [Heap.get?_update_other _ _ (Nat.ne_of_gt (Heap.lt_size (Heap.get?_push_of_some _ (e2 _))))]
  exact Heap.get?_push_of_some _ (Heap.get?_push_of_some _ (e2 _))
theorem draws_list {x1 : Addr} {o1 : Obj} {vs1 : Array Value} (hh : A.handled = some (.ref x1)) (d1 : o1.data = .fields vs1) (c1 : vs1[2]? = some .none) (it l : Addr) (hne : l ≠ it) (hx : x1 ≠ it) (items : Array Value) :
    Draws prog w A it [it, l, x1] items.size (fun i v => items[i]? = some v) (fun i h => (h.IsListIter it l i ∧ h.IsList l items) ∧ h.get? x1 = some o1) where
  live := fun _ _ st => let ⟨o, ho, _⟩ := st.1.1; ⟨o, ho⟩
  frame := fun _ _ _ st hk => ⟨⟨st.1.1.at fun o e => hk it (by simp) o e, st.1.2.at fun o e => hk l (by simp) o e⟩, hk x1 (by simp) _ st.2⟩
  item := fun i s Q E hi st hQ => by
    refine wpAny_nextOf_list_item st.1.1 st.1.2 (x := items[i]) (by simp [hi]) fun h' hit' hs' => ?_
    exact hQ _ h' s.toks (by simp [hi]) ⟨⟨hit', st.1.2.extBut hs'.extBut hne⟩, hs'.extBut _ _ hx st.2⟩ hs'
  done := fun s Q E st hE => nextOf_list_end ⟨hh, o1, vs1, st.2, d1, c1⟩ hx st.1.1 st.1.2 (by simp) hE
theorem next_tuple_end {it t x1 : Addr} {i : Nat} {items : Array Value} {Q : Option Value → Shared → Prop} (hot : HotAt A x1 s.heap) (hne : x1 ≠ it) (hit : IsTupIter s.heap it t i) (ht : IsTup s.heap t items) (hx : items[i]? = none)
    (hQ : ∀ h', Heap.ExtBut it s.heap h' → Q none { s with heap := h' }) : wpAny (model prog w) A (pyNext (.ref it)) Q E s := by
  obtain ⟨o, ho, hc, hd⟩ := id hit
  obtain ⟨ol, hol, _, nl, hdl⟩ := ht
  obtain ⟨hh, o1, vs1, h1, d1, c1⟩ := hot
  have hu : ∀ f, (s.heap.update it f).get? x1 = some o1 := fun f => by
    rw [Heap.get?_update_other _ _ (Ne.symm hne)]
    exact h1
  unfold pyNext
  refine wpAny_bind (wpAny_attempt (wpAny_callSpecial?_slot (name := Str.ofString "__next__") hit.typeIs slot_tupleiter_next
    (wpAny_call_entry slot_tupleiter_next hit.typeIs entry_tupleiter_next ?_ (args_tupleiter_next _))))
  show wpAny _ _ (field (.ref it) 0 >>= _) _ _ s
  refine wpAny_bind (wpAny_field ho hd (x := .ref t) rfl ?_)
  show wpAny _ _ (if (Value.ref t == Value.none) = true then _ else _) _ _ s
  rw [if_neg (show ¬ ((Value.ref t == Value.none) = true) from Bool.false_ne_true)]
  show wpAny _ _ (field (.ref it) 1 >>= _) _ _ s
  refine wpAny_bind (wpAny_field ho hd (x := .int i 0) rfl ?_)
  show wpAny _ _ (seqItems? (.ref t) >>= _) _ _ s
  refine wpAny_bind (wpAny_seqItems hol hdl ?_)
  simp only [Int.toNat_natCast, hx]
  refine wpAny_bind (wpAny_rule (wpAny_bind (wpAny_setField ho hd (by simp) ?_)))
  show wpAny _ _ (newExc (.type "StopIteration") [] >>= _) _ _ _
  refine wpAny_bind ?_
  simp only [newExc, newTuple]
  refine wpAny_bind (wpAny_newObj_type ?_ (by size_fits))
  refine wpAny_bind (m := firstArgMember _ _) (wpAny_of_eq (a := Value.none) (by first | rfl | (simp only [firstArgMember]; rfl)) ?_)
  refine wpAny_newObj_type ?_ (by size_fits)
  refine raiseNew_hot ⟨hh, o1, vs1, Heap.get?_push_of_some _ (Heap.get?_push_of_some _ (hu _)), d1, c1⟩ (Nat.ne_of_lt (Heap.lt_size (Heap.get?_push_of_some _ (hu _)))) (Heap.get?_push_size _ rfl) rfl (by rw [Array.size_append]; exact Nat.lt_of_lt_of_le (show 2 < 6 by decide) (Nat.le_add_right _ _)) ?_
  refine wpAny_bind (wpAny_isInstance (T := "StopIteration") (b := true) ⟨_, Heap.get?_update_self _ (Heap.get?_push_size _ rfl) rfl, rfl⟩ isSubtype_stop ?_)
  refine wpAny_pure (hQ _ fun b o hb e => ?_)
  have e2 : ∀ f, (s.heap.update it f).get? b = some o := fun f => (Heap.get?_update_other _ _ (Ne.symm hb)).trans e
  rw [Heap.get?_update_other _ _ (Nat.ne_of_gt (Heap.lt_size (Heap.get?_push_of_some _ (e2 _))))]
  exact Heap.get?_push_of_some _ (Heap.get?_push_of_some _ (e2 _))
theorem unpackItems_tuple {t x1 : Addr} {items : Array Value} {Q : List Value → Shared → Prop} (hot : HotAt A x1 s.heap) (ht : IsTup s.heap t items)
    (hQ : ∀ h', Heap.ExtBut s.heap.objs.size s.heap h' → Q items.toList { s with heap := h' }) : wpAny (model prog w) A (unpackItems (.ref t) items.size none) Q E s := by
  have hlt : t ≠ s.heap.objs.size := by obtain ⟨o, ho, _⟩ := ht; exact Nat.ne_of_lt (Heap.lt_size ho)
  obtain ⟨hh, o1, vs1, h1, d1, c1⟩ := hot
  have hx1 : x1 ≠ s.heap.objs.size := Nat.ne_of_lt (Heap.lt_size h1)
  unfold unpackItems
  refine wpAny_bind ?_
  · unfold notIterableAtAll
    refine wpAny_bind (wpAny_specialOf ht.typeIs slot_tuple_iter.lookup ?_)
    refine wpAny_pure ?_
    simp only [Bool.false_eq_true, if_false]
    refine wpAny_bind (wpAny_holding (iter_tuple ht ?_))
    refine wpAny_bind (wpAny_holding (draw_tuple hlt items.size 0 _ _ ⟨_, Heap.get?_push_size _ rfl, rfl, rfl⟩ (ht.push _) (by omega) fun h₁ hit₁ hs₁ => ?_))
    have hall : List.take items.size (List.drop 0 items.toList) = items.toList := by
      rw [List.drop_zero]; exact List.take_of_length_le (by simp)
    rw [hall]
    rw [if_neg (by simp)]
    have ht₁ : IsTup h₁ t items := (ht.push _).extBut hs₁.extBut hlt
    have h1' : h₁.get? x1 = some o1 := hs₁.extBut _ _ hx1 (Heap.get?_push_of_some _ h1)
    refine wpAny_bind (wpAny_holding (next_tuple_end ⟨hh, o1, vs1, h1', d1, c1⟩ hx1 hit₁ ht₁ (by simp) fun h₂ he₂ => ?_))
    simp only [Option.isSome_none, Bool.false_eq_true, if_false]
    refine wpAny_pure (hQ h₂ fun b o hb e => he₂ b o hb (hs₁.extBut b o hb (Heap.get?_push_of_some _ e)))
theorem assign_tuple {env : Env} {elts : List Expr} {kk : Nat} {pos : Pos} {t x1 : Addr} {items : Array Value} {Q : Unit → Shared → Prop} (hot : HotAt A x1 s.heap) (ht : IsTup s.heap t items)
    (hn : (assignEach elts env).length = items.size) (hstar : (assignEach elts env).findIdx? (·.1) = none)
    (h : ∀ h', Heap.ExtBut s.heap.objs.size s.heap h' → wpAny (model prog w) A (assignInOrder ((assignEach elts env).map (·.2)) items.toList) Q E { s with heap := h' }) :
    wpAny (model prog w) A (assign (.Tuple elts kk pos) env (.ref t)) Q E s := by
  rw [assign_Tuple]
  refine wpAny_bind (wpAny_standAt ?_)
  unfold unpack
  rw [hn, hstar]
  exact wpAny_bind (wpAny_holding (unpackItems_tuple hot ht h))
end
end DH
end

section
set_option Elab.async false
set_option linter.all false
set_option maxRecDepth 100000
set_option maxHeartbeats 2000000
set_option autoImplicit false
namespace DH
open PySem PySem.Spec PyProof.Rows L2 HotX
abbrev HotS (X : Cx) (x1 : Addr) (s : Shared) : Prop := HotAt X.A x1 s.heap
/-- what is walked, an exception being handled -/
structure TurnQ (P : Program) (w : World) (K : PySem.W.Frag) (tg : Expr) (J : It) (fp : List Addr) (it : Addr) (tn : Nat → Heap → Prop) : Prop where
  mem : it ∈ fp
  obj : ∀ i h, tn i h → ∀ b ∈ fp, ∃ o, h.get? b = some o ∧ ∀ v, o.data ≠ .cell v
  keep : ∀ i h h', tn i h → (∀ b ∈ fp, ∀ o, h.get? b = some o → h'.get? b = some o) → tn i h'
  item : ∀ (X : Cx), X.prog = P → X.w = w → X.K = K → ∀ (i : Nat) (pins : List (Addr × Obj)) (s : Shared) (σ : L2.St) (H : Hp) (E : Value → Shared → Prop), L2.Inv X pins σ H s → (∀ b ∈ fp, FpOk X pins H b) → tn i s.heap → J.go i H →
    wpAny (model P w) X.A (pyNext (.ref it)) (fun r s1 => ∃ u, r = some u ∧
      wpAny (model P w) X.A (letOwnedTupleGo tg (.ref it) u) (fun _ s2 => ∃ x H', L2.Inv X pins σ H' s2 ∧ RelV x u ∧ J.yld i H x H' ∧ tn (i + 1) s2.heap ∧ ∀ b ∈ fp, H' b = none) E s1) E s
  done : ∀ (X : Cx), X.prog = P → X.w = w → X.K = K → ∀ (x1 : Addr), x1 ∉ fp → ∀ (i : Nat) (pins : List (Addr × Obj)) (s : Shared) (σ : L2.St) (H : Hp) (E : Value → Shared → Prop), HotS X x1 s → L2.Inv X pins σ H s → (∀ b ∈ fp, FpOk X pins H b) → tn i s.heap → J.stop i H →
    wpAny (model P w) X.A (pyNext (.ref it)) (fun r s1 => r = none ∧ L2.Inv X pins σ H s1) E s
def ItQ (K : PySem.W.Frag) (a b : Addr) : It := { Itz K a b with stop := fun i H => ∃ xs ys, SqL K H a xs ∧ SqL K H b ys ∧ i ≤ xs.length ∧ i ≤ ys.length ∧ (i = xs.length ∨ i = ys.length) }
theorem turn_zip {P : Program} {w : World} {K : PySem.W.Frag} {elts : List Expr} {kk : Nat} {tpos : Pos} {a b z TI TO i1 i2 : Addr} (D : ZipApart z TI TO i1 i2 a b) :
    TurnQ P w K (.Tuple elts kk tpos) (ItQ K a b) [z, TI, TO, i1, i2] z (fun i h => IsZip h z TI TO .none ∧ IsPair h TI (.ref i1) (.ref i2) ∧ (∃ x y, IsPair h TO x y) ∧ h.IsListIter i1 a i ∧ h.IsListIter i2 b i) where
  mem := by simp
  obj := fun i h st c hc => by
    obtain ⟨hz, hTI, ⟨x, y, hTO⟩, ⟨o1, e1, _, d1⟩, ⟨o2, e2, _, d2⟩⟩ := st
    have e' : c = z ∨ c = TI ∨ c = TO ∨ c = i1 ∨ c = i2 := by simpa using hc
    rcases e' with q | q | q | q | q
    · rw [q]; exact ⟨_, hz, fun v q => nomatch q⟩
    · rw [q]; exact ⟨_, hTI, fun v q => nomatch q⟩
    · rw [q]; exact ⟨_, hTO, fun v q => nomatch q⟩
    · rw [q]; exact ⟨o1, e1, fun v q => by rw [d1] at q; cases q⟩
    · rw [q]; exact ⟨o2, e2, fun v q => by rw [d2] at q; cases q⟩
  keep := fun i h h' st k => by
    obtain ⟨hz, hTI, ⟨x, y, hTO⟩, h1, h2⟩ := st
    exact ⟨k z (by simp) _ hz, k TI (by simp) _ hTI, ⟨x, y, k TO (by simp) _ hTO⟩, h1.at fun o q => k i1 (by simp) o q, h2.at fun o q => k i2 (by simp) o q⟩
  item := by
    intro X hP hw hK i pins s σ H E I hf st hg
    subst hP hw hK
    obtain ⟨hz, hTI, ⟨x0, y0, hTO⟩, h1, h2⟩ := st
    obtain ⟨xs, ys, x, y, hqx, hqy, hx, hy⟩ := hg
    obtain ⟨its, rv, p, _⟩ := I.list hqx
    obtain ⟨its2, rv2, p2, _⟩ := I.list hqy
    obtain ⟨u, hu, ru⟩ := rv.get hx
    obtain ⟨u2, hu2, ru2⟩ := rv2.get hy
    have hzl : z < s.heap.objs.size := Heap.lt_size hz
    refine wpAny_pyNext_zip_item D hz hTI hTO h1 h2 p.isList p2.isList (x := u) (y := u2) (by simpa using hu) (by simpa using hu2) fun h' z' TO' h1' h2' hT hsz hk => ?_
    refine ⟨_, rfl, wpAny_letOwnedTupleGo_zip (s := { s with heap := h' }) z' fun h'' z'' sb => ?_⟩
    have hT2 : h''.get? s.heap.objs.size = some { cls := .type "tuple", data := .seq #[u, u2] } := (sb.2 _ (Nat.ne_of_gt hzl)).trans hT
    have new : ObjOk X.prog X.w (upd H s.heap.objs.size (.tup [x, y])) h'' s.heap.objs.size (.tup [x, y]) :=
      ⟨by show 2 ≤ sizeLine; decide, [u, u2], .cons ru (.cons ru2 .nil), ⟨_, hT2, rfl, _, rfl⟩⟩
    have I1 : L2.Inv X pins σ (upd H s.heap.objs.size (.tup [x, y])) { s with heap := h'' } :=
      I.turnedNew (t' := s.toks) (ch := [z, TI, TO, i1, i2]) (fun c o hb q => (sb.2 c (fun q' => hb (by simp [q']))).trans (hk c o (fun q' => hb (by simp [q'])) (fun q' => hb (by simp [q'])) (fun q' => hb (by simp [q'])) (fun q' => hb (by simp [q'])) q)) hf (Nat.le_refl _) new
    refine ⟨.ref s.heap.objs.size, _, I1, rfl, ⟨_, x, y, rfl, I.hok.fresh (Nat.le_refl _), rfl, fun l hl => by rw [I.list_inj hl hqx]; exact hx, fun l hl => by rw [I.list_inj hl hqy]; exact hy⟩, ⟨z'', ?_, ⟨u, u2, ?_⟩, ?_, ?_⟩, fun c hcm => ?_⟩
    · exact (sb.2 _ D.TIz).trans (hk _ _ D.TIz D.TITO D.TIi1 D.TIi2 hTI)
    · exact (sb.2 _ D.TOz).trans TO'
    · exact h1'.at fun o q => (sb.2 _ D.i1z).trans q
    · exact h2'.at fun o q => (sb.2 _ D.i2z).trans q
    · have hlt : c < s.heap.objs.size := by
        have e' : c = z ∨ c = TI ∨ c = TO ∨ c = i1 ∨ c = i2 := by simpa using hcm
        rcases e' with q | q | q | q | q
        · rw [q]; exact hzl
        · rw [q]; exact Heap.lt_size hTI
        · rw [q]; exact Heap.lt_size hTO
        · rw [q]; obtain ⟨_, e1, _⟩ := h1; exact Heap.lt_size e1
        · rw [q]; obtain ⟨_, e2, _⟩ := h2; exact Heap.lt_size e2
      rw [upd_ne (Nat.ne_of_lt hlt)]
      exact (hf c hcm).1
  done := by
    intro X hP hw hK x1 hx1 i pins s σ H E hot I hf st hg
    subst hP hw hK
    obtain ⟨hz, hTI, ⟨x0, y0, hTO⟩, h1, h2⟩ := st
    obtain ⟨xs, ys, hqx, hqy, hle1, hle2, hend⟩ := hg
    obtain ⟨its, rv, p, _⟩ := I.list hqx
    obtain ⟨its2, rv2, p2, _⟩ := I.list hqy
    obtain ⟨hh, o1, vs1, g1, d1, c1⟩ := hot
    have l1 := rv.length
    have l2 := rv2.length
    have n1 : x1 ≠ z := fun e => hx1 (by simp [e])
    have n2 : x1 ≠ TO := fun e => hx1 (by simp [e])
    have n3 : x1 ≠ i1 := fun e => hx1 (by simp [e])
    have n4 : x1 ≠ i2 := fun e => hx1 (by simp [e])
    have S : ZipSep2 z TI TO i1 i2 [i1, a, x1] [i2, b, x1] := by
      refine ⟨D.TIz, D.TOz, D.TITO, D.TIi1, by simp, ?_, ?_, D.TIi2, by simp, ?_, ?_, ?_, ?_⟩
      · simp [Ne.symm D.i1z, Ne.symm D.l1z, Ne.symm n1]
      · simp [D.TOi1, Ne.symm D.l1TO, Ne.symm n2]
      · simp [Ne.symm D.i2z, Ne.symm D.l2z, Ne.symm n1]
      · simp [D.TOi2, Ne.symm D.l2TO, Ne.symm n2]
      · simp [D.i12, Ne.symm D.l2i1, Ne.symm n3]
      · simp [Ne.symm D.i12, Ne.symm D.l1i2, Ne.symm n4]
    have D1 := draws_list (prog := X.prog) (w := X.w) (A := X.A.in1) (o1 := o1) (vs1 := vs1) hh d1 c1 i1 a D.l1i1 n3 its.toArray
    have D2 := draws_list (prog := X.prog) (w := X.w) (A := X.A.in1) (o1 := o1) (vs1 := vs1) hh d1 c1 i2 b D.l2i2 n4 its2.toArray
    refine wpAny_pyNext_zipD2_end S D1 D2 hz hTI hTO ⟨⟨h1, p.isList⟩, g1⟩ ⟨⟨h2, p2.isList⟩, g1⟩ (by rw [List.size_toArray]; omega) (by rw [List.size_toArray]; omega) (by rw [List.size_toArray, List.size_toArray]; omega) fun h' tk hk => ⟨rfl, I.turnedL (t' := tk) (ch := [z, TI, TO, i1, i2]) (fun c o hb q =>
      hk c o (fun q' => hb (by simp [q'])) (fun q' => hb (by simp [q'])) (fun q' => hb (by simp [q'])) (fun q' => hb (by simp [q'])) q) hf⟩
end DH
end

section
set_option Elab.async false
set_option linter.all false
set_option maxRecDepth 100000
set_option maxHeartbeats 2000000
set_option autoImplicit false
namespace DH
open PySem PySem.Spec PyProof.Rows L2 HotX L2H
/-- a target, p's object being pinned -/
structure PGH (X : Cx) (p : Addr × Obj) (target : Expr) (t : TG) : Prop where
  run : ∀ (pins : List (Addr × Obj)) (s : Shared) (σ : L2.St) (H : Hp) (v : V) (u : Value) (Q : L2.St → Hp → Prop), p ∈ pins → Inv X pins σ H s → RelV v u → t v σ H Q →
    wpAny (model X.prog X.w) X.A (assign target X.env u) (fun _ s' => ∃ σ' H', Inv X pins σ' H' s' ∧ Q σ' H') X.xe s
def PIEQ (X : Cx) (pins : List (Addr × Obj)) (σ : L2.St) (tg : Expr) (R : It → Hp → Prop) (itv : Value) (s2 : Shared) : Prop :=
  ∃ (it : Addr) (fp : List Addr) (tn : Nat → Heap → Prop) (J : It) (H' : Hp), itv = .ref it ∧ Inv X pins σ H' s2 ∧ TurnQ X.prog X.w X.K tg J fp it tn ∧ tn 0 s2.heap ∧ (∀ b ∈ fp, FpOk X pins H' b) ∧ R J H' ∧
    ∀ (A : Around) (s : Shared) (Q : Value → Shared → Prop) (E : Value → Shared → Prop), tn 0 s.heap → Q (.ref it) s → wpAny (model X.prog X.w) A (pyIter (.ref it)) Q E s
structure PIQ (X : Cx) (tg iter : Expr) (wi : TI) : Prop where
  run : ∀ (pins : List (Addr × Obj)) (s : Shared) (σ : L2.St) (H : Hp) (R : It → Hp → Prop), Inv X pins σ H s → wi σ H R →
    wpAny (model X.prog X.w) X.A (eval iter X.env) (fun v s1 => wpAny (model X.prog X.w) X.A (pyIter v) (PIEQ X pins σ tg R) X.xe s1) X.xe s
section
variable {X : Cx}
theorem pgh_tup {p : Addr × Obj} {es : List Expr} {k : Nat} {t : TGs} {n : Nat} {pos : Pos} (hot : Hot1 X.A p) (h : PGs X es t)
    (hn : (assignEach es X.env).length = n := by rfl) (hst : (assignEach es X.env).findIdx? (·.1) = none := by rfl) : PGH X p (.Tuple es k pos) (gTup X.K n t) := by
  refine ⟨fun pins s σ H v u Q hp I r hw => ?_⟩
  obtain ⟨a, xs, e1, hq, hl, hw⟩ := hw
  subst e1
  cases r
  obtain ⟨its, rv, ht, hz⟩ := I.tuple hq
  obtain ⟨hh, v1, e2, c2⟩ := hot
  have P1 := I.pin p (List.mem_append_right _ hp)
  refine assign_tuple (x1 := p.1) ⟨hh, p.2, v1, P1.1, e2, c2⟩ ht (by simp [hn, ← hl, rv.length]) hst fun h' hx => ?_
  have I1 : Inv X pins σ H { s with heap := h' } := I.kept (t' := s.toks) fun b o e => hx b o (Nat.ne_of_lt (Heap.lt_size e)) e
  exact h.run pins _ σ H xs _ Q I1 (by simpa using rv) hw
theorem lc_hot {p : Addr × Obj} {pins : List (Addr × Obj)} {s : Shared} {σ : L2.St} {H : Hp} {Q : VK} {elt tg iter : Expr} {ifs : List Expr} {scope : Scope} {own : List (Str × Nat)} {pos pos' : Pos} {wi : TI} {g : TG} {tt : TT} {te : TE} {use : Option (Value → Sem Unit)} {Qf : Value → Shared → Prop}
    (hot : Hot1 X.A p) (hpn : p ∈ X.pn) (hN : X.N.Nodup) (I : Inv X pins σ H s) (hi : PIQ X tg iter wi) (ok : BlkOk X.N X.env.scope scope own)
    (hg : ∀ (s : Shared) (H : Hp) (C : Addr) (cl : List (Str × Addr)) (fp : List Addr), PGH (X.blk s H scope (compEnvC scope cl C X.env) fp) p tg g) (ht : ∀ (s : Shared) (H : Hp) (C : Addr) (cl : List (Str × Addr)) (fp : List Addr), PTs (X.blk s H scope (compEnvC scope cl C X.env) fp) ifs tt)
    (he : ∀ (s : Shared) (H : Hp) (C : Addr) (cl : List (Str × Addr)) (fp : List Addr), PE (X.blk s H scope (compEnvC scope cl C X.env) fp) elt te) (hs : ∀ x, foldedSetIterable iter X.env x = pure x)
    (h : tLc wi g tt te (own.map (·.2)) σ H Q)
    (hRR : ∀ D C s' m H', Inv X pins σ H' s' → Q (.ref D) H' → s'.heap.Ns C m → FpOk X pins H' C → compPost (model X.prog X.w) X.A X.xe use Qf (.ref D) C (.ok .next) s') :
    wpAny (model X.prog X.w) X.A (comprehension (.ListComp elt [⟨tg, iter, ifs, 0⟩] scope pos) scope X.env pos' (newList []) false (eval iter X.env) use) Qf X.xe s := by
  obtain ⟨hhan, v1, ev1, cv1⟩ := id hot
  have hfree : ∀ y ∈ scope.names, y.2 = .free → ∃ c, X.env.cells.lookup y.1 = some c := fun y hy e => by
    rcases ok.free y hy e with k | k
    · exact I.ok.has _ (.inl k)
    · exact I.ok.has _ (.inr k)
  refine wpAny_comprehension_free (use := use) rfl hs (closure_ok hfree) ok.kind (fun y hy e => by rw [ok.uniq y hy, e])
    (thn (hi.run pins s σ H _ I h) fun xv s1 hx => thn hx fun itv s2 h2 => ?_)
  obtain ⟨it, fp, tn, J, H2, e, I2, T, st2, f2, q, hself⟩ := h2
  subst e
  refine wpAny_newObj_type (newEnv_comp ?_) (by show 0 ≤ sizeLine; decide)
  generalize hD : s2.heap.objs.size = D
  have hDn : H2 D = none := I2.hok.fresh (Nat.le_of_eq hD)
  obtain ⟨W, ⟨m0, w0⟩, turn⟩ := q D hDn
  generalize hs3 : ({ s2 with heap := s2.heap.push { cls := .type "list", data := .seq ([] : List Value).toArray } } : Shared) = s3
  have I3 : Inv X pins σ (upd H2 D (.lst [])) s3 := by
    rw [← hs3]
    refine I2.laid (t' := s2.toks) (fun b o e => Heap.get?_push_of_some _ e) (Nat.le_of_eq hD) ⟨Nat.zero_le _, [], 0, .nil, ?_⟩
    rw [← hD]
    exact Heap.get?_push_size _ rfl
  have h3 : s3.heap = s2.heap.push { cls := .type "list", data := .seq ([] : List Value).toArray } := by rw [← hs3]
  have sz : ∀ b ∈ fp, b < s2.heap.objs.size := fun b hb => by
    obtain ⟨o, e, _⟩ := T.obj _ _ st2 b hb
    exact Heap.lt_size e
  have f3 : ∀ b ∈ fp, FpOk X pins (upd H2 D (.lst [])) b ∧ b < s3.heap.objs.size := fun b hb => by
    have hlt := sz b hb
    refine ⟨⟨?_, (f2 b hb).2⟩, by rw [h3, Heap.size_push]; exact Nat.lt_succ_of_lt hlt⟩
    rw [upd_ne (by rw [← hD]; exact Nat.ne_of_lt hlt)]
    exact (f2 b hb).1
  have st3 : tn 0 s3.heap := T.keep _ _ _ st2 fun b _ o e => by rw [h3]; exact Heap.get?_push_of_some _ e
  have I4 := block_start I3 ok hN f3
  have pg := hg s3 (upd H2 D (.lst [])) s3.heap.objs.size (cellsFrom (s3.heap.objs.size + 1) scope.names (cloFrom X.env.cells scope.names [])) fp
  have pt := ht s3 (upd H2 D (.lst [])) s3.heap.objs.size (cellsFrom (s3.heap.objs.size + 1) scope.names (cloFrom X.env.cells scope.names [])) fp
  have pe := he s3 (upd H2 D (.lst [])) s3.heap.objs.size (cellsFrom (s3.heap.objs.size + 1) scope.names (cloFrom X.env.cells scope.names [])) fp
  show codeAny _ _ (.compStart (.ListComp elt [⟨tg, iter, ifs, 0⟩] scope pos) 0 (.ref it) (.ref D) (compEnvC scope (cellsFrom (s3.heap.objs.size + 1) scope.names (cloFrom X.env.cells scope.names [])) s3.heap.objs.size X.env)) (compPost (model X.prog X.w) X.A X.xe use Qf (.ref D) s3.heap.objs.size) { s3 with heap := pushCells (s3.heap.push { cls := .type "dict", data := .dict #[] }) scope.names }
  have nfp : ∀ b ∈ fp, (upd H2 D (.lst [])) b = none := fun b hb => (f3 b hb).1.1
  have P3 := I3.pin p (List.mem_append_left _ hpn)
  have stk3 : p.1 ∉ frs X.stack := fun hm => (List.mem_cons.mp (I3.stkSub p.1 hm)).elim P3.2.2.1 P3.2.2.2.1
  generalize hce : compEnvC scope (cellsFrom (s3.heap.objs.size + 1) scope.names (cloFrom X.env.cells scope.names [])) s3.heap.objs.size X.env = ce at I4 pg pt pe ⊢
  have cL : ce.locals = s3.heap.objs.size := by subst hce; rfl
  generalize hH3 : upd H2 D (.lst []) = H3 at I3 I4 pg pt pe w0 nfp f3 P3
  generalize hs4 : ({ s3 with heap := pushCells (s3.heap.push { cls := .type "dict", data := .dict #[] }) scope.names } : Shared) = s4 at I4 ⊢
  have k4 : ∀ b o, s3.heap.get? b = some o → s4.heap.get? b = some o := fun b o e => by rw [← hs4]; exact pushCells_keeps _ _ _ _ (Heap.get?_push_of_some _ e)
  have st4 : tn 0 s4.heap := T.keep _ _ _ st3 fun b _ o e => k4 b o e
  have I4p : Inv (X.blk s3 H3 scope ce fp) [p] (wipe σ (own.map (·.2))) H3 s4 := I4.pins_of fun q hq => by
    have eq : q = p := by simpa using (show q ∈ ([] : List (Addr × Obj)) ++ [p] from hq)
    rw [eq]
    refine ⟨k4 _ _ P3.1, P3.2.1, fun z => ?_, stk3, P3.2.2.2.2⟩
    have h1 := Heap.lt_size P3.1
    have z : p.1 = ce.locals := z
    rw [z, cL] at h1
    exact Nat.lt_irrefl _ h1
  have np : ∀ b ∈ fp, p.1 ≠ b := fun b hb => (f3 b hb).1.2.2.2.2.2 p (List.mem_append_left _ hpn)
  have stat : ∀ {σ' : L2.St} {H' : Hp} {s' : Shared}, Inv (X.blk s3 H3 scope ce fp) [p] σ' H' s' → (∀ b ∈ fp, H' b = none) → ∀ b ∈ fp, FpOk (X.blk s3 H3 scope ce fp) [p] H' b := fun {σ' H' s'} I' hn b hb =>
    ⟨hn b hb, (I'.ok.exf b hb).1, I'.ok.exfs b hb, .inl hb, fun x c e => (I'.ok.exf b hb).2 x c e, fun q hq => by
      have eq : q = p := by simpa using (show q ∈ ([] : List (Addr × Obj)) ++ [p] from hq)
      rw [eq]
      exact np b hb⟩
  have loop : codeAny (model X.prog X.w) X.A (.compLoop (.ListComp elt [⟨tg, iter, ifs, 0⟩] scope pos) 0 (.ref it) (.ref D) ce) (compPost (model X.prog X.w) X.A X.xe use Qf (.ref D) s3.heap.objs.size) s4 := by
    refine compLoop_any (fun n s' => ∃ i H', Inv (X.blk s3 H3 scope ce fp) [p] (wipe σ (own.map (·.2))) H' s' ∧ tn i s'.heap ∧ (∀ b ∈ fp, H' b = none) ∧ W i n H') ?_ m0 ⟨0, H3, I4p, st4, nfp, w0⟩
    rintro n s5 ⟨i, H5, I5, st5, n5, w5⟩
    have g5 : s5.heap.get? p.1 = some p.2 := (I5.pin p (List.mem_append_right _ (by simp))).1
    rcases turn i n H5 w5 with ⟨stop, qq⟩ | ⟨go, Nx, hNx, step⟩
    · have td := T.done (X.blk s3 H3 scope ce fp) rfl rfl rfl p.1 (fun hm => np p.1 hm rfl) i [p] s5 _ H5 (fun _ _ => False) ⟨hhan, p.2, v1, g5, ev1, cv1⟩ I5 (stat I5 n5) st5 stop
      refine thnF td fun r s6 ⟨hr, I6⟩ => ?_
      subst hr
      have I7 : Inv X pins σ H5 s6 := I3.call' (ch := fp) I6.os I6.base I6.hok I6.bare fun b hb => ⟨(f3 b hb).1.2.2.2.1, (f3 b hb).1.2.1, (f3 b hb).1.2.2.2.2.1, (f3 b hb).1.2.2.2.2.2⟩
      have nC : H5 s3.heap.objs.size = none := by
        have z : H5 ce.locals = none := I6.free
        rw [cL] at z
        exact z
      obtain ⟨m, hn, _⟩ := I6.loc
      have hn : s6.heap.Ns ce.locals m := hn
      rw [cL] at hn
      exact hRR D s3.heap.objs.size s6 m H5 I7 qq hn (I3.fpOk (Nat.le_refl _) nC)
    · have ti := T.item (X.blk s3 H3 scope ce fp) rfl rfl rfl i [p] s5 _ H5 (fun _ _ => False) I5 (stat I5 n5) st5 go
      refine thnF ti fun r s6 ⟨u, hr, h6⟩ => ?_
      subst hr
      refine thnF h6 fun _ s7 ⟨x, H7, I7, r7, y7, st7, n7⟩ => ?_
      have I7' := I7.pinned (stat I7 n7) (T.obj _ _ st7)
      refine thnF (pg.run _ s7 _ H7 x u _ (List.mem_append_left _ (by simp)) I7' r7 (step x H7 y7)) fun _ s8 ⟨σ8, H8, I8, hw8, q8⟩ => ?_
      refine thnF (pt.run _ s8 σ8 H8 _ I8 q8) fun b s9 ⟨H9, I9, q9⟩ => ?_
      have fin : ∀ {s' : Shared} {H' : Hp}, Inv (X.blk s3 H3 scope ce fp) ([p] ++ pinsAt fp s7.heap) σ8 H' s' → Nx H' → ∃ m, m < n ∧ ∃ i H', Inv (X.blk s3 H3 scope ce fp) [p] (wipe σ (own.map (·.2))) H' s' ∧ tn i s'.heap ∧ (∀ b ∈ fp, H' b = none) ∧ W i m H' := fun {s' H'} I' nx => by
        obtain ⟨m', hm, w'⟩ := hNx H' nx
        have pin' : ∀ b ∈ fp, ∀ o, s7.heap.get? b = some o → s'.heap.get? b = some o ∧ H' b = none := fun b hb o e =>
          let z := I'.pin (b, o) (List.mem_append_right _ (List.mem_append_right _ (mem_pinsAt hb e)))
          ⟨z.1, z.2.1⟩
        have hl : (wipe σ (own.map (·.2))).length = σ8.length := by rw [← hw8, wipe_length]
        refine ⟨m', hm, i + 1, H', (I'.unpinned (pins := [p])).weak hl (fun j v e => ?_), T.keep _ _ _ st7 fun b hb o e => (pin' b hb o e).1, fun b hb => ?_, w'⟩
        · rw [← hw8] at e
          exact (wipe_some e).1
        · obtain ⟨o, e, _⟩ := T.obj _ _ st7 b hb
          exact (pin' b hb o e).2
      cases b with
      | false =>
        simp only [Bool.false_eq_true, if_false] at q9 ⊢
        exact fin I9 q9
      | true =>
        simp only [if_true] at q9 ⊢
        refine thnF (pe.run _ s9 σ8 H9 _ I9 q9) fun z s10 ⟨yv, H10, I10, r10, acc, hD10, hz10, nx⟩ => ?_
        exact app_ok (X := X.blk s3 H3 scope ce fp) I10 hD10 hz10 r10 fun s11 I11 => fin I11 nx
  exact codeAny_compStart_list loop (hself X.A _ _ _ st4 loop)
theorem pe_lcH {p : Addr × Obj} {elt tg iter : Expr} {ifs : List Expr} {scope : Scope} {own : List (Str × Nat)} {pos : Pos} {wi : TI} {g : TG} {tt : TT} {te : TE} (hot : Hot1 X.A p) (hpn : p ∈ X.pn) (hN : X.N.Nodup) (hi : PIQ X tg iter wi) (ok : BlkOk X.N X.env.scope scope own)
    (hg : ∀ (s : Shared) (H : Hp) (C : Addr) (cl : List (Str × Addr)) (fp : List Addr), PGH (X.blk s H scope (compEnvC scope cl C X.env) fp) p tg g) (ht : ∀ (s : Shared) (H : Hp) (C : Addr) (cl : List (Str × Addr)) (fp : List Addr), PTs (X.blk s H scope (compEnvC scope cl C X.env) fp) ifs tt)
    (he : ∀ (s : Shared) (H : Hp) (C : Addr) (cl : List (Str × Addr)) (fp : List Addr), PE (X.blk s H scope (compEnvC scope cl C X.env) fp) elt te) (hs : ∀ x, foldedSetIterable iter X.env x = pure x := by intro _; rfl) :
    PE X (.ListComp elt [⟨tg, iter, ifs, 0⟩] scope pos) (tLc wi g tt te (own.map (·.2))) := by
  refine ⟨fun pins s σ H Q I h => ?_⟩
  rw [eval_ListComp]
  refine lc_hot hot hpn hN I hi ok hg ht he hs h fun D C s' m H' I' q hn f => ⟨m, hn, fun h'' sb => ?_⟩
  obtain ⟨f0, f1, f2, f3, f4, f5⟩ := f
  exact ⟨.ref D, H', I'.turned (t' := s'.toks) (fun b o hb e => (sb.2 b hb).trans e) f0 f1 f3 f4 f5, rfl, q⟩
/-- zip of two lists -/
theorem pi_zipQ {e e2 : Expr} {ta : TA} {p pos tpos : Pos} {elts : List Expr} {kk : Nat} (hg : Gl X "zip") (hm : X.mg "zip" = none) (ha : PA X [e, e2] ta)
    (hs : starEach [e, e2] X.env = (false, eval e X.env) :: starEach [e2] X.env := by rfl) (hpl : (backTo pos (starEach [e2] X.env)).any (·.1) = false := by rfl) :
    PIQ X (.Tuple elts kk tpos) (.Call (.Name "zip" p) [e, e2] [] pos) (fun σ H R => ta σ H fun vs H1 => ∃ a b xs ys, vs = [.ref a, .ref b] ∧ SqL X.K H1 a xs ∧ SqL X.K H1 b ys ∧ R (ItQ X.K a b) H1) := by
  refine ⟨fun pins s σ H R I h => ?_⟩
  refine Call_ (ld_blt I hg hm PyProof.Rows.boot_zip (PyProof.Rows.callWith_type1 (thn (ha.run pos pins s σ H _ I h) fun us s1 ⟨vs, H1, I1, r1, q1⟩ => ?_) hs hpl))
  obtain ⟨a, b, xs, ys, ex, hqx, hqy, q⟩ := q1
  subst ex
  cases r1 with
  | cons r rr =>
    cases rr with
    | cons r' rr =>
      cases rr
      cases r
      cases r'
      have fresh5 : ∀ c, c ∈ [s1.heap.objs.size + 4, s1.heap.objs.size + 2, s1.heap.objs.size + 3, s1.heap.objs.size, s1.heap.objs.size + 1] → FpOk X pins H1 c := fun c hcm => by
        have e' : c = s1.heap.objs.size + 4 ∨ c = s1.heap.objs.size + 2 ∨ c = s1.heap.objs.size + 3 ∨ c = s1.heap.objs.size ∨ c = s1.heap.objs.size + 1 := by simpa using hcm
        have hle : s1.heap.objs.size ≤ c := by omega
        exact I1.fpOk hle (I1.hok.fresh hle)
      obtain ⟨its, rv, p1, _⟩ := I1.list hqx
      obtain ⟨its2, rv2, p2, _⟩ := I1.list hqy
      refine call_zip_2 p1.isList p2.isList fun h' hz hTI hTO h1 h2 hsz hk => wpAny_pyIter_zip hz ?_
      have I2 : Inv X pins σ H1 { s1 with heap := h' } := I1.kept (t' := s1.toks) hk
      exact ⟨s1.heap.objs.size + 4, [s1.heap.objs.size + 4, s1.heap.objs.size + 2, s1.heap.objs.size + 3, s1.heap.objs.size, s1.heap.objs.size + 1], _, _, H1, rfl, I2, turn_zip (PySem.W.ktu_apart s1.heap.objs.size a b p1.lt p2.lt), ⟨hz, hTI, ⟨_, _, hTO⟩, h1, h2⟩, fresh5, q, fun A s Q E st h => wpAny_pyIter_zip st.1 h⟩
end
end DH
end

section
set_option Elab.async false
set_option linter.all false
set_option maxRecDepth 100000
set_option maxHeartbeats 2000000
set_option autoImplicit false
namespace DH
open PySem PySem.Spec PyProof.Rows L2 HotX L2H
structure FnP (P : Program) (w : World) (K : PySem.W.Frag) (mg : Str → Option Value) (base : Heap) (CX : CXT) (p : Addr × Obj) (k : Nat) (f : Addr) (fd : FuncData) (ps : List Str) (sp : Sp) : Prop where
  len : ∀ vs H Q E, sp vs H Q E → vs.length = ps.length
  run : ∀ (A : Around) (outer : List Env) (s : Shared) (H : Hp) (args : Args) (us : List Value) (vs : List V) (Q : VK) (E : XK), RoomH k A → Hot1 A p → PinOk outer H s p → Env0 P w K mg base A outer s H → BindsTo s fd args (ps.zip us) → Vals vs us → sp vs H Q E →
    codeAny (model P w) A (.call (.ref f) args) (CR CX outer P w H s Q E) s
theorem fn_ofP {CX : CXT} {P : Program} {w : World} {K : PySem.W.Frag} {mg : Str → Option Value} {base : Heap} {p : Addr × Obj} {k : Nat} {f : Addr} {name qual : Str} {params : Arguments} {body : List Stmt} {scope : Scope} {dV kV doc pm cdv ct oc : Value} {an od : Option Addr}
    {osl : Array (Option Value)} {N ps : List Str} {sp : Sp} (lk : K.lookup f = some ⟨oc, od, .func (PySem.W.fnOf name qual params body scope dV kV doc pm an cdv ct), osl⟩) (hcd : PySem.W.codeIn K cdv qual = true) (S : FnScope N ps scope)
    (len : ∀ vs H Q E, sp vs H Q E → vs.length = ps.length)
    (hbody : ∀ (A : Around) (outer : List Env) (s : Shared) (H : Hp) (vs : List V) (Q : VK) (E : XK), Hot1 A p → sp vs H Q E →
      ∃ t, PSs (cxH CX P w K mg base N qual scope f cdv A outer s H E p) body t ∧ t { nx := fun _ H' => Q .non H', rt := Q } (L2.start N vs) H) :
    FnP P w K mg base CX p (k + 1) f (PySem.W.fnOf name qual params body scope dV kV doc pm an cdv ct) ps sp := by
  refine ⟨len, fun A outer s H args us vs Q E hr hot hpin e0 hb r hsp => ?_⟩
  have hl := len _ _ _ _ hsp
  have KX : K.In s.heap := e0.mod.kin.keeps fun b o e => (e0.bs b o e).1
  have lim : s.heap.NoLimit := e0.mod.nolimit.keeps fun b o e => (e0.bs b o e).1
  have hkind : ∀ y ∈ ps.zip us, scope.names.lookup y.1 = some .local ∨ (scope.names.lookup y.1 = some .cell ∧ ((cellsFrom (s.heap.objs.size + 1) scope.names []).lookup y.1).isSome = true) := fun ⟨n, v⟩ hy => by
    rcases S.par n (List.of_mem_zip hy).1 with q | q
    · exact .inl q
    · exact .inr ⟨q, PySem.W.cellsFrom_some _ _ _ (.inl q)⟩
  refine codeAny_call_function hr.depth (KX _ _ lk) rfl S.co S.gen rfl (PySem.W.codeRec_of KX hcd) (hb _ _ _ _ ?_)
  refine wpAny_newFunctionEnv_cells S.kind hkind fun env he s1 x => ?_
  subst he
  refine ⟨lim.keeps x.toInCall.keep, codeAny_func ?_⟩
  obtain ⟨t, ht, hq⟩ := hbody A outer s H vs Q E hot hsp
  have I : Inv (cxH CX P w K mg base N qual scope f cdv A outer s H E p) [] (L2.start N vs) H s1 := inv_startH S hpin e0 hl r x
  refine wpAny_mono (ht.run [] s1 (L2.start N vs) H _ I hq) (fun fl s' hs => ?_) fun e s' hs => hs
  have fin : ∀ {σ' : L2.St} {H' : Hp} {v : V} {u : Value}, Inv (cxH CX P w K mg base N qual scope f cdv A outer s H E p) [] σ' H' s' → RelV v u → Q v H' → CE outer P w H s Q u s' :=
    fun {σ' H' v u} J rv q => ⟨v, H', J.os, J.bare, J.base, J.hok, rv, q⟩
  cases fl with
  | ret u =>
    obtain ⟨v, σ', H', J, rv, q⟩ := hs
    exact fin J rv q
  | next =>
    obtain ⟨σ', H', J, q⟩ := hs
    exact fin (v := V.non) (u := Value.none) J rfl q
  | brk =>
    obtain ⟨_, _, _, q⟩ := hs
    exact False.elim q
  | cont =>
    obtain ⟨_, _, _, q⟩ := hs
    exact False.elim q
section
variable {X : Cx} {CX : CXT} {k : Nat} {f : Addr} {fd : FuncData} {ps : List Str} {sp : Sp} {E : L2.St → XK} {x : Str} {q pos : Pos} {e : Expr} {es : List Expr} {t : TA} {p : Addr × Obj}
theorem run_fnP {pins : List (Addr × Obj)} {σ : L2.St} {H : Hp} {s : Shared} {Q : VK} {us : List Value} {vs : List V} (F : FnP X.prog X.w X.K X.mg X.base CX p k f fd ps sp) (hr : RoomH k X.A) (hot : Hot1 X.A p) (hp : p ∈ X.pn) (hb : Binds X.K fd ps []) (hx : PassesAt CX X σ (E σ))
    (I : Inv X pins σ H s) (r : Vals vs us) (h : sp vs H Q (E σ)) : wpAny (model X.prog X.w) X.A (call (.ref f) us) (EP X pins σ Q) X.xe s := by
  have hl : us.length = ps.length := by rw [← r.length]; exact F.len _ _ _ _ h
  have b := hb s us I.kIn (by rw [List.append_nil]; exact hl)
  rw [List.append_nil] at b
  have P1 := I.pin p (List.mem_append_left _ hp)
  have hpin : PinOk X.stack H s p := ⟨P1.1, P1.2.1, fun hm => (List.mem_cons.mp (I.stkSub p.1 hm)).elim P1.2.2.1 P1.2.2.2.1, P1.2.2.2.2⟩
  refine wpAny_call (codeAny_mono (F.run X.A X.stack s H ⟨us, []⟩ us vs Q (E σ) hr hot hpin I.env0 b r h) fun r s' hq => ?_)
  cases r with
  | error e => exact hx pins H s e s' I hq
  | ok fl =>
    cases fl with
    | ret u => exact I.after hq
    | next => exact False.elim hq
    | brk => exact False.elim hq
    | cont => exact False.elim hq
theorem pe_callP (F : FnP X.prog X.w X.K X.mg X.base CX p k f fd ps sp) (hr : RoomH k X.A) (hot : Hot1 X.A p) (hp : p ∈ X.pn) (hg : Gl X x) (hm : X.mg x = some (.ref f)) (hk : PySem.W.keepIn X.K (.ref f) = true) (hb : Binds X.K fd ps []) (hx : ∀ σ, PassesAt CX X σ (E σ))
    (ha : PA X (e :: es) t) (hdb : (x == ("__debug__" : Str)) = false := by decide) (he : starEach (e :: es) X.env = (false, eval e X.env) :: starEach es X.env := by rfl) (hpl : (backTo pos (starEach es X.env)).any (·.1) = false := by rfl) :
    PE X (.Call (.Name x q) (e :: es) [] pos) (tCallS sp E t) := by
  refine ⟨fun pins s σ H Q I h => ?_⟩
  refine wpAny_Call_Name_kw (ld_glob I hg hm ?_ hdb)
  refine PySem.W.callWith_K (h₀ := X.base) I.ok.mod.kin hk (thn (ha.run pos pins s σ H _ I h) fun us s1 ⟨vs, H1, I1, r, q⟩ => ⟨I1.kIn, ?_⟩) he hpl
  exact run_fnP F hr hot hp hb (hx σ) I1 r q
theorem call_isH {D : Addr} (hp : p ∈ X.pn) (C : ExcC X.K D) (hz : Zc (.ref D) none p.2) (hf : ∃ vs, p.2.data = .fields vs) : CallR X (.builtin "isinstance") (rIsE X.K D p.1) := by
  intro pins s σ H xs us Q I r h
  obtain ⟨c, cv, b, rfl, hcv, e, q⟩ := h
  obtain ⟨u1, u2, rfl, rx, rt⟩ := vals2 r
  cases (show u1 = Value.ref p.1 from rx)
  have ec := hcv _ rt
  subst ec
  obtain ⟨hget, _⟩ := I.pin p (List.mem_append_left _ hp)
  obtain ⟨vs, hv⟩ := hf
  have J : PySem.W.InstAt s.heap p.1 p.2 D none := by
    obtain ⟨pa, oc, od, oda, osl⟩ := p
    obtain ⟨h1, h2⟩ := hz
    dsimp only at h1 h2 hv
    subst h1 h2 hv
    exact ⟨hget, rfl, rfl, trivial⟩
  exact PySem.W.kia_one (PySem.W.handS_kitx_exc C.hg C.hk C.hs C.hd C.ha C.hn C.ht C.hm) I.kIn J e (fun z => nomatch z) fun tk => ⟨.bl b, H, I.kept (t' := tk) fun _ _ z => z, rfl, q⟩
theorem pe_weak {e : Expr} {t u : TE} (h : PE X e t) (i : ∀ σ H Q, u σ H Q → t σ H Q) : PE X e u := ⟨fun pins s σ H Q I hw => h.run pins s σ H Q I (i σ H Q hw)⟩
theorem pa_weak {es : List Expr} {t u : TA} (h : PA X es t) (i : ∀ σ H Q, u σ H Q → t σ H Q) : PA X es u := ⟨fun pos pins s σ H Q I hw => h.run pos pins s σ H Q I (i σ H Q hw)⟩
end
end DH
end

section
set_option Elab.async false
set_option linter.all false
set_option maxRecDepth 100000
set_option maxHeartbeats 2000000
set_option autoImplicit false
namespace DH
open PySem PySem.Spec PyProof.Rows L2 HotX L2H
def nLab : Str := "recipe number place word sights step corner text fold none unlike flat undo many failed value"
def isB (q : Nat → Pos) (n : Nat) (c : Str) : Expr := .Call (.Name "isinstance" (q n)) [.Name "_law_error" (q (n + 1)), .Name c (q (n + 2))] [] (q (n + 3))
def nCs : Scope := { kind := .function, names := [(".0", .local), ("_law_label", .local), ("_law_good", .local)], isGenerator := false, isCoroutine := false, more := [] }
def nAdd (q : Nat → Pos) (n : Nat) (a b c : Str) : Stmt := .Assign [.Name "_law_some" (q n)] (.BinOp (.Name "_law_some" (q (n + 1))) .Add (.List [isB q (n + 2) a, isB q (n + 6) b, isB q (n + 10) c] (q (n + 14))) (q (n + 15))) (q (n + 16))
def nRet (q : Nat → Pos) : Stmt := .Return (some (.Call (.Attribute (.Constant (.str " ") 0 (q 94)) "join" (q 95)) [.ListComp (.Name "_law_label" (q 96)) [⟨.Tuple [.Name "_law_label" (q 97), .Name "_law_good" (q 98)] 0 (q 99),
  .Call (.Name "zip" (q 100)) [.Call (.Attribute (.Name "_law_labels" (q 101)) "split" (q 102)) [.Constant (.str " ") 0 (q 103)] [] (q 104), .Name "_law_some" (q 105)] [] (q 106), [.Name "_law_good" (q 107)], 0⟩] nCs (q 108)] [] (q 109))) (q 110)
def nBody (q : Nat → Pos) : List Stmt := [
  .Assign [.Name "_law_some" (q 0)] (.List [isB q 1 "InvalidRecipe", isB q 5 "InvalidNumber", isB q 9 "InvalidPlace"] (q 13)) (q 14),
  nAdd q 15 "InvalidWord" "InvalidSights" "InvalidStep",
  nAdd q 32 "InvalidCorner" "InvalidText" "InvalidFold",
  nAdd q 49 "Impossible" "Unlike" "Flat",
  nAdd q 66 "NothingToUndo" "TooMany" "Failed",
  .Expr (.Call (.Attribute (.Name "_law_some" (q 83)) "append" (q 84)) [isB q 85 "ValueError"] [] (q 89)) (q 90),
  .Assign [.Name "_law_labels" (q 91)] (.Constant (.str nLab) 0 (q 92)) (q 93),
  nRet q]
def nCls : List Str := ["InvalidRecipe", "InvalidNumber", "InvalidPlace", "InvalidWord", "InvalidSights", "InvalidStep", "InvalidCorner", "InvalidText", "InvalidFold", "Impossible", "Unlike", "Flat", "NothingToUndo", "TooMany", "Failed"]
def nN : List Str := ["_law_error", "_law_some", "_law_labels", "_law_label", "_law_good"]
/-- the names of the def -/
def nSc (sc : Scope) : Bool := decide (sc.kind = .function) && decide (sc.names.lookup ("_law_error" : Str) = some .local) && decide (sc.names.lookup ("_law_some" : Str) = some .local) && decide (sc.names.lookup ("_law_labels" : Str) = some .local) &&
  ("isinstance" :: "zip" :: "ValueError" :: nCls : List Str).all fun x => decide (sc.names.lookup x = some .globalImplicit)
structure NC (X : Cx) (p : Addr × Obj) (D : Addr) (b : Str → Bool) : Prop where
  N : X.N = nN
  sc : nSc X.env.scope = true
  blk : BlkOk X.N X.env.scope nCs [("_law_label", 3), ("_law_good", 4)]
  hot : Hot1 X.A p
  hp : p ∈ X.pn
  ex : ExcC X.K D
  zc : Zc (.ref D) none p.2
  hf : ∃ vs, p.2.data = .fields vs
  mi : X.mg "isinstance" = none
  mz : X.mg "zip" = none
  mv : X.mg "ValueError" = none
  cls : ∀ c ∈ nCls, ∃ C, X.mg c = some (.ref C) ∧ PySem.W.kitOne X.K (.ref D) (.ref C) = some (b c)
  val : PySem.W.kitOne X.K (.ref D) (.type "ValueError") = some true
  fn : ∀ x, X.fn x = true
section
variable {X : Cx} {p : Addr × Obj} {D : Addr} {b : Str → Bool} {q : Nat → Pos}
theorem NC.nd (n : NC X p D b) : X.N.Nodup := by rw [n.N]; decide +kernel
theorem NC.ix (n : NC X p D b) (i : Nat) : X.N[i]? = nN[i]? := by rw [n.N]
theorem NC.kinds (n : NC X p D b) : (X.env.scope.names.lookup ("_law_error" : Str) = some .local ∧ X.env.scope.names.lookup ("_law_some" : Str) = some .local ∧ X.env.scope.names.lookup ("_law_labels" : Str) = some .local) ∧ ∀ x ∈ ("isinstance" :: "zip" :: "ValueError" :: nCls : List Str), Gl X x := by
  have h := n.sc
  unfold nSc at h
  rw [Bool.and_eq_true, Bool.and_eq_true, Bool.and_eq_true, Bool.and_eq_true] at h
  exact ⟨⟨of_decide_eq_true h.1.1.1.2, of_decide_eq_true h.1.1.2, of_decide_eq_true h.1.2⟩, fun x hx => by
    have h2 := List.all_eq_true.mp h.2 x hx
    exact of_decide_eq_true (p := X.env.scope.names.lookup x = some .globalImplicit) h2⟩
theorem pe_is (n : NC X p D b) {i : Nat} {c : Str} {cv : V} {u : Value} {r : Bool} (hc : PE X (.Name c (q (i + 2))) (tC cv)) (hu : ∀ u', RelV cv u' → u' = u) (hk : PySem.W.kitOne X.K (.ref D) u = some r) :
    PE X (isB q i c) (fun σ H Q => σ[0]? = some (some (.ref p.1)) ∧ Q (.bl r) H) := by
  obtain ⟨⟨k1, k2, k3⟩, kg⟩ := n.kinds
  refine pe_weak (pe_callB (id := "isinstance") (call_isH n.hp n.ex n.zc n.hf) (kg _ (by simp)) n.mi (by decide +kernel) (pa_cons (pe_var (i := 0) (by rw [n.ix]; rfl) (.inl k1) (by decide +kernel) (by decide +kernel)) (pa_cons hc pa_nil)) (by decide +kernel) (by decide +kernel)) fun σ H Q h => ?_
  exact ⟨_, h.1, cv, u, r, rfl, hu, hk, h.2⟩
theorem pe_isC (n : NC X p D b) {i : Nat} {c : Str} (hc : c ∈ nCls) : PE X (isB q i c) (fun σ H Q => σ[0]? = some (some (.ref p.1)) ∧ Q (.bl (b c)) H) := by
  obtain ⟨C, h1, h2⟩ := n.cls c hc
  have hdb : (c == ("__debug__" : Str)) = false := by
    have h3 : nCls.all (fun c => !(c == ("__debug__" : Str))) = true := by decide +kernel
    simpa using List.all_eq_true.mp h3 c hc
  exact pe_is n (cv := .ref C) (pe_glob (n.kinds.2 c (by simp [hc])) h1 rfl hdb) (fun u' h => h) h2
theorem pa_is3 (n : NC X p D b) {i j k : Nat} {c1 c2 c3 : Str} (h1 : c1 ∈ nCls) (h2 : c2 ∈ nCls) (h3 : c3 ∈ nCls) :
    PA X [isB q i c1, isB q j c2, isB q k c3] (fun σ H Q => σ[0]? = some (some (.ref p.1)) ∧ Q [.bl (b c1), .bl (b c2), .bl (b c3)] H) :=
  pa_weak (pa_cons (pe_isC n h1) (pa_cons (pe_isC n h2) (pa_cons (pe_isC n h3) pa_nil))) fun σ H Q h => ⟨h.1, h.1, h.1, h.2⟩
def hx (H0 H : Hp) : Prop := ∀ a o, H0 a = some o → H a = some o
theorem hx_new {H0 H : Hp} {a : Addr} {o : HO} (h : hx H0 H) (hn : H a = none) : hx H0 (upd H a o) := fun c u e => by
  rw [upd_ne (ne_of_none (h c u e) hn)]
  exact h c u e
/-- between the statements: the list so far -/
def nAt (p : Addr × Obj) (H0 : Hp) (bs : List Bool) (lab : Option V) (σ : L2.St) (H : Hp) : Prop := hx H0 H ∧ ∃ a, H0 a = none ∧ H a = some (.lst (bs.map V.bl)) ∧ σ = [some (.ref p.1), some (.ref a), lab, none, none]
theorem ps_first (n : NC X p D b) : PS X (.Assign [.Name "_law_some" (q 0)] (.List [isB q 1 "InvalidRecipe", isB q 5 "InvalidNumber", isB q 9 "InvalidPlace"] (q 13)) (q 14))
    (fun E σ H => ∃ H0, H0 = H ∧ σ = [some (.ref p.1), none, none, none, none] ∧ ∀ σ' H', nAt p H0 [b "InvalidRecipe", b "InvalidNumber", b "InvalidPlace"] none σ' H' → E.nx σ' H') := by
  have h := ps_asg (pos := q 14) (pe_lst (pos := q 13) (pa_is3 n (q := q) (i := 1) (j := 5) (k := 9) (c1 := "InvalidRecipe") (c2 := "InvalidNumber") (c3 := "InvalidPlace") (by decide +kernel) (by decide +kernel) (by decide +kernel))) (pg_name (pos := q 0) n.nd (i := 1) (x := "_law_some") (by rw [n.ix]; rfl) (.inl n.kinds.1.2.1) (.inl (n.fn _)))
  refine ⟨fun pins s σ H E I ⟨H0, e0, es, k⟩ => h.run pins s σ H E I ?_⟩
  subst e0 es
  refine ⟨rfl, by show 3 ≤ sizeLine; decide, fun a ha => ?_⟩
  exact k _ _ ⟨hx_new (fun _ _ e => e) ha, a, ha, upd_same, rfl⟩
theorem ps_add (n : NC X p D b) {i : Nat} {c1 c2 c3 : Str} (h1 : c1 ∈ nCls) (h2 : c2 ∈ nCls) (h3 : c3 ∈ nCls) : PS X (nAdd q i c1 c2 c3)
    (fun E σ H => ∃ H0 bs, nAt p H0 bs none σ H ∧ bs.length ≤ 100 ∧ ∀ σ' H', nAt p H0 (bs ++ [b c1, b c2, b c3]) none σ' H' → E.nx σ' H') := by
  have h := ps_asg (pos := q (i + 16)) (pe_op (pos := q (i + 15)) op_cat (pe_var (pos := q (i + 1)) (i := 1) (x := "_law_some") (by rw [n.ix]; rfl) (.inl n.kinds.1.2.1) (by decide +kernel) (by decide +kernel)) (pe_lst (pos := q (i + 14)) (pa_is3 n (q := q) (i := i + 2) (j := i + 6) (k := i + 10) h1 h2 h3)))
    (pg_name (pos := q i) n.nd (i := 1) (x := "_law_some") (by rw [n.ix]; rfl) (.inl n.kinds.1.2.1) (.inl (n.fn _)))
  refine ⟨fun pins s σ H E I ⟨H0, bs, ⟨hh, a, a0, ha, es⟩, hl, k⟩ => h.run pins s σ H E I ?_⟩
  subst es
  refine ⟨.ref a, rfl, rfl, by show 3 ≤ sizeLine; decide, fun c hc => ?_⟩
  refine ⟨a, c, bs.map V.bl, [.bl (b c1), .bl (b c2), .bl (b c3)], rfl, rfl, by rw [upd_ne (ne_of_none ha hc)]; exact ha, upd_same, by rw [List.length_map]; show _ + 3 ≤ sizeLine; rw [sizeLine_eq]; omega, fun d hd => ?_⟩
  have x1 : hx H0 (upd H c (.lst [.bl (b c1), .bl (b c2), .bl (b c3)])) := hx_new hh hc
  refine k _ _ ⟨hx_new x1 hd, d, ?_, by rw [upd_same, List.map_append]; rfl, rfl⟩
  cases e : H0 d with
  | none => rfl
  | some o =>
    rw [x1 d o e] at hd
    cases hd
theorem ps_app (n : NC X p D b) (hl : ((q 84).endLine == (q 89).line) = true) : PS X (.Expr (.Call (.Attribute (.Name "_law_some" (q 83)) "append" (q 84)) [isB q 85 "ValueError"] [] (q 89)) (q 90))
    (fun E σ H => ∃ H0 bs, nAt p H0 bs none σ H ∧ bs.length ≤ 100 ∧ ∀ σ' H', nAt p H0 (bs ++ [true]) none σ' H' → E.nx σ' H') := by
  have hv : PE X (isB q 85 "ValueError") (fun σ H Q => σ[0]? = some (some (.ref p.1)) ∧ Q (.bl true) H) :=
    pe_is n (q := q) (i := 85) (c := "ValueError") (cv := .ty "ValueError") (pe_bltn (pos := q 87) (n.kinds.2 _ (by simp)) n.mv (by decide +kernel) rfl (by decide +kernel) (by decide +kernel)) (fun u' h => h) n.val
  have h := ps_expr (pos := q 90) (pe_bm (cpos := q 89) (apos := q 84) PySem.F.plainAttrs_list PySem.F.slot_list_append PySem.F.type_list_append mt_append (pe_var (pos := q 83) (i := 1) (x := "_law_some") (by rw [n.ix]; rfl) (.inl n.kinds.1.2.1) (by decide +kernel) (by decide +kernel)) (pa_cons hv pa_nil) (by rfl) (by rfl) hl) (by rfl)
  refine ⟨fun pins s σ H E I ⟨H0, bs, ⟨hh, a, a0, ha, es⟩, hlen, k⟩ => h.run pins s σ H E I ?_⟩
  subst es
  refine ⟨.ref a, rfl, .inl ⟨rfl, _, SqL.of ha⟩, rfl, a, bs.map V.bl, .bl true, rfl, rfl, ha, by rw [List.length_map, sizeLine_eq]; omega, ?_⟩
  refine k _ _ ⟨fun c u e => ?_, a, a0, by rw [upd_same, List.map_append]; rfl, rfl⟩
  rw [upd_ne (ne_of_none e a0)]
  exact hh c u e
theorem ps_lab (n : NC X p D b) : PS X (.Assign [.Name "_law_labels" (q 91)] (.Constant (.str nLab) 0 (q 92)) (q 93))
    (fun E σ H => ∃ H0 bs, nAt p H0 bs none σ H ∧ ∀ σ' H', nAt p H0 bs (some (.str nLab)) σ' H' → E.nx σ' H') := by
  have h := ps_asg (pos := q 93) (pe_str (x := nLab) (j := 0) (pos := q 92)) (pg_name (pos := q 91) n.nd (i := 2) (x := "_law_labels") (by rw [n.ix]; rfl) (.inl n.kinds.1.2.2) (.inl (n.fn _)))
  refine ⟨fun pins s σ H E I ⟨H0, bs, ⟨hh, a, a0, ha, es⟩, k⟩ => h.run pins s σ H E I ?_⟩
  subst es
  exact k _ _ ⟨hh, a, a0, ha, rfl⟩
end
end DH
end

section
set_option Elab.async false
set_option linter.all false
set_option maxRecDepth 100000
set_option maxHeartbeats 2000000
set_option autoImplicit false
namespace DH
open PySem PySem.Spec PyProof.Rows L2 HotX L2H
def nLabs : List Str := ["recipe", "number", "place", "word", "sights", "step", "corner", "text", "fold", "none", "unlike", "flat", "undo", "many", "failed", "value"]
theorem split_lab : Txt.split nLab (Str.ofString " ") = nLabs := by decide +kernel
def nTold (bs : List Bool) : List Str := ((nLabs.zip bs).filter (·.2)).map (·.1)
section
variable {X : Cx} {p : Addr × Obj} {D : Addr} {b : Str → Bool} {q : Nat → Pos}
theorem told_len (bs : List Bool) : ((nTold bs).map (·.length)).sum + (nTold bs).length * (Str.ofString " ").length ≤ 16777216 := by
  have h1 : ∀ (l : List (Str × Bool)), (∀ x ∈ l, x.1.length ≤ 10) → (((l.filter (·.2)).map (·.1)).map (·.length)).sum ≤ 10 * l.length ∧ ((l.filter (·.2)).map (·.1)).length ≤ l.length := by
    intro l
    induction l with
    | nil => intro _; exact ⟨Nat.le_refl _, Nat.le_refl _⟩
    | cons x l ih =>
      intro h
      obtain ⟨i1, i2⟩ := ih fun y hy => h y (List.mem_cons_of_mem _ hy)
      have hx := h x List.mem_cons_self
      rw [List.filter_cons]
      split
      · simp only [List.map_cons, List.sum_cons, List.length_cons]
        omega
      · simp only [List.length_cons]
        omega
  have h2 : (nLabs.zip bs).length ≤ 16 := by
    rw [List.length_zip]
    have : nLabs.length = 16 := rfl
    omega
  have h3 : ∀ x ∈ nLabs.zip bs, x.1.length ≤ 10 := fun x hx => by
    have h4 : nLabs.all (fun y => decide (y.length ≤ 10)) = true := by decide +kernel
    exact of_decide_eq_true (List.all_eq_true.mp h4 x.1 (List.of_mem_zip hx).1)
  obtain ⟨i1, i2⟩ := h1 _ h3
  have h5 : (Str.ofString " ").length = 1 := by decide +kernel
  unfold nTold
  rw [h5]
  omega
theorem pe_lcN (n : NC X p D b) (hl : ((q 102).endLine == (q 104).line) = true) : PE X (.ListComp (.Name "_law_label" (q 96)) [⟨.Tuple [.Name "_law_label" (q 97), .Name "_law_good" (q 98)] 0 (q 99),
    .Call (.Name "zip" (q 100)) [.Call (.Attribute (.Name "_law_labels" (q 101)) "split" (q 102)) [.Constant (.str " ") 0 (q 103)] [] (q 104), .Name "_law_some" (q 105)] [] (q 106), [.Name "_law_good" (q 107)], 0⟩] nCs (q 108))
    (fun σ H Q => ∃ H0 bs, nAt p H0 bs (some (.str nLab)) σ H ∧ bs.length = 16 ∧ ∀ Dl H', hx H0 H' → H' Dl = some (.lst ((nTold bs).map V.str)) → Q (.ref Dl) H') := by
  have hz : PIQ X (.Tuple [.Name "_law_label" (q 97), .Name "_law_good" (q 98)] 0 (q 99)) (.Call (.Name "zip" (q 100)) [.Call (.Attribute (.Name "_law_labels" (q 101)) "split" (q 102)) [.Constant (.str " ") 0 (q 103)] [] (q 104), .Name "_law_some" (q 105)] [] (q 106)) _ :=
    pi_zipQ (pos := q 106) (n.kinds.2 _ (by simp)) n.mz (pa_cons (pe_split (apos := q 102) (pos := q 104) (pe_var (pos := q 101) (i := 2) (x := "_law_labels") (by rw [n.ix]; rfl) (.inl n.kinds.1.2.2) (by decide +kernel) (by decide +kernel)) (pe_str (x := " ") (j := 0) (pos := q 103)) (by rfl) (by rfl) hl)
      (pa_cons (pe_var (pos := q 105) (i := 1) (x := "_law_some") (by rw [n.ix]; rfl) (.inl n.kinds.1.2.1) (by decide +kernel) (by decide +kernel)) pa_nil))
  have hlab : X.N[3]? = some ("_law_label" : Str) := by rw [n.ix]; rfl
  have hgood : X.N[4]? = some ("_law_good" : Str) := by rw [n.ix]; rfl
  refine pe_weak (pe_lcH (p := p) (g := gTup X.K 2 (gCons (gName 3) (gCons (gName 4) gNil))) (tt := tB (tVar 4)) (te := tVar 3) n.hot n.hp n.nd hz n.blk
    (fun s H C cl fp => pgh_tup (X := X.blk s H nCs (compEnvC nCs cl C X.env) fp) (n := 2) n.hot (pgs_cons (pg_name n.nd hlab (.inl rfl) (.inr rfl)) (pgs_cons (pg_name n.nd hgood (.inl rfl) (.inr rfl)) pgs_nil)))
    (fun s H C cl fp => pts_one (pt_val (X := X.blk s H nCs (compEnvC nCs cl C X.env) fp) (pe_var hgood (.inl rfl) (by decide +kernel) (by decide +kernel)) (fun _ => rfl)))
    (fun s H C cl fp => pe_var (X := X.blk s H nCs (compEnvC nCs cl C X.env) fp) hlab (.inl rfl) (by decide +kernel) (by decide +kernel)) (fun _ => rfl)) fun σ H Q h => ?_
  obtain ⟨H0, bs, ⟨hh, a, a0, ha, es⟩, hb, k⟩ := h
  subst es
  refine ⟨.str nLab, rfl, ⟨nLab, rfl⟩, nLab, Str.ofString " ", rfl, rfl, by decide +kernel, by rw [sizeLine_eq]; decide +kernel, fun l hl => ?_⟩
  rw [split_lab]
  have hal : (upd H l (.lst (nLabs.map V.str))) a = some (.lst (bs.map V.bl)) := by rw [upd_ne (ne_of_none ha hl)]; exact ha
  refine ⟨.ref a, rfl, l, a, nLabs.map V.str, bs.map V.bl, rfl, SqL.of upd_same, SqL.of hal, fun Dl hD => ?_⟩
  have hx1 : hx H0 (upd H l (.lst (nLabs.map V.str))) := hx_new hh hl
  have l16 : nLabs.length = 16 := rfl
  generalize hH1 : upd H l (.lst (nLabs.map V.str)) = H1 at hD hal hx1
  have hl1 : H1 l = some (.lst (nLabs.map V.str)) := by rw [← hH1]; exact upd_same
  have D0 : H0 Dl = none := by
    cases e : H0 Dl with
    | none => rfl
    | some o =>
      rw [hx1 Dl o e] at hD
      cases hD
  have lD : l ≠ Dl := ne_of_none hl1 hD
  have aD : a ≠ Dl := ne_of_none hal hD
  let P : Nat → Hp → Prop := fun i H' => H' l = some (.lst (nLabs.map V.str)) ∧ H' a = some (.lst (bs.map V.bl)) ∧ hx H0 H' ∧ H' Dl = some (.lst (((((nLabs.zip bs).take i).filter (·.2)).map (·.1)).map V.str))
  refine ⟨fun i m H' => m = 16 - i ∧ i ≤ 16 ∧ P i H', ⟨16, rfl, by decide, by rw [upd_ne lD]; exact hl1, by rw [upd_ne aD]; exact hal, fun c u e => by rw [upd_ne (ne_of_none (hx1 c u e) hD)]; exact hx1 c u e, upd_same⟩, ?_⟩
  rintro i m H' ⟨rfl, hi, p1, p2, p3, p4⟩
  by_cases hlt : i < 16
  · refine .inr ⟨⟨nLabs.map V.str, bs.map V.bl, .str (nLabs[i]'(by omega)), .bl (bs[i]'(by omega)), SqL.of p1, SqL.of p2, by rw [List.getElem?_map, List.getElem?_eq_getElem (by omega)]; rfl, by rw [List.getElem?_map, List.getElem?_eq_getElem (by omega)]; rfl⟩, P (i + 1), fun H2 h2 => ⟨16 - (i + 1), by omega, rfl, by omega, h2⟩, ?_⟩
    rintro v H2 ⟨T, x, y, rfl, hT, rfl, f1, f2⟩
    have ex := f1 _ (SqL.of p1)
    have ey := f2 _ (SqL.of p2)
    rw [List.getElem?_map, List.getElem?_eq_getElem (show i < nLabs.length by omega)] at ex
    rw [List.getElem?_map, List.getElem?_eq_getElem (show i < bs.length by omega)] at ey
    cases ex
    cases ey
    have hz : (nLabs.zip bs)[i]? = some (nLabs[i]'(by omega), bs[i]'(by omega)) := by
      rw [List.getElem?_zip_eq_some]
      exact ⟨List.getElem?_eq_getElem (by omega), List.getElem?_eq_getElem (by omega)⟩
    have tk : (nLabs.zip bs).take (i + 1) = (nLabs.zip bs).take i ++ [(nLabs[i]'(by omega), bs[i]'(by omega))] := by
      rw [List.take_succ, hz]
      rfl
    refine ⟨T, [.str (nLabs[i]'(by omega)), .bl (bs[i]'(by omega))], rfl, .inl (.inl upd_same), rfl, _, _, rfl, _, _, rfl, rfl, rfl, .bl (bs[i]'(by omega)), rfl, bs[i]'(by omega), rfl, ?_⟩
    have nT : ∀ c u, H' c = some u → upd H' T (.tup [.str (nLabs[i]'(by omega)), .bl (bs[i]'(by omega))]) c = some u := fun c u e => by rw [upd_ne (ne_of_none e hT)]; exact e
    cases hbi : bs[i]'(by omega) with
    | false =>
      show P (i + 1) _
      rw [hbi] at nT
      refine ⟨nT _ _ p1, nT _ _ p2, fun c u e => nT _ _ (p3 c u e), ?_⟩
      rw [nT _ _ p4, tk, List.filter_append, hbi]
      simp
    | true =>
      dsimp only
      rw [if_pos rfl]
      rw [hbi] at nT
      refine ⟨.str (nLabs[i]'(by omega)), rfl, _, nT _ _ p4, ?_, ?_⟩
      · rw [List.length_map, List.length_map, sizeLine_eq]
        have h1 := List.length_filter_le (fun x : Str × Bool => x.2) ((nLabs.zip bs).take i)
        have h2 : ((nLabs.zip bs).take i).length ≤ i := List.length_take_le _ _
        omega
      · have keep : ∀ c u, H' c = some u → c ≠ Dl → upd (upd H' T (.tup [.str (nLabs[i]'(by omega)), .bl true])) Dl (.lst (((((nLabs.zip bs).take i).filter (·.2)).map (·.1)).map V.str ++ [.str (nLabs[i]'(by omega))])) c = some u := fun c u e hc => by
          rw [upd_ne hc]
          exact nT c u e
        refine ⟨keep _ _ p1 lD, keep _ _ p2 aD, fun c u e => keep _ _ (p3 c u e) (ne_of_none e D0), ?_⟩
        rw [upd_same, tk, List.filter_append, hbi]
        simp
  · have hi16 : i = 16 := by omega
    subst hi16
    refine .inl ⟨⟨_, _, SqL.of p1, SqL.of p2, by rw [List.length_map]; omega, by rw [List.length_map]; omega, .inl (by rw [List.length_map]; omega)⟩, k Dl H' p3 ?_⟩
    rw [p4, List.take_of_length_le (by rw [List.length_zip]; omega)]
    rfl
theorem ps_nret (n : NC X p D b) (h1 : ((q 95).endLine == (q 109).line) = true) (h2 : ((q 102).endLine == (q 104).line) = true) : PS X (nRet q)
    (fun E σ H => ∃ H0 bs, nAt p H0 bs (some (.str nLab)) σ H ∧ bs.length = 16 ∧ ∀ H', hx H0 H' → E.rt (.str (Txt.join (Str.ofString " ") (nTold bs))) H') := by
  have h := ps_ret (pos := q 110) (pe_join (apos := q 95) (pos := q 109) (pe_str (x := " ") (j := 0) (pos := q 94)) (pe_lcN n h2) (by rfl) (by rfl) h1)
  refine ⟨fun pins s σ H E I ⟨H0, bs, hn, hb, k⟩ => h.run pins s σ H E I ?_⟩
  exact ⟨⟨_, rfl⟩, H0, bs, hn, hb, fun Dl H' h3 h4 => ⟨Str.ofString " ", Dl, nTold bs, rfl, rfl, .inl (SqL.of h4), told_len bs, k H' h3⟩⟩
end
end DH
end

section
set_option Elab.async false
set_option linter.all false
set_option maxRecDepth 100000
set_option maxHeartbeats 2000000
set_option autoImplicit false
namespace DH
open PySem PySem.Spec PyProof.Rows L2 HotX L2H
theorem pss_weak {X : Cx} {ss : List Stmt} {t u : TS} (h : PSs X ss t) (i : ∀ E σ H, u E σ H → t E σ H) : PSs X ss u := ⟨fun pins s σ H E I hw => h.run pins s σ H E I (i E σ H hw)⟩
/-- the lines of the methods' calls -/
structure NLn (q : Nat → Pos) : Prop where
  a : ((q 84).endLine == (q 89).line) = true
  b : ((q 95).endLine == (q 109).line) = true
  c : ((q 102).endLine == (q 104).line) = true
def nZ (b : Str → Bool) : Str := Txt.join (Str.ofString " ") (nTold (nCls.map b ++ [true]))
section
variable {X : Cx} {p : Addr × Obj} {D : Addr} {b : Str → Bool} {q : Nat → Pos}
theorem pss_names (n : NC X p D b) (hq : NLn q) : PSs X (nBody q) (fun E σ H => σ = [some (.ref p.1), none, none, none, none] ∧ ∀ H', hx H H' → E.rt (.str (nZ b)) H') := by
  have m : ∀ c, nCls.contains c = true → c ∈ nCls := fun c h => List.contains_iff_mem.mp h
  refine pss_weak (pss_cons (ps_first n) (pss_cons (ps_add n (m _ (by decide +kernel)) (m _ (by decide +kernel)) (m _ (by decide +kernel))) (pss_cons (ps_add n (m _ (by decide +kernel)) (m _ (by decide +kernel)) (m _ (by decide +kernel))) (pss_cons (ps_add n (m _ (by decide +kernel)) (m _ (by decide +kernel)) (m _ (by decide +kernel)))
    (pss_cons (ps_add n (m _ (by decide +kernel)) (m _ (by decide +kernel)) (m _ (by decide +kernel))) (pss_cons (ps_app n hq.a) (pss_cons (ps_lab n) (pss_one (ps_nret n hq.b hq.c))))))))) fun E σ H ⟨es, k⟩ => ?_
  refine ⟨H, rfl, es, fun σ1 H1 h1 => ⟨H, _, h1, by simp, fun σ2 H2 h2 => ⟨H, _, h2, by simp, fun σ3 H3 h3 => ⟨H, _, h3, by simp, fun σ4 H4 h4 => ⟨H, _, h4, by simp, fun σ5 H5 h5 => ⟨H, _, h5, by simp, fun σ6 H6 h6 => ⟨H, _, h6, fun σ7 H7 h7 => ⟨H, _, h7, by simp, fun H' h' => ?_⟩⟩⟩⟩⟩⟩⟩⟩
  exact k H' h'
end
/-- the classes, as the fragment says -/
structure NK (K : PySem.W.Frag) (mg : Str → Option Value) (D : Addr) (b : Str → Bool) : Prop where
  ex : ExcC K D
  mi : mg "isinstance" = none
  mz : mg "zip" = none
  mv : mg "ValueError" = none
  cls : ∀ c ∈ nCls, ∃ C, mg c = some (.ref C) ∧ PySem.W.kitOne K (.ref D) (.ref C) = some (b c)
  val : PySem.W.kitOne K (.ref D) (.type "ValueError") = some true
section
variable {P : Program} {w : World} {K : PySem.W.Frag} {mg : Str → Option Value} {base : Heap}
/-- its promise -/
def nSp (p : Addr × Obj) (b : Str → Bool) : Sp := fun vs H Q _ => vs = [.ref p.1] ∧ ∀ H', hx H H' → Q (.str (nZ b)) H'
theorem fn_names {p : Addr × Obj} {D fn : Addr} {b : Str → Bool} {q : Nat → Pos} {x : Str} {params : Arguments} {scope : Scope} {dV kV doc pm cdv ct oc : Value} {an od : Option Addr} {osl : Array (Option Value)} (nk : NK K mg D b) (hz : Zc (.ref D) none p.2) (hf : ∃ vs, p.2.data = .fields vs)
    (lk : K.lookup fn = some ⟨oc, od, .func (PySem.W.fnOf x x params (nBody q) scope dV kV doc pm an cdv ct), osl⟩) (hcd : PySem.W.codeIn K cdv x = true) (S : FnScope nN ["_law_error"] scope) (hsc : nSc scope = true) (hbl : blkC nN scope nCs [("_law_label", 3), ("_law_good", 4)] = true) (hq : NLn q) :
    FnP P w K mg base C8.CX0 p 1 fn (PySem.W.fnOf x x params (nBody q) scope dV kV doc pm an cdv ct) ["_law_error"] (nSp p b) := by
  refine fn_ofP lk hcd S (fun vs H Q E h => by rw [h.1]; rfl) fun A outer s H vs Q E hot h => ?_
  have n : NC (cxH C8.CX0 P w K mg base nN x scope fn cdv A outer s H E p) p D b := ⟨rfl, hsc, blkOk_by hbl, hot, by show p ∈ [p]; simp, nk.ex, hz, hf, nk.mi, nk.mz, nk.mv, nk.cls, nk.val, fun _ => rfl⟩
  refine ⟨_, pss_names n hq, ?_, h.2⟩
  rw [h.1]
  rfl
theorem takes_len {X : Cx} {W : WX} (t : L2N.Takes X W) : L2N.Takes X (fun c d σ H => σ.length = X.N.length → W c d σ H) :=
  fun u s' ⟨a, B, sI, pins, σ, H, cls, d, e, I, nb, up, sky, na, os, ag, wh⟩ => t u s' ⟨a, B, sI, pins, σ, H, cls, d, e, I, nb, up, sky, na, os, ag, wh I.len⟩
/-- try: a() / except StripError as _law_error: return names(_law_error) -/
def wSuite (xn : Str) (q : Nat → Pos) : List ExceptHandler := [.ExceptHandler (some (.Name "StripError" (q 0))) (some "_law_error") [.Return (some (.Call (.Name xn (q 1)) [.Name "_law_error" (q 2)] [] (q 3))) (q 4)] (q 5)]
/-- what the suite makes of an error -/
def wTs (fa : DE.Fa) (wd : Nat → Option Str) : Addr → Value → Option Addr → TS := fun a cls d E σ H => ∃ k z, cls = .ref (fa k) ∧ d = none ∧ wd k = some z ∧ σ[1]? = some (some (.ref a)) ∧ ∀ H', hx H H' → E.rt (.str z) H'
theorem suite_ok {Z : Cx} {fa : DE.Fa} {wd : Nat → Option Str} {fn : Addr} {q qn : Nat → Pos} {xn : Str} {params : Arguments} {scope : Scope} {dV kV doc pm cdv ct oc : Value} {an od : Option Addr} {osl : Array (Option Value)}
    (hw : ∀ k z, wd k = some z → ∃ b, NK Z.K Z.mg (fa k) b ∧ z = nZ b)
    (lk : Z.K.lookup fn = some ⟨oc, od, .func (PySem.W.fnOf xn xn params (nBody qn) scope dV kV doc pm an cdv ct), osl⟩) (hcd : PySem.W.codeIn Z.K cdv xn = true) (S : FnScope nN ["_law_error"] scope) (hsc : nSc scope = true) (hbl : blkC nN scope nCs [("_law_label", 3), ("_law_good", 4)] = true) (hq : NLn qn)
    (hm : Z.mg xn = some (.ref fn)) (hk : PySem.W.keepIn Z.K (.ref fn) = true) (hb : Binds Z.K (PySem.W.fnOf xn xn params (nBody qn) scope dV kV doc pm an cdv ct) ["_law_error"] []) (hg : Gl Z xn) (hxn : (xn == ("__debug__" : Str)) = false) (hr : Room 1 Z.A)
    (hN : Z.N[1]? = some ("_law_error" : Str)) (hv : Vis Z.env.scope "_law_error")
    (a : Addr) (oe : Obj) (cls : Value) (d : Option Addr) (pn : List (Addr × Obj)) (hz : L2N.Zn cls d oe) (hf : ∃ vs, oe.data = .fields vs) :
    PSs (Z.suite a ((a, oe) :: pn)) [.Return (some (.Call (.Name xn (q 1)) [.Name "_law_error" (q 2)] [] (q 3))) (q 4)] (wTs fa wd a cls d) := by
  refine ⟨fun pins s σ H E I ⟨k, z, hcls, hd, hwd, hs, hq2⟩ => ?_⟩
  obtain ⟨b, nk, hzb⟩ := hw k z hwd
  subst hcls hd
  have hot : Hot1 (Z.suite a ((a, oe) :: pn)).A (a, oe) := by
    obtain ⟨vs, e⟩ := hf
    exact ⟨rfl, vs, e, hz.2.2 vs e⟩
  have F := fn_names (P := Z.prog) (w := Z.w) (base := Z.base) (p := (a, oe)) (x := xn) nk hz.zc hf lk hcd S hsc hbl hq
  have pc := pe_callP (X := Z.suite a ((a, oe) :: pn)) (E := fun _ => C8.E0) (q := q 1) (pos := q 3) F ⟨hr.dp, hr.un⟩ hot (by simp) hg hm hk hb (fun σ pins H s e s' I c => c.elim) (pa_cons (pe_var (pos := q 2) hN hv (by decide +kernel) (by decide +kernel)) pa_nil) hxn
  exact (pss_one (ps_ret (pos := q 4) pc)).run pins s σ H E I ⟨.ref a, hs, rfl, fun H' h' => by rw [← hzb]; exact hq2 H' h'⟩
/-- what the word's def makes of the lambda, at a later heap too -/
theorem word_gives {X : Cx} {fa : DE.Fa} {wd : Nat → Option Str} {get : Bool} {g fn CS : Addr} {q qn : Nat → Pos} {x xn a ql : Str} {sg : Scope} {cdg : Value} {params : Arguments} {scope : Scope} {dV kV doc pm cdv ct oc : Value} {an od : Option Addr} {osl : Array (Option Value)} {Ng : List Str} {body : List Stmt}
    (hbody : body = if get then [.Try [.Return (some (.Call (.Name a (q 6)) [] [] (q 7))) (q 8)] (wSuite xn q) [] [] (q 9)] else [.Try [.Expr (.Call (.Name a (q 6)) [] [] (q 7)) (q 8)] (wSuite xn q) [] [] (q 9), .Return (some (.Constant (.str "") 0 (q 10))) (q 11)])
    (hw : ∀ k z, wd k = some z → (∃ b, NK X.K X.mg (fa k) b ∧ z = nZ b) ∧ PySem.W.exmOne X.K (.ref (fa k)) (.ref CS) = some true)
    (lk : X.K.lookup fn = some ⟨oc, od, .func (PySem.W.fnOf xn xn params (nBody qn) scope dV kV doc pm an cdv ct), osl⟩) (hcd : PySem.W.codeIn X.K cdv xn = true) (S : FnScope nN ["_law_error"] scope) (hsc : nSc scope = true) (hbl : blkC nN scope nCs [("_law_label", 3), ("_law_good", 4)] = true) (hq : NLn qn)
    (hm : X.mg xn = some (.ref fn)) (hk : PySem.W.keepIn X.K (.ref fn) = true) (hb : Binds X.K (PySem.W.fnOf xn xn params (nBody qn) scope dV kV doc pm an cdv ct) ["_law_error"] []) (hxn : (xn == ("__debug__" : Str)) = false)
    (hN : Ng = [a, "_law_error"]) (hnd : Ng.Nodup) (hv : sg.names.lookup ("_law_error" : Str) = some .local) (hg : sg.names.lookup xn = some .globalImplicit) (hcs : sg.names.lookup ("StripError" : Str) = some .globalImplicit) (hmc : X.mg "StripError" = some (.ref CS)) :
    DL.GivesTo X Ng x sg g cdg body a ql (DE.TTw fa get wd) := by
  intro f c' s H Q tl hr act hc h
  have htry := fun (tb : WX → TS) (b1 : Stmt) (hbb : ∀ (W : WX) (pn : List (Addr × Obj)) (xe : Value → Shared → Prop), L2N.Takes ((cxOf C8.CX0 X.prog X.w X.K X.mg X.base Ng x sg g cdg X.A X.stack s H C8.E0).nox.tr pn xe) W → PassesOwn (model X.prog X.w) (cxOf C8.CX0 X.prog X.w X.K X.mg X.base Ng x sg g cdg X.A X.stack s H C8.E0).nox.A (cxOf C8.CX0 X.prog X.w X.K X.mg X.base Ng x sg g cdg X.A X.stack s H C8.E0).nox.env xe → PSs ((cxOf C8.CX0 X.prog X.w X.K X.mg X.base Ng x sg g cdg X.A X.stack s H C8.E0).nox.tr pn xe) [b1] (tb W)) =>
    L2N.ps_try_as (X := (cxOf C8.CX0 X.prog X.w X.K X.mg X.base Ng x sg g cdg X.A X.stack s H C8.E0).nox) (n := "_law_error") (i := 1) (c := .ref CS) (x := "StripError") (np := q 0) (pos' := q 5) (pos := q 9) (Wout := fun _ _ _ _ => False) (body := [b1]) (tb := tb) (ts := wTs fa wd)
      (b₀ := .Return (some (.Call (.Name xn (q 1)) [.Name "_law_error" (q 2)] [] (q 3))) (q 4)) (suite := []) rfl rfl hnd (by show Ng[1]? = _; rw [hN]; rfl) hv ⟨hcs, by decide +kernel, .inl hmc⟩ DL.takes0 hbb
      (fun a oe cls d pn hz hf => suite_ok (Z := (cxOf C8.CX0 X.prog X.w X.K X.mg X.base Ng x sg g cdg X.A X.stack s H C8.E0).nox) (q := q) (fun k z e => (hw k z e).1) lk hcd S hsc hbl hq hm hk hb hg hxn hr (by show Ng[1]? = _; rw [hN]; rfl) (.inl hv) a oe cls d pn hz hf)
  have h0 : (L2.start Ng [V.ref f])[0]? = some (some (V.ref f)) := rfl
  -- an error is told
  have told : ∀ (D : Ends), D.rt = Q → ∀ (cls : Value) (d : Option Addr) (σ' : L2.St) (H' : Hp), (∃ k z, cls = .ref (fa k) ∧ d = none ∧ wd k = some z ∧ ∀ H'', hx H' H'' → Q (.str z) H'') → σ'.length = Ng.length → wAs X.K (.ref CS) 1 (wTs fa wd) (fun _ _ _ _ => False) D cls d σ' H' := by
    rintro D hD cls d σ' H' ⟨k, z, rfl, rfl, hz, hQ⟩ hl
    refine ⟨true, (hw k z hz).2, fun _ a _ => ⟨k, z, rfl, rfl, hz, ?_, fun H'' h'' => by rw [hD]; exact hQ H'' h''⟩, fun q => by cases q⟩
    rw [List.getElem?_set_self (by rw [hl, hN]; simp)]
  cases get with
  | true =>
    subst hbody
    rw [if_pos rfl]
    refine ⟨_, pss_one (htry (fun W D σ H => ∃ Ech : XK, (∀ cls d σ' H', Ech cls d H' → σ'.length = Ng.length → W cls d σ' H') ∧ σ[0]? = some (some (.ref f)) ∧ H c' = some (LamX.CodeO c' ql) ∧ tl Ech H D.rt) (.Return (some (.Call (.Name a (q 6)) [] [] (q 7))) (q 8)) (fun W pn xe tk _ => ⟨fun pins s' σ H' D I ⟨Ech, hW, h1, h2, h3⟩ => ?_⟩)), ?_⟩
    · exact (pss_one (ps_ret (pos := q 8) (act _ pn xe Ech (q 6) (q 7) (takes_len tk) fun cls d σ' H' e hl => hW cls d σ' H' e hl))).run pins s' σ H' D I ⟨h1, h2, h3⟩
    · exact ⟨_, fun cls d σ' H' e hl => told _ rfl cls d σ' H' e hl, h0, hc, h⟩
  | false =>
    subst hbody
    rw [if_neg Bool.false_ne_true]
    refine ⟨_, pss_cons (htry (fun W D σ H => ∃ Ech : XK, (∀ cls d σ' H', Ech cls d H' → σ'.length = Ng.length → W cls d σ' H') ∧ σ[0]? = some (some (.ref f)) ∧ H c' = some (LamX.CodeO c' ql) ∧ tl Ech H fun _ H1 => D.nx σ H1) (.Expr (.Call (.Name a (q 6)) [] [] (q 7)) (q 8)) (fun W pn xe tk _ => ⟨fun pins s' σ H' D I ⟨Ech, hW, h1, h2, h3⟩ => ?_⟩)) (pss_one (ps_ret (pos := q 11) (pe_str (x := "") (j := 0) (pos := q 10)))), ?_⟩
    · exact (pss_one (ps_expr (pos := q 8) (act _ pn xe Ech (q 6) (q 7) (takes_len tk) fun cls d σ' H' e hl => hW cls d σ' H' e hl) (by rfl))).run pins s' σ H' D I ⟨h1, h2, h3⟩
    · exact ⟨_, fun cls d σ' H' e hl => told _ rfl cls d σ' H' e hl, h0, hc, h⟩
end
end DH
end

section
set_option Elab.async false
set_option linter.all false
set_option maxRecDepth 100000
set_option maxHeartbeats 2000000
set_option autoImplicit false
namespace DH
open PySem PySem.Spec PyProof.Rows L2 HotX L2H
def excB (K : PySem.W.Frag) (D : Addr) : Bool :=
  decide (PySem.W.findIn K (.ref D) "__getattribute__" = some (some (.builtin "BaseException.__getattribute__"))) && decide (PySem.W.findIn K (.ref D) "__getattr__" = some none) && decide (PySem.W.subIn K (.ref D) (.type "BaseException") = some true) && PySem.W.hasDictIn K D &&
  decide (PySem.W.findIn K (.ref D) "__class__" = some (some (.builtin "object.__class__"))) && decide (PySem.W.specialIn K (.builtin "object.__class__") "__get__" = some (some (.builtin "getset_descriptor.__get__"))) && decide (PySem.W.takesIn K (.builtin "object.__class__") = some true) && decide (PySem.W.mroIn K D (.type "object") = some true)
theorem excB_ok {K : PySem.W.Frag} {D : Addr} (h : excB K D = true) : ExcC K D := by
  unfold excB at h
  simp only [Bool.and_eq_true, decide_eq_true_eq] at h
  obtain ⟨⟨⟨⟨⟨⟨⟨h1, h2⟩, h3⟩, h4⟩, h5⟩, h6⟩, h7⟩, h8⟩ := h
  exact ⟨h1, h2, h3, h4, h5, h6, h7, h8⟩
def nkB (K : PySem.W.Frag) (x : Str) : Bool := excB K (He.ga K x) && (nCls.all fun c => decide (PySem.W.kitOne K (.ref (He.ga K x)) (.ref (He.ga K c)) = some (x == c))) && decide (PySem.W.kitOne K (.ref (He.ga K x)) (.type "ValueError") = some true)
theorem nkB_ok {K : PySem.W.Frag} {x : Str} {mg : Str → Option Value} (h : nkB K x = true) (h1 : mg "isinstance" = none) (h2 : mg "zip" = none) (h3 : mg "ValueError" = none) (hc : ∀ c ∈ nCls, mg c = some (.ref (He.ga K c))) : NK K mg (He.ga K x) (fun c => x == c) := by
  unfold nkB at h
  rw [Bool.and_eq_true, Bool.and_eq_true] at h
  exact ⟨excB_ok h.1.1, h1, h2, h3, fun c hm => ⟨_, hc c hm, of_decide_eq_true (p := PySem.W.kitOne K (.ref (He.ga K x)) (.ref (He.ga K c)) = some (x == c)) (List.all_eq_true.mp h.1.2 c hm)⟩, of_decide_eq_true h.2⟩
def wBody (get : Bool) (q : Nat → Pos) (a xn : Str) : List Stmt := if get then [.Try [.Return (some (.Call (.Name a (q 6)) [] [] (q 7))) (q 8)] (wSuite xn q) [] [] (q 9)] else [.Try [.Expr (.Call (.Name a (q 6)) [] [] (q 7)) (q 8)] (wSuite xn q) [] [] (q 9), .Return (some (.Constant (.str "") 0 (q 10))) (q 11)]
def nlnB (q : Nat → Pos) : Bool := ((q 84).endLine == (q 89).line) && ((q 95).endLine == (q 109).line) && ((q 102).endLine == (q 104).line)
theorem nln_of {q : Nat → Pos} (h : nlnB q = true) : NLn q := by
  unfold nlnB at h
  rw [Bool.and_eq_true, Bool.and_eq_true] at h
  exact ⟨h.1.1, h.1.2, h.2⟩
theorem word_ok {P : Program} {w : World} {K : PySem.W.Frag} {mg : Str → Option Value} {base : Heap} {fa : DE.Fa} {x xn a : Str} {get : Bool} {wd : Nat → Option Str} {g fn CS : Addr} {q qn : Nat → Pos} {pg pn : Arguments} {sg scope : Scope} {fdw fdn : FuncData}
    (Fw : FunD K x x pg (wBody get q a xn) sg [] [] g fdw) (hmw : mg x = some (.ref g)) (Bw : Binds K fdw [a] []) (Sw : FnScope [a, "_law_error"] [a] sg)
    (Fn : FunD K xn xn pn (nBody qn) scope [] [] fn fdn) (hmn : mg xn = some (.ref fn)) (Bn : Binds K fdn ["_law_error"] []) (Sn : FnScope nN ["_law_error"] scope)
    (hsc : nSc scope = true) (hbl : blkC nN scope nCs [("_law_label", 3), ("_law_good", 4)] = true) (hq : nlnB qn = true) (hxn : (xn == ("__debug__" : Str)) = false)
    (hva : sg.names.lookup a = some .local) (hda : (a == ("__debug__" : Str)) = false) (hca : (a == ("__classdict__" : Str)) = false)
    (hv : sg.names.lookup ("_law_error" : Str) = some .local) (hg : sg.names.lookup xn = some .globalImplicit) (hcs : sg.names.lookup ("StripError" : Str) = some .globalImplicit) (hmc : mg "StripError" = some (.ref CS))
    (hw : ∀ k z, wd k = some z → (∃ b, NK K mg (fa k) b ∧ z = nZ b) ∧ PySem.W.exmOne K (.ref (fa k)) (.ref CS) = some true) :
    ∃ pg bg sg dV kV doc pm cdv ct oc an od osl Ng a g, DE.WordOk P w K mg base fa x get wd pg bg sg dV kV doc pm cdv ct oc an od osl Ng a g := by
  obtain ⟨oc, od, dV, kV, doc, pm, an, cdv, ct, osl, rfl, lk, hcd, _, _⟩ := Fw.ex
  obtain ⟨oc2, od2, dV2, kV2, doc2, pm2, an2, cdv2, ct2, osl2, rfl, lk2, hcd2, _, _⟩ := Fn.ex
  refine ⟨pg, _, sg, dV, kV, doc, pm, cdv, ct, oc, an, od, osl, [a, "_law_error"], a, g, ⟨hmw, Fw.kp, lk, hcd, Bw, Sw, rfl, .inl hva, hda, hca, fun X ql e1 e2 e3 e4 e5 => ?_⟩⟩
  subst e1 e2 e3 e4 e5
  exact word_gives (qn := qn) (q := q) (fn := fn) (CS := CS) (xn := xn) rfl hw lk2 hcd2 Sn hsc hbl (nln_of hq) hmn Fn.kp Bn hxn rfl Sw.nd hv hg hcs hmc
end DH
end

section
set_option Elab.async false
set_option linter.all false
set_option maxRecDepth 100000
set_option maxHeartbeats 2000000
set_option autoImplicit false
namespace DX
open PySem PySem.Spec PyProof.Rows L2 NdefX
theorem a2 {a b : Bool} (h : (a && b) = true) : a = true ∧ b = true := Bool.and_eq_true_iff.mp h
def oexB (K : PySem.W.Frag) (C : Addr) : Bool := (match K.lookup C with
  | some ⟨.type t, _, .cls cd, sl⟩ => (match cd.mro, sl.toList with
    | .ref C' :: bm, [_, _, _, _, some (.builtin n), _] => decide (t = "type") && (decide (C' = C) && (decide (n = "ValueError.__new__") && (!cd.hasDel && (cd.hasDict && PySem.HandSPX.refsVE bm))))
    | _, _ => false)
  | _ => false) && (decide (PySem.W.findIn K (.ref C) "__setattr__" = some (some (.builtin "object.__setattr__"))) && (decide (PySem.W.subIn K (.ref C) (.type "BaseException") = some true) && (decide (PySem.W.typeIn K (.ref C) = some (.type "type")) && PySem.W.keepIn K (.ref C))))
theorem oexB_ok {K : PySem.W.Frag} {C : Addr} (h : oexB K C = true) : OexC K C := by
  obtain ⟨h1, h⟩ := a2 h
  obtain ⟨h2, h⟩ := a2 h
  obtain ⟨h3, h⟩ := a2 h
  obtain ⟨h4, h5⟩ := a2 h
  refine ⟨?_, of_decide_eq_true h2, of_decide_eq_true h3, of_decide_eq_true h4, h5⟩
  split at h1
  · rename_i t dd cd sl ho
    split at h1
    · rename_i C' bm k0 k1 k2 k3 n k5 hm hs
      obtain ⟨g1, h1⟩ := a2 h1
      obtain ⟨g2, h1⟩ := a2 h1
      obtain ⟨g3, h1⟩ := a2 h1
      obtain ⟨g4, h1⟩ := a2 h1
      obtain ⟨g5, g6⟩ := a2 h1
      have y1 := of_decide_eq_true g1
      have y2 := of_decide_eq_true g2
      have y3 := of_decide_eq_true g3
      clear g1 g2 g3
      subst y1 y2 y3
      obtain ⟨nm, bs, mro, ns, qn, hd, sn, sub, ab, col, del⟩ := cd
      dsimp only at hm g4 g5
      simp only [Bool.not_eq_true'] at g4
      subst hm g4 g5
      have hsl : sl = #[k0, k1, k2, k3, some (.builtin "ValueError.__new__"), k5] := by
        obtain ⟨l⟩ := sl
        simp only at hs
        rw [hs]
      subst hsl
      exact ⟨nm, qn, ns, bs, bm, sn, sub, ab, col, dd, k0, k1, k2, k3, k5, ho, g6⟩
    · cases h1
  · cases h1
def cellB (K : PySem.W.Frag) (cc C : Addr) : Bool := match K.lookup cc with
  | some ⟨_, _, .cell (some (.ref D)), _⟩ => decide (D = C)
  | _ => false
def fileB (file : Str) (K : PySem.W.Frag) (c : Addr) : Bool := match K.lookup c with
  | some ⟨_, _, .fields vs, _⟩ => match (vs[2]? : Option Value) with
    | some (.str f _) => file == f
    | _ => false
  | _ => false
/-- the __init__'s own text: super().__init__(text); self.f = x -/
def bodyB (fld sf x : Str) (sc : Scope) : List Stmt → Bool
  | [.Expr (.Call (.Attribute (.Call (.Name s _) [] [] _) i p2) [.Constant (.str _) _ _] [] p4) _, .Assign [.Attribute (.Name sf2 _) f _] (.Name x2 _) _] =>
    decide (s = "super") && (decide (i = "__init__") && (decide (sf2 = sf) && (decide (f = fld) && (decide (x2 = x) && ((p2.endLine == p4.line) && (nscB [sf, x, "__class__"] [sf, x] ["__class__"] sc && (decide (sc.names.lookup ("super" : Str) = some .globalImplicit) &&
      (!(sf == ("__debug__" : Str)) && (!(sf == ("__classdict__" : Str)) && (!(x == ("__debug__" : Str)) && !(x == ("__classdict__" : Str))))))))))))
  | _ => false
def parB (sf x : Str) (p : Arguments) : Bool := match p with
  | ⟨[], [⟨a, _, _⟩, ⟨b, _, _⟩], none, [], [], none, []⟩ => (decide (a = sf) && decide (b = x)) && (decide (sf = "self") && (decide (x = "limit") || decide (x = "place")))
  | _ => false
def funB (file fld : Str) (K : PySem.W.Frag) (C : Addr) (fd : FuncData) : Bool := match fd.body, fd.closure, fd.code, fd.params.args, fd.defaults with
  | .stmts b, [(k, cc)], .ref c, [⟨sf, _, _⟩, ⟨x, _, _⟩], .none => parB sf x fd.params && (decide (k = "__class__") && (cellB K cc C && (fileB file K c && (PySem.W.codeIn K fd.code fd.qualname && (bodyB fld sf x fd.scope b && (decide (fd.globals = mainGlobals) && decide (fd.builtins = builtinsNs)))))))
  | _, _, _, _, _ => false
def initB (file fld : Str) (K : PySem.W.Frag) (C : Addr) : Bool := match PySem.W.findIn K (.ref C) "__init__" with
  | some (some (.ref f)) => (match K.lookup f with
    | some ⟨_, _, .func fd, _⟩ => funB file fld K C fd && decide (PySem.W.typeIn K (.ref f) = some (.type "function"))
    | _ => false)
  | _ => false
def supB (K : PySem.W.Frag) (C : Addr) (fld : Str) : Bool := oexB K C && (decide (PySem.W.ks_superIn K C C "__init__" = some (some (.builtin "ValueError.__init__"))) && (decide (PySem.W.mroIn K C (.ref C) = some true) && (decide (PySem.W.subIn K (.ref C) (.type "ValueError") = some true) && (decide (PySem.W.nsIn K cStatics "thirdparty.any" = some none) && decide (PySem.W.findIn K (.ref C) fld = some none)))))
theorem init_ok {P : Program} {w : World} {K : PySem.W.Frag} {mg : Str → Option Value} {base : Heap} {C : Addr} {fld : Str} {CX : CXT} (hs : supB K C fld = true) (hi : initB P.main.file fld K C = true) (ms : mg "super" = none) (top : (P.main.scope.names.lookup ("super" : Str)).isSome = false) :
    ∃ fI fd ps, OexC K C ∧ PySem.W.findIn K (.ref C) "__init__" = some (some (.ref fI)) ∧ PySem.W.typeIn K (.ref fI) = some (.type "function") ∧ FnOk P w K mg base CX 1 fI fd ps (spInit C fld) ∧ Binds K fd ps [] := by
  obtain ⟨h1, hs⟩ := a2 hs
  obtain ⟨h2, hs⟩ := a2 hs
  obtain ⟨h3, hs⟩ := a2 hs
  obtain ⟨h4, hs⟩ := a2 hs
  obtain ⟨h5, h6⟩ := a2 hs
  have T := oexB_ok h1
  unfold initB at hi
  split at hi
  · rename_i f hf
    split at hi
    · rename_i oc od fd osl lk
      obtain ⟨g1, g2⟩ := a2 hi
      unfold funB at g1
      split at g1
      · rename_i b k cc c sf a1 p1 x a2' p2 hb hcl hcd hpa hdf
        obtain ⟨e1, g1⟩ := a2 g1
        obtain ⟨e2, g1⟩ := a2 g1
        obtain ⟨e3, g1⟩ := a2 g1
        obtain ⟨e4, g1⟩ := a2 g1
        obtain ⟨e5, g1⟩ := a2 g1
        obtain ⟨e6, g1⟩ := a2 g1
        obtain ⟨e7, e8⟩ := a2 g1
        obtain ⟨name, qual, params, body, scope, gl, cl, dV, kV, doc, pm, an, cdv, ct, blt⟩ := fd
        dsimp only at hb hcl hcd hpa hdf e1 e5 e6 e7 e8
        have y7 := of_decide_eq_true e7
        have y8 := of_decide_eq_true e8
        have y2 := of_decide_eq_true e2
        clear e7 e8 e2
        subst hb hcl hcd hdf y7 y8 y2
        unfold parB at e1
        split at e1
        · rename_i a q1 q2 b' q3 q4
          cases hpa
          obtain ⟨_, e9⟩ := a2 e1
          obtain ⟨e11, e10⟩ := a2 e9
          clear e9
          unfold cellB at e3
          split at e3
          · rename_i ccl cdd D ccs hc
            have y3 := of_decide_eq_true e3
            clear e3
            subst y3
            unfold fileB at e4
            split at e4
            · rename_i ccl2 cdd2 vs2 ccs2 hcode
              split at e4
              · rename_i file tf hvs
                unfold bodyB at e6
                split at e6
                · rename_i s r0 r1 i r2 z q r3 r4 r5 sf2 r6 fl r7 x2 r8 r9
                  obtain ⟨b1, e6⟩ := a2 e6
                  obtain ⟨b2, e6⟩ := a2 e6
                  obtain ⟨b3, e6⟩ := a2 e6
                  obtain ⟨b4, e6⟩ := a2 e6
                  obtain ⟨b5, e6⟩ := a2 e6
                  obtain ⟨b6, e6⟩ := a2 e6
                  obtain ⟨b7, e6⟩ := a2 e6
                  obtain ⟨b8, e6⟩ := a2 e6
                  obtain ⟨b9, e6⟩ := a2 e6
                  obtain ⟨b10, e6⟩ := a2 e6
                  obtain ⟨b11, b12⟩ := a2 e6
                  have z1 := of_decide_eq_true b1
                  have z2 := of_decide_eq_true b2
                  have z3 := of_decide_eq_true b3
                  have z4 := of_decide_eq_true b4
                  have z5 := of_decide_eq_true b5
                  clear b1 b2 b3 b4 b5
                  subst z1 z2 z3 z4 z5
                  simp only [Bool.not_eq_true'] at b9 b10 b11 b12
                  refine ⟨f, _, [_, _], T, hf, of_decide_eq_true g2, fn_init (k := 0) (f := f) (cc := cc) (c := c) (p := fun n => match n with | 0 => r0 | 1 => r1 | 2 => r2 | 3 => r3 | 4 => r4 | 5 => r5 | 6 => r6 | 7 => r7 | 8 => r8 | _ => r9) lk e5 (nscope_by b7) rfl hc
                    ⟨T, of_decide_eq_true h2, of_decide_eq_true h3, of_decide_eq_true h4, of_decide_eq_true h5, of_decide_eq_true h6, ms, ⟨_, _, _, _, _, _, hcode, hvs, e4⟩, top⟩ (of_decide_eq_true b8) b6 ⟨b9, b10, b11, b12⟩, ?_⟩
                  have y9 := of_decide_eq_true e11
                  rw [y9]
                  rcases Bool.or_eq_true_iff.mp e10 with h | h
                  · rw [of_decide_eq_true h]
                    exact Binds.all fun us hl => match us, hl with
                      | [_, _], _ => rfl
                  · rw [of_decide_eq_true h]
                    exact Binds.all fun us hl => match us, hl with
                      | [_, _], _ => rfl
                · cases e6
              · cases e4
            · cases e4
          · cases e3
        · cases e1
      · cases g1
    · cases hi
  · cases hi
end DX
end

section
set_option Elab.async false
set_option linter.all false
set_option maxRecDepth 100000
set_option maxHeartbeats 2000000
set_option autoImplicit false
namespace HK
open PySem PySem.Spec PyProof.Rows L2
/-- the name spaces of the classes among some addresses -/
def nsOf (g : Addr → Option Obj) (l : List Addr) : List Addr := l.filterMap fun a => match g a with
  | some ⟨_, _, .cls cd, _⟩ => some cd.ns
  | _ => none
/-- what some addresses name -/
def nxt (g : Addr → Option Obj) (l : List Addr) : List Addr := l.flatMap fun a => match g a with
  | some o => He.refsD o
  | none => []
/-- the module's names in two steps; of its classes the methods, their code, their cells -/
def pick (g : Addr → Option Obj) : List Addr :=
  let ns := nsOf g (He.asD g 1)
  let ms := nxt g ns
  cStatics :: (He.asD g 2 ++ (ms ++ nxt g ms))
def seen (pk : (Addr → Option Obj) → List Addr) (fa : List He.Fa) (fn : List He.DefD) (tf : List He.Defn) (ex : PySem.W.Frag → Bool) (g : Addr → Option Obj) : He.AlX :=
  let K := He.frT g (pk g)
  (He.obsT fa fn [] K, ex K && He.tabsB g tf K)
section
variable {pk : (Addr → Option Obj) → List Addr} {fa : List He.Fa} {fn : List He.DefD} {tf : List He.Defn} {ex : PySem.W.Frag → Bool} {w : World} {h : Heap}
theorem says_of (q : seen pk fa fn tf ex h.get? = He.valX fn [] w) : He.SaysX fa fn [] tf ex w h (He.frT h.get? (pk h.get?)) := by
  generalize hK : He.frT h.get? (pk h.get?) = K
  have q1 : He.obsT fa fn [] K = He.valT fn [] w := by rw [← hK]; exact congrArg Prod.fst q
  have q2 : (ex K && He.tabsB h.get? tf K) = true := by rw [← hK]; exact congrArg Prod.snd q
  obtain ⟨x1, x2⟩ := DX.a2 q2
  have each : ∀ p, p ∈ tf → PySem.W.codeHdIn K (He.cT K p).1 (He.cT K p).2 = true ∧ ∃ u, h.get? (He.cT K p).2 = some u ∧ He.emptyTab u = true := by
    intro p hp
    obtain ⟨y1, y2⟩ := DX.a2 (List.all_eq_true.mp x2 p hp)
    refine ⟨y1, ?_⟩
    generalize h.get? (He.cT K p).2 = r at y2
    cases r with
    | none => exact absurd y2 Bool.false_ne_true
    | some u => exact ⟨u, rfl, y2⟩
  refine ⟨q1, x1, fun p hp => (each p hp).1, fun p hp => ?_, fun p hp => ?_⟩
  · obtain ⟨_, u, y1, y2⟩ := each p hp
    have z := He.frT_none (as := pk h.get?) y1 y2
    rw [hK] at z
    exact z
  · obtain ⟨_, u, y1, y2⟩ := each p hp
    rw [y1, He.emptyTab_eq y2]
end
def hook (pk : (Addr → Option Obj) → List Addr) (fa : List He.Fa) (fn : List He.DefD) (tf : List He.Defn) (ex : PySem.W.Frag → Bool) : PySem.W.Hook where
  α := He.AlX
  obs := fun s => seen pk fa fn tf ex s.heap.get?
  val := fun w => He.valX fn [] w
  says := fun w h => ∃ K : PySem.W.Frag, K.In h ∧ He.SaysX fa fn [] tf ex w h K
  of := fun _ _ e => ⟨_, He.frT_in, says_of e⟩
  keeps := fun _ _ _ ⟨K, i, c⟩ k => ⟨K, PySem.W.Frag.In.keeps i k, ⟨c.t, c.more, c.hd, c.out, fun p hp => k _ _ (c.empty p hp)⟩⟩
theorem seen_eq {pk : (Addr → Option Obj) → List Addr} {fa : List He.Fa} {fn : List He.DefD} {tf : List He.Defn} {ex : PySem.W.Frag → Bool} {g : Addr → Option Obj} {s : Shared} (e : ∀ a, g a = s.heap.get? a) : seen pk fa fn tf ex g = (hook pk fa fn tf ex).obs s := by
  have e1 : g = s.heap.get? := funext e
  subst e1
  rfl
end HK
end

section
set_option Elab.async false
set_option linter.all false
set_option maxRecDepth 100000
set_option maxHeartbeats 2000000
set_option autoImplicit false
noncomputable section
namespace HR
open PySem PySem.W HandSHeadRun
/-- the run -/
abbrev go (r : OpenRow) (M : Nat) (w : World) (os : OsState) : Option SharedT := endF (stepQ (denQ tabQ) r.prog w) M r.prog w os
/-- one look at its end -/
def Look (r : OpenRow) (M : Nat) {α : Type} (f : World → SharedT → α) (v : World → α) : Prop := ∀ (w : World) (os : OsState), (go r M w os).map (f w) = some (v w)
theorem Look.at {r : OpenRow} {M : Nat} {α : Type} {f : World → SharedT → α} {v : World → α} {w : World} {os : OsState} {s : SharedT} (h : Look r M f v) (e : go r M w os = some s) : f w s = v w := by
  have := h w os
  rw [e] at this
  exact Option.some.inj this
/-- the part of the fragment that is looked at -/
abbrev KK (s : SharedT) : Frag := He.frT (getT s) (HK.pick (getT s))
/-- two looks -/
theorem Look.and {r : OpenRow} {M : Nat} {f g : World → SharedT → Bool} (h : Look r M f fun _ => true) (h2 : Look r M g fun _ => true) : Look r M (fun w s => f w s && g w s) fun _ => true := by
  intro w os
  cases e : go r M w os with
  | none =>
    have := h w os
    rw [e] at this
    cases this
  | some s =>
    show some (f w s && g w s) = some true
    rw [h.at e, h2.at e] <;> rfl
theorem Look.congr {r : OpenRow} {M : Nat} {f g : World → SharedT → Bool} (h : Look r M f fun _ => true) (e : ∀ w s, g w s = f w s) : Look r M g fun _ => true := by
  have : g = f := funext fun w => funext fun s => e w s
  rw [this]
  exact h
theorem Look.all2 {r : OpenRow} {M : Nat} {a b : List He.Fa} (h : Look r M (fun _ s => a.all fun f => f.ok (KK s)) fun _ => true) (h2 : Look r M (fun _ s => b.all fun f => f.ok (KK s)) fun _ => true) : Look r M (fun _ s => (a ++ b).all fun f => f.ok (KK s)) fun _ => true :=
  (h.and h2).congr fun _ s => List.all_append
theorem Look.map {r : OpenRow} {M : Nat} {α β : Type} {f : World → SharedT → α} {v : World → α} (h : Look r M f v) (g : World → α → β) : Look r M (fun w s => g w (f w s)) fun w => g w (v w) := by
  intro w os
  have q := h w os
  cases e : go r M w os with
  | none =>
    rw [e] at q
    cases q
  | some s =>
    show some (g w (f w s)) = _
    rw [h.at e]
theorem Look.left {r : OpenRow} {M : Nat} {α β : Type} {f : World → SharedT → α} {g : World → SharedT → β} {v : World → α} {u : World → β} (h : Look r M (fun w s => (f w s, g w s)) fun w => (v w, u w)) : Look r M f v := h.map fun _ x => x.1
theorem Look.right {r : OpenRow} {M : Nat} {α β : Type} {f : World → SharedT → α} {g : World → SharedT → β} {v : World → α} {u : World → β} (h : Look r M (fun w s => (f w s, g w s)) fun w => (v w, u w)) : Look r M g u := h.map fun _ x => x.2
theorem run_of {r : OpenRow} {q : Program} {loose : List PySem.Str} {M : Nat} {fa : List He.Fa} {fn : List He.DefD} {tf : List He.Defn} {ex : Frag → Bool}
    (h1 : Look r M (fun w s => looksF r.prog (boot_heap w.params) s.abs) fun _ => true) (h2 : Look r M (fun _ s => seenQ q loose (importedModules r.prog.main.body) (fun s => xlAt q [] s && recOk r.toRowW.records s) s.abs) fun _ => openGood q loose)
    (h3 : Look r M (fun _ s => fa.all fun f => f.ok (KK s)) fun _ => true) (h4 : Look r M (fun _ s => fn.all fun d => d.ok (KK s)) fun _ => true) (h5 : Look r M (fun _ s => fn.map fun d => He.fnW (KK s) d.at_) fun _ => fn.map He.DefD.val)
    (h6 : Look r M (fun _ s => ex (KK s)) fun _ => true) (h7 : Look r M (fun _ s => He.tabsB (getT s) tf (KK s)) fun _ => true) (w : World) :
    RunEq r q (HK.hook HK.pick fa fn tf ex) (fun s => HK.seen HK.pick fa fn tf ex (getT s)) M loose w := by
  intro os
  cases e : go r M w os with
  | none =>
    have := h1 w os
    rw [e] at this
    cases this
  | some s =>
    have e' : endF (stepQ (denQ tabQ) r.prog w) M r.prog w os = some s := e
    rw [e']
    have y1 := h1.at e
    have y2 := h2.at e
    have y3 := h3.at e
    have y4 := h4.at e
    have y5 := h5.at e
    have y6 := h6.at e
    have y7 := h7.at e
    have z : HK.seen HK.pick fa fn tf ex (getT s) = He.valX fn [] w := by
      show (((((fa.all fun f => f.ok (KK s)) && fn.all fun d => d.ok (KK s)), fn.map fun d => He.fnW (KK s) d.at_), _), ex (KK s) && He.tabsB (getT s) tf (KK s)) = _
      rw [y3, y4, y5, y6, y7] <;> rfl
    show some (looksF r.prog (boot_heap w.params) s.abs, seenQ q loose (importedModules r.prog.main.body) (fun s => xlAt q [] s && recOk r.toRowW.records s) s.abs, HK.seen HK.pick fa fn tf ex (getT s)) = _
    rw [y1, y2, z]
    rfl
end HR
end

section
set_option Elab.async false
set_option linter.all false
set_option maxRecDepth 100000
set_option maxHeartbeats 2000000
set_option autoImplicit false
namespace DH
open PySem PySem.Spec PyProof.Rows L2 HotX L2H
def tTs (fa : DE.Fa) (wd : Nat → Option Str) (i : Nat) : Addr → Value → Option Addr → TS := fun a cls d E σ H => ∃ k z, cls = .ref (fa k) ∧ d = none ∧ wd k = some z ∧ σ[i]? = some (some (.ref a)) ∧ ∀ H', hx H H' → E.rt (.str z) H'
theorem tsuite_ok {Z : Cx} {fa : DE.Fa} {wd : Nat → Option Str} {i : Nat} {fn : Addr} {q qn : Nat → Pos} {xn : Str} {params : Arguments} {scope : Scope} {dV kV doc pm cdv ct oc : Value} {an od : Option Addr} {osl : Array (Option Value)}
    (hw : ∀ k z, wd k = some z → ∃ b, NK Z.K Z.mg (fa k) b ∧ z = nZ b)
    (lk : Z.K.lookup fn = some ⟨oc, od, .func (PySem.W.fnOf xn xn params (nBody qn) scope dV kV doc pm an cdv ct), osl⟩) (hcd : PySem.W.codeIn Z.K cdv xn = true) (S : FnScope nN ["_law_error"] scope) (hsc : nSc scope = true) (hbl : blkC nN scope nCs [("_law_label", 3), ("_law_good", 4)] = true) (hq : NLn qn)
    (hm : Z.mg xn = some (.ref fn)) (hk : PySem.W.keepIn Z.K (.ref fn) = true) (hb : Binds Z.K (PySem.W.fnOf xn xn params (nBody qn) scope dV kV doc pm an cdv ct) ["_law_error"] []) (hg : Gl Z xn) (hxn : (xn == ("__debug__" : Str)) = false) (hr : Room 1 Z.A)
    (hN : Z.N[i]? = some ("_law_error" : Str)) (hv : Vis Z.env.scope "_law_error")
    (a : Addr) (oe : Obj) (cls : Value) (d : Option Addr) (pn : List (Addr × Obj)) (hz : L2N.Zn cls d oe) (hf : ∃ vs, oe.data = .fields vs) :
    PSs (Z.suite a ((a, oe) :: pn)) [.Return (some (.Call (.Name xn (q 1)) [.Name "_law_error" (q 2)] [] (q 3))) (q 4)] (tTs fa wd i a cls d) := by
  refine ⟨fun pins s σ H E I ⟨k, z, hcls, hd, hwd, hs, hq2⟩ => ?_⟩
  obtain ⟨b, nk, hzb⟩ := hw k z hwd
  subst hcls hd
  have hot : Hot1 (Z.suite a ((a, oe) :: pn)).A (a, oe) := by
    obtain ⟨vs, e⟩ := hf
    exact ⟨rfl, vs, e, hz.2.2 vs e⟩
  have F := fn_names (P := Z.prog) (w := Z.w) (base := Z.base) (p := (a, oe)) (x := xn) nk hz.zc hf lk hcd S hsc hbl hq
  have pc := pe_callP (X := Z.suite a ((a, oe) :: pn)) (E := fun _ => C8.E0) (q := q 1) (pos := q 3) F ⟨hr.dp, hr.un⟩ hot (by simp) hg hm hk hb (fun σ pins H s e s' I c => c.elim) (pa_cons (pe_var (pos := q 2) hN hv (by decide +kernel) (by decide +kernel)) pa_nil) hxn
  exact (pss_one (ps_ret (pos := q 4) pc)).run pins s σ H E I ⟨.ref a, hs, rfl, fun H' h' => by rw [← hzb]; exact hq2 H' h'⟩
theorem try_ok {X : Cx} {fa : DE.Fa} {wd : Nat → Option Str} {i : Nat} {fn CS : Addr} {q qn : Nat → Pos} {xn : Str} {e : Expr} {params : Arguments} {scope : Scope} {dV kV doc pm cdv ct oc : Value} {an od : Option Addr} {osl : Array (Option Value)} {te : WX → TE} {WO : WX}
    (hw : ∀ k z, wd k = some z → (∃ b, NK X.K X.mg (fa k) b ∧ z = nZ b) ∧ PySem.W.exmOne X.K (.ref (fa k)) (.ref CS) = some true)
    (lk : X.K.lookup fn = some ⟨oc, od, .func (PySem.W.fnOf xn xn params (nBody qn) scope dV kV doc pm an cdv ct), osl⟩) (hcd : PySem.W.codeIn X.K cdv xn = true) (S : FnScope nN ["_law_error"] scope) (hsc : nSc scope = true) (hbl : blkC nN scope nCs [("_law_label", 3), ("_law_good", 4)] = true) (hq : NLn qn)
    (hm : X.mg xn = some (.ref fn)) (hk : PySem.W.keepIn X.K (.ref fn) = true) (hb : Binds X.K (PySem.W.fnOf xn xn params (nBody qn) scope dV kV doc pm an cdv ct) ["_law_error"] []) (hxn : (xn == ("__debug__" : Str)) = false)
    (hs : X.stack = X.env :: X.outer) (hfr : X.env.frame = some X.env.locals) (hnd : X.N.Nodup) (hN : X.N[i]? = some ("_law_error" : Str)) (hv : X.env.kindOf "_law_error" = some .local) (hvv : Vis X.env.scope "_law_error") (hg : Gl X xn) (hcs : Names X "StripError" (.ref CS)) (hr : Room 1 X.A) (tk : L2N.Takes X WO)
    (mono : ∀ W W' : WX, (∀ c d σ H, W c d σ H → W' c d σ H) → ∀ σ H Q, te W σ H Q → te W' σ H Q)
    (he : ∀ (W : WX) (pn : List (Addr × Obj)) (xe : Value → Shared → Prop), L2N.Takes (X.tr pn xe) W → PassesOwn (model X.prog X.w) X.A X.env xe → PE (X.tr pn xe) e (te W)) :
    PS X (.Try [.Return (some e) (q 8)] (wSuite xn q) [] [] (q 9)) (fun D σ H => te (fun cls d σ' H' => ∃ k z, cls = .ref (fa k) ∧ d = none ∧ wd k = some z ∧ ∀ H'', hx H' H'' → D.rt (.str z) H'') σ H fun v H1 => D.rt v H1) := by
  have htry := L2N.ps_try_as (X := X) (n := "_law_error") (i := i) (c := .ref CS) (x := "StripError") (np := q 0) (pos' := q 5) (pos := q 9) (Wout := WO) (body := [.Return (some e) (q 8)]) (tb := fun W D σ H => te (fun c d σ' H' => σ'.length = X.N.length → W c d σ' H') σ H fun v H1 => D.rt v H1) (ts := tTs fa wd i)
      (b₀ := .Return (some (.Call (.Name xn (q 1)) [.Name "_law_error" (q 2)] [] (q 3))) (q 4)) (suite := []) hs hfr hnd hN hv hcs tk
      (fun W pn xe tkw po => pss_one (ps_ret (pos := q 8) (he _ pn xe (takes_len tkw) po)))
      (fun a oe cls d pn hz hf => tsuite_ok (Z := X) (q := q) (fun k z e => (hw k z e).1) lk hcd S hsc hbl hq hm hk hb hg hxn hr hN hvv a oe cls d pn hz hf)
  refine ⟨fun pins s σ H D I h => htry.run pins s σ H D I (mono _ _ (fun cls d σ' H' => ?_) σ H _ h)⟩
  rintro ⟨k, z, rfl, rfl, hz, hQ⟩ hl
  have hi : i < X.N.length := (List.getElem?_eq_some_iff.mp hN).1
  refine ⟨true, (hw k z hz).2, fun _ a _ => ⟨k, z, rfl, rfl, hz, ?_, fun H'' h'' => hQ H'' h''⟩, fun q => by cases q⟩
  rw [List.getElem?_set_self (by rw [hl]; exact hi)]
theorem tryOk_of {P : Program} {w : World} {K : PySem.W.Frag} {mg : Str → Option Value} {base : Heap} {fa : DE.Fa} {xn : Str} {wd : Nat → Option Str} {fn CS : Addr} {qn : Nat → Pos} {pn : Arguments} {scope : Scope} {fdn : FuncData}
    (Fn : FunD K xn xn pn (nBody qn) scope [] [] fn fdn) (hmn : mg xn = some (.ref fn)) (Bn : Binds K fdn ["_law_error"] []) (Sn : FnScope nN ["_law_error"] scope)
    (hsc : nSc scope = true) (hbl : blkC nN scope nCs [("_law_label", 3), ("_law_good", 4)] = true) (hq : nlnB qn = true) (hxn : (xn == ("__debug__" : Str)) = false) (hmc : mg "StripError" = some (.ref CS))
    (hw : ∀ k z, wd k = some z → (∃ b, NK K mg (fa k) b ∧ z = nZ b) ∧ PySem.W.exmOne K (.ref (fa k)) (.ref CS) = some true) : DE.TryOk P w K mg base fa xn wd := by
  obtain ⟨oc2, od2, dV2, kV2, doc2, pm2, an2, cdv2, ct2, osl2, rfl, lk2, hcd2, _, _⟩ := Fn.ex
  intro X i q e te WO e1 e2 e3 e4 e5 hs hfr hnd hN hl hg hgs hr tk mono he
  subst e1 e2 e3 e4 e5
  exact try_ok (q := q) hw lk2 hcd2 Sn hsc hbl (nln_of hq) hmn Fn.kp Bn hxn hs hfr hnd hN hl (.inl hl) hg ⟨hgs, by decide +kernel, .inl hmc⟩ hr tk mono he
end DH
end

section
set_option Elab.async false
set_option linter.all false
set_option maxRecDepth 100000
set_option maxHeartbeats 0
namespace LAW
open PySem L2 DE PyProof.Rows
def top (i : Nat) : Stmt := PySem.Challenge.pw_foldedstrip_k16_known_strips_by_hand.main.body.getD i (.Pass ⟨0, 0, 0, 0⟩)
def wTabl : List (Nat × Str) := []
def dW : DE.Df := { np := 1, ns := 1, body := .cons (.retB .non) .nil, wt := wTabl }
def fTab : List (Option Str) := ([some "is_integer", some "is_fold", some "are_folds", some "is_recipe", some "need_recipe", some "need_many", some "power", some "item_of", some "folds_of", some "shortest", some "plain_by", some "fold_at", some "plain", some "like", some "other_way", some "back_by", some "flipped", some "backward", some "ways", some "last_place", some "halved", some "crease_by", some "row_by", some "valleys_by", some "need_place", some "need_strip", some "crease", some "row", some "valleys", some "is_sight"] : List (Option Str)) ++ ([some "need_sights", some "fold_told", some "told_by", some "goes", some "told", some "clash", some "sure", some "numbers_for", some "letters_of", some "folds_in", some "recipe_text", some "read_recipe", some "sign_of", some "unit_by", some "corner_by", some "steps_by", some "need_step", some "corner", some "steps_at", some "sides", some "twice", some "is_word", some "need_word", some "spread", some "last_begin", some "place_by", some "enough_folds", some "first_place", some "first_come", some "all_words"] : List (Option Str)) ++ ([some "_law_sheet", some "_law_tear", none, none, none, none, some "_law_always", some "_law_mixed", some "_law_late", some "_law_seen", some "law"] : List (Option Str))
def cTab : List Str := ["GREAT", "MOST_FOLDS", "MOST_WRITTEN", "OVER", "UNDER", "MOST_IN_ROW", "VALLEY", "HILL", "MOST_SIGHTS", "MOST_TWICE", "UNITS", "MOST_IN_WORD"]
def dTab : List Str := (["is_integer", "is_fold", "are_folds", "is_recipe", "need_recipe", "need_many", "power", "item_of", "folds_of", "shortest", "plain_by", "fold_at", "plain", "like", "other_way", "back_by", "flipped", "backward", "ways", "last_place", "halved", "crease_by", "row_by", "valleys_by", "need_place", "need_strip", "crease", "row", "valleys", "is_sight"] : List Str) ++ (["need_sights", "fold_told", "told_by", "goes", "told", "clash", "sure", "numbers_for", "letters_of", "folds_in", "recipe_text", "read_recipe", "sign_of", "unit_by", "corner_by", "steps_by", "need_step", "corner", "steps_at", "sides", "twice", "is_word", "need_word", "spread", "last_begin", "place_by", "enough_folds", "first_place", "first_come", "all_words"] : List Str) ++ (["_law_sheet", "_law_tear", "_law_pick", "_law_folds", "_law_any_recipe", "_law_first", "_law_always", "_law_mixed", "_law_late", "_law_seen", "law"] : List Str)
def eTab : List Str := ["StripError", "InvalidRecipe", "InvalidNumber", "InvalidPlace", "InvalidWord", "InvalidSights", "InvalidStep", "InvalidCorner", "InvalidText", "Impossible"]
def xTab : List (Nat × Str) := [(1001, "InvalidRecipe"), (1002, "InvalidNumber"), (1003, "InvalidPlace"), (1004, "InvalidWord"), (1005, "InvalidSights"), (1006, "InvalidStep"), (1007, "InvalidCorner"), (1008, "InvalidText"), (1009, "Impossible")]
def wTab : List (Nat × Str × Bool) := []
def nm : DE.Nm := { c := fun i => if i < 500 then cTab.getD i "" else dTab.getD (i - 500) "", f := fun i => (fTab[i]?).join, e := fun i => xTab.lookup i, w := fun i => wTab.lookup i, l := false }
def gTab : List DE.P := [(.int 1000000000000000000000000000000), (.int 100), (.int 12), (.str "over"), (.str "under"), (.int 60), (.str "v"), (.str "m"), (.int 8), (.int 9), (.tup [(.tup [(.int 1), (.int 0)]), (.tup [(.int 0), (.int 1)]), (.tup [(.int (-1)), (.int 0)]), (.tup [(.int 0), (.int (-1))])]), (.int 12)]
def gc : Nat → Option DE.P := fun i => if i < 500 then gTab[i]? else if [].contains (i - 500) then some (.fn (i - 500)) else none
def N0 : List Str := ["value", "low", "high"]
/-- is_integer -/
def d0 : DE.Df := { np := 3, ns := 3, body := (.cons (.ret (.and (.cons (.isi (.v 0) "int") (.cons (.no (.isi (.v 0) "bool")) (.cons (.chain .LtE .LtE (.v 1) (.v 0) (.v 2)) .nil)))))
    .nil) }
def N1 : List Str := ["value"]
/-- is_fold -/
def d1 : DE.Df := { np := 1, ns := 1, body := (.cons (.ret (.and (.cons (.isi (.v 0) "str") (.cons (.cmp .In (.v 0) (.tup (.cons (.g 3) (.cons (.g 4) .nil)))) .nil))))
    .nil) }
def N2 : List Str := ["value", "fold"]
/-- are_folds -/
def d2 : DE.Df := { np := 1, ns := 2, body := (.cons (.ret (.and (.cons (.isi (.v 0) "tuple") (.cons (.bi .all (.comp (.call 1 (.cons (.v 1) .nil)) (.one 1) (.seq (.v 0)) .non) .nil) .nil))))
    .nil) }
def N3 : List Str := ["value"]
/-- is_recipe -/
def d3 : DE.Df := { np := 1, ns := 1, body := (.cons (.ife (.or (.cons (.no (.isi (.v 0) "tuple")) (.cons (.cmp .NotEq (.bi .len (.v 0) .nil) (.int 2)) (.cons (.no (.call 2 (.cons (.idx (.v 0) (.int 0)) .nil))) (.cons (.no (.call 2 (.cons (.idx (.v 0) (.int 1)) .nil))) .nil))))) (.cons (.ret (.bl false))
    .nil) .nil)
    (.cons (.ret (.and (.cons (.cmp .LtE (.bi .len (.idx (.v 0) (.int 0)) .nil) (.g 2)) (.cons (.chain .LtE .LtE (.int 1) (.bi .len (.idx (.v 0) (.int 1)) .nil) (.g 2)) .nil))))
    .nil)) }
def N4 : List Str := ["value"]
/-- need_recipe -/
def d4 : DE.Df := { np := 1, ns := 1, body := (.cons (.ife (.no (.call 3 (.cons (.v 0) .nil))) (.cons (.raise 1001 "no recipe")
    .nil) .nil)
    .nil) }
def N5 : List Str := ["value"]
/-- need_many -/
def d5 : DE.Df := { np := 1, ns := 1, body := (.cons (.ife (.no (.call 0 (.cons (.v 0) (.cons (.int 0) (.cons (.g 1) .nil))))) (.cons (.raise 1002 "no such number of folds")
    .nil) .nil)
    .nil) }
def N6 : List Str := ["many", "found", "turn"]
/-- power -/
def d6 : DE.Df := { np := 1, ns := 3, body := (.cons (.asg (.one 1) (.int 1))
    (.cons (.for_ (.one 2) (.rng1 (.v 0)) (.cons (.asg (.one 1) (.bin .Mult (.v 1) (.int 2)))
    .nil))
    (.cons (.ret (.v 1))
    .nil))) }
def N7 : List Str := ["pair", "number", "early", "again"]
/-- item_of -/
def d7 : DE.Df := { np := 2, ns := 4, body := (.cons (.asg (.two (.one 2) (.one 3)) (.v 0))
    (.cons (.ife (.cmp .Lt (.v 1) (.bi .len (.v 2) .nil)) (.cons (.ret (.idx (.v 2) (.v 1)))
    .nil) .nil)
    (.cons (.ret (.idx (.v 3) (.bin .Mod (.bin .Sub (.v 1) (.bi .len (.v 2) .nil)) (.bi .len (.v 3) .nil))))
    .nil))) }
def N8 : List Str := ["recipe", "many", "number"]
/-- folds_of -/
def d8 : DE.Df := { np := 2, ns := 3, body := (.cons (.ret (.bi .tuple (.comp (.call 7 (.cons (.v 0) (.cons (.v 2) .nil))) (.one 2) (.rng1 (.v 1)) .non) .nil))
    .nil) }
def N9 : List Str := ["early", "again", "size"]
/-- shortest -/
def d9 : DE.Df := { np := 2, ns := 3, body := (.cons (.asg (.one 2) (.int 1))
    (.cons (.whl (.or (.cons (.cmp .NotEq (.bin .Mod (.bi .len (.v 1) .nil) (.v 2)) (.int 0)) (.cons (.cmp .NotEq (.bin .Mult (.slc (.v 1) .non (.som (.v 2))) (.bin .FloorDiv (.bi .len (.v 1) .nil) (.v 2))) (.v 1)) .nil))) (.cons (.asg (.one 2) (.bin .Add (.v 2) (.int 1)))
    .nil))
    (.cons (.asg (.one 1) (.slc (.v 1) .non (.som (.v 2))))
    (.cons (.whl (.and (.cons (.cmp .NotEq (.v 0) (.tup .nil)) (.cons (.cmp .Eq (.idx (.v 0) (.neg (.int 1))) (.idx (.v 1) (.neg (.int 1)))) .nil))) (.cons (.par [0, 1] [false, false] (.cons (.slc (.v 0) .non (.som (.neg (.int 1)))) (.cons (.bin .Add (.slc (.v 1) (.som (.neg (.int 1))) .non) (.slc (.v 1) .non (.som (.neg (.int 1))))) .nil)))
    .nil))
    (.cons (.ret (.tup (.cons (.v 0) (.cons (.v 1) .nil))))
    .nil))))) }
def N10 : List Str := ["recipe"]
/-- plain_by -/
def d10 : DE.Df := { np := 1, ns := 1, body := (.cons (.ret (.call 9 (.cons (.idx (.v 0) (.int 0)) (.cons (.idx (.v 0) (.int 1)) .nil))))
    .nil) }
def N11 : List Str := ["recipe", "number"]
/-- fold_at -/
def d11 : DE.Df := { np := 2, ns := 2, body := (.cons (.exp (.call 4 (.cons (.v 0) .nil)))
    (.cons (.ife (.no (.call 0 (.cons (.v 1) (.cons (.int 0) (.cons (.g 0) .nil))))) (.cons (.raise 1002 "no number of a fold")
    .nil) .nil)
    (.cons (.ret (.call 7 (.cons (.v 0) (.cons (.v 1) .nil))))
    .nil))) }
def N12 : List Str := ["recipe"]
/-- plain -/
def d12 : DE.Df := { np := 1, ns := 1, body := (.cons (.exp (.call 4 (.cons (.v 0) .nil)))
    (.cons (.ret (.call 10 (.cons (.v 0) .nil)))
    .nil)) }
def N13 : List Str := ["one", "other"]
/-- like -/
def d13 : DE.Df := { np := 2, ns := 2, body := (.cons (.exp (.call 4 (.cons (.v 0) .nil)))
    (.cons (.exp (.call 4 (.cons (.v 1) .nil)))
    (.cons (.ret (.cmp .Eq (.call 10 (.cons (.v 0) .nil)) (.call 10 (.cons (.v 1) .nil))))
    .nil))) }
def N14 : List Str := ["folds", "fold"]
/-- other_way -/
def d14 : DE.Df := { np := 1, ns := 2, body := (.cons (.ret (.bi .tuple (.comp (.ife (.cmp .Eq (.v 1) (.g 3)) (.g 4) (.g 3)) (.one 1) (.seq (.v 0)) .non) .nil))
    .nil) }
def N15 : List Str := ["folds"]
/-- back_by -/
def d15 : DE.Df := { np := 1, ns := 1, body := (.cons (.ret (.bin .Add (.slc (.v 0) .non (.som (.int 1))) (.call 14 (.cons (.slc (.v 0) (.som (.int 1)) .non) .nil))))
    .nil) }
def N16 : List Str := ["recipe"]
/-- flipped -/
def d16 : DE.Df := { np := 1, ns := 1, body := (.cons (.exp (.call 4 (.cons (.v 0) .nil)))
    (.cons (.ret (.call 10 (.cons (.tup (.cons (.call 14 (.cons (.idx (.v 0) (.int 0)) .nil)) (.cons (.call 14 (.cons (.idx (.v 0) (.int 1)) .nil)) .nil))) .nil)))
    .nil)) }
def N17 : List Str := ["recipe", "early", "again"]
/-- backward -/
def d17 : DE.Df := { np := 1, ns := 3, body := (.cons (.exp (.call 4 (.cons (.v 0) .nil)))
    (.cons (.asg (.two (.one 1) (.one 2)) (.v 0))
    (.cons (.ife (.cmp .Eq (.v 1) (.tup .nil)) (.cons (.par [1, 2] [false, false] (.cons (.slc (.v 2) .non (.som (.int 1))) (.cons (.bin .Add (.slc (.v 2) (.som (.int 1)) .non) (.slc (.v 2) .non (.som (.int 1)))) .nil)))
    .nil) .nil)
    (.cons (.ret (.call 10 (.cons (.tup (.cons (.call 15 (.cons (.v 1) .nil)) (.cons (.call 14 (.cons (.v 2) .nil)) .nil))) .nil)))
    .nil)))) }
def N18 : List Str := ["one", "other", "many", "mine", "yours", "found", "word", "folds"]
/-- ways -/
def d18 : DE.Df := { np := 3, ns := 8, body := (.cons (.exp (.call 4 (.cons (.v 0) .nil)))
    (.cons (.exp (.call 4 (.cons (.v 1) .nil)))
    (.cons (.exp (.call 5 (.cons (.v 2) .nil)))
    (.cons (.par [3, 4] [false, false] (.cons (.call 8 (.cons (.v 0) (.cons (.v 2) .nil))) (.cons (.call 8 (.cons (.v 1) (.cons (.v 2) .nil))) .nil)))
    (.cons (.asgO 5 (.lst .nil))
    (.cons (.for_ (.two (.one 6) (.one 7)) (.seq (.tup (.cons (.tup (.cons (.str "as") (.cons (.v 4) .nil))) (.cons (.tup (.cons (.str "back") (.cons (.call 15 (.cons (.v 4) .nil)) .nil))) (.cons (.tup (.cons (.str "flip") (.cons (.call 14 (.cons (.v 4) .nil)) .nil))) .nil))))) (.cons (.ife (.cmp .Eq (.v 7) (.v 3)) (.cons (.app 5 (.v 6))
    .nil) .nil)
    .nil))
    (.cons (.ret (.bin .Add (.v 5) (.bin .Mult (.lst (.cons (.str "round") .nil)) (.bi .int (.cmp .Eq (.call 14 (.cons (.call 15 (.cons (.v 4) .nil)) .nil)) (.v 3)) .nil))))
    .nil))))))) }
def N19 : List Str := ["many"]
/-- last_place -/
def d19 : DE.Df := { np := 1, ns := 1, body := (.cons (.ret (.bin .Sub (.call 6 (.cons (.v 0) .nil)) (.int 1)))
    .nil) }
def N20 : List Str := ["place", "exponent"]
/-- halved -/
def d20 : DE.Df := { np := 1, ns := 2, body := (.cons (.asg (.one 1) (.int 0))
    (.cons (.whl (.cmp .Eq (.bin .Mod (.v 0) (.int 2)) (.int 0)) (.cons (.par [0, 1] [false, false] (.cons (.bin .FloorDiv (.v 0) (.int 2)) (.cons (.bin .Add (.v 1) (.int 1)) .nil)))
    .nil))
    (.cons (.ret (.tup (.cons (.v 1) (.cons (.v 0) .nil))))
    .nil))) }
def N21 : List Str := ["folds", "place", "exponent", "odd", "is_over"]
/-- crease_by -/
def d21 : DE.Df := { np := 2, ns := 5, body := (.cons (.asg (.two (.one 2) (.one 3)) (.call 20 (.cons (.v 1) .nil)))
    (.cons (.asg (.one 4) (.cmp .Eq (.idx (.v 0) (.bin .Sub (.bin .Sub (.bi .len (.v 0) .nil) (.int 1)) (.v 2))) (.g 3)))
    (.cons (.ret (.ife (.cmp .Eq (.v 4) (.cmp .Eq (.bin .Mod (.v 3) (.int 4)) (.int 1))) (.g 6) (.g 7)))
    .nil))) }
def N22 : List Str := ["folds", "place", "length", "spot"]
/-- row_by -/
def d22 : DE.Df := { np := 3, ns := 4, body := (.cons (.ret (.meth .join (.str "") (.comp (.call 21 (.cons (.v 0) (.cons (.v 3) .nil))) (.one 3) (.rng2 (.v 1) (.bin .Add (.v 1) (.v 2))) .non)))
    .nil) }
def N23 : List Str := ["folds", "place", "found", "left", "fold"]
/-- valleys_by -/
def d23 : DE.Df := { np := 2, ns := 5, body := (.cons (.par [2, 3] [false, false] (.cons (.int 0) (.cons (.v 1) .nil)))
    (.cons (.for_ (.one 4) (.seq (.rev (.v 0))) (.cons (.asg (.one 2) (.bin .Add (.v 2) (.ife (.cmp .Eq (.v 4) (.g 3)) (.bin .FloorDiv (.bin .Add (.v 3) (.int 3)) (.int 4)) (.bin .FloorDiv (.bin .Add (.v 3) (.int 1)) (.int 4)))))
    (.cons (.asg (.one 3) (.bin .FloorDiv (.v 3) (.int 2)))
    .nil)))
    (.cons (.ret (.v 2))
    .nil))) }
def N24 : List Str := ["many", "place"]
/-- need_place -/
def d24 : DE.Df := { np := 2, ns := 2, body := (.cons (.ife (.no (.call 0 (.cons (.v 1) (.cons (.int 1) (.cons (.call 19 (.cons (.v 0) .nil)) .nil))))) (.cons (.raise 1003 "no such place")
    .nil) .nil)
    .nil) }
def N25 : List Str := ["recipe", "many"]
/-- need_strip -/
def d25 : DE.Df := { np := 2, ns := 2, body := (.cons (.exp (.call 4 (.cons (.v 0) .nil)))
    (.cons (.exp (.call 5 (.cons (.v 1) .nil)))
    .nil)) }
def N26 : List Str := ["recipe", "many", "place"]
/-- crease -/
def d26 : DE.Df := { np := 3, ns := 3, body := (.cons (.exp (.call 25 (.cons (.v 0) (.cons (.v 1) .nil))))
    (.cons (.exp (.call 24 (.cons (.v 1) (.cons (.v 2) .nil))))
    (.cons (.ret (.call 21 (.cons (.call 8 (.cons (.v 0) (.cons (.v 1) .nil))) (.cons (.v 2) .nil))))
    .nil))) }
def N27 : List Str := ["recipe", "many", "place", "length"]
/-- row -/
def d27 : DE.Df := { np := 4, ns := 4, body := (.cons (.exp (.call 25 (.cons (.v 0) (.cons (.v 1) .nil))))
    (.cons (.exp (.call 24 (.cons (.v 1) (.cons (.v 2) .nil))))
    (.cons (.ife (.or (.cons (.no (.call 0 (.cons (.v 3) (.cons (.int 1) (.cons (.g 5) .nil))))) (.cons (.cmp .Gt (.bin .Sub (.bin .Add (.v 2) (.v 3)) (.int 1)) (.call 19 (.cons (.v 1) .nil))) .nil))) (.cons (.raise 1002 "not so many creases")
    .nil) .nil)
    (.cons (.ret (.call 22 (.cons (.call 8 (.cons (.v 0) (.cons (.v 1) .nil))) (.cons (.v 2) (.cons (.v 3) .nil)))))
    .nil)))) }
def N28 : List Str := ["recipe", "many", "place"]
/-- valleys -/
def d28 : DE.Df := { np := 3, ns := 3, body := (.cons (.exp (.call 25 (.cons (.v 0) (.cons (.v 1) .nil))))
    (.cons (.exp (.call 24 (.cons (.v 1) (.cons (.v 2) .nil))))
    (.cons (.ret (.call 23 (.cons (.call 8 (.cons (.v 0) (.cons (.v 1) .nil))) (.cons (.v 2) .nil))))
    .nil))) }
def N29 : List Str := ["value"]
/-- is_sight -/
def d29 : DE.Df := { np := 1, ns := 1, body := (.cons (.ife (.or (.cons (.no (.isi (.v 0) "tuple")) (.cons (.cmp .NotEq (.bi .len (.v 0) .nil) (.int 2)) (.cons (.no (.call 0 (.cons (.idx (.v 0) (.int 0)) (.cons (.int 1) (.cons (.g 0) .nil))))) .nil)))) (.cons (.ret (.bl false))
    .nil) .nil)
    (.cons (.ret (.and (.cons (.isi (.idx (.v 0) (.int 1)) "str") (.cons (.cmp .In (.idx (.v 0) (.int 1)) (.tup (.cons (.g 6) (.cons (.g 7) .nil)))) .nil))))
    .nil)) }
def N30 : List Str := ["value", "sight"]
/-- need_sights -/
def d30 : DE.Df := { np := 1, ns := 2, body := (.cons (.ife (.or (.cons (.no (.isi (.v 0) "tuple")) (.cons (.cmp .Gt (.bi .len (.v 0) .nil) (.g 8)) (.cons (.no (.bi .all (.comp (.call 29 (.cons (.v 1) .nil)) (.one 1) (.seq (.v 0)) .non) .nil)) .nil)))) (.cons (.raise 1005 "no sights")
    .nil) .nil)
    .nil) }
def N31 : List Str := ["many", "sight", "exponent", "odd", "is_over"]
/-- fold_told -/
def d31 : DE.Df := { np := 2, ns := 5, body := (.cons (.asg (.two (.one 2) (.one 3)) (.call 20 (.cons (.idx (.v 1) (.int 0)) .nil)))
    (.cons (.asg (.one 4) (.cmp .Eq (.cmp .Eq (.idx (.v 1) (.int 1)) (.g 6)) (.cmp .Eq (.bin .Mod (.v 3) (.int 4)) (.int 1))))
    (.cons (.ret (.tup (.cons (.bin .Sub (.bin .Sub (.v 0) (.int 1)) (.v 2)) (.cons (.ife (.v 4) (.g 3) (.g 4)) .nil))))
    .nil))) }
def N32 : List Str := ["many", "sights", "found", "sight", "number", "fold"]
/-- told_by -/
def d32 : DE.Df := { np := 2, ns := 6, body := (.cons (.asgO 2 (.bin .Mult (.lst (.cons .non .nil)) (.v 0)))
    (.cons (.for_ (.one 3) (.seq (.v 1)) (.cons (.ife (.cmp .Gt (.idx (.v 3) (.int 0)) (.call 19 (.cons (.v 0) .nil))) (.cons (.raise 1009 "there is no such place")
    .nil) .nil)
    (.cons (.asg (.two (.one 4) (.one 5)) (.call 31 (.cons (.v 0) (.cons (.v 3) .nil))))
    (.cons (.ife (.cmp .NotIn (.idx (.v 2) (.v 4)) (.tup (.cons .non (.cons (.v 5) .nil)))) (.cons (.raise 1009 "sights clash")
    .nil) .nil)
    (.cons (.seti (.v 2) (.v 4) (.v 5))
    .nil)))))
    (.cons (.ret (.bi .tuple (.v 2) .nil))
    .nil))) }
def N33 : List Str := ["folds", "sights", "last", "place", "seen"]
/-- goes -/
def d33 : DE.Df := { np := 2, ns := 5, body := (.cons (.asg (.one 2) (.call 19 (.cons (.bi .len (.v 0) .nil) .nil)))
    (.cons (.ret (.bi .all (.comp (.and (.cons (.cmp .LtE (.v 3) (.v 2)) (.cons (.cmp .Eq (.call 21 (.cons (.v 0) (.cons (.v 3) .nil))) (.v 4)) .nil))) (.two (.one 3) (.one 4)) (.seq (.v 1)) .non) .nil))
    .nil)) }
def N34 : List Str := ["many", "sights"]
/-- told -/
def d34 : DE.Df := { np := 2, ns := 2, body := (.cons (.exp (.call 5 (.cons (.v 0) .nil)))
    (.cons (.exp (.call 30 (.cons (.v 1) .nil)))
    (.cons (.ret (.call 32 (.cons (.v 0) (.cons (.v 1) .nil))))
    .nil))) }
def N35 : List Str := ["many", "sights", "folds", "one", "other", "sight", "place", "seen"]
/-- clash -/
def d35 : DE.Df := { np := 2, ns := 8, body := (.cons (.exp (.call 5 (.cons (.v 0) .nil)))
    (.cons (.exp (.call 30 (.cons (.v 1) .nil)))
    (.cons (.ife (.bi .any (.comp (.cmp .Gt (.v 6) (.call 19 (.cons (.v 0) .nil))) (.two (.one 6) (.one 7)) (.seq (.v 1)) .non) .nil) (.cons (.raise 1003 "there is no such place")
    .nil) .nil)
    (.cons (.asg (.one 2) (.comp (.call 31 (.cons (.v 0) (.cons (.v 5) .nil))) (.one 5) (.seq (.v 1)) .non))
    (.cons (.for_ (.one 3) (.rng1 (.bi .len (.v 2) .nil)) (.cons (.for_ (.one 4) (.rng2 (.bin .Add (.v 3) (.int 1)) (.bi .len (.v 2) .nil)) (.cons (.ife (.and (.cons (.cmp .Eq (.idx (.idx (.v 2) (.v 3)) (.int 0)) (.idx (.idx (.v 2) (.v 4)) (.int 0))) (.cons (.cmp .NotEq (.idx (.idx (.v 2) (.v 3)) (.int 1)) (.idx (.idx (.v 2) (.v 4)) (.int 1))) .nil))) (.cons (.ret (.tup (.cons (.v 3) (.cons (.v 4) .nil))))
    .nil) .nil)
    .nil))
    .nil))
    (.cons (.ret .non)
    .nil)))))) }
def N36 : List Str := ["many", "sights", "place", "known", "number"]
/-- sure -/
def d36 : DE.Df := { np := 3, ns := 5, body := (.cons (.exp (.call 5 (.cons (.v 0) .nil)))
    (.cons (.exp (.call 30 (.cons (.v 1) .nil)))
    (.cons (.exp (.call 24 (.cons (.v 0) (.cons (.v 2) .nil))))
    (.cons (.asg (.one 3) (.call 32 (.cons (.v 0) (.cons (.v 1) .nil))))
    (.cons (.asg (.one 4) (.bin .Sub (.bin .Sub (.v 0) (.int 1)) (.idx (.call 20 (.cons (.v 2) .nil)) (.int 0))))
    (.cons (.ret (.ife (.cmp .Is (.idx (.v 3) (.v 4)) .non) .non (.call 21 (.cons (.v 3) (.cons (.v 2) .nil)))))
    .nil)))))) }
def N37 : List Str := ["recipe", "sights", "begin", "place", "seen", "good", "many"]
/-- numbers_for -/
def d37 : DE.Df := { np := 2, ns := 7, body := (.cons (.exp (.call 4 (.cons (.v 0) .nil)))
    (.cons (.exp (.call 30 (.cons (.v 1) .nil)))
    (.cons (.asg (.one 2) (.bi .len (.idx (.v 0) (.int 0)) .nil))
    (.cons (.for_ (.two (.one 3) (.one 4)) (.seq (.v 1)) (.cons (.asg (.one 2) (.bi .max (.v 2) (.cons (.bin .Add (.bin .Add (.bi .len (.idx (.v 0) (.int 0)) .nil) (.int 1)) (.idx (.call 20 (.cons (.v 3) .nil)) (.int 0))) .nil)))
    (.cons (.whl (.cmp .Lt (.call 19 (.cons (.v 2) .nil)) (.v 3)) (.cons (.asg (.one 2) (.bin .Add (.v 2) (.int 1)))
    .nil))
    .nil)))
    (.cons (.asg (.one 5) (.comp (.call 33 (.cons (.call 8 (.cons (.v 0) (.cons (.v 6) .nil))) (.cons (.v 1) .nil))) (.one 6) (.rng1 (.bin .Add (.v 2) (.bi .len (.idx (.v 0) (.int 1)) .nil))) .non))
    (.cons (.ret (.call 9 (.cons (.bi .tuple (.slc (.v 5) .non (.som (.v 2))) .nil) (.cons (.bi .tuple (.slc (.v 5) (.som (.v 2)) .non) .nil) .nil))))
    .nil)))))) }
def N38 : List Str := ["folds", "fold"]
/-- letters_of -/
def d38 : DE.Df := { np := 1, ns := 2, body := (.cons (.ret (.meth .join (.str "") (.comp (.ife (.cmp .Eq (.v 1) (.g 3)) (.str "o") (.str "u")) (.one 1) (.seq (.v 0)) .non)))
    .nil) }
def N39 : List Str := ["letters", "letter"]
/-- folds_in -/
def d39 : DE.Df := { np := 1, ns := 2, body := (.cons (.ret (.bi .tuple (.comp (.dget true ["o", "u"] (.cons (.g 3) (.cons (.g 4) .nil)) (.v 1)) (.one 1) (.seq (.v 0)) .non) .nil))
    .nil) }
def N40 : List Str := ["recipe"]
/-- recipe_text -/
def d40 : DE.Df := { np := 1, ns := 1, body := (.cons (.exp (.call 4 (.cons (.v 0) .nil)))
    (.cons (.ret (.bin .Add (.bin .Add (.call 38 (.cons (.idx (.v 0) (.int 0)) .nil)) (.str ":")) (.call 38 (.cons (.idx (.v 0) (.int 1)) .nil))))
    .nil)) }
def N41 : List Str := ["value", "parts", "found", "part"]
/-- read_recipe -/
def d41 : DE.Df := { np := 1, ns := 4, body := (.cons (.asg (.one 1) (.ife (.isi (.v 0) "str") (.meth .split (.v 0) (.str ":")) (.lst .nil)))
    (.cons (.asg (.one 2) (.bi .tuple (.comp (.call 39 (.cons (.v 3) .nil)) (.one 3) (.seq (.v 1)) .non) .nil))
    (.cons (.ife (.no (.call 3 (.cons (.v 2) .nil))) (.cons (.raise 1008 "no text of a recipe")
    .nil) .nil)
    (.cons (.ret (.v 2))
    .nil)))) }
def N42 : List Str := ["fold"]
/-- sign_of -/
def d42 : DE.Df := { np := 1, ns := 1, body := (.cons (.ret (.ife (.cmp .Eq (.v 0) (.g 3)) (.int 1) (.neg (.int 1))))
    .nil) }
def N43 : List Str := ["folds", "step", "turns"]
/-- unit_by -/
def d43 : DE.Df := { np := 2, ns := 3, body := (.cons (.asg (.one 2) (.ife (.cmp .Gt (.v 1) (.int 0)) (.bin .Sub (.bin .Mult (.int 2) (.call 23 (.cons (.v 0) (.cons (.v 1) .nil)))) (.v 1)) (.int 0)))
    (.cons (.ret (.idx (.g 10) (.bin .Mod (.v 2) (.int 4))))
    .nil)) }
def N44 : List Str := ["folds", "step", "x", "y", "sign", "east", "north"]
/-- corner_by -/
def d44 : DE.Df := { np := 2, ns := 7, body := (.cons (.ife (.cmp .Eq (.v 0) (.tup .nil)) (.cons (.ret (.tup (.cons (.v 1) (.cons (.int 0) .nil))))
    .nil) .nil)
    (.cons (.ife (.cmp .Eq (.bin .Mod (.v 1) (.int 2)) (.int 1)) (.cons (.asg (.two (.two (.one 2) (.one 3)) (.two (.one 5) (.one 6))) (.tup (.cons (.call 44 (.cons (.v 0) (.cons (.bin .Sub (.v 1) (.int 1)) .nil))) (.cons (.call 43 (.cons (.v 0) (.cons (.bin .Sub (.v 1) (.int 1)) .nil))) .nil))))
    (.cons (.ret (.tup (.cons (.bin .Add (.v 2) (.v 5)) (.cons (.bin .Add (.v 3) (.v 6)) .nil))))
    .nil)) .nil)
    (.cons (.asg (.two (.one 2) (.one 3)) (.call 44 (.cons (.slc (.v 0) .non (.som (.neg (.int 1)))) (.cons (.bin .FloorDiv (.v 1) (.int 2)) .nil))))
    (.cons (.asg (.one 4) (.call 42 (.cons (.idx (.v 0) (.neg (.int 1))) .nil)))
    (.cons (.ret (.tup (.cons (.bin .Sub (.v 2) (.bin .Mult (.v 4) (.v 3))) (.cons (.bin .Add (.v 3) (.bin .Mult (.v 4) (.v 2))) .nil))))
    .nil))))) }
def N45 : List Str := ["folds", "point", "known", "key", "x", "y", "found", "sign", "side", "step"]
/-- steps_by -/
def d45 : DE.Df := { np := 3, ns := 10, body := (.cons (.asg (.one 3) (.tup (.cons (.bi .len (.v 0) .nil) (.cons (.v 1) .nil))))
    (.cons (.ife (.din false (.v 3) 2) (.cons (.ret (.dat 2 (.v 3)))
    .nil) .nil)
    (.cons (.asg (.two (.one 4) (.one 5)) (.v 1))
    (.cons (.ife (.cmp .Eq (.v 0) (.tup .nil)) (.cons (.asgO 6 (.ife (.and (.cons (.cmp .Eq (.v 5) (.int 0)) (.cons (.cmp .In (.v 4) (.tup (.cons (.int 0) (.cons (.int 1) .nil)))) .nil))) (.lst (.cons (.v 4) .nil)) (.lst .nil)))
    .nil) (.cons (.ife (.cmp .Eq (.bin .Mod (.bin .Add (.v 4) (.v 5)) (.int 2)) (.int 0)) (.cons (.asg (.one 7) (.call 42 (.cons (.idx (.v 0) (.neg (.int 1))) .nil)))
    (.cons (.asgO 6 (.comp (.bin .Mult (.int 2) (.v 9)) (.one 9) (.seq (.call 45 (.cons (.slc (.v 0) .non (.som (.neg (.int 1)))) (.cons (.tup (.cons (.bin .FloorDiv (.bin .Add (.v 4) (.bin .Mult (.v 7) (.v 5))) (.int 2)) (.cons (.bin .FloorDiv (.bin .Sub (.v 5) (.bin .Mult (.v 7) (.v 4))) (.int 2)) .nil))) (.cons (.v 2) .nil))))) .non))
    .nil)) (.cons (.asgO 6 (.lst .nil))
    (.cons (.for_ (.one 8) (.seq (.tup (.cons (.neg (.int 1)) (.cons (.int 1) .nil)))) (.cons (.for_ (.one 9) (.seq (.call 45 (.cons (.v 0) (.cons (.tup (.cons (.bin .Sub (.v 4) (.v 8)) (.cons (.v 5) .nil))) (.cons (.v 2) .nil))))) (.cons (.ife (.and (.cons (.cmp .Lt (.v 9) (.call 6 (.cons (.bi .len (.v 0) .nil) .nil))) (.cons (.cmp .Eq (.call 43 (.cons (.v 0) (.cons (.v 9) .nil))) (.tup (.cons (.v 8) (.cons (.int 0) .nil)))) .nil))) (.cons (.app 6 (.bin .Add (.v 9) (.int 1)))
    .nil) .nil)
    .nil))
    .nil))
    (.cons (.asgO 6 (.sort 1 (.v 6)))
    .nil))))
    .nil))
    (.cons (.frz 6)
    (.cons (.setd 2 (.v 3) (.v 6))
    (.cons (.ret (.v 6))
    .nil))))))) }
def N46 : List Str := ["many", "value"]
/-- need_step -/
def d46 : DE.Df := { np := 2, ns := 2, body := (.cons (.ife (.no (.call 0 (.cons (.v 1) (.cons (.int 0) (.cons (.call 6 (.cons (.v 0) .nil)) .nil))))) (.cons (.raise 1006 "no such number of steps")
    .nil) .nil)
    .nil) }
def N47 : List Str := ["recipe", "many", "step"]
/-- corner -/
def d47 : DE.Df := { np := 3, ns := 3, body := (.cons (.exp (.call 25 (.cons (.v 0) (.cons (.v 1) .nil))))
    (.cons (.exp (.call 46 (.cons (.v 1) (.cons (.v 2) .nil))))
    (.cons (.ret (.call 44 (.cons (.call 8 (.cons (.v 0) (.cons (.v 1) .nil))) (.cons (.v 2) .nil))))
    .nil))) }
def N48 : List Str := ["recipe", "many", "point", "part"]
/-- steps_at -/
def d48 : DE.Df := { np := 3, ns := 4, body := (.cons (.exp (.call 25 (.cons (.v 0) (.cons (.v 1) .nil))))
    (.cons (.ife (.or (.cons (.no (.isi (.v 2) "tuple")) (.cons (.cmp .NotEq (.bi .len (.v 2) .nil) (.int 2)) (.cons (.no (.bi .all (.comp (.call 0 (.cons (.v 3) (.cons (.neg (.g 0)) (.cons (.g 0) .nil)))) (.one 3) (.seq (.v 2)) .non) .nil)) .nil)))) (.cons (.raise 1007 "no corner")
    .nil) .nil)
    (.cons (.ret (.bi .list (.call 45 (.cons (.call 8 (.cons (.v 0) (.cons (.v 1) .nil))) (.cons (.v 2) (.cons .dnew .nil)))) .nil))
    .nil))) }
def N49 : List Str := ["recipe", "begin", "found", "fold"]
/-- sides -/
def d49 : DE.Df := { np := 1, ns := 4, body := (.cons (.exp (.call 4 (.cons (.v 0) .nil)))
    (.cons (.par [1, 2] [false, true] (.cons (.bi .len (.idx (.v 0) (.int 0)) .nil) (.cons (.lst (.cons (.int 0) .nil)) .nil)))
    (.cons (.for_ (.one 3) (.seq (.call 8 (.cons (.v 0) (.cons (.bin .Add (.v 1) (.bin .Mult (.int 8) (.bi .len (.idx (.v 0) (.int 1)) .nil))) .nil)))) (.cons (.app 2 (.bin .Mod (.bin .Add (.idx (.v 2) (.neg (.int 1))) (.call 42 (.cons (.v 3) .nil))) (.int 8)))
    .nil))
    (.cons (.ret (.call 9 (.cons (.bi .tuple (.slc (.v 2) .non (.som (.v 1))) .nil) (.cons (.bi .tuple (.slc (.v 2) (.som (.v 1)) (.som (.neg (.int 1)))) .nil) .nil))))
    .nil)))) }
def N50 : List Str := ["recipe", "few", "turns", "known", "found", "side", "point", "turn"]
/-- twice -/
def d50 : DE.Df := { np := 2, ns := 8, body := (.cons (.exp (.call 4 (.cons (.v 0) .nil)))
    (.cons (.ife (.no (.call 0 (.cons (.v 1) (.cons (.int 0) (.cons (.g 9) .nil))))) (.cons (.raise 1002 "no such number of folds")
    .nil) .nil)
    (.cons (.asg (.one 2) (.call 22 (.cons (.call 8 (.cons (.v 0) (.cons (.v 1) .nil))) (.cons (.int 1) (.cons (.bin .Sub (.call 6 (.cons (.v 1) .nil)) (.int 1)) .nil)))))
    (.cons (.par [3, 4, 5, 6] [false, true, false, false] (.cons (.dtwo (.tup (.cons (.int 0) (.cons (.int 0) .nil))) (.int 1) (.tup (.cons (.int 1) (.cons (.int 0) .nil))) (.int 1)) (.cons (.lst .nil) (.cons (.int 0) (.cons (.tup (.cons (.int 1) (.cons (.int 0) .nil))) .nil)))))
    (.cons (.for_ (.one 7) (.seq (.v 2)) (.cons (.asg (.one 5) (.bin .Mod (.bin .Add (.v 5) (.ife (.cmp .Eq (.v 7) (.g 6)) (.int 1) (.int 3))) (.int 4)))
    (.cons (.asg (.one 6) (.tup (.cons (.bin .Add (.idx (.v 6) (.int 0)) (.idx (.idx (.g 10) (.v 5)) (.int 0))) (.cons (.bin .Add (.idx (.v 6) (.int 1)) (.idx (.idx (.g 10) (.v 5)) (.int 1))) .nil))))
    (.cons (.ife (.din false (.v 6) 3) (.cons (.app 4 (.v 6))
    .nil) .nil)
    (.cons (.setd 3 (.v 6) (.int 1))
    .nil)))))
    (.cons (.ret (.sort 2 (.v 4)))
    .nil)))))) }
def N51 : List Str := ["value", "letter"]
/-- is_word -/
def d51 : DE.Df := { np := 1, ns := 2, body := (.cons (.ife (.or (.cons (.no (.isi (.v 0) "str")) (.cons (.no (.chain .LtE .LtE (.int 1) (.bi .len (.v 0) .nil) (.g 11))) .nil))) (.cons (.ret (.bl false))
    .nil) .nil)
    (.cons (.ret (.bi .all (.comp (.cmp .In (.v 1) (.tup (.cons (.g 6) (.cons (.g 7) .nil)))) (.one 1) (.seq (.v 0)) .non) .nil))
    .nil)) }
def N52 : List Str := ["value"]
/-- need_word -/
def d52 : DE.Df := { np := 1, ns := 1, body := (.cons (.ife (.no (.call 51 (.cons (.v 0) .nil))) (.cons (.raise 1004 "no word")
    .nil) .nil)
    .nil) }
def N53 : List Str := ["length", "exponent"]
/-- spread -/
def d53 : DE.Df := { np := 1, ns := 2, body := (.cons (.asg (.one 1) (.int 0))
    (.cons (.whl (.cmp .Lt (.call 6 (.cons (.v 1) .nil)) (.v 0)) (.cons (.asg (.one 1) (.bin .Add (.v 1) (.int 1)))
    .nil))
    (.cons (.ret (.v 1))
    .nil))) }
def N54 : List Str := ["many", "length"]
/-- last_begin -/
def d54 : DE.Df := { np := 2, ns := 2, body := (.cons (.ret (.bi .min (.bin .Add (.bin .Sub (.call 19 (.cons (.v 0) .nil)) (.v 1)) (.int 1)) (.cons (.bin .Mult (.int 6) (.call 6 (.cons (.call 53 (.cons (.v 1) .nil)) .nil))) .nil)))
    .nil) }
def N55 : List Str := ["folds", "word", "place"]
/-- place_by -/
def d55 : DE.Df := { np := 2, ns := 3, body := (.cons (.for_ (.one 2) (.rng2 (.int 1) (.bin .Add (.call 54 (.cons (.bi .len (.v 0) .nil) (.cons (.bi .len (.v 1) .nil) .nil))) (.int 1))) (.cons (.ife (.cmp .Eq (.call 22 (.cons (.v 0) (.cons (.v 2) (.cons (.bi .len (.v 1) .nil) .nil)))) (.v 1)) (.cons (.ret (.v 2))
    .nil) .nil)
    .nil))
    (.cons (.ret .non)
    .nil)) }
def N56 : List Str := ["recipe", "length"]
/-- enough_folds -/
def d56 : DE.Df := { np := 2, ns := 2, body := (.cons (.ret (.bin .Add (.bin .Add (.bin .Add (.bi .len (.idx (.v 0) (.int 0)) .nil) (.bi .len (.idx (.v 0) (.int 1)) .nil)) (.call 53 (.cons (.v 1) .nil))) (.int 4)))
    .nil) }
def N57 : List Str := ["recipe", "many", "word"]
/-- first_place -/
def d57 : DE.Df := { np := 3, ns := 3, body := (.cons (.exp (.call 25 (.cons (.v 0) (.cons (.v 1) .nil))))
    (.cons (.exp (.call 52 (.cons (.v 2) .nil)))
    (.cons (.ret (.call 55 (.cons (.call 8 (.cons (.v 0) (.cons (.v 1) .nil))) (.cons (.v 2) .nil))))
    .nil))) }
def N58 : List Str := ["recipe", "word", "many", "place"]
/-- first_come -/
def d58 : DE.Df := { np := 2, ns := 4, body := (.cons (.exp (.call 4 (.cons (.v 0) .nil)))
    (.cons (.exp (.call 52 (.cons (.v 1) .nil)))
    (.cons (.for_ (.one 2) (.rng1 (.bin .Add (.call 56 (.cons (.v 0) (.cons (.bi .len (.v 1) .nil) .nil))) (.int 1))) (.cons (.asg (.one 3) (.call 55 (.cons (.call 8 (.cons (.v 0) (.cons (.v 2) .nil))) (.cons (.v 1) .nil))))
    (.cons (.ife (.cmp .IsNot (.v 3) .non) (.cons (.ret (.tup (.cons (.v 2) (.cons (.v 3) .nil))))
    .nil) .nil)
    .nil)))
    (.cons (.ret .non)
    .nil)))) }
def N59 : List Str := ["recipe", "length", "found", "many", "folds", "place"]
/-- all_words -/
def d59 : DE.Df := { np := 2, ns := 6, body := (.cons (.exp (.call 4 (.cons (.v 0) .nil)))
    (.cons (.ife (.no (.call 0 (.cons (.v 1) (.cons (.int 1) (.cons (.int 5) .nil))))) (.cons (.raise 1002 "no such length")
    .nil) .nil)
    (.cons (.asgO 2 (.lst .nil))
    (.cons (.for_ (.one 3) (.rng1 (.bin .Add (.call 56 (.cons (.v 0) (.cons (.v 1) .nil))) (.int 1))) (.cons (.asg (.one 4) (.call 8 (.cons (.v 0) (.cons (.v 3) .nil))))
    (.cons (.ext 2 (.comp (.call 22 (.cons (.v 4) (.cons (.v 5) (.cons (.v 1) .nil)))) (.one 5) (.rng2 (.int 1) (.bin .Add (.call 54 (.cons (.v 3) (.cons (.v 1) .nil))) (.int 1))) .non))
    .nil)))
    (.cons (.ret (.sort 0 (.v 2)))
    .nil))))) }
def N60 : List Str := ["_law_script", "_law_k", "_law_cell"]
/-- _law_sheet -/
def d60 : DE.Df := { np := 2, ns := 3, body := (.cons (.asg (.one 2) (.ife (.cmp .Lt (.v 1) (.bi .len (.v 0) .nil)) (.bi .abs (.bi .int (.idx (.v 0) (.v 1)) .nil) .nil) (.bin .Add (.bin .Mult (.int 401) (.v 1)) (.int 73))))
    (.cons (.retB (.lst (.cons (.ife (.cmp .GtE (.v 2) (.bin .Pow (.int 10) (.int 18))) (.v 2) (.int 0)) (.cons (.bin .Add (.bin .Mod (.bi .int (.bin .Add (.bin .Add (.bin .Mult (.v 2) (.int 59)) (.bin .Mult (.int 6287) (.v 1))) (.int 31)) .nil) (.int 2147483549)) (.int 1)) .nil))))
    .nil)) }
def N61 : List Str := ["_law_sheet_here", "_law_many", "_law_wide", "_law_part"]
/-- _law_tear -/
def d61 : DE.Df := { np := 2, ns := 4, body := (.cons (.ife (.cmp .Gt (.idx (.v 0) (.int 0)) (.int 0)) (.cons (.asg (.one 3) (.bin .Mod (.bi .int (.idx (.v 0) (.int 0)) .nil) (.v 1)))
    (.cons (.seti (.v 0) (.int 0) (.bin .FloorDiv (.idx (.v 0) (.int 0)) (.v 1)))
    (.cons (.ret (.v 3))
    .nil))) .nil)
    (.cons (.seti (.v 0) (.int 1) (.bin .Mod (.bi .int (.bin .Add (.bin .Mult (.idx (.v 0) (.int 1)) (.int 45083)) (.int 181)) .nil) (.int 2147483549)))
    (.cons (.asg (.one 2) (.bin .Mod (.bi .int (.bin .Mult (.idx (.v 0) (.int 1)) (.bin .Add (.bin .FloorDiv (.idx (.v 0) (.int 1)) (.int 6)) (.int 71))) .nil) (.int 2147483543)))
    (.cons (.ret (.bin .Mod (.bi .int (.bin .FloorDiv (.v 2) (.int 32)) .nil) (.v 1)))
    .nil)))) }
def N66 : List Str := ["_law_recipe", "_law_found", "_law_path", "_law_word", "_law_step"]
/-- _law_always -/
def d66 : DE.Df := { np := 1, ns := 5, body := (.cons (.asgO 1 (.lst (.cons (.cmp .Eq (.call 27 (.cons (.v 0) (.cons (.int 4) (.cons (.int 1) (.cons (.int 15) .nil))))) (.str "vvmvvmmvvvmmvmm")) (.cons (.cmp .Eq (.call 28 (.cons (.v 0) (.cons (.int 3) (.cons (.int 5) .nil)))) (.int 4)) .nil))))
    (.cons (.app 1 (.cmp .Eq (.call 26 (.cons (.v 0) (.cons (.int 100) (.cons (.bin .Pow (.int 10) (.int 30)) .nil)))) (.str "v")))
    (.cons (.app 1 (.and (.cons (.cmp .Eq (.call 57 (.cons (.v 0) (.cons (.int 3) (.cons (.str "mv") .nil)))) (.int 3)) (.cons (.cmp .Is (.call 57 (.cons (.v 0) (.cons (.int 2) (.cons (.str "mv") .nil)))) .non) .nil))))
    (.cons (.app 1 (.cmp .Eq (.comp (.call 58 (.cons (.v 0) (.cons (.v 3) .nil))) (.one 3) (.seq (.tup (.cons (.str "mm") (.cons (.str "vvv") (.cons (.str "mmm") .nil))))) .non) (.lst (.cons (.tup (.cons (.int 3) (.cons (.int 6) .nil))) (.cons (.tup (.cons (.int 4) (.cons (.int 8) .nil))) (.cons (.tup (.cons (.int 5) (.cons (.int 22) .nil))) .nil))))))
    (.cons (.app 1 (.and (.cons (.cmp .Is (.call 58 (.cons (.v 0) (.cons (.str "vvvv") .nil))) .non) (.cons (.cmp .Eq (.call 59 (.cons (.v 0) (.cons (.int 2) .nil))) (.lst (.cons (.str "mm") (.cons (.str "mv") (.cons (.str "vm") (.cons (.str "vv") .nil)))))) .nil))))
    (.cons (.app 1 (.and (.cons (.cmp .Eq (.call 17 (.cons (.v 0) .nil)) (.tup (.cons (.tup (.cons (.str "over") .nil)) (.cons (.tup (.cons (.str "under") .nil)) .nil)))) (.cons (.cmp .Eq (.call 27 (.cons (.call 17 (.cons (.v 0) .nil)) (.cons (.int 3) (.cons (.int 1) (.cons (.int 7) .nil))))) (.str "mmvvmvv")) .nil))))
    (.cons (.app 1 (.and (.cons (.cmp .Eq (.call 18 (.cons (.v 0) (.cons (.v 0) (.cons (.int 1) .nil)))) (.lst (.cons (.str "as") (.cons (.str "back") .nil)))) (.cons (.cmp .Eq (.call 18 (.cons (.v 0) (.cons (.call 17 (.cons (.v 0) .nil)) (.cons (.int 3) .nil)))) (.lst (.cons (.str "back") .nil))) .nil))))
    (.cons (.app 1 (.and (.cons (.cmp .Eq (.call 37 (.cons (.v 0) (.cons (.tup .nil) .nil))) (.tup (.cons (.tup .nil) (.cons (.tup (.cons (.bl true) .nil)) .nil)))) (.cons (.cmp .Eq (.call 37 (.cons (.v 0) (.cons (.tup (.cons (.tup (.cons (.int 5) (.cons (.str "m") .nil))) .nil)) .nil))) (.tup (.cons (.tup .nil) (.cons (.tup (.cons (.bl false) .nil)) .nil)))) .nil))))
    (.cons (.asg (.one 2) (.lst (.cons (.tup (.cons (.int 0) (.cons (.int 0) .nil))) (.cons (.tup (.cons (.int 1) (.cons (.int 0) .nil))) (.cons (.tup (.cons (.int 1) (.cons (.int 1) .nil))) (.cons (.tup (.cons (.int 0) (.cons (.int 1) .nil))) (.cons (.tup (.cons (.int 0) (.cons (.int 2) .nil))) (.cons (.tup (.cons (.neg (.int 1)) (.cons (.int 2) .nil))) (.cons (.tup (.cons (.neg (.int 1)) (.cons (.int 1) .nil))) (.cons (.tup (.cons (.neg (.int 2)) (.cons (.int 1) .nil))) (.cons (.tup (.cons (.neg (.int 2)) (.cons (.int 2) .nil))) (.cons (.tup (.cons (.neg (.int 3)) (.cons (.int 2) .nil))) (.cons (.tup (.cons (.neg (.int 3)) (.cons (.int 1) .nil))) (.cons (.tup (.cons (.neg (.int 2)) (.cons (.int 1) .nil))) .nil))))))))))))))
    (.cons (.asg (.one 2) (.bin .Add (.v 2) (.lst (.cons (.tup (.cons (.neg (.int 2)) (.cons (.int 0) .nil))) (.cons (.tup (.cons (.neg (.int 3)) (.cons (.int 0) .nil))) (.cons (.tup (.cons (.neg (.int 3)) (.cons (.neg (.int 1)) .nil))) (.cons (.tup (.cons (.neg (.int 4)) (.cons (.neg (.int 1)) .nil))) (.cons (.tup (.cons (.neg (.int 4)) (.cons (.int 0) .nil))) .nil))))))))
    (.cons (.app 1 (.cmp .Eq (.comp (.call 47 (.cons (.v 0) (.cons (.int 4) (.cons (.v 4) .nil)))) (.one 4) (.rng1 (.int 17)) .non) (.v 2)))
    (.cons (.app 1 (.and (.cons (.cmp .Eq (.call 48 (.cons (.v 0) (.cons (.int 4) (.cons (.tup (.cons (.neg (.int 2)) (.cons (.int 1) .nil))) .nil)))) (.lst (.cons (.int 7) (.cons (.int 11) .nil)))) (.cons (.cmp .Eq (.call 50 (.cons (.v 0) (.cons (.int 4) .nil))) (.lst (.cons (.tup (.cons (.neg (.int 2)) (.cons (.int 1) .nil))) .nil))) (.cons (.cmp .Eq (.call 50 (.cons (.v 0) (.cons (.int 3) .nil))) (.lst .nil)) .nil)))))
    (.cons (.app 1 (.and (.cons (.cmp .Eq (.call 49 (.cons (.v 0) .nil)) (.tup (.cons (.tup .nil) (.cons (.tup (.cons (.int 0) (.cons (.int 1) (.cons (.int 2) (.cons (.int 3) (.cons (.int 4) (.cons (.int 5) (.cons (.int 6) (.cons (.int 7) .nil))))))))) .nil)))) (.cons (.cmp .Eq (.call 12 (.cons (.v 0) .nil)) (.tup (.cons (.tup .nil) (.cons (.tup (.cons (.str "over") .nil)) .nil)))) .nil))))
    (.cons (.frz 1)
    (.cons (.ret (.v 1))
    .nil))))))))))))))) }
def N67 : List Str := ["_law_recipe", "_law_found"]
/-- _law_mixed -/
def d67 : DE.Df := { np := 1, ns := 2, body := (.cons (.asgO 1 (.lst (.cons (.cmp .Eq (.call 27 (.cons (.v 0) (.cons (.int 3) (.cons (.int 1) (.cons (.int 7) .nil))))) (.str "vmmvvvm")) (.cons (.cmp .Eq (.call 28 (.cons (.v 0) (.cons (.int 3) (.cons (.int 7) .nil)))) (.int 4)) (.cons (.cmp .Eq (.call 11 (.cons (.v 0) (.cons (.bin .Pow (.int 10) (.int 30)) .nil))) (.str "over")) .nil)))))
    (.cons (.app 1 (.and (.cons (.cmp .Eq (.call 26 (.cons (.v 0) (.cons (.int 100) (.cons (.bin .Mult (.int 3) (.int 1125899906842624)) .nil)))) (.str "v")) (.cons (.cmp .Eq (.call 16 (.cons (.v 0) .nil)) (.tup (.cons (.tup .nil) (.cons (.tup (.cons (.str "under") (.cons (.str "over") .nil))) .nil)))) .nil))))
    (.cons (.app 1 (.cmp .Eq (.call 37 (.cons (.v 0) (.cons (.tup (.cons (.tup (.cons (.int 1) (.cons (.str "m") .nil))) .nil)) .nil))) (.tup (.cons (.tup (.cons (.bl false) .nil)) (.cons (.tup (.cons (.bl false) (.cons (.bl true) .nil))) .nil)))))
    (.cons (.app 1 (.and (.cons (.cmp .Eq (.call 49 (.cons (.v 0) .nil)) (.tup (.cons (.tup .nil) (.cons (.tup (.cons (.int 0) (.cons (.int 1) .nil))) .nil)))) (.cons (.cmp .Eq (.call 47 (.cons (.v 0) (.cons (.int 2) (.cons (.int 4) .nil)))) (.tup (.cons (.int 2) (.cons (.int 0) .nil)))) .nil))))
    (.cons (.ret (.bin .Add (.v 1) (.lst (.cons (.and (.cons (.cmp .Eq (.call 18 (.cons (.tup (.cons (.tup .nil) (.cons (.tup (.cons (.str "over") .nil)) .nil))) (.cons (.v 0) (.cons (.int 2) .nil)))) (.lst (.cons (.str "back") .nil))) (.cons (.cmp .Eq (.call 27 (.cons (.v 0) (.cons (.int 2) (.cons (.int 1) (.cons (.int 3) .nil))))) (.str "mvv")) .nil))) .nil))))
    .nil))))) }
def N68 : List Str := ["_law_recipe", "_law_found"]
/-- _law_late -/
def d68 : DE.Df := { np := 1, ns := 2, body := (.cons (.asgO 1 (.lst (.cons (.cmp .Eq (.call 27 (.cons (.v 0) (.cons (.int 2) (.cons (.int 1) (.cons (.int 3) .nil))))) (.str "vmm")) (.cons (.cmp .Eq (.call 49 (.cons (.v 0) .nil)) (.tup (.cons (.tup (.cons (.int 0) .nil)) (.cons (.tup (.cons (.int 7) (.cons (.int 0) (.cons (.int 1) (.cons (.int 2) (.cons (.int 3) (.cons (.int 4) (.cons (.int 5) (.cons (.int 6) .nil))))))))) .nil)))) .nil))))
    (.cons (.app 1 (.and (.cons (.cmp .Eq (.call 18 (.cons (.tup (.cons (.tup .nil) (.cons (.tup (.cons (.str "over") .nil)) .nil))) (.cons (.v 0) (.cons (.int 5) .nil)))) (.lst (.cons (.str "round") .nil))) (.cons (.cmp .Eq (.call 11 (.cons (.v 0) (.cons (.int 0) .nil))) (.str "under")) .nil))))
    (.cons (.ret (.bin .Add (.v 1) (.lst (.cons (.cmp .Eq (.call 18 (.cons (.tup (.cons (.tup .nil) (.cons (.tup (.cons (.str "over") .nil)) .nil))) (.cons (.v 0) (.cons (.int 0) .nil)))) (.lst (.cons (.str "as") (.cons (.str "back") (.cons (.str "flip") (.cons (.str "round") .nil)))))) .nil))))
    .nil))) }
def N69 : List Str := ["_law_found"]
/-- _law_seen -/
def d69 : DE.Df := { np := 0, ns := 1, body := (.cons (.asgO 0 (.lst (.cons (.cmp .Eq (.call 34 (.cons (.int 3) (.cons (.tup (.cons (.tup (.cons (.int 1) (.cons (.str "v") .nil))) (.cons (.tup (.cons (.int 6) (.cons (.str "m") .nil))) .nil))) .nil))) (.tup (.cons .non (.cons (.str "over") (.cons (.str "over") .nil))))) (.cons (.cmp .Eq (.call 35 (.cons (.int 3) (.cons (.tup (.cons (.tup (.cons (.int 1) (.cons (.str "v") .nil))) (.cons (.tup (.cons (.int 3) (.cons (.str "v") .nil))) .nil))) .nil))) (.tup (.cons (.int 0) (.cons (.int 1) .nil)))) .nil))))
    (.cons (.app 0 (.and (.cons (.cmp .Is (.call 35 (.cons (.int 3) (.cons (.tup (.cons (.tup (.cons (.int 1) (.cons (.str "v") .nil))) (.cons (.tup (.cons (.int 3) (.cons (.str "m") .nil))) .nil))) .nil))) .non) (.cons (.cmp .Eq (.call 36 (.cons (.int 3) (.cons (.tup (.cons (.tup (.cons (.int 1) (.cons (.str "v") .nil))) .nil)) (.cons (.int 5) .nil)))) (.str "v")) .nil))))
    (.cons (.ret (.bin .Add (.v 0) (.lst (.cons (.and (.cons (.cmp .Is (.call 36 (.cons (.int 3) (.cons (.tup (.cons (.tup (.cons (.int 1) (.cons (.str "v") .nil))) .nil)) (.cons (.int 2) .nil)))) .non) (.cons (.cmp .Eq (.call 36 (.cons (.int 3) (.cons (.tup (.cons (.tup (.cons (.int 1) (.cons (.str "v") .nil))) .nil)) (.cons (.int 7) .nil)))) (.str "m")) .nil))) .nil))))
    .nil))) }
def N70 : List Str := ["_law_script", "_law_k", "_law_sheet_here", "_law_many", "_law_always_here", "_law_mixed_here", "_law_late_here", "_law_found", "_law_recipe"]
/-- law -/
def d70 : DE.Df := { np := 1, ns := 9, body := (.cons (.for_ (.one 1) (.rng1 (.bi .max (.int 3) (.cons (.bi .min (.int 6) (.cons (.bi .len (.v 0) .nil) .nil)) .nil))) (.cons (.asg (.one 2) (.call 60 (.cons (.v 0) (.cons (.v 1) .nil))))
    (.cons (.asg (.one 3) (.call 61 (.cons (.v 2) (.cons (.int 5) .nil))))
    (.cons (.par [4, 5] [false, false] (.cons (.tup (.cons (.bin .Mult (.tup (.cons (.str "over") .nil)) (.v 3)) (.cons (.bin .Mult (.tup (.cons (.str "over") .nil)) (.bin .Add (.int 1) (.v 3))) .nil))) (.cons (.tup (.cons (.bin .Mult (.tup (.cons (.str "over") (.cons (.str "under") .nil))) (.v 3)) (.cons (.bin .Mult (.tup (.cons (.str "over") (.cons (.str "under") .nil))) (.int 3)) .nil))) .nil)))
    (.cons (.asg (.one 6) (.tup (.cons (.bin .Add (.tup (.cons (.str "under") .nil)) (.bin .Mult (.tup (.cons (.str "over") .nil)) (.v 3))) (.cons (.bin .Mult (.tup (.cons (.str "over") .nil)) (.int 2)) .nil))))
    (.cons (.asg (.one 7) (.bin .Add (.bin .Add (.call 66 (.cons (.v 4) .nil)) (.call 67 (.cons (.v 5) .nil))) (.call 68 (.cons (.v 6) .nil))))
    (.cons (.ife (.or (.cons (.cmp .In (.bl false) (.v 7)) (.cons (.no (.call 13 (.cons (.v 6) (.cons (.tup (.cons (.tup (.cons (.str "under") .nil)) (.cons (.tup (.cons (.str "over") .nil)) .nil))) .nil)))) (.cons (.call 13 (.cons (.v 4) (.cons (.v 5) .nil))) .nil)))) (.cons (.ret (.bl false))
    .nil) .nil)
    (.cons (.for_ (.one 8) (.seq (.tup (.cons (.v 4) (.cons (.v 5) (.cons (.v 6) .nil))))) (.cons (.ife (.cmp .NotEq (.call 41 (.cons (.call 40 (.cons (.v 8) .nil)) .nil)) (.v 8)) (.cons (.ret (.bl false))
    .nil) .nil)
    .nil))
    .nil))))))))
    (.cons (.ret (.and (.cons (.cmp .NotIn (.bl false) (.call 69 .nil)) (.cons (.cmp .Eq (.call 40 (.cons (.tup (.cons (.tup (.cons (.str "over") (.cons (.str "under") .nil))) (.cons (.bin .Mult (.tup (.cons (.str "under") .nil)) (.int 3)) .nil))) .nil)) (.str "ou:uuu")) .nil))))
    .nil)) }
def dtab : List (Option DE.Df) := ([some d0, some d1, some d2, some d3, some d4, some d5, some d6, some d7, some d8, some d9, some d10, some d11, some d12, some d13, some d14, some d15, some d16, some d17, some d18, some d19, some d20, some d21, some d22, some d23, some d24, some d25, some d26, some d27, some d28, some d29] : List (Option DE.Df)) ++ ([some d30, some d31, some d32, some d33, some d34, some d35, some d36, some d37, some d38, some d39, some d40, some d41, some d42, some d43, some d44, some d45, some d46, some d47, some d48, some d49, some d50, some d51, some d52, some d53, some d54, some d55, some d56, some d57, some d58, some d59] : List (Option DE.Df)) ++ ([some d60, some d61, none, none, none, none, some d66, some d67, some d68, some d69, some d70] : List (Option DE.Df))
def TT : Nat → Option DE.Df := fun i => (dtab[i]?).join
theorem T0 : TT 0 = some d0 := rfl
theorem T1 : TT 1 = some d1 := rfl
theorem T2 : TT 2 = some d2 := rfl
theorem T3 : TT 3 = some d3 := rfl
theorem T4 : TT 4 = some d4 := rfl
theorem T5 : TT 5 = some d5 := rfl
theorem T6 : TT 6 = some d6 := rfl
theorem T7 : TT 7 = some d7 := rfl
theorem T8 : TT 8 = some d8 := rfl
theorem T9 : TT 9 = some d9 := rfl
theorem T10 : TT 10 = some d10 := rfl
theorem T11 : TT 11 = some d11 := rfl
theorem T12 : TT 12 = some d12 := rfl
theorem T13 : TT 13 = some d13 := rfl
theorem T14 : TT 14 = some d14 := rfl
theorem T15 : TT 15 = some d15 := rfl
theorem T16 : TT 16 = some d16 := rfl
theorem T17 : TT 17 = some d17 := rfl
theorem T18 : TT 18 = some d18 := rfl
theorem T19 : TT 19 = some d19 := rfl
theorem T20 : TT 20 = some d20 := rfl
theorem T21 : TT 21 = some d21 := rfl
theorem T22 : TT 22 = some d22 := rfl
theorem T23 : TT 23 = some d23 := rfl
theorem T24 : TT 24 = some d24 := rfl
theorem T25 : TT 25 = some d25 := rfl
theorem T26 : TT 26 = some d26 := rfl
theorem T27 : TT 27 = some d27 := rfl
theorem T28 : TT 28 = some d28 := rfl
theorem T29 : TT 29 = some d29 := rfl
theorem T30 : TT 30 = some d30 := rfl
theorem T31 : TT 31 = some d31 := rfl
theorem T32 : TT 32 = some d32 := rfl
theorem T33 : TT 33 = some d33 := rfl
theorem T34 : TT 34 = some d34 := rfl
theorem T35 : TT 35 = some d35 := rfl
theorem T36 : TT 36 = some d36 := rfl
theorem T37 : TT 37 = some d37 := rfl
theorem T38 : TT 38 = some d38 := rfl
theorem T39 : TT 39 = some d39 := rfl
theorem T40 : TT 40 = some d40 := rfl
theorem T41 : TT 41 = some d41 := rfl
theorem T42 : TT 42 = some d42 := rfl
theorem T43 : TT 43 = some d43 := rfl
theorem T44 : TT 44 = some d44 := rfl
theorem T45 : TT 45 = some d45 := rfl
theorem T46 : TT 46 = some d46 := rfl
theorem T47 : TT 47 = some d47 := rfl
theorem T48 : TT 48 = some d48 := rfl
theorem T49 : TT 49 = some d49 := rfl
theorem T50 : TT 50 = some d50 := rfl
theorem T51 : TT 51 = some d51 := rfl
theorem T52 : TT 52 = some d52 := rfl
theorem T53 : TT 53 = some d53 := rfl
theorem T54 : TT 54 = some d54 := rfl
theorem T55 : TT 55 = some d55 := rfl
theorem T56 : TT 56 = some d56 := rfl
theorem T57 : TT 57 = some d57 := rfl
theorem T58 : TT 58 = some d58 := rfl
theorem T59 : TT 59 = some d59 := rfl
theorem T60 : TT 60 = some d60 := rfl
theorem T61 : TT 61 = some d61 := rfl
theorem T66 : TT 66 = some d66 := rfl
theorem T67 : TT 67 = some d67 := rfl
theorem T68 : TT 68 = some d68 := rfl
theorem T69 : TT 69 = some d69 := rfl
theorem T70 : TT 70 = some d70 := rfl
theorem GC0 : gc 0 = some (.int 1000000000000000000000000000000) := rfl
theorem GC1 : gc 1 = some (.int 100) := rfl
theorem GC2 : gc 2 = some (.int 12) := rfl
theorem GC3 : gc 3 = some (.str "over") := rfl
theorem GC4 : gc 4 = some (.str "under") := rfl
theorem GC5 : gc 5 = some (.int 60) := rfl
theorem GC6 : gc 6 = some (.str "v") := rfl
theorem GC7 : gc 7 = some (.str "m") := rfl
theorem GC8 : gc 8 = some (.int 8) := rfl
theorem GC9 : gc 9 = some (.int 9) := rfl
theorem GC10 : gc 10 = some (.tup [(.tup [(.int 1), (.int 0)]), (.tup [(.int 0), (.int 1)]), (.tup [(.int (-1)), (.int 0)]), (.tup [(.int 0), (.int (-1))])]) := rfl
theorem GC11 : gc 11 = some (.int 12) := rfl
end LAW
end

section
set_option Elab.async false
set_option linter.all false
set_option maxRecDepth 100000
set_option maxHeartbeats 0
set_option autoImplicit false
namespace LAW
open PySem L2 DE
local macro_rules
  | `(tactic| dsimp? [$xs,*] $[$loc:location]?) => `(tactic| simp only [$xs,*, EVC, EVD, EVS, pow18, pow28, pow30, setS, setO, startE, List.map_cons, List.map_nil, List.getElem?_cons_zero, List.getElem?_cons_succ, List.set_cons_zero, List.set_cons_succ, List.replicate_succ, List.replicate_zero, List.cons_append, List.nil_append, List.append_nil, if_true, if_false, Bool.true_and, Bool.and_true, List.length_cons, List.length_nil, Int.cast_ofNat_Int, BEq.rfl, eq_self, Option.map_some, Bool.not_true, Bool.not_false, decide_true, decide_false, Int.reduceLT, Int.reduceLE, Int.reduceNeg, Nat.reduceAdd, Nat.reduceLeDiff, Int.reduceAdd, Int.reduceSub, Int.reduceMul, Int.reduceEq, Nat.reduceSub, Nat.sub_self, Int.reduceBEq, Int.reduceBNe, Nat.reduceEqDiff, Int.reduceMod, Int.reduceDiv, GC0, GC1, GC2, GC3, GC4, GC5, GC6, GC7, GC8, GC9, GC10, GC11] $[$loc]?)
  | `(tactic| dsimp? $[$loc:location]?) => `(tactic| simp only [EVC, EVD, EVS, pow18, pow28, pow30, setS, setO, startE, List.map_cons, List.map_nil, List.getElem?_cons_zero, List.getElem?_cons_succ, List.set_cons_zero, List.set_cons_succ, List.replicate_succ, List.replicate_zero, List.cons_append, List.nil_append, List.append_nil, if_true, if_false, Bool.true_and, Bool.and_true, List.length_cons, List.length_nil, Int.cast_ofNat_Int, BEq.rfl, eq_self, Option.map_some, Bool.not_true, Bool.not_false, decide_true, decide_false, Int.reduceLT, Int.reduceLE, Int.reduceNeg, Nat.reduceAdd, Nat.reduceLeDiff, Int.reduceAdd, Int.reduceSub, Int.reduceMul, Int.reduceEq, Nat.reduceSub, Nat.sub_self, Int.reduceBEq, Int.reduceBNe, Nat.reduceEqDiff, Int.reduceMod, Int.reduceDiv, GC0, GC1, GC2, GC3, GC4, GC5, GC6, GC7, GC8, GC9, GC10, GC11] $[$loc]?)


/-- the sheet that a law tears from -/
def Sh (st : Store) (n : Nat) : Prop := ∃ a b : Int, st[n]? = some (.lst [.int a, .int b]) ∧ 0 ≤ a ∧ 0 ≤ b ∧ b < 2147483550
theorem Sh.lt {st : Store} {n : Nat} (h : Sh st n) : n < st.length := by
  obtain ⟨a, b, e, _⟩ := h
  exact (List.getElem?_eq_some_iff.mp e).1
theorem Sh.set {st : Store} {n : Nat} {a b : Int} (h : Sh st n) (ha : 0 ≤ a) (hb : 0 ≤ b) (hb2 : b < 2147483550) : Sh ((st.set n (.lst [.int a, .int b])).take st.length) n := by
  refine ⟨a, b, ?_, ha, hb, hb2⟩
  rw [List.getElem?_take_of_lt h.lt, List.getElem?_set_self h.lt]
abbrev Drawn (st : Store) (n : Nat) (st' : Store) : Prop := Sh st' n ∧ st'.length = st.length
theorem Drawn.set {st : Store} {n : Nat} {a b : Int} (h : Sh st n) (ha : 0 ≤ a) (hb : 0 ≤ b) (hb2 : b < 2147483550) : Drawn st n ((st.set n (.lst [.int a, .int b])).take st.length) := ⟨h.set ha hb hb2, by simp⟩
theorem tear {k : Nat} {st : Store} {n : Nat} {m : Int} (hs : Sh st n) (hm : 0 < m) (hm2 : m.natAbs.log2 < 9000) :
    Wp (callK TT gc (k + 1) 61 [.box n, .p (.int m)] st) fun d st' => ∃ r, d = .p (.int r) ∧ 0 ≤ r ∧ r < m ∧ Drawn st n st' := by
  obtain ⟨a, b, e, ha, hb, hb2⟩ := id hs
  have hlt := hs.lt
  have hd : divOk m = true := by simp [divOk, hm, hm2]
  rw [callK_eq T61 rfl]
  by_cases h0 : 0 < a
  · dsimp? [d61, e, h0, hd, hm, List.getElem?_set_self hlt]
    exact ⟨_, rfl, Int.emod_nonneg _ (by omega), Int.emod_lt_of_pos _ hm, Drawn.set hs (Int.ediv_nonneg ha (by omega)) hb hb2⟩
  · dsimp? [d61, e, h0, hd, hm, List.getElem?_set_self hlt]
    have b1 : 0 ≤ (b * 45083 + 181) % 2147483549 := Int.emod_nonneg _ (by decide)
    have b2 : (b * 45083 + 181) % 2147483549 < 2147483549 := Int.emod_lt_of_pos _ (by decide)
    generalize (b * 45083 + 181) % 2147483549 = b' at b1 b2 ⊢
    dsimp? [mulOk_l (i := b') (by omega) (by omega), hd, hm, List.getElem?_set_self hlt]
    exact ⟨_, rfl, Int.emod_nonneg _ (by omega), Int.emod_lt_of_pos _ hm, Drawn.set hs ha b1 (by omega)⟩
theorem log_lit {m : Int} (h : 0 < m) (h2 : m < 9223372036854775808) : m.natAbs.log2 < 9000 := by
  have := divOk_lit h h2
  simp only [divOk, Bool.and_eq_true, decide_eq_true_eq] at this
  exact this.2
theorem sheet {k : Nat} {st : Store} {ns : List Int} {i : Nat} (hi : i < 1000) :
    Wp (callK TT gc (k + 1) 60 [.p (.scr ns), .p (.int i)] st) fun d st' => d = .box st.length ∧ Sh st' st.length ∧ st'.length = st.length + 1 := by
  rw [callK_eq T60 rfl]
  have fine : ∀ (a b : Int), 0 ≤ a → 0 ≤ b → b < 2147483550 → Sh (st ++ [.lst [.int a, .int b]]) st.length := fun a b ha hb hb2 => ⟨a, b, by simp, ha, hb, hb2⟩
  have key : ∀ z : Int, 0 ≤ z → Wp (fin st.length (execs ⟨callK TT gc k, gc, wdT TT⟩ (.cons (.retB (.lst (.cons (.ife (.cmp .GtE (.v 2) (.bin .Pow (.int 10) (.int 18))) (.v 2) (.int 0)) (.cons (.bin .Add (.bin .Mod (.bi .int (.bin .Add (.bin .Add (.bin .Mult (.v 2) (.int 59)) (.bin .Mult (.int 6287) (.v 1))) (.int 31)) .nil) (.int 2147483549)) (.int 1)) .nil)))) .nil) [.val (.p (.scr ns)), .val (.p (.int i)), .val (.p (.int z))] st)) fun d st' => d = .box st.length ∧ Sh st' st.length ∧ st'.length = st.length + 1 := by
    intro z hz
    have b1 : 0 ≤ (z * 59 + 6287 * (i : Int) + 31) % 2147483549 := Int.emod_nonneg _ (by decide)
    have b2 : (z * 59 + 6287 * (i : Int) + 31) % 2147483549 < 2147483549 := Int.emod_lt_of_pos _ (by decide)
    by_cases h : 1000000000000000000 ≤ z
    · dsimp? [pow18, h]
      refine Wp.fin ?_
      refine Wp.ok ?_
      show if st.length < st.length then _ else _
      rw [if_neg (Nat.lt_irrefl _)]
      simp only [List.getElem?_append_right (Nat.le_refl _), Nat.sub_self, List.getElem?_cons_zero, List.take_left']
      exact ⟨trivial, fine _ _ hz (by omega) (by omega), by simp⟩
    · dsimp? [pow18, h]
      refine Wp.fin ?_
      refine Wp.ok ?_
      show if st.length < st.length then _ else _
      rw [if_neg (Nat.lt_irrefl _)]
      simp only [List.getElem?_append_right (Nat.le_refl _), Nat.sub_self, List.getElem?_cons_zero, List.take_left']
      exact ⟨trivial, fine _ _ (Int.le_refl 0) (by omega) (by omega), by simp⟩
  by_cases h : (i : Int) < ns.length
  · dsimp? [d60, h, atI_nat (xs := ns) (n := i) (by omega)]
    have := key (if ns[i]'(by omega) < 0 then -ns[i]'(by omega) else ns[i]'(by omega)) (by split <;> omega)
    dsimp? at this
    exact this
  · dsimp? [d60, h]
    have := key (401 * (i : Int) + 73) (by omega)
    dsimp? at this
    exact this
def FP (b : Bool) : P := bif b then .str "over" else .str "under"
def TF (bs : List Bool) : P := .tup (bs.map FP)
def RC (e a : List Bool) : P := .tup [TF e, TF a]
theorem Drawn.tk {st st1 : Store} {n : Nat} (D : Drawn st n st1) : Drawn st n (st1.take st.length) := by
  rw [← D.2, List.take_length]
  exact D
theorem Drawn.trans {st st1 st2 : Store} {n : Nat} (D : Drawn st n st1) (D2 : Drawn st1 n st2) : Drawn st n st2 := ⟨D2.1, D2.2.trans D.2⟩
theorem Drawn.refl {st : Store} {n : Nat} (h : Sh st n) : Drawn st n st := ⟨h, rfl⟩
end LAW
end

section
set_option Elab.async false
set_option linter.all false
set_option maxRecDepth 100000
set_option maxHeartbeats 0
set_option autoImplicit false
namespace LAW
open PySem L2 DE
local macro_rules
  | `(tactic| dsimp? [$xs,*] $[$loc:location]?) => `(tactic| simp only [$xs,*, EVC, EVD, EVS, pow18, pow28, pow30, setS, setO, startE, List.map_cons, List.map_nil, List.getElem?_cons_zero, List.getElem?_cons_succ, List.set_cons_zero, List.set_cons_succ, List.replicate_succ, List.replicate_zero, List.cons_append, List.nil_append, List.append_nil, if_true, if_false, Bool.true_and, Bool.and_true, List.length_cons, List.length_nil, Int.cast_ofNat_Int, BEq.rfl, eq_self, Option.map_some, Bool.not_true, Bool.not_false, decide_true, decide_false, Int.reduceLT, Int.reduceLE, Int.reduceNeg, Nat.reduceAdd, Nat.reduceLeDiff, Int.reduceAdd, Int.reduceSub, Int.reduceMul, Int.reduceEq, Nat.reduceSub, Nat.sub_self, Int.reduceBEq, Int.reduceBNe, Nat.reduceEqDiff, Int.reduceMod, Int.reduceDiv, GC0, GC1, GC2, GC3, GC4, GC5, GC6, GC7, GC8, GC9, GC10, GC11] $[$loc]?)
  | `(tactic| dsimp? $[$loc:location]?) => `(tactic| simp only [EVC, EVD, EVS, pow18, pow28, pow30, setS, setO, startE, List.map_cons, List.map_nil, List.getElem?_cons_zero, List.getElem?_cons_succ, List.set_cons_zero, List.set_cons_succ, List.replicate_succ, List.replicate_zero, List.cons_append, List.nil_append, List.append_nil, if_true, if_false, Bool.true_and, Bool.and_true, List.length_cons, List.length_nil, Int.cast_ofNat_Int, BEq.rfl, eq_self, Option.map_some, Bool.not_true, Bool.not_false, decide_true, decide_false, Int.reduceLT, Int.reduceLE, Int.reduceNeg, Nat.reduceAdd, Nat.reduceLeDiff, Int.reduceAdd, Int.reduceSub, Int.reduceMul, Int.reduceEq, Nat.reduceSub, Nat.sub_self, Int.reduceBEq, Int.reduceBNe, Nat.reduceEqDiff, Int.reduceMod, Int.reduceDiv, GC0, GC1, GC2, GC3, GC4, GC5, GC6, GC7, GC8, GC9, GC10, GC11] $[$loc]?)


section
def ibAt : IB → Nat → IS
  | .cons s _, 0 => s
  | .cons _ b, n + 1 => ibAt b n
  | .nil, _ => .any
def ibFrom : IB → Nat → IB
  | b, 0 => b
  | .cons _ b, n + 1 => ibFrom b n
  | .nil, _ => .nil
theorem ib_step {c : Cf} {b : IB} {n : Nat} {env env' : DE.Env} {st st' : DE.Store} (hb : ibFrom b n = .cons (ibAt b n) (ibFrom b (n + 1))) (h : exec c (ibAt b n) env st = .ok (.nx env') st') : execs c (ibFrom b n) env st = execs c (ibFrom b (n + 1)) env' st' := by
  rw [hb]
  show ((exec c (ibAt b n) env st).bind fun r st => match r with
    | .nx env => execs c (ibFrom b (n + 1)) env st
    | r => .ok r st) = _
  rw [h]
  rfl
abbrev C66 : Cf := ⟨callK TT gc 59, gc, wdT TT⟩
abbrev E66 (x : DE.P) (n : Nat) : DE.Env := [.val (.p x), .own (.lst (List.replicate n (.bl true))), .un, .un, .un]
theorem al_0 (st : Store) : callK TT gc 60 66 [.p (.tup [.tup [], .tup [.str "over"]])] st = .ok (.p (.lst [.bl true, .bl true, .bl true, .bl true, .bl true, .bl true, .bl true, .bl true, .bl true, .bl true, .bl true, .bl true])) st := callK_any (xs := [.tup [.tup [], .tup [.str "over"]]]) (by kernel_rfl) st
theorem mx_0 (st : Store) : callK TT gc 60 67 [.p (.tup [.tup [], .tup [.str "over", .str "under", .str "over", .str "under", .str "over", .str "under"]])] st = .ok (.p (.lst [.bl true, .bl true, .bl true, .bl true, .bl true, .bl true, .bl true])) st := callK_any (xs := [.tup [.tup [], .tup [.str "over", .str "under", .str "over", .str "under", .str "over", .str "under"]]]) (by kernel_rfl) st
theorem lt_0 (st : Store) : callK TT gc 60 68 [.p (.tup [.tup [.str "under"], .tup [.str "over", .str "over"]])] st = .ok (.p (.lst [.bl true, .bl true, .bl true, .bl true])) st := callK_any (xs := [.tup [.tup [.str "under"], .tup [.str "over", .str "over"]]]) (by kernel_rfl) st
theorem lk1_0 (st : Store) : callK TT gc 60 13 [.p (.tup [.tup [.str "under"], .tup [.str "over", .str "over"]]), .p (.tup [.tup [.str "under"], .tup [.str "over"]])] st = .ok (.p (.bl true)) st := callK_any (xs := [.tup [.tup [.str "under"], .tup [.str "over", .str "over"]], .tup [.tup [.str "under"], .tup [.str "over"]]]) (by kernel_rfl) st
theorem lk2_0 (st : Store) : callK TT gc 60 13 [.p (.tup [.tup [], .tup [.str "over"]]), .p (.tup [.tup [], .tup [.str "over", .str "under", .str "over", .str "under", .str "over", .str "under"]])] st = .ok (.p (.bl false)) st := callK_any (xs := [.tup [.tup [], .tup [.str "over"]], .tup [.tup [], .tup [.str "over", .str "under", .str "over", .str "under", .str "over", .str "under"]]]) (by kernel_rfl) st
theorem rtA_0 (st : Store) : callK TT gc 60 40 [.p (.tup [.tup [], .tup [.str "over"]])] st = .ok (.p (.str ":o")) st := callK_any (xs := [.tup [.tup [], .tup [.str "over"]]]) (by kernel_rfl) st
theorem rrA_0 (st : Store) : callK TT gc 60 41 [.p (.str ":o")] st = .ok (.p (.tup [.tup [], .tup [.str "over"]])) st := callK_any (xs := [.str ":o"]) (by kernel_rfl) st
theorem rtM_0 (st : Store) : callK TT gc 60 40 [.p (.tup [.tup [], .tup [.str "over", .str "under", .str "over", .str "under", .str "over", .str "under"]])] st = .ok (.p (.str ":ououou")) st := callK_any (xs := [.tup [.tup [], .tup [.str "over", .str "under", .str "over", .str "under", .str "over", .str "under"]]]) (by kernel_rfl) st
theorem rrM_0 (st : Store) : callK TT gc 60 41 [.p (.str ":ououou")] st = .ok (.p (.tup [.tup [], .tup [.str "over", .str "under", .str "over", .str "under", .str "over", .str "under"]])) st := callK_any (xs := [.str ":ououou"]) (by kernel_rfl) st
theorem rtL_0 (st : Store) : callK TT gc 60 40 [.p (.tup [.tup [.str "under"], .tup [.str "over", .str "over"]])] st = .ok (.p (.str "u:oo")) st := callK_any (xs := [.tup [.tup [.str "under"], .tup [.str "over", .str "over"]]]) (by kernel_rfl) st
theorem rrL_0 (st : Store) : callK TT gc 60 41 [.p (.str "u:oo")] st = .ok (.p (.tup [.tup [.str "under"], .tup [.str "over", .str "over"]])) st := callK_any (xs := [.str "u:oo"]) (by kernel_rfl) st

theorem al_1 (st : Store) : callK TT gc 60 66 [.p (.tup [.tup [.str "over"], .tup [.str "over", .str "over"]])] st = .ok (.p (.lst [.bl true, .bl true, .bl true, .bl true, .bl true, .bl true, .bl true, .bl true, .bl true, .bl true, .bl true, .bl true])) st := callK_any (xs := [.tup [.tup [.str "over"], .tup [.str "over", .str "over"]]]) (by kernel_rfl) st
theorem mx_1 (st : Store) : callK TT gc 60 67 [.p (.tup [.tup [.str "over", .str "under"], .tup [.str "over", .str "under", .str "over", .str "under", .str "over", .str "under"]])] st = .ok (.p (.lst [.bl true, .bl true, .bl true, .bl true, .bl true, .bl true, .bl true])) st := callK_any (xs := [.tup [.tup [.str "over", .str "under"], .tup [.str "over", .str "under", .str "over", .str "under", .str "over", .str "under"]]]) (by kernel_rfl) st
theorem lt_1 (st : Store) : callK TT gc 60 68 [.p (.tup [.tup [.str "under", .str "over"], .tup [.str "over", .str "over"]])] st = .ok (.p (.lst [.bl true, .bl true, .bl true, .bl true])) st := callK_any (xs := [.tup [.tup [.str "under", .str "over"], .tup [.str "over", .str "over"]]]) (by kernel_rfl) st
theorem lk1_1 (st : Store) : callK TT gc 60 13 [.p (.tup [.tup [.str "under", .str "over"], .tup [.str "over", .str "over"]]), .p (.tup [.tup [.str "under"], .tup [.str "over"]])] st = .ok (.p (.bl true)) st := callK_any (xs := [.tup [.tup [.str "under", .str "over"], .tup [.str "over", .str "over"]], .tup [.tup [.str "under"], .tup [.str "over"]]]) (by kernel_rfl) st
theorem lk2_1 (st : Store) : callK TT gc 60 13 [.p (.tup [.tup [.str "over"], .tup [.str "over", .str "over"]]), .p (.tup [.tup [.str "over", .str "under"], .tup [.str "over", .str "under", .str "over", .str "under", .str "over", .str "under"]])] st = .ok (.p (.bl false)) st := callK_any (xs := [.tup [.tup [.str "over"], .tup [.str "over", .str "over"]], .tup [.tup [.str "over", .str "under"], .tup [.str "over", .str "under", .str "over", .str "under", .str "over", .str "under"]]]) (by kernel_rfl) st
theorem rtA_1 (st : Store) : callK TT gc 60 40 [.p (.tup [.tup [.str "over"], .tup [.str "over", .str "over"]])] st = .ok (.p (.str "o:oo")) st := callK_any (xs := [.tup [.tup [.str "over"], .tup [.str "over", .str "over"]]]) (by kernel_rfl) st
theorem rrA_1 (st : Store) : callK TT gc 60 41 [.p (.str "o:oo")] st = .ok (.p (.tup [.tup [.str "over"], .tup [.str "over", .str "over"]])) st := callK_any (xs := [.str "o:oo"]) (by kernel_rfl) st
theorem rtM_1 (st : Store) : callK TT gc 60 40 [.p (.tup [.tup [.str "over", .str "under"], .tup [.str "over", .str "under", .str "over", .str "under", .str "over", .str "under"]])] st = .ok (.p (.str "ou:ououou")) st := callK_any (xs := [.tup [.tup [.str "over", .str "under"], .tup [.str "over", .str "under", .str "over", .str "under", .str "over", .str "under"]]]) (by kernel_rfl) st
theorem rrM_1 (st : Store) : callK TT gc 60 41 [.p (.str "ou:ououou")] st = .ok (.p (.tup [.tup [.str "over", .str "under"], .tup [.str "over", .str "under", .str "over", .str "under", .str "over", .str "under"]])) st := callK_any (xs := [.str "ou:ououou"]) (by kernel_rfl) st
theorem rtL_1 (st : Store) : callK TT gc 60 40 [.p (.tup [.tup [.str "under", .str "over"], .tup [.str "over", .str "over"]])] st = .ok (.p (.str "uo:oo")) st := callK_any (xs := [.tup [.tup [.str "under", .str "over"], .tup [.str "over", .str "over"]]]) (by kernel_rfl) st
theorem rrL_1 (st : Store) : callK TT gc 60 41 [.p (.str "uo:oo")] st = .ok (.p (.tup [.tup [.str "under", .str "over"], .tup [.str "over", .str "over"]])) st := callK_any (xs := [.str "uo:oo"]) (by kernel_rfl) st

theorem al_2_0 : exec C66 (ibAt d66.body 0) (startE d66 [.p (.tup [.tup [.str "over", .str "over"], .tup [.str "over", .str "over", .str "over"]])]) [] = .ok (.nx (E66 (.tup [.tup [.str "over", .str "over"], .tup [.str "over", .str "over", .str "over"]]) 2)) [] := by kernel_rfl
theorem al_2_1 : exec C66 (ibAt d66.body 1) (E66 (.tup [.tup [.str "over", .str "over"], .tup [.str "over", .str "over", .str "over"]]) 2) [] = .ok (.nx (E66 (.tup [.tup [.str "over", .str "over"], .tup [.str "over", .str "over", .str "over"]]) 3)) [] := by kernel_rfl
theorem al_2_2 : exec C66 (ibAt d66.body 2) (E66 (.tup [.tup [.str "over", .str "over"], .tup [.str "over", .str "over", .str "over"]]) 3) [] = .ok (.nx (E66 (.tup [.tup [.str "over", .str "over"], .tup [.str "over", .str "over", .str "over"]]) 4)) [] := by kernel_rfl
theorem al_2_3 : exec C66 (ibAt d66.body 3) (E66 (.tup [.tup [.str "over", .str "over"], .tup [.str "over", .str "over", .str "over"]]) 4) [] = .ok (.nx (E66 (.tup [.tup [.str "over", .str "over"], .tup [.str "over", .str "over", .str "over"]]) 5)) [] := by kernel_rfl
theorem al_2_4 : exec C66 (ibAt d66.body 4) (E66 (.tup [.tup [.str "over", .str "over"], .tup [.str "over", .str "over", .str "over"]]) 5) [] = .ok (.nx (E66 (.tup [.tup [.str "over", .str "over"], .tup [.str "over", .str "over", .str "over"]]) 6)) [] := by kernel_rfl
theorem al_2_5 : exec C66 (ibAt d66.body 5) (E66 (.tup [.tup [.str "over", .str "over"], .tup [.str "over", .str "over", .str "over"]]) 6) [] = .ok (.nx (E66 (.tup [.tup [.str "over", .str "over"], .tup [.str "over", .str "over", .str "over"]]) 7)) [] := by kernel_rfl
theorem al_2_6 : exec C66 (ibAt d66.body 6) (E66 (.tup [.tup [.str "over", .str "over"], .tup [.str "over", .str "over", .str "over"]]) 7) [] = .ok (.nx (E66 (.tup [.tup [.str "over", .str "over"], .tup [.str "over", .str "over", .str "over"]]) 8)) [] := by kernel_rfl
theorem al_2_7 : exec C66 (ibAt d66.body 7) (E66 (.tup [.tup [.str "over", .str "over"], .tup [.str "over", .str "over", .str "over"]]) 8) [] = .ok (.nx (E66 (.tup [.tup [.str "over", .str "over"], .tup [.str "over", .str "over", .str "over"]]) 9)) [] := by kernel_rfl
theorem al_2_8 : execs C66 (ibFrom d66.body 8) (E66 (.tup [.tup [.str "over", .str "over"], .tup [.str "over", .str "over", .str "over"]]) 9) [] = .ok (.rt (.p (.lst [.bl true, .bl true, .bl true, .bl true, .bl true, .bl true, .bl true, .bl true, .bl true, .bl true, .bl true, .bl true]))) [] := by kernel_rfl
theorem al_2 (st : Store) : callK TT gc 60 66 [.p (.tup [.tup [.str "over", .str "over"], .tup [.str "over", .str "over", .str "over"]])] st = .ok (.p (.lst [.bl true, .bl true, .bl true, .bl true, .bl true, .bl true, .bl true, .bl true, .bl true, .bl true, .bl true, .bl true])) st := callK_any (xs := [.tup [.tup [.str "over", .str "over"], .tup [.str "over", .str "over", .str "over"]]]) ((callK_eq (k := 59) (f := 66) (d := d66) (as := [.p (.tup [.tup [.str "over", .str "over"], .tup [.str "over", .str "over", .str "over"]])]) (st := []) rfl rfl).trans ((congrArg (fin 0) (show execs C66 d66.body (startE d66 [.p (.tup [.tup [.str "over", .str "over"], .tup [.str "over", .str "over", .str "over"]])]) [] = .ok (.rt (.p (.lst [.bl true, .bl true, .bl true, .bl true, .bl true, .bl true, .bl true, .bl true, .bl true, .bl true, .bl true, .bl true]))) [] from (ib_step (n := 0) rfl al_2_0).trans ((ib_step rfl al_2_1).trans ((ib_step rfl al_2_2).trans ((ib_step rfl al_2_3).trans ((ib_step rfl al_2_4).trans ((ib_step rfl al_2_5).trans ((ib_step rfl al_2_6).trans ((ib_step rfl al_2_7).trans al_2_8))))))))).trans rfl)) st
theorem mx_2 (st : Store) : callK TT gc 60 67 [.p (.tup [.tup [.str "over", .str "under", .str "over", .str "under"], .tup [.str "over", .str "under", .str "over", .str "under", .str "over", .str "under"]])] st = .ok (.p (.lst [.bl true, .bl true, .bl true, .bl true, .bl true, .bl true, .bl true])) st := callK_any (xs := [.tup [.tup [.str "over", .str "under", .str "over", .str "under"], .tup [.str "over", .str "under", .str "over", .str "under", .str "over", .str "under"]]]) (by kernel_rfl) st
theorem lt_2 (st : Store) : callK TT gc 60 68 [.p (.tup [.tup [.str "under", .str "over", .str "over"], .tup [.str "over", .str "over"]])] st = .ok (.p (.lst [.bl true, .bl true, .bl true, .bl true])) st := callK_any (xs := [.tup [.tup [.str "under", .str "over", .str "over"], .tup [.str "over", .str "over"]]]) (by kernel_rfl) st
theorem lk1_2 (st : Store) : callK TT gc 60 13 [.p (.tup [.tup [.str "under", .str "over", .str "over"], .tup [.str "over", .str "over"]]), .p (.tup [.tup [.str "under"], .tup [.str "over"]])] st = .ok (.p (.bl true)) st := callK_any (xs := [.tup [.tup [.str "under", .str "over", .str "over"], .tup [.str "over", .str "over"]], .tup [.tup [.str "under"], .tup [.str "over"]]]) (by kernel_rfl) st
theorem lk2_2 (st : Store) : callK TT gc 60 13 [.p (.tup [.tup [.str "over", .str "over"], .tup [.str "over", .str "over", .str "over"]]), .p (.tup [.tup [.str "over", .str "under", .str "over", .str "under"], .tup [.str "over", .str "under", .str "over", .str "under", .str "over", .str "under"]])] st = .ok (.p (.bl false)) st := callK_any (xs := [.tup [.tup [.str "over", .str "over"], .tup [.str "over", .str "over", .str "over"]], .tup [.tup [.str "over", .str "under", .str "over", .str "under"], .tup [.str "over", .str "under", .str "over", .str "under", .str "over", .str "under"]]]) (by kernel_rfl) st
theorem rtA_2 (st : Store) : callK TT gc 60 40 [.p (.tup [.tup [.str "over", .str "over"], .tup [.str "over", .str "over", .str "over"]])] st = .ok (.p (.str "oo:ooo")) st := callK_any (xs := [.tup [.tup [.str "over", .str "over"], .tup [.str "over", .str "over", .str "over"]]]) (by kernel_rfl) st
theorem rrA_2 (st : Store) : callK TT gc 60 41 [.p (.str "oo:ooo")] st = .ok (.p (.tup [.tup [.str "over", .str "over"], .tup [.str "over", .str "over", .str "over"]])) st := callK_any (xs := [.str "oo:ooo"]) (by kernel_rfl) st
theorem rtM_2 (st : Store) : callK TT gc 60 40 [.p (.tup [.tup [.str "over", .str "under", .str "over", .str "under"], .tup [.str "over", .str "under", .str "over", .str "under", .str "over", .str "under"]])] st = .ok (.p (.str "ouou:ououou")) st := callK_any (xs := [.tup [.tup [.str "over", .str "under", .str "over", .str "under"], .tup [.str "over", .str "under", .str "over", .str "under", .str "over", .str "under"]]]) (by kernel_rfl) st
theorem rrM_2 (st : Store) : callK TT gc 60 41 [.p (.str "ouou:ououou")] st = .ok (.p (.tup [.tup [.str "over", .str "under", .str "over", .str "under"], .tup [.str "over", .str "under", .str "over", .str "under", .str "over", .str "under"]])) st := callK_any (xs := [.str "ouou:ououou"]) (by kernel_rfl) st
theorem rtL_2 (st : Store) : callK TT gc 60 40 [.p (.tup [.tup [.str "under", .str "over", .str "over"], .tup [.str "over", .str "over"]])] st = .ok (.p (.str "uoo:oo")) st := callK_any (xs := [.tup [.tup [.str "under", .str "over", .str "over"], .tup [.str "over", .str "over"]]]) (by kernel_rfl) st
theorem rrL_2 (st : Store) : callK TT gc 60 41 [.p (.str "uoo:oo")] st = .ok (.p (.tup [.tup [.str "under", .str "over", .str "over"], .tup [.str "over", .str "over"]])) st := callK_any (xs := [.str "uoo:oo"]) (by kernel_rfl) st

theorem al_3_0 : exec C66 (ibAt d66.body 0) (startE d66 [.p (.tup [.tup [.str "over", .str "over", .str "over"], .tup [.str "over", .str "over", .str "over", .str "over"]])]) [] = .ok (.nx (E66 (.tup [.tup [.str "over", .str "over", .str "over"], .tup [.str "over", .str "over", .str "over", .str "over"]]) 2)) [] := by kernel_rfl
theorem al_3_1 : exec C66 (ibAt d66.body 1) (E66 (.tup [.tup [.str "over", .str "over", .str "over"], .tup [.str "over", .str "over", .str "over", .str "over"]]) 2) [] = .ok (.nx (E66 (.tup [.tup [.str "over", .str "over", .str "over"], .tup [.str "over", .str "over", .str "over", .str "over"]]) 3)) [] := by kernel_rfl
theorem al_3_2 : exec C66 (ibAt d66.body 2) (E66 (.tup [.tup [.str "over", .str "over", .str "over"], .tup [.str "over", .str "over", .str "over", .str "over"]]) 3) [] = .ok (.nx (E66 (.tup [.tup [.str "over", .str "over", .str "over"], .tup [.str "over", .str "over", .str "over", .str "over"]]) 4)) [] := by kernel_rfl
theorem al_3_3 : exec C66 (ibAt d66.body 3) (E66 (.tup [.tup [.str "over", .str "over", .str "over"], .tup [.str "over", .str "over", .str "over", .str "over"]]) 4) [] = .ok (.nx (E66 (.tup [.tup [.str "over", .str "over", .str "over"], .tup [.str "over", .str "over", .str "over", .str "over"]]) 5)) [] := by kernel_rfl
theorem al_3_4 : exec C66 (ibAt d66.body 4) (E66 (.tup [.tup [.str "over", .str "over", .str "over"], .tup [.str "over", .str "over", .str "over", .str "over"]]) 5) [] = .ok (.nx (E66 (.tup [.tup [.str "over", .str "over", .str "over"], .tup [.str "over", .str "over", .str "over", .str "over"]]) 6)) [] := by kernel_rfl
theorem al_3_5 : exec C66 (ibAt d66.body 5) (E66 (.tup [.tup [.str "over", .str "over", .str "over"], .tup [.str "over", .str "over", .str "over", .str "over"]]) 6) [] = .ok (.nx (E66 (.tup [.tup [.str "over", .str "over", .str "over"], .tup [.str "over", .str "over", .str "over", .str "over"]]) 7)) [] := by kernel_rfl
theorem al_3_6 : exec C66 (ibAt d66.body 6) (E66 (.tup [.tup [.str "over", .str "over", .str "over"], .tup [.str "over", .str "over", .str "over", .str "over"]]) 7) [] = .ok (.nx (E66 (.tup [.tup [.str "over", .str "over", .str "over"], .tup [.str "over", .str "over", .str "over", .str "over"]]) 8)) [] := by kernel_rfl
theorem al_3_7 : exec C66 (ibAt d66.body 7) (E66 (.tup [.tup [.str "over", .str "over", .str "over"], .tup [.str "over", .str "over", .str "over", .str "over"]]) 8) [] = .ok (.nx (E66 (.tup [.tup [.str "over", .str "over", .str "over"], .tup [.str "over", .str "over", .str "over", .str "over"]]) 9)) [] := by kernel_rfl
theorem al_3_8 : execs C66 (ibFrom d66.body 8) (E66 (.tup [.tup [.str "over", .str "over", .str "over"], .tup [.str "over", .str "over", .str "over", .str "over"]]) 9) [] = .ok (.rt (.p (.lst [.bl true, .bl true, .bl true, .bl true, .bl true, .bl true, .bl true, .bl true, .bl true, .bl true, .bl true, .bl true]))) [] := by kernel_rfl
theorem al_3 (st : Store) : callK TT gc 60 66 [.p (.tup [.tup [.str "over", .str "over", .str "over"], .tup [.str "over", .str "over", .str "over", .str "over"]])] st = .ok (.p (.lst [.bl true, .bl true, .bl true, .bl true, .bl true, .bl true, .bl true, .bl true, .bl true, .bl true, .bl true, .bl true])) st := callK_any (xs := [.tup [.tup [.str "over", .str "over", .str "over"], .tup [.str "over", .str "over", .str "over", .str "over"]]]) ((callK_eq (k := 59) (f := 66) (d := d66) (as := [.p (.tup [.tup [.str "over", .str "over", .str "over"], .tup [.str "over", .str "over", .str "over", .str "over"]])]) (st := []) rfl rfl).trans ((congrArg (fin 0) (show execs C66 d66.body (startE d66 [.p (.tup [.tup [.str "over", .str "over", .str "over"], .tup [.str "over", .str "over", .str "over", .str "over"]])]) [] = .ok (.rt (.p (.lst [.bl true, .bl true, .bl true, .bl true, .bl true, .bl true, .bl true, .bl true, .bl true, .bl true, .bl true, .bl true]))) [] from (ib_step (n := 0) rfl al_3_0).trans ((ib_step rfl al_3_1).trans ((ib_step rfl al_3_2).trans ((ib_step rfl al_3_3).trans ((ib_step rfl al_3_4).trans ((ib_step rfl al_3_5).trans ((ib_step rfl al_3_6).trans ((ib_step rfl al_3_7).trans al_3_8))))))))).trans rfl)) st
theorem mx_3 (st : Store) : callK TT gc 60 67 [.p (.tup [.tup [.str "over", .str "under", .str "over", .str "under", .str "over", .str "under"], .tup [.str "over", .str "under", .str "over", .str "under", .str "over", .str "under"]])] st = .ok (.p (.lst [.bl true, .bl true, .bl true, .bl true, .bl true, .bl true, .bl true])) st := callK_any (xs := [.tup [.tup [.str "over", .str "under", .str "over", .str "under", .str "over", .str "under"], .tup [.str "over", .str "under", .str "over", .str "under", .str "over", .str "under"]]]) (by kernel_rfl) st
theorem lt_3 (st : Store) : callK TT gc 60 68 [.p (.tup [.tup [.str "under", .str "over", .str "over", .str "over"], .tup [.str "over", .str "over"]])] st = .ok (.p (.lst [.bl true, .bl true, .bl true, .bl true])) st := callK_any (xs := [.tup [.tup [.str "under", .str "over", .str "over", .str "over"], .tup [.str "over", .str "over"]]]) (by kernel_rfl) st
theorem lk1_3 (st : Store) : callK TT gc 60 13 [.p (.tup [.tup [.str "under", .str "over", .str "over", .str "over"], .tup [.str "over", .str "over"]]), .p (.tup [.tup [.str "under"], .tup [.str "over"]])] st = .ok (.p (.bl true)) st := callK_any (xs := [.tup [.tup [.str "under", .str "over", .str "over", .str "over"], .tup [.str "over", .str "over"]], .tup [.tup [.str "under"], .tup [.str "over"]]]) (by kernel_rfl) st
theorem lk2_3 (st : Store) : callK TT gc 60 13 [.p (.tup [.tup [.str "over", .str "over", .str "over"], .tup [.str "over", .str "over", .str "over", .str "over"]]), .p (.tup [.tup [.str "over", .str "under", .str "over", .str "under", .str "over", .str "under"], .tup [.str "over", .str "under", .str "over", .str "under", .str "over", .str "under"]])] st = .ok (.p (.bl false)) st := callK_any (xs := [.tup [.tup [.str "over", .str "over", .str "over"], .tup [.str "over", .str "over", .str "over", .str "over"]], .tup [.tup [.str "over", .str "under", .str "over", .str "under", .str "over", .str "under"], .tup [.str "over", .str "under", .str "over", .str "under", .str "over", .str "under"]]]) (by kernel_rfl) st
theorem rtA_3 (st : Store) : callK TT gc 60 40 [.p (.tup [.tup [.str "over", .str "over", .str "over"], .tup [.str "over", .str "over", .str "over", .str "over"]])] st = .ok (.p (.str "ooo:oooo")) st := callK_any (xs := [.tup [.tup [.str "over", .str "over", .str "over"], .tup [.str "over", .str "over", .str "over", .str "over"]]]) (by kernel_rfl) st
theorem rrA_3 (st : Store) : callK TT gc 60 41 [.p (.str "ooo:oooo")] st = .ok (.p (.tup [.tup [.str "over", .str "over", .str "over"], .tup [.str "over", .str "over", .str "over", .str "over"]])) st := callK_any (xs := [.str "ooo:oooo"]) (by kernel_rfl) st
theorem rtM_3 (st : Store) : callK TT gc 60 40 [.p (.tup [.tup [.str "over", .str "under", .str "over", .str "under", .str "over", .str "under"], .tup [.str "over", .str "under", .str "over", .str "under", .str "over", .str "under"]])] st = .ok (.p (.str "ououou:ououou")) st := callK_any (xs := [.tup [.tup [.str "over", .str "under", .str "over", .str "under", .str "over", .str "under"], .tup [.str "over", .str "under", .str "over", .str "under", .str "over", .str "under"]]]) (by kernel_rfl) st
theorem rrM_3 (st : Store) : callK TT gc 60 41 [.p (.str "ououou:ououou")] st = .ok (.p (.tup [.tup [.str "over", .str "under", .str "over", .str "under", .str "over", .str "under"], .tup [.str "over", .str "under", .str "over", .str "under", .str "over", .str "under"]])) st := callK_any (xs := [.str "ououou:ououou"]) (by kernel_rfl) st
theorem rtL_3 (st : Store) : callK TT gc 60 40 [.p (.tup [.tup [.str "under", .str "over", .str "over", .str "over"], .tup [.str "over", .str "over"]])] st = .ok (.p (.str "uooo:oo")) st := callK_any (xs := [.tup [.tup [.str "under", .str "over", .str "over", .str "over"], .tup [.str "over", .str "over"]]]) (by kernel_rfl) st
theorem rrL_3 (st : Store) : callK TT gc 60 41 [.p (.str "uooo:oo")] st = .ok (.p (.tup [.tup [.str "under", .str "over", .str "over", .str "over"], .tup [.str "over", .str "over"]])) st := callK_any (xs := [.str "uooo:oo"]) (by kernel_rfl) st

theorem al_4_0 : exec C66 (ibAt d66.body 0) (startE d66 [.p (.tup [.tup [.str "over", .str "over", .str "over", .str "over"], .tup [.str "over", .str "over", .str "over", .str "over", .str "over"]])]) [] = .ok (.nx (E66 (.tup [.tup [.str "over", .str "over", .str "over", .str "over"], .tup [.str "over", .str "over", .str "over", .str "over", .str "over"]]) 2)) [] := by kernel_rfl
theorem al_4_1 : exec C66 (ibAt d66.body 1) (E66 (.tup [.tup [.str "over", .str "over", .str "over", .str "over"], .tup [.str "over", .str "over", .str "over", .str "over", .str "over"]]) 2) [] = .ok (.nx (E66 (.tup [.tup [.str "over", .str "over", .str "over", .str "over"], .tup [.str "over", .str "over", .str "over", .str "over", .str "over"]]) 3)) [] := by kernel_rfl
theorem al_4_2 : exec C66 (ibAt d66.body 2) (E66 (.tup [.tup [.str "over", .str "over", .str "over", .str "over"], .tup [.str "over", .str "over", .str "over", .str "over", .str "over"]]) 3) [] = .ok (.nx (E66 (.tup [.tup [.str "over", .str "over", .str "over", .str "over"], .tup [.str "over", .str "over", .str "over", .str "over", .str "over"]]) 4)) [] := by kernel_rfl
theorem al_4_3 : exec C66 (ibAt d66.body 3) (E66 (.tup [.tup [.str "over", .str "over", .str "over", .str "over"], .tup [.str "over", .str "over", .str "over", .str "over", .str "over"]]) 4) [] = .ok (.nx (E66 (.tup [.tup [.str "over", .str "over", .str "over", .str "over"], .tup [.str "over", .str "over", .str "over", .str "over", .str "over"]]) 5)) [] := by kernel_rfl
theorem al_4_4 : exec C66 (ibAt d66.body 4) (E66 (.tup [.tup [.str "over", .str "over", .str "over", .str "over"], .tup [.str "over", .str "over", .str "over", .str "over", .str "over"]]) 5) [] = .ok (.nx (E66 (.tup [.tup [.str "over", .str "over", .str "over", .str "over"], .tup [.str "over", .str "over", .str "over", .str "over", .str "over"]]) 6)) [] := by kernel_rfl
theorem al_4_5 : exec C66 (ibAt d66.body 5) (E66 (.tup [.tup [.str "over", .str "over", .str "over", .str "over"], .tup [.str "over", .str "over", .str "over", .str "over", .str "over"]]) 6) [] = .ok (.nx (E66 (.tup [.tup [.str "over", .str "over", .str "over", .str "over"], .tup [.str "over", .str "over", .str "over", .str "over", .str "over"]]) 7)) [] := by kernel_rfl
theorem al_4_6 : exec C66 (ibAt d66.body 6) (E66 (.tup [.tup [.str "over", .str "over", .str "over", .str "over"], .tup [.str "over", .str "over", .str "over", .str "over", .str "over"]]) 7) [] = .ok (.nx (E66 (.tup [.tup [.str "over", .str "over", .str "over", .str "over"], .tup [.str "over", .str "over", .str "over", .str "over", .str "over"]]) 8)) [] := by kernel_rfl
theorem al_4_7 : exec C66 (ibAt d66.body 7) (E66 (.tup [.tup [.str "over", .str "over", .str "over", .str "over"], .tup [.str "over", .str "over", .str "over", .str "over", .str "over"]]) 8) [] = .ok (.nx (E66 (.tup [.tup [.str "over", .str "over", .str "over", .str "over"], .tup [.str "over", .str "over", .str "over", .str "over", .str "over"]]) 9)) [] := by kernel_rfl
theorem al_4_8 : execs C66 (ibFrom d66.body 8) (E66 (.tup [.tup [.str "over", .str "over", .str "over", .str "over"], .tup [.str "over", .str "over", .str "over", .str "over", .str "over"]]) 9) [] = .ok (.rt (.p (.lst [.bl true, .bl true, .bl true, .bl true, .bl true, .bl true, .bl true, .bl true, .bl true, .bl true, .bl true, .bl true]))) [] := by kernel_rfl
theorem al_4 (st : Store) : callK TT gc 60 66 [.p (.tup [.tup [.str "over", .str "over", .str "over", .str "over"], .tup [.str "over", .str "over", .str "over", .str "over", .str "over"]])] st = .ok (.p (.lst [.bl true, .bl true, .bl true, .bl true, .bl true, .bl true, .bl true, .bl true, .bl true, .bl true, .bl true, .bl true])) st := callK_any (xs := [.tup [.tup [.str "over", .str "over", .str "over", .str "over"], .tup [.str "over", .str "over", .str "over", .str "over", .str "over"]]]) ((callK_eq (k := 59) (f := 66) (d := d66) (as := [.p (.tup [.tup [.str "over", .str "over", .str "over", .str "over"], .tup [.str "over", .str "over", .str "over", .str "over", .str "over"]])]) (st := []) rfl rfl).trans ((congrArg (fin 0) (show execs C66 d66.body (startE d66 [.p (.tup [.tup [.str "over", .str "over", .str "over", .str "over"], .tup [.str "over", .str "over", .str "over", .str "over", .str "over"]])]) [] = .ok (.rt (.p (.lst [.bl true, .bl true, .bl true, .bl true, .bl true, .bl true, .bl true, .bl true, .bl true, .bl true, .bl true, .bl true]))) [] from (ib_step (n := 0) rfl al_4_0).trans ((ib_step rfl al_4_1).trans ((ib_step rfl al_4_2).trans ((ib_step rfl al_4_3).trans ((ib_step rfl al_4_4).trans ((ib_step rfl al_4_5).trans ((ib_step rfl al_4_6).trans ((ib_step rfl al_4_7).trans al_4_8))))))))).trans rfl)) st
theorem mx_4 (st : Store) : callK TT gc 60 67 [.p (.tup [.tup [.str "over", .str "under", .str "over", .str "under", .str "over", .str "under", .str "over", .str "under"], .tup [.str "over", .str "under", .str "over", .str "under", .str "over", .str "under"]])] st = .ok (.p (.lst [.bl true, .bl true, .bl true, .bl true, .bl true, .bl true, .bl true])) st := callK_any (xs := [.tup [.tup [.str "over", .str "under", .str "over", .str "under", .str "over", .str "under", .str "over", .str "under"], .tup [.str "over", .str "under", .str "over", .str "under", .str "over", .str "under"]]]) (by kernel_rfl) st
theorem lt_4 (st : Store) : callK TT gc 60 68 [.p (.tup [.tup [.str "under", .str "over", .str "over", .str "over", .str "over"], .tup [.str "over", .str "over"]])] st = .ok (.p (.lst [.bl true, .bl true, .bl true, .bl true])) st := callK_any (xs := [.tup [.tup [.str "under", .str "over", .str "over", .str "over", .str "over"], .tup [.str "over", .str "over"]]]) (by kernel_rfl) st
theorem lk1_4 (st : Store) : callK TT gc 60 13 [.p (.tup [.tup [.str "under", .str "over", .str "over", .str "over", .str "over"], .tup [.str "over", .str "over"]]), .p (.tup [.tup [.str "under"], .tup [.str "over"]])] st = .ok (.p (.bl true)) st := callK_any (xs := [.tup [.tup [.str "under", .str "over", .str "over", .str "over", .str "over"], .tup [.str "over", .str "over"]], .tup [.tup [.str "under"], .tup [.str "over"]]]) (by kernel_rfl) st
theorem lk2_4 (st : Store) : callK TT gc 60 13 [.p (.tup [.tup [.str "over", .str "over", .str "over", .str "over"], .tup [.str "over", .str "over", .str "over", .str "over", .str "over"]]), .p (.tup [.tup [.str "over", .str "under", .str "over", .str "under", .str "over", .str "under", .str "over", .str "under"], .tup [.str "over", .str "under", .str "over", .str "under", .str "over", .str "under"]])] st = .ok (.p (.bl false)) st := callK_any (xs := [.tup [.tup [.str "over", .str "over", .str "over", .str "over"], .tup [.str "over", .str "over", .str "over", .str "over", .str "over"]], .tup [.tup [.str "over", .str "under", .str "over", .str "under", .str "over", .str "under", .str "over", .str "under"], .tup [.str "over", .str "under", .str "over", .str "under", .str "over", .str "under"]]]) (by kernel_rfl) st
theorem rtA_4 (st : Store) : callK TT gc 60 40 [.p (.tup [.tup [.str "over", .str "over", .str "over", .str "over"], .tup [.str "over", .str "over", .str "over", .str "over", .str "over"]])] st = .ok (.p (.str "oooo:ooooo")) st := callK_any (xs := [.tup [.tup [.str "over", .str "over", .str "over", .str "over"], .tup [.str "over", .str "over", .str "over", .str "over", .str "over"]]]) (by kernel_rfl) st
theorem rrA_4 (st : Store) : callK TT gc 60 41 [.p (.str "oooo:ooooo")] st = .ok (.p (.tup [.tup [.str "over", .str "over", .str "over", .str "over"], .tup [.str "over", .str "over", .str "over", .str "over", .str "over"]])) st := callK_any (xs := [.str "oooo:ooooo"]) (by kernel_rfl) st
theorem rtM_4 (st : Store) : callK TT gc 60 40 [.p (.tup [.tup [.str "over", .str "under", .str "over", .str "under", .str "over", .str "under", .str "over", .str "under"], .tup [.str "over", .str "under", .str "over", .str "under", .str "over", .str "under"]])] st = .ok (.p (.str "ouououou:ououou")) st := callK_any (xs := [.tup [.tup [.str "over", .str "under", .str "over", .str "under", .str "over", .str "under", .str "over", .str "under"], .tup [.str "over", .str "under", .str "over", .str "under", .str "over", .str "under"]]]) (by kernel_rfl) st
theorem rrM_4 (st : Store) : callK TT gc 60 41 [.p (.str "ouououou:ououou")] st = .ok (.p (.tup [.tup [.str "over", .str "under", .str "over", .str "under", .str "over", .str "under", .str "over", .str "under"], .tup [.str "over", .str "under", .str "over", .str "under", .str "over", .str "under"]])) st := callK_any (xs := [.str "ouououou:ououou"]) (by kernel_rfl) st
theorem rtL_4 (st : Store) : callK TT gc 60 40 [.p (.tup [.tup [.str "under", .str "over", .str "over", .str "over", .str "over"], .tup [.str "over", .str "over"]])] st = .ok (.p (.str "uoooo:oo")) st := callK_any (xs := [.tup [.tup [.str "under", .str "over", .str "over", .str "over", .str "over"], .tup [.str "over", .str "over"]]]) (by kernel_rfl) st
theorem rrL_4 (st : Store) : callK TT gc 60 41 [.p (.str "uoooo:oo")] st = .ok (.p (.tup [.tup [.str "under", .str "over", .str "over", .str "over", .str "over"], .tup [.str "over", .str "over"]])) st := callK_any (xs := [.str "uoooo:oo"]) (by kernel_rfl) st

end
end LAW
end

section
set_option Elab.async false
set_option linter.all false
set_option maxRecDepth 100000
set_option maxHeartbeats 0
set_option autoImplicit false
namespace LAW
open PySem L2 DE
local macro_rules
  | `(tactic| dsimp? [$xs,*] $[$loc:location]?) => `(tactic| simp only [$xs,*, EVC, EVD, EVS, pow18, pow28, pow30, setS, setO, startE, List.map_cons, List.map_nil, List.getElem?_cons_zero, List.getElem?_cons_succ, List.set_cons_zero, List.set_cons_succ, List.replicate_succ, List.replicate_zero, List.cons_append, List.nil_append, List.append_nil, if_true, if_false, Bool.true_and, Bool.and_true, List.length_cons, List.length_nil, Int.cast_ofNat_Int, BEq.rfl, eq_self, Option.map_some, Bool.not_true, Bool.not_false, decide_true, decide_false, Int.reduceLT, Int.reduceLE, Int.reduceNeg, Nat.reduceAdd, Nat.reduceLeDiff, Int.reduceAdd, Int.reduceSub, Int.reduceMul, Int.reduceEq, Nat.reduceSub, Nat.sub_self, Int.reduceBEq, Int.reduceBNe, Nat.reduceEqDiff, Int.reduceMod, Int.reduceDiv, GC0, GC1, GC2, GC3, GC4, GC5, GC6, GC7, GC8, GC9, GC10, GC11] $[$loc]?)
  | `(tactic| dsimp? $[$loc:location]?) => `(tactic| simp only [EVC, EVD, EVS, pow18, pow28, pow30, setS, setO, startE, List.map_cons, List.map_nil, List.getElem?_cons_zero, List.getElem?_cons_succ, List.set_cons_zero, List.set_cons_succ, List.replicate_succ, List.replicate_zero, List.cons_append, List.nil_append, List.append_nil, if_true, if_false, Bool.true_and, Bool.and_true, List.length_cons, List.length_nil, Int.cast_ofNat_Int, BEq.rfl, eq_self, Option.map_some, Bool.not_true, Bool.not_false, decide_true, decide_false, Int.reduceLT, Int.reduceLE, Int.reduceNeg, Nat.reduceAdd, Nat.reduceLeDiff, Int.reduceAdd, Int.reduceSub, Int.reduceMul, Int.reduceEq, Nat.reduceSub, Nat.sub_self, Int.reduceBEq, Int.reduceBNe, Nat.reduceEqDiff, Int.reduceMod, Int.reduceDiv, GC0, GC1, GC2, GC3, GC4, GC5, GC6, GC7, GC8, GC9, GC10, GC11] $[$loc]?)


section
def tailB : IB := match d70.body with
  | .cons _ b => b
  | _ => .nil
def okF (r : R Fl) : Bool := match r with
  | .ok (.rt (.p (.bl true))) _ => true
  | _ => false
theorem okF_ex {r : R Fl} (h : okF r = true) : ∃ st, r = .ok (.rt (.p (.bl true))) st := by
  unfold okF at h
  split at h
  · exact ⟨_, rfl⟩
  · cases h
theorem tail_ok (ns : List Int) (s1 s2 s3 s4 s5 s6 s7 s8 : Sl) (st : Store) : okF (DE.execs ⟨callK TT gc 60, gc, wdT TT⟩ tailB [.val (.p (.scr ns)), s1, s2, s3, s4, s5, s6, s7, s8] st) = true := by kernel_rfl
theorem rep1_0 {a : P} : rep 0 [a] = [] := rfl
theorem rep2_0 {a b : P} : rep 0 [a, b] = [] := rfl
theorem rep1_1 {a : P} : rep 1 [a] = [a] := rfl
theorem rep2_1 {a b : P} : rep 1 [a, b] = [a, b] := rfl
theorem rep1_2 {a : P} : rep 2 [a] = [a, a] := rfl
theorem rep2_2 {a b : P} : rep 2 [a, b] = [a, b, a, b] := rfl
theorem rep1_3 {a : P} : rep 3 [a] = [a, a, a] := rfl
theorem rep2_3 {a b : P} : rep 3 [a, b] = [a, b, a, b, a, b] := rfl
theorem rep1_4 {a : P} : rep 4 [a] = [a, a, a, a] := rfl
theorem rep2_4 {a b : P} : rep 4 [a, b] = [a, b, a, b, a, b, a, b] := rfl
theorem rep1_5 {a : P} : rep 5 [a] = [a, a, a, a, a] := rfl
theorem rep2_5 {a b : P} : rep 5 [a, b] = [a, b, a, b, a, b, a, b, a, b] := rfl
theorem sm_0 : small 0 = true := small_lit (by decide)
theorem sm_1 : small 1 = true := small_lit (by decide)
theorem sm_2 : small 2 = true := small_lit (by decide)
theorem sm_3 : small 3 = true := small_lit (by decide)
theorem sm_4 : small 4 = true := small_lit (by decide)
theorem sm_5 : small 5 = true := small_lit (by decide)
theorem sm_6 : small 6 = true := small_lit (by decide)
theorem sm_7 : small 7 = true := small_lit (by decide)
theorem sm_19 : small 19 = true := small_lit (by decide)
theorem sm_23 : small 23 = true := small_lit (by decide)
theorem in23 : opIn (.bl false) (.lst [.bl true, .bl true, .bl true, .bl true, .bl true, .bl true, .bl true, .bl true, .bl true, .bl true, .bl true, .bl true, .bl true, .bl true, .bl true, .bl true, .bl true, .bl true, .bl true, .bl true, .bl true, .bl true, .bl true]) = some false := by kernel_rfl
theorem eqA_0 : opEq (.tup [.tup [], .tup [.str "over"]]) (.tup [.tup [], .tup [.str "over"]]) = some true := by kernel_rfl
theorem eqM_0 : opEq (.tup [.tup [], .tup [.str "over", .str "under", .str "over", .str "under", .str "over", .str "under"]]) (.tup [.tup [], .tup [.str "over", .str "under", .str "over", .str "under", .str "over", .str "under"]]) = some true := by kernel_rfl
theorem eqL_0 : opEq (.tup [.tup [.str "under"], .tup [.str "over", .str "over"]]) (.tup [.tup [.str "under"], .tup [.str "over", .str "over"]]) = some true := by kernel_rfl
theorem eqA_1 : opEq (.tup [.tup [.str "over"], .tup [.str "over", .str "over"]]) (.tup [.tup [.str "over"], .tup [.str "over", .str "over"]]) = some true := by kernel_rfl
theorem eqM_1 : opEq (.tup [.tup [.str "over", .str "under"], .tup [.str "over", .str "under", .str "over", .str "under", .str "over", .str "under"]]) (.tup [.tup [.str "over", .str "under"], .tup [.str "over", .str "under", .str "over", .str "under", .str "over", .str "under"]]) = some true := by kernel_rfl
theorem eqL_1 : opEq (.tup [.tup [.str "under", .str "over"], .tup [.str "over", .str "over"]]) (.tup [.tup [.str "under", .str "over"], .tup [.str "over", .str "over"]]) = some true := by kernel_rfl
theorem eqA_2 : opEq (.tup [.tup [.str "over", .str "over"], .tup [.str "over", .str "over", .str "over"]]) (.tup [.tup [.str "over", .str "over"], .tup [.str "over", .str "over", .str "over"]]) = some true := by kernel_rfl
theorem eqM_2 : opEq (.tup [.tup [.str "over", .str "under", .str "over", .str "under"], .tup [.str "over", .str "under", .str "over", .str "under", .str "over", .str "under"]]) (.tup [.tup [.str "over", .str "under", .str "over", .str "under"], .tup [.str "over", .str "under", .str "over", .str "under", .str "over", .str "under"]]) = some true := by kernel_rfl
theorem eqL_2 : opEq (.tup [.tup [.str "under", .str "over", .str "over"], .tup [.str "over", .str "over"]]) (.tup [.tup [.str "under", .str "over", .str "over"], .tup [.str "over", .str "over"]]) = some true := by kernel_rfl
theorem eqA_3 : opEq (.tup [.tup [.str "over", .str "over", .str "over"], .tup [.str "over", .str "over", .str "over", .str "over"]]) (.tup [.tup [.str "over", .str "over", .str "over"], .tup [.str "over", .str "over", .str "over", .str "over"]]) = some true := by kernel_rfl
theorem eqM_3 : opEq (.tup [.tup [.str "over", .str "under", .str "over", .str "under", .str "over", .str "under"], .tup [.str "over", .str "under", .str "over", .str "under", .str "over", .str "under"]]) (.tup [.tup [.str "over", .str "under", .str "over", .str "under", .str "over", .str "under"], .tup [.str "over", .str "under", .str "over", .str "under", .str "over", .str "under"]]) = some true := by kernel_rfl
theorem eqL_3 : opEq (.tup [.tup [.str "under", .str "over", .str "over", .str "over"], .tup [.str "over", .str "over"]]) (.tup [.tup [.str "under", .str "over", .str "over", .str "over"], .tup [.str "over", .str "over"]]) = some true := by kernel_rfl
theorem eqA_4 : opEq (.tup [.tup [.str "over", .str "over", .str "over", .str "over"], .tup [.str "over", .str "over", .str "over", .str "over", .str "over"]]) (.tup [.tup [.str "over", .str "over", .str "over", .str "over"], .tup [.str "over", .str "over", .str "over", .str "over", .str "over"]]) = some true := by kernel_rfl
theorem eqM_4 : opEq (.tup [.tup [.str "over", .str "under", .str "over", .str "under", .str "over", .str "under", .str "over", .str "under"], .tup [.str "over", .str "under", .str "over", .str "under", .str "over", .str "under"]]) (.tup [.tup [.str "over", .str "under", .str "over", .str "under", .str "over", .str "under", .str "over", .str "under"], .tup [.str "over", .str "under", .str "over", .str "under", .str "over", .str "under"]]) = some true := by kernel_rfl
theorem eqL_4 : opEq (.tup [.tup [.str "under", .str "over", .str "over", .str "over", .str "over"], .tup [.str "over", .str "over"]]) (.tup [.tup [.str "under", .str "over", .str "over", .str "over", .str "over"], .tup [.str "over", .str "over"]]) = some true := by kernel_rfl
theorem forC_cons {c : Cf} {tg : Tg} {b : IB} {x : P} {xs : List P} {env env1 env2 : DE.Env} {st st2 : Store} (h1 : asgT tg (.p x) env = some env1) (h2 : DE.execs c b env1 st = .ok (.nx env2) st2) : forC c tg b (x :: xs) env st = forC c tg b xs env2 st2 := by
  unfold forC
  rw [forGo]
  simp only [h1, h2, R.bind]
theorem forC_nil {c : Cf} {tg : Tg} {b : IB} {env : DE.Env} {st : Store} : forC c tg b [] env st = .ok (.nx env) st := rfl
theorem loop {x : P} {t : Str} {xs : List P} {e0 e1 e2 e3 e4 e5 e6 e7 e8 : Sl} {st : Store} (h1 : callK TT gc 60 40 [.p x] st = .ok (.p (.str t)) st) (h2 : callK TT gc 60 41 [.p (.str t)] st = .ok (.p x) st) (h3 : opEq x x = some true) :
    forC ⟨callK TT gc 60, gc, wdT TT⟩ (.one 8) (.cons (.ife (.cmp .NotEq (.call 41 (.cons (.call 40 (.cons (.v 8) .nil)) .nil)) (.v 8)) (.cons (.ret (.bl false)) .nil) .nil) .nil) (x :: xs) [e0, e1, e2, e3, e4, e5, e6, e7, e8] st =
      forC ⟨callK TT gc 60, gc, wdT TT⟩ (.one 8) (.cons (.ife (.cmp .NotEq (.call 41 (.cons (.call 40 (.cons (.v 8) .nil)) .nil)) (.v 8)) (.cons (.ret (.bl false)) .nil) .nil) .nil) xs [e0, e1, e2, e3, e4, e5, e6, e7, .val (.p x)] st := by
  refine forC_cons rfl ?_
  dsimp? [h1, h2, h3]
theorem law_true (ns : List Int) (hl : ns.length ≤ 63) (hb : ∀ z ∈ ns, Builtin.Int.intBits z ≤ 1048576) : ∃ st, callK TT gc 61 70 [.p (.scr ns)] [] = .ok (.p (.bl true)) st := by
  have w : Wp (callK TT gc 61 70 [.p (.scr ns)] []) fun d st => d = .p (.bl true) := by
    rw [callK_eq T70 rfl]
    have tl := tail_ok ns
    dsimp? [d70]
    generalize hm : (if (3 : Int) < if (ns.length : Int) < 6 then (ns.length : Int) else 6 then _ else (3 : Int)) = m
    have hm1 : 3 ≤ m ∧ m ≤ 6 := by
      rw [← hm]
      split
      · split at * <;> omega
      · omega
    dsimp? [rngOk_any]
    refine Wp.fin (wp_kB (forC_wp (fun i env st => ∃ s1 s2 s3 s4 s5 s6 s7 s8, env = [.val (.p (.scr ns)), s1, s2, s3, s4, s5, s6, s7, s8]) ?_ ?_ ⟨_, _, _, _, _, _, _, _, rfl⟩))
    · rintro i x env st hx ⟨s1, s2, s3, s4, s5, s6, s7, s8, rfl⟩
      obtain ⟨rfl, hlt⟩ := rngP_get hx
      refine ⟨_, rfl, ?_⟩
      have c0 : (0 : Int) + (i : Int) = (i : Int) := Int.zero_add _
      dsimp? [c0]
      obtain ⟨_, st1, e1, rfl, S1, hl1⟩ := (sheet (k := 59) (st := st) (ns := ns) (i := i) (by omega)).ex
      simp only [Nat.reduceAdd] at e1
      dsimp? [e1]
      generalize st.length = b at S1 hl1
      obtain ⟨_, st2, e2, r1, rfl, r10, r11, D2⟩ := (tear (k := 59) (m := 5) S1 (by decide) (log_lit (by decide) (by decide))).ex
      simp only [Nat.reduceAdd] at e2
      have hr : r1 = 0 ∨ r1 = 1 ∨ r1 = 2 ∨ r1 = 3 ∨ r1 = 4 := by omega
      rcases hr with rfl | rfl | rfl | rfl | rfl
      · dsimp? [e2, rep1_0, rep1_1, rep1_2, rep1_3, rep1_4, rep1_5, rep2_0, rep2_1, rep2_2, rep2_3, rep2_4, rep2_5, sm_0, sm_1, sm_2, sm_3, sm_4, sm_5, sm_6, sm_7, sm_19, sm_23, in23, al_0, mx_0, lt_0, lk1_0, lk2_0, rtA_0, rrA_0, rtM_0, rrM_0, rtL_0, rrL_0]
        rw [loop (rtA_0 st2) (rrA_0 st2) eqA_0, loop (rtM_0 st2) (rrM_0 st2) eqM_0, loop (rtL_0 st2) (rrL_0 st2) eqL_0, forC_nil]
        dsimp?
        exact ⟨_, _, _, _, _, _, _, _, rfl⟩
      · dsimp? [e2, rep1_0, rep1_1, rep1_2, rep1_3, rep1_4, rep1_5, rep2_0, rep2_1, rep2_2, rep2_3, rep2_4, rep2_5, sm_0, sm_1, sm_2, sm_3, sm_4, sm_5, sm_6, sm_7, sm_19, sm_23, in23, al_1, mx_1, lt_1, lk1_1, lk2_1, rtA_1, rrA_1, rtM_1, rrM_1, rtL_1, rrL_1]
        rw [loop (rtA_1 st2) (rrA_1 st2) eqA_1, loop (rtM_1 st2) (rrM_1 st2) eqM_1, loop (rtL_1 st2) (rrL_1 st2) eqL_1, forC_nil]
        dsimp?
        exact ⟨_, _, _, _, _, _, _, _, rfl⟩
      · dsimp? [e2, rep1_0, rep1_1, rep1_2, rep1_3, rep1_4, rep1_5, rep2_0, rep2_1, rep2_2, rep2_3, rep2_4, rep2_5, sm_0, sm_1, sm_2, sm_3, sm_4, sm_5, sm_6, sm_7, sm_19, sm_23, in23, al_2, mx_2, lt_2, lk1_2, lk2_2, rtA_2, rrA_2, rtM_2, rrM_2, rtL_2, rrL_2]
        rw [loop (rtA_2 st2) (rrA_2 st2) eqA_2, loop (rtM_2 st2) (rrM_2 st2) eqM_2, loop (rtL_2 st2) (rrL_2 st2) eqL_2, forC_nil]
        dsimp?
        exact ⟨_, _, _, _, _, _, _, _, rfl⟩
      · dsimp? [e2, rep1_0, rep1_1, rep1_2, rep1_3, rep1_4, rep1_5, rep2_0, rep2_1, rep2_2, rep2_3, rep2_4, rep2_5, sm_0, sm_1, sm_2, sm_3, sm_4, sm_5, sm_6, sm_7, sm_19, sm_23, in23, al_3, mx_3, lt_3, lk1_3, lk2_3, rtA_3, rrA_3, rtM_3, rrM_3, rtL_3, rrL_3]
        rw [loop (rtA_3 st2) (rrA_3 st2) eqA_3, loop (rtM_3 st2) (rrM_3 st2) eqM_3, loop (rtL_3 st2) (rrL_3 st2) eqL_3, forC_nil]
        dsimp?
        exact ⟨_, _, _, _, _, _, _, _, rfl⟩
      · dsimp? [e2, rep1_0, rep1_1, rep1_2, rep1_3, rep1_4, rep1_5, rep2_0, rep2_1, rep2_2, rep2_3, rep2_4, rep2_5, sm_0, sm_1, sm_2, sm_3, sm_4, sm_5, sm_6, sm_7, sm_19, sm_23, in23, al_4, mx_4, lt_4, lk1_4, lk2_4, rtA_4, rrA_4, rtM_4, rrM_4, rtL_4, rrL_4]
        rw [loop (rtA_4 st2) (rrA_4 st2) eqA_4, loop (rtM_4 st2) (rrM_4 st2) eqM_4, loop (rtL_4 st2) (rrL_4 st2) eqL_4, forC_nil]
        dsimp?
        exact ⟨_, _, _, _, _, _, _, _, rfl⟩
    · rintro env st ⟨s1, s2, s3, s4, s5, s6, s7, s8, rfl⟩
      obtain ⟨st', ew⟩ := okF_ex (tl s1 s2 s3 s4 s5 s6 s7 s8 st)
      exact ⟨_, _, ew, rfl⟩
  obtain ⟨d, st, e, rfl⟩ := w.ex
  exact ⟨st, e⟩
end


end LAW
end

section
set_option Elab.async false
set_option linter.all false
set_option maxRecDepth 100000
set_option maxHeartbeats 0
namespace LAW
open PySem L2 DE PyProof.Rows
theorem ck0 : DE.chB { nm with l := false } N0 (defScope (top 17)) d0.body (defBody (top 17)) = true := by decide +kernel
theorem ck1 : DE.chB { nm with l := false } N1 (defScope (top 18)) d1.body (defBody (top 18)) = true := by decide +kernel
theorem ck2 : DE.chB { nm with l := false } N2 (defScope (top 19)) d2.body (defBody (top 19)) = true := by decide +kernel
theorem ck3 : DE.chB { nm with l := false } N3 (defScope (top 20)) d3.body (defBody (top 20)) = true := by decide +kernel
theorem ck4 : DE.chB { nm with l := false } N4 (defScope (top 21)) d4.body (defBody (top 21)) = true := by decide +kernel
theorem ck5 : DE.chB { nm with l := false } N5 (defScope (top 22)) d5.body (defBody (top 22)) = true := by decide +kernel
theorem ck6 : DE.chB { nm with l := false } N6 (defScope (top 23)) d6.body (defBody (top 23)) = true := by decide +kernel
theorem ck7 : DE.chB { nm with l := false } N7 (defScope (top 24)) d7.body (defBody (top 24)) = true := by decide +kernel
theorem ck8 : DE.chB { nm with l := false } N8 (defScope (top 25)) d8.body (defBody (top 25)) = true := by decide +kernel
theorem ck9 : DE.chB { nm with l := false } N9 (defScope (top 26)) d9.body (defBody (top 26)) = true := by decide +kernel
theorem ck10 : DE.chB { nm with l := false } N10 (defScope (top 27)) d10.body (defBody (top 27)) = true := by decide +kernel
theorem ck11 : DE.chB { nm with l := false } N11 (defScope (top 28)) d11.body (defBody (top 28)) = true := by decide +kernel
theorem ck12 : DE.chB { nm with l := false } N12 (defScope (top 29)) d12.body (defBody (top 29)) = true := by decide +kernel
theorem ck13 : DE.chB { nm with l := false } N13 (defScope (top 30)) d13.body (defBody (top 30)) = true := by decide +kernel
theorem ck14 : DE.chB { nm with l := false } N14 (defScope (top 32)) d14.body (defBody (top 32)) = true := by decide +kernel
theorem ck15 : DE.chB { nm with l := false } N15 (defScope (top 33)) d15.body (defBody (top 33)) = true := by decide +kernel
theorem ck16 : DE.chB { nm with l := false } N16 (defScope (top 34)) d16.body (defBody (top 34)) = true := by decide +kernel
theorem ck17 : DE.chB { nm with l := false } N17 (defScope (top 35)) d17.body (defBody (top 35)) = true := by decide +kernel
theorem ck18 : DE.chB { nm with l := false } N18 (defScope (top 36)) d18.body (defBody (top 36)) = true := by decide +kernel
theorem ck19 : DE.chB { nm with l := false } N19 (defScope (top 41)) d19.body (defBody (top 41)) = true := by decide +kernel
theorem ck20 : DE.chB { nm with l := false } N20 (defScope (top 42)) d20.body (defBody (top 42)) = true := by decide +kernel
theorem ck21 : DE.chB { nm with l := false } N21 (defScope (top 43)) d21.body (defBody (top 43)) = true := by decide +kernel
theorem ck22 : DE.chB { nm with l := false } N22 (defScope (top 44)) d22.body (defBody (top 44)) = true := by decide +kernel
theorem ck23 : DE.chB { nm with l := false } N23 (defScope (top 45)) d23.body (defBody (top 45)) = true := by decide +kernel
theorem ck24 : DE.chB { nm with l := false } N24 (defScope (top 46)) d24.body (defBody (top 46)) = true := by decide +kernel
theorem ck25 : DE.chB { nm with l := false } N25 (defScope (top 47)) d25.body (defBody (top 47)) = true := by decide +kernel
theorem ck26 : DE.chB { nm with l := false } N26 (defScope (top 48)) d26.body (defBody (top 48)) = true := by decide +kernel
theorem ck27 : DE.chB { nm with l := false } N27 (defScope (top 49)) d27.body (defBody (top 49)) = true := by decide +kernel
theorem ck28 : DE.chB { nm with l := false } N28 (defScope (top 50)) d28.body (defBody (top 50)) = true := by decide +kernel
theorem ck29 : DE.chB { nm with l := false } N29 (defScope (top 53)) d29.body (defBody (top 53)) = true := by decide +kernel
theorem ck30 : DE.chB { nm with l := false } N30 (defScope (top 54)) d30.body (defBody (top 54)) = true := by decide +kernel
theorem ck31 : DE.chB { nm with l := false } N31 (defScope (top 55)) d31.body (defBody (top 55)) = true := by decide +kernel
theorem ck32 : DE.chB { nm with l := false } N32 (defScope (top 56)) d32.body (defBody (top 56)) = true := by decide +kernel
theorem ck33 : DE.chB { nm with l := false } N33 (defScope (top 57)) d33.body (defBody (top 57)) = true := by decide +kernel
theorem ck34 : DE.chB { nm with l := false } N34 (defScope (top 58)) d34.body (defBody (top 58)) = true := by decide +kernel
theorem ck35 : DE.chB { nm with l := false } N35 (defScope (top 59)) d35.body (defBody (top 59)) = true := by decide +kernel
theorem ck36 : DE.chB { nm with l := false } N36 (defScope (top 60)) d36.body (defBody (top 60)) = true := by decide +kernel
theorem ck37 : DE.chB { nm with l := false } N37 (defScope (top 61)) d37.body (defBody (top 61)) = true := by decide +kernel
theorem ck38 : DE.chB { nm with l := false } N38 (defScope (top 63)) d38.body (defBody (top 63)) = true := by decide +kernel
theorem ck39 : DE.chB { nm with l := false } N39 (defScope (top 64)) d39.body (defBody (top 64)) = true := by decide +kernel
theorem ck40 : DE.chB { nm with l := false } N40 (defScope (top 65)) d40.body (defBody (top 65)) = true := by decide +kernel
theorem ck41 : DE.chB { nm with l := false } N41 (defScope (top 66)) d41.body (defBody (top 66)) = true := by decide +kernel
theorem ck42 : DE.chB { nm with l := false } N42 (defScope (top 70)) d42.body (defBody (top 70)) = true := by decide +kernel
theorem ck43 : DE.chB { nm with l := false } N43 (defScope (top 71)) d43.body (defBody (top 71)) = true := by decide +kernel
theorem ck44 : DE.chB { nm with l := false } N44 (defScope (top 72)) d44.body (defBody (top 72)) = true := by decide +kernel
theorem ck45 : DE.chB { nm with l := false } N45 (defScope (top 73)) d45.body (defBody (top 73)) = true := by decide +kernel
theorem ck46 : DE.chB { nm with l := false } N46 (defScope (top 74)) d46.body (defBody (top 74)) = true := by decide +kernel
theorem ck47 : DE.chB { nm with l := false } N47 (defScope (top 75)) d47.body (defBody (top 75)) = true := by decide +kernel
theorem ck48 : DE.chB { nm with l := false } N48 (defScope (top 76)) d48.body (defBody (top 76)) = true := by decide +kernel
theorem ck49 : DE.chB { nm with l := false } N49 (defScope (top 77)) d49.body (defBody (top 77)) = true := by decide +kernel
theorem ck50 : DE.chB { nm with l := false } N50 (defScope (top 78)) d50.body (defBody (top 78)) = true := by decide +kernel
theorem ck51 : DE.chB { nm with l := false } N51 (defScope (top 81)) d51.body (defBody (top 81)) = true := by decide +kernel
theorem ck52 : DE.chB { nm with l := false } N52 (defScope (top 82)) d52.body (defBody (top 82)) = true := by decide +kernel
theorem ck53 : DE.chB { nm with l := false } N53 (defScope (top 83)) d53.body (defBody (top 83)) = true := by decide +kernel
theorem ck54 : DE.chB { nm with l := false } N54 (defScope (top 84)) d54.body (defBody (top 84)) = true := by decide +kernel
theorem ck55 : DE.chB { nm with l := false } N55 (defScope (top 85)) d55.body (defBody (top 85)) = true := by decide +kernel
theorem ck56 : DE.chB { nm with l := false } N56 (defScope (top 86)) d56.body (defBody (top 86)) = true := by decide +kernel
theorem ck57 : DE.chB { nm with l := false } N57 (defScope (top 87)) d57.body (defBody (top 87)) = true := by decide +kernel
theorem ck58 : DE.chB { nm with l := false } N58 (defScope (top 88)) d58.body (defBody (top 88)) = true := by decide +kernel
theorem ck59 : DE.chB { nm with l := false } N59 (defScope (top 89)) d59.body (defBody (top 89)) = true := by decide +kernel
theorem ck60 : DE.chB { nm with l := false } N60 (defScope (top 91)) d60.body (defBody (top 91)) = true := by decide +kernel
theorem ck61 : DE.chB { nm with l := false } N61 (defScope (top 92)) d61.body (defBody (top 92)) = true := by decide +kernel
theorem ck66 : DE.chB { nm with l := false } N66 (defScope (top 97)) d66.body (defBody (top 97)) = true := by decide +kernel
theorem ck67 : DE.chB { nm with l := false } N67 (defScope (top 98)) d67.body (defBody (top 98)) = true := by decide +kernel
theorem ck68 : DE.chB { nm with l := false } N68 (defScope (top 99)) d68.body (defBody (top 99)) = true := by decide +kernel
theorem ck69 : DE.chB { nm with l := false } N69 (defScope (top 100)) d69.body (defBody (top 100)) = true := by decide +kernel
theorem ck70 : DE.chB { nm with l := false } N70 (defScope (top 101)) d70.body (defBody (top 101)) = true := by decide +kernel
def fn : List He.DefD := [
⟨("is_integer", none), "is_integer", "is_integer", defArgs (top 17), defBody (top 17), defScope (top 17), [], []⟩,
  ⟨("is_fold", none), "is_fold", "is_fold", defArgs (top 18), defBody (top 18), defScope (top 18), [], []⟩,
  ⟨("are_folds", none), "are_folds", "are_folds", defArgs (top 19), defBody (top 19), defScope (top 19), [], []⟩,
  ⟨("is_recipe", none), "is_recipe", "is_recipe", defArgs (top 20), defBody (top 20), defScope (top 20), [], []⟩,
  ⟨("need_recipe", none), "need_recipe", "need_recipe", defArgs (top 21), defBody (top 21), defScope (top 21), [], []⟩,
  ⟨("need_many", none), "need_many", "need_many", defArgs (top 22), defBody (top 22), defScope (top 22), [], []⟩,
  ⟨("power", none), "power", "power", defArgs (top 23), defBody (top 23), defScope (top 23), [], []⟩,
  ⟨("item_of", none), "item_of", "item_of", defArgs (top 24), defBody (top 24), defScope (top 24), [], []⟩,
  ⟨("folds_of", none), "folds_of", "folds_of", defArgs (top 25), defBody (top 25), defScope (top 25), [], []⟩,
  ⟨("shortest", none), "shortest", "shortest", defArgs (top 26), defBody (top 26), defScope (top 26), [], []⟩,
  ⟨("plain_by", none), "plain_by", "plain_by", defArgs (top 27), defBody (top 27), defScope (top 27), [], []⟩,
  ⟨("fold_at", none), "fold_at", "fold_at", defArgs (top 28), defBody (top 28), defScope (top 28), [], []⟩,
  ⟨("plain", none), "plain", "plain", defArgs (top 29), defBody (top 29), defScope (top 29), [], []⟩,
  ⟨("like", none), "like", "like", defArgs (top 30), defBody (top 30), defScope (top 30), [], []⟩,
  ⟨("other_way", none), "other_way", "other_way", defArgs (top 32), defBody (top 32), defScope (top 32), [], []⟩,
  ⟨("back_by", none), "back_by", "back_by", defArgs (top 33), defBody (top 33), defScope (top 33), [], []⟩,
  ⟨("flipped", none), "flipped", "flipped", defArgs (top 34), defBody (top 34), defScope (top 34), [], []⟩,
  ⟨("backward", none), "backward", "backward", defArgs (top 35), defBody (top 35), defScope (top 35), [], []⟩,
  ⟨("ways", none), "ways", "ways", defArgs (top 36), defBody (top 36), defScope (top 36), [], []⟩,
  ⟨("last_place", none), "last_place", "last_place", defArgs (top 41), defBody (top 41), defScope (top 41), [], []⟩,
  ⟨("halved", none), "halved", "halved", defArgs (top 42), defBody (top 42), defScope (top 42), [], []⟩,
  ⟨("crease_by", none), "crease_by", "crease_by", defArgs (top 43), defBody (top 43), defScope (top 43), [], []⟩,
  ⟨("row_by", none), "row_by", "row_by", defArgs (top 44), defBody (top 44), defScope (top 44), [], []⟩,
  ⟨("valleys_by", none), "valleys_by", "valleys_by", defArgs (top 45), defBody (top 45), defScope (top 45), [], []⟩,
  ⟨("need_place", none), "need_place", "need_place", defArgs (top 46), defBody (top 46), defScope (top 46), [], []⟩,
  ⟨("need_strip", none), "need_strip", "need_strip", defArgs (top 47), defBody (top 47), defScope (top 47), [], []⟩,
  ⟨("crease", none), "crease", "crease", defArgs (top 48), defBody (top 48), defScope (top 48), [], []⟩,
  ⟨("row", none), "row", "row", defArgs (top 49), defBody (top 49), defScope (top 49), [], []⟩,
  ⟨("valleys", none), "valleys", "valleys", defArgs (top 50), defBody (top 50), defScope (top 50), [], []⟩,
  ⟨("is_sight", none), "is_sight", "is_sight", defArgs (top 53), defBody (top 53), defScope (top 53), [], []⟩,
  ⟨("need_sights", none), "need_sights", "need_sights", defArgs (top 54), defBody (top 54), defScope (top 54), [], []⟩,
  ⟨("fold_told", none), "fold_told", "fold_told", defArgs (top 55), defBody (top 55), defScope (top 55), [], []⟩,
  ⟨("told_by", none), "told_by", "told_by", defArgs (top 56), defBody (top 56), defScope (top 56), [], []⟩,
  ⟨("goes", none), "goes", "goes", defArgs (top 57), defBody (top 57), defScope (top 57), [], []⟩,
  ⟨("told", none), "told", "told", defArgs (top 58), defBody (top 58), defScope (top 58), [], []⟩,
  ⟨("clash", none), "clash", "clash", defArgs (top 59), defBody (top 59), defScope (top 59), [], []⟩,
  ⟨("sure", none), "sure", "sure", defArgs (top 60), defBody (top 60), defScope (top 60), [], []⟩,
  ⟨("numbers_for", none), "numbers_for", "numbers_for", defArgs (top 61), defBody (top 61), defScope (top 61), [], []⟩,
  ⟨("letters_of", none), "letters_of", "letters_of", defArgs (top 63), defBody (top 63), defScope (top 63), [], []⟩,
  ⟨("folds_in", none), "folds_in", "folds_in", defArgs (top 64), defBody (top 64), defScope (top 64), [], []⟩,
  ⟨("recipe_text", none), "recipe_text", "recipe_text", defArgs (top 65), defBody (top 65), defScope (top 65), [], []⟩,
  ⟨("read_recipe", none), "read_recipe", "read_recipe", defArgs (top 66), defBody (top 66), defScope (top 66), [], []⟩,
  ⟨("sign_of", none), "sign_of", "sign_of", defArgs (top 70), defBody (top 70), defScope (top 70), [], []⟩,
  ⟨("unit_by", none), "unit_by", "unit_by", defArgs (top 71), defBody (top 71), defScope (top 71), [], []⟩,
  ⟨("corner_by", none), "corner_by", "corner_by", defArgs (top 72), defBody (top 72), defScope (top 72), [], []⟩,
  ⟨("steps_by", none), "steps_by", "steps_by", defArgs (top 73), defBody (top 73), defScope (top 73), [], []⟩,
  ⟨("need_step", none), "need_step", "need_step", defArgs (top 74), defBody (top 74), defScope (top 74), [], []⟩,
  ⟨("corner", none), "corner", "corner", defArgs (top 75), defBody (top 75), defScope (top 75), [], []⟩,
  ⟨("steps_at", none), "steps_at", "steps_at", defArgs (top 76), defBody (top 76), defScope (top 76), [], []⟩,
  ⟨("sides", none), "sides", "sides", defArgs (top 77), defBody (top 77), defScope (top 77), [], []⟩,
  ⟨("twice", none), "twice", "twice", defArgs (top 78), defBody (top 78), defScope (top 78), [], []⟩,
  ⟨("is_word", none), "is_word", "is_word", defArgs (top 81), defBody (top 81), defScope (top 81), [], []⟩,
  ⟨("need_word", none), "need_word", "need_word", defArgs (top 82), defBody (top 82), defScope (top 82), [], []⟩,
  ⟨("spread", none), "spread", "spread", defArgs (top 83), defBody (top 83), defScope (top 83), [], []⟩,
  ⟨("last_begin", none), "last_begin", "last_begin", defArgs (top 84), defBody (top 84), defScope (top 84), [], []⟩,
  ⟨("place_by", none), "place_by", "place_by", defArgs (top 85), defBody (top 85), defScope (top 85), [], []⟩,
  ⟨("enough_folds", none), "enough_folds", "enough_folds", defArgs (top 86), defBody (top 86), defScope (top 86), [], []⟩,
  ⟨("first_place", none), "first_place", "first_place", defArgs (top 87), defBody (top 87), defScope (top 87), [], []⟩,
  ⟨("first_come", none), "first_come", "first_come", defArgs (top 88), defBody (top 88), defScope (top 88), [], []⟩,
  ⟨("all_words", none), "all_words", "all_words", defArgs (top 89), defBody (top 89), defScope (top 89), [], []⟩,
  ⟨("_law_sheet", none), "_law_sheet", "_law_sheet", defArgs (top 91), defBody (top 91), defScope (top 91), [], []⟩,
  ⟨("_law_tear", none), "_law_tear", "_law_tear", defArgs (top 92), defBody (top 92), defScope (top 92), [], []⟩,
  ⟨("_law_always", none), "_law_always", "_law_always", defArgs (top 97), defBody (top 97), defScope (top 97), [], []⟩,
  ⟨("_law_mixed", none), "_law_mixed", "_law_mixed", defArgs (top 98), defBody (top 98), defScope (top 98), [], []⟩,
  ⟨("_law_late", none), "_law_late", "_law_late", defArgs (top 99), defBody (top 99), defScope (top 99), [], []⟩,
  ⟨("_law_seen", none), "_law_seen", "_law_seen", defArgs (top 100), defBody (top 100), defScope (top 100), [], []⟩,
  ⟨("law", none), "law", "law", defArgs (top 101), defBody (top 101), defScope (top 101), [], []⟩]
def xNames : List Str := ["Impossible", "InvalidCorner", "InvalidNumber", "InvalidPlace", "InvalidRecipe", "InvalidSights", "InvalidStep", "InvalidText", "InvalidWord"]
def gNames : List Str := (["is_integer", "is_fold", "are_folds", "is_recipe", "need_recipe", "need_many", "power", "item_of", "folds_of", "shortest", "plain_by", "fold_at", "plain", "like", "other_way", "back_by", "flipped", "backward", "ways", "last_place", "halved", "crease_by", "row_by", "valleys_by", "need_place", "need_strip", "crease", "row", "valleys", "is_sight"] : List Str) ++ (["need_sights", "fold_told", "told_by", "goes", "told", "clash", "sure", "numbers_for", "letters_of", "folds_in", "recipe_text", "read_recipe", "sign_of", "unit_by", "corner_by", "steps_by", "need_step", "corner", "steps_at", "sides", "twice", "is_word", "need_word", "spread", "last_begin", "place_by", "enough_folds", "first_place", "first_come", "all_words"] : List Str) ++ (["_law_sheet", "_law_tear", "_law_always", "_law_mixed", "_law_late", "_law_seen", "law"] : List Str)
def cFacts : List He.Fa := [.int "GREAT" 1000000000000000000000000000000, .int "MOST_FOLDS" 100, .int "MOST_WRITTEN" 12, .str "OVER" "over", .str "UNDER" "under", .int "MOST_IN_ROW" 60, .str "VALLEY" "v", .str "HILL" "m", .int "MOST_SIGHTS" 8, .int "MOST_TWICE" 9, .int "MOST_IN_WORD" 12]
def rNames : List Str := ["InvalidRecipe", "InvalidNumber", "InvalidPlace", "InvalidWord", "InvalidSights", "InvalidStep", "InvalidCorner", "InvalidText", "Impossible"]
def mFacts : List He.Fa := []
def faL : List He.Fa := DE.freeNames.map .free ++ (gNames.map .glo ++ (xNames.map .glo ++ (xNames.map .exc ++ (cFacts ++ mFacts))))
def tf : List He.Defn := []
def exB0 (K : PySem.W.Frag) : Bool := true
def exB (K : PySem.W.Frag) : Bool := exB0 K && DE.conB K "UNITS" (.tup [(.tup [(.int 1), (.int 0)]), (.tup [(.int 0), (.int 1)]), (.tup [(.int (-1)), (.int 0)]), (.tup [(.int 0), (.int (-1))])])
def loose : List PySem.Str := (["StripError", "InvalidRecipe", "InvalidNumber", "InvalidPlace", "InvalidWord", "InvalidSights", "InvalidStep", "InvalidCorner", "InvalidText", "Impossible", "GREAT", "MOST_FOLDS", "MOST_WRITTEN", "OVER", "UNDER", "is_integer", "is_fold", "are_folds", "is_recipe", "need_recipe", "need_many", "power", "item_of", "folds_of", "shortest", "plain_by", "fold_at", "plain", "like", "other_way"] : List PySem.Str) ++ (["back_by", "flipped", "backward", "ways", "MOST_IN_ROW", "VALLEY", "HILL", "last_place", "halved", "crease_by", "row_by", "valleys_by", "need_place", "need_strip", "crease", "row", "valleys", "MOST_SIGHTS", "is_sight", "need_sights", "fold_told", "told_by", "goes", "told", "clash", "sure", "numbers_for", "letters_of", "folds_in", "recipe_text"] : List PySem.Str) ++ (["read_recipe", "MOST_TWICE", "UNITS", "sign_of", "unit_by", "corner_by", "steps_by", "need_step", "corner", "steps_at", "sides", "twice", "MOST_IN_WORD", "is_word", "need_word", "spread", "last_begin", "place_by", "enough_folds", "first_place", "first_come", "all_words", "_law_sheet", "_law_tear", "_law_pick", "_law_folds", "_law_any_recipe", "_law_first", "_law_always", "_law_mixed"] : List PySem.Str) ++ (["_law_late", "_law_seen"] : List PySem.Str)
abbrev RR : PySem.W.OpenRow := PySem.W.OpenLaw.row PySem.Challenge.rw_foldedstrip_k16_known_strips_by_hand
abbrev hk : PySem.W.Hook := HK.hook HK.pick faL fn tf exB
def ob (s : PySem.W.SharedT) : He.AlX := HK.seen HK.pick faL fn tf exB (HandSHeadRun.getT s)
theorem ob_eq (s : PySem.W.SharedT) : ob s = hk.obs s.abs := HK.seen_eq (HandSHeadRun.getT_eq s)
open HandSHeadRun PySem.W in
theorem look1 : HR.Look RR 8000 (fun w s => (looksF RR.prog (boot_heap w.params) s.abs, He.tabsB (getT s) tf (HR.KK s))) fun _ => (true, true) := by
  intro w os
  kernel_rfl
open HandSHeadRun PySem.W in
theorem look2 : HR.Look RR 8000 (fun _ s => seenQ (view RR.prog [101]) loose (importedModules RR.prog.main.body) (fun s => xlAt (view RR.prog [101]) [] s && recOk RR.toRowW.records s) s.abs) fun _ => openGood (view RR.prog [101]) loose := by
  intro w os
  kernel_rfl
theorem look3 : HR.Look RR 8000 (fun _ s => faL.all fun f => f.ok (HR.KK s)) fun _ => true := by
  intro w os
  kernel_rfl
theorem look4 : HR.Look RR 8000 (fun _ s => (fn.all fun d => d.ok (HR.KK s), fn.map fun d => He.fnW (HR.KK s) d.at_)) fun _ => (true, fn.map He.DefD.val) := by
  intro w os
  kernel_rfl
theorem look5 : HR.Look RR 8000 (fun _ s => exB (HR.KK s)) fun _ => true := by
  intro w os
  kernel_rfl
theorem run (w : World) : HandSHeadRun.RunEq RR (PySem.W.view RR.prog [101]) hk ob 8000 loose w := HR.run_of look1.left look2 look3 look4.left look4.right look5 look1.right w
end LAW
end

section
set_option Elab.async false
set_option linter.all false
set_option maxRecDepth 100000
set_option maxHeartbeats 0
namespace LAW
open PySem L2 DE PyProof.Rows
theorem glo_mem {x : Str} (h : x ∈ gNames) : He.Fa.glo x ∈ faL := List.mem_append_right _ (List.mem_append_left _ (List.mem_map_of_mem h))
theorem xglo_mem {x : Str} (h : x ∈ xNames) : He.Fa.glo x ∈ faL := List.mem_append_right _ (List.mem_append_right _ (List.mem_append_left _ (List.mem_map_of_mem h)))
theorem exc_mem {x : Str} (h : x ∈ xNames) : He.Fa.exc x ∈ faL := List.mem_append_right _ (List.mem_append_right _ (List.mem_append_right _ (List.mem_append_left _ (List.mem_map_of_mem h))))
theorem cf_mem {f : He.Fa} (h : f ∈ cFacts) : f ∈ faL := List.mem_append_right _ (List.mem_append_right _ (List.mem_append_right _ (List.mem_append_right _ (List.mem_append_left _ h))))
theorem mf_mem {f : He.Fa} (h : f ∈ mFacts) : f ∈ faL := List.mem_append_right _ (List.mem_append_right _ (List.mem_append_right _ (List.mem_append_right _ (List.mem_append_right _ h))))
def tfq : List (He.Defn × Str) := []
def tbs (K : PySem.W.Frag) : List (Addr × Str) := tfq.map fun q => ((He.cT K q.1).2, q.2)
theorem tbs_mem {K : PySem.W.Frag} {p : Addr × Str} (h : p ∈ tbs K) : ∃ q ∈ tf, (He.cT K q).2 = p.1 := by
  obtain ⟨q, hq, rfl⟩ := List.mem_map.mp h
  exact ⟨q.1, of_decide_eq_true (List.all_eq_true.mp (show tfq.all (fun q => decide (q.1 ∈ tf)) = true by decide +kernel) q hq), rfl⟩
def faK (K : PySem.W.Frag) : DE.Fa := ⟨fun i => if i < 1000 then He.ga K (dTab.getD i "") else He.ga K (eTab.getD (i - 1000) ""), tbs K, []⟩
theorem sc0 : FnScope N0 ["value", "low", "high"] (defScope (top 17)) := ⟨rfl, rfl, rfl, by decide +kernel, rfl, by decide +kernel, by decide +kernel⟩
theorem sc1 : FnScope N1 ["value"] (defScope (top 18)) := ⟨rfl, rfl, rfl, by decide +kernel, rfl, by decide +kernel, by decide +kernel⟩
theorem sc2 : FnScope N2 ["value"] (defScope (top 19)) := ⟨rfl, rfl, rfl, by decide +kernel, rfl, by decide +kernel, by decide +kernel⟩
theorem sc3 : FnScope N3 ["value"] (defScope (top 20)) := ⟨rfl, rfl, rfl, by decide +kernel, rfl, by decide +kernel, by decide +kernel⟩
theorem sc4 : FnScope N4 ["value"] (defScope (top 21)) := ⟨rfl, rfl, rfl, by decide +kernel, rfl, by decide +kernel, by decide +kernel⟩
theorem sc5 : FnScope N5 ["value"] (defScope (top 22)) := ⟨rfl, rfl, rfl, by decide +kernel, rfl, by decide +kernel, by decide +kernel⟩
theorem sc6 : FnScope N6 ["many"] (defScope (top 23)) := ⟨rfl, rfl, rfl, by decide +kernel, rfl, by decide +kernel, by decide +kernel⟩
theorem sc7 : FnScope N7 ["pair", "number"] (defScope (top 24)) := ⟨rfl, rfl, rfl, by decide +kernel, rfl, by decide +kernel, by decide +kernel⟩
theorem sc8 : FnScope N8 ["recipe", "many"] (defScope (top 25)) := ⟨rfl, rfl, rfl, by decide +kernel, rfl, by decide +kernel, by decide +kernel⟩
theorem sc9 : FnScope N9 ["early", "again"] (defScope (top 26)) := ⟨rfl, rfl, rfl, by decide +kernel, rfl, by decide +kernel, by decide +kernel⟩
theorem sc10 : FnScope N10 ["recipe"] (defScope (top 27)) := ⟨rfl, rfl, rfl, by decide +kernel, rfl, by decide +kernel, by decide +kernel⟩
theorem sc11 : FnScope N11 ["recipe", "number"] (defScope (top 28)) := ⟨rfl, rfl, rfl, by decide +kernel, rfl, by decide +kernel, by decide +kernel⟩
theorem sc12 : FnScope N12 ["recipe"] (defScope (top 29)) := ⟨rfl, rfl, rfl, by decide +kernel, rfl, by decide +kernel, by decide +kernel⟩
theorem sc13 : FnScope N13 ["one", "other"] (defScope (top 30)) := ⟨rfl, rfl, rfl, by decide +kernel, rfl, by decide +kernel, by decide +kernel⟩
theorem sc14 : FnScope N14 ["folds"] (defScope (top 32)) := ⟨rfl, rfl, rfl, by decide +kernel, rfl, by decide +kernel, by decide +kernel⟩
theorem sc15 : FnScope N15 ["folds"] (defScope (top 33)) := ⟨rfl, rfl, rfl, by decide +kernel, rfl, by decide +kernel, by decide +kernel⟩
theorem sc16 : FnScope N16 ["recipe"] (defScope (top 34)) := ⟨rfl, rfl, rfl, by decide +kernel, rfl, by decide +kernel, by decide +kernel⟩
theorem sc17 : FnScope N17 ["recipe"] (defScope (top 35)) := ⟨rfl, rfl, rfl, by decide +kernel, rfl, by decide +kernel, by decide +kernel⟩
theorem sc18 : FnScope N18 ["one", "other", "many"] (defScope (top 36)) := ⟨rfl, rfl, rfl, by decide +kernel, rfl, by decide +kernel, by decide +kernel⟩
theorem sc19 : FnScope N19 ["many"] (defScope (top 41)) := ⟨rfl, rfl, rfl, by decide +kernel, rfl, by decide +kernel, by decide +kernel⟩
theorem sc20 : FnScope N20 ["place"] (defScope (top 42)) := ⟨rfl, rfl, rfl, by decide +kernel, rfl, by decide +kernel, by decide +kernel⟩
theorem sc21 : FnScope N21 ["folds", "place"] (defScope (top 43)) := ⟨rfl, rfl, rfl, by decide +kernel, rfl, by decide +kernel, by decide +kernel⟩
theorem sc22 : FnScope N22 ["folds", "place", "length"] (defScope (top 44)) := ⟨rfl, rfl, rfl, by decide +kernel, rfl, by decide +kernel, by decide +kernel⟩
theorem sc23 : FnScope N23 ["folds", "place"] (defScope (top 45)) := ⟨rfl, rfl, rfl, by decide +kernel, rfl, by decide +kernel, by decide +kernel⟩
theorem sc24 : FnScope N24 ["many", "place"] (defScope (top 46)) := ⟨rfl, rfl, rfl, by decide +kernel, rfl, by decide +kernel, by decide +kernel⟩
theorem sc25 : FnScope N25 ["recipe", "many"] (defScope (top 47)) := ⟨rfl, rfl, rfl, by decide +kernel, rfl, by decide +kernel, by decide +kernel⟩
theorem sc26 : FnScope N26 ["recipe", "many", "place"] (defScope (top 48)) := ⟨rfl, rfl, rfl, by decide +kernel, rfl, by decide +kernel, by decide +kernel⟩
theorem sc27 : FnScope N27 ["recipe", "many", "place", "length"] (defScope (top 49)) := ⟨rfl, rfl, rfl, by decide +kernel, rfl, by decide +kernel, by decide +kernel⟩
theorem sc28 : FnScope N28 ["recipe", "many", "place"] (defScope (top 50)) := ⟨rfl, rfl, rfl, by decide +kernel, rfl, by decide +kernel, by decide +kernel⟩
theorem sc29 : FnScope N29 ["value"] (defScope (top 53)) := ⟨rfl, rfl, rfl, by decide +kernel, rfl, by decide +kernel, by decide +kernel⟩
theorem sc30 : FnScope N30 ["value"] (defScope (top 54)) := ⟨rfl, rfl, rfl, by decide +kernel, rfl, by decide +kernel, by decide +kernel⟩
theorem sc31 : FnScope N31 ["many", "sight"] (defScope (top 55)) := ⟨rfl, rfl, rfl, by decide +kernel, rfl, by decide +kernel, by decide +kernel⟩
theorem sc32 : FnScope N32 ["many", "sights"] (defScope (top 56)) := ⟨rfl, rfl, rfl, by decide +kernel, rfl, by decide +kernel, by decide +kernel⟩
theorem sc33 : FnScope N33 ["folds", "sights"] (defScope (top 57)) := ⟨rfl, rfl, rfl, by decide +kernel, rfl, by decide +kernel, by decide +kernel⟩
theorem sc34 : FnScope N34 ["many", "sights"] (defScope (top 58)) := ⟨rfl, rfl, rfl, by decide +kernel, rfl, by decide +kernel, by decide +kernel⟩
theorem sc35 : FnScope N35 ["many", "sights"] (defScope (top 59)) := ⟨rfl, rfl, rfl, by decide +kernel, rfl, by decide +kernel, by decide +kernel⟩
theorem sc36 : FnScope N36 ["many", "sights", "place"] (defScope (top 60)) := ⟨rfl, rfl, rfl, by decide +kernel, rfl, by decide +kernel, by decide +kernel⟩
theorem sc37 : FnScope N37 ["recipe", "sights"] (defScope (top 61)) := ⟨rfl, rfl, rfl, by decide +kernel, rfl, by decide +kernel, by decide +kernel⟩
theorem sc38 : FnScope N38 ["folds"] (defScope (top 63)) := ⟨rfl, rfl, rfl, by decide +kernel, rfl, by decide +kernel, by decide +kernel⟩
theorem sc39 : FnScope N39 ["letters"] (defScope (top 64)) := ⟨rfl, rfl, rfl, by decide +kernel, rfl, by decide +kernel, by decide +kernel⟩
theorem sc40 : FnScope N40 ["recipe"] (defScope (top 65)) := ⟨rfl, rfl, rfl, by decide +kernel, rfl, by decide +kernel, by decide +kernel⟩
theorem sc41 : FnScope N41 ["value"] (defScope (top 66)) := ⟨rfl, rfl, rfl, by decide +kernel, rfl, by decide +kernel, by decide +kernel⟩
theorem sc42 : FnScope N42 ["fold"] (defScope (top 70)) := ⟨rfl, rfl, rfl, by decide +kernel, rfl, by decide +kernel, by decide +kernel⟩
theorem sc43 : FnScope N43 ["folds", "step"] (defScope (top 71)) := ⟨rfl, rfl, rfl, by decide +kernel, rfl, by decide +kernel, by decide +kernel⟩
theorem sc44 : FnScope N44 ["folds", "step"] (defScope (top 72)) := ⟨rfl, rfl, rfl, by decide +kernel, rfl, by decide +kernel, by decide +kernel⟩
theorem sc45 : FnScope N45 ["folds", "point", "known"] (defScope (top 73)) := ⟨rfl, rfl, rfl, by decide +kernel, rfl, by decide +kernel, by decide +kernel⟩
theorem sc46 : FnScope N46 ["many", "value"] (defScope (top 74)) := ⟨rfl, rfl, rfl, by decide +kernel, rfl, by decide +kernel, by decide +kernel⟩
theorem sc47 : FnScope N47 ["recipe", "many", "step"] (defScope (top 75)) := ⟨rfl, rfl, rfl, by decide +kernel, rfl, by decide +kernel, by decide +kernel⟩
theorem sc48 : FnScope N48 ["recipe", "many", "point"] (defScope (top 76)) := ⟨rfl, rfl, rfl, by decide +kernel, rfl, by decide +kernel, by decide +kernel⟩
theorem sc49 : FnScope N49 ["recipe"] (defScope (top 77)) := ⟨rfl, rfl, rfl, by decide +kernel, rfl, by decide +kernel, by decide +kernel⟩
theorem sc50 : FnScope N50 ["recipe", "few"] (defScope (top 78)) := ⟨rfl, rfl, rfl, by decide +kernel, rfl, by decide +kernel, by decide +kernel⟩
theorem sc51 : FnScope N51 ["value"] (defScope (top 81)) := ⟨rfl, rfl, rfl, by decide +kernel, rfl, by decide +kernel, by decide +kernel⟩
theorem sc52 : FnScope N52 ["value"] (defScope (top 82)) := ⟨rfl, rfl, rfl, by decide +kernel, rfl, by decide +kernel, by decide +kernel⟩
theorem sc53 : FnScope N53 ["length"] (defScope (top 83)) := ⟨rfl, rfl, rfl, by decide +kernel, rfl, by decide +kernel, by decide +kernel⟩
theorem sc54 : FnScope N54 ["many", "length"] (defScope (top 84)) := ⟨rfl, rfl, rfl, by decide +kernel, rfl, by decide +kernel, by decide +kernel⟩
theorem sc55 : FnScope N55 ["folds", "word"] (defScope (top 85)) := ⟨rfl, rfl, rfl, by decide +kernel, rfl, by decide +kernel, by decide +kernel⟩
theorem sc56 : FnScope N56 ["recipe", "length"] (defScope (top 86)) := ⟨rfl, rfl, rfl, by decide +kernel, rfl, by decide +kernel, by decide +kernel⟩
theorem sc57 : FnScope N57 ["recipe", "many", "word"] (defScope (top 87)) := ⟨rfl, rfl, rfl, by decide +kernel, rfl, by decide +kernel, by decide +kernel⟩
theorem sc58 : FnScope N58 ["recipe", "word"] (defScope (top 88)) := ⟨rfl, rfl, rfl, by decide +kernel, rfl, by decide +kernel, by decide +kernel⟩
theorem sc59 : FnScope N59 ["recipe", "length"] (defScope (top 89)) := ⟨rfl, rfl, rfl, by decide +kernel, rfl, by decide +kernel, by decide +kernel⟩
theorem sc60 : FnScope N60 ["_law_script", "_law_k"] (defScope (top 91)) := ⟨rfl, rfl, rfl, by decide +kernel, rfl, by decide +kernel, by decide +kernel⟩
theorem sc61 : FnScope N61 ["_law_sheet_here", "_law_many"] (defScope (top 92)) := ⟨rfl, rfl, rfl, by decide +kernel, rfl, by decide +kernel, by decide +kernel⟩
theorem sc66 : FnScope N66 ["_law_recipe"] (defScope (top 97)) := ⟨rfl, rfl, rfl, by decide +kernel, rfl, by decide +kernel, by decide +kernel⟩
theorem sc67 : FnScope N67 ["_law_recipe"] (defScope (top 98)) := ⟨rfl, rfl, rfl, by decide +kernel, rfl, by decide +kernel, by decide +kernel⟩
theorem sc68 : FnScope N68 ["_law_recipe"] (defScope (top 99)) := ⟨rfl, rfl, rfl, by decide +kernel, rfl, by decide +kernel, by decide +kernel⟩
theorem sc69 : FnScope N69 [] (defScope (top 100)) := ⟨rfl, rfl, rfl, by decide +kernel, rfl, by decide +kernel, by decide +kernel⟩
theorem sc70 : FnScope N70 ["_law_script"] (defScope (top 101)) := ⟨rfl, rfl, rfl, by decide +kernel, rfl, by decide +kernel, by decide +kernel⟩
theorem exB1 {K : PySem.W.Frag} (h : exB K = true) : true = true := (Bool.and_eq_true_iff.mp h).1
section
variable {K : PySem.W.Frag} {mg : Str → Option Value} {h : Heap}
theorem at0 {fd : FuncData} (F : FunD K "is_integer" "is_integer" (defArgs (top 17)) (defBody (top 17)) (defScope (top 17)) [] [] (He.fAd K ("is_integer", none)) fd) (c : He.SaysD faL fn K) (X : K.In h) (G : h.Ns mainGlobals mg) : DE.DefAt K mg h nm (faK K) TT 0 "is_integer" ["value", "low", "high"] fd :=
  ⟨_, _, _, N0, d0, false, F, He.glo_ok X G (c.facts (glo_mem (by decide +kernel))), F.bindsN (fun _ _ _ _ _ _ us hl => match us, hl with | [_, _, _], _ => rfl), sc0, rfl, rfl, rfl, by decide, ck0, fun h => by cases h⟩
theorem at1 {fd : FuncData} (F : FunD K "is_fold" "is_fold" (defArgs (top 18)) (defBody (top 18)) (defScope (top 18)) [] [] (He.fAd K ("is_fold", none)) fd) (c : He.SaysD faL fn K) (X : K.In h) (G : h.Ns mainGlobals mg) : DE.DefAt K mg h nm (faK K) TT 1 "is_fold" ["value"] fd :=
  ⟨_, _, _, N1, d1, false, F, He.glo_ok X G (c.facts (glo_mem (by decide +kernel))), F.bindsN (fun _ _ _ _ _ _ us hl => match us, hl with | [_], _ => rfl), sc1, rfl, rfl, rfl, by decide, ck1, fun h => by cases h⟩
theorem at2 {fd : FuncData} (F : FunD K "are_folds" "are_folds" (defArgs (top 19)) (defBody (top 19)) (defScope (top 19)) [] [] (He.fAd K ("are_folds", none)) fd) (c : He.SaysD faL fn K) (X : K.In h) (G : h.Ns mainGlobals mg) : DE.DefAt K mg h nm (faK K) TT 2 "are_folds" ["value"] fd :=
  ⟨_, _, _, N2, d2, false, F, He.glo_ok X G (c.facts (glo_mem (by decide +kernel))), F.bindsN (fun _ _ _ _ _ _ us hl => match us, hl with | [_], _ => rfl), sc2, rfl, rfl, rfl, by decide, ck2, fun h => by cases h⟩
theorem at3 {fd : FuncData} (F : FunD K "is_recipe" "is_recipe" (defArgs (top 20)) (defBody (top 20)) (defScope (top 20)) [] [] (He.fAd K ("is_recipe", none)) fd) (c : He.SaysD faL fn K) (X : K.In h) (G : h.Ns mainGlobals mg) : DE.DefAt K mg h nm (faK K) TT 3 "is_recipe" ["value"] fd :=
  ⟨_, _, _, N3, d3, false, F, He.glo_ok X G (c.facts (glo_mem (by decide +kernel))), F.bindsN (fun _ _ _ _ _ _ us hl => match us, hl with | [_], _ => rfl), sc3, rfl, rfl, rfl, by decide, ck3, fun h => by cases h⟩
theorem at4 {fd : FuncData} (F : FunD K "need_recipe" "need_recipe" (defArgs (top 21)) (defBody (top 21)) (defScope (top 21)) [] [] (He.fAd K ("need_recipe", none)) fd) (c : He.SaysD faL fn K) (X : K.In h) (G : h.Ns mainGlobals mg) : DE.DefAt K mg h nm (faK K) TT 4 "need_recipe" ["value"] fd :=
  ⟨_, _, _, N4, d4, false, F, He.glo_ok X G (c.facts (glo_mem (by decide +kernel))), F.bindsN (fun _ _ _ _ _ _ us hl => match us, hl with | [_], _ => rfl), sc4, rfl, rfl, rfl, by decide, ck4, fun h => by cases h⟩
theorem at5 {fd : FuncData} (F : FunD K "need_many" "need_many" (defArgs (top 22)) (defBody (top 22)) (defScope (top 22)) [] [] (He.fAd K ("need_many", none)) fd) (c : He.SaysD faL fn K) (X : K.In h) (G : h.Ns mainGlobals mg) : DE.DefAt K mg h nm (faK K) TT 5 "need_many" ["value"] fd :=
  ⟨_, _, _, N5, d5, false, F, He.glo_ok X G (c.facts (glo_mem (by decide +kernel))), F.bindsN (fun _ _ _ _ _ _ us hl => match us, hl with | [_], _ => rfl), sc5, rfl, rfl, rfl, by decide, ck5, fun h => by cases h⟩
theorem at6 {fd : FuncData} (F : FunD K "power" "power" (defArgs (top 23)) (defBody (top 23)) (defScope (top 23)) [] [] (He.fAd K ("power", none)) fd) (c : He.SaysD faL fn K) (X : K.In h) (G : h.Ns mainGlobals mg) : DE.DefAt K mg h nm (faK K) TT 6 "power" ["many"] fd :=
  ⟨_, _, _, N6, d6, false, F, He.glo_ok X G (c.facts (glo_mem (by decide +kernel))), F.bindsN (fun _ _ _ _ _ _ us hl => match us, hl with | [_], _ => rfl), sc6, rfl, rfl, rfl, by decide, ck6, fun h => by cases h⟩
theorem at7 {fd : FuncData} (F : FunD K "item_of" "item_of" (defArgs (top 24)) (defBody (top 24)) (defScope (top 24)) [] [] (He.fAd K ("item_of", none)) fd) (c : He.SaysD faL fn K) (X : K.In h) (G : h.Ns mainGlobals mg) : DE.DefAt K mg h nm (faK K) TT 7 "item_of" ["pair", "number"] fd :=
  ⟨_, _, _, N7, d7, false, F, He.glo_ok X G (c.facts (glo_mem (by decide +kernel))), F.bindsN (fun _ _ _ _ _ _ us hl => match us, hl with | [_, _], _ => rfl), sc7, rfl, rfl, rfl, by decide, ck7, fun h => by cases h⟩
theorem at8 {fd : FuncData} (F : FunD K "folds_of" "folds_of" (defArgs (top 25)) (defBody (top 25)) (defScope (top 25)) [] [] (He.fAd K ("folds_of", none)) fd) (c : He.SaysD faL fn K) (X : K.In h) (G : h.Ns mainGlobals mg) : DE.DefAt K mg h nm (faK K) TT 8 "folds_of" ["recipe", "many"] fd :=
  ⟨_, _, _, N8, d8, false, F, He.glo_ok X G (c.facts (glo_mem (by decide +kernel))), F.bindsN (fun _ _ _ _ _ _ us hl => match us, hl with | [_, _], _ => rfl), sc8, rfl, rfl, rfl, by decide, ck8, fun h => by cases h⟩
theorem at9 {fd : FuncData} (F : FunD K "shortest" "shortest" (defArgs (top 26)) (defBody (top 26)) (defScope (top 26)) [] [] (He.fAd K ("shortest", none)) fd) (c : He.SaysD faL fn K) (X : K.In h) (G : h.Ns mainGlobals mg) : DE.DefAt K mg h nm (faK K) TT 9 "shortest" ["early", "again"] fd :=
  ⟨_, _, _, N9, d9, false, F, He.glo_ok X G (c.facts (glo_mem (by decide +kernel))), F.bindsN (fun _ _ _ _ _ _ us hl => match us, hl with | [_, _], _ => rfl), sc9, rfl, rfl, rfl, by decide, ck9, fun h => by cases h⟩
theorem at10 {fd : FuncData} (F : FunD K "plain_by" "plain_by" (defArgs (top 27)) (defBody (top 27)) (defScope (top 27)) [] [] (He.fAd K ("plain_by", none)) fd) (c : He.SaysD faL fn K) (X : K.In h) (G : h.Ns mainGlobals mg) : DE.DefAt K mg h nm (faK K) TT 10 "plain_by" ["recipe"] fd :=
  ⟨_, _, _, N10, d10, false, F, He.glo_ok X G (c.facts (glo_mem (by decide +kernel))), F.bindsN (fun _ _ _ _ _ _ us hl => match us, hl with | [_], _ => rfl), sc10, rfl, rfl, rfl, by decide, ck10, fun h => by cases h⟩
theorem at11 {fd : FuncData} (F : FunD K "fold_at" "fold_at" (defArgs (top 28)) (defBody (top 28)) (defScope (top 28)) [] [] (He.fAd K ("fold_at", none)) fd) (c : He.SaysD faL fn K) (X : K.In h) (G : h.Ns mainGlobals mg) : DE.DefAt K mg h nm (faK K) TT 11 "fold_at" ["recipe", "number"] fd :=
  ⟨_, _, _, N11, d11, false, F, He.glo_ok X G (c.facts (glo_mem (by decide +kernel))), F.bindsN (fun _ _ _ _ _ _ us hl => match us, hl with | [_, _], _ => rfl), sc11, rfl, rfl, rfl, by decide, ck11, fun h => by cases h⟩
theorem at12 {fd : FuncData} (F : FunD K "plain" "plain" (defArgs (top 29)) (defBody (top 29)) (defScope (top 29)) [] [] (He.fAd K ("plain", none)) fd) (c : He.SaysD faL fn K) (X : K.In h) (G : h.Ns mainGlobals mg) : DE.DefAt K mg h nm (faK K) TT 12 "plain" ["recipe"] fd :=
  ⟨_, _, _, N12, d12, false, F, He.glo_ok X G (c.facts (glo_mem (by decide +kernel))), F.bindsN (fun _ _ _ _ _ _ us hl => match us, hl with | [_], _ => rfl), sc12, rfl, rfl, rfl, by decide, ck12, fun h => by cases h⟩
theorem at13 {fd : FuncData} (F : FunD K "like" "like" (defArgs (top 30)) (defBody (top 30)) (defScope (top 30)) [] [] (He.fAd K ("like", none)) fd) (c : He.SaysD faL fn K) (X : K.In h) (G : h.Ns mainGlobals mg) : DE.DefAt K mg h nm (faK K) TT 13 "like" ["one", "other"] fd :=
  ⟨_, _, _, N13, d13, false, F, He.glo_ok X G (c.facts (glo_mem (by decide +kernel))), F.bindsN (fun _ _ _ _ _ _ us hl => match us, hl with | [_, _], _ => rfl), sc13, rfl, rfl, rfl, by decide, ck13, fun h => by cases h⟩
theorem at14 {fd : FuncData} (F : FunD K "other_way" "other_way" (defArgs (top 32)) (defBody (top 32)) (defScope (top 32)) [] [] (He.fAd K ("other_way", none)) fd) (c : He.SaysD faL fn K) (X : K.In h) (G : h.Ns mainGlobals mg) : DE.DefAt K mg h nm (faK K) TT 14 "other_way" ["folds"] fd :=
  ⟨_, _, _, N14, d14, false, F, He.glo_ok X G (c.facts (glo_mem (by decide +kernel))), F.bindsN (fun _ _ _ _ _ _ us hl => match us, hl with | [_], _ => rfl), sc14, rfl, rfl, rfl, by decide, ck14, fun h => by cases h⟩
theorem at15 {fd : FuncData} (F : FunD K "back_by" "back_by" (defArgs (top 33)) (defBody (top 33)) (defScope (top 33)) [] [] (He.fAd K ("back_by", none)) fd) (c : He.SaysD faL fn K) (X : K.In h) (G : h.Ns mainGlobals mg) : DE.DefAt K mg h nm (faK K) TT 15 "back_by" ["folds"] fd :=
  ⟨_, _, _, N15, d15, false, F, He.glo_ok X G (c.facts (glo_mem (by decide +kernel))), F.bindsN (fun _ _ _ _ _ _ us hl => match us, hl with | [_], _ => rfl), sc15, rfl, rfl, rfl, by decide, ck15, fun h => by cases h⟩
theorem at16 {fd : FuncData} (F : FunD K "flipped" "flipped" (defArgs (top 34)) (defBody (top 34)) (defScope (top 34)) [] [] (He.fAd K ("flipped", none)) fd) (c : He.SaysD faL fn K) (X : K.In h) (G : h.Ns mainGlobals mg) : DE.DefAt K mg h nm (faK K) TT 16 "flipped" ["recipe"] fd :=
  ⟨_, _, _, N16, d16, false, F, He.glo_ok X G (c.facts (glo_mem (by decide +kernel))), F.bindsN (fun _ _ _ _ _ _ us hl => match us, hl with | [_], _ => rfl), sc16, rfl, rfl, rfl, by decide, ck16, fun h => by cases h⟩
theorem at17 {fd : FuncData} (F : FunD K "backward" "backward" (defArgs (top 35)) (defBody (top 35)) (defScope (top 35)) [] [] (He.fAd K ("backward", none)) fd) (c : He.SaysD faL fn K) (X : K.In h) (G : h.Ns mainGlobals mg) : DE.DefAt K mg h nm (faK K) TT 17 "backward" ["recipe"] fd :=
  ⟨_, _, _, N17, d17, false, F, He.glo_ok X G (c.facts (glo_mem (by decide +kernel))), F.bindsN (fun _ _ _ _ _ _ us hl => match us, hl with | [_], _ => rfl), sc17, rfl, rfl, rfl, by decide, ck17, fun h => by cases h⟩
theorem at18 {fd : FuncData} (F : FunD K "ways" "ways" (defArgs (top 36)) (defBody (top 36)) (defScope (top 36)) [] [] (He.fAd K ("ways", none)) fd) (c : He.SaysD faL fn K) (X : K.In h) (G : h.Ns mainGlobals mg) : DE.DefAt K mg h nm (faK K) TT 18 "ways" ["one", "other", "many"] fd :=
  ⟨_, _, _, N18, d18, false, F, He.glo_ok X G (c.facts (glo_mem (by decide +kernel))), F.bindsN (fun _ _ _ _ _ _ us hl => match us, hl with | [_, _, _], _ => rfl), sc18, rfl, rfl, rfl, by decide, ck18, fun h => by cases h⟩
theorem at19 {fd : FuncData} (F : FunD K "last_place" "last_place" (defArgs (top 41)) (defBody (top 41)) (defScope (top 41)) [] [] (He.fAd K ("last_place", none)) fd) (c : He.SaysD faL fn K) (X : K.In h) (G : h.Ns mainGlobals mg) : DE.DefAt K mg h nm (faK K) TT 19 "last_place" ["many"] fd :=
  ⟨_, _, _, N19, d19, false, F, He.glo_ok X G (c.facts (glo_mem (by decide +kernel))), F.bindsN (fun _ _ _ _ _ _ us hl => match us, hl with | [_], _ => rfl), sc19, rfl, rfl, rfl, by decide, ck19, fun h => by cases h⟩
theorem at20 {fd : FuncData} (F : FunD K "halved" "halved" (defArgs (top 42)) (defBody (top 42)) (defScope (top 42)) [] [] (He.fAd K ("halved", none)) fd) (c : He.SaysD faL fn K) (X : K.In h) (G : h.Ns mainGlobals mg) : DE.DefAt K mg h nm (faK K) TT 20 "halved" ["place"] fd :=
  ⟨_, _, _, N20, d20, false, F, He.glo_ok X G (c.facts (glo_mem (by decide +kernel))), F.bindsN (fun _ _ _ _ _ _ us hl => match us, hl with | [_], _ => rfl), sc20, rfl, rfl, rfl, by decide, ck20, fun h => by cases h⟩
theorem at21 {fd : FuncData} (F : FunD K "crease_by" "crease_by" (defArgs (top 43)) (defBody (top 43)) (defScope (top 43)) [] [] (He.fAd K ("crease_by", none)) fd) (c : He.SaysD faL fn K) (X : K.In h) (G : h.Ns mainGlobals mg) : DE.DefAt K mg h nm (faK K) TT 21 "crease_by" ["folds", "place"] fd :=
  ⟨_, _, _, N21, d21, false, F, He.glo_ok X G (c.facts (glo_mem (by decide +kernel))), F.bindsN (fun _ _ _ _ _ _ us hl => match us, hl with | [_, _], _ => rfl), sc21, rfl, rfl, rfl, by decide, ck21, fun h => by cases h⟩
theorem at22 {fd : FuncData} (F : FunD K "row_by" "row_by" (defArgs (top 44)) (defBody (top 44)) (defScope (top 44)) [] [] (He.fAd K ("row_by", none)) fd) (c : He.SaysD faL fn K) (X : K.In h) (G : h.Ns mainGlobals mg) : DE.DefAt K mg h nm (faK K) TT 22 "row_by" ["folds", "place", "length"] fd :=
  ⟨_, _, _, N22, d22, false, F, He.glo_ok X G (c.facts (glo_mem (by decide +kernel))), F.bindsN (fun _ _ _ _ _ _ us hl => match us, hl with | [_, _, _], _ => rfl), sc22, rfl, rfl, rfl, by decide, ck22, fun h => by cases h⟩
theorem at23 {fd : FuncData} (F : FunD K "valleys_by" "valleys_by" (defArgs (top 45)) (defBody (top 45)) (defScope (top 45)) [] [] (He.fAd K ("valleys_by", none)) fd) (c : He.SaysD faL fn K) (X : K.In h) (G : h.Ns mainGlobals mg) : DE.DefAt K mg h nm (faK K) TT 23 "valleys_by" ["folds", "place"] fd :=
  ⟨_, _, _, N23, d23, false, F, He.glo_ok X G (c.facts (glo_mem (by decide +kernel))), F.bindsN (fun _ _ _ _ _ _ us hl => match us, hl with | [_, _], _ => rfl), sc23, rfl, rfl, rfl, by decide, ck23, fun h => by cases h⟩
theorem at24 {fd : FuncData} (F : FunD K "need_place" "need_place" (defArgs (top 46)) (defBody (top 46)) (defScope (top 46)) [] [] (He.fAd K ("need_place", none)) fd) (c : He.SaysD faL fn K) (X : K.In h) (G : h.Ns mainGlobals mg) : DE.DefAt K mg h nm (faK K) TT 24 "need_place" ["many", "place"] fd :=
  ⟨_, _, _, N24, d24, false, F, He.glo_ok X G (c.facts (glo_mem (by decide +kernel))), F.bindsN (fun _ _ _ _ _ _ us hl => match us, hl with | [_, _], _ => rfl), sc24, rfl, rfl, rfl, by decide, ck24, fun h => by cases h⟩
theorem at25 {fd : FuncData} (F : FunD K "need_strip" "need_strip" (defArgs (top 47)) (defBody (top 47)) (defScope (top 47)) [] [] (He.fAd K ("need_strip", none)) fd) (c : He.SaysD faL fn K) (X : K.In h) (G : h.Ns mainGlobals mg) : DE.DefAt K mg h nm (faK K) TT 25 "need_strip" ["recipe", "many"] fd :=
  ⟨_, _, _, N25, d25, false, F, He.glo_ok X G (c.facts (glo_mem (by decide +kernel))), F.bindsN (fun _ _ _ _ _ _ us hl => match us, hl with | [_, _], _ => rfl), sc25, rfl, rfl, rfl, by decide, ck25, fun h => by cases h⟩
theorem at26 {fd : FuncData} (F : FunD K "crease" "crease" (defArgs (top 48)) (defBody (top 48)) (defScope (top 48)) [] [] (He.fAd K ("crease", none)) fd) (c : He.SaysD faL fn K) (X : K.In h) (G : h.Ns mainGlobals mg) : DE.DefAt K mg h nm (faK K) TT 26 "crease" ["recipe", "many", "place"] fd :=
  ⟨_, _, _, N26, d26, false, F, He.glo_ok X G (c.facts (glo_mem (by decide +kernel))), F.bindsN (fun _ _ _ _ _ _ us hl => match us, hl with | [_, _, _], _ => rfl), sc26, rfl, rfl, rfl, by decide, ck26, fun h => by cases h⟩
theorem at27 {fd : FuncData} (F : FunD K "row" "row" (defArgs (top 49)) (defBody (top 49)) (defScope (top 49)) [] [] (He.fAd K ("row", none)) fd) (c : He.SaysD faL fn K) (X : K.In h) (G : h.Ns mainGlobals mg) : DE.DefAt K mg h nm (faK K) TT 27 "row" ["recipe", "many", "place", "length"] fd :=
  ⟨_, _, _, N27, d27, false, F, He.glo_ok X G (c.facts (glo_mem (by decide +kernel))), F.bindsN (fun _ _ _ _ _ _ us hl => match us, hl with | [_, _, _, _], _ => rfl), sc27, rfl, rfl, rfl, by decide, ck27, fun h => by cases h⟩
theorem at28 {fd : FuncData} (F : FunD K "valleys" "valleys" (defArgs (top 50)) (defBody (top 50)) (defScope (top 50)) [] [] (He.fAd K ("valleys", none)) fd) (c : He.SaysD faL fn K) (X : K.In h) (G : h.Ns mainGlobals mg) : DE.DefAt K mg h nm (faK K) TT 28 "valleys" ["recipe", "many", "place"] fd :=
  ⟨_, _, _, N28, d28, false, F, He.glo_ok X G (c.facts (glo_mem (by decide +kernel))), F.bindsN (fun _ _ _ _ _ _ us hl => match us, hl with | [_, _, _], _ => rfl), sc28, rfl, rfl, rfl, by decide, ck28, fun h => by cases h⟩
theorem at29 {fd : FuncData} (F : FunD K "is_sight" "is_sight" (defArgs (top 53)) (defBody (top 53)) (defScope (top 53)) [] [] (He.fAd K ("is_sight", none)) fd) (c : He.SaysD faL fn K) (X : K.In h) (G : h.Ns mainGlobals mg) : DE.DefAt K mg h nm (faK K) TT 29 "is_sight" ["value"] fd :=
  ⟨_, _, _, N29, d29, false, F, He.glo_ok X G (c.facts (glo_mem (by decide +kernel))), F.bindsN (fun _ _ _ _ _ _ us hl => match us, hl with | [_], _ => rfl), sc29, rfl, rfl, rfl, by decide, ck29, fun h => by cases h⟩
theorem at30 {fd : FuncData} (F : FunD K "need_sights" "need_sights" (defArgs (top 54)) (defBody (top 54)) (defScope (top 54)) [] [] (He.fAd K ("need_sights", none)) fd) (c : He.SaysD faL fn K) (X : K.In h) (G : h.Ns mainGlobals mg) : DE.DefAt K mg h nm (faK K) TT 30 "need_sights" ["value"] fd :=
  ⟨_, _, _, N30, d30, false, F, He.glo_ok X G (c.facts (glo_mem (by decide +kernel))), F.bindsN (fun _ _ _ _ _ _ us hl => match us, hl with | [_], _ => rfl), sc30, rfl, rfl, rfl, by decide, ck30, fun h => by cases h⟩
theorem at31 {fd : FuncData} (F : FunD K "fold_told" "fold_told" (defArgs (top 55)) (defBody (top 55)) (defScope (top 55)) [] [] (He.fAd K ("fold_told", none)) fd) (c : He.SaysD faL fn K) (X : K.In h) (G : h.Ns mainGlobals mg) : DE.DefAt K mg h nm (faK K) TT 31 "fold_told" ["many", "sight"] fd :=
  ⟨_, _, _, N31, d31, false, F, He.glo_ok X G (c.facts (glo_mem (by decide +kernel))), F.bindsN (fun _ _ _ _ _ _ us hl => match us, hl with | [_, _], _ => rfl), sc31, rfl, rfl, rfl, by decide, ck31, fun h => by cases h⟩
theorem at32 {fd : FuncData} (F : FunD K "told_by" "told_by" (defArgs (top 56)) (defBody (top 56)) (defScope (top 56)) [] [] (He.fAd K ("told_by", none)) fd) (c : He.SaysD faL fn K) (X : K.In h) (G : h.Ns mainGlobals mg) : DE.DefAt K mg h nm (faK K) TT 32 "told_by" ["many", "sights"] fd :=
  ⟨_, _, _, N32, d32, false, F, He.glo_ok X G (c.facts (glo_mem (by decide +kernel))), F.bindsN (fun _ _ _ _ _ _ us hl => match us, hl with | [_, _], _ => rfl), sc32, rfl, rfl, rfl, by decide, ck32, fun h => by cases h⟩
theorem at33 {fd : FuncData} (F : FunD K "goes" "goes" (defArgs (top 57)) (defBody (top 57)) (defScope (top 57)) [] [] (He.fAd K ("goes", none)) fd) (c : He.SaysD faL fn K) (X : K.In h) (G : h.Ns mainGlobals mg) : DE.DefAt K mg h nm (faK K) TT 33 "goes" ["folds", "sights"] fd :=
  ⟨_, _, _, N33, d33, false, F, He.glo_ok X G (c.facts (glo_mem (by decide +kernel))), F.bindsN (fun _ _ _ _ _ _ us hl => match us, hl with | [_, _], _ => rfl), sc33, rfl, rfl, rfl, by decide, ck33, fun h => by cases h⟩
theorem at34 {fd : FuncData} (F : FunD K "told" "told" (defArgs (top 58)) (defBody (top 58)) (defScope (top 58)) [] [] (He.fAd K ("told", none)) fd) (c : He.SaysD faL fn K) (X : K.In h) (G : h.Ns mainGlobals mg) : DE.DefAt K mg h nm (faK K) TT 34 "told" ["many", "sights"] fd :=
  ⟨_, _, _, N34, d34, false, F, He.glo_ok X G (c.facts (glo_mem (by decide +kernel))), F.bindsN (fun _ _ _ _ _ _ us hl => match us, hl with | [_, _], _ => rfl), sc34, rfl, rfl, rfl, by decide, ck34, fun h => by cases h⟩
theorem at35 {fd : FuncData} (F : FunD K "clash" "clash" (defArgs (top 59)) (defBody (top 59)) (defScope (top 59)) [] [] (He.fAd K ("clash", none)) fd) (c : He.SaysD faL fn K) (X : K.In h) (G : h.Ns mainGlobals mg) : DE.DefAt K mg h nm (faK K) TT 35 "clash" ["many", "sights"] fd :=
  ⟨_, _, _, N35, d35, false, F, He.glo_ok X G (c.facts (glo_mem (by decide +kernel))), F.bindsN (fun _ _ _ _ _ _ us hl => match us, hl with | [_, _], _ => rfl), sc35, rfl, rfl, rfl, by decide, ck35, fun h => by cases h⟩
theorem at36 {fd : FuncData} (F : FunD K "sure" "sure" (defArgs (top 60)) (defBody (top 60)) (defScope (top 60)) [] [] (He.fAd K ("sure", none)) fd) (c : He.SaysD faL fn K) (X : K.In h) (G : h.Ns mainGlobals mg) : DE.DefAt K mg h nm (faK K) TT 36 "sure" ["many", "sights", "place"] fd :=
  ⟨_, _, _, N36, d36, false, F, He.glo_ok X G (c.facts (glo_mem (by decide +kernel))), F.bindsN (fun _ _ _ _ _ _ us hl => match us, hl with | [_, _, _], _ => rfl), sc36, rfl, rfl, rfl, by decide, ck36, fun h => by cases h⟩
theorem at37 {fd : FuncData} (F : FunD K "numbers_for" "numbers_for" (defArgs (top 61)) (defBody (top 61)) (defScope (top 61)) [] [] (He.fAd K ("numbers_for", none)) fd) (c : He.SaysD faL fn K) (X : K.In h) (G : h.Ns mainGlobals mg) : DE.DefAt K mg h nm (faK K) TT 37 "numbers_for" ["recipe", "sights"] fd :=
  ⟨_, _, _, N37, d37, false, F, He.glo_ok X G (c.facts (glo_mem (by decide +kernel))), F.bindsN (fun _ _ _ _ _ _ us hl => match us, hl with | [_, _], _ => rfl), sc37, rfl, rfl, rfl, by decide, ck37, fun h => by cases h⟩
theorem at38 {fd : FuncData} (F : FunD K "letters_of" "letters_of" (defArgs (top 63)) (defBody (top 63)) (defScope (top 63)) [] [] (He.fAd K ("letters_of", none)) fd) (c : He.SaysD faL fn K) (X : K.In h) (G : h.Ns mainGlobals mg) : DE.DefAt K mg h nm (faK K) TT 38 "letters_of" ["folds"] fd :=
  ⟨_, _, _, N38, d38, false, F, He.glo_ok X G (c.facts (glo_mem (by decide +kernel))), F.bindsN (fun _ _ _ _ _ _ us hl => match us, hl with | [_], _ => rfl), sc38, rfl, rfl, rfl, by decide, ck38, fun h => by cases h⟩
theorem at39 {fd : FuncData} (F : FunD K "folds_in" "folds_in" (defArgs (top 64)) (defBody (top 64)) (defScope (top 64)) [] [] (He.fAd K ("folds_in", none)) fd) (c : He.SaysD faL fn K) (X : K.In h) (G : h.Ns mainGlobals mg) : DE.DefAt K mg h nm (faK K) TT 39 "folds_in" ["letters"] fd :=
  ⟨_, _, _, N39, d39, false, F, He.glo_ok X G (c.facts (glo_mem (by decide +kernel))), F.bindsN (fun _ _ _ _ _ _ us hl => match us, hl with | [_], _ => rfl), sc39, rfl, rfl, rfl, by decide, ck39, fun h => by cases h⟩
theorem at40 {fd : FuncData} (F : FunD K "recipe_text" "recipe_text" (defArgs (top 65)) (defBody (top 65)) (defScope (top 65)) [] [] (He.fAd K ("recipe_text", none)) fd) (c : He.SaysD faL fn K) (X : K.In h) (G : h.Ns mainGlobals mg) : DE.DefAt K mg h nm (faK K) TT 40 "recipe_text" ["recipe"] fd :=
  ⟨_, _, _, N40, d40, false, F, He.glo_ok X G (c.facts (glo_mem (by decide +kernel))), F.bindsN (fun _ _ _ _ _ _ us hl => match us, hl with | [_], _ => rfl), sc40, rfl, rfl, rfl, by decide, ck40, fun h => by cases h⟩
theorem at41 {fd : FuncData} (F : FunD K "read_recipe" "read_recipe" (defArgs (top 66)) (defBody (top 66)) (defScope (top 66)) [] [] (He.fAd K ("read_recipe", none)) fd) (c : He.SaysD faL fn K) (X : K.In h) (G : h.Ns mainGlobals mg) : DE.DefAt K mg h nm (faK K) TT 41 "read_recipe" ["value"] fd :=
  ⟨_, _, _, N41, d41, false, F, He.glo_ok X G (c.facts (glo_mem (by decide +kernel))), F.bindsN (fun _ _ _ _ _ _ us hl => match us, hl with | [_], _ => rfl), sc41, rfl, rfl, rfl, by decide, ck41, fun h => by cases h⟩
theorem at42 {fd : FuncData} (F : FunD K "sign_of" "sign_of" (defArgs (top 70)) (defBody (top 70)) (defScope (top 70)) [] [] (He.fAd K ("sign_of", none)) fd) (c : He.SaysD faL fn K) (X : K.In h) (G : h.Ns mainGlobals mg) : DE.DefAt K mg h nm (faK K) TT 42 "sign_of" ["fold"] fd :=
  ⟨_, _, _, N42, d42, false, F, He.glo_ok X G (c.facts (glo_mem (by decide +kernel))), F.bindsN (fun _ _ _ _ _ _ us hl => match us, hl with | [_], _ => rfl), sc42, rfl, rfl, rfl, by decide, ck42, fun h => by cases h⟩
theorem at43 {fd : FuncData} (F : FunD K "unit_by" "unit_by" (defArgs (top 71)) (defBody (top 71)) (defScope (top 71)) [] [] (He.fAd K ("unit_by", none)) fd) (c : He.SaysD faL fn K) (X : K.In h) (G : h.Ns mainGlobals mg) : DE.DefAt K mg h nm (faK K) TT 43 "unit_by" ["folds", "step"] fd :=
  ⟨_, _, _, N43, d43, false, F, He.glo_ok X G (c.facts (glo_mem (by decide +kernel))), F.bindsN (fun _ _ _ _ _ _ us hl => match us, hl with | [_, _], _ => rfl), sc43, rfl, rfl, rfl, by decide, ck43, fun h => by cases h⟩
theorem at44 {fd : FuncData} (F : FunD K "corner_by" "corner_by" (defArgs (top 72)) (defBody (top 72)) (defScope (top 72)) [] [] (He.fAd K ("corner_by", none)) fd) (c : He.SaysD faL fn K) (X : K.In h) (G : h.Ns mainGlobals mg) : DE.DefAt K mg h nm (faK K) TT 44 "corner_by" ["folds", "step"] fd :=
  ⟨_, _, _, N44, d44, false, F, He.glo_ok X G (c.facts (glo_mem (by decide +kernel))), F.bindsN (fun _ _ _ _ _ _ us hl => match us, hl with | [_, _], _ => rfl), sc44, rfl, rfl, rfl, by decide, ck44, fun h => by cases h⟩
theorem at45 {fd : FuncData} (F : FunD K "steps_by" "steps_by" (defArgs (top 73)) (defBody (top 73)) (defScope (top 73)) [] [] (He.fAd K ("steps_by", none)) fd) (c : He.SaysD faL fn K) (X : K.In h) (G : h.Ns mainGlobals mg) : DE.DefAt K mg h nm (faK K) TT 45 "steps_by" ["folds", "point", "known"] fd :=
  ⟨_, _, _, N45, d45, false, F, He.glo_ok X G (c.facts (glo_mem (by decide +kernel))), F.bindsN (fun _ _ _ _ _ _ us hl => match us, hl with | [_, _, _], _ => rfl), sc45, rfl, rfl, rfl, by decide, ck45, fun h => by cases h⟩
theorem at46 {fd : FuncData} (F : FunD K "need_step" "need_step" (defArgs (top 74)) (defBody (top 74)) (defScope (top 74)) [] [] (He.fAd K ("need_step", none)) fd) (c : He.SaysD faL fn K) (X : K.In h) (G : h.Ns mainGlobals mg) : DE.DefAt K mg h nm (faK K) TT 46 "need_step" ["many", "value"] fd :=
  ⟨_, _, _, N46, d46, false, F, He.glo_ok X G (c.facts (glo_mem (by decide +kernel))), F.bindsN (fun _ _ _ _ _ _ us hl => match us, hl with | [_, _], _ => rfl), sc46, rfl, rfl, rfl, by decide, ck46, fun h => by cases h⟩
theorem at47 {fd : FuncData} (F : FunD K "corner" "corner" (defArgs (top 75)) (defBody (top 75)) (defScope (top 75)) [] [] (He.fAd K ("corner", none)) fd) (c : He.SaysD faL fn K) (X : K.In h) (G : h.Ns mainGlobals mg) : DE.DefAt K mg h nm (faK K) TT 47 "corner" ["recipe", "many", "step"] fd :=
  ⟨_, _, _, N47, d47, false, F, He.glo_ok X G (c.facts (glo_mem (by decide +kernel))), F.bindsN (fun _ _ _ _ _ _ us hl => match us, hl with | [_, _, _], _ => rfl), sc47, rfl, rfl, rfl, by decide, ck47, fun h => by cases h⟩
theorem at48 {fd : FuncData} (F : FunD K "steps_at" "steps_at" (defArgs (top 76)) (defBody (top 76)) (defScope (top 76)) [] [] (He.fAd K ("steps_at", none)) fd) (c : He.SaysD faL fn K) (X : K.In h) (G : h.Ns mainGlobals mg) : DE.DefAt K mg h nm (faK K) TT 48 "steps_at" ["recipe", "many", "point"] fd :=
  ⟨_, _, _, N48, d48, false, F, He.glo_ok X G (c.facts (glo_mem (by decide +kernel))), F.bindsN (fun _ _ _ _ _ _ us hl => match us, hl with | [_, _, _], _ => rfl), sc48, rfl, rfl, rfl, by decide, ck48, fun h => by cases h⟩
theorem at49 {fd : FuncData} (F : FunD K "sides" "sides" (defArgs (top 77)) (defBody (top 77)) (defScope (top 77)) [] [] (He.fAd K ("sides", none)) fd) (c : He.SaysD faL fn K) (X : K.In h) (G : h.Ns mainGlobals mg) : DE.DefAt K mg h nm (faK K) TT 49 "sides" ["recipe"] fd :=
  ⟨_, _, _, N49, d49, false, F, He.glo_ok X G (c.facts (glo_mem (by decide +kernel))), F.bindsN (fun _ _ _ _ _ _ us hl => match us, hl with | [_], _ => rfl), sc49, rfl, rfl, rfl, by decide, ck49, fun h => by cases h⟩
theorem at50 {fd : FuncData} (F : FunD K "twice" "twice" (defArgs (top 78)) (defBody (top 78)) (defScope (top 78)) [] [] (He.fAd K ("twice", none)) fd) (c : He.SaysD faL fn K) (X : K.In h) (G : h.Ns mainGlobals mg) : DE.DefAt K mg h nm (faK K) TT 50 "twice" ["recipe", "few"] fd :=
  ⟨_, _, _, N50, d50, false, F, He.glo_ok X G (c.facts (glo_mem (by decide +kernel))), F.bindsN (fun _ _ _ _ _ _ us hl => match us, hl with | [_, _], _ => rfl), sc50, rfl, rfl, rfl, by decide, ck50, fun h => by cases h⟩
theorem at51 {fd : FuncData} (F : FunD K "is_word" "is_word" (defArgs (top 81)) (defBody (top 81)) (defScope (top 81)) [] [] (He.fAd K ("is_word", none)) fd) (c : He.SaysD faL fn K) (X : K.In h) (G : h.Ns mainGlobals mg) : DE.DefAt K mg h nm (faK K) TT 51 "is_word" ["value"] fd :=
  ⟨_, _, _, N51, d51, false, F, He.glo_ok X G (c.facts (glo_mem (by decide +kernel))), F.bindsN (fun _ _ _ _ _ _ us hl => match us, hl with | [_], _ => rfl), sc51, rfl, rfl, rfl, by decide, ck51, fun h => by cases h⟩
theorem at52 {fd : FuncData} (F : FunD K "need_word" "need_word" (defArgs (top 82)) (defBody (top 82)) (defScope (top 82)) [] [] (He.fAd K ("need_word", none)) fd) (c : He.SaysD faL fn K) (X : K.In h) (G : h.Ns mainGlobals mg) : DE.DefAt K mg h nm (faK K) TT 52 "need_word" ["value"] fd :=
  ⟨_, _, _, N52, d52, false, F, He.glo_ok X G (c.facts (glo_mem (by decide +kernel))), F.bindsN (fun _ _ _ _ _ _ us hl => match us, hl with | [_], _ => rfl), sc52, rfl, rfl, rfl, by decide, ck52, fun h => by cases h⟩
theorem at53 {fd : FuncData} (F : FunD K "spread" "spread" (defArgs (top 83)) (defBody (top 83)) (defScope (top 83)) [] [] (He.fAd K ("spread", none)) fd) (c : He.SaysD faL fn K) (X : K.In h) (G : h.Ns mainGlobals mg) : DE.DefAt K mg h nm (faK K) TT 53 "spread" ["length"] fd :=
  ⟨_, _, _, N53, d53, false, F, He.glo_ok X G (c.facts (glo_mem (by decide +kernel))), F.bindsN (fun _ _ _ _ _ _ us hl => match us, hl with | [_], _ => rfl), sc53, rfl, rfl, rfl, by decide, ck53, fun h => by cases h⟩
theorem at54 {fd : FuncData} (F : FunD K "last_begin" "last_begin" (defArgs (top 84)) (defBody (top 84)) (defScope (top 84)) [] [] (He.fAd K ("last_begin", none)) fd) (c : He.SaysD faL fn K) (X : K.In h) (G : h.Ns mainGlobals mg) : DE.DefAt K mg h nm (faK K) TT 54 "last_begin" ["many", "length"] fd :=
  ⟨_, _, _, N54, d54, false, F, He.glo_ok X G (c.facts (glo_mem (by decide +kernel))), F.bindsN (fun _ _ _ _ _ _ us hl => match us, hl with | [_, _], _ => rfl), sc54, rfl, rfl, rfl, by decide, ck54, fun h => by cases h⟩
theorem at55 {fd : FuncData} (F : FunD K "place_by" "place_by" (defArgs (top 85)) (defBody (top 85)) (defScope (top 85)) [] [] (He.fAd K ("place_by", none)) fd) (c : He.SaysD faL fn K) (X : K.In h) (G : h.Ns mainGlobals mg) : DE.DefAt K mg h nm (faK K) TT 55 "place_by" ["folds", "word"] fd :=
  ⟨_, _, _, N55, d55, false, F, He.glo_ok X G (c.facts (glo_mem (by decide +kernel))), F.bindsN (fun _ _ _ _ _ _ us hl => match us, hl with | [_, _], _ => rfl), sc55, rfl, rfl, rfl, by decide, ck55, fun h => by cases h⟩
theorem at56 {fd : FuncData} (F : FunD K "enough_folds" "enough_folds" (defArgs (top 86)) (defBody (top 86)) (defScope (top 86)) [] [] (He.fAd K ("enough_folds", none)) fd) (c : He.SaysD faL fn K) (X : K.In h) (G : h.Ns mainGlobals mg) : DE.DefAt K mg h nm (faK K) TT 56 "enough_folds" ["recipe", "length"] fd :=
  ⟨_, _, _, N56, d56, false, F, He.glo_ok X G (c.facts (glo_mem (by decide +kernel))), F.bindsN (fun _ _ _ _ _ _ us hl => match us, hl with | [_, _], _ => rfl), sc56, rfl, rfl, rfl, by decide, ck56, fun h => by cases h⟩
theorem at57 {fd : FuncData} (F : FunD K "first_place" "first_place" (defArgs (top 87)) (defBody (top 87)) (defScope (top 87)) [] [] (He.fAd K ("first_place", none)) fd) (c : He.SaysD faL fn K) (X : K.In h) (G : h.Ns mainGlobals mg) : DE.DefAt K mg h nm (faK K) TT 57 "first_place" ["recipe", "many", "word"] fd :=
  ⟨_, _, _, N57, d57, false, F, He.glo_ok X G (c.facts (glo_mem (by decide +kernel))), F.bindsN (fun _ _ _ _ _ _ us hl => match us, hl with | [_, _, _], _ => rfl), sc57, rfl, rfl, rfl, by decide, ck57, fun h => by cases h⟩
theorem at58 {fd : FuncData} (F : FunD K "first_come" "first_come" (defArgs (top 88)) (defBody (top 88)) (defScope (top 88)) [] [] (He.fAd K ("first_come", none)) fd) (c : He.SaysD faL fn K) (X : K.In h) (G : h.Ns mainGlobals mg) : DE.DefAt K mg h nm (faK K) TT 58 "first_come" ["recipe", "word"] fd :=
  ⟨_, _, _, N58, d58, false, F, He.glo_ok X G (c.facts (glo_mem (by decide +kernel))), F.bindsN (fun _ _ _ _ _ _ us hl => match us, hl with | [_, _], _ => rfl), sc58, rfl, rfl, rfl, by decide, ck58, fun h => by cases h⟩
theorem at59 {fd : FuncData} (F : FunD K "all_words" "all_words" (defArgs (top 89)) (defBody (top 89)) (defScope (top 89)) [] [] (He.fAd K ("all_words", none)) fd) (c : He.SaysD faL fn K) (X : K.In h) (G : h.Ns mainGlobals mg) : DE.DefAt K mg h nm (faK K) TT 59 "all_words" ["recipe", "length"] fd :=
  ⟨_, _, _, N59, d59, false, F, He.glo_ok X G (c.facts (glo_mem (by decide +kernel))), F.bindsN (fun _ _ _ _ _ _ us hl => match us, hl with | [_, _], _ => rfl), sc59, rfl, rfl, rfl, by decide, ck59, fun h => by cases h⟩
theorem at60 {fd : FuncData} (F : FunD K "_law_sheet" "_law_sheet" (defArgs (top 91)) (defBody (top 91)) (defScope (top 91)) [] [] (He.fAd K ("_law_sheet", none)) fd) (c : He.SaysD faL fn K) (X : K.In h) (G : h.Ns mainGlobals mg) : DE.DefAt K mg h nm (faK K) TT 60 "_law_sheet" ["_law_script", "_law_k"] fd :=
  ⟨_, _, _, N60, d60, false, F, He.glo_ok X G (c.facts (glo_mem (by decide +kernel))), F.bindsN (fun _ _ _ _ _ _ us hl => match us, hl with | [_, _], _ => rfl), sc60, rfl, rfl, rfl, by decide, ck60, fun h => by cases h⟩
theorem at61 {fd : FuncData} (F : FunD K "_law_tear" "_law_tear" (defArgs (top 92)) (defBody (top 92)) (defScope (top 92)) [] [] (He.fAd K ("_law_tear", none)) fd) (c : He.SaysD faL fn K) (X : K.In h) (G : h.Ns mainGlobals mg) : DE.DefAt K mg h nm (faK K) TT 61 "_law_tear" ["_law_sheet_here", "_law_many"] fd :=
  ⟨_, _, _, N61, d61, false, F, He.glo_ok X G (c.facts (glo_mem (by decide +kernel))), F.bindsN (fun _ _ _ _ _ _ us hl => match us, hl with | [_, _], _ => rfl), sc61, rfl, rfl, rfl, by decide, ck61, fun h => by cases h⟩
theorem at66 {fd : FuncData} (F : FunD K "_law_always" "_law_always" (defArgs (top 97)) (defBody (top 97)) (defScope (top 97)) [] [] (He.fAd K ("_law_always", none)) fd) (c : He.SaysD faL fn K) (X : K.In h) (G : h.Ns mainGlobals mg) : DE.DefAt K mg h nm (faK K) TT 66 "_law_always" ["_law_recipe"] fd :=
  ⟨_, _, _, N66, d66, false, F, He.glo_ok X G (c.facts (glo_mem (by decide +kernel))), F.bindsN (fun _ _ _ _ _ _ us hl => match us, hl with | [_], _ => rfl), sc66, rfl, rfl, rfl, by decide, ck66, fun h => by cases h⟩
theorem at67 {fd : FuncData} (F : FunD K "_law_mixed" "_law_mixed" (defArgs (top 98)) (defBody (top 98)) (defScope (top 98)) [] [] (He.fAd K ("_law_mixed", none)) fd) (c : He.SaysD faL fn K) (X : K.In h) (G : h.Ns mainGlobals mg) : DE.DefAt K mg h nm (faK K) TT 67 "_law_mixed" ["_law_recipe"] fd :=
  ⟨_, _, _, N67, d67, false, F, He.glo_ok X G (c.facts (glo_mem (by decide +kernel))), F.bindsN (fun _ _ _ _ _ _ us hl => match us, hl with | [_], _ => rfl), sc67, rfl, rfl, rfl, by decide, ck67, fun h => by cases h⟩
theorem at68 {fd : FuncData} (F : FunD K "_law_late" "_law_late" (defArgs (top 99)) (defBody (top 99)) (defScope (top 99)) [] [] (He.fAd K ("_law_late", none)) fd) (c : He.SaysD faL fn K) (X : K.In h) (G : h.Ns mainGlobals mg) : DE.DefAt K mg h nm (faK K) TT 68 "_law_late" ["_law_recipe"] fd :=
  ⟨_, _, _, N68, d68, false, F, He.glo_ok X G (c.facts (glo_mem (by decide +kernel))), F.bindsN (fun _ _ _ _ _ _ us hl => match us, hl with | [_], _ => rfl), sc68, rfl, rfl, rfl, by decide, ck68, fun h => by cases h⟩
theorem at69 {fd : FuncData} (F : FunD K "_law_seen" "_law_seen" (defArgs (top 100)) (defBody (top 100)) (defScope (top 100)) [] [] (He.fAd K ("_law_seen", none)) fd) (c : He.SaysD faL fn K) (X : K.In h) (G : h.Ns mainGlobals mg) : DE.DefAt K mg h nm (faK K) TT 69 "_law_seen" [] fd :=
  ⟨_, _, _, N69, d69, false, F, He.glo_ok X G (c.facts (glo_mem (by decide +kernel))), F.bindsN (fun _ _ _ _ _ _ us hl => match us, hl with | [], _ => rfl), sc69, rfl, rfl, rfl, by decide, ck69, fun h => by cases h⟩
theorem at70 {fd : FuncData} (F : FunD K "law" "law" (defArgs (top 101)) (defBody (top 101)) (defScope (top 101)) [] [] (He.fAd K ("law", none)) fd) (c : He.SaysD faL fn K) (X : K.In h) (G : h.Ns mainGlobals mg) : DE.DefAt K mg h nm (faK K) TT 70 "law" ["_law_script"] fd :=
  ⟨_, _, _, N70, d70, false, F, He.glo_ok X G (c.facts (glo_mem (by decide +kernel))), F.bindsN (fun _ _ _ _ _ _ us hl => match us, hl with | [_], _ => rfl), sc70, rfl, rfl, rfl, by decide, ck70, fun h => by cases h⟩
theorem hd (c : He.SaysD faL fn K) (X : K.In h) (G : h.Ns mainGlobals mg) (hx : exB K = true) (tb : ∀ p ∈ tf.map (He.cT K), LamX.TabB h mg p.1 p.2) : ∀ f x, nm.f f = some x → ∃ ps fd, DE.DefAt K mg h nm (faK K) TT f x ps fd := by
  intro f x hf
  match f, hf with
  | 0, hf =>
    cases (show some (Str.ofString "is_integer") = some x from hf)
    obtain ⟨fd, F⟩ := c.def_ 0 rfl
    exact ⟨_, fd, at0 F c X G⟩
  | 1, hf =>
    cases (show some (Str.ofString "is_fold") = some x from hf)
    obtain ⟨fd, F⟩ := c.def_ 1 rfl
    exact ⟨_, fd, at1 F c X G⟩
  | 2, hf =>
    cases (show some (Str.ofString "are_folds") = some x from hf)
    obtain ⟨fd, F⟩ := c.def_ 2 rfl
    exact ⟨_, fd, at2 F c X G⟩
  | 3, hf =>
    cases (show some (Str.ofString "is_recipe") = some x from hf)
    obtain ⟨fd, F⟩ := c.def_ 3 rfl
    exact ⟨_, fd, at3 F c X G⟩
  | 4, hf =>
    cases (show some (Str.ofString "need_recipe") = some x from hf)
    obtain ⟨fd, F⟩ := c.def_ 4 rfl
    exact ⟨_, fd, at4 F c X G⟩
  | 5, hf =>
    cases (show some (Str.ofString "need_many") = some x from hf)
    obtain ⟨fd, F⟩ := c.def_ 5 rfl
    exact ⟨_, fd, at5 F c X G⟩
  | 6, hf =>
    cases (show some (Str.ofString "power") = some x from hf)
    obtain ⟨fd, F⟩ := c.def_ 6 rfl
    exact ⟨_, fd, at6 F c X G⟩
  | 7, hf =>
    cases (show some (Str.ofString "item_of") = some x from hf)
    obtain ⟨fd, F⟩ := c.def_ 7 rfl
    exact ⟨_, fd, at7 F c X G⟩
  | 8, hf =>
    cases (show some (Str.ofString "folds_of") = some x from hf)
    obtain ⟨fd, F⟩ := c.def_ 8 rfl
    exact ⟨_, fd, at8 F c X G⟩
  | 9, hf =>
    cases (show some (Str.ofString "shortest") = some x from hf)
    obtain ⟨fd, F⟩ := c.def_ 9 rfl
    exact ⟨_, fd, at9 F c X G⟩
  | 10, hf =>
    cases (show some (Str.ofString "plain_by") = some x from hf)
    obtain ⟨fd, F⟩ := c.def_ 10 rfl
    exact ⟨_, fd, at10 F c X G⟩
  | 11, hf =>
    cases (show some (Str.ofString "fold_at") = some x from hf)
    obtain ⟨fd, F⟩ := c.def_ 11 rfl
    exact ⟨_, fd, at11 F c X G⟩
  | 12, hf =>
    cases (show some (Str.ofString "plain") = some x from hf)
    obtain ⟨fd, F⟩ := c.def_ 12 rfl
    exact ⟨_, fd, at12 F c X G⟩
  | 13, hf =>
    cases (show some (Str.ofString "like") = some x from hf)
    obtain ⟨fd, F⟩ := c.def_ 13 rfl
    exact ⟨_, fd, at13 F c X G⟩
  | 14, hf =>
    cases (show some (Str.ofString "other_way") = some x from hf)
    obtain ⟨fd, F⟩ := c.def_ 14 rfl
    exact ⟨_, fd, at14 F c X G⟩
  | 15, hf =>
    cases (show some (Str.ofString "back_by") = some x from hf)
    obtain ⟨fd, F⟩ := c.def_ 15 rfl
    exact ⟨_, fd, at15 F c X G⟩
  | 16, hf =>
    cases (show some (Str.ofString "flipped") = some x from hf)
    obtain ⟨fd, F⟩ := c.def_ 16 rfl
    exact ⟨_, fd, at16 F c X G⟩
  | 17, hf =>
    cases (show some (Str.ofString "backward") = some x from hf)
    obtain ⟨fd, F⟩ := c.def_ 17 rfl
    exact ⟨_, fd, at17 F c X G⟩
  | 18, hf =>
    cases (show some (Str.ofString "ways") = some x from hf)
    obtain ⟨fd, F⟩ := c.def_ 18 rfl
    exact ⟨_, fd, at18 F c X G⟩
  | 19, hf =>
    cases (show some (Str.ofString "last_place") = some x from hf)
    obtain ⟨fd, F⟩ := c.def_ 19 rfl
    exact ⟨_, fd, at19 F c X G⟩
  | 20, hf =>
    cases (show some (Str.ofString "halved") = some x from hf)
    obtain ⟨fd, F⟩ := c.def_ 20 rfl
    exact ⟨_, fd, at20 F c X G⟩
  | 21, hf =>
    cases (show some (Str.ofString "crease_by") = some x from hf)
    obtain ⟨fd, F⟩ := c.def_ 21 rfl
    exact ⟨_, fd, at21 F c X G⟩
  | 22, hf =>
    cases (show some (Str.ofString "row_by") = some x from hf)
    obtain ⟨fd, F⟩ := c.def_ 22 rfl
    exact ⟨_, fd, at22 F c X G⟩
  | 23, hf =>
    cases (show some (Str.ofString "valleys_by") = some x from hf)
    obtain ⟨fd, F⟩ := c.def_ 23 rfl
    exact ⟨_, fd, at23 F c X G⟩
  | 24, hf =>
    cases (show some (Str.ofString "need_place") = some x from hf)
    obtain ⟨fd, F⟩ := c.def_ 24 rfl
    exact ⟨_, fd, at24 F c X G⟩
  | 25, hf =>
    cases (show some (Str.ofString "need_strip") = some x from hf)
    obtain ⟨fd, F⟩ := c.def_ 25 rfl
    exact ⟨_, fd, at25 F c X G⟩
  | 26, hf =>
    cases (show some (Str.ofString "crease") = some x from hf)
    obtain ⟨fd, F⟩ := c.def_ 26 rfl
    exact ⟨_, fd, at26 F c X G⟩
  | 27, hf =>
    cases (show some (Str.ofString "row") = some x from hf)
    obtain ⟨fd, F⟩ := c.def_ 27 rfl
    exact ⟨_, fd, at27 F c X G⟩
  | 28, hf =>
    cases (show some (Str.ofString "valleys") = some x from hf)
    obtain ⟨fd, F⟩ := c.def_ 28 rfl
    exact ⟨_, fd, at28 F c X G⟩
  | 29, hf =>
    cases (show some (Str.ofString "is_sight") = some x from hf)
    obtain ⟨fd, F⟩ := c.def_ 29 rfl
    exact ⟨_, fd, at29 F c X G⟩
  | 30, hf =>
    cases (show some (Str.ofString "need_sights") = some x from hf)
    obtain ⟨fd, F⟩ := c.def_ 30 rfl
    exact ⟨_, fd, at30 F c X G⟩
  | 31, hf =>
    cases (show some (Str.ofString "fold_told") = some x from hf)
    obtain ⟨fd, F⟩ := c.def_ 31 rfl
    exact ⟨_, fd, at31 F c X G⟩
  | 32, hf =>
    cases (show some (Str.ofString "told_by") = some x from hf)
    obtain ⟨fd, F⟩ := c.def_ 32 rfl
    exact ⟨_, fd, at32 F c X G⟩
  | 33, hf =>
    cases (show some (Str.ofString "goes") = some x from hf)
    obtain ⟨fd, F⟩ := c.def_ 33 rfl
    exact ⟨_, fd, at33 F c X G⟩
  | 34, hf =>
    cases (show some (Str.ofString "told") = some x from hf)
    obtain ⟨fd, F⟩ := c.def_ 34 rfl
    exact ⟨_, fd, at34 F c X G⟩
  | 35, hf =>
    cases (show some (Str.ofString "clash") = some x from hf)
    obtain ⟨fd, F⟩ := c.def_ 35 rfl
    exact ⟨_, fd, at35 F c X G⟩
  | 36, hf =>
    cases (show some (Str.ofString "sure") = some x from hf)
    obtain ⟨fd, F⟩ := c.def_ 36 rfl
    exact ⟨_, fd, at36 F c X G⟩
  | 37, hf =>
    cases (show some (Str.ofString "numbers_for") = some x from hf)
    obtain ⟨fd, F⟩ := c.def_ 37 rfl
    exact ⟨_, fd, at37 F c X G⟩
  | 38, hf =>
    cases (show some (Str.ofString "letters_of") = some x from hf)
    obtain ⟨fd, F⟩ := c.def_ 38 rfl
    exact ⟨_, fd, at38 F c X G⟩
  | 39, hf =>
    cases (show some (Str.ofString "folds_in") = some x from hf)
    obtain ⟨fd, F⟩ := c.def_ 39 rfl
    exact ⟨_, fd, at39 F c X G⟩
  | 40, hf =>
    cases (show some (Str.ofString "recipe_text") = some x from hf)
    obtain ⟨fd, F⟩ := c.def_ 40 rfl
    exact ⟨_, fd, at40 F c X G⟩
  | 41, hf =>
    cases (show some (Str.ofString "read_recipe") = some x from hf)
    obtain ⟨fd, F⟩ := c.def_ 41 rfl
    exact ⟨_, fd, at41 F c X G⟩
  | 42, hf =>
    cases (show some (Str.ofString "sign_of") = some x from hf)
    obtain ⟨fd, F⟩ := c.def_ 42 rfl
    exact ⟨_, fd, at42 F c X G⟩
  | 43, hf =>
    cases (show some (Str.ofString "unit_by") = some x from hf)
    obtain ⟨fd, F⟩ := c.def_ 43 rfl
    exact ⟨_, fd, at43 F c X G⟩
  | 44, hf =>
    cases (show some (Str.ofString "corner_by") = some x from hf)
    obtain ⟨fd, F⟩ := c.def_ 44 rfl
    exact ⟨_, fd, at44 F c X G⟩
  | 45, hf =>
    cases (show some (Str.ofString "steps_by") = some x from hf)
    obtain ⟨fd, F⟩ := c.def_ 45 rfl
    exact ⟨_, fd, at45 F c X G⟩
  | 46, hf =>
    cases (show some (Str.ofString "need_step") = some x from hf)
    obtain ⟨fd, F⟩ := c.def_ 46 rfl
    exact ⟨_, fd, at46 F c X G⟩
  | 47, hf =>
    cases (show some (Str.ofString "corner") = some x from hf)
    obtain ⟨fd, F⟩ := c.def_ 47 rfl
    exact ⟨_, fd, at47 F c X G⟩
  | 48, hf =>
    cases (show some (Str.ofString "steps_at") = some x from hf)
    obtain ⟨fd, F⟩ := c.def_ 48 rfl
    exact ⟨_, fd, at48 F c X G⟩
  | 49, hf =>
    cases (show some (Str.ofString "sides") = some x from hf)
    obtain ⟨fd, F⟩ := c.def_ 49 rfl
    exact ⟨_, fd, at49 F c X G⟩
  | 50, hf =>
    cases (show some (Str.ofString "twice") = some x from hf)
    obtain ⟨fd, F⟩ := c.def_ 50 rfl
    exact ⟨_, fd, at50 F c X G⟩
  | 51, hf =>
    cases (show some (Str.ofString "is_word") = some x from hf)
    obtain ⟨fd, F⟩ := c.def_ 51 rfl
    exact ⟨_, fd, at51 F c X G⟩
  | 52, hf =>
    cases (show some (Str.ofString "need_word") = some x from hf)
    obtain ⟨fd, F⟩ := c.def_ 52 rfl
    exact ⟨_, fd, at52 F c X G⟩
  | 53, hf =>
    cases (show some (Str.ofString "spread") = some x from hf)
    obtain ⟨fd, F⟩ := c.def_ 53 rfl
    exact ⟨_, fd, at53 F c X G⟩
  | 54, hf =>
    cases (show some (Str.ofString "last_begin") = some x from hf)
    obtain ⟨fd, F⟩ := c.def_ 54 rfl
    exact ⟨_, fd, at54 F c X G⟩
  | 55, hf =>
    cases (show some (Str.ofString "place_by") = some x from hf)
    obtain ⟨fd, F⟩ := c.def_ 55 rfl
    exact ⟨_, fd, at55 F c X G⟩
  | 56, hf =>
    cases (show some (Str.ofString "enough_folds") = some x from hf)
    obtain ⟨fd, F⟩ := c.def_ 56 rfl
    exact ⟨_, fd, at56 F c X G⟩
  | 57, hf =>
    cases (show some (Str.ofString "first_place") = some x from hf)
    obtain ⟨fd, F⟩ := c.def_ 57 rfl
    exact ⟨_, fd, at57 F c X G⟩
  | 58, hf =>
    cases (show some (Str.ofString "first_come") = some x from hf)
    obtain ⟨fd, F⟩ := c.def_ 58 rfl
    exact ⟨_, fd, at58 F c X G⟩
  | 59, hf =>
    cases (show some (Str.ofString "all_words") = some x from hf)
    obtain ⟨fd, F⟩ := c.def_ 59 rfl
    exact ⟨_, fd, at59 F c X G⟩
  | 60, hf =>
    cases (show some (Str.ofString "_law_sheet") = some x from hf)
    obtain ⟨fd, F⟩ := c.def_ 60 rfl
    exact ⟨_, fd, at60 F c X G⟩
  | 61, hf =>
    cases (show some (Str.ofString "_law_tear") = some x from hf)
    obtain ⟨fd, F⟩ := c.def_ 61 rfl
    exact ⟨_, fd, at61 F c X G⟩
  | 62, hf => cases (show (none : Option Str) = some x from hf)
  | 63, hf => cases (show (none : Option Str) = some x from hf)
  | 64, hf => cases (show (none : Option Str) = some x from hf)
  | 65, hf => cases (show (none : Option Str) = some x from hf)
  | 66, hf =>
    cases (show some (Str.ofString "_law_always") = some x from hf)
    obtain ⟨fd, F⟩ := c.def_ 62 rfl
    exact ⟨_, fd, at66 F c X G⟩
  | 67, hf =>
    cases (show some (Str.ofString "_law_mixed") = some x from hf)
    obtain ⟨fd, F⟩ := c.def_ 63 rfl
    exact ⟨_, fd, at67 F c X G⟩
  | 68, hf =>
    cases (show some (Str.ofString "_law_late") = some x from hf)
    obtain ⟨fd, F⟩ := c.def_ 64 rfl
    exact ⟨_, fd, at68 F c X G⟩
  | 69, hf =>
    cases (show some (Str.ofString "_law_seen") = some x from hf)
    obtain ⟨fd, F⟩ := c.def_ 65 rfl
    exact ⟨_, fd, at69 F c X G⟩
  | 70, hf =>
    cases (show some (Str.ofString "law") = some x from hf)
    obtain ⟨fd, F⟩ := c.def_ 66 rfl
    exact ⟨_, fd, at70 F c X G⟩
  | i + 71, hf => cases (show (none : Option Str) = some x from hf)
theorem con (c : He.SaysD faL fn K) (X : K.In h) (G : h.Ns mainGlobals mg) (hx : exB K = true) : ∀ x p, gc x = some p → ∃ v u, mg (nm.c x) = some u ∧ RelV v u ∧ ∀ F H, DE.VR K (faK K) F H v p := by
  intro i p hp
  unfold gc at hp
  split at hp
  · rename_i hi
    match i, hi, hp with
    | 0, _, hp =>
      cases (show some ((.int 1000000000000000000000000000000) : DE.P) = some p from hp)
      exact DE.con_int c X G (x := "GREAT") (cf_mem (by simp [cFacts]))
    | 1, _, hp =>
      cases (show some ((.int 100) : DE.P) = some p from hp)
      exact DE.con_int c X G (x := "MOST_FOLDS") (cf_mem (by simp [cFacts]))
    | 2, _, hp =>
      cases (show some ((.int 12) : DE.P) = some p from hp)
      exact DE.con_int c X G (x := "MOST_WRITTEN") (cf_mem (by simp [cFacts]))
    | 3, _, hp =>
      cases (show some ((.str "over") : DE.P) = some p from hp)
      exact DE.con_str c X G (x := "OVER") (cf_mem (by simp [cFacts]))
    | 4, _, hp =>
      cases (show some ((.str "under") : DE.P) = some p from hp)
      exact DE.con_str c X G (x := "UNDER") (cf_mem (by simp [cFacts]))
    | 5, _, hp =>
      cases (show some ((.int 60) : DE.P) = some p from hp)
      exact DE.con_int c X G (x := "MOST_IN_ROW") (cf_mem (by simp [cFacts]))
    | 6, _, hp =>
      cases (show some ((.str "v") : DE.P) = some p from hp)
      exact DE.con_str c X G (x := "VALLEY") (cf_mem (by simp [cFacts]))
    | 7, _, hp =>
      cases (show some ((.str "m") : DE.P) = some p from hp)
      exact DE.con_str c X G (x := "HILL") (cf_mem (by simp [cFacts]))
    | 8, _, hp =>
      cases (show some ((.int 8) : DE.P) = some p from hp)
      exact DE.con_int c X G (x := "MOST_SIGHTS") (cf_mem (by simp [cFacts]))
    | 9, _, hp =>
      cases (show some ((.int 9) : DE.P) = some p from hp)
      exact DE.con_int c X G (x := "MOST_TWICE") (cf_mem (by simp [cFacts]))
    | 10, _, hp =>
      cases (show some ((.tup [(.tup [(.int 1), (.int 0)]), (.tup [(.int 0), (.int 1)]), (.tup [(.int (-1)), (.int 0)]), (.tup [(.int 0), (.int (-1))])]) : DE.P) = some p from hp)
      exact DE.con_tup X G (x := "UNITS") (Bool.and_eq_true_iff.mp hx).2
    | 11, _, hp =>
      cases (show some ((.int 12) : DE.P) = some p from hp)
      exact DE.con_int c X G (x := "MOST_IN_WORD") (cf_mem (by simp [cFacts]))
    | j + 12, _, hp => cases (show (none : Option DE.P) = some p from hp)
  · rename_i hi
    split at hp
    · rename_i hc
      cases hp
      cases hc
    · cases hp
theorem exc (c : He.SaysD faL fn K) (X : K.In h) (G : h.Ns mainGlobals mg) : ∀ e x, nm.e e = some x → mg x = some (.ref (faK K e)) ∧ PySem.W.keepIn K (.ref (faK K e)) = true ∧ (∃ B newId initId bmB, ExcBaseFacts B newId initId bmB ∧ PySem.W.excIn K (faK K e) bmB newId = true) ∧ ∀ X : Cx, X.K = K → Raises X (.ref (faK K e)) := by
  intro e x he
  have hm : (e, x) ∈ xTab := DE.lookup_memN he
  have hx : (decide (1000 ≤ e) && decide (eTab.getD (e - 1000) "" = x) && decide (x ∈ xNames)) = true := List.all_eq_true.mp (show xTab.all (fun p => decide (1000 ≤ p.1) && decide (eTab.getD (p.1 - 1000) "" = p.2) && decide (p.2 ∈ xNames)) = true by decide +kernel) _ hm
  rw [Bool.and_eq_true, Bool.and_eq_true] at hx
  have h1 := of_decide_eq_true hx.1.1
  have h2 := of_decide_eq_true hx.1.2
  have h3 := of_decide_eq_true hx.2
  have e1 : faK K e = He.ga K x := by
    show (if e < 1000 then He.ga K (dTab.getD e "") else He.ga K (eTab.getD (e - 1000) "")) = He.ga K x
    rw [if_neg (by omega), h2]
  rw [e1]
  exact DE.exc_one c X G (xglo_mem h3) (exc_mem h3)
end
theorem wrd {P : Program} {w : World} {K : PySem.W.Frag} {mg : Str → Option Value} {h : Heap} (c : He.SaysD faL fn K) (X : K.In h) (G : h.Ns mainGlobals mg) (hx : exB K = true) : ∀ f x get, nm.w f = some (x, get) → ∃ pg bg sg dV kV doc pm cdv ct oc an od osl Ng a g, DE.WordOk P w K mg h (faK K) x get (DE.wdT TT f) pg bg sg dV kV doc pm cdv ct oc an od osl Ng a g := by
  intro f x get hf
  cases (show (none : Option (Str × Bool)) = some (x, get) from hf)
theorem tok {P : Program} {w : World} {K : PySem.W.Frag} {mg : Str → Option Value} {h : Heap} (c : He.SaysD faL fn K) (X : K.In h) (G : h.Ns mainGlobals mg) (hx : exB K = true) : ∀ f x get, nm.w f = some (x, get) → DE.TryOk P w K mg h (faK K) "_law_names" (DE.wdT TT f) := by
  intro f x get hf
  cases (show (none : Option (Str × Bool)) = some (x, get) from hf)
theorem fx {P : Program} {w : World} {K : PySem.W.Frag} {mg : Str → Option Value} {h : Heap} (c : He.SaysD faL fn K) (X : K.In h) (G : h.Ns mainGlobals mg) (tb : ∀ p ∈ tf.map (He.cT K), LamX.TabB h mg p.1 p.2) (hx : exB K = true) : ∀ k, DE.Fx P w K mg h nm (faK K) gc TT k :=
  DE.fx_all (hd c X G hx tb) (con c X G hx) (DE.free_all c X G fun x hx => List.mem_append_left _ (List.mem_map_of_mem hx)) (exc c X G) (wrd c X G hx) (tok c X G hx) (fun _ _ h => by cases h) (fun _ h => absurd h List.not_mem_nil)
theorem law_holds : PySem.Challenge.rw_foldedstrip_k16_known_strips_by_hand.Holds := by
  w_on; o_law
  refine HandSHeadRun.head_any (r := PySem.W.OpenLaw.row PySem.Challenge.rw_foldedstrip_k16_known_strips_by_hand) (q := PySem.W.view (PySem.W.OpenLaw.row PySem.Challenge.rw_foldedstrip_k16_known_strips_by_hand).prog [101]) (H := hk) (ob := ob) (M := 8000) (loose := loose) (d := HandSHeadRun.topDef (PySem.W.OpenLaw.row PySem.Challenge.rw_foldedstrip_k16_known_strips_by_hand).prog 101) (kwd := []) ob_eq
    (by kernel_rfl) (fun s => by kernel_rfl) run (by kernel_rfl) (by kernel_rfl) (by kernel_rfl) (by rfl) (by first | assumption | decide +kernel) (by decide +kernel) ⟨rfl, rfl, rfl, rfl, rfl, by decide +kernel⟩ ?hw ?hc
  case hw => w_witness2
  case hc =>
    refine LamX.walk_ofTsE (l := PySem.Challenge.rw_foldedstrip_k16_known_strips_by_hand) (n := 63) (k := 3 * (60 + 1)) (x := "_law_script") (CX := fun w => L2N.CX PySem.Challenge.rw_foldedstrip_k16_known_strips_by_hand.prog w) rfl (by decide) (by kernel_rfl) ⟨rfl, by decide, by decide⟩ ?F (fun w H s e s' ⟨_, _, _, _, _, _, _, _, _, _, _, _, z⟩ => z)
    intro w mg fa h Y G hmg0
    obtain ⟨K, KX, c⟩ := Y
    have hmg : mg ("law" : PySem.Str) = some (.ref fa) := by
      have e : (HandSHeadRun.topDef (PySem.W.OpenLaw.row PySem.Challenge.rw_foldedstrip_k16_known_strips_by_hand).prog 101).name = ("law" : PySem.Str) := by kernel_rfl
      rw [← e]
      exact hmg0
    have cd := c.t.d
    obtain ⟨fd, F⟩ := cd.def_ 66 rfl
    have e := hmg.symm.trans (He.glo_ok KX G (cd.facts (glo_mem (x := "law") (by decide +kernel))))
    cases e
    refine ⟨K, KX, DE.law_at (k := 60) (fL := 70) (xl := "law") (fd := fd) (nm := nm) (fa := faK K) (gc := gc) (T := TT) (cs := tf.map (He.cT K)) ?_ ?_ ?_ ?_ (fun base X G tb => fx cd X G tb c.more _) (fun base X G tb => at70 F cd X G ) rfl (fun s u => FunD.bindsA (ps := ["_law_script"]) F (fun _ _ _ _ _ _ us hl => match us, hl with | [_], _ => rfl) s [u] rfl) (fun ns hl hb => law_true ns hl hb)⟩
    · intro p hp
      obtain ⟨q, hq, rfl⟩ := List.mem_map.mp hp
      exact c.empty q hq
    · intro p hp
      obtain ⟨q, hq, rfl⟩ := List.mem_map.mp hp
      exact c.out q hq
    · intro p hp
      obtain ⟨q, hq, rfl⟩ := List.mem_map.mp hp
      exact PySem.W.codeHd_of_K KX (c.hd q hq)
    · intro p hp
      obtain ⟨q, hq, hq2⟩ := tbs_mem hp
      exact ⟨He.cT K q, List.mem_map_of_mem hq, hq2⟩
end LAW
end

theorem PySem.Challenge.cw_foldedstrip_k16_known_strips_by_hand_holds : PySem.Challenge.rw_foldedstrip_k16_known_strips_by_hand.Holds :=
  LAW.law_holds
