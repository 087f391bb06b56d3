import PyProof.Rows.All
import Wide.All
import OpenK.AllK
import Wide.FinOn
import HandS.ForMost
import HandS.Lambda
import HandS.ExcCtx
import HandS.HotCalls
import PyProof.LongRange
import PyProof.FactsAll.range
import HandS.Set
import HandS.SetFor
import HandS.Strs
import PyProof.Rows.StrMeet
import HandS.More
import HandS.SortInts
import HandS.SortRule
import HandS.ForExc
import HandS.Wide
import HandS.TupAny
import HandS.TupMul
import HandS.IsInst
import HandS.Conv
import HandS.Zip
import HandS.Style
import HandS.Flow
import HandS.RaiseMore
import HandS.Dict
import HandS.Defaults
import HandS.HeadWalk
import HandS.HeadHook4
import PyProof.StrLawsIn
import PyProof.StrLaws
import PyProof.StrBlock
import HandS.ExcIs
import KE.GoesZip
import KE.GoesMore
import HandS.Words
import HandS.Head0
import HandS.Head1
import HandS.Head2
import KE.KStateDown
import Lean
import PySem.Challenge.RW_foldedstrip_k05_whole_what_was_seen
set_option Elab.async false
section
set_option Elab.async false
set_option linter.all false
set_option maxRecDepth 100000
set_option maxHeartbeats 2000000
set_option autoImplicit false
namespace DL
open PySem PySem.Spec PyProof.Rows L2 LamX
def lamCx (X : Cx) (A : Around) (outer : List Env) (s : Shared) (H : Hp) (E : XK) (scope : Scope) (f c' : Addr) : Cx :=
  (LamX.lamCx X A outer s H E scope f c').tr [] (fun e s' => wpAny (model X.prog X.w) (A.deeper (lamEnv X scope s.heap.objs.size f c')) (leaving (lamEnv X scope s.heap.objs.size f c') e) (fun _ s'' => L2N.CX X.prog X.w outer H s E e s'') (fun e' s'' => L2N.CX X.prog X.w outer H s E e' s'') s')
theorem lamCx_takes {X : Cx} {A : Around} {outer : List Env} {s : Shared} {H : Hp} {E : XK} {scope : Scope} {f c' : Addr} : L2N.Takes (lamCx X A outer s H E scope f c') (fun cls d _ H => E cls d H) :=
  L2N.takes_of (X := lamCx X A outer s H E scope f c') rfl rfl rfl rfl
theorem takes0 {X : Cx} : L2N.Takes X (fun _ _ _ _ => False) := fun _ _ ⟨_, _, _, _, _, _, _, _, _, _, _, _, _, _, _, _, z⟩ => z.elim
section
variable {X : Cx} {pins : List (Addr × Obj)} {σ : L2.St} {H HZ : Hp} {s s1 : Shared}
theorem pe_act {CXg : CXT} {Eg : XK} {Ng : List Str} {qg : Str} {sg : Scope} {g f c' : Addr} {cdg pm ctv : Value} {params : Arguments} {body : Expr} {scope : Scope} {k i : Nat} {a : Str} {pn : List (Addr × Obj)} {xe : Value → Shared → Prop} {W : WX} {E : XK} {tb : TE} {p1 p2 : Pos}
    (I : Inv X pins σ H s) (L : LamS X.env.scope scope) (hf : s.heap.get? f = some (PySem.W.kla_obj "<lambda>" (X.env.qual ++ "<lambda>") params body scope (cloFrom X.env.cells scope.names []) pm c' ctv)) (hfn : H f = none) (hfr : f ∉ frs X.stack)
    (hbind : bindArgs (PySem.W.kla_fn "<lambda>" (X.env.qual ++ "<lambda>") params body scope (cloFrom X.env.cells scope.names []) pm (.ref c') ctv) ⟨[], []⟩ = pure [])
    (tk : L2N.Takes ((cxOf CXg X.prog X.w X.K X.mg X.base Ng qg sg g cdg X.A X.stack s H Eg).tr pn xe) W) (hW : ∀ cls d σ' H', E cls d H' → W cls d σ' H') (hr : Room (k + 1) (X.A.deeper (envOfC qg sg s.heap.objs.size g cdg)))
    (hbody : ∀ (A : Around) (outer : List Env) (s : Shared) (H : Hp), Room k (A.deeper (lamEnv X scope s.heap.objs.size f c')) → PE (lamCx X A outer s H E scope f c') body tb)
    (hN : Ng[i]? = some a) (hv : Vis sg a) (hd : (a == ("__debug__" : Str)) = false := by decide) (hcd : (a == ("__classdict__" : Str)) = false := by decide) :
    PE ((cxOf CXg X.prog X.w X.K X.mg X.base Ng qg sg g cdg X.A X.stack s H Eg).tr pn xe) (.Call (.Name a p1) [] [] p2)
      (fun σZ HZ Q => σZ[i]? = some (some (.ref f)) ∧ HZ c' = some (CodeO c' (X.env.qual ++ "<lambda>")) ∧ tb σ HZ Q) := by
  refine ⟨fun pinsZ sZ σZ HZ Q IZ h => ?_⟩
  obtain ⟨hs, hc, ht⟩ := h
  refine wpAny_Call_Name_kw (thn ((pe_var (pos := p1) (i := i) hN hv hd hcd).run pinsZ sZ σZ HZ (fun v H1 => v = .ref f ∧ H1 = HZ) IZ ⟨.ref f, hs, rfl, rfl⟩) fun u s1 ⟨v, H1, I1, r1, q1⟩ => ?_)
  obtain ⟨ev, eH⟩ := q1
  subst ev
  rw [eH] at I1
  obtain rfl : u = Value.ref f := r1
  have of1 : s1.heap.get? f = some (PySem.W.kla_obj "<lambda>" (X.env.qual ++ "<lambda>") params body scope (cloFrom X.env.cells scope.names []) pm c' ctv) := I1.base.keep f _ hf hfn hfr (fun z => nomatch (show f ∈ ([] : List Addr) from z))
  refine PySem.W.callWith_F0 ⟨_, _, _, _, of1⟩ ?_
  have un : Un (frs X.stack) [] H HZ s.heap s1.heap := I1.base
  obtain ⟨⟨oc, vs, t, hoc, hdc, hvc⟩, _, _⟩ := I1.hok c' _ hc
  have rc : codeAny (model X.prog X.w) (X.A.deeper (envOfC qg sg s.heap.objs.size g cdg)) (.call (.ref f) ⟨[], []⟩) (CR (L2N.CX X.prog X.w) (envOfC qg sg s.heap.objs.size g cdg :: X.stack) X.prog X.w HZ s1 Q E) s1 := by
    refine PySem.W.kla_callFunE hr.depth of1 rfl L.co L.gen rfl ⟨c', oc, vs, t, rfl, hoc, hdc, hvc⟩ ?_
    rw [hbind]
    refine wpAny_pure (wpAny_newFunctionEnv (fun y hy => (L.own y hy).2) (fun y hy => absurd hy (by simp)) (fun h₁ hns hsb => ⟨I1.nolimit.fresh _ hsb, ?_⟩) L.kind)
    show codeAny _ _ (.expr body (lamEnv X scope s1.heap.objs.size f c')) _ _
    have kp : ∀ b o, s1.heap.get? b = some o → h₁.get? b = some o := fun b o e => hsb.extBut b o (Nat.ne_of_lt (Heap.lt_size e)) (Heap.get?_push_of_some _ e)
    have J0 : Inv (LamX.lamCx X (X.A.deeper (envOfC qg sg s.heap.objs.size g cdg)) (envOfC qg sg s.heap.objs.size g cdg :: X.stack) s1 HZ E scope f c') [] σ HZ { s1 with heap := h₁, toks := s1.toks + ([] : List (Str × Value)).length } :=
      lam_start2 I L I1.env0 hr.hd un hns kp
    have J : Inv (lamCx X (X.A.deeper (envOfC qg sg s.heap.objs.size g cdg)) (envOfC qg sg s.heap.objs.size g cdg :: X.stack) s1 HZ E scope f c') [] σ HZ { s1 with heap := h₁, toks := s1.toks + ([] : List (Str × Value)).length } := J0.toTry _
    refine PySem.W.kla_codeExpr (wpAny_mono ((hbody _ _ s1 HZ (hr.deeper _)).run [] _ _ HZ Q J ht) (fun v s' hq => ?_) fun e s' hq => hq)
    obtain ⟨w', H', J', rv, q⟩ := hq
    exact ⟨w', H', J'.os, J'.bare, J'.base, J'.hok, rv, q⟩
  have hx : Passes (L2N.CX X.prog X.w) ((cxOf CXg X.prog X.w X.K X.mg X.base Ng qg sg g cdg X.A X.stack s H Eg).tr pn xe) E := L2N.passes_call tk hW
  refine wpAny_call (codeAny_mono rc fun r s' hq => ?_)
  cases r with
  | error e => exact hx pinsZ σZ HZ s1 e s' I1 hq
  | ok fl =>
    cases fl with
    | ret u => exact I1.after hq
    | next => exact False.elim hq
    | brk => exact False.elim hq
    | cont => exact False.elim hq
end
/-- the def that calls what it got: a calls it; TT: what it makes of the lambda's reading -/
def GivesTo (X : Cx) (Ng : List Str) (x : Str) (sg : Scope) (g : Addr) (cdg : Value) (bg : List Stmt) (a : Str) (q : Str) (TT : (XK → Hp → VK → Prop) → Hp → VK → Prop) : Prop :=
  ∀ (f c' : Addr) (s : Shared) (H : Hp) (Q : VK) (tl : XK → Hp → VK → Prop), Room 1 (X.A.deeper (envOfC x sg s.heap.objs.size g cdg)) →
    (∀ (W : WX) (pn : List (Addr × Obj)) (xe : Value → Shared → Prop) (E : XK) (p1 p2 : Pos), L2N.Takes ((cxOf C8.CX0 X.prog X.w X.K X.mg X.base Ng x sg g cdg X.A X.stack s H C8.E0).tr pn xe) W → (∀ cls d σ' H', E cls d H' → W cls d σ' H') →
      PE ((cxOf C8.CX0 X.prog X.w X.K X.mg X.base Ng x sg g cdg X.A X.stack s H C8.E0).tr pn xe) (.Call (.Name a p1) [] [] p2) (fun σZ HZ Q => σZ[0]? = some (some (.ref f)) ∧ HZ c' = some (CodeO c' q) ∧ tl E HZ Q)) →
    H c' = some (CodeO c' q) → TT tl H Q →
    ∃ t, PSs (cxOf C8.CX0 X.prog X.w X.K X.mg X.base Ng x sg g cdg X.A X.stack s H C8.E0).nox bg t ∧ t { nx := fun _ H' => Q .non H', rt := Q } (L2.start Ng [.ref f]) H
section
variable {X : Cx}
theorem pe_lamcall {T : List (Addr × Str)} {TT : (XK → Hp → VK → Prop) → Hp → VK → Prop} {x a : Str} {g c P : Addr} {k : Nat} {pg : Arguments} {bg : List Stmt} {sg : Scope} {dV kV doc pm cdv ct oc : Value} {an od : Option Addr} {osl : Array (Option Value)} {Ng : List Str}
    {params : Arguments} {body : Expr} {scope : Scope} {t : XK → TE} {p lpos pos : Pos} (hg : Gl X x) (hm : X.mg x = some (.ref g)) (hk : PySem.W.keepIn X.K (.ref g) = true)
    (lk : X.K.lookup g = some ⟨oc, od, .func (PySem.W.fnOf x x pg bg sg dV kV doc pm an cdv ct), osl⟩) (hcg : PySem.W.codeIn X.K cdv x = true) (hb : L2.Binds X.K (PySem.W.fnOf x x pg bg sg dV kV doc pm an cdv ct) [a] []) (Sg : FnScope Ng [a] sg) (hNg : Ng[0]? = some a) (hva : Vis sg a)
    (hG : GivesTo X Ng x sg g cdv bg a (X.env.qual ++ "<lambda>") TT)
    (TB : TabB X.base X.mg c P) (hcode : X.env.code = .ref c) (hmT : (P, X.env.qual ++ "<lambda>") ∈ T) (hu : ∀ p ∈ T, p.1 = P → p.2 = X.env.qual ++ "<lambda>") (hr : Room (k + 2) X.A) (L : LamS X.env.scope scope) (hdef : defaultsOf params X.env = ([], []))
    (hbind : ∀ (q : Str) (cl : List (Str × Addr)) (pm cv ctv : Value), bindArgs (PySem.W.kla_fn "<lambda>" q params body scope cl pm cv ctv) ⟨[], []⟩ = pure [])
    (hbody : ∀ (A : Around) (outer : List Env) (s : Shared) (H : Hp) (E : XK) (f c' : Addr), Room k (A.deeper (lamEnv X scope s.heap.objs.size f c')) → PE (lamCx X A outer s H E scope f c') body (t E))
    (hdb : (x == ("__debug__" : Str)) = false := by decide) (hd : (a == ("__debug__" : Str)) = false := by decide) (hcd : (a == ("__classdict__" : Str)) = false := by decide) :
    PE X (.Call (.Name x p) [.Lambda params body scope lpos] [] pos) (tLam T TT t) := by
  refine ⟨fun pins s σ H Q I h => ?_⟩
  obtain ⟨hT, h⟩ := h
  refine wpAny_Call_Name_kw (ld_glob I hg hm ?_ hdb)
  refine PySem.W.callWith_K (h₀ := X.base) I.ok.mod.kin hk ?_ (by rfl) (by rfl)
  show wpAny _ _ (spliced ((false, eval (.Lambda params body scope lpos) X.env) :: backTo pos (starEach [] X.env))) _ _ s
  refine Calls.spliced_cons (lam_make2 I TB hcode hmT hu hT hdef (L.has I.ok) fun f c' pm' ctv H1 s' I1 eN T1 hf hfn hfr hco => ?_)
  refine Calls.spliced_nil ⟨I1.kIn, ?_⟩
  have rc : codeAny (model X.prog X.w) X.A (.call (.ref g) ⟨[.ref f], []⟩) (CR C8.CX0 X.stack X.prog X.w H1 s' Q C8.E0) s' := by
    refine run_ofS (N := Ng) (ps := [a]) (us := [.ref f]) (vs := [.ref f]) lk hcg Sg hr I1.env0 (hb s' [.ref f] I1.kIn rfl) (.cons rfl .nil) rfl fun hr' => ?_
    obtain ⟨t', ht', hq'⟩ := hG f c' s' H1 Q (fun E H' Q' => t E σ H' Q') (hr'.mono (by omega)) (fun W pn xe E p1 p2 tk hW => pe_act (i := 0) I1 L hf hfn hfr (hbind _ _ _ _ _) tk hW hr' (fun A outer s H hr2 => hbody A outer s H E f c' hr2) hNg hva hd hcd) hco (h H1 eN T1)
    exact ⟨t', ht'.nox, hq'⟩
  refine wpAny_call (codeAny_mono rc fun r s2 hq => ?_)
  cases r with
  | error e => exact (show False from hq).elim
  | ok fl =>
    cases fl with
    | ret u => exact I1.after hq
    | next => exact False.elim hq
    | brk => exact False.elim hq
    | cont => exact False.elim hq
end
end DL
end

section
set_option Elab.async false
set_option linter.all false
set_option maxRecDepth 100000
set_option autoImplicit false
namespace RB
open PySem PySem.Spec PyProof.Rows L2
theorem turn_long {P : Program} {w : World} {K : PySem.W.Frag} {tg : Expr} (it : Addr) (lo : Int) (n : Nat) : Turn P w K tg (Itr lo n) [it] it (fun i h => IsLongIter h it (lo + (i : Nat) * 1) ((n : Int) - (i : Nat)) 1) where
  mem := by simp
  obj := fun i h st b hb => by
    have e : b = it := by simpa using hb
    subst e
    exact ⟨_, st, fun v z => by
      have z' : Data.fields _ = Data.cell v := z
      cases z'⟩
  keep := fun i h h' st k => k it (by simp) _ st
  item := by
    intro X hP hw hK hc i pins s σ H E I hf st hg
    subst hP hw hK
    obtain ⟨f0, f1, f2, f3, f4, f5⟩ := hf it (by simp)
    have W := Walks.longrange (prog := X.prog) (w := X.w) (I.ok.hd hc) it lo 1 n
    refine W.item i s _ _ hg st fun v h' tk hv st' kk => ?_
    obtain ⟨t, rfl⟩ := hv
    have I1 : Inv X pins σ H { s with heap := h', toks := tk } := I.turned (fun b o hb e => kk b o (by simpa using hb) e) f0 f1 f3 f4 f5
    refine ⟨_, rfl, go_of (s := { s with heap := h', toks := tk }) (n := "longrange_iterator") st' rfl rfl (by decide) ⟨.int (lo + i), H, I1, ⟨t, ?_⟩, ⟨rfl, rfl⟩, st', fun b hb => (hf b hb).1⟩⟩
    rw [Int.mul_one]
  done := by
    intro X hP hw hK hc i pins s σ H E I hf st hg
    subst hP hw hK
    obtain ⟨f0, f1, f2, f3, f4, f5⟩ := hf it (by simp)
    exact wpAny_pyNext_long_end (I.ok.hd hc) st (by have : n ≤ i := hg; omega) fun h' eb => ⟨rfl, I.turned (t' := s.toks) (fun b o hb e => eb b o hb e) f0 f1 f3 f4 f5⟩
  self := fun _ _ _ _ _ st h => wpAny_pyIter_longiter st h
section
variable {X : Cx} {tg : Expr}
theorem range_itB {pins : List (Addr × Obj)} {σ : L2.St} {H : Hp} {s : Shared} {R : It → Hp → Prop} {E : Value → Shared → Prop} {lo hi : Int} {t u v : Tok} {tk : Nat} (I : Inv X pins σ H s)
    (q : R (Itr lo (hi - lo).toNat) H) : wpAny (model X.prog X.w) X.A (pyIter (.ref s.heap.objs.size)) (PIE X pins σ tg R) E { s with heap := s.heap.push { cls := .type "range", data := .fields #[.int lo t, .int hi u, .int 1 v] }, toks := tk } := by
  have e1 : lo + ((0 : Nat) : Int) * 1 = lo := by simp
  have e2 : (((hi - lo).toNat : Nat) : Int) - ((0 : Nat) : Int) = Builtin.Range.rangeSize lo hi 1 := by rw [rangeSize_one]; split <;> omega
  have I1 : Inv X pins σ H { s with heap := s.heap.push { cls := .type "range", data := .fields #[.int lo t, .int hi u, .int 1 v] }, toks := tk } := I.kept fun b o e => Heap.get?_push_of_some _ e
  cases hs : Builtin.Range.small lo hi 1 with
  | true =>
    refine wpAny_pyIter_range (IsRange.new ..) hs ?_
    refine ⟨(s.heap.push { cls := .type "range", data := .fields #[.int lo t, .int hi u, .int 1 v] }).objs.size, [(s.heap.push { cls := .type "range", data := .fields #[.int lo t, .int hi u, .int 1 v] }).objs.size], _, _, H, rfl,
      I1.kept (t' := tk) fun b o e => Heap.get?_push_of_some _ e, turn_range _ lo (hi - lo).toNat, ?_, fun b hb => ?_, q⟩
    · show IsRangeIter _ _ (lo + ((0 : Nat) : Int) * 1) ((((hi - lo).toNat : Nat) : Int) - ((0 : Nat) : Int)) 1
      rw [e1, e2]
      exact Heap.get?_push_size _ rfl
    · have e : b = (s.heap.push { cls := .type "range", data := .fields #[.int lo t, .int hi u, .int 1 v] }).objs.size := by simpa using hb
      subst e
      exact I1.fpOk (Nat.le_refl _) (I1.hok.fresh (Nat.le_refl _))
  | false =>
    refine wpAny_pyIter_longrange (IsRange.new ..) hs ?_
    refine ⟨(s.heap.push { cls := .type "range", data := .fields #[.int lo t, .int hi u, .int 1 v] }).objs.size, [(s.heap.push { cls := .type "range", data := .fields #[.int lo t, .int hi u, .int 1 v] }).objs.size], _, _, H, rfl,
      I1.kept (t' := tk) fun b o e => Heap.get?_push_of_some _ e, turn_long _ lo (hi - lo).toNat, ?_, fun b hb => ?_, q⟩
    · show IsLongIter _ _ (lo + ((0 : Nat) : Int) * 1) ((((hi - lo).toNat : Nat) : Int) - ((0 : Nat) : Int)) 1
      rw [e1, e2]
      exact Heap.get?_push_size _ rfl
    · have e : b = (s.heap.push { cls := .type "range", data := .fields #[.int lo t, .int hi u, .int 1 v] }).objs.size := by simpa using hb
      subst e
      exact I1.fpOk (Nat.le_refl _) (I1.hok.fresh (Nat.le_refl _))
def iRngB1 (ta : TA) : TI := fun σ H R => ta σ H fun vs H1 => ∃ j : Int, vs = [.int j] ∧ R (Itr 0 j.toNat) H1
def iRngB2 (ta : TA) : TI := fun σ H R => ta σ H fun vs H1 => ∃ i j : Int, vs = [.int i, .int j] ∧ R (Itr i (j - i).toNat) H1
theorem pi_rangeB1 {a : Expr} {ta : TA} {p pos : Pos} (hg : Gl X "range") (hm : X.mg "range" = none) (ha : PA X [a] ta) (hs : starEach [a] X.env = [(false, eval a X.env)] := by rfl) : PI X tg (.Call (.Name "range" p) [a] [] pos) (iRngB1 ta) := by
  refine ⟨fun pins s σ H R I h => ?_⟩
  refine Call_ (ld_blt I hg hm boot_range (PyProof.Rows.callWith_type1 (thn (ha.run pos pins s σ H _ I h) fun us s1 ⟨vs, H1, I1, r1, q1⟩ => ?_) hs rfl))
  obtain ⟨j, e, q⟩ := q1
  subst e
  cases r1 with
  | cons r rr =>
    cases rr
    obtain ⟨t, rfl⟩ := r
    exact call_range_1 (range_itB (lo := 0) (hi := j) (R := R) I1 (by rw [Int.sub_zero]; exact q))
theorem pi_rangeB2 {a b : Expr} {ta : TA} {p pos : Pos} (hg : Gl X "range") (hm : X.mg "range" = none) (ha : PA X [a, b] ta) (hs : starEach [a, b] X.env = [(false, eval a X.env), (false, eval b X.env)] := by rfl) (hs2 : starEach [b] X.env = [(false, eval b X.env)] := by rfl) :
    PI X tg (.Call (.Name "range" p) [a, b] [] pos) (iRngB2 ta) := by
  refine ⟨fun pins s σ H R I h => ?_⟩
  refine Call_ (ld_blt I hg hm boot_range (PyProof.Rows.callWith_type1 (thn (ha.run pos pins s σ H _ I h) fun us s1 ⟨vs, H1, I1, r1, q1⟩ => ?_) (by rw [hs, hs2]) (by rw [hs2]; rfl)))
  obtain ⟨i, j, e, q⟩ := q1
  subst e
  cases r1 with
  | cons r rr =>
    cases rr with
    | cons r' rr =>
      cases rr
      obtain ⟨t, rfl⟩ := r
      obtain ⟨t', rfl⟩ := r'
      exact call_range_2 (range_itB I1 q)
end
end RB
end

section
set_option Elab.async false
set_option linter.all false
set_option maxRecDepth 100000
set_option maxHeartbeats 4000000
set_option autoImplicit false
namespace SX
open PySem PySem.Spec PyProof.Rows L2
def ltS (x y : Str) : Bool := ltCps x.cps.toList y.cps.toList
theorem ltS_iff {x y : Str} : ltS x y = true ↔ x.cps.toList < y.cps.toList := by
  unfold ltS
  rw [ltCps_eq, decide_eq_true_eq]
theorem ltS_irr (x : Str) : ltS x x = false := by
  cases h : ltS x x with
  | false => rfl
  | true => exact absurd (ltS_iff.mp h) (List.lt_irrefl _)
theorem ltS_trans {x y z : Str} (h1 : ltS x y = true) (h2 : ltS y z = true) : ltS x z = true := ltS_iff.mpr (List.lt_trans (ltS_iff.mp h1) (ltS_iff.mp h2))
theorem cps_eq {x y : Str} (h : x.cps.toList = y.cps.toList) : x = y := by
  cases x; cases y
  congr 1
  exact Array.toList_inj.mp h
theorem ltS_or {x y : Str} (h : ltS x y = false) : ltS y x = true ∨ x = y := by
  by_cases e : x = y
  · exact .inr e
  · left
    rw [ltS_iff]
    have h1 : ¬ x.cps.toList < y.cps.toList := fun z => by rw [ltS_iff.mpr z] at h; cases h
    have h2 : y.cps.toList ≤ x.cps.toList := List.not_lt.mp h1
    rcases List.le_iff_lt_or_eq.mp h2 with h3 | h3
    · exact h3
    · exact absurd (cps_eq h3).symm e
/-- put into a rising list -/
def putS (z : Str) : List Str → List Str
  | [] => [z]
  | y :: r => if ltS z y then z :: y :: r else if ltS y z then y :: putS z r else y :: r
def srtS (zs : List Str) : List Str := zs.foldr putS []
theorem mem_putS {z x : Str} : ∀ {l : List Str}, x ∈ putS z l ↔ x = z ∨ x ∈ l
  | [] => by simp [putS]
  | y :: r => by
    unfold putS
    split
    · simp
    · rename_i h1
      split
      · rw [List.mem_cons, mem_putS (l := r), List.mem_cons]
        constructor
        · rintro (h | h | h)
          · exact .inr (.inl h)
          · exact .inl h
          · exact .inr (.inr h)
        · rintro (h | h | h)
          · exact .inr (.inl h)
          · exact .inl h
          · exact .inr (.inr h)
      · rename_i h2
        have e : z = y := by
          rcases ltS_or (x := z) (y := y) (by simpa using h1) with h | h
          · exact absurd h h2
          · exact h
        rw [e]
        simp
theorem mem_srtS {x : Str} : ∀ {l : List Str}, x ∈ srtS l ↔ x ∈ l
  | [] => by simp [srtS]
  | y :: r => by
    show x ∈ putS y (srtS r) ↔ _
    rw [mem_putS, mem_srtS (l := r), List.mem_cons]
theorem putS_up {z : Str} : ∀ {l : List Str}, l.Pairwise (fun a b => ltS a b = true) → (putS z l).Pairwise (fun a b => ltS a b = true)
  | [], _ => by simp [putS]
  | y :: r, h => by
    obtain ⟨h1, h2⟩ := List.pairwise_cons.mp h
    unfold putS
    split
    · rename_i q
      refine List.pairwise_cons.mpr ⟨fun x hx => ?_, h⟩
      rcases List.mem_cons.mp hx with rfl | hx
      · exact q
      · exact ltS_trans q (h1 x hx)
    · split
      · rename_i q
        refine List.pairwise_cons.mpr ⟨fun x hx => ?_, putS_up h2⟩
        rcases mem_putS.mp hx with rfl | hx
        · exact q
        · exact h1 x hx
      · exact h
theorem srtS_up : ∀ l : List Str, (srtS l).Pairwise (fun a b => ltS a b = true)
  | [] => List.Pairwise.nil
  | y :: r => putS_up (srtS_up r)
theorem up_ext : ∀ {l m : List Str}, l.Pairwise (fun a b => ltS a b = true) → m.Pairwise (fun a b => ltS a b = true) → (∀ x, x ∈ l ↔ x ∈ m) → l = m
  | [], [], _, _, _ => rfl
  | [], y :: m, _, _, h => absurd ((h y).mpr List.mem_cons_self) (by simp)
  | x :: l, [], _, _, h => absurd ((h x).mp List.mem_cons_self) (by simp)
  | x :: l, y :: m, hl, hm, h => by
    obtain ⟨a1, a2⟩ := List.pairwise_cons.mp hl
    obtain ⟨b1, b2⟩ := List.pairwise_cons.mp hm
    have e : x = y := by
      rcases List.mem_cons.mp ((h x).mp List.mem_cons_self) with e | hx
      · exact e
      · rcases List.mem_cons.mp ((h y).mpr List.mem_cons_self) with e | hy
        · exact e.symm
        · have c := ltS_trans (a1 y hy) (b1 x hx)
          rw [ltS_irr] at c
          cases c
    subst e
    congr 1
    refine up_ext a2 b2 fun z => ?_
    constructor
    · intro hz
      rcases List.mem_cons.mp ((h z).mp (List.mem_cons_of_mem _ hz)) with e | q
      · have c := a1 z hz
        rw [e, ltS_irr] at c
        cases c
      · exact q
    · intro hz
      rcases List.mem_cons.mp ((h z).mpr (List.mem_cons_of_mem _ hz)) with e | q
      · have c := b1 z hz
        rw [e, ltS_irr] at c
        cases c
      · exact q
theorem up_of : ∀ {l : List Str}, sortedS l = true → l.Nodup → l.Pairwise (fun a b => ltS a b = true)
  | [], _, _ => List.Pairwise.nil
  | [x], _, _ => by simp
  | x :: y :: r, h, d => by
    have h : (!ltS y x && sortedS (y :: r)) = true := h
    rw [Bool.and_eq_true, Bool.not_eq_true'] at h
    obtain ⟨d1, d2⟩ := List.nodup_cons.mp d
    have ih := up_of h.2 d2
    have xy : ltS x y = true := by
      rcases ltS_or h.1 with q | q
      · exact q
      · exact absurd (by rw [← q]; exact List.mem_cons_self) d1
    refine List.pairwise_cons.mpr ⟨fun z hz => ?_, ih⟩
    rcases List.mem_cons.mp hz with rfl | hz
    · exact xy
    · exact ltS_trans xy ((List.pairwise_cons.mp ih).1 z hz)
theorem srtS_len (l : List Str) : (srtS l).length ≤ l.length := by
  induction l with
  | nil => exact Nat.le_refl _
  | cons y r ih =>
    have key : ∀ m : List Str, (putS y m).length ≤ m.length + 1 := by
      intro m
      induction m with
      | nil => exact Nat.le_refl _
      | cons z m ihm =>
        unfold putS
        split
        · exact Nat.le_refl _
        · split
          · simpa using ihm
          · simp
    have := key (srtS r)
    show (putS y (srtS r)).length ≤ r.length + 1
    omega
end SX
end

section
set_option Elab.async false
set_option linter.all false
set_option maxRecDepth 100000
set_option maxHeartbeats 4000000
set_option autoImplicit false
namespace SX
open PySem PySem.Spec PyProof.Rows L2
def sKey (e : Int × Value) : Str := match e.2 with
  | .str x _ => x
  | _ => Str.empty
def isS (P : Program) (w : World) (e : Int × Value) : Prop := ∃ x tk, e.2 = Value.str x tk ∧ e.1 = (PySem.strKind P w).hash x
/-- the set of texts at a; M: its members, somehow ordered -/
structure Sts (P : Program) (w : World) (h : Heap) (a : Addr) (M : List Str) (o : Obj) (es : Array (Int × Value)) (ep : Nat) (t : SetTable) : Prop where
  ob : h.get? a = some o
  exact_ : o.ExactSet
  data : o.data = .set es ep t
  good : ∀ e ∈ es.toList, isS P w e
  perm : (es.toList.map sKey).Perm M
  nd : M.Nodup
  few : es.size < scanBound
  fits : t.fits es.size = true
  ris : Ris t.place.toList
  led : w.params.followText "set-order" = true ∨ t.led = true
def StsE (P : Program) (w : World) (h : Heap) (a : Addr) (M : List Str) : Prop := ∃ o es ep t, Sts P w h a M o es ep t
section
variable {P : Program} {w : World} {h h' : Heap} {a : Addr} {M : List Str} {o : Obj} {es : Array (Int × Value)} {ep : Nat} {t : SetTable}
theorem Sts.at (R : Sts P w h a M o es ep t) (k : ∀ o, h.get? a = some o → h'.get? a = some o) : Sts P w h' a M o es ep t := { R with ob := k o R.ob }
theorem StsE.at (R : StsE P w h a M) (k : ∀ o, h.get? a = some o → h'.get? a = some o) : StsE P w h' a M := by
  obtain ⟨o, es, ep, t, r⟩ := R
  exact ⟨o, es, ep, t, r.at k⟩
theorem Sts.elems (R : Sts P w h a M o es ep t) : ElemsOf (PySem.strKind P w) es.toList := fun e he => by
  obtain ⟨x, tk, e1, e2⟩ := R.good e he
  refine ⟨⟨x, ?_, e2⟩, ?_⟩
  · rw [e1]
    exact strKind_is _ _ _ _
  · rw [e1] <;> rfl
theorem is_iff {e : Int × Value} (g : isS P w e) (x : Str) : (PySem.strKind P w).is x e.2 = true ↔ sKey e = x := by
  obtain ⟨y, tk, e1, _⟩ := g
  unfold sKey
  rw [e1]
  constructor
  · intro q
    obtain ⟨u, hu⟩ := Value.isStrOf_shape (show Value.isStrOf x (.str y tk) = true from q)
    cases hu
    rfl
  · rintro rfl
    exact strKind_is _ _ _ _
theorem Sts.size (R : Sts P w h a M o es ep t) : es.size = M.length := by
  have q := R.perm.length_eq
  rw [List.length_map, Array.length_toList] at q
  exact q
end
section
variable {P : Program} {w : World} {A : Around} {E : Value → Shared → Prop} {s : Shared} {a : Addr} {M : List Str} {o : Obj} {es : Array (Int × Value)} {ep : Nat} {t : SetTable}
/-- the new items are stored, the table laid anew where it is too full -/
theorem put_end {g : Bool → Sem Unit} (hg : ∀ (b : Bool) (s₁ : Shared) (Q' : Unit → Shared → Prop), Q' () s₁ → wpAny (model P w) A (g b) Q' E s₁)
    {es1 : Array (Int × Value)} {t2 : SetTable} (ho : s.heap.get? a = some o) (hx : o.ExactSet) (hd : o.data = .set es ep t) (R1 : ∀ h' o', h'.get? a = some o' → o'.ExactSet → o'.data = .set es1 (ep + 1) t2 → Sts P w h' a M o' es1 (ep + 1) t2) (hfew : es1.size < scanBound) {wd : Bool} {R : Option Bool → Shared → Prop}
    (hR : ∀ h', Heap.SameBut a s.heap h' → StsE P w h' a M → R (some true) { s with heap := h' }) :
    wpAny (model P w) A (do
      storeSet a es1 t2; if (!wd && t2.tooFull) = true then do (do g (relayAll t2 es1 (SetTable.grown es1.size)).2.2; storeSet a (relayAll t2 es1 (SetTable.grown es1.size)).1 (relayAll t2 es1 (SetTable.grown es1.size)).2.1; pure (some true)) else pure (some true)) R E s := by
  have o1 := store_at (es' := es1) (t' := t2) ho hd
  have r1 := R1 _ _ o1 hx rfl
  have b1 := Heap.SameBut.update s.heap a (Obj.putSet es1 t2)
  refine wpAny_bind (wpAny_storeSet_of ho hd ?_ (fits_of_scanBound hfew))
  by_cases hc : (!wd && t2.tooFull) = true
  · rw [if_pos hc]
    have p1 := relayAll_perm t2 es1 (SetTable.grown es1.size)
    have p2 := relayAll_fits t2 es1 (SetTable.grown es1.size)
    have p3 := relayAll_ris t2 es1 (SetTable.grown es1.size)
    have p4 := relayAll_led t2 es1 (SetTable.grown es1.size)
    revert p1 p2 p3 p4
    generalize relayAll t2 es1 (SetTable.grown es1.size) = Z
    obtain ⟨es2, t3, gv⟩ := Z
    intro p1 p2 p3 p4
    have sz : es2.size < scanBound := by
      have := p1.length_eq
      rw [Array.length_toList, Array.length_toList] at this
      have p1 := hfew
      rw [← this] at p1
      exact p1
    have o2 := store_at (es' := es2) (t' := t3) o1 rfl
    have r2 : Sts P w ((s.heap.update a (Obj.putSet es1 t2)).update a (Obj.putSet es2 t3)) a M _ es2 (ep + 1 + 1) t3 :=
      { ob := o2, exact_ := hx, data := rfl, good := fun e he => r1.good e (p1.mem_iff.mp he), perm := (p1.map sKey).trans r1.perm, nd := r1.nd, few := sz, fits := p2, ris := p3, led := r1.led.imp id fun z => p4.trans z }
    exact wpAny_bind (hg _ _ _ (wpAny_bind (wpAny_storeSet_of o1 rfl (wpAny_pure (hR _ (b1.trans (Heap.SameBut.update _ a _)) ⟨_, _, _, _, r2⟩)) (fits_of_scanBound sz))))
  · rw [if_neg hc]
    exact wpAny_pure (hR _ b1 ⟨_, _, _, _, r1⟩)
theorem addH {x : Str} {tk : Tok} {Q : Bool → Shared → Prop} (R : Sts P w s.heap a M o es ep t) (room : M.length + 1 < scanBound)
    (hQ : ∀ b h', Heap.SameBut a s.heap h' → StsE P w h' a (if x ∈ M then M else x :: M) → Q b { s with heap := h' }) :
    wpAny (model P w) A (setAddHashed a (.str x tk) ((PySem.strKind P w).hash x)) Q E s := by
  have key : (PySem.strKind P w).is x (.str x tk) = true := strKind_is _ _ _ _
  have el := R.elems
  have gives : ∀ (b : Bool) {s₁ : Shared} {Q' : Unit → Shared → Prop}, Q' () s₁ → wpAny (model P w) A (match b with | true => rule "set.scan.the-table-gave-way" | false => pure ()) Q' E s₁ := fun b s₁ Q' q => by
    cases b
    · exact wpAny_pure q
    · exact wpAny_rule q
  unfold setAddHashed setAddHashedIn; refine wpAny_holding (wpAny_bind (wpAny_setState_of R.ob R.data R.fits ?_)); dsimp only
  rw [byScan_of (knd := PySem.strKind P w) (show (Value.str x tk).scannable = true from rfl) R.few el, if_pos rfl]
  unfold setAddByScan
  refine wpAny_bind (wpAny_bind (wpAny_rule (wpAny_bind (wpAny_setScan_of key R.ob R.data R.fits el ?_))))
  cases fi : List.findIdx? (fun e => (PySem.strKind P w).is x e.2) es.toList with
  | some j =>
    obtain ⟨hj, pj, _⟩ := List.findIdx?_eq_some_iff_getElem.mp fi
    have hm : x ∈ M := R.perm.mem_iff.mp (List.mem_map.mpr ⟨es.toList[j], List.getElem_mem hj, (is_iff (R.good _ (List.getElem_mem hj)) x).mp pj⟩)
    refine wpAny_pure (wpAny_pure (hQ false s.heap (Heap.SameBut.refl a s.heap) ?_))
    rw [if_pos hm]
    exact ⟨_, _, _, _, R⟩
  | none =>
    have hm : x ∉ M := fun z => by
      obtain ⟨e, he, q⟩ := List.mem_map.mp (R.perm.mem_iff.mpr z)
      have c := List.findIdx?_eq_none_iff.mp fi e he
      rw [(is_iff (R.good e he) x).mpr q] at c
      cases c
    dsimp only
    have p1 := layNew_perm t es ((PySem.strKind P w).hash x) (.str x tk)
    have p2 := layNew_fits t es ((PySem.strKind P w).hash x) (.str x tk)
    have p3 := layNew_ris t es ((PySem.strKind P w).hash x) (.str x tk) R.ris
    have p4 := layNew_led t es ((PySem.strKind P w).hash x) (.str x tk)
    revert p1 p2 p3 p4
    generalize layNew t es ((PySem.strKind P w).hash x) (.str x tk) = Z
    obtain ⟨es1, t1, wd, gv⟩ := Z
    intro p1 p2 p3 p4
    dsimp only at p1 p2 p3 p4 ⊢
    rw [Array.toList_push] at p1
    have pc : es1.toList.Perm (((PySem.strKind P w).hash x, Value.str x tk) :: es.toList) := p1.trans (List.perm_append_singleton _ _)
    have pm : (es1.toList.map sKey).Perm (x :: M) := (pc.map sKey).trans (List.Perm.cons x R.perm)
    have sz : es1.size < scanBound := by
      have q := pm.length_eq
      rw [List.length_map, Array.length_toList, List.length_cons] at q
      omega
    have mk : ∀ t2 : SetTable, t2.fits es1.size = true → Ris t2.place.toList → (w.params.followText "set-order" = true ∨ t2.led = true) → ∀ h' o', h'.get? a = some o' → o'.ExactSet → o'.data = .set es1 (ep + 1) t2 → Sts P w h' a (x :: M) o' es1 (ep + 1) t2 := fun t2 q1 q2 q3 h' o' q4 q5 q6 =>
      { ob := q4, exact_ := q5, data := q6, good := fun e he => by
          rcases List.mem_cons.mp (pc.mem_iff.mp he) with z | z
          · exact ⟨x, tk, by rw [z], by rw [z]⟩
          · exact R.good e z
        perm := pm, nd := List.nodup_cons.mpr ⟨hm, R.nd⟩, few := sz, fits := q1, ris := q2, led := q3 }
    have ld : w.params.followText "set-order" = true ∨ t1.led = true := R.led.imp id fun z => p4.trans z
    have done : ∀ h', Heap.SameBut a s.heap h' → StsE P w h' a (x :: M) → Q true { s with heap := h' } := fun h' sb r => hQ true h' sb (by rw [if_neg hm]; exact r)
    refine wpAny_bind (gives _ ?_)
    split
    · rw [hashByValue_scannable 8 (show (Value.str x tk).scannable = true from rfl)]
      refine wpAny_bind (wpAny_pure ?_)
      refine put_end (M := x :: M) (fun b s₁ Q' q => gives b q) R.ob R.exact_ R.data (mk _ ?_ ?_ ?_) sz ?_
      · split
        · exact p2
        · exact SetTable.fits_plain_off p2
      · split <;> exact p3
      · split <;> exact ld
      · intro h' sb r
        dsimp only
        exact wpAny_pure (done h' sb r)
    · refine wpAny_bind (wpAny_pure ?_)
      rw [if_pos rfl]
      refine put_end (M := x :: M) (fun b s₁ Q' q => gives b q) R.ob R.exact_ R.data (mk _ p2 p3 ld) sz fun h' sb r => ?_
      dsimp only
      exact wpAny_pure (done h' sb r)
end
end SX
end

section
set_option Elab.async false
set_option linter.all false
set_option maxRecDepth 100000
set_option maxHeartbeats 4000000
set_option autoImplicit false
namespace SX
open PySem PySem.Spec PyProof.Rows L2
open PySem (codeAny)
/-- the members met so far, the last first -/
def metR : List Str → List Str
  | [] => []
  | x :: r => if x ∈ metR r then metR r else x :: metR r
def metS (xs : List Str) : List Str := metR xs.reverse
theorem metS_snoc (xs : List Str) (x : Str) : metS (xs ++ [x]) = if x ∈ metS xs then metS xs else x :: metS xs := by
  unfold metS
  rw [List.reverse_append, List.reverse_singleton, List.singleton_append, metR]
theorem mem_metR {x : Str} : ∀ {xs : List Str}, x ∈ metR xs ↔ x ∈ xs
  | [] => Iff.rfl
  | y :: r => by
    rw [metR, List.mem_cons]
    split
    · rename_i q
      rw [mem_metR (xs := r)]
      constructor
      · exact .inr
      · rintro (rfl | h)
        · exact mem_metR.mp q
        · exact h
    · rw [List.mem_cons, mem_metR (xs := r)]
theorem mem_metS {x : Str} {xs : List Str} : x ∈ metS xs ↔ x ∈ xs := by
  unfold metS
  rw [mem_metR, List.mem_reverse]
theorem metR_len : ∀ xs : List Str, (metR xs).length ≤ xs.length
  | [] => Nat.le_refl _
  | y :: r => by
    have := metR_len r
    rw [metR]
    split
    · rw [List.length_cons]
      omega
    · rw [List.length_cons, List.length_cons]
      omega
theorem metS_len (xs : List Str) : (metS xs).length ≤ xs.length := by
  have := metR_len xs.reverse
  rwa [List.length_reverse] at this
section
variable {P : Program} {w : World} {A : Around} {E : Value → Shared → Prop} {s : Shared}
theorem fill {I : Addr} {fp wr : List Addr} {G : Array GenState → Array GenState → Prop} {n : Nat} {Pv : Nat → Value → Prop} {St : Nat → Shared → Prop} {R : Result → Shared → Prop}
    (W : WalksS P w A.in1 I fp wr G n Pv St) (a : Addr) (ha : a ∉ fp) (xs : List Str) (hn : n = xs.length) (hb : xs.length + 1 < scanBound) (hval : ∀ i v, Pv i v → ∃ x t, xs[i]? = some x ∧ v = .str x t) :
    ∀ (k i : Nat) (s : Shared), n - i = k → i ≤ n → St i s → StsE P w s.heap a (metS (xs.take i)) →
      (∀ s', Moved (a :: wr) G s s' → StsE P w s'.heap a (metS xs) → R (.ok (.ret .none)) s') → codeAny (model P w) A (.builtin "set.update.loop" ⟨[.ref a, .ref I], []⟩) R s := by
  have aw : a ∉ wr := fun z => ha (W.sub _ z)
  have up : ∀ b ∈ wr, b ∈ a :: wr := fun b z => List.mem_cons_of_mem _ z
  intro k
  induction k with
  | zero =>
    intro i s e1 e2 st r hR
    have e3 : xs.take i = xs := List.take_of_length_le (by omega)
    have e4 : i = n := by omega
    subst e4
    rw [e3] at r
    refine codeAny_builtin F.entry_set_update_loop ?_
    rw [Around.under_plainId F.plain_set_update_loop _]
    show wpAny _ A.in1 (pyNext (.ref I) >>= _) _ _ s
    exact wpAny_bind (W.done s _ _ st fun s' m => wpAny_pure (hR s' (m.mono up) (r.at fun o z => m.heap a o aw z)))
  | succ k ih =>
    intro i s e1 e2 st r hR
    have lt : i < n := by omega
    refine codeAny_builtin F.entry_set_update_loop ?_
    rw [Around.under_plainId F.plain_set_update_loop _]
    show wpAny _ A.in1 (pyNext (.ref I) >>= _) _ _ s
    refine wpAny_bind (W.item i s _ _ lt st fun v s' p st' m => ?_)
    obtain ⟨x, t, hx, rfl⟩ := hval i v p
    obtain ⟨o, es, ep, tb, r'⟩ := r.at (h' := s'.heap) fun o z => m.heap a o aw z
    have sz : (metS (xs.take i)).length + 1 < scanBound := by
      have := metS_len (xs.take i)
      rw [List.length_take] at this
      omega
    have nxt : xs.take (i + 1) = xs.take i ++ [x] := by rw [List.take_add_one, hx] <;> rfl
    show wpAny _ A.in1 (holding [Value.str x t] (setAdd a (.str x t)) >>= _) _ _ s'
    unfold setAdd
    refine wpAny_bind (wpAny_holding (wpAny_holding (wpAny_bind ((PySem.strKind P w).pyHash (k := x) (strKind_is _ _ _ _) ?_))))
    refine addH (s := { s' with toks := s'.toks + 1 }) r' sz fun b h' sb r2 => ?_
    rw [← metS_snoc, ← nxt] at r2
    refine wpAny_pure ⟨plainId_quiet F.plain_set_update_loop _, ih (i + 1) _ (by omega) lt (W.frame _ s' _ _ st' (Nat.le_succ _) fun c hc q z => ?_) r2 fun s2 m2 r3 => hR s2 (Moved.trans W.gtrans ((m.mono up).then_heap (Nat.le_succ _) fun c q hc z => ?_) m2) r3⟩
    · rw [sb.2 c (fun q : c = a => ha (by rw [← q]; exact hc))]; exact z
    · rw [sb.2 c (fun q : c = a => hc (by rw [q]; exact List.mem_cons_self))]; exact z
theorem fresh_led (w : World) : w.params.followText "set-order" = true ∨ (SetTable.fresh 0 0 (!w.params.followText "set-order")).led = true := by
  show _ ∨ (!w.params.followText "set-order") = true
  cases w.params.followText "set-order" <;> simp
theorem fresh0 {h : Heap} {a : Addr} (ho : h.get? a = some { cls := .type "set", dict := none, data := .set #[] 0 (.fresh 0 0 (!w.params.followText "set-order")) }) : StsE P w h a [] :=
  ⟨_, #[], 0, _, { ob := ho, exact_ := ⟨rfl, rfl, rfl⟩, data := rfl, good := fun e he => by simp at he, perm := by simp, nd := List.nodup_nil, few := by decide, fits := by rfl, ris := List.Pairwise.nil, led := fresh_led w }⟩
end
end SX
end

section
set_option Elab.async false
set_option linter.all false
set_option maxRecDepth 100000
set_option maxHeartbeats 4000000
set_option autoImplicit false
namespace SX
open PySem PySem.Spec PyProof.Rows L2
/-- an empty set, as it is made -/
abbrev emptySet (w : World) : Obj := { cls := .type "set", dict := none, data := .set #[] 0 (.fresh 0 0 (!w.params.followText "set-order")) }
section
variable {P : Program} {w : World} {A : Around} {E : Value → Shared → Prop} {s : Shared}
theorem call_set_texts {l : Addr} {items : Array Value} {xs : List Str} {Q : Value → Shared → Prop} (hh : A.handled = none) (hl : s.heap.IsList l items) (hi : StrsAre items.toList xs) (hb : xs.length + 1 < scanBound)
    (h : ∀ h' tk, StsE P w h' s.heap.objs.size (metS xs) → (∀ b o, s.heap.get? b = some o → h'.get? b = some o) → Q (.ref s.heap.objs.size) { s with heap := h', toks := tk }) :
    wpAny (model P w) A (call (.type "set") [.ref l]) Q E s := by
  have sz : items.size = xs.length := by rw [← StrsAre.len_eq hi, Array.length_toList]
  have vals : ∀ (i : Nat) (v : Value), items[i]? = some v → ∃ x t, xs[i]? = some x ∧ v = .str x t := fun i v hv => by
    have hi' : i < xs.length := by rw [← sz]; exact (Array.getElem?_eq_some_iff.mp hv).1
    obtain ⟨t, e⟩ := SS.strs_at hi i v (by rw [Array.getElem?_toList]; exact hv)
    exact ⟨xs[i], t, List.getElem?_eq_getElem hi', by rw [e, List.getD_eq_getElem?_getD, List.getElem?_eq_getElem hi'] <;> rfl⟩
  obtain ⟨mc, mt, mro⟩ := F.called_set.mro
  have m1 := F.called_set.made; have m2 := F.called_set.sub; have m3 := F.called_set.notType; have m4 := F.called_set.canCreate; have m5 := F.typeCall_set_1 (.ref l)
  refine wpAny_call (codeAny_of_tree (show wpAny _ _ (callAny (.type "set") _) _ _ _ from wpAny_pure ⟨Code.quiet_builtin _ (by decide +kernel), codeAny_builtin F.entry_type_call ?_⟩))
  rw [Around.under_plain (weight_type_call_type "set" [.ref l] []) rfl]
  repeat any_goals first | assumption | wp_step
  refine codeAny_mono (code_set_led1 (.ref l) (E := E) (Q₁ := fun v z => v = .ref s.heap.objs.size ∧ z = { s with heap := s.heap.push (emptySet w) }) ⟨rfl, rfl⟩) fun r z hr => ?_
  cases r with
  | error e => exact hr
  | ok f =>
    cases f with
    | ret v =>
      obtain ⟨rfl, rfl⟩ := hr
      have hS : (s.heap.push (emptySet w)).get? s.heap.objs.size = some (emptySet w) := Heap.get?_push_size _ rfl
      have hT : Shared.TypeIs { s with heap := s.heap.push (emptySet w) } (.ref s.heap.objs.size) "set" := ⟨_, hS, rfl⟩
      have i1 := F.called_set.init.lookup; have i2 := F.called_set.init.bind (.ref s.heap.objs.size)
      repeat any_goals first | assumption | wp_step
      refine codeAny_mono (codeAny_call_builtin (R := wants (fun r z => r = .none ∧ ∃ h' tk, z = { s with heap := h', toks := tk } ∧ StsE P w h' s.heap.objs.size (metS xs) ∧ ∀ b o, s.heap.get? b = some o → h'.get? b = some o) E) F.called_set.init.plain F.entry_set_init (check_set_init_1 hT ?_)) fun r2 z2 hr2 => ?_
      · obtain ⟨⟨c0, d0, x0, sl0⟩, g0, g1, n, g2⟩ := hl
        simp only at g1 g2
        subst g1 g2
        have g3 : (s.heap.push (emptySet w)).get? l = some { cls := .type "list", dict := d0, data := .seq items n, slots := sl0 } := Heap.get?_push_of_some _ g0
        have g4 := F.sub_list_set; have g5 := F.sub_list_frozenset
        have g6 : (Value.type "list" == Value.type "dict") = false := by decide
        have g7 : (s.heap.push (emptySet w)).IsList l items := ⟨_, g3, rfl, n, rfl⟩
        unfold Builtin.«set.__init__» noKeywords Builtin.Frozenset.updateFrom
        generalize qq : pyIter = it
        wp_walk
        subst qq
        have lt : l < s.heap.objs.size := Heap.lt_size g0
        have z1 : (s.heap.push (emptySet w)).objs.size = s.heap.objs.size + 1 := Heap.size_push ..
        have ne : l ≠ (s.heap.push (emptySet w)).objs.size := by rw [z1]; exact Nat.ne_of_lt (Nat.lt_succ_of_lt lt)
        have nf : s.heap.objs.size ∉ [(s.heap.push (emptySet w)).objs.size, l] := by
          rw [z1]
          simp only [List.mem_cons, List.not_mem_nil, or_false, not_or]
          exact ⟨fun q => absurd q (Nat.ne_of_lt (Nat.lt_succ_self _)), fun q => absurd q (Nat.ne_of_gt lt)⟩
        have h3 : A.in1.in1.in1.handled = none := by simp [hh]
        have hget : ((s.heap.push (emptySet w)).push { cls := .type "list_iterator", data := .fields #[.ref l, .int 0 0] }).get? s.heap.objs.size = some (emptySet w) := Heap.get?_push_of_some _ hS
        refine wpAny_pyIter_list g7 (wpAny_bind (wpAny_runValue (fill ((Walks.list h3 _ l ne items).toS) s.heap.objs.size nf xs sz hb vals (items.size - 0) 0 _ (by omega) (Nat.zero_le _) ⟨⟨_, Heap.get?_push_size _ rfl, rfl, rfl⟩, g7.push _⟩ (fresh0 hget) fun z m r => ?_)))
        obtain ⟨h', g', d', tk', os'⟩ := z
        obtain rfl : g' = s.gens := m.gens
        obtain rfl : d' = s.drawn := m.drawn
        obtain rfl : os' = s.os := m.os
        show wpAny _ _ _ _ _ _
        refine wpAny_pure (show wpAny _ _ (ret Value.none) _ _ _ from wpAny_pure ⟨rfl, h', tk', rfl, r, fun b o e => ?_⟩)
        have lb : b < s.heap.objs.size := Heap.lt_size e
        refine m.heap b o (fun q => ?_) (Heap.get?_push_of_some _ (Heap.get?_push_of_some _ e))
        simp only [List.mem_cons, List.not_mem_nil, or_false] at q
        rw [z1] at q
        rcases q with q | q
        · exact absurd q (Nat.ne_of_lt lb)
        · exact absurd q (Nat.ne_of_lt (Nat.lt_succ_of_lt lb))
      · cases r2 with
        | error e => exact hr2
        | ok f2 =>
          cases f2 with
          | ret v2 =>
            obtain ⟨rfl, h', tk, rfl, r, kp⟩ := hr2
            repeat any_goals first | assumption | wp_step
            exact h _ _ r kp
          | _ => exact hr2.elim
    | _ => exact hr.elim
end
end SX
end

section
set_option Elab.async false
set_option linter.all false
set_option maxRecDepth 100000
set_option maxHeartbeats 4000000
set_option autoImplicit false
namespace SX
open PySem PySem.Spec PyProof.Rows L2
section
variable {P : Program} {w : World} {A : Around} {E : Value → Shared → Prop} {s : Shared} {a : Addr} {M : List Str}
theorem strs_of : ∀ (vs : List Value), (∀ v ∈ vs, ∃ x tk, v = Value.str x tk) → StrsAre vs (vs.map fun v => sKey (0, v))
  | [], _ => .nil
  | v :: vs, h => by
    obtain ⟨x, tk, rfl⟩ := h v List.mem_cons_self
    exact .cons x tk (strs_of vs fun u hu => h u (List.mem_cons_of_mem _ hu))
theorem sorted_texts {Q : Value → Shared → Prop} (R : StsE P w s.heap a M) (hh : A.handled = none) (few : M.length < 64)
    (hQ : ∀ s' p (out : Array Value) (c : Nat), (∀ b o, s.heap.get? b = some o → s'.heap.get? b = some o) → s'.gens = s.gens → s'.os = s.os → s.heap.objs.size ≤ p → s'.heap.get? p = some (seqObj "list" out c) → StrsAre out.toList (srtS M) → Q (.ref p) s') :
    wpAny (model P w) A (call (.builtin "sorted") [.ref a]) Q E s := by
  obtain ⟨o, es, ep, t, R⟩ := R
  refine Calls.call_function_entry kind_sorted plain_sorted entry_sorted (args_sorted1 _) ?_
  unfold Builtin.«sorted»
  refine wpAny_bind (m := checkCount "sorted" 1 1 _) (wpAny_pure (wpAny_bind (collect_set (A := A.in1) hh ⟨o, R.ob, R.exact_.1, R.data⟩ R.fits R.few R.ris R.led fun s1 vs k1 hz g1 o1 pm => ?_)))
  have n1 : vs.length = M.length := by rw [pm.length_eq, List.length_map, Array.length_toList, R.size]
  have hS := strs_of vs fun v hv => by
    obtain ⟨e, he, q⟩ := List.mem_map.mp (pm.mem_iff.mp hv)
    obtain ⟨x, tk, e1, _⟩ := R.good e he
    exact ⟨x, tk, q ▸ e1⟩
  have pk : (vs.map fun v => sKey (0, v)).Perm M := by
    have q := pm.map fun v => sKey (0, v)
    rw [List.map_map] at q
    exact q.trans R.perm
  have ho : (s1.heap.push (seqObj "list" vs.toArray 0)).get? s1.heap.objs.size = some (seqObj "list" vs.toArray 0) := Heap.get?_push_size _ rfl
  refine wpAny_bind (wpAny_newList (wpAny_bind (wpAny_holding (wpAny_call_entry slot_list_sort ⟨_, ho, rfl⟩ entry_list_sort (list_sort_treeK strKind_oneLt ho hS.keysOf (fun v₁ v₂ rest e => keyKind_strs (by rw [← e]; exact hS)) (by rw [n1]; exact few) fun st' hp hs => ⟨_, rfl, ?_⟩) (args_list_sort _)))) (by rw [n1, sizeLine_eq]; omega))
  obtain ⟨ys, q1, q2, q3⟩ := sorted_out_str hS hp hs
  obtain ⟨c, hc⟩ := sortedHeap_at (vs := vs) (out := (arrOf st').map (·.2)) ho
  have py : ys.Perm M := q2.trans pk
  have ey : ys = srtS M := up_ext (up_of q3 (py.nodup_iff.mpr R.nd)) (srtS_up M) fun x => by rw [py.mem_iff, mem_srtS]
  rw [ey] at q1
  refine wpAny_pure ⟨_, rfl, hQ _ s1.heap.objs.size _ c (fun b u e => ?_) g1 o1 hz hc q1⟩
  have q := k1 b u e
  have lt := Heap.lt_size q
  show (sortedHeap (s1.heap.push (seqObj "list" vs.toArray 0)) s1.heap.objs.size vs _).get? b = some u
  rw [sortedHeap_old (Nat.ne_of_lt lt) (by rw [size_push']; exact Nat.lt_succ_of_lt lt)]
  exact Heap.get?_push_of_some _ q
end
/-- the set of texts at a, in the hand layer's heap -/
def SetS (P : Program) (w : World) (a : Addr) (M : List Str) : HO := .ext fun h => StsE P w h a M
theorem srt_met (xs : List Str) : srtS (metS xs) = srtS xs := up_ext (srtS_up _) (srtS_up _) fun x => by rw [mem_srtS, mem_srtS, mem_metS]
section
variable {X : Cx}
theorem setS_ok {P : Program} {w : World} {H : Hp} {h : Heap} {a : Addr} {M : List Str} (R : StsE P w h a M) : ObjOk P w H h a (SetS P w a M) := by
  have ⟨o, _, _, _, r⟩ := R
  exact ⟨R, ⟨o, r.ob⟩, fun h1 h2 p k => StsE.at p k⟩
/-- set(l) -/
def rSetS (K : PySem.W.Frag) (P : Program) (w : World) : List V → Hp → VK → Prop := fun xs H Q => ∃ (l : Addr) (zs : List Str), xs = [V.ref l] ∧ SqL K H l (zs.map V.str) ∧ zs.length ≤ 4000 ∧ ∀ p, H p = none → Q (.ref p) (upd H p (SetS P w p (metS zs)))
theorem cr_setS (hc : X.calm = true) : CallR X (.type "set") (rSetS X.K X.prog X.w) := by
  intro pins s σ H xs us Q I r h
  obtain ⟨l, zs, rfl, hs, hb, q⟩ := h
  obtain ⟨its, rv, hl, _⟩ := I.list hs
  rw [Vals.ref1 r]
  refine call_set_texts (I.ok.hd hc) hl.isList (xs := zs) (by simpa using rv.strs) (by show zs.length + 1 < 4096; omega) fun h' tk R k => ?_
  have hn : H s.heap.objs.size = none := I.hok.fresh (Nat.le_refl _)
  exact ⟨.ref _, upd H s.heap.objs.size (SetS X.prog X.w s.heap.objs.size (metS zs)), I.laid (t' := tk) k (Nat.le_refl _) (setS_ok R), rfl, q _ hn⟩
/-- sorted(set) -/
def rSortSet (P : Program) (w : World) : List V → Hp → VK → Prop := fun vs H Q => ∃ (a : Addr) (M : List Str), vs = [V.ref a] ∧ H a = some (SetS P w a M) ∧ M.length < 64 ∧ ∀ p, H p = none → Q (.ref p) (upd H p (.lst ((srtS M).map V.str)))
theorem cr_sortSet (hc : X.calm = true) : CallR X (.builtin "sorted") (rSortSet X.prog X.w) := by
  intro pins s σ H vs us Q I r h
  obtain ⟨a, M, rfl, ha, few, q⟩ := h
  rw [Vals.ref1 r]
  have R : StsE X.prog X.w s.heap a M := (I.hok a _ ha).1
  refine sorted_texts R (I.ok.hd hc) few fun s' p out c k g o hp hg hi => ?_
  have hlen : ((srtS M).map V.str).length ≤ sizeLine := by
    have := srtS_len M
    rw [List.length_map, sizeLine_eq]
    omega
  have hn : H p = none := I.hok.fresh hp
  have J : Inv X pins σ (upd H p (.lst ((srtS M).map V.str))) { s with heap := s'.heap, gens := s'.gens, drawn := s'.drawn, toks := s'.toks } :=
    I.call (ch := []) (Un.laid k hp hn) (I.hok.laid k hp ⟨hlen, out.toList, c, vals_of_strs hi, hg⟩) (by rw [g]; exact I.bare) (fun _ z => nomatch z)
  have e : s' = { s with heap := s'.heap, gens := s'.gens, drawn := s'.drawn, toks := s'.toks } := by
    cases s'
    cases s
    cases o
    rfl
  rw [e]
  exact ⟨.ref p, _, J, rfl, q p hn⟩
end
end SX
end

section
set_option Elab.async false
set_option linter.all false
set_option maxRecDepth 100000
namespace DE
open PySem L2

inductive P where
  | non | bl (b : Bool) | int (i : Int) | str (x : Str) | lst (xs : List P) | tup (xs : List P) | fn (x : Nat) | scr (ns : List Int)
  deriving Inhabited
mutual
def P.pd : P → Option PyData
  | .non => some .none
  | .bl b => some (.bool b)
  | .int i => some (.int i)
  | .str x => some (.str x)
  | .lst xs => (P.pds xs).map .list
  | .tup xs => (P.pds xs).map .tuple
  | .fn _ => none
  | .scr _ => none
def P.pds : List P → Option (List PyData)
  | [] => some []
  | x :: xs => match P.pd x, P.pds xs with
    | some d, some ds => some (d :: ds)
    | _, _ => none
end
/-- what stands in the store, or in a name of its own -/
inductive SO where
  | lst (xs : List P) | dic (kvs : List (P × P))
/-- a value: data; a new list; what a name of its own holds, lent; a box of the store -/
inductive D where
  | p (x : P) | new (xs : List P) | bor (o : SO) | box (n : Nat)
abbrev Store := List SO
/-- a slot -/
inductive Sl where
  | un | val (d : D) | own (o : SO)
abbrev Env := List Sl
inductive R (α : Type) where
  | ok (a : α) (st : Store) | exc (c : Nat) (x : Option P) (st : Store) | bad
def R.bind {α β : Type} (r : R α) (f : α → Store → R β) : R β := match r with
  | .ok a st => f a st
  | .exc c x st => .exc c x st
  | .bad => .bad
/-- no exception here -/
def R.nx {α : Type} (r : R α) : R α := match r with
  | .ok a st => .ok a st
  | _ => .bad
def R.opt {α : Type} (o : Option α) (st : Store) : R α := match o with
  | some a => .ok a st
  | none => .bad
@[simp] theorem R.bind_ok {α β : Type} (a : α) (st : Store) (f : α → Store → R β) : (R.ok a st).bind f = f a st := rfl
@[simp] theorem R.bind_exc {α β : Type} (c : Nat) (x : Option P) (st : Store) (f : α → Store → R β) : (R.exc c x st).bind f = .exc c x st := rfl
@[simp] theorem R.bind_bad {α β : Type} (f : α → Store → R β) : (R.bad).bind f = .bad := rfl
@[simp] theorem R.nx_ok {α : Type} (a : α) (st : Store) : (R.ok a st).nx = .ok a st := rfl
@[simp] theorem R.opt_some {α : Type} (a : α) (st : Store) : R.opt (some a) st = .ok a st := rfl
@[simp] theorem R.opt_none {α : Type} (st : Store) : (R.opt none st : R α) = .bad := rfl

/-- read -/
def D.rd (st : Store) : D → Option P
  | .p x => some x
  | .new xs => some (.lst xs)
  | .bor (.lst xs) => some (.lst xs)
  | .bor (.dic _) => none
  | .box n => match st[n]? with
    | some (.lst xs) => some (.lst xs)
    | _ => none
/-- to be walked; b: by a for (a name's own may not be) -/
def D.rdI (b : Bool) : D → Option P
  | .p x => some x
  | .new xs => some (.lst xs)
  | .bor (.lst xs) => if b then none else some (.lst xs)
  | _ => none
/-- data, to be kept -/
def D.keep : D → Option P
  | .p x => some x
  | .new xs => some (.lst xs)
  | _ => none
/-- to be given to a def, or to a name -/
def D.arg : D → Option D
  | .p x => some (.p x)
  | .new xs => some (.p (.lst xs))
  | .bor _ => none
  | .box n => some (.box n)
/-- a list made by an operation is new -/
def D.mk : P → D
  | .lst xs => .new xs
  | x => .p x

inductive Tg where
  | one (i : Nat) | two (a b : Tg)
def Tg.slots : Tg → List Nat
  | .one i => [i]
  | .two a b => a.slots ++ b.slots
inductive Bf where
  | len | abs | int | max | min | tuple | list | all | any | str
inductive Me where
  | join | split | count | find
mutual
inductive IE where
  | v (i : Nat) | g (x : Nat) | int (i : Int) | str (x : Str) | bl (b : Bool) | non
  | bin (op : Operator) (a b : IE)
  | neg (a : IE) | no (a : IE)
  | and (r : IL) | or (r : IL)
  | cmp (op : CmpOp) (a b : IE)
  | chain (o1 o2 : CmpOp) (a b c : IE)
  | ife (t a b : IE)
  | tup (es : IL) | lst (es : IL)
  | call (f : Nat) (es : IL)
  | bi (f : Bf) (a : IE) (es : IL)
  | meth (m : Me) (o : IE) (a : IE)
  | idx (a b : IE) | slc (a : IE) (lo hi : IO) | rev (a : IE)
  | comp (elt : IE) (tg : Tg) (it : IT) (cond : IO)
  | isi (a : IE) (t : String)
  | callV (i : Nat) (fs : List Nat) (es : IL)
  | dget (gt : Bool) (ks : List Str) (vs : IL) (a : IE)
  | word (f : Nat) (get : Bool) (e : IE)
  | sort (k : Nat) (a : IE)
inductive IL where
  | nil | cons (e : IE) (es : IL)
inductive IO where
  | non | som (e : IE)
inductive IT where
  | seq (e : IE) | rng1 (a : IE) | rng2 (a b : IE) | zip (a b : IE) | enum (e : IE)
end
mutual
inductive IS where
  | asg (t : Tg) (e : IE)
  | asgO (i : Nat) (e : IE)
  | par (is : List Nat) (os : List Bool) (es : IL)
  | seti (o k e : IE)
  | exp (e : IE)
  | app (i : Nat) (e : IE) | ext (i : Nat) (e : IE)
  | ret (e : IE) | retN | retB (e : IE)
  | ife (t : IE) (a b : IB)
  | whl (t : IE) (b : IB)
  | for_ (tg : Tg) (it : IT) (b : IB)
  | pass | brk | cont
  | raise (c : Nat) (m : Str)
  | frz (i : Nat)
  | tryN (f : Nat) (e : IE)
  | any
inductive IB where
  | nil | cons (s : IS) (b : IB)
end

def b2i (b : Bool) : Int := if b then 1 else 0
def mulOk (i j : Int) : Bool := decide (-(2 ^ 64) < i ∧ i < 2 ^ 64) || decide (-(2 ^ 64) < j ∧ j < 2 ^ 64)
def divOk (j : Int) : Bool := decide (0 < j) && decide (j.natAbs.log2 < 9000)
def small (n : Nat) : Bool := decide (n ≤ sizeLine)
def rep {α : Type} (k : Int) (xs : List α) : List α := (List.replicate k.toNat xs).flatten
def opAdd : P → P → Option P
  | .int i, .int j => some (.int (i + j))
  | .int i, .bl b => some (.int (i + b2i b))
  | .bl b, .int j => some (.int (b2i b + j))
  | .str x, .str y => if small (x.length + y.length) then some (.str (x ++ y)) else none
  | .tup xs, .tup ys => if small (xs.length + ys.length) then some (.tup (xs ++ ys)) else none
  | .lst xs, .lst ys => if small (xs.length + ys.length) then some (.lst (xs ++ ys)) else none
  | _, _ => none
def opMul : P → P → Option P
  | .int i, .int j => if mulOk i j then some (.int (i * j)) else none
  | .tup xs, .int k => if decide (k ≤ 1000) && decide (-1000 ≤ k) && decide (xs.length ≤ 1000) then some (.tup (rep k xs)) else none
  | .lst xs, .int k => if decide (k ≤ 1000) && decide (-1000 ≤ k) && decide (xs.length ≤ 1000) then some (.lst (rep k xs)) else none
  | .str x, .int k => if decide (k ≤ 1000) && decide (-1000 ≤ k) && decide (x.length ≤ 1000) then some (.str ⟨(rep k x.cps.toList).toArray⟩) else none
  | _, _ => none
def opBin : Operator → P → P → Option P
  | .Add, x, y => opAdd x y
  | .Sub, .int i, .int j => some (.int (i - j))
  | .Sub, .bl b, .int j => some (.int (b2i b - j))
  | .Mult, x, y => opMul x y
  | .FloorDiv, .int i, .int j => if divOk j then some (.int (i / j)) else none
  | .Mod, .int i, .int j => if decide (0 < j) then some (.int (i % j)) else none
  | .Pow, .int i, .int j => if decide (0 ≤ j) && decide (j ≤ 1000000) && decide (i.natAbs < 2 ^ 64) then some (.int (i ^ j.toNat)) else none
  | _, _, _ => none
/-- == -/
def opEq (x y : P) : Option Bool := match x.pd, y.pd with
  | some d, some e => if SeqAt.shaped d && SeqAt.shaped e then some (PyData.eqv d e) else none
  | _, _ => none
def anyEq (x : P) : List P → Option Bool
  | [] => some false
  | y :: ys => match opEq y x with
    | some true => some true
    | some false => anyEq x ys
    | none => none
def P.flat : P → Bool
  | .non => true | .bl _ => true | .int _ => true | .str _ => true | _ => false
def opIn (x y : P) : Option Bool := match y with
  | .tup ys => if x.flat && ys.all P.flat then anyEq x ys else none
  | .lst ys => if x.flat && ys.all P.flat then anyEq x ys else none
  | .str z => match x with
    | .str c => if c.length == 1 then some (decide (c.cps.getD 0 0 ∈ z.cps.toList)) else none
    | _ => none
  | _ => none
def P.isNon : P → Bool
  | .non => true
  | _ => false
def opCmp : CmpOp → P → P → Option Bool
  | .Eq, x, y => opEq x y
  | .NotEq, x, y => (opEq x y).map not
  | .Lt, .int i, .int j => some (decide (i < j))
  | .LtE, .int i, .int j => some (decide (i ≤ j))
  | .Gt, .int i, .int j => some (decide (j < i))
  | .GtE, .int i, .int j => some (decide (j ≤ i))
  | .Is, x, .non => some x.isNon
  | .IsNot, x, .non => some (!x.isNon)
  | .Is, .bl a, .bl b => some (decide (a = b))
  | .IsNot, .bl a, .bl b => some (!decide (a = b))
  | .In, x, y => opIn x y
  | .NotIn, x, y => (opIn x y).map not
  | _, _, _ => none
def truth : P → Option Bool
  | .non => some false
  | .bl b => some b
  | .int i => some (i != 0)
  | .str x => if small x.length then some ((x.length : Int) != 0) else none
  | .lst xs => some (!xs.isEmpty)
  | .tup xs => some (!xs.isEmpty)
  | _ => none
def opIdx : P → P → Option P
  | .lst xs, .int i => atI xs i
  | .tup xs, .int i => atI xs i
  | .str z, .int i => if small z.length then (atI z.cps.toList i).map fun c => .str ⟨#[c]⟩ else none
  | .scr ns, .int i => (atI ns i).map .int
  | _, _ => none
def cutP {α : Type} (xs : List α) (lo hi : Option Int) : List α := (xs.drop (HT.sIx xs.length 0 lo)).take (HT.sIx xs.length xs.length hi - HT.sIx xs.length 0 lo)
def opSlc (x : P) (lo hi : Option Int) : Option P := match x with
  | .lst xs => some (.lst (cutP xs lo hi))
  | .tup xs => some (.tup (cutP xs lo hi))
  | .str z => if small z.length then some (.str (cutS z lo hi)) else none
  | _ => none
def opRev : P → Option P
  | .tup xs => some (.tup xs.reverse)
  | .str z => if small z.length then some (.str ⟨z.cps.toList.reverse.toArray⟩) else none
  | _ => none
def allBl : List P → Option (List Bool)
  | [] => some []
  | .bl b :: xs => (allBl xs).map (b :: ·)
  | _ :: _ => none
def allStr : List P → Option (List Str)
  | [] => some []
  | .str b :: xs => (allStr xs).map (b :: ·)
  | _ :: _ => none
def lenS (z : Str) : Option Nat := if small z.length then some z.length else none
def lenP : P → Option Nat
  | .lst xs => some xs.length
  | .tup xs => some xs.length
  | .scr xs => some xs.length
  | .str z => lenS z
  | _ => none
/-- built-in functions and types, called with data -/
def biLen : List P → Option P | [x] => (lenP x).map fun n => .int n | _ => none
def biAbs : List P → Option P | [.int i] => some (.int (if i < 0 then -i else i)) | _ => none
def biInt : List P → Option P | [.int i] => some (.int i) | [.bl b] => some (.int (if b then 1 else 0)) | _ => none
def biMax : List P → Option P | [.int i, .int j] => some (.int (if j > i then j else i)) | _ => none
def biMin : List P → Option P | [.int i, .int j] => some (.int (if j < i then j else i)) | _ => none
def biTuple : List P → Option P | [.lst xs] => some (.tup xs) | [.tup xs] => some (.tup xs) | _ => none
def biList : List P → Option P | [.lst xs] => some (.lst xs) | [.tup xs] => some (.lst xs) | _ => none
def biAll : List P → Option P | [.lst xs] => (allBl xs).map fun bs => .bl (bs.all id) | _ => none
def biAny : List P → Option P | [.lst xs] => (allBl xs).map fun bs => .bl (bs.any id) | _ => none
def biStr : List P → Option P | [.int i] => if decide (i.natAbs.log2 < 1920) then some (.str (toString i)) else none | [.str x] => some (.str x) | [.bl b] => some (.str (if b then Str.ofString "True" else Str.ofString "False")) | _ => none
def opBi : Bf → List P → Option P
  | .len, xs => biLen xs | .abs, xs => biAbs xs | .int, xs => biInt xs | .max, xs => biMax xs | .min, xs => biMin xs
  | .tuple, xs => biTuple xs | .list, xs => biList xs | .all, xs => biAll xs | .any, xs => biAny xs | .str, xs => biStr xs
def joinLen (a : Str) (ys : List Str) : Bool := decide ((ys.map (·.length)).sum + ys.length * a.length ≤ 16777216)
def joinP (a : Str) : Option (List Str) → Option P
  | some zs => if joinLen a zs then some (.str (Txt.join a zs)) else none
  | none => none
def splitP (a b : Str) : Option P := if !(b.length == 0) && decide (a.length + 2 ≤ sizeLine) then some (.lst ((Txt.split a b).map .str)) else none
def opMe : Me → P → P → Option P
  | .join, .str a, .lst ys => joinP a (allStr ys)
  | .split, .str a, .str b => splitP a b
  | .count, .str a, .str b => some (.int (Txt.count a b))
  | .find, .str a, .str b => some (.int (Txt.find a b))
  | _, _, _ => none
def insB {α : Type} (le : α → α → Bool) (x : α) : List α → List α
  | [] => [x]
  | y :: r => if le x y then x :: y :: r else y :: insB le x r
def srtB {α : Type} (le : α → α → Bool) (xs : List α) : List α := xs.foldr (insB le) []
def leI (i j : Int) : Bool := decide (i ≤ j)
def leP (p q : Int × Int) : Bool := !SrtO.lexB q p
def allInt : List P → Option (List Int)
  | [] => some []
  | .int b :: xs => (allInt xs).map (b :: ·)
  | _ :: _ => none
def allPair : List P → Option (List (Int × Int))
  | [] => some []
  | .tup [.int a, .int b] :: xs => (allPair xs).map ((a, b) :: ·)
  | _ :: _ => none
def pairP (q : Int × Int) : P := .tup [.int q.1, .int q.2]
/-- sorted(set(texts)), sorted(ints), sorted(pairs) -/
def sortS : Option (List Str) → Option P
  | some zs => if decide (zs.length ≤ 4000) && decide ((SX.metS zs).length < 64) then some (.lst ((SX.srtS zs).map .str)) else none
  | none => none
def opSort : Nat → P → Option P
  | 0, .lst xs => sortS (allStr xs)
  | 1, .lst xs => (allInt xs).map fun ns => .lst ((srtB leI ns).map .int)
  | 2, .lst xs => (allPair xs).map fun ps => .lst ((srtB leP ps).map pairP)
  | _, _ => none
def isT (x : P) (t : String) : Option Bool := match x with
  | .non => kitB "NoneType" t
  | .bl _ => kitB "bool" t
  | .int _ => kitB "int" t
  | .str _ => kitB "str" t
  | .lst _ => kitB "list" t
  | .tup _ => kitB "tuple" t
  | _ => none

def setS (env : Env) (i : Nat) (d : D) : Env := env.set i (.val d)
def asgT : Tg → D → Env → Option Env
  | .one i, d, env => match d with
    | .p x => some (setS env i (.p x))
    | .box n => some (setS env i (.box n))
    | _ => none
  | .two a b, d, env => match d with
    | .p (.tup [x, y]) => match asgT a (.p x) env with
      | some env1 => asgT b (.p y) env1
      | none => none
    | _ => none
/-- a block's own slots are empty at its start -/
def wip (env : Env) : List Nat → Env
  | [] => env
  | i :: is => (wip env is).set i .un

structure Cf where
  call : Nat → List D → Store → R D
  gc : Nat → Option P
  wd : Nat → Nat → Option Str
def rdB (d : D) (st : Store) : R Bool := match d.rd st with
  | some x => R.opt (truth x) st
  | none => .bad
def mkD (o : Option P) (st : Store) : R D := match o with
  | some x => .ok (.mk x) st
  | none => .bad
def mkP (o : Option P) (st : Store) : R D := match o with
  | some x => .ok (.p x) st
  | none => .bad
def mkB (o : Option Bool) (st : Store) : R D := match o with
  | some x => .ok (.p (.bl x)) st
  | none => .bad
def rd2 (a b : D) (st : Store) (f : P → P → R D) : R D := match a.rd st, b.rd st with
  | some x, some y => f x y
  | _, _ => .bad
def keeps : List D → Option (List P)
  | [] => some []
  | d :: ds => match d.keep, keeps ds with
    | some x, some xs => some (x :: xs)
    | _, _ => none
def rds (st : Store) : List D → Option (List P)
  | [] => some []
  | d :: ds => match d.rd st, rds st ds with
    | some x, some xs => some (x :: xs)
    | _, _ => none
def argsD : List D → Option (List D)
  | [] => some []
  | d :: ds => match d.arg, argsD ds with
    | some x, some xs => some (x :: xs)
    | _, _ => none
def dGet (gt : Bool) (kvs : List (Str × P)) (z : Str) (st : Store) : R D := match kvs.lookup z with
  | some x => .ok (.p x) st
  | none => if gt then .ok (.p .non) st else .bad
def rngP (a b : Int) : List P := (List.range (b - a).toNat).map fun i => .int (a + (i : Nat))
def rngOk (_ _ : Int) : Bool := true
def itSeq : P → Option (List P)
  | .lst xs => some xs
  | .tup xs => some xs
  | .str z => some (z.cps.toList.map fun c => .str ⟨#[c]⟩)
  | _ => none
def itZip : P → P → Option (List P)
  | .lst xs, .lst ys => some ((xs.zip ys).map fun p => .tup [p.1, p.2])
  | .tup xs, .tup ys => some ((xs.zip ys).map fun p => .tup [p.1, p.2])
  | _, _ => none
def itEnum : P → Option (List P)
  | .lst xs => some ((xs.zipIdx).map fun p => .tup [.int p.2, p.1])
  | _ => none
def itRng (a b : D) (st : Store) : R (List P) := match a, b with
  | .p (.int i), .p (.int j) => if rngOk i j then .ok (rngP i j) st else .bad
  | _, _ => .bad
/-- a comprehension's turns -/
def compGo (f : Env → Store → R D) (t : Env → Store → R Bool) (tg : Tg) (env : Env) : List P → List P → Store → R (List P)
  | [], acc, st => .ok acc st
  | x :: xs, acc, st => match asgT tg (.p x) env with
    | some env1 => (t env1 st).nx.bind fun b st1 => if b then
        (f env1 st1).nx.bind fun d st2 => match d.keep with
          | some y => if decide (acc.length < sizeLine) then compGo f t tg env xs (acc ++ [y]) st2 else .bad
          | none => .bad
      else compGo f t tg env xs acc st1
    | none => .bad
mutual
def ev (c : Cf) : IE → Env → Store → R D
  | .v i, env, st => match env[i]? with
    | some (.val d) => .ok d st
    | some (.own o) => .ok (.bor o) st
    | _ => .bad
  | .g x, _, st => mkP (c.gc x) st
  | .int i, _, st => .ok (.p (.int i)) st
  | .str x, _, st => .ok (.p (.str x)) st
  | .bl b, _, st => .ok (.p (.bl b)) st
  | .non, _, st => .ok (.p .non) st
  | .bin op a b, env, st => (ev c a env st).bind fun x st => (ev c b env st).bind fun y st => rd2 x y st fun x y => mkD (opBin op x y) st
  | .neg a, env, st => (ev c a env st).bind fun x st => match x.rd st with
    | some (.int i) => .ok (.p (.int (-i))) st
    | some (.bl b) => .ok (.p (.int (-b2i b))) st
    | _ => .bad
  | .no a, env, st => (ev c a env st).bind fun d st => (rdB d st).bind fun b st => .ok (.p (.bl (!b))) st
  | .and r, env, st => evAnd c r env st
  | .or r, env, st => evOr c r env st
  | .cmp op a b, env, st => (ev c a env st).bind fun x st => (ev c b env st).bind fun y st => rd2 x y st fun x y => mkB (opCmp op x y) st
  | .chain o1 o2 a b d, env, st => (ev c a env st).bind fun x st => (ev c b env st).bind fun y st => rd2 x y st fun x y => match opCmp o1 x y with
    | some true => if y.flat then (ev c d env st).bind fun z st => match z.rd st with
        | some z => mkB (opCmp o2 y z) st
        | none => .bad
      else .bad
    | some false => .ok (.p (.bl false)) st
    | none => .bad
  | .ife t a b, env, st => (ev c t env st).bind fun k st => (rdB k st).bind fun k st => if k then ev c a env st else ev c b env st
  | .tup es, env, st => (evL c es env st).bind fun ds st => match keeps ds with
    | some xs => if small xs.length then .ok (.p (.tup xs)) st else .bad
    | none => .bad
  | .lst es, env, st => (evL c es env st).bind fun ds st => match keeps ds with
    | some xs => if small xs.length then .ok (.new xs) st else .bad
    | none => .bad
  | .call f es, env, st => (evL c es env st).bind fun ds st => match argsD ds with
    | some as => c.call f as st
    | none => .bad
  | .bi f a es, env, st => (ev c a env st).bind fun d st => (evL c es env st).bind fun ds st => match rds st (d :: ds) with
    | some xs => mkD (opBi f xs) st
    | none => .bad
  | .meth m o a, env, st => (ev c o env st).bind fun x st => match x with
    | .p (.str z) => (ev c a env st).bind fun y st => match y.rd st with
      | some y => mkD (opMe m (.str z) y) st
      | none => .bad
    | _ => .bad
  | .idx a b, env, st => (ev c a env st).bind fun x st => (ev c b env st).bind fun y st => rd2 x y st fun x y => mkP (opIdx x y) st
  | .slc a lo hi, env, st => (ev c a env st).bind fun x st => (evO c lo env st).bind fun l st => (evO c hi env st).bind fun h st => match x.rd st with
    | some x => mkD (opSlc x l h) st
    | none => .bad
  | .rev a, env, st => (ev c a env st).bind fun x st => match x.rd st with
    | some x => mkD (opRev x) st
    | none => .bad
  | .comp elt tg it cond, env, st => (evI c false it env st).bind fun xs st =>
      (compGo (fun env st => ev c elt env st) (fun env st => evC c cond env st) tg (wip env tg.slots) xs [] st).bind fun ys st => .ok (.new ys) st
  | .isi a t, env, st => (ev c a env st).bind fun x st => match x.rd st with
    | some x => mkB (isT x t) st
    | none => .bad
  | .callV i fs es, env, st => match env[i]? with
    | some (.val (.p (.fn f))) => if fs.contains f then (evL c es env st).bind fun ds st => match argsD ds with
        | some as => c.call f as st
        | none => .bad
      else .bad
    | _ => .bad
  | .dget gt ks vs a, env, st => (evL c vs env st).bind fun ds st => match keeps ds with
    | some xs => (ev c a env st).bind fun x st => match x with
      | .p (.str z) => dGet gt (ks.zip xs) z st
      | _ => .bad
    | none => .bad
  | .word f get e, env, st => match ev c e env st with
    | .ok d st => if get then .ok d st else .ok (.p (.str "")) st
    | .exc k none st => match c.wd f k with
      | some z => .ok (.p (.str z)) st
      | none => .bad
    | .exc _ (some _) _ => .bad
    | .bad => .bad
  | .sort k a, env, st => (ev c a env st).bind fun d st => match d.rd st with
    | some x => mkD (opSort k x) st
    | none => .bad
def evL (c : Cf) : IL → Env → Store → R (List D)
  | .nil, _, st => .ok [] st
  | .cons e es, env, st => (ev c e env st).bind fun d st => (evL c es env st).bind fun ds st => .ok (d :: ds) st
def evAnd (c : Cf) : IL → Env → Store → R D
  | .nil, _, st => .bad
  | .cons e es, env, st => match es with
    | .nil => ev c e env st
    | es => (ev c e env st).bind fun x st => match x with
      | .p (.bl true) => evAnd c es env st
      | .p (.bl false) => .ok (.p (.bl false)) st
      | _ => .bad
def evOr (c : Cf) : IL → Env → Store → R D
  | .nil, _, st => .bad
  | .cons e es, env, st => match es with
    | .nil => ev c e env st
    | es => (ev c e env st).bind fun x st => match x with
      | .p (.bl false) => evOr c es env st
      | .p (.bl true) => .ok (.p (.bl true)) st
      | _ => .bad
def evO (c : Cf) : IO → Env → Store → R (Option Int)
  | .non, _, st => .ok none st
  | .som e, env, st => (ev c e env st).bind fun x st => match x with
    | .p (.int i) => .ok (some i) st
    | _ => .bad
def evC (c : Cf) : IO → Env → Store → R Bool
  | .non, _, st => .ok true st
  | .som e, env, st => (ev c e env st).bind rdB
def evI (c : Cf) (b : Bool) : IT → Env → Store → R (List P)
  | .seq e, env, st => (ev c e env st).bind fun x st => match x.rdI b with
    | some x => R.opt (itSeq x) st
    | none => .bad
  | .rng1 a, env, st => (ev c a env st).bind fun x st => itRng (.p (.int 0)) x st
  | .rng2 a d, env, st => (ev c a env st).bind fun x st => (ev c d env st).bind fun y st => itRng x y st
  | .zip a d, env, st => (ev c a env st).bind fun x st => (ev c d env st).bind fun y st => match x.rdI b, y.rdI b with
    | some x, some y => R.opt (itZip x y) st
    | _, _ => .bad
  | .enum e, env, st => (ev c e env st).bind fun x st => match x.rdI b with
    | some x => R.opt (itEnum x) st
    | none => .bad
end
def evT (c : Cf) (e : IE) (env : Env) (st : Store) : R Bool := (ev c e env st).bind rdB

inductive Fl where
  | nx (env : Env) | rt (d : D) | bk (env : Env) | ct (env : Env)
/-- what a list or a dict holds when it changes -/
def SO.push : SO → P → Option SO
  | .lst xs, y => if decide (xs.length < sizeLine) then some (.lst (xs ++ [y])) else none
  | .dic _, _ => none
def SO.extend : SO → P → Option SO
  | .lst xs, .lst ys => if small (xs.length + ys.length) then some (.lst (xs ++ ys)) else none
  | _, _ => none
/-- a key: an int or a text, or a tuple of such -/
def P.key : P → Option Key
  | .int i => some (.inl i)
  | .str x => some (.inr x)
  | _ => none
def SO.put : SO → P → P → Option SO
  | .lst xs, .int k, y => match ixN xs.length k with
    | some j => some (.lst (xs.set j y))
    | none => none
  | _, _, _ => none
def setO (env : Env) (i : Nat) (o : SO) : Env := env.set i (.own o)
def ownOf : D → Option SO
  | .new xs => some (.lst xs)
  | _ => none
def parD (env : Env) : List Nat → List Bool → List D → Option Env
  | [], [], [] => some env
  | i :: is, o :: os, d :: ds => if o then match ownOf d with
      | some so => parD (setO env i so) is os ds
      | none => none
    else match d.arg with
      | some d' => parD (setS env i d') is os ds
      | none => none
  | _, _, _ => none
def WN : Nat := 1000000
def whileGo (t : Env → Store → R Bool) (f : Env → Store → R Fl) : Nat → Env → Store → R Fl
  | 0, _, _ => .bad
  | n + 1, env, st => (t env st).bind fun b st => if b then (f env st).bind fun r st => match r with
      | .nx env => whileGo t f n env st
      | .ct env => whileGo t f n env st
      | .bk env => .ok (.nx env) st
      | .rt d => .ok (.rt d) st
    else .ok (.nx env) st
def forGo (f : Env → Store → R Fl) (tg : Tg) : List P → Env → Store → R Fl
  | [], env, st => .ok (.nx env) st
  | x :: xs, env, st => match asgT tg (.p x) env with
    | some env1 => (f env1 st).bind fun r st => match r with
      | .nx env => forGo f tg xs env st
      | .ct env => forGo f tg xs env st
      | .bk env => .ok (.nx env) st
      | .rt d => .ok (.rt d) st
    | none => .bad
mutual
def exec (c : Cf) : IS → Env → Store → R Fl
  | .asg t e, env, st => (ev c e env st).bind fun d st => match d.arg with
    | some d => match asgT t d env with
      | some env => .ok (.nx env) st
      | none => .bad
    | none => .bad
  | .asgO i e, env, st => (ev c e env st).bind fun d st => match ownOf d with
    | some o => .ok (.nx (setO env i o)) st
    | none => .bad
  | .par is os es, env, st => (evL c es env st).bind fun ds st => match parD env is os ds with
    | some env => .ok (.nx env) st
    | none => .bad
  | .seti o k e, env, st => match o with
    | .v i => match env[i]? with
      | some (.own so) => (ev c e env st).bind fun y st => (ev c k env st).bind fun k st => match k.rd st, y.keep with
        | some k, some y => match so.put k y with
          | some so => .ok (.nx (setO env i so)) st
          | none => .bad
        | _, _ => .bad
      | some (.val (.box n)) => (ev c e env st).bind fun y st => (ev c k env st).bind fun k st => match k.rd st, y.keep, st[n]? with
        | some k, some y, some so => match so.put k y with
          | some so => .ok (.nx env) (st.set n so)
          | none => .bad
        | _, _, _ => .bad
      | _ => .bad
    | _ => .bad
  | .exp e, env, st => (ev c e env st).bind fun _ st => .ok (.nx env) st
  | .app i e, env, st => match env[i]? with
    | some (.own so) => (ev c e env st).bind fun y st => match y.keep with
      | some y => match so.push y with
        | some so => .ok (.nx (setO env i so)) st
        | none => .bad
      | none => .bad
    | _ => .bad
  | .ext i e, env, st => match env[i]? with
    | some (.own so) => (ev c e env st).bind fun y st => match y with
      | .new ys => match so.extend (.lst ys) with
        | some so => .ok (.nx (setO env i so)) st
        | none => .bad
      | _ => .bad
    | _ => .bad
  | .ret e, env, st => (ev c e env st).bind fun d st => match d.arg with
    | some d => .ok (.rt d) st
    | none => .bad
  | .retN, _, st => .ok (.rt (.p .non)) st
  | .retB e, env, st => (ev c e env st).bind fun d st => match d with
    | .new xs => .ok (.rt (.box st.length)) (st ++ [.lst xs])
    | _ => .bad
  | .ife t a b, env, st => (evT c t env st).bind fun k st => if k then execs c a env st else execs c b env st
  | .whl t b, env, st => whileGo (fun env st => evT c t env st) (fun env st => execs c b env st) WN env st
  | .for_ tg it b, env, st => (evI c true it env st).bind fun xs st => forGo (fun env st => execs c b env st) tg xs env st
  | .pass, env, st => .ok (.nx env) st
  | .brk, env, st => .ok (.bk env) st
  | .cont, env, st => .ok (.ct env) st
  | .raise k _, _, st => .exc k none st
  | .frz i, env, st => match env[i]? with
    | some (.own (.lst xs)) => .ok (.nx (setS env i (.p (.lst xs)))) st
    | _ => .bad
  | .tryN f e, env, st => match ev c e env st with
    | .ok d st => match d.arg with
      | some d => .ok (.rt d) st
      | none => .bad
    | .exc k none st => match c.wd f k with
      | some z => .ok (.rt (.p (.str z))) st
      | none => .bad
    | .exc _ (some _) _ => .bad
    | .bad => .bad
  | .any, _, _ => .bad
def execs (c : Cf) : IB → Env → Store → R Fl
  | .nil, env, st => .ok (.nx env) st
  | .cons s b, env, st => (exec c s env st).bind fun r st => match r with
    | .nx env => execs c b env st
    | r => .ok r st
end

structure Df where
  np : Nat
  ns : Nat
  body : IB
  wt : List (Nat × Str) := []
def wdT (T : Nat → Option Df) (f k : Nat) : Option Str := match T f with
  | some d => d.wt.lookup k
  | none => none
def startE (d : Df) (as : List D) : Env := as.map .val ++ List.replicate (d.ns - d.np) .un
/-- behind a call: boxes made within are dropped, but the one that is handed back -/
def fin (n : Nat) : R Fl → R D
  | .ok (.rt (.p x)) st => .ok (.p x) (st.take n)
  | .ok (.rt (.box k)) st => if k < n then .ok (.box k) (st.take n) else match st[k]? with
    | some o => .ok (.box n) (st.take n ++ [o])
    | none => .bad
  | .ok (.nx _) st => .ok (.p .non) (st.take n)
  | .exc k x st => .exc k x (st.take n)
  | _ => .bad
def callK (T : Nat → Option Df) (gc : Nat → Option P) : Nat → Nat → List D → Store → R D
  | 0, _, _, _ => .bad
  | k + 1, f, as, st => match T f with
    | some d => if as.length = d.np then fin st.length (execs ⟨callK T gc k, gc, wdT T⟩ d.body (startE d as) st) else .bad
    | none => .bad
end DE
end

section
set_option Elab.async false
set_option linter.all false
set_option maxRecDepth 100000
set_option autoImplicit false
namespace DE
open PySem PySem.Spec L2

/-- where defs and classes stand; the tables of code objects -/
structure Fa where
  ad : Nat → Addr
  tb : List (Addr × Str)
instance : CoeFun Fa fun _ => Nat → Addr := ⟨Fa.ad⟩
/-- the heap, but the tables of code objects -/
def nt (H : Hp) : Hp := fun a => match H a with
  | some (.tbl _) => none
  | x => x
theorem nt_of {H : Hp} {a : Addr} (h : H a = none) : nt H a = none := by
  unfold nt
  rw [h]
theorem nt_abs {H : Hp} {a : Addr} {o : HO} (h : nt H a = none) (e : H a = some o) (ht : ∀ ps, o ≠ .tbl ps) : False := by
  unfold nt at h
  rw [e] at h
  split at h
  · rename_i q
    cases q
    exact ht _ rfl
  · cases h
theorem nt_ne {H : Hp} {a : Addr} {o : HO} (e : H a = some o) (ht : ∀ ps, o ≠ .tbl ps) : nt H a ≠ none := fun h => nt_abs h e ht
theorem nt_lst {H : Hp} {a : Addr} {vs : List V} (e : H a = some (.lst vs)) : nt H a ≠ none := nt_ne e (fun _ z => nomatch z)
theorem nt_get {H : Hp} {a : Addr} (h : nt H a ≠ none) : ∃ o, H a = some o ∧ ∀ ps, o ≠ .tbl ps := by
  unfold nt at h
  split at h
  · exact absurd rfl h
  · rename_i q
    cases e : H a with
    | none => exact absurd e h
    | some o => exact ⟨o, rfl, fun ps z => q ps (by rw [e, z])⟩
theorem nt_or {H : Hp} {a : Addr} (h : nt H a = none) : H a = none ∨ ∃ ps, H a = some (.tbl ps) := by
  cases e : H a with
  | none => exact .inl rfl
  | some o =>
    refine .inr ?_
    by_cases q : ∃ ps, o = .tbl ps
    · obtain ⟨ps, rfl⟩ := q
      exact ⟨ps, rfl⟩
    · exact (nt_abs h e fun ps z => q ⟨ps, z⟩).elim
theorem nt_upd {H : Hp} {a b : Addr} {o : HO} (ht : ∀ ps, o ≠ .tbl ps) (h : nt (upd H a o) b = none) : nt H b = none := by
  by_cases e : b = a
  · subst e
    exact (nt_abs h upd_same ht).elim
  · unfold nt at h ⊢
    rw [upd_ne e] at h
    exact h
/-- a tuple that is read: made by the call, or the module's own -/
def TupAt (K : PySem.W.Frag) (F : Addr → Prop) (H : Hp) (a : Addr) (vs : List V) : Prop := (F a ∧ H a = some (.tup vs)) ∨ ∀ H' : Hp, SqT K H' a vs
/-- the script -/
def ScrAt (K : PySem.W.Frag) (F : Addr → Prop) (H : Hp) (a : Addr) (ns : List Int) : Prop := (F a ∧ (H a = some (.lst (ns.map V.int)) ∨ ∃ o, H a = some (.frz o (.lst (ns.map V.int))))) ∨ ∀ H' : Hp, SqL K H' a (ns.map V.int)
section
variable (K : PySem.W.Frag) (fa : Fa)
mutual
inductive VR (F : Addr → Prop) (H : Hp) : V → P → Prop
  | non : VR F H .non .non
  | bl (b : Bool) : VR F H (.bl b) (.bl b)
  | int (i : Int) : VR F H (.int i) (.int i)
  | str (x : Str) : VR F H (.str x) (.str x)
  | lst {a : Addr} {vs : List V} {xs : List P} : F a → H a = some (.lst vs) → VRs F H vs xs → VR F H (.ref a) (.lst xs)
  | tup {a : Addr} {vs : List V} {xs : List P} : TupAt K F H a vs → VRs F H vs xs → VR F H (.ref a) (.tup xs)
  | fn (x : Nat) : VR F H (.ref (fa x)) (.fn x)
  | scr {a : Addr} {ns : List Int} : ScrAt K F H a ns → VR F H (.ref a) (.scr ns)
inductive VRs (F : Addr → Prop) (H : Hp) : List V → List P → Prop
  | nil : VRs F H [] []
  | cons {v : V} {vs : List V} {x : P} {xs : List P} : VR F H v x → VRs F H vs xs → VRs F H (v :: vs) (x :: xs)
end
/-- what may be read -/
def VRr (F : Addr → Prop) (H : Hp) (v : V) : P → Prop
  | .lst xs => ∃ a vs, v = .ref a ∧ H a = some (.lst vs) ∧ VRs K fa F H vs xs
  | x => VR K fa F H v x
def SR (F : Addr → Prop) (H : Hp) (a : Addr) : SO → Prop
  | .lst xs => ∃ vs, H a = some (.lst vs) ∧ VRs K fa F H vs xs
  | .dic _ => False
structure Wok (F : Addr → Prop) (ρ : List Addr) (H : Hp) (st : Store) : Prop where
  len : ρ.length = st.length
  nd : ρ.Nodup
  box : ∀ (n : Nat) (a : Addr) (o : SO), ρ[n]? = some a → st[n]? = some o → SR K fa F H a o
  dis : ∀ a, a ∈ ρ → ¬ F a
  has : ∀ a, F a → nt H a ≠ none
  tab : LamX.Tabs fa.tb H
/-- a value; H0: where its making began -/
def DR (F : Addr → Prop) (ρ : List Addr) (H H0 : Hp) (v : V) : D → Prop
  | .p x => VR K fa F H v x
  | .new xs => ∃ a vs, v = .ref a ∧ H a = some (.lst vs) ∧ VRs K fa F H vs xs ∧ ¬ F a ∧ a ∉ ρ ∧ nt H0 a = none
  | .bor o => ∃ a, v = .ref a ∧ SR K fa F H a o ∧ a ∉ ρ
  | .box n => ∃ a, v = .ref a ∧ ρ[n]? = some a
def DRs (F : Addr → Prop) (ρ : List Addr) (H H0 : Hp) : List V → List D → Prop
  | [], [] => True
  | v :: vs, d :: ds => DR K fa F ρ H H0 v d ∧ DRs F ρ H H0 vs ds
  | _, _ => False
end
structure Ext (F : Addr → Prop) (ρ : List Addr) (H : Hp) (F' : Addr → Prop) (ρ' : List Addr) (H' : Hp) : Prop where
  sub : ∀ a, F a → F' a
  new : ∀ a, F' a → F a ∨ nt H a = none
  pre : ∃ l, ρ' = ρ ++ l ∧ ∀ a ∈ l, nt H a = none
  keep : ∀ a o, H a = some o → a ∉ ρ → (∀ ps, o ≠ .tbl ps) → H' a = some o
  there : ∀ a, nt H' a = none → nt H a = none
section
variable {K : PySem.W.Frag} {fa : Fa} {F F' F2 : Addr → Prop} {ρ ρ' ρ2 : List Addr} {H H' H2 H0 : Hp} {st : Store} {v : V} {x : P} {vs : List V} {xs : List P}
theorem Ext.refl (F : Addr → Prop) (ρ : List Addr) (H : Hp) : Ext F ρ H F ρ H := ⟨fun _ h => h, fun _ h => .inl h, ⟨[], by simp, by simp⟩, fun _ _ h _ _ => h, fun _ h => h⟩
theorem Ext.trans (a : Ext F ρ H F' ρ' H') (b : Ext F' ρ' H' F2 ρ2 H2) : Ext F ρ H F2 ρ2 H2 := by
  obtain ⟨l1, e1, f1⟩ := a.pre
  obtain ⟨l2, e2, f2⟩ := b.pre
  refine ⟨fun c h => b.sub c (a.sub c h), fun c h => ?_, ⟨l1 ++ l2, by rw [e2, e1, List.append_assoc], fun c hc => ?_⟩, fun c o h hn ht => ?_, fun c h => a.there c (b.there c h)⟩
  · rcases b.new c h with h | h
    · exact a.new c h
    · exact .inr (a.there c h)
  · rcases List.mem_append.mp hc with hc | hc
    · exact f1 c hc
    · exact a.there c (f2 c hc)
  · refine b.keep c o (a.keep c o h hn ht) ?_ ht
    rw [e1]
    intro hm
    rcases List.mem_append.mp hm with hm | hm
    · exact hn hm
    · exact nt_abs (f1 c hm) h ht
mutual
theorem VR.mono2 (sub : ∀ a, F a → F' a) (kp : ∀ a o, F a → H a = some o → (∀ ps, o ≠ .tbl ps) → H' a = some o) : ∀ {v : V} {x : P}, VR K fa F H v x → VR K fa F' H' v x
  | _, _, .non => .non
  | _, _, .bl b => .bl b
  | _, _, .int b => .int b
  | _, _, .str b => .str b
  | _, _, .lst f h r => .lst (sub _ f) (kp _ _ f h (fun _ z => nomatch z)) (VRs.mono2 sub kp r)
  | _, _, .tup h r => by
    refine .tup ?_ (VRs.mono2 sub kp r)
    rcases h with ⟨f, h⟩ | h
    · exact .inl ⟨sub _ f, kp _ _ f h (fun _ z => nomatch z)⟩
    · exact .inr h
  | _, _, .fn b => .fn b
  | _, _, .scr h => by
    refine .scr ?_
    rcases h with ⟨f, h | ⟨o, h⟩⟩ | h
    · exact .inl ⟨sub _ f, .inl (kp _ _ f h (fun _ z => nomatch z))⟩
    · exact .inl ⟨sub _ f, .inr ⟨o, kp _ _ f h (fun _ z => nomatch z)⟩⟩
    · exact .inr h
theorem VRs.mono2 (sub : ∀ a, F a → F' a) (kp : ∀ a o, F a → H a = some o → (∀ ps, o ≠ .tbl ps) → H' a = some o) : ∀ {vs : List V} {xs : List P}, VRs K fa F H vs xs → VRs K fa F' H' vs xs
  | _, _, .nil => .nil
  | _, _, .cons a b => .cons (VR.mono2 sub kp a) (VRs.mono2 sub kp b)
end
theorem VR.mono (dis : ∀ a, a ∈ ρ → ¬ F a) (e : Ext F ρ H F' ρ' H') (h : VR K fa F H v x) : VR K fa F' H' v x := h.mono2 e.sub fun a o f h t => e.keep a o h (fun z => dis a z f) t
theorem VRs.mono (dis : ∀ a, a ∈ ρ → ¬ F a) (e : Ext F ρ H F' ρ' H') (h : VRs K fa F H vs xs) : VRs K fa F' H' vs xs := h.mono2 e.sub fun a o f h t => e.keep a o h (fun z => dis a z f) t
theorem VR.sub (s : ∀ a, F a → F' a) (h : VR K fa F H v x) : VR K fa F' H v x := h.mono2 s fun _ _ _ h _ => h
theorem VRs.sub (s : ∀ a, F a → F' a) (h : VRs K fa F H vs xs) : VRs K fa F' H vs xs := h.mono2 s fun _ _ _ h _ => h
theorem SR.sub (s : ∀ a, F a → F' a) {a : Addr} {o : SO} (h : SR K fa F H a o) : SR K fa F' H a o := by
  cases o with
  | lst xs =>
    obtain ⟨vs, h1, h2⟩ := h
    exact ⟨vs, h1, h2.sub s⟩
  | dic kvs => exact h.elim
theorem SR.mono (dis : ∀ a, a ∈ ρ → ¬ F a) (e : Ext F ρ H F' ρ' H') {a : Addr} {o : SO} (ha : a ∉ ρ) (h : SR K fa F H a o) : SR K fa F' H' a o := by
  cases o with
  | lst xs =>
    obtain ⟨vs, h1, h2⟩ := h
    exact ⟨vs, e.keep _ _ h1 ha (fun _ z => nomatch z), h2.mono dis e⟩
  | dic kvs => exact h.elim
theorem SR.has {a : Addr} {o : SO} (h : SR K fa F H a o) : nt H a ≠ none := by
  cases o with
  | lst xs =>
    obtain ⟨vs, h1, h2⟩ := h
    exact nt_lst h1
  | dic kvs => exact h.elim
theorem Ext.notin (e : Ext F ρ H F' ρ' H') {a : Addr} (ha : a ∉ ρ) (h : nt H a ≠ none) : a ∉ ρ' := by
  obtain ⟨l, e1, f1⟩ := e.pre
  rw [e1]
  intro hm
  rcases List.mem_append.mp hm with hm | hm
  · exact ha hm
  · exact h (f1 a hm)
theorem Ext.notF (e : Ext F ρ H F' ρ' H') {a : Addr} (ha : ¬ F a) (h : nt H a ≠ none) : ¬ F' a := fun z => (e.new a z).elim ha h
theorem Ext.at (e : Ext F ρ H F' ρ' H') {n : Nat} {a : Addr} (h : ρ[n]? = some a) : ρ'[n]? = some a := by
  obtain ⟨l, e1, f1⟩ := e.pre
  rw [e1, List.getElem?_append_left (List.getElem?_eq_some_iff.mp h).1]
  exact h
theorem DR.mono (dis : ∀ a, a ∈ ρ → ¬ F a) (e : Ext F ρ H F' ρ' H') {d : D} (h : DR K fa F ρ H H0 v d) : DR K fa F' ρ' H' H0 v d := by
  cases d with
  | p x => exact VR.mono dis e h
  | new xs =>
    obtain ⟨a, vs, e1, h1, h2, h3, h4, h5⟩ := h
    have hh := nt_lst h1
    exact ⟨a, vs, e1, e.keep _ _ h1 h4 (fun _ z => nomatch z), h2.mono dis e, e.notF h3 hh, e.notin h4 hh, h5⟩
  | bor o =>
    obtain ⟨a, e1, h1, h2⟩ := h
    exact ⟨a, e1, h1.mono dis e h2, e.notin h2 h1.has⟩
  | box n =>
    obtain ⟨a, e1, h1⟩ := h
    exact ⟨a, e1, e.at h1⟩
theorem DR.anti (e : Ext F2 ρ2 H2 F' ρ' H0) {d : D} (h : DR K fa F ρ H H0 v d) : DR K fa F ρ H H2 v d := by
  cases d with
  | p x => exact h
  | new xs =>
    obtain ⟨a, vs, e1, h1, h2, h3, h4, h5⟩ := h
    exact ⟨a, vs, e1, h1, h2, h3, h4, e.there a h5⟩
  | bor o => exact h
  | box n => exact h
theorem DRs.mono (dis : ∀ a, a ∈ ρ → ¬ F a) (e : Ext F ρ H F' ρ' H') : ∀ {vs : List V} {ds : List D}, DRs K fa F ρ H H0 vs ds → DRs K fa F' ρ' H' H0 vs ds
  | [], [], _ => True.intro
  | _ :: _, _ :: _, h => ⟨DR.mono dis e h.1, DRs.mono dis e h.2⟩
  | [], _ :: _, h => h.elim
  | _ :: _, [], h => h.elim
theorem DRs.anti (e : Ext F2 ρ2 H2 F' ρ' H0) : ∀ {vs : List V} {ds : List D}, DRs K fa F ρ H H0 vs ds → DRs K fa F ρ H H2 vs ds
  | [], [], _ => True.intro
  | _ :: _, _ :: _, h => ⟨DR.anti e h.1, DRs.anti e h.2⟩
  | [], _ :: _, h => h.elim
  | _ :: _, [], h => h.elim
theorem VR.r (h : VR K fa F H v x) : VRr K fa F H v x := by
  cases h with
  | lst f h r => exact ⟨_, _, rfl, h, r⟩
  | tup h r => exact .tup h r
  | non => exact .non
  | bl b => exact .bl b
  | int b => exact .int b
  | str b => exact .str b
  | fn b => exact .fn b
  | scr h => exact .scr h
theorem DR.rd (W : Wok K fa F ρ H st) {d : D} (h : DR K fa F ρ H H0 v d) (e : d.rd st = some x) : VRr K fa F H v x := by
  cases d with
  | p y =>
    cases e
    exact VR.r h
  | new xs =>
    cases e
    obtain ⟨a, vs, e1, h1, h2, h3, h4, h5⟩ := h
    exact ⟨a, vs, e1, h1, h2⟩
  | bor o =>
    cases o with
    | lst xs =>
      cases e
      obtain ⟨a, e1, ⟨vs, h1, h2⟩, h3⟩ := h
      exact ⟨a, vs, e1, h1, h2⟩
    | dic kvs => cases e
  | box n =>
    obtain ⟨a, e1, h1⟩ := h
    have e : (match st[n]? with | some (SO.lst xs) => some (P.lst xs) | _ => none) = some x := e
    cases q : st[n]? with
    | none => rw [q] at e; cases e
    | some o =>
      rw [q] at e
      cases o with
      | lst xs =>
        cases e
        obtain ⟨vs, h2, h3⟩ := W.box n a _ h1 q
        exact ⟨a, vs, e1, h2, h3⟩
      | dic kvs => cases e

variable {α β γ : Type}
/-- rel: the outcome's relation to what comes of the run; W: what is wanted of an exception -/
def Post (K : PySem.W.Frag) (fa : Fa) (rel : (Addr → Prop) → List Addr → Hp → Hp → β → α → Prop) (W : WX) (F : Addr → Prop) (ρ : List Addr) (H : Hp) (σ : St) (r : R α) (Q : β → Hp → Prop) : Prop :=
  match r with
  | .ok a st' => ∀ b F' ρ' H', Ext F ρ H F' ρ' H' → Wok K fa F' ρ' H' st' → rel F' ρ' H' H b a → Q b H'
  | .exc k x st' => ∀ F' ρ' H', Ext F ρ H F' ρ' H' → Wok K fa F' ρ' H' st' → x = none → W (.ref (fa k)) none σ H'
  | .bad => False
abbrev Rel (β α : Type) := (Addr → Prop) → List Addr → Hp → Hp → β → α → Prop
def Anti (rel : Rel β α) : Prop := ∀ F ρ H H0 H2 F2 ρ2 F3 ρ3 b a, Ext F2 ρ2 H2 F3 ρ3 H0 → rel F ρ H H0 b a → rel F ρ H H2 b a
theorem Post.step {rel1 : Rel β α} {β2 α2 : Type} {rel2 : Rel β2 α2} (an : Anti rel2) {W : WX} {σ : St} {r : R α} {f : α → Store → R α2} {Q : β2 → Hp → Prop}
    (h : Post K fa rel2 W F ρ H σ (r.bind f) Q) :
    Post K fa rel1 W F ρ H σ r (fun b H1 => ∃ F1 ρ1 a st1, Ext F ρ H F1 ρ1 H1 ∧ Wok K fa F1 ρ1 H1 st1 ∧ rel1 F1 ρ1 H1 H b a ∧ Post K fa rel2 W F1 ρ1 H1 σ (f a st1) Q) := by
  cases r with
  | bad => exact h
  | exc k x s => exact h
  | ok a st1 =>
    intro b F1 ρ1 H1 e1 w1 r1
    refine ⟨F1, ρ1, a, st1, e1, w1, r1, ?_⟩
    have h' : Post K fa rel2 W F ρ H σ (f a st1) Q := h
    cases q : f a st1 with
    | bad =>
      rw [q] at h'
      exact h'
    | exc k x s =>
      rw [q] at h'
      intro F2 ρ2 H2 e2 w2 ex
      exact h' F2 ρ2 H2 (e1.trans e2) w2 ex
    | ok a2 st2 =>
      rw [q] at h'
      intro b2 F2 ρ2 H2 e2 w2 r2
      exact h' b2 F2 ρ2 H2 (e1.trans e2) w2 (an _ _ _ _ _ _ _ _ _ _ _ e1 r2)
theorem Post.rebase {rel : Rel β α} (an : Anti rel) {W : WX} {σ : St} {r : R α} {Q : β → Hp → Prop} (h : Post K fa rel W F ρ H σ r Q) (e1 : Ext F ρ H F' ρ' H') : Post K fa rel W F' ρ' H' σ r Q := by
  cases r with
  | bad => exact h
  | exc k x s => exact fun F2 ρ2 H2 e2 w2 ex => h F2 ρ2 H2 (e1.trans e2) w2 ex
  | ok a2 st2 => exact fun b2 F2 ρ2 H2 e2 w2 r2 => h b2 F2 ρ2 H2 (e1.trans e2) w2 (an _ _ _ _ _ _ _ _ _ _ _ e1 r2)
theorem Post.step0 {F0 : Addr → Prop} {ρ0 : List Addr} {rel1 : Rel β α} {β2 α2 : Type} {rel2 : Rel β2 α2} {W : WX} {σ : St} {r : R α} {f : α → Store → R α2} {Q : β2 → Hp → Prop}
    (h : Post K fa rel2 W F0 ρ0 H0 σ (r.bind f) Q) (e0 : Ext F0 ρ0 H0 F ρ H) :
    Post K fa rel1 W F ρ H σ r (fun b H1 => ∃ F1 ρ1 a st1, Ext F ρ H F1 ρ1 H1 ∧ Wok K fa F1 ρ1 H1 st1 ∧ rel1 F1 ρ1 H1 H b a ∧ Post K fa rel2 W F0 ρ0 H0 σ (f a st1) Q) := by
  cases r with
  | bad => exact h
  | exc k x s => exact fun F' ρ' H' e w ex => h F' ρ' H' (e0.trans e) w ex
  | ok a st1 => exact fun b F1 ρ1 H1 e1 w1 r1 => ⟨F1, ρ1, a, st1, e1, w1, r1, h⟩
theorem Post.imp {rel : Rel β α} {W : WX} {σ : St} {r : R α} {Q Q' : β → Hp → Prop} (h : Post K fa rel W F ρ H σ r Q) (i : ∀ b H', Q b H' → Q' b H') : Post K fa rel W F ρ H σ r Q' := by
  cases r with
  | bad => exact h
  | exc k x s => exact h
  | ok a st1 => exact fun b F' ρ' H' e w r => i _ _ (h b F' ρ' H' e w r)
theorem Post.nx {rel : Rel β α} {W : WX} {σ : St} {r : R α} {Q : β → Hp → Prop} (h : Post K fa rel W F ρ H σ r.nx Q) : Post K fa rel (fun _ _ _ _ => False) F ρ H σ r Q := by
  cases r with
  | bad => exact h
  | exc k x s => exact h.elim
  | ok a st1 => exact h
theorem Post.ok {rel : Rel β α} {W : WX} {σ : St} {a : α} {Q : β → Hp → Prop} (h : Post K fa rel W F ρ H σ (.ok a st) Q) (w : Wok K fa F ρ H st) {b : β} (r : rel F ρ H H b a) : Q b H := h b F ρ H (.refl _ _ _) w r
end
abbrev relD (K : PySem.W.Frag) (fa : Fa) : Rel V D := fun F ρ H H0 v d => DR K fa F ρ H H0 v d
abbrev relL (K : PySem.W.Frag) (fa : Fa) : Rel (List V) (List D) := fun F ρ H H0 v d => DRs K fa F ρ H H0 v d
abbrev relE {α : Type} : Rel α α := fun _ _ _ _ b a => b = a
theorem anti_D {K : PySem.W.Frag} {fa : Fa} : Anti (relD K fa) := fun _ _ _ _ _ _ _ _ _ _ _ e h => h.anti e
theorem anti_L {K : PySem.W.Frag} {fa : Fa} : Anti (relL K fa) := fun _ _ _ _ _ _ _ _ _ _ _ e h => h.anti e
theorem anti_E {α : Type} : Anti (relE (α := α)) := fun _ _ _ _ _ _ _ _ _ _ _ e h => h

section
variable {K : PySem.W.Frag} {fa : Fa} {F : Addr → Prop} {ρ : List Addr} {H H0 : Hp} {st : Store} {p : Addr}
def addF (F : Addr → Prop) (p : Addr) : Addr → Prop := fun a => F a ∨ a = p
theorem Wok.free (W : Wok K fa F ρ H st) (hp : nt H p = none) : p ∉ ρ := fun hm => by
  obtain ⟨n, hn, e⟩ := List.getElem_of_mem hm
  have h1 : ρ[n]? = some p := by rw [List.getElem?_eq_getElem hn, e]
  have h2 : n < st.length := by rw [← W.len]; exact hn
  exact (W.box n p _ h1 (List.getElem?_eq_getElem h2)).has hp
theorem Wok.freeF (W : Wok K fa F ρ H st) (hp : nt H p = none) : ¬ F p := fun h => W.has p h hp
/-- kept by the world's own, it is a thing that may be written -/
theorem ext_new {o : HO} (hp : H p = none) (ht : ∀ ps, o ≠ .tbl ps := by intro _ z; cases z) : Ext F ρ H F ρ (upd H p o) := by
  refine ⟨fun _ h => h, fun _ h => .inl h, ⟨[], by simp, by simp⟩, fun a q h _ _ => ?_, fun a h => nt_upd ht h⟩
  rw [upd_ne (ne_of_none h hp)]
  exact h
theorem Wok.mono' {F' : Addr → Prop} {H' : Hp} (W : Wok K fa F ρ H st) (e : Ext F ρ H F' ρ H') (hb : ∀ a, a ∈ ρ → H' a = H a) (hd : ∀ a, a ∈ ρ → ¬ F' a) (hh : ∀ a, F' a → nt H' a ≠ none) (ht : LamX.Tabs fa.tb H') : Wok K fa F' ρ H' st := by
  refine ⟨W.len, W.nd, fun n a o h1 h2 => ?_, hd, hh, ht⟩
  have h := W.box n a o h1 h2
  cases o with
  | lst xs =>
    obtain ⟨vs, h3, h4⟩ := h
    refine ⟨vs, ?_, h4.mono W.dis e⟩
    rw [hb a (List.mem_of_getElem? h1)]
    exact h3
  | dic kvs => exact h.elim
theorem Wok.new {o : HO} (W : Wok K fa F ρ H st) (hp : H p = none) (ht : ∀ ps, o ≠ .tbl ps := by intro _ z; cases z) : Wok K fa F ρ (upd H p o) st := by
  refine W.mono' (ext_new hp ht) (fun a ha => upd_ne fun e => ?_) W.dis (fun a ha => fun q => W.has a ha (nt_upd ht q)) (W.tab.ext fun b o e => by rw [upd_ne (ne_of_none e hp)]; exact e)
  rw [e] at ha
  exact W.free (nt_of hp) ha
/-- from now on it stands still -/
theorem Ext.fz {F0 : Addr → Prop} {ρ0 : List Addr} (e : Ext F0 ρ0 H0 F ρ H) (hp : nt H0 p = none) : Ext F0 ρ0 H0 (addF F p) ρ H :=
  ⟨fun a h => .inl (e.sub a h), fun a h => h.elim (fun h => e.new a h) fun h => .inr (by rw [h]; exact hp), e.pre, e.keep, e.there⟩
theorem Wok.fz (W : Wok K fa F ρ H st) (hr : p ∉ ρ) (hp : nt H p ≠ none) : Wok K fa (addF F p) ρ H st :=
  ⟨W.len, W.nd, fun n a o h1 h2 => (W.box n a o h1 h2).sub fun _ h => .inl h, fun a ha h => h.elim (W.dis a ha) fun h => hr (h ▸ ha), fun a h => h.elim (W.has a) (fun h => by rw [h]; exact hp), W.tab⟩
/-- a list is written -/
theorem tabs_upd {T : List (Addr × Str)} {a : Addr} {xs : List V} {o : HO} (t : LamX.Tabs T H) (ha : H a = some (.lst xs)) : LamX.Tabs T (upd H a o) := by
  intro p hp
  obtain ⟨ps, h1, h2, h3⟩ := t p hp
  have n1 : p.1 ≠ a := fun e => by
    rw [e, ha] at h1
    cases h1
  refine ⟨ps, by rw [upd_ne n1]; exact h1, h2, fun pos cv hc => ?_⟩
  obtain ⟨c, e1, e2⟩ := h3 pos cv hc
  have n2 : c ≠ a := fun e => by
    rw [e, ha] at e2
    unfold LamX.CodeO at e2
    cases e2
  exact ⟨c, e1, by rw [upd_ne n2]; exact e2⟩
/-- a value that is kept -/
theorem DR.keep {F0 : Addr → Prop} {ρ0 : List Addr} {v : V} {d : D} {x : P} (W : Wok K fa F ρ H st) (e0 : Ext F0 ρ0 H0 F ρ H) (h : DR K fa F ρ H H0 v d) (e : d.keep = some x) :
    ∃ F', Ext F0 ρ0 H0 F' ρ H ∧ Wok K fa F' ρ H st ∧ VR K fa F' H v x ∧ (∀ a, F a → F' a) ∧ ∀ a, F' a → F a ∨ nt H0 a = none ∧ ∃ xs vs, d = .new xs ∧ v = .ref a ∧ H a = some (.lst vs) := by
  cases d with
  | p y =>
    cases e
    exact ⟨F, e0, W, h, fun _ h => h, fun a h => .inl h⟩
  | new xs =>
    cases e
    obtain ⟨a, vs, e1, h1, h2, h3, h4, h5⟩ := h
    have ha := nt_lst h1
    refine ⟨addF F a, e0.fz h5, W.fz h4 ha, ?_, fun _ h => .inl h, fun b h => h.elim .inl fun h => .inr ?_⟩
    · rw [e1]
      exact .lst (.inr rfl) h1 (h2.sub fun _ h => .inl h)
    · subst h
      exact ⟨h5, xs, vs, rfl, e1, h1⟩
  | bor o => cases e
  | box n => cases e
end
end DE
end

section
set_option Elab.async false
set_option linter.all false
set_option maxRecDepth 100000
set_option autoImplicit false
namespace DE
open PySem PySem.Spec L2
section
variable {K : PySem.W.Frag} {fa : Fa} {F F' : Addr → Prop} {ρ : List Addr} {H H' H0 : Hp} {st : Store} {σ : L2.St} {W : WX}
abbrev W0 : WX := fun _ _ _ _ => False
/-- what is wanted of a value -/
abbrev PostD (K : PySem.W.Frag) (fa : Fa) (W : WX) (F : Addr → Prop) (ρ : List Addr) (H : Hp) (σ : L2.St) (r : R D) (Q : VK) : Prop := Post K fa (relD K fa) W F ρ H σ r Q
theorem pP {x : P} {v : V} {Q : VK} (h : PostD K fa W F ρ H σ (.ok (.p x) st) Q) (w : Wok K fa F ρ H st) (r : VR K fa F H v x) : Q v H := Post.ok h w r
theorem SqT_of {a : Addr} {vs : List V} (h : TupAt K F H a vs) : SqT K H a vs := by
  rcases h with ⟨_, h⟩ | h
  · exact SqT.of h
  · exact h H
theorem SqL_scr {a : Addr} {ns : List Int} (h : ScrAt K F H a ns) : SqL K H a (ns.map V.int) := by
  rcases h with ⟨_, h | ⟨o, h⟩⟩ | h
  · exact .inl (.inl h)
  · exact .inl (.inr ⟨o, h⟩)
  · exact h H
theorem VRs.length : ∀ {vs : List V} {xs : List P}, VRs K fa F H vs xs → vs.length = xs.length
  | _, _, .nil => rfl
  | _, _, .cons a b => by rw [List.length_cons, List.length_cons, b.length]
theorem VRs.append : ∀ {vs ws : List V} {xs ys : List P}, VRs K fa F H vs xs → VRs K fa F H ws ys → VRs K fa F H (vs ++ ws) (xs ++ ys)
  | _, _, _, _, .nil, h => h
  | _, _, _, _, .cons a b, h => .cons a (b.append h)
theorem VRs.get : ∀ {vs : List V} {xs : List P} {i : Nat} {x : P}, VRs K fa F H vs xs → xs[i]? = some x → ∃ v, vs[i]? = some v ∧ VR K fa F H v x
  | _, _, _, _, .nil, h => by simp at h
  | _, _, 0, _, .cons a b, h => by
    simp at h
    subst h
    exact ⟨_, rfl, a⟩
  | _, _, i + 1, x, .cons a b, h => by
    obtain ⟨v, h1, h2⟩ := VRs.get (i := i) (x := x) b (by simpa using h)
    exact ⟨v, by simpa using h1, h2⟩
theorem VRs.drop : ∀ {vs : List V} {xs : List P} (n : Nat), VRs K fa F H vs xs → VRs K fa F H (vs.drop n) (xs.drop n)
  | _, _, 0, h => h
  | _, _, n + 1, .nil => .nil
  | _, _, n + 1, .cons a b => b.drop n
theorem VRs.take : ∀ {vs : List V} {xs : List P} (n : Nat), VRs K fa F H vs xs → VRs K fa F H (vs.take n) (xs.take n)
  | _, _, 0, h => .nil
  | _, _, n + 1, .nil => .nil
  | _, _, n + 1, .cons a b => .cons a (b.take n)
theorem VRs.rep {vs : List V} {xs : List P} (h : VRs K fa F H vs xs) : ∀ k : Nat, VRs K fa F H (List.replicate k vs).flatten (List.replicate k xs).flatten
  | 0 => .nil
  | k + 1 => by
    rw [List.replicate_succ, List.replicate_succ, List.flatten_cons, List.flatten_cons]
    exact h.append (h.rep k)
theorem VRs.reverse : ∀ {vs : List V} {xs : List P}, VRs K fa F H vs xs → VRs K fa F H vs.reverse xs.reverse
  | _, _, .nil => .nil
  | _, _, .cons a b => by
    rw [List.reverse_cons, List.reverse_cons]
    exact b.reverse.append (.cons a .nil)
theorem VRs.setv {v : V} {x : P} (h : VR K fa F H v x) : ∀ {vs : List V} {xs : List P} (j : Nat), VRs K fa F H vs xs → VRs K fa F H (vs.set j v) (xs.set j x)
  | _, _, _, .nil => .nil
  | _, _, 0, .cons a b => .cons h b
  | _, _, j + 1, .cons a b => .cons a (b.setv h j)
/-- a new tuple -/
theorem pTup {xs : List P} {vs : List V} {Q : VK} (h : PostD K fa W F ρ H σ (.ok (.p (.tup xs)) st) Q) (w : Wok K fa F ρ H st) (r : VRs K fa F H vs xs) : ∀ p, H p = none → Q (.ref p) (upd H p (.tup vs)) := fun p hp => by
  have e := (ext_new (F := F) (ρ := ρ) (o := .tup vs) hp)
  have hh : nt (upd H p (.tup vs)) p ≠ none := nt_ne upd_same (fun _ z => nomatch z)
  refine h _ (addF F p) ρ _ (e.fz (nt_of hp)) ((w.new hp).fz (w.free (nt_of hp)) hh) (VR.tup (.inl ⟨.inr rfl, upd_same⟩) ?_)
  exact (r.mono w.dis e).sub fun _ h => .inl h
/-- a new list -/
theorem pNew {xs : List P} {vs : List V} {Q : VK} (h : PostD K fa W F ρ H σ (.ok (.new xs) st) Q) (w : Wok K fa F ρ H st) (r : VRs K fa F H vs xs) : ∀ p, H p = none → Q (.ref p) (upd H p (.lst vs)) := fun p hp => by
  have e := (ext_new (F := F) (ρ := ρ) (o := .lst vs) hp)
  exact h _ F ρ _ e (w.new hp) ⟨p, vs, rfl, upd_same, r.mono w.dis e, w.freeF (nt_of hp), w.free (nt_of hp), nt_of hp⟩
/-- the four inversions -/
theorem VRr.int {v : V} {i : Int} (h : VRr K fa F H v (.int i)) : v = .int i := by
  cases (show VR K fa F H v (.int i) from h)
  rfl
theorem VRr.bl {v : V} {i : Bool} (h : VRr K fa F H v (.bl i)) : v = .bl i := by
  cases (show VR K fa F H v (.bl i) from h)
  rfl
theorem VRr.str {v : V} {i : Str} (h : VRr K fa F H v (.str i)) : v = .str i := by
  cases (show VR K fa F H v (.str i) from h)
  rfl
theorem VRr.non {v : V} (h : VRr K fa F H v .non) : v = .non := by
  cases (show VR K fa F H v .non from h)
  rfl
theorem VRr.tup {v : V} {xs : List P} (h : VRr K fa F H v (.tup xs)) : ∃ a vs, v = .ref a ∧ TupAt K F H a vs ∧ VRs K fa F H vs xs := by
  cases (show VR K fa F H v (.tup xs) from h) with
  | tup h' r => exact ⟨_, _, rfl, h', r⟩
theorem VRr.scr {v : V} {xs : List Int} (h : VRr K fa F H v (.scr xs)) : ∃ a, v = .ref a ∧ ScrAt K F H a xs := by
  cases (show VR K fa F H v (.scr xs) from h) with
  | scr h' => exact ⟨_, rfl, h'⟩
end

section
variable {X : Cx} {fa : Fa}
def rOp2 (K : PySem.W.Frag) (fa : Fa) (f : P → P → Option P) : R2 := fun x y H Q => ∃ F ρ st px py, Wok K fa F ρ H st ∧ VRr K fa F H x px ∧ VRr K fa F H y py ∧ PostD K fa W0 F ρ H [] (mkD (f px py) st) Q
def rOpB (K : PySem.W.Frag) (fa : Fa) (f : P → P → Option Bool) : R2 := fun x y H Q => ∃ F ρ st px py, Wok K fa F ρ H st ∧ VRr K fa F H x px ∧ VRr K fa F H y py ∧ PostD K fa W0 F ρ H [] (mkB (f px py) st) Q
theorem sIx_flat {α : Type} (n : Nat) (xs : List α) : (List.replicate n xs).flatten.length = n * xs.length := PyProof.Rows.lm_len_rep_flat _ _
theorem op_add_bi : OpR X (binaryOp .Add) (fun x y H Q => ∃ k i, x = .bl k ∧ y = .int i ∧ Q (.int (b2i k + i)) H) := by
  intro pins s σ H x y v u Q I rx ry h
  obtain ⟨k, i, rfl, rfl, q⟩ := h
  obtain ⟨t, rfl⟩ := ry
  cases rx
  exact PySem.IntBool.add_bool_int ⟨.int (b2i k + i), H, I.tok _, ⟨_, rfl⟩, q⟩
theorem op_sub_bi : OpR X (binaryOp .Sub) (fun x y H Q => ∃ k i, x = .bl k ∧ y = .int i ∧ Q (.int (b2i k - i)) H) := by
  intro pins s σ H x y v u Q I rx ry h
  obtain ⟨k, i, rfl, rfl, q⟩ := h
  obtain ⟨t, rfl⟩ := ry
  cases rx
  exact PySem.IntBool.sub_bool_int ⟨.int (b2i k - i), H, I.tok _, ⟨_, rfl⟩, q⟩
theorem de_add : OpR X (binaryOp .Add) (rOp2 X.K fa opAdd) := by
  intro pins s σ H x y v u Q I rx ry h
  obtain ⟨F, ρ, st, px, py, w, hx, hy, q⟩ := h
  cases px with
  | int i =>
    cases hx.int
    cases py with
    | int j =>
      cases hy.int
      exact op_add pins s σ H _ _ v u Q I rx ry ⟨i, j, rfl, rfl, pP q w (.int _)⟩
    | bl b =>
      cases hy.bl
      exact op_add_ib pins s σ H _ _ v u Q I rx ry ⟨i, b, rfl, rfl, pP q w (.int _)⟩
    | _ => exact q.elim
  | bl b =>
    cases hx.bl
    cases py with
    | int j =>
      cases hy.int
      exact op_add_bi pins s σ H _ _ v u Q I rx ry ⟨b, j, rfl, rfl, pP q w (.int _)⟩
    | _ => exact q.elim
  | str a =>
    cases hx.str
    cases py with
    | str b =>
      cases hy.str
      have q' : PostD X.K fa W0 F ρ H [] (mkD (if small (a.length + b.length) then some (.str (a ++ b)) else none) st) Q := q
      cases hs : small (a.length + b.length) with
      | false =>
        rw [hs] at q'
        exact q'.elim
      | true =>
        rw [hs] at q'
        exact op_add_str pins s σ H _ _ v u Q I rx ry ⟨a, b, rfl, rfl, of_decide_eq_true hs, pP q' w (.str _)⟩
    | _ => exact q.elim
  | tup xs =>
    obtain ⟨a, vs, rfl, ha, hr⟩ := hx.tup
    cases py with
    | tup ys =>
      obtain ⟨b, ws, rfl, hb, hr2⟩ := hy.tup
      have q' : PostD X.K fa W0 F ρ H [] (mkD (if small (xs.length + ys.length) then some (.tup (xs ++ ys)) else none) st) Q := q
      cases hs : small (xs.length + ys.length) with
      | false =>
        rw [hs] at q'
        exact q'.elim
      | true =>
        rw [hs] at q'
        have hs' : xs.length + ys.length ≤ sizeLine := of_decide_eq_true hs
        refine op_catA pins s σ H _ _ v u Q I rx ry ⟨a, b, vs, ws, rfl, rfl, SqT_of ha, SqT_of hb, by rw [hr.length, hr2.length]; exact hs', fun e => ?_, fun _ e => ?_, fun _ _ => ?_⟩
        · subst e
          cases hr
          exact pP q' w (.tup hb hr2)
        · subst e
          cases hr2
          rw [List.append_nil] at q'
          exact pP q' w (.tup ha hr)
        · exact pTup q' w (hr.append hr2)
    | _ => exact q.elim
  | lst xs =>
    obtain ⟨a, vs, rfl, ha, hr⟩ := hx
    cases py with
    | lst ys =>
      obtain ⟨b, ws, rfl, hb, hr2⟩ := hy
      have q' : PostD X.K fa W0 F ρ H [] (mkD (if small (xs.length + ys.length) then some (.lst (xs ++ ys)) else none) st) Q := q
      cases hs : small (xs.length + ys.length) with
      | false =>
        rw [hs] at q'
        exact q'.elim
      | true =>
        rw [hs] at q'
        have hs' : xs.length + ys.length ≤ sizeLine := of_decide_eq_true hs
        exact op_cat pins s σ H _ _ v u Q I rx ry ⟨a, b, vs, ws, rfl, rfl, ha, hb, by rw [hr.length, hr2.length]; exact hs', pNew q' w (hr.append hr2)⟩
    | _ => exact q.elim
  | _ => exact q.elim
theorem ite_post {K : PySem.W.Frag} {F : Addr → Prop} {ρ : List Addr} {H : Hp} {σ : L2.St} {W : WX} {st : Store} {b : Bool} {x : P} {Q : VK} (q : PostD K fa W F ρ H σ (mkD (if b = true then some x else none) st) Q) : b = true ∧ PostD K fa W F ρ H σ (mkD (some x) st) Q := by
  cases b with
  | false => exact q.elim
  | true => exact ⟨rfl, q⟩
theorem de_bin1 (op : Operator) (hop : op ≠ .Mult) : OpR X (binaryOp op) (rOp2 X.K fa (opBin op)) := by
  cases op with
  | Add => exact de_add
  | Sub =>
    intro pins s σ H x y v u Q I rx ry h
    obtain ⟨F, ρ, st, px, py, w, hx, hy, q⟩ := h
    cases px with
    | int i =>
      cases hx.int
      cases py with
      | int j =>
        cases hy.int
        exact op_sub pins s σ H _ _ v u Q I rx ry ⟨i, j, rfl, rfl, pP q w (.int _)⟩
      | _ => exact q.elim
    | bl b =>
      cases hx.bl
      cases py with
      | int j =>
        cases hy.int
        exact op_sub_bi pins s σ H _ _ v u Q I rx ry ⟨b, j, rfl, rfl, pP q w (.int _)⟩
      | _ => exact q.elim
    | _ => exact q.elim
  | Mult => exact absurd rfl hop
  | FloorDiv =>
    intro pins s σ H x y v u Q I rx ry h
    obtain ⟨F, ρ, st, px, py, w, hx, hy, q⟩ := h
    cases px with
    | int i =>
      cases hx.int
      cases py with
      | int j =>
        cases hy.int
        obtain ⟨hd, q⟩ := ite_post (b := divOk j) q
        have hd' : 0 < j ∧ j.natAbs.log2 < 9000 := by simpa [divOk] using hd
        exact op_fdivW pins s σ H _ _ v u Q I rx ry ⟨i, j, rfl, rfl, hd', pP q w (.int _)⟩
      | _ => exact q.elim
    | _ => exact q.elim
  | Mod =>
    intro pins s σ H x y v u Q I rx ry h
    obtain ⟨F, ρ, st, px, py, w, hx, hy, q⟩ := h
    cases px with
    | int i =>
      cases hx.int
      cases py with
      | int j =>
        cases hy.int
        obtain ⟨hd, q⟩ := ite_post (b := decide (0 < j)) q
        exact op_mod pins s σ H _ _ v u Q I rx ry ⟨i, j, rfl, rfl, of_decide_eq_true hd, pP q w (.int _)⟩
      | _ => exact q.elim
    | _ => exact q.elim
  | Pow =>
    intro pins s σ H x y v u Q I rx ry h
    obtain ⟨F, ρ, st, px, py, w, hx, hy, q⟩ := h
    cases px with
    | int i =>
      cases hx.int
      cases py with
      | int j =>
        cases hy.int
        obtain ⟨hd, q⟩ := ite_post (b := decide (0 ≤ j) && decide (j ≤ 1000000) && decide (i.natAbs < 2 ^ 64)) q
        have hd' : (0 ≤ j ∧ j ≤ 1000000) ∧ i.natAbs < 2 ^ 64 := by simpa using hd
        exact op_pow pins s σ H _ _ v u Q I rx ry ⟨i, j, rfl, rfl, ⟨hd'.1.1, hd'.1.2, hd'.2⟩, pP q w (.int _)⟩
      | _ => exact q.elim
    | _ => exact q.elim
  | _ =>
    intro pins s σ H x y v u Q I rx ry h
    obtain ⟨F, ρ, st, px, py, w, hx, hy, q⟩ := h
    cases px <;> cases py <;> exact q.elim
mutual
theorem VR.dp {K : PySem.W.Frag} {F : Addr → Prop} {H : Hp} : ∀ {v : V} {x : P} {d : PyData}, VR K fa F H v x → x.pd = some d → Dp K H v d
  | _, _, _, .non, e => by
    cases e
    exact .non
  | _, _, _, .bl b, e => by
    cases e
    exact .bl b
  | _, _, _, .int b, e => by
    cases e
    exact .int b
  | _, _, _, .str b, e => by
    cases e
    exact .str b
  | _, _, _, .lst (xs := xs) f h r, e => by
    unfold P.pd at e
    cases q : P.pds xs with
    | none =>
      rw [q] at e
      cases e
    | some ds =>
      rw [q] at e
      cases e
      exact .lst (SqL.of h) (VRs.dp r q)
  | _, _, _, .tup (xs := xs) h r, e => by
    unfold P.pd at e
    cases q : P.pds xs with
    | none =>
      rw [q] at e
      cases e
    | some ds =>
      rw [q] at e
      cases e
      exact .tup (SqT_of h) (VRs.dp r q)
  | _, _, _, .fn b, e => by cases e
  | _, _, _, .scr h, e => by cases e
theorem VRs.dp {K : PySem.W.Frag} {F : Addr → Prop} {H : Hp} : ∀ {vs : List V} {xs : List P} {ds : List PyData}, VRs K fa F H vs xs → P.pds xs = some ds → DpAll K H vs ds
  | _, _, _, .nil, e => by
    cases e
    exact .nil
  | _, _, _, .cons (x := x) (xs := xs) a b, e => by
    unfold P.pds at e
    cases q : P.pd x with
    | none =>
      rw [q] at e
      cases e
    | some d =>
      cases q2 : P.pds xs with
      | none =>
        rw [q, q2] at e
        cases e
      | some ds =>
        rw [q, q2] at e
        cases e
        exact .cons (VR.dp a q) (VRs.dp b q2)
end
theorem VRr.dp {K : PySem.W.Frag} {F : Addr → Prop} {H : Hp} {v : V} {x : P} {d : PyData} (h : VRr K fa F H v x) (e : x.pd = some d) : Dp K H v d := by
  cases x with
  | lst xs =>
    obtain ⟨a, vs, rfl, ha, r⟩ := h
    unfold P.pd at e
    cases q : P.pds xs with
    | none =>
      rw [q] at e
      cases e
    | some ds =>
      rw [q] at e
      cases e
      exact .lst (SqL.of ha) (VRs.dp r q)
  | _ => exact VR.dp h e
theorem opEq_some {x y : P} {b : Bool} (h : opEq x y = some b) : ∃ d e, x.pd = some d ∧ y.pd = some e ∧ SeqAt.shaped d = true ∧ SeqAt.shaped e = true ∧ b = PyData.eqv d e := by
  unfold opEq at h
  cases q : x.pd with
  | none =>
    rw [q] at h
    cases h
  | some d =>
    cases q2 : y.pd with
    | none =>
      rw [q, q2] at h
      cases h
    | some e =>
      rw [q, q2] at h
      have h : (if (SeqAt.shaped d && SeqAt.shaped e) = true then some (PyData.eqv d e) else none) = some b := h
      cases z : SeqAt.shaped d && SeqAt.shaped e with
      | false =>
        rw [z] at h
        cases h
      | true =>
        rw [z] at h
        cases h
        obtain ⟨z1, z2⟩ := Bool.and_eq_true_iff.mp z
        exact ⟨d, e, rfl, rfl, z1, z2, rfl⟩
theorem postB {K : PySem.W.Frag} {F : Addr → Prop} {ρ : List Addr} {H : Hp} {σ : L2.St} {W : WX} {st : Store} {o : Option Bool} {Q : VK} (w : Wok K fa F ρ H st) (q : PostD K fa W F ρ H σ (mkB o st) Q) : ∃ b, o = some b ∧ Q (.bl b) H := by
  cases o with
  | none => exact q.elim
  | some b => exact ⟨b, rfl, pP q w (.bl b)⟩
theorem flat_ok {K : PySem.W.Frag} {F : Addr → Prop} {H : Hp} {v : V} {x : P} (h : VR K fa F H v x) (f : x.flat = true) : flatV v = true := by
  cases h <;> first | rfl | cases f
theorem flats_ok {K : PySem.W.Frag} {F : Addr → Prop} {H : Hp} : ∀ {vs : List V} {xs : List P}, VRs K fa F H vs xs → xs.all P.flat = true → vs.all flatV = true
  | _, _, .nil, _ => rfl
  | _, _, .cons a b, f => by
    rw [List.all_cons, Bool.and_eq_true] at f ⊢
    exact ⟨flat_ok a f.1, flats_ok b f.2⟩
theorem eqV_ok {K : PySem.W.Frag} {F : Addr → Prop} {H : Hp} {v u : V} {x y : P} {b : Bool} (h : VR K fa F H v x) (h2 : VR K fa F H u y) (f : x.flat = true) (f2 : y.flat = true) (e : opEq y x = some b) : eqV u v = b := by
  obtain ⟨d, d2, e1, e2, _, _, rfl⟩ := opEq_some e
  cases h <;> (try cases f) <;> cases h2 <;> (try cases f2) <;> cases e1 <;> cases e2 <;> simp [eqV, PyData.eqv]
theorem inV_ok {K : PySem.W.Frag} {F : Addr → Prop} {H : Hp} {v : V} {x : P} {b : Bool} (h : VR K fa F H v x) (f : x.flat = true) : ∀ {vs : List V} {xs : List P}, VRs K fa F H vs xs → xs.all P.flat = true → anyEq x xs = some b → inV v vs = b
  | _, _, .nil, _, e => by
    cases e
    rfl
  | _, _, .cons (v := u) (vs := us) (x := y) (xs := ys) a r, f2, e => by
    rw [List.all_cons, Bool.and_eq_true] at f2
    unfold anyEq at e
    show (eqV u v || inV v us) = b
    cases q : opEq y x with
    | none =>
      rw [q] at e
      cases e
    | some c =>
      rw [q] at e
      rw [eqV_ok h a f f2.1 q]
      cases c with
      | true =>
        cases e
        rfl
      | false =>
        rw [Bool.false_or]
        exact inV_ok h f r f2.2 e
theorem de_cmp (hu : X.A.units + 64 < cLine) (op : CmpOp) : OpR X (compareOp op) (rOpB X.K fa (opCmp op)) := by
  have hin : ∀ (neg : Bool) (pins : List (Addr × Obj)) (s : Shared) (σ : L2.St) (H : Hp) (x y : V) (v u : Value) (Q : VK), Inv X pins σ H s → RelV x v → RelV y u → rOpB X.K fa (fun x y => (opIn x y).map (fun b => if neg then !b else b)) x y H Q →
      wpAny (model X.prog X.w) X.A (compareOp (if neg then .NotIn else .In) v u) (EP X pins σ Q) X.xe s := by
    intro neg pins s σ H x y v u Q I rx ry h
    obtain ⟨F, ρ, st, px, py, w, hx, hy, q⟩ := h
    obtain ⟨b, e, qb⟩ := postB w q
    have e : (opIn px py).map (fun b => if neg = true then !b else b) = some b := e
    have e' : ∃ c, opIn px py = some c ∧ b = if neg then !c else c := by
      cases z : opIn px py with
      | none =>
        rw [z] at e
        cases e
      | some c =>
        rw [z] at e
        exact ⟨c, rfl, (Option.some.inj e).symm⟩
    obtain ⟨c, e1, e2⟩ := e'
    subst e2
    have seq : ∀ (p : Addr) (vs : List V) (ys : List P), y = .ref p → (SqL X.K H p vs ∨ SqT X.K H p vs) → VRs X.K fa F H vs ys → (if (px.flat && ys.all P.flat) = true then anyEq px ys else none) = some c → wpAny (model X.prog X.w) X.A (compareOp (if neg then .NotIn else .In) v u) (EP X pins σ Q) X.xe s := by
      intro p vs ys ey hs hr e3
      cases z : px.flat && ys.all P.flat with
      | false =>
        rw [z] at e3
        cases e3
      | true =>
        rw [z] at e3
        obtain ⟨z1, z2⟩ := Bool.and_eq_true_iff.mp z
        have hx' : VR X.K fa F H x px := by
          cases px <;> first | exact hx | cases z1
        have e4 := inV_ok hx' z1 hr z2 e3
        cases neg with
        | false => exact op_in_seq pins s σ H x y v u Q I rx ry ⟨p, vs, ey, hs, flat_ok hx' z1, flats_ok hr z2, by rw [e4, if_neg Bool.false_ne_true]; exact qb⟩
        | true => exact op_notIn_seq pins s σ H x y v u Q I rx ry ⟨p, vs, ey, hs, flat_ok hx' z1, flats_ok hr z2, by rw [e4, if_pos rfl]; exact qb⟩
    cases py with
    | tup ys =>
      obtain ⟨a, vs, ea, ha, hr⟩ := hy.tup
      exact seq a vs ys ea (.inr (SqT_of ha)) hr e1
    | lst ys =>
      obtain ⟨a, vs, ea, ha, hr⟩ := hy
      exact seq a vs ys ea (.inl (SqL.of ha)) hr e1
    | str z =>
      cases hy.str
      cases px with
      | str c1 =>
        cases hx.str
        have e3 : (if (c1.length == 1) = true then some (decide (c1.cps.getD 0 0 ∈ z.cps.toList)) else none) = some c := e1
        cases hl : c1.length == 1 with
        | false =>
          rw [hl] at e3
          cases e3
        | true =>
          rw [hl] at e3
          have e4 := Option.some.inj e3
          have hc : ∃ c0, c1 = ⟨#[c0]⟩ ∧ c1.cps.getD 0 0 = c0 := by
            obtain ⟨arr⟩ := c1
            have hl' : arr.size = 1 := by simpa [Str.length] using hl
            obtain ⟨l⟩ := arr
            match l, hl' with
            | [c0], _ => exact ⟨c0, rfl, rfl⟩
          obtain ⟨c0, rfl, e5⟩ := hc
          rw [e5] at e4
          cases neg with
          | false => exact op_in_sign pins s σ H _ _ v u Q I rx ry ⟨c0, z, rfl, rfl, by rw [e4]; exact qb⟩
          | true => exact op_notIn_sign pins s σ H _ _ v u Q I rx ry ⟨c0, z, rfl, rfl, by rw [e4]; exact qb⟩
      | _ => cases e1
    | _ => cases e1
  cases op with
  | Eq =>
    intro pins s σ H x y v u Q I rx ry h
    obtain ⟨F, ρ, st, px, py, w, hx, hy, q⟩ := h
    obtain ⟨b, e, q⟩ := postB w q
    obtain ⟨d, e', h1, h2, s1, s2, rfl⟩ := opEq_some e
    exact op_eqD hu pins s σ H x y v u Q I rx ry ⟨d, e', hx.dp h1, hy.dp h2, s1, s2, q⟩
  | NotEq =>
    intro pins s σ H x y v u Q I rx ry h
    obtain ⟨F, ρ, st, px, py, w, hx, hy, q⟩ := h
    obtain ⟨b, e, q⟩ := postB w q
    have e : (opEq px py).map not = some b := e
    cases z : opEq px py with
    | none =>
      rw [z] at e
      cases e
    | some c =>
      rw [z] at e
      cases e
      obtain ⟨d, e', h1, h2, s1, s2, rfl⟩ := opEq_some z
      exact op_neD hu pins s σ H x y v u Q I rx ry ⟨d, e', hx.dp h1, hy.dp h2, s1, s2, q⟩
  | In =>
    intro pins s σ H x y v u Q I rx ry h
    refine hin false pins s σ H x y v u Q I rx ry ?_
    obtain ⟨F, ρ, st, px, py, w, hx, hy, q⟩ := h
    refine ⟨F, ρ, st, px, py, w, hx, hy, ?_⟩
    have e : (opIn px py).map (fun b => if false = true then !b else b) = opIn px py := by
      cases opIn px py <;> rfl
    show PostD _ _ _ _ _ _ _ (mkB ((opIn px py).map (fun b => if false = true then !b else b)) st) Q
    rw [e]
    exact q
  | NotIn =>
    intro pins s σ H x y v u Q I rx ry h
    refine hin true pins s σ H x y v u Q I rx ry ?_
    obtain ⟨F, ρ, st, px, py, w, hx, hy, q⟩ := h
    exact ⟨F, ρ, st, px, py, w, hx, hy, q⟩
  | Is =>
    intro pins s σ H x y v u Q I rx ry h
    obtain ⟨F, ρ, st, px, py, w, hx, hy, q⟩ := h
    obtain ⟨b, e, q⟩ := postB w q
    cases py with
    | non =>
      cases hy.non
      refine op_isN pins s σ H _ _ v u Q I rx ry ⟨rfl, ?_⟩
      cases e
      have z : decide (x = V.non) = px.isNon := by
        cases px with
        | lst xs =>
          obtain ⟨a, vs, rfl, _⟩ := hx
          rfl
        | tup xs =>
          obtain ⟨a, vs, rfl, _⟩ := hx.tup
          rfl
        | _ => cases (show VR X.K fa F H x _ from hx) <;> rfl
      rw [z]
      exact q
    | bl b2 =>
      cases hy.bl
      cases px with
      | bl b1 =>
        cases hx.bl
        cases e
        exact op_isBl pins s σ H _ _ v u Q I rx ry ⟨b1, b2, rfl, rfl, q⟩
      | _ => cases e
    | _ => cases px <;> cases e
  | IsNot =>
    intro pins s σ H x y v u Q I rx ry h
    obtain ⟨F, ρ, st, px, py, w, hx, hy, q⟩ := h
    obtain ⟨b, e, q⟩ := postB w q
    cases py with
    | non =>
      cases hy.non
      refine op_notN pins s σ H _ _ v u Q I rx ry ⟨rfl, ?_⟩
      cases e
      have z : decide (x = V.non) = px.isNon := by
        cases px with
        | lst xs =>
          obtain ⟨a, vs, rfl, _⟩ := hx
          rfl
        | tup xs =>
          obtain ⟨a, vs, rfl, _⟩ := hx.tup
          rfl
        | _ => cases (show VR X.K fa F H x _ from hx) <;> rfl
      rw [z]
      exact q
    | bl b2 =>
      cases hy.bl
      cases px with
      | bl b1 =>
        cases hx.bl
        cases e
        exact op_notBl pins s σ H _ _ v u Q I rx ry ⟨b1, b2, rfl, rfl, q⟩
      | _ => cases e
    | _ => cases px <;> cases e
  | Lt =>
    intro pins s σ H x y v u Q I rx ry h
    obtain ⟨F, ρ, st, px, py, w, hx, hy, q⟩ := h
    obtain ⟨b, e, q⟩ := postB w q
    cases px <;> first | (cases e; done) | skip
    cases py <;> first | (cases e; done) | skip
    cases hx.int
    cases hy.int
    cases e
    exact op_lt pins s σ H _ _ v u Q I rx ry ⟨_, _, rfl, rfl, q⟩
  | LtE =>
    intro pins s σ H x y v u Q I rx ry h
    obtain ⟨F, ρ, st, px, py, w, hx, hy, q⟩ := h
    obtain ⟨b, e, q⟩ := postB w q
    cases px <;> first | (cases e; done) | skip
    cases py <;> first | (cases e; done) | skip
    cases hx.int
    cases hy.int
    cases e
    exact op_le pins s σ H _ _ v u Q I rx ry ⟨_, _, rfl, rfl, q⟩
  | Gt =>
    intro pins s σ H x y v u Q I rx ry h
    obtain ⟨F, ρ, st, px, py, w, hx, hy, q⟩ := h
    obtain ⟨b, e, q⟩ := postB w q
    cases px <;> first | (cases e; done) | skip
    cases py <;> first | (cases e; done) | skip
    cases hx.int
    cases hy.int
    cases e
    exact op_gt pins s σ H _ _ v u Q I rx ry ⟨_, _, rfl, rfl, q⟩
  | GtE =>
    intro pins s σ H x y v u Q I rx ry h
    obtain ⟨F, ρ, st, px, py, w, hx, hy, q⟩ := h
    obtain ⟨b, e, q⟩ := postB w q
    cases px <;> first | (cases e; done) | skip
    cases py <;> first | (cases e; done) | skip
    cases hx.int
    cases hy.int
    cases e
    exact op_ge pins s σ H _ _ v u Q I rx ry ⟨_, _, rfl, rfl, q⟩
end
end DE
end

section
set_option Elab.async false
set_option linter.all false
set_option maxRecDepth 100000
set_option autoImplicit false
namespace DE
open PySem PySem.Spec L2 PyProof.Rows
theorem tuple_mul_same (l : Addr) (items : Array Value) (n : Nat) (dd : Option Addr) (sl : Array (Option Value)) (x : Int) (u : Tok) (c0 : (decide (x < -(2 ^ 63)) || decide (x ≥ 2 ^ 63)) = false) (c1 : (items.isEmpty || x == 1) = true) :
    Meets (Builtin.«tuple.__mul__» ⟨[.ref l, .int x u], []⟩) (fun _ R s => s.heap.get? l = some { cls := .type "tuple", dict := dd, data := .seq items n, slots := sl } ∧
      R (.ok (.ret (Value.ref l))) s) :=
  .of_wp fun prog w A R s h => by
    obtain ⟨hp, g, d, tk, os⟩ := s
    obtain ⟨hl, h⟩ := h
    have f1 := AutoSeq1.idx_int
    wp_walk using wpAny_loadPart' hl
    repeat (first
      | (refine wpAny_ite_false (decide_eq_false (by rw [c0]; exact Bool.false_ne_true)) ?_; wp_walk using wpAny_loadPart' hl)
      | (refine wpAny_ite_true (decide_eq_true c1) ?_; wp_walk using wpAny_loadPart' hl))
    exact ⟨_, rfl, h⟩
theorem tuple_mul_none (l : Addr) (items : Array Value) (n : Nat) (dd : Option Addr) (sl : Array (Option Value)) (x : Int) (u : Tok) (c0 : (decide (x < -(2 ^ 63)) || decide (x ≥ 2 ^ 63)) = false) (c1 : (items.isEmpty || x == 1) = false) (c2 : (decide (x ≤ 0) || items.isEmpty) = true) :
    Meets (Builtin.«tuple.__mul__» ⟨[.ref l, .int x u], []⟩) (fun _ R s => s.heap.get? l = some { cls := .type "tuple", dict := dd, data := .seq items n, slots := sl } ∧
      R (.ok (.ret (Value.ref s.heap.objs.size))) { s with heap := s.heap.push { cls := Value.type "tuple", data := Data.seq #[] }, toks := s.toks }) :=
  .of_wp fun prog w A R s h => by
    obtain ⟨hp, g, d, tk, os⟩ := s
    obtain ⟨hl, h⟩ := h
    have f1 := AutoSeq1.idx_int
    wp_walk using wpAny_loadPart' hl
    repeat (first
      | (refine wpAny_ite_false (decide_eq_false (by rw [c0]; exact Bool.false_ne_true)) ?_; wp_walk using wpAny_loadPart' hl)
      | (refine wpAny_ite_false (decide_eq_false (by rw [c1]; exact Bool.false_ne_true)) ?_; wp_walk using wpAny_loadPart' hl)
      | (refine wpAny_ite_true (decide_eq_true c2) ?_; wp_walk using wpAny_loadPart' hl))
    exact ⟨_, rfl, h⟩

section
variable {X : Cx} {fa : Fa}
/-- tuple * int, any int of a small size -/
def rRepA (K : PySem.W.Frag) : R2 := fun x y H Q => ∃ l k xs, x = .ref l ∧ y = .int k ∧ SqT K H l xs ∧ -1000 ≤ k ∧ k ≤ 1000 ∧ xs.length ≤ 1000 ∧
  ((xs = [] ∨ k = 1) → Q (.ref l) H) ∧ ((xs ≠ [] ∧ k ≠ 1) → ∀ p, H p = none → Q (.ref p) (upd H p (.tup (List.replicate k.toNat xs).flatten)))
theorem op_repA : OpR X (binaryOp .Mult) (rRepA X.K) := by
  intro pins s σ H x y v u Q I rx ry h
  obtain ⟨l, k, xs, rfl, rfl, hT, h1, h2, hz, q1, q2⟩ := h
  by_cases hb : xs ≠ [] ∧ 2 ≤ k
  · exact op_repT pins s σ H _ _ v u Q I rx ry ⟨l, k, xs, rfl, rfl, hT, hb.1, hb.2, h2, hz, q2 ⟨hb.1, by omega⟩⟩
  cases rx
  obtain ⟨t, rfl⟩ := ry
  obtain ⟨its, r, ⟨⟨cls, dd, data, sl⟩, ho, hc, n, hd⟩, hs⟩ := I.tuple hT
  simp only at hc hd
  subst hc hd
  have hle : its.length = xs.length := r.length.symm
  have c0 : (decide (k < -(2 ^ 63)) || decide (k ≥ 2 ^ 63)) = false := by
    rw [decide_eq_false (by omega), decide_eq_false (by omega)] <;> rfl
  refine wpAny_binaryOp_repeat_ref (T := "tuple") (U := "int") (by decide) ⟨_, ho, rfl⟩ (fun s' => typeIs_int s' k t) noFill_tuple_mul F.fills_int_mul F.slot_int_rmul repeat_tuple F.slot_int_index.lookup
    (call_meets F.slot_int_rmul (typeIs_int s k t) F.entry_int_rmul (F.args_int_rmul_2 _ _) (int_rmul_tuple k t l its.toArray n dd sl)
      ⟨ho, rfl, ⟨_, ho, rfl⟩, ?_⟩)
  by_cases hc : xs = [] ∨ k = 1
  · have c1 : (its.toArray.isEmpty || k == 1) = true := by
      rcases hc with e | e
      · have e2 : its = [] := List.eq_nil_of_length_eq_zero (by rw [hle, e]; rfl)
        rw [e2] <;> rfl
      · rw [e] <;> simp
    exact call_meets F.slot_tuple_mul ⟨_, ho, rfl⟩ F.entry_tuple_mul (F.args_tuple_mul_2 _ _) (tuple_mul_same l its.toArray n dd sl k t c0 c1) ⟨ho, .ref l, H, I, rfl, q1 hc⟩
  · have hn : xs ≠ [] := fun e => hc (.inl e)
    have hk : k ≠ 1 := fun e => hc (.inr e)
    have hk0 : k ≤ 0 := by
      by_cases z : 2 ≤ k
      · exact absurd ⟨hn, z⟩ hb
      · omega
    have hi : its.toArray.isEmpty = false := by
      cases its with
      | nil => exact absurd (List.eq_nil_of_length_eq_zero (by rw [← hle]; rfl)) hn
      | cons a b => rfl
    have c1 : (its.toArray.isEmpty || k == 1) = false := by
      rw [hi, Bool.false_or]
      exact beq_eq_false_iff_ne.mpr hk
    have c2 : (decide (k ≤ 0) || its.toArray.isEmpty) = true := by
      rw [decide_eq_true hk0] <;> rfl
    have ek : k.toNat = 0 := by omega
    have q := q2 ⟨hn, hk⟩
    rw [ek] at q
    refine call_meets F.slot_tuple_mul ⟨_, ho, rfl⟩ F.entry_tuple_mul (F.args_tuple_mul_2 _ _) (tuple_mul_none l its.toArray n dd sl k t c0 c1 c2) ⟨ho, ?_⟩
    refine ⟨.ref s.heap.objs.size, _, I.laid (t' := s.toks) (o := .tup []) (fun b ob q => Heap.get?_push_of_some _ q) (Nat.le_refl _) ?_, rfl, q _ (I.hok.fresh (Nat.le_refl _))⟩
    exact ⟨Nat.zero_le _, [], .nil, IsTup.new _ _⟩
theorem foldl_arr (a : Array Nat) : ∀ (m : Nat) (acc : Array Nat), List.foldl (fun x y => x ++ y) acc (List.replicate m a) = acc ++ (List.replicate m a.toList).flatten.toArray
  | 0, acc => by simp
  | m + 1, acc => by
    rw [List.replicate_succ, List.foldl_cons, foldl_arr a m, List.replicate_succ, List.flatten_cons]
    rw [Array.append_assoc]
    congr 1
    simp
theorem op_repS : OpR X (binaryOp .Mult) (fun x y H Q => ∃ z k, x = .str z ∧ y = .int k ∧ -1000 ≤ k ∧ k ≤ 1000 ∧ z.length ≤ 1000 ∧ Q (.str ⟨(rep k z.cps.toList).toArray⟩) H) := by
  intro pins s σ H x y v u Q I rx ry h
  obtain ⟨z, k, rfl, rfl, h1, h2, hz, q⟩ := h
  obtain ⟨t, rfl⟩ := rx
  obtain ⟨t', rfl⟩ := ry
  have hlen : z.length = z.cps.toList.length := by simp [Str.length]
  refine P.mul_str (by rw [decide_eq_false (by omega), decide_eq_false (by omega)] <;> rfl) (fun a b => ?_) (fun a b => ?_) ?_
  · have hk : 0 < k := by omega
    have h3 : (1000 : Int) ≤ (2 ^ 63 - 1) / k := by
      rw [Int.le_ediv_iff_mul_le hk]
      omega
    omega
  · unfold Builtin.Str.tooLong
    rw [sizeLine_eq]
    have a1 : z.length * k.toNat ≤ 1000 * 1000 := Nat.mul_le_mul hz (by omega)
    exact decide_eq_false (by omega)
  · by_cases hk : k < 1
    · rw [if_pos hk]
      have e : rep k z.cps.toList = [] := by
        unfold rep
        rw [show k.toNat = 0 by omega] <;> rfl
      rw [e] at q
      exact ⟨by decide, ⟨.str _, H, I.tok _, ⟨_, rfl⟩, q⟩⟩
    · rw [if_neg hk]
      by_cases hc : (k == 1 || z.length == 0) = true
      · rw [if_pos hc]
        have e : rep k z.cps.toList = z.cps.toList := by
          unfold rep
          rw [Bool.or_eq_true] at hc
          rcases hc with e | e
          · rw [show k.toNat = 1 by have := beq_iff_eq.mp e; omega]
            simp
          · have e2 : z.cps.toList = [] := List.eq_nil_of_length_eq_zero (by rw [← hlen]; exact beq_iff_eq.mp e)
            rw [e2]
            simp
        rw [e] at q
        exact ⟨.str z, H, I, ⟨_, rfl⟩, q⟩
      · rw [if_neg hc]
        have e : List.foldl (fun x y => x ++ y) #[] (List.replicate k.toNat z.cps) = (rep k z.cps.toList).toArray := by
          rw [foldl_arr]
          simp [rep]
        rw [e]
        refine ⟨?_, ⟨.str _, H, I.tok _, ⟨_, rfl⟩, q⟩⟩
        show ((rep k z.cps.toList).toArray).size ≤ sizeLine
        rw [List.size_toArray]
        unfold rep
        rw [PyProof.Rows.lm_len_rep_flat, ← hlen, sizeLine_eq]
        have a1 : k.toNat * z.length ≤ 1000 * 1000 := Nat.mul_le_mul (by omega) hz
        omega
theorem de_mul : OpR X (binaryOp .Mult) (rOp2 X.K fa opMul) := by
  intro pins s σ H x y v u Q I rx ry h
  obtain ⟨F, ρ, st, px, py, w, hx, hy, q⟩ := h
  cases py with
  | int k =>
    cases hy.int
    cases px with
    | int i =>
      cases hx.int
      obtain ⟨hm, q⟩ := ite_post (b := mulOk i k) q
      have hm' : CMul i k := by
        unfold mulOk at hm
        rw [Bool.or_eq_true] at hm
        exact hm.imp of_decide_eq_true of_decide_eq_true
      exact op_mul pins s σ H _ _ v u Q I rx ry ⟨i, k, rfl, rfl, hm', pP q w (.int _)⟩
    | str z =>
      cases hx.str
      obtain ⟨hm, q⟩ := ite_post (b := decide (k ≤ 1000) && decide (-1000 ≤ k) && decide (z.length ≤ 1000)) q
      have hm' : (k ≤ 1000 ∧ -1000 ≤ k) ∧ z.length ≤ 1000 := by simpa using hm
      exact op_repS pins s σ H _ _ v u Q I rx ry ⟨z, k, rfl, rfl, hm'.1.2, hm'.1.1, hm'.2, pP q w (.str _)⟩
    | tup xs =>
      obtain ⟨a, vs, rfl, ha, hr⟩ := hx.tup
      obtain ⟨hm, q⟩ := ite_post (b := decide (k ≤ 1000) && decide (-1000 ≤ k) && decide (xs.length ≤ 1000)) q
      have hm' : (k ≤ 1000 ∧ -1000 ≤ k) ∧ xs.length ≤ 1000 := by simpa using hm
      refine op_repA pins s σ H _ _ v u Q I rx ry ⟨a, k, vs, rfl, rfl, SqT_of ha, hm'.1.2, hm'.1.1, by rw [hr.length]; exact hm'.2, fun e => ?_, fun e => ?_⟩
      · rcases e with e | e
        · subst e
          cases hr
          have e2 : rep k ([] : List P) = [] := by
            unfold rep
            simp
          rw [e2] at q
          exact pP q w (.tup ha .nil)
        · have e2 : rep k xs = xs := by
            unfold rep
            rw [e]
            simp
          rw [e2] at q
          exact pP q w (.tup ha hr)
      · exact pTup q w (hr.rep k.toNat)
    | lst xs =>
      obtain ⟨a, vs, rfl, ha, hr⟩ := hx
      obtain ⟨hm, q⟩ := ite_post (b := decide (k ≤ 1000) && decide (-1000 ≤ k) && decide (xs.length ≤ 1000)) q
      have hm' : (k ≤ 1000 ∧ -1000 ≤ k) ∧ xs.length ≤ 1000 := by simpa using hm
      refine op_rep pins s σ H _ _ v u Q I rx ry ⟨a, k, vs, rfl, rfl, ha, by omega, by omega, ?_, pNew q w (hr.rep k.toNat)⟩
      rw [hr.length, sizeLine_eq]
      have a1 : xs.length * k.toNat ≤ 1000 * 1000 := Nat.mul_le_mul hm'.2 (by omega)
      omega
    | _ => exact q.elim
  | _ => cases px <;> exact q.elim
theorem de_bin (op : Operator) : OpR X (binaryOp op) (rOp2 X.K fa (opBin op)) := by
  by_cases e : op = .Mult
  · subst e
    exact de_mul
  · exact de_bin1 op e
end
end DE
end

section
set_option Elab.async false
set_option linter.all false
set_option maxRecDepth 100000
set_option autoImplicit false
namespace DE
open PySem PySem.Spec L2
section
variable {X : Cx} {fa : Fa}
theorem VRs.at {K : PySem.W.Frag} {F : Addr → Prop} {H : Hp} {vs : List V} {xs : List P} {i : Int} {x : P} (h : VRs K fa F H vs xs) (e : atI xs i = some x) : ∃ v, atI vs i = some v ∧ VR K fa F H v x := by
  unfold atI at e ⊢
  rw [h.length]
  cases q : ixN xs.length i with
  | none =>
    rw [q] at e
    cases e
  | some j =>
    rw [q] at e
    exact h.get e
theorem atI_map {α β : Type} (f : α → β) (xs : List α) (i : Int) : atI (xs.map f) i = (atI xs i).map f := by
  unfold atI
  rw [List.length_map]
  cases ixN xs.length i with
  | none => rfl
  | some j => exact List.getElem?_map
def rOpP (K : PySem.W.Frag) (fa : Fa) (f : P → P → Option P) : R2 := fun x y H Q => ∃ F ρ st px py, Wok K fa F ρ H st ∧ VRr K fa F H x px ∧ VRr K fa F H y py ∧ PostD K fa W0 F ρ H [] (mkP (f px py) st) Q
theorem postP {K : PySem.W.Frag} {F : Addr → Prop} {ρ : List Addr} {H : Hp} {σ : L2.St} {W : WX} {st : Store} {o : Option P} {Q : VK} (q : PostD K fa W F ρ H σ (mkP o st) Q) : ∃ x, o = some x ∧ PostD K fa W F ρ H σ (.ok (.p x) st) Q := by
  cases o with
  | none => exact q.elim
  | some b => exact ⟨b, rfl, q⟩
theorem postM {K : PySem.W.Frag} {F : Addr → Prop} {ρ : List Addr} {H : Hp} {σ : L2.St} {W : WX} {st : Store} {o : Option P} {Q : VK} (q : PostD K fa W F ρ H σ (mkD o st) Q) : ∃ x, o = some x ∧ PostD K fa W F ρ H σ (.ok (.mk x) st) Q := by
  cases o with
  | none => exact q.elim
  | some b => exact ⟨b, rfl, q⟩
theorem de_ix : IxR X (rOpP X.K fa opIdx) := by
  intro value slice pins s σ H x y v u Q I rx ry h hs
  obtain ⟨F, ρ, st, px, py, w, hx, hy, q⟩ := h
  obtain ⟨z, e, q2⟩ := postP q
  clear q
  have q := q2
  clear q2
  cases py with
  | int i =>
    cases hy.int
    cases px with
    | lst xs =>
      obtain ⟨a, vs, rfl, ha, hr⟩ := hx
      obtain ⟨c, e1, e2⟩ := hr.at e
      exact ix_list value slice pins s σ H _ _ v u Q I rx ry ⟨a, vs, i, c, rfl, rfl, SqL.of ha, e1, pP q w e2⟩ hs
    | tup xs =>
      obtain ⟨a, vs, rfl, ha, hr⟩ := hx.tup
      obtain ⟨c, e1, e2⟩ := hr.at e
      exact ix_tup value slice pins s σ H _ _ v u Q I rx ry ⟨a, vs, i, c, rfl, rfl, SqT_of ha, e1, pP q w e2⟩ hs
    | scr ns =>
      obtain ⟨a, rfl, ha⟩ := hx.scr
      have e' : (atI ns i).map P.int = some z := e
      cases q2 : atI ns i with
      | none =>
        rw [q2] at e'
        cases e'
      | some n =>
        rw [q2] at e'
        cases e'
        exact ix_list value slice pins s σ H _ _ v u Q I rx ry ⟨a, _, i, .int n, rfl, rfl, SqL_scr ha, by rw [atI_map, q2]; rfl, pP q w (.int _)⟩ hs
    | str t =>
      cases hx.str
      have e' : (if small t.length = true then (atI t.cps.toList i).map fun c => P.str ⟨#[c]⟩ else none) = some z := e
      cases hm : small t.length with
      | false =>
        rw [hm] at e'
        cases e'
      | true =>
        rw [hm, if_pos rfl] at e'
        cases q2 : atI t.cps.toList i with
        | none =>
          rw [q2] at e'
          cases e'
        | some n =>
          rw [q2] at e'
          cases e'
          exact ix_str value slice pins s σ H _ _ v u Q I rx ry ⟨t, i, n, rfl, rfl, of_decide_eq_true hm, q2, pP q w (.str _)⟩ hs
    | _ => cases e
  | _ => cases px <;> cases e
def rSlD (K : PySem.W.Frag) (fa : Fa) : V → Option Int → Option Int → Hp → VK → Prop := fun x lo hi H Q => ∃ F ρ st px, Wok K fa F ρ H st ∧ VRr K fa F H x px ∧ PostD K fa W0 F ρ H [] (mkD (opSlc px lo hi) st) Q
theorem VRs.cut {K : PySem.W.Frag} {F : Addr → Prop} {H : Hp} {vs : List V} {xs : List P} (h : VRs K fa F H vs xs) (lo hi : Option Int) : VRs K fa F H (cutV vs lo hi) (cutP xs lo hi) := by
  unfold cutV cutP
  rw [h.length]
  exact (h.drop _).take _
theorem de_sl : SlR X (rSlD X.K fa) := by
  intro pins s σ H x v vl vu lo hi sl Q I rx hs pl pu h
  obtain ⟨F, ρ, st, px, w, hx, q⟩ := h
  obtain ⟨z, e, q⟩ := postM q
  cases px with
  | lst xs =>
    obtain ⟨a, vs, rfl, ha, hr⟩ := hx
    cases e
    exact sl_list pins s σ H _ v vl vu lo hi sl Q I rx hs pl pu ⟨a, vs, rfl, SqL.of ha, pNew q w (hr.cut lo hi)⟩
  | tup xs =>
    obtain ⟨a, vs, rfl, ha, hr⟩ := hx.tup
    cases e
    refine sl_tupA pins s σ H _ v vl vu lo hi sl Q I rx hs pl pu ⟨a, vs, rfl, SqT_of ha, fun e => ?_, fun e => ?_⟩
    · have e2 : cutP xs lo hi = xs := by
        unfold cutP
        rw [hr.length] at e
        rw [e.1, e.2, List.drop_zero, Nat.sub_zero, List.take_length]
      rw [e2] at q
      exact pP q w (.tup ha hr)
    · exact pTup q w (hr.cut lo hi)
  | str t =>
    cases hx.str
    have e' : (if small t.length = true then some (P.str (cutS t lo hi)) else none) = some z := e
    cases hm : small t.length with
    | false =>
      rw [hm] at e'
      cases e'
    | true =>
      rw [hm, if_pos rfl] at e'
      cases e'
      exact sl_str pins s σ H _ v vl vu lo hi sl Q I rx hs pl pu ⟨t, rfl, of_decide_eq_true hm, pP q w (.str _)⟩
  | _ => cases e
inductive VRrs (K : PySem.W.Frag) (fa : Fa) (F : Addr → Prop) (H : Hp) : List V → List P → Prop
  | nil : VRrs K fa F H [] []
  | cons {v : V} {vs : List V} {x : P} {xs : List P} : VRr K fa F H v x → VRrs K fa F H vs xs → VRrs K fa F H (v :: vs) (x :: xs)
def rBiD (K : PySem.W.Frag) (fa : Fa) (f : List P → Option P) : List V → Hp → VK → Prop := fun vs H Q => ∃ F ρ st ps, Wok K fa F ρ H st ∧ VRrs K fa F H vs ps ∧ PostD K fa W0 F ρ H [] (mkD (f ps) st) Q
theorem sized {pins : List (Addr × Obj)} {s : Shared} {σ : L2.St} {H : Hp} (I : Inv X pins σ H s) {a : Addr} {vs : List V} (h : SqL X.K H a vs) : vs.length ≤ sizeLine := by
  obtain ⟨_, _, _, hz⟩ := I.list h
  exact hz
theorem VRs.bls {K : PySem.W.Frag} {F : Addr → Prop} {H : Hp} : ∀ {vs : List V} {xs : List P} {bs : List Bool}, VRs K fa F H vs xs → allBl xs = some bs → vs = bs.map V.bl
  | _, _, _, .nil, e => by
    cases e
    rfl
  | _, _, _, .cons (x := x) (xs := xs) a b, e => by
    cases a with
    | bl c =>
      have e' : (allBl xs).map (c :: ·) = some _ := e
      cases q : allBl xs with
      | none =>
        rw [q] at e'
        cases e'
      | some bs =>
        rw [q] at e'
        cases e'
        rw [b.bls q] <;> rfl
    | _ => cases e
theorem VRs.strs {K : PySem.W.Frag} {F : Addr → Prop} {H : Hp} : ∀ {vs : List V} {xs : List P} {bs : List Str}, VRs K fa F H vs xs → allStr xs = some bs → vs = bs.map V.str
  | _, _, _, .nil, e => by
    cases e
    rfl
  | _, _, _, .cons (x := x) (xs := xs) a b, e => by
    cases a with
    | str c =>
      have e' : (allStr xs).map (c :: ·) = some _ := e
      cases q : allStr xs with
      | none =>
        rw [q] at e'
        cases e'
      | some bs =>
        rw [q] at e'
        cases e'
        rw [b.strs q] <;> rfl
    | _ => cases e
theorem VRs.ofStrs {K : PySem.W.Frag} {F : Addr → Prop} {H : Hp} : ∀ zs : List Str, VRs K fa F H (zs.map V.str) (zs.map P.str)
  | [] => .nil
  | z :: zs => .cons (.str z) (VRs.ofStrs zs)
theorem one_of {K : PySem.W.Frag} {F : Addr → Prop} {H : Hp} {vs : List V} {x : P} (h : VRrs K fa F H vs [x]) : ∃ v, vs = [v] ∧ VRr K fa F H v x := by
  cases h with
  | cons a b =>
    cases b
    exact ⟨_, rfl, a⟩
theorem two_of {K : PySem.W.Frag} {F : Addr → Prop} {H : Hp} {vs : List V} {x y : P} (h : VRrs K fa F H vs [x, y]) : ∃ v u, vs = [v, u] ∧ VRr K fa F H v x ∧ VRr K fa F H u y := by
  cases h with
  | cons a b =>
    cases b with
    | cons b c =>
      cases c
      exact ⟨_, _, rfl, a, b⟩
theorem de_len : CallR X (.builtin "len") (rBiD X.K fa biLen) := by
  intro pins s σ H vs us Q I rx h
  obtain ⟨F, ρ, st, ps, w, hx, q⟩ := h
  obtain ⟨z, e, q⟩ := postM q
  match ps, hx, e with
  | [x], hx, e =>
    obtain ⟨v, rfl, hv⟩ := one_of hx
    have e' : (lenP x).map (fun n => P.int n) = some z := e
    cases x with
    | lst xs =>
      obtain ⟨a, ws, rfl, ha, hr⟩ := hv
      cases e'
      exact call_len_seq pins s σ H _ us Q I rx ⟨a, ws, rfl, .inl (SqL.of ha), by rw [hr.length]; exact pP q w (.int _)⟩
    | tup xs =>
      obtain ⟨a, ws, rfl, ha, hr⟩ := hv.tup
      cases e'
      exact call_len_seq pins s σ H _ us Q I rx ⟨a, ws, rfl, .inr (SqT_of ha), by rw [hr.length]; exact pP q w (.int _)⟩
    | scr ns =>
      obtain ⟨a, rfl, ha⟩ := hv.scr
      cases e'
      exact call_len_seq pins s σ H _ us Q I rx ⟨a, _, rfl, .inl (SqL_scr ha), by rw [List.length_map]; exact pP q w (.int _)⟩
    | str t =>
      cases hv.str
      have e' : (if small t.length = true then some t.length else none).map (fun n => P.int n) = some z := e'
      cases hm : small t.length with
      | false =>
        rw [hm] at e'
        cases e'
      | true =>
        rw [hm] at e'
        cases e'
        exact call_len_str pins s σ H _ us Q I rx ⟨t, rfl, of_decide_eq_true hm, pP q w (.int _)⟩
    | _ => cases e'
theorem de_abs : CallR X (.builtin "abs") (rBiD X.K fa biAbs) := by
  intro pins s σ H vs us Q I rx h
  obtain ⟨F, ρ, st, ps, w, hx, q⟩ := h
  obtain ⟨z, e, q⟩ := postM q
  match ps, hx, e with
  | [.int i], hx, e =>
    obtain ⟨v, rfl, hv⟩ := one_of hx
    cases hv.int
    cases e
    exact call_abs pins s σ H _ us Q I rx ⟨i, rfl, pP q w (.int _)⟩
theorem de_int : CallR X (.type "int") (rBiD X.K fa biInt) := by
  intro pins s σ H vs us Q I rx h
  obtain ⟨F, ρ, st, ps, w, hx, q⟩ := h
  obtain ⟨z, e, q⟩ := postM q
  match ps, hx, e with
  | [.int i], hx, e =>
    obtain ⟨v, rfl, hv⟩ := one_of hx
    cases hv.int
    cases e
    exact call_int1 pins s σ H _ us Q I rx (.inl ⟨i, rfl, pP q w (.int _)⟩)
  | [.bl i], hx, e =>
    obtain ⟨v, rfl, hv⟩ := one_of hx
    cases hv.bl
    cases e
    exact call_int1 pins s σ H _ us Q I rx (.inr ⟨i, rfl, pP q w (.int _)⟩)
theorem de_max (hc : X.calm = true) : CallR X (.builtin "max") (rBiD X.K fa biMax) := by
  intro pins s σ H vs us Q I rx h
  obtain ⟨F, ρ, st, ps, w, hx, q⟩ := h
  obtain ⟨z, e, q⟩ := postM q
  match ps, hx, e with
  | [.int i, .int j], hx, e =>
    obtain ⟨v, u, rfl, hv, hu⟩ := two_of hx
    cases hv.int
    cases hu.int
    cases e
    exact call_max2 hc pins s σ H _ us Q I rx ⟨i, j, rfl, pP q w (.int _)⟩
theorem de_min (hc : X.calm = true) : CallR X (.builtin "min") (rBiD X.K fa biMin) := by
  intro pins s σ H vs us Q I rx h
  obtain ⟨F, ρ, st, ps, w, hx, q⟩ := h
  obtain ⟨z, e, q⟩ := postM q
  match ps, hx, e with
  | [.int i, .int j], hx, e =>
    obtain ⟨v, u, rfl, hv, hu⟩ := two_of hx
    cases hv.int
    cases hu.int
    cases e
    exact call_min2 hc pins s σ H _ us Q I rx ⟨i, j, rfl, pP q w (.int _)⟩
theorem de_tuple : CallR X (.type "tuple") (rBiD X.K fa biTuple) := by
  intro pins s σ H vs us Q I rx h
  obtain ⟨F, ρ, st, ps, w, hx, q⟩ := h
  obtain ⟨z, e, q⟩ := postM q
  match ps, hx, e with
  | [.lst xs], hx, e =>
    obtain ⟨v, rfl, a, ws, rfl, ha, hr⟩ := one_of hx
    cases e
    exact call_tuple_of pins s σ H _ us Q I rx ⟨a, ws, rfl, .inl ⟨SqL.of ha, pTup q w hr⟩⟩
  | [.tup xs], hx, e =>
    obtain ⟨v, rfl, hv⟩ := one_of hx
    obtain ⟨a, ws, rfl, ha, hr⟩ := hv.tup
    cases e
    exact call_tuple_of pins s σ H _ us Q I rx ⟨a, ws, rfl, .inr ⟨SqT_of ha, pP q w (.tup ha hr)⟩⟩
theorem de_list : CallR X (.type "list") (rBiD X.K fa biList) := by
  intro pins s σ H vs us Q I rx h
  obtain ⟨F, ρ, st, ps, w, hx, q⟩ := h
  obtain ⟨z, e, q⟩ := postM q
  match ps, hx, e with
  | [.lst xs], hx, e =>
    obtain ⟨v, rfl, a, ws, rfl, ha, hr⟩ := one_of hx
    cases e
    exact call_list_of pins s σ H _ us Q I rx ⟨a, ws, rfl, .inl (SqL.of ha), pNew q w hr⟩
  | [.tup xs], hx, e =>
    obtain ⟨v, rfl, hv⟩ := one_of hx
    obtain ⟨a, ws, rfl, ha, hr⟩ := hv.tup
    cases e
    exact call_list_of pins s σ H _ us Q I rx ⟨a, ws, rfl, .inr (SqT_of ha), pNew q w hr⟩
theorem de_all (hc : X.calm = true) : CallR X (.builtin "all") (rBiD X.K fa biAll) := by
  intro pins s σ H vs us Q I rx h
  obtain ⟨F, ρ, st, ps, w, hx, q⟩ := h
  obtain ⟨z, e, q⟩ := postM q
  match ps, hx, e with
  | [.lst xs], hx, e =>
    obtain ⟨v, rfl, a, ws, rfl, ha, hr⟩ := one_of hx
    have e' : (allBl xs).map (fun bs => P.bl (bs.all id)) = some z := e
    cases q2 : allBl xs with
    | none =>
      rw [q2] at e'
      cases e'
    | some bs =>
      rw [q2] at e'
      cases e'
      exact cr_all hc pins s σ H _ us Q I rx ⟨a, bs, rfl, by rw [← hr.bls q2]; exact SqL.of ha, pP q w (.bl _)⟩
theorem de_any (hc : X.calm = true) : CallR X (.builtin "any") (rBiD X.K fa biAny) := by
  intro pins s σ H vs us Q I rx h
  obtain ⟨F, ρ, st, ps, w, hx, q⟩ := h
  obtain ⟨z, e, q⟩ := postM q
  match ps, hx, e with
  | [.lst xs], hx, e =>
    obtain ⟨v, rfl, a, ws, rfl, ha, hr⟩ := one_of hx
    have e' : (allBl xs).map (fun bs => P.bl (bs.any id)) = some z := e
    cases q2 : allBl xs with
    | none =>
      rw [q2] at e'
      cases e'
    | some bs =>
      rw [q2] at e'
      cases e'
      exact cr_any hc pins s σ H _ us Q I rx ⟨a, bs, rfl, by rw [← hr.bls q2]; exact SqL.of ha, pP q w (.bl _)⟩
def Me.id : Me → String
  | .join => "str.join" | .split => "str.split" | .count => "str.count" | .find => "str.find"
def rMeD (K : PySem.W.Frag) (fa : Fa) (m : Me) : V → List V → Hp → VK → Prop := fun x vs H Q => ∃ F ρ st px py y, vs = [y] ∧ Wok K fa F ρ H st ∧ VRr K fa F H x px ∧ VRr K fa F H y py ∧ PostD K fa W0 F ρ H [] (mkD (opMe m px py) st) Q
theorem de_me (m : Me) : MtR X m.id (rMeD X.K fa m) := by
  intro pins s σ H x xs v us Q I rx rxs h
  obtain ⟨F, ρ, st, px, py, y, rfl, w, hx, hy, q⟩ := h
  obtain ⟨z, e, qq⟩ := postM q
  cases px with
  | str a =>
    cases hx.str
    cases m with
    | join =>
      cases py with
      | lst ys =>
        obtain ⟨b, ws, rfl, hb, hr⟩ := hy
        have e : joinP a (allStr ys) = some z := e
        cases q2 : allStr ys with
        | none =>
          rw [q2] at e
          cases e
        | some zs =>
          rw [q2] at e
          have e : (if joinLen a zs = true then some (P.str (Txt.join a zs)) else none) = some z := e
          cases hm : joinLen a zs with
          | false =>
            rw [hm] at e
            cases e
          | true =>
            rw [hm, if_pos rfl] at e
            cases e
            exact mt_join pins s σ H _ _ v us Q I rx rxs ⟨a, b, zs, rfl, rfl, .inl (by rw [← hr.strs q2]; exact SqL.of hb), of_decide_eq_true hm, pP qq w (.str _)⟩
      | _ => cases e
    | split =>
      cases py with
      | str b =>
        cases hy.str
        have e : (if (!(b.length == 0) && decide (a.length + 2 ≤ sizeLine)) = true then some (P.lst ((Txt.split a b).map P.str)) else none) = some z := e
        cases hm : (!(b.length == 0) && decide (a.length + 2 ≤ sizeLine)) with
        | false =>
          rw [hm] at e
          cases e
        | true =>
          rw [hm, if_pos rfl] at e
          cases e
          rw [Bool.and_eq_true] at hm
          exact mt_split pins s σ H _ _ v us Q I rx rxs ⟨a, b, rfl, rfl, by simpa using hm.1, of_decide_eq_true hm.2, pNew qq w (VRs.ofStrs _)⟩
      | _ => cases e
    | count =>
      cases py with
      | str b =>
        cases hy.str
        cases e
        exact mt_count pins s σ H _ _ v us Q I rx rxs ⟨a, b, rfl, rfl, pP qq w (.int _)⟩
      | _ => cases e
    | find =>
      cases py with
      | str b =>
        cases hy.str
        cases e
        exact mt_find pins s σ H _ _ v us Q I rx rxs ⟨a, b, rfl, rfl, pP qq w (.int _)⟩
      | _ => cases e
  | _ => cases m <;> cases py <;> cases e
theorem de_tru {K : PySem.W.Frag} {F : Addr → Prop} {H : Hp} {v : V} {x : P} {b : Bool} (h : VRr K fa F H v x) (e : truth x = some b) : TruV K v H b := by
  cases x with
  | non =>
    cases h.non
    cases e
    rfl
  | bl c =>
    cases h.bl
    cases e
    rfl
  | int i =>
    cases h.int
    cases e
    rfl
  | str z =>
    cases h.str
    have e : (if small z.length = true then some ((z.length : Int) != 0) else none) = some b := e
    cases hm : small z.length with
    | false =>
      rw [hm] at e
      cases e
    | true =>
      rw [hm] at e
      cases e
      exact ⟨of_decide_eq_true hm, rfl⟩
  | lst xs =>
    obtain ⟨a, vs, rfl, ha, hr⟩ := h
    cases e
    exact .inl ⟨vs, SqL.of ha, by cases hr <;> rfl⟩
  | tup xs =>
    obtain ⟨a, vs, rfl, ha, hr⟩ := h.tup
    cases e
    exact .inr (.inl ⟨vs, SqT_of ha, by cases hr <;> rfl⟩)
  | _ => cases e
theorem kTup_of {K : PySem.W.Frag} {a : Addr} {vs : List V} (h : ∀ H' : Hp, SqT K H' a vs) : ∃ o, K.lookup a = some o ∧ o.cls = .type "tuple" := by
  rcases h (fun _ => none) with (h | ⟨_, h⟩) | ⟨o, _, _, h1, h2, _⟩
  · cases h
  · cases h
  · exact ⟨o, h1, h2⟩
theorem de_isi {K : PySem.W.Frag} {F : Addr → Prop} {H : Hp} {v : V} {x : P} {t : String} {b : Bool} (h : VRr K fa F H v x) (e : isT x t = some b) : ∃ T : String, TyX K H v (.type T) ∧ PySem.W.kitOne K (.type T) (.type t) = some b := by
  cases x with
  | non =>
    cases h.non
    exact ⟨_, .base .non, kit_ty e⟩
  | bl c =>
    cases h.bl
    exact ⟨_, .base (.bl c), kit_ty e⟩
  | int i =>
    cases h.int
    exact ⟨_, .base (.int i), kit_ty e⟩
  | str z =>
    cases h.str
    exact ⟨_, .base (.str z), kit_ty e⟩
  | lst xs =>
    obtain ⟨a, vs, rfl, ha, hr⟩ := h
    exact ⟨_, .base (.lst ha), kit_ty e⟩
  | tup xs =>
    obtain ⟨a, vs, rfl, ha, hr⟩ := h.tup
    rcases ha with ⟨_, ha⟩ | ha
    · exact ⟨_, .base (.tup ha), kit_ty e⟩
    · obtain ⟨o, h1, h2⟩ := kTup_of ha
      exact ⟨_, .kTuple h1 h2, kit_ty e⟩
  | _ => cases e
end
end DE
end

section
set_option Elab.async false
set_option linter.all false
set_option maxRecDepth 100000
set_option autoImplicit false
namespace DE
open PySem PySem.Spec L2
section
variable (K : PySem.W.Frag) (fa : Fa)
/-- a value that a name holds -/
def DV (F : Addr → Prop) (ρ : List Addr) (H : Hp) (v : V) : D → Prop
  | .p x => VR K fa F H v x
  | .box n => ∃ a, v = .ref a ∧ ρ[n]? = some a
  | _ => False
structure ERel (F : Addr → Prop) (ρ : List Addr) (H : Hp) (σ : L2.St) (env : Env) : Prop where
  len : σ.length = env.length
  val : ∀ (i : Nat) (d : D), env[i]? = some (.val d) → ∃ v, σ[i]? = some (some v) ∧ DV K fa F ρ H v d
  own : ∀ (i : Nat) (o : SO), env[i]? = some (.own o) → ∃ a, σ[i]? = some (some (.ref a)) ∧ SR K fa F H a o ∧ ¬ F a ∧ a ∉ ρ
  dist : ∀ (i j : Nat) (o o' : SO) (a : Addr), env[i]? = some (.own o) → env[j]? = some (.own o') → σ[i]? = some (some (.ref a)) → σ[j]? = some (some (.ref a)) → i = j
end
section
variable {K : PySem.W.Frag} {fa : Fa} {F F' F2 : Addr → Prop} {ρ ρ' ρ2 : List Addr} {H H' H2 H0 : Hp} {st : Store} {v : V} {x : P} {σ : L2.St} {env : Env}
theorem DV.dr {d : D} (h : DV K fa F ρ H v d) : DR K fa F ρ H H0 v d := by
  cases d with
  | p x => exact h
  | box n => exact h
  | _ => exact h.elim
theorem DV.mono (dis : ∀ a, a ∈ ρ → ¬ F a) (e : Ext F ρ H F' ρ' H') {d : D} (h : DV K fa F ρ H v d) : DV K fa F' ρ' H' v d := by
  cases d with
  | p x => exact VR.mono dis e h
  | box n =>
    obtain ⟨a, e1, h1⟩ := h
    exact ⟨a, e1, e.at h1⟩
  | _ => exact h.elim
theorem DV.sub (s : ∀ a, F a → F' a) {d : D} (h : DV K fa F ρ H v d) : DV K fa F' ρ H v d := by
  cases d with
  | p x => exact VR.sub s h
  | box n => exact h
  | _ => exact h.elim
theorem ERel.mono (w : Wok K fa F ρ H st) (e : Ext F ρ H F' ρ' H') (r : ERel K fa F ρ H σ env) : ERel K fa F' ρ' H' σ env :=
  ⟨r.len, fun i d h => let ⟨v, h1, h2⟩ := r.val i d h; ⟨v, h1, h2.mono w.dis e⟩,
    fun i o h => let ⟨a, h1, h2, h3, h4⟩ := r.own i o h; ⟨a, h1, h2.mono w.dis e h4, e.notF h3 h2.has, e.notin h4 h2.has⟩, r.dist⟩
/-- a new value at a name -/
theorem ERel.set (r : ERel K fa F ρ H σ env) (i : Nat) {d : D} (h : DV K fa F ρ H v d) : ERel K fa F ρ H (σ.set i (some v)) (env.set i (.val d)) := by
  have key : ∀ j o, (env.set i (.val d))[j]? = some (Sl.own o) → j ≠ i ∧ env[j]? = some (Sl.own o) := fun j o e => by
    by_cases hj : i = j
    · subst hj
      rw [List.getElem?_set] at e
      rw [if_pos rfl] at e
      split at e <;> cases e
    · rw [List.getElem?_set_ne hj] at e
      exact ⟨fun z => hj z.symm, e⟩
  refine ⟨by rw [List.length_set, List.length_set]; exact r.len, fun j d' e => ?_, fun j o e => ?_, fun j k o o' a e1 e2 e3 e4 => ?_⟩
  · by_cases hj : i = j
    · subst hj
      rw [List.getElem?_set, if_pos rfl] at e
      split at e
      · rename_i hl
        cases e
        exact ⟨v, by rw [List.getElem?_set, if_pos rfl, if_pos (by rw [r.len]; exact hl)], h⟩
      · cases e
    · rw [List.getElem?_set_ne hj] at e
      obtain ⟨u, h1, h2⟩ := r.val j d' e
      exact ⟨u, by rw [List.getElem?_set_ne hj]; exact h1, h2⟩
  · obtain ⟨hj, e⟩ := key j o e
    obtain ⟨a, h1, h2⟩ := r.own j o e
    exact ⟨a, by rw [List.getElem?_set_ne (fun z => hj z.symm)]; exact h1, h2⟩
  · obtain ⟨hj, e1⟩ := key j o e1
    obtain ⟨hk, e2⟩ := key k o' e2
    rw [List.getElem?_set_ne (fun z => hj z.symm)] at e3
    rw [List.getElem?_set_ne (fun z => hk z.symm)] at e4
    exact r.dist j k o o' a e1 e2 e3 e4
/-- a name's own thing -/
theorem ERel.setO (r : ERel K fa F ρ H σ env) (i : Nat) {a : Addr} {o : SO} (h : SR K fa F H a o) (hf : ¬ F a) (hr : a ∉ ρ) (hn : ∀ j o', j ≠ i → env[j]? = some (.own o') → σ[j]? ≠ some (some (.ref a))) :
    ERel K fa F ρ H (σ.set i (some (.ref a))) (env.set i (.own o)) := by
  refine ⟨by rw [List.length_set, List.length_set]; exact r.len, fun j d' e => ?_, fun j o' e => ?_, fun j k o1 o2 b e1 e2 e3 e4 => ?_⟩
  · by_cases hj : i = j
    · subst hj
      rw [List.getElem?_set, if_pos rfl] at e
      split at e <;> cases e
    · rw [List.getElem?_set_ne hj] at e
      obtain ⟨u, h1, h2⟩ := r.val j d' e
      exact ⟨u, by rw [List.getElem?_set_ne hj]; exact h1, h2⟩
  · by_cases hj : i = j
    · subst hj
      rw [List.getElem?_set, if_pos rfl] at e
      split at e
      · rename_i hl
        cases e
        exact ⟨a, by rw [List.getElem?_set, if_pos rfl, if_pos (by rw [r.len]; exact hl)], h, hf, hr⟩
      · cases e
    · rw [List.getElem?_set_ne hj] at e
      obtain ⟨b, h1, h2⟩ := r.own j o' e
      exact ⟨b, by rw [List.getElem?_set_ne hj]; exact h1, h2⟩
  · have at_ : ∀ j o1 b, (env.set i (.own o))[j]? = some (Sl.own o1) → (σ.set i (some (.ref a)))[j]? = some (some (V.ref b)) → (j = i ∧ b = a) ∨ (j ≠ i ∧ env[j]? = some (Sl.own o1) ∧ σ[j]? = some (some (V.ref b))) := fun j o1 b e1 e3 => by
      by_cases hj : i = j
      · subst hj
        rw [List.getElem?_set, if_pos rfl] at e3
        split at e3
        · cases e3
          exact .inl ⟨rfl, rfl⟩
        · cases e3
      · rw [List.getElem?_set_ne hj] at e1 e3
        exact .inr ⟨fun z => hj z.symm, e1, e3⟩
    rcases at_ j o1 b e1 e3 with ⟨z1, z2⟩ | ⟨z1, z2, z3⟩
    · rcases at_ k o2 b e2 e4 with ⟨y1, y2⟩ | ⟨y1, y2, y3⟩
      · rw [z1, y1]
      · rw [z2] at y3
        exact absurd y3 (hn k o2 y1 y2)
    · rcases at_ k o2 b e2 e4 with ⟨y1, y2⟩ | ⟨y1, y2, y3⟩
      · rw [y2] at z3
        exact absurd z3 (hn j o1 z1 z2)
      · exact r.dist j k o1 o2 b z2 y2 z3 y3
theorem ERel.un (r : ERel K fa F ρ H σ env) (i : Nat) (s' : Option V) : ERel K fa F ρ H (σ.set i s') (env.set i .un) := by
  have key : ∀ j (s : Sl), s ≠ .un → (env.set i .un)[j]? = some s → j ≠ i ∧ env[j]? = some s := fun j s hs e => by
    by_cases hj : i = j
    · subst hj
      rw [List.getElem?_set, if_pos rfl] at e
      split at e
      · cases e
        exact absurd rfl hs
      · cases e
    · rw [List.getElem?_set_ne hj] at e
      exact ⟨fun z => hj z.symm, e⟩
  refine ⟨by rw [List.length_set, List.length_set]; exact r.len, fun j d' e => ?_, fun j o e => ?_, fun j k o o' a e1 e2 e3 e4 => ?_⟩
  · obtain ⟨hj, e⟩ := key j _ (by intro z; cases z) e
    obtain ⟨u, h1, h2⟩ := r.val j d' e
    exact ⟨u, by rw [List.getElem?_set_ne (fun z => hj z.symm)]; exact h1, h2⟩
  · obtain ⟨hj, e⟩ := key j _ (by intro z; cases z) e
    obtain ⟨a, h1, h2⟩ := r.own j o e
    exact ⟨a, by rw [List.getElem?_set_ne (fun z => hj z.symm)]; exact h1, h2⟩
  · obtain ⟨hj, e1⟩ := key j _ (by intro z; cases z) e1
    obtain ⟨hk, e2⟩ := key k _ (by intro z; cases z) e2
    rw [List.getElem?_set_ne (fun z => hj z.symm)] at e3
    rw [List.getElem?_set_ne (fun z => hk z.symm)] at e4
    exact r.dist j k o o' a e1 e2 e3 e4
theorem ERel.wip (r : ERel K fa F ρ H σ env) : ∀ is : List Nat, ERel K fa F ρ H (wipe σ is) (wip env is)
  | [] => r
  | i :: is => (ERel.wip r is).un i none
/-- what was made is kept from now on -/
theorem ERel.fz (r : ERel K fa F ρ H σ env) {a : Addr} (hn : ∀ (j : Nat) (o' : SO), env[j]? = some (.own o') → σ[j]? ≠ some (some (.ref a))) : ERel K fa (addF F a) ρ H σ env :=
  ⟨r.len, fun i d h => let ⟨v, h1, h2⟩ := r.val i d h; ⟨v, h1, h2.sub fun _ h => .inl h⟩,
    fun i o h => let ⟨b, h1, h2, h3, h4⟩ := r.own i o h; ⟨b, h1, h2.sub fun _ h => .inl h, fun z => z.elim h3 (fun z => hn i o h (by rw [← z]; exact h1)), h4⟩, r.dist⟩
/-- an own thing stands in the heap, so a new address is none of it -/
theorem ERel.fresh (r : ERel K fa F ρ H σ env) {a : Addr} (h : nt H a = none) : ∀ (j : Nat) (o' : SO), env[j]? = some (.own o') → σ[j]? ≠ some (some (.ref a)) := fun j o' e z => by
  obtain ⟨b, h1, h2, _⟩ := r.own j o' e
  rw [z] at h1
  cases h1
  exact h2.has h
def Off (is : List Nat) (σ' σ : L2.St) : Prop := σ'.length = σ.length ∧ ∀ j, j ∉ is → σ'[j]? = σ[j]?
theorem wipe_get (σ : L2.St) : ∀ (is : List Nat) (j : Nat), (wipe σ is)[j]? = if j ∈ is then (if j < σ.length then some none else none) else σ[j]?
  | [], j => by simp [wipe]
  | i :: is, j => by
    show ((wipe σ is).set i none)[j]? = _
    by_cases h : i = j
    · subst h
      rw [List.getElem?_set, if_pos rfl, wipe_length]
      simp
    · rw [List.getElem?_set_ne h, wipe_get σ is j]
      simp [Ne.symm h]
theorem Off.wipe {is : List Nat} {σ' σ : L2.St} (h : Off is σ' σ) : L2.wipe σ' is = L2.wipe σ is := by
  apply List.ext_getElem?
  intro j
  rw [wipe_get, wipe_get, h.1]
  by_cases hj : j ∈ is
  · rw [if_pos hj, if_pos hj]
  · rw [if_neg hj, if_neg hj, h.2 j hj]
theorem Off.refl (is : List Nat) (σ : L2.St) : Off is σ σ := ⟨rfl, fun _ _ => rfl⟩
theorem Off.set (i : Nat) (σ : L2.St) (s : Option V) : Off [i] (σ.set i s) σ := ⟨List.length_set .., fun j hj => List.getElem?_set_ne (fun z => hj (by simp [z]))⟩
theorem Off.trans {is js : List Nat} {a b c : L2.St} (h : Off js c b) (h2 : Off is b a) : Off (is ++ js) c a := ⟨h.1.trans h2.1, fun j hj => by
  rw [List.mem_append, not_or] at hj
  rw [h.2 j hj.2, h2.2 j hj.1]⟩
end
def visB (sc : Scope) (x : Str) : Bool := match sc.names.lookup x with
  | some .local => true | some .cell => true | some .free => true | _ => false
def locB (sc : Scope) (fn : Str → Bool) (x : Str) : Bool := match sc.names.lookup x with
  | some .local => true | some .cell => fn x | _ => false
def glB (sc : Scope) (x : Str) : Bool := match sc.names.lookup x with
  | some .globalImplicit => true | _ => false
def okN (x : Str) : Bool := !(x == (Str.ofString "__debug__")) && !(x == (Str.ofString "__classdict__")) && !(decide (x = (Str.ofString "__name__")))
def chT (N : List Str) (sc : Scope) (fn : Str → Bool) : Tg → Expr → Bool
  | .one i, e => match e with
    | .Name x _ => decide (N[i]? = some x) && locB sc fn x
    | _ => false
  | .two a b, e => match e with
    | .Tuple [s, t] _ _ => chT N sc fn a s && chT N sc fn b t
    | _ => false
theorem vis_of {sc : Scope} {x : Str} (h : visB sc x = true) : Vis sc x := by
  unfold visB at h
  unfold Vis
  split at h <;> first | (rename_i q; rw [q]; simp) | cases h
theorem loc_of {sc : Scope} {fn : Str → Bool} {x : Str} (h : locB sc fn x = true) : L2.Loc sc x ∧ (fn x = true ∨ sc.names.lookup x = some .local) := by
  unfold locB at h
  unfold L2.Loc
  split at h
  · rename_i q
    exact ⟨.inl q, .inr q⟩
  · rename_i q
    exact ⟨.inr q, .inl h⟩
  · cases h
/-- what a target makes of a value -/
def gTv (K : PySem.W.Frag) (fa : Fa) (tg : Tg) : TG := fun v σ H Q => ∃ F ρ env d env', DV K fa F ρ H v d ∧ ERel K fa F ρ H σ env ∧ asgT tg d env = some env' ∧ ∀ σ', ERel K fa F ρ H σ' env' → Off tg.slots σ' σ → Q σ' H
theorem sG {fa : Fa} {X : Cx} (hc : X.calm = true) (hN : X.N.Nodup) : ∀ (tg : Tg) (e : Expr), chT X.N X.env.scope X.fn tg e = true → PG X e (gTv X.K fa tg)
  | .one i, e, h => by
    unfold chT at h
    split at h
    · rename_i x pos
      rw [Bool.and_eq_true] at h
      obtain ⟨h1, h2⟩ := loc_of h.2
      have g := pg_name (pos := pos) hN (of_decide_eq_true h.1) h1 h2
      refine ⟨fun pins s σ H v u Q I r q => g.run pins s σ H v u Q I r ?_⟩
      obtain ⟨F, ρ, env, d, env', hv, hr, ha, q⟩ := q
      refine q _ ?_ (Off.set i σ _)
      cases d with
      | p x =>
        cases ha
        exact hr.set i hv
      | box n =>
        cases ha
        exact hr.set i hv
      | _ => cases ha
    · cases h
  | .two a b, e, h => by
    unfold chT at h
    split at h
    · rename_i s t kk pos
      rw [Bool.and_eq_true] at h
      have ga := sG (fa := fa) hc hN a s h.1
      have gb := sG (fa := fa) hc hN b t h.2
      have ns : ∀ (tg : Tg) (e : Expr) (es : List Expr), chT X.N X.env.scope X.fn tg e = true → assignEach (e :: es) X.env = (false, assign e X.env) :: assignEach es X.env := fun tg e es hh => by
        cases e <;> first | rfl | (cases tg <;> cases hh)
      have e1 := ns a s [t] h.1
      have e2 := ns b t [] h.2
      have g := pg_tup (k := kk) (pos := pos) (n := 2) hc (pgs_cons ga (pgs_cons gb pgs_nil (by rw [e2] <;> rfl)) (by rw [e1] <;> rfl)) (by rw [e1, e2] <;> rfl) (by rw [e1, e2] <;> rfl)
      refine ⟨fun pins s σ H v u Q I r q => g.run pins s σ H v u Q I r ?_⟩
      obtain ⟨F, ρ, env, d, env', hv, hr, ha, q⟩ := q
      cases d with
      | p x =>
        cases x with
        | tup xs =>
          match xs, ha, hv with
          | [x, y], ha, hv =>
            obtain ⟨ad, vs, rfl, ht, hvs⟩ := VRr.tup (VR.r hv)
            cases hvs with
            | cons v1 r1 =>
              cases r1 with
              | cons v2 r2 =>
                cases r2
                rename_i v1' v2'
                have ha : (match asgT a (.p x) env with | some env1 => asgT b (.p y) env1 | none => none) = some env' := ha
                cases q1 : asgT a (.p x) env with
                | none =>
                  rw [q1] at ha
                  cases ha
                | some env1 =>
                  rw [q1] at ha
                  refine ⟨ad, _, rfl, SqT_of ht, rfl, _, _, rfl, ⟨F, ρ, env, .p x, env1, v1, hr, q1, fun σ1 r1 o1 => ?_⟩⟩
                  exact ⟨_, _, rfl, ⟨F, ρ, env1, .p y, env', v2, r1, ha, fun σ2 r2 o2 => ⟨rfl, q σ2 r2 (o2.trans o1)⟩⟩⟩
        | _ => cases ha
      | _ => cases ha
    · cases h
end DE
end

section
set_option Elab.async false
set_option linter.all false
set_option maxRecDepth 100000
set_option autoImplicit false
namespace DE
open PySem PySem.Spec L2

def Bf.name : Bf → Str
  | .len => (Str.ofString "len") | .abs => (Str.ofString "abs") | .int => (Str.ofString "int") | .max => (Str.ofString "max") | .min => (Str.ofString "min")
  | .tuple => (Str.ofString "tuple") | .list => (Str.ofString "list") | .all => (Str.ofString "all") | .any => (Str.ofString "any") | .str => (Str.ofString "str")
def Me.name : Me → Str
  | .join => (Str.ofString "join") | .split => (Str.ofString "split") | .count => (Str.ofString "count") | .find => (Str.ofString "find")
def tyNames : List String := ["int", "bool", "str", "tuple", "list"]
/-- the built-in names that a text may use: none of them is stored by the module -/
def freeNames : List Str := [(Str.ofString "len"), (Str.ofString "abs"), (Str.ofString "int"), (Str.ofString "max"), (Str.ofString "min"), (Str.ofString "tuple"), (Str.ofString "list"), (Str.ofString "all"), (Str.ofString "any"),
  (Str.ofString "range"), (Str.ofString "zip"), (Str.ofString "enumerate"), (Str.ofString "isinstance"), (Str.ofString "bool"), (Str.ofString "str"), (Str.ofString "sorted"), (Str.ofString "set"), (Str.ofString "ValueError")]
def notStar : Expr → Bool
  | .Starred .. => false
  | _ => true
/-- no call without arguments: what super() would be -/
def notSup : Expr → Bool
  | .Call .. => false
  | _ => true
def notSl : Expr → Bool
  | .Slice .. => false
  | _ => true
def ownOfT (N : List Str) (tg : Tg) : List (Str × Nat) := tg.slots.map fun i => (N.getD i (Str.ofString ""), i)
def isTupE : Expr → Bool
  | .Tuple .. => true
  | _ => false
def notSet : Expr → Bool
  | .Set .. => false
  | _ => true
/-- the names of constants, of defs -/
structure Nm where
  c : Nat → Str
  f : Nat → Option Str
  e : Nat → Option Str
  w : Nat → Option (Str × Bool) := fun _ => none
  l : Bool := false
def noP (p : Arguments) : Bool := match p with
  | ⟨[], [], none, [], [], none, []⟩ => true
  | _ => false
/-- a constant -/
def chK (nm : Nm) (a : IE) (sc : Scope) (e : Expr) : Bool := match a, e with
  | .g k, .Name x _ => decide (x = nm.c k) && glB sc x && okN x
  | .str i, .Constant (.str j) _ _ => decide (j = i)
  | _, _ => false
mutual
def chE (nm : Nm) (N : List Str) : IE → Scope → Expr → Bool
  | .v i, sc, e => match e with
    | .Name x _ => decide (N[i]? = some x) && visB sc x && okN x
    | _ => false
  | .g k, sc, e => match e with
    | .Name x _ => decide (x = nm.c k) && glB sc x && okN x
    | _ => false
  | .int i, sc, e => match e with
    | .Constant (.int j) _ _ => decide (j = i)
    | _ => false
  | .str i, sc, e => match e with
    | .Constant (.str j) _ _ => decide (j = i)
    | _ => false
  | .bl i, sc, e => match e with
    | .Constant (.bool j) _ _ => decide (j = i)
    | _ => false
  | .non, sc, e => match e with
    | .Constant .none _ _ => true
    | _ => false
  | .bin op a b, sc, e => match e with
    | .BinOp l o r _ => decide (o = op) && chE nm N a sc l && chE nm N b sc r
    | _ => false
  | .neg a, sc, e => match e with
    | .UnaryOp .USub l _ => chE nm N a sc l
    | _ => false
  | .no a, sc, e => match e with
    | .UnaryOp .Not l _ => chE nm N a sc l
    | _ => false
  | .and r, sc, e => match e with
    | .BoolOp .And vs _ => chL nm N r sc vs
    | _ => false
  | .or r, sc, e => match e with
    | .BoolOp .Or vs _ => chL nm N r sc vs
    | _ => false
  | .cmp op a b, sc, e => match e with
    | .Compare l [o] [r] _ => decide (o = op) && !(behindInMarks op r) && chE nm N a sc l && chE nm N b sc r
    | _ => false
  | .chain o1 o2 a b d, sc, e => match e with
    | .Compare l [p1, p2] [m, r] _ => decide (p1 = o1) && decide (p2 = o2) && !(lastMarks [o1, o2] [m, r]) && chE nm N a sc l && chE nm N b sc m && chE nm N d sc r
    | _ => false
  | .ife t a b, sc, e => match e with
    | .IfExp u l r _ => chE nm N t sc u && chE nm N a sc l && chE nm N b sc r
    | _ => false
  | .tup es, sc, e => match e with
    | .Tuple xs _ _ => chL nm N es sc xs
    | _ => false
  | .lst es, sc, e => match e with
    | .List xs _ => chL nm N es sc xs
    | _ => false
  | .call f es, sc, e => match e with
    | .Call (.Name x _) as [] _ => decide (nm.f f = some x) && glB sc x && okN x && chL nm N es sc as
    | _ => false
  | .bi f a es, sc, e => match e with
    | .Call (.Name x _) (y :: ys) [] _ => decide (x = f.name) && glB sc x && chE nm N a sc y && chL nm N es sc ys
    | _ => false
  | .meth m o a, sc, e => match e with
    | .Call (.Attribute ov name ap) [y] [] cp => decide (name = m.name) && (ap.endLine == cp.line) && notSup ov && chE nm N o sc ov && chE nm N a sc y
    | _ => false
  | .idx a b, sc, e => match e with
    | .Subscript l r _ => notSl r && chE nm N a sc l && chE nm N b sc r
    | _ => false
  | .slc a lo hi, sc, e => match e with
    | .Subscript l (.Slice p q none _) _ => chE nm N a sc l && chO nm N lo sc p && chO nm N hi sc q
    | _ => false
  | .rev a, sc, e => match e with
    | .Subscript l (.Slice none none (some (.UnaryOp .USub (.Constant (.int 1) _ _) _)) _) _ => chE nm N a sc l
    | _ => false
  | .comp elt tg it cond, sc, e => match e with
    | .ListComp el [⟨t, i, ifs, 0⟩] scope _ => blkC N sc scope (ownOfT N tg) && chT N (relS scope sc) (fun x => scope.names.lookup x == some .cell) tg t && chI nm N it sc t i && notSet i && chC nm N cond (relS scope sc) ifs && chE nm N elt (relS scope sc) el
    | _ => false
  | .isi a t, sc, e => match e with
    | .Call (.Name x _) [y, .Name z _] [] _ => decide (x = (Str.ofString "isinstance")) && glB sc x && tyNames.contains t && decide (z = Str.ofString t) && glB sc z && chE nm N a sc y
    | _ => false
  | .callV i fs es, sc, e => match e with
    | .Call (.Name x _) (y :: ys) [] _ => decide (N[i]? = some x) && visB sc x && okN x && fs.all (fun f => (nm.f f).isSome) && chL nm N es sc (y :: ys)
    | _ => false
  | .dget gt ks vs a, sc, e => match e with
    | .Subscript (.Dict [some (.Constant (.str j1) _ _), some (.Constant (.str j2) _ _)] [e1, e2] _) r _ => match ks, vs with
      | [k1, k2], .cons i1 (.cons i2 .nil) => !gt && (decide (j1 = k1) && (decide (j2 = k2) && (decide (k1 ≠ k2) && (chK nm i1 sc e1 && (chK nm i2 sc e2 && (notSl r && chE nm N a sc r))))))
      | _, _ => false
    | .Call (.Attribute (.Dict [some (.Constant (.str j1) _ _), some (.Constant (.str j2) _ _)] [e1, e2] _) name ap) [r] [] cp => match ks, vs with
      | [k1, k2], .cons i1 (.cons i2 .nil) => gt && (decide (j1 = k1) && (decide (j2 = k2) && (decide (k1 ≠ k2) && (chK nm i1 sc e1 && (chK nm i2 sc e2 && (decide (name = Str.ofString "get") && ((ap.endLine == cp.line) && chE nm N a sc r)))))))
      | _, _ => false
    | _ => false
  | .word f get a, sc, e => match e with
    | .Call (.Name x _) [.Lambda params body scope _] [] _ => nm.l && decide (nm.w f = some (x, get)) && glB sc x && okN x && noP params && LamX.lamSB sc scope && chE { nm with l := false } N a scope body
    | _ => false
  | .sort k a, sc, e => match e with
    | .Call (.Name x _) [y] [] _ => decide (x = (Str.ofString "sorted")) && (glB sc x && match k with
      | 0 => match y with
        | .Call (.Name x2 _) [z] [] _ => decide (x2 = (Str.ofString "set")) && (glB sc x2 && chE nm N a sc z)
        | _ => false
      | k => decide (k ≤ 2) && chE nm N a sc y)
    | _ => false
def chL (nm : Nm) (N : List Str) : IL → Scope → List Expr → Bool
  | .nil, sc, es => es.isEmpty
  | .cons a r, sc, es => match es with
    | e :: es => chE nm N a sc e && chL nm N r sc es
    | [] => false
def chO (nm : Nm) (N : List Str) : IO → Scope → Option Expr → Bool
  | .non, sc, e => e.isNone
  | .som a, sc, e => match e with
    | some e => chE nm N a sc e
    | none => false
def chC (nm : Nm) (N : List Str) : IO → Scope → List Expr → Bool
  | .non, sc, e => e.isEmpty
  | .som a, sc, e => match e with
    | [e] => chE nm N a sc e
    | _ => false
def chI (nm : Nm) (N : List Str) : IT → Scope → Expr → Expr → Bool
  | .seq a, sc, t, e => chE nm N a sc e
  | .rng1 a, sc, t, e => match e with
    | .Call (.Name x _) [y] [] _ => decide (x = (Str.ofString "range")) && glB sc x && chE nm N a sc y
    | _ => false
  | .rng2 a b, sc, t, e => match e with
    | .Call (.Name x _) [y, z] [] _ => decide (x = (Str.ofString "range")) && glB sc x && chE nm N a sc y && chE nm N b sc z
    | _ => false
  | .zip a b, sc, t, e => match e with
    | .Call (.Name x _) [y, z] [] _ => decide (x = (Str.ofString "zip")) && glB sc x && isTupE t && chE nm N a sc y && chE nm N b sc z
    | _ => false
  | .enum a, sc, t, e => match e with
    | .Call (.Name x _) [y] [] _ => decide (x = (Str.ofString "enumerate")) && glB sc x && isTupE t && chE nm N a sc y
    | _ => false
end
theorem chE_star {nm : Nm} {N : List Str} {ie : IE} {sc : Scope} {e : Expr} (h : chE nm N ie sc e = true) : ∀ (es : List Expr) (env : PySem.Env), starEach (e :: es) env = (false, eval e env) :: starEach es env := by
  intro es env
  cases e <;> first | rfl | (cases ie <;> cases h)
theorem chE_sw {nm : Nm} {N : List Str} {ie : IE} {sc : Scope} {e : Expr} (h : chE nm N ie sc e = true) (hn : ∀ a b c d, ie ≠ .comp a b c d) : ∀ (t : Option Expr) (l : Nat) (env : PySem.Env), swapsWith e t l env = pure false := by
  intro t l env
  cases e <;> first | rfl | (cases ie <;> first | cases h | exact absurd rfl (hn _ _ _ _))
theorem chL_star {nm : Nm} {N : List Str} : ∀ {r : IL} {sc : Scope} {es : List Expr}, chL nm N r sc es = true → ∀ (env : PySem.Env) (pos : Pos), (backTo pos (starEach es env)).any (·.1) = false
  | .nil, sc, [], _ => fun _ _ => rfl
  | .nil, sc, _ :: _, h => by cases h
  | .cons a r, sc, [], h => by cases h
  | .cons a r, sc, e :: es, h => fun env pos => by
    have h : (chE nm N a sc e && chL nm N r sc es) = true := h
    rw [Bool.and_eq_true] at h
    rw [chE_star h.1]
    exact chL_star h.2 env pos

section
variable (K : PySem.W.Frag) (fa : Fa)
/-- J walks the items xs, whatever becomes of the heap, as long as what stands at S stands -/
structure ItW (S : List Addr) (F : Addr → Prop) (H : Hp) (J : It) (xs : List P) : Prop where
  go : ∀ (H' : Hp) (i : Nat), (∀ a, a ∈ S → H' a = H a) → i < xs.length → J.go i H'
  stop : ∀ (H' : Hp) (i : Nat), (∀ a, a ∈ S → H' a = H a) → xs.length ≤ i → J.stop i H'
  yld : ∀ (F' : Addr → Prop) (ρ' : List Addr) (H' : Hp) (st : Store) (i : Nat) (x : P) (v : V) (H2 : Hp), (∀ a, a ∈ S → H' a = H a) → (∀ a, F a → F' a) → (∀ a o, F a → H a = some o → (∀ ps, o ≠ .tbl ps) → H' a = some o) →
    Wok K fa F' ρ' H' st → xs[i]? = some x → J.yld i H' v H2 → ∃ F2, Ext F' ρ' H' F2 ρ' H2 ∧ Wok K fa F2 ρ' H2 st ∧ VR K fa F2 H2 v x ∧ ∀ a, F2 a → F' a ∨ nt H' a = none
end
section
variable {K : PySem.W.Frag} {fa : Fa} {F F' : Addr → Prop} {ρ : List Addr} {H H' H0 : Hp} {st : Store}
theorem VR.mono3 (s : ∀ a, F a → F' a) (kp : ∀ a o, F a → H a = some o → (∀ ps, o ≠ .tbl ps) → H' a = some o) {v : V} {x : P} (h : VR K fa F H v x) : VR K fa F' H' v x := h.mono2 s kp
theorem itw_lst {S : List Addr} {a : Addr} {vs : List V} {xs : List P} (hs : ∀ H' : Hp, (∀ b, b ∈ S → H' b = H b) → SqL K H' a vs) (hr : VRs K fa F H vs xs) : ItW K fa S F H (Itl K a) xs := by
  have len := hr.length
  refine ⟨fun H' i s hi => ?_, fun H' i s hi => ⟨vs, hs H' s, by rw [len]; exact hi⟩, fun F' ρ' H' st i x v H2 s sub kp w hx y => ?_⟩
  · have hi' : i < vs.length := by rw [len]; exact hi
    exact ⟨vs, vs[i], hs H' s, by rw [List.getElem?_eq_getElem hi']⟩
  · obtain ⟨rfl, y⟩ := y
    obtain ⟨v', h1, h2⟩ := hr.get hx
    have e := y vs (hs _ s)
    rw [h1] at e
    cases e
    exact ⟨F', .refl _ _ _, w, h2.mono3 sub kp, fun _ h => .inl h⟩
theorem itw_tup {S : List Addr} {a : Addr} {vs : List V} {xs : List P} (hs : ∀ H' : Hp, (∀ b, b ∈ S → H' b = H b) → SqT K H' a vs) (hr : VRs K fa F H vs xs) : ItW K fa S F H (Itt K a) xs := by
  have len := hr.length
  refine ⟨fun H' i s hi => ?_, fun H' i s hi => ⟨vs, hs H' s, by rw [len]; exact hi⟩, fun F' ρ' H' st i x v H2 s sub kp w hx y => ?_⟩
  · have hi' : i < vs.length := by rw [len]; exact hi
    exact ⟨vs, vs[i], hs H' s, by rw [List.getElem?_eq_getElem hi']⟩
  · obtain ⟨rfl, y⟩ := y
    obtain ⟨v', h1, h2⟩ := hr.get hx
    have e := y vs (hs _ s)
    rw [h1] at e
    cases e
    exact ⟨F', .refl _ _ _, w, h2.mono3 sub kp, fun _ h => .inl h⟩
theorem itw_str (z : Str) : ItW K fa [] F H (Its z) (z.cps.toList.map fun c => P.str ⟨#[c]⟩) := by
  have len : (z.cps.toList.map fun c => P.str ⟨#[c]⟩).length = z.cps.size := by simp
  refine ⟨fun H' i s hi => by rw [len] at hi; exact hi, fun H' i s hi => by rw [len] at hi; exact hi, fun F' ρ' H' st i x v H2 s sub kp w hx y => ?_⟩
  obtain ⟨rfl, c, h1, rfl⟩ := y
  rw [List.getElem?_map, Array.getElem?_toList, h1] at hx
  cases hx
  exact ⟨F', .refl _ _ _, w, .str _, fun _ h => .inl h⟩
theorem itw_rng (a b : Int) : ItW K fa [] F H (Itr a (b - a).toNat) (rngP a b) := by
  have len : (rngP a b).length = (b - a).toNat := by simp [rngP]
  refine ⟨fun H' i s hi => by rw [len] at hi; exact hi, fun H' i s hi => by rw [len] at hi; exact hi, fun F' ρ' H' st i x v H2 s sub kp w hx y => ?_⟩
  obtain ⟨rfl, rfl⟩ := y
  have hi : i < (b - a).toNat := by
    rw [← len]
    exact (List.getElem?_eq_some_iff.mp hx).1
  have e : (rngP a b)[i]? = some (P.int (a + (i : Nat))) := by
    unfold rngP
    rw [List.getElem?_map, List.getElem?_range hi]
    rfl
  rw [e] at hx
  cases hx
  exact ⟨F', .refl _ _ _, w, .int _, fun _ h => .inl h⟩
/-- a new pair -/
theorem new_pair {v u : V} {x y : P} {T : Addr} (w : Wok K fa F ρ H st) (hT : H T = none) (h1 : VR K fa F H v x) (h2 : VR K fa F H u y) :
    ∃ F2, Ext F ρ H F2 ρ (upd H T (.tup [v, u])) ∧ Wok K fa F2 ρ (upd H T (.tup [v, u])) st ∧ VR K fa F2 (upd H T (.tup [v, u])) (.ref T) (.tup [x, y]) ∧ ∀ a, F2 a → F a ∨ nt H a = none := by
  have e := (ext_new (F := F) (ρ := ρ) (o := .tup [v, u]) hT)
  have hh : nt (upd H T (.tup [v, u])) T ≠ none := nt_ne upd_same (fun _ z => nomatch z)
  refine ⟨addF F T, e.fz (nt_of hT), (w.new hT).fz (w.free (nt_of hT)) hh, VR.tup (.inl ⟨.inr rfl, upd_same⟩) ?_, fun a h => h.elim .inl fun h => .inr (by rw [h]; exact nt_of hT)⟩
  exact ((VRs.cons h1 (.cons h2 .nil)).mono w.dis e).sub fun _ h => .inl h
theorem zip_get {α β : Type} {xs : List α} {ys : List β} {i : Nat} {p : α × β} (h : (xs.zip ys)[i]? = some p) : xs[i]? = some p.1 ∧ ys[i]? = some p.2 := by
  rw [List.getElem?_zip_eq_some] at h
  exact h
theorem itw_zipL {S : List Addr} {a b : Addr} {vs ws : List V} {xs ys : List P} (hs : ∀ H' : Hp, (∀ c, c ∈ S → H' c = H c) → SqL K H' a vs ∧ SqL K H' b ws) (hr : VRs K fa F H vs xs) (hr2 : VRs K fa F H ws ys) : ItW K fa S F H (Itz K a b) ((xs.zip ys).map fun p => P.tup [p.1, p.2]) := by
  have len := hr.length
  have len2 := hr2.length
  have hl : ((xs.zip ys).map fun p => P.tup [p.1, p.2]).length = min xs.length ys.length := by simp
  refine ⟨fun H' i s hi => ?_, fun H' i s hi => ⟨vs, ws, (hs H' s).1, (hs H' s).2, ?_⟩, fun F' ρ' H' st i x v H2 s sub kp w hx y => ?_⟩
  · rw [hl] at hi
    have h1 : i < vs.length := by omega
    have h2 : i < ws.length := by omega
    exact ⟨vs, ws, vs[i], ws[i], (hs H' s).1, (hs H' s).2, by rw [List.getElem?_eq_getElem h1], by rw [List.getElem?_eq_getElem h2]⟩
  · rw [hl] at hi
    omega
  · obtain ⟨T, v1, v2, rfl, hT, rfl, y1, y2⟩ := y
    rw [List.getElem?_map] at hx
    cases q : (xs.zip ys)[i]? with
    | none =>
      rw [q] at hx
      cases hx
    | some p =>
      rw [q] at hx
      cases hx
      obtain ⟨q1, q2⟩ := zip_get q
      obtain ⟨v1', g1, g2⟩ := hr.get q1
      obtain ⟨v2', g3, g4⟩ := hr2.get q2
      have e1 := y1 vs ((hs _ s).1)
      have e2 := y2 ws ((hs _ s).2)
      rw [g1] at e1
      rw [g3] at e2
      cases e1
      cases e2
      exact new_pair w hT (g2.mono3 sub kp) (g4.mono3 sub kp)
theorem itw_zipT {S : List Addr} {a b : Addr} {vs ws : List V} {xs ys : List P} (hs : ∀ H' : Hp, (∀ c, c ∈ S → H' c = H c) → SqT K H' a vs ∧ SqT K H' b ws) (hr : VRs K fa F H vs xs) (hr2 : VRs K fa F H ws ys) : ItW K fa S F H (RZ.ItzT K a b) ((xs.zip ys).map fun p => P.tup [p.1, p.2]) := by
  have len := hr.length
  have len2 := hr2.length
  have hl : ((xs.zip ys).map fun p => P.tup [p.1, p.2]).length = min xs.length ys.length := by simp
  refine ⟨fun H' i s hi => ?_, fun H' i s hi => ⟨vs, ws, (hs H' s).1, (hs H' s).2, ?_⟩, fun F' ρ' H' st i x v H2 s sub kp w hx y => ?_⟩
  · rw [hl] at hi
    have h1 : i < vs.length := by omega
    have h2 : i < ws.length := by omega
    exact ⟨vs, ws, vs[i], ws[i], (hs H' s).1, (hs H' s).2, by rw [List.getElem?_eq_getElem h1], by rw [List.getElem?_eq_getElem h2]⟩
  · rw [hl] at hi
    omega
  · obtain ⟨T, v1, v2, rfl, hT, rfl, y1, y2⟩ := y
    rw [List.getElem?_map] at hx
    cases q : (xs.zip ys)[i]? with
    | none =>
      rw [q] at hx
      cases hx
    | some p =>
      rw [q] at hx
      cases hx
      obtain ⟨q1, q2⟩ := zip_get q
      obtain ⟨v1', g1, g2⟩ := hr.get q1
      obtain ⟨v2', g3, g4⟩ := hr2.get q2
      have e1 := y1 vs (hs _ s).1
      have e2 := y2 ws (hs _ s).2
      rw [g1] at e1
      rw [g3] at e2
      cases e1
      cases e2
      exact new_pair w hT (g2.mono3 sub kp) (g4.mono3 sub kp)
theorem itw_enum {S : List Addr} {a : Addr} {vs : List V} {xs : List P} (hs : ∀ H' : Hp, (∀ c, c ∈ S → H' c = H c) → SqL K H' a vs) (hr : VRs K fa F H vs xs) : ItW K fa S F H (Ite K a) (xs.zipIdx.map fun p => P.tup [.int p.2, p.1]) := by
  have len := hr.length
  have hl : (xs.zipIdx.map fun p => P.tup [.int p.2, p.1]).length = xs.length := by simp
  refine ⟨fun H' i s hi => ?_, fun H' i s hi => ⟨vs, hs H' s, by rw [hl] at hi; omega⟩, fun F' ρ' H' st i x v H2 s sub kp w hx y => ?_⟩
  · rw [hl] at hi
    have h1 : i < vs.length := by omega
    exact ⟨vs, vs[i], hs H' s, by rw [List.getElem?_eq_getElem h1]⟩
  · obtain ⟨T, v1, rfl, hT, rfl, y1⟩ := y
    rw [List.getElem?_map, List.getElem?_zipIdx] at hx
    cases q : xs[i]? with
    | none =>
      rw [q] at hx
      cases hx
    | some p =>
      rw [q] at hx
      cases hx
      obtain ⟨v1', g1, g2⟩ := hr.get q
      have e1 := y1 vs (hs _ s)
      rw [g1] at e1
      cases e1
      have r := new_pair (v := V.int (i : Nat)) (x := P.int (i : Nat)) w hT (.int _) (g2.mono3 sub kp)
      simpa using r
end
end DE
end

section
set_option Elab.async false
set_option linter.all false
set_option maxRecDepth 100000
set_option autoImplicit false
namespace DE
open PySem PySem.Spec L2

def DVs (K : PySem.W.Frag) (fa : Fa) (F : Addr → Prop) (ρ : List Addr) (H : Hp) : List V → List D → Prop
  | [], [] => True
  | v :: vs, d :: ds => DV K fa F ρ H v d ∧ DVs K fa F ρ H vs ds
  | _, _ => False
/-- a def's promise, by the evaluator -/
def spK (K : PySem.W.Frag) (fa : Fa) (cl : List D → Store → R D) : Sp := fun vs H Q E => ∃ F ρ ds st, Wok K fa F ρ H st ∧ DVs K fa F ρ H vs ds ∧ PostD K fa (fun cls d _ H' => E cls d H') F ρ H [] (cl ds st) Q
/-- what try: a() / except: the error's names makes of the lambda's reading -/
def TTw (fa : Fa) (get : Bool) (wd : Nat → Option Str) : (XK → Hp → VK → Prop) → Hp → VK → Prop := fun tl H Q =>
  tl (fun cls d H' => ∃ k z, cls = .ref (fa k) ∧ d = none ∧ wd k = some z ∧ ∀ H'' : Hp, (∀ a o, H' a = some o → H'' a = some o) → Q (.str z) H'') H (fun v H' => Q (if get then v else .str (Str.ofString "")) H')
/-- the def that calls a lambda and tells its error -/
structure WordOk (P : Program) (w : World) (K : PySem.W.Frag) (mg : Str → Option Value) (base : Heap) (fa : Fa) (x : Str) (get : Bool) (wd : Nat → Option Str) (pg : Arguments) (bg : List Stmt) (sg : Scope) (dV kV doc pm cdv ct oc : Value) (an od : Option Addr) (osl : Array (Option Value)) (Ng : List Str) (a : Str) (g : Addr) : Prop where
  hm : mg x = some (.ref g)
  hk : PySem.W.keepIn K (.ref g) = true
  lk : K.lookup g = some ⟨oc, od, .func (PySem.W.fnOf x x pg bg sg dV kV doc pm an cdv ct), osl⟩
  hcg : PySem.W.codeIn K cdv x = true
  hb : L2.Binds K (PySem.W.fnOf x x pg bg sg dV kV doc pm an cdv ct) [a] []
  Sg : FnScope Ng [a] sg
  hNg : Ng[0]? = some a
  hva : Vis sg a
  hd : (a == ("__debug__" : Str)) = false
  hcd : (a == ("__classdict__" : Str)) = false
  hG : ∀ (X : Cx) (q : Str), X.prog = P → X.w = w → X.K = K → X.mg = mg → X.base = base → DL.GivesTo X Ng x sg g cdv bg a q (TTw fa get wd)
/-- try: return e / except StripError as _law_error: return names(_law_error) -/
def trySt (xn : Str) (q : Nat → Pos) (e : Expr) : Stmt := .Try [.Return (some e) (q 8)] [.ExceptHandler (some (.Name "StripError" (q 0))) (some "_law_error") [.Return (some (.Call (.Name xn (q 1)) [.Name "_law_error" (q 2)] [] (q 3))) (q 4)] (q 5)] [] [] (q 9)
/-- what it makes of the reading of e -/
def TryOk (P : Program) (w : World) (K : PySem.W.Frag) (mg : Str → Option Value) (base : Heap) (fa : Fa) (xn : Str) (wd : Nat → Option Str) : Prop :=
  ∀ (X : Cx) (i : Nat) (q : Nat → Pos) (e : Expr) (te : WX → TE) (WO : WX), X.prog = P → X.w = w → X.K = K → X.mg = mg → X.base = base → X.stack = X.env :: X.outer → X.env.frame = some X.env.locals → X.N.Nodup → X.N[i]? = some ("_law_error" : Str) →
    X.env.scope.names.lookup ("_law_error" : Str) = some .local → Gl X xn → Gl X "StripError" → Room 1 X.A → L2N.Takes X WO →
    (∀ W W' : WX, (∀ c d σ H, W c d σ H → W' c d σ H) → ∀ σ H Q, te W σ H Q → te W' σ H Q) →
    (∀ (W : WX) (pn : List (Addr × Obj)) (xe : Value → Shared → Prop), L2N.Takes (X.tr pn xe) W → PassesOwn (model X.prog X.w) X.A X.env xe → PE (X.tr pn xe) e (te W)) →
    PS X (trySt xn q e) (fun D σ H => te (fun cls d σ' H' => ∃ k z, cls = .ref (fa k) ∧ d = none ∧ wd k = some z ∧ ∀ H'' : Hp, (∀ a o, H' a = some o → H'' a = some o) → D.rt (.str z) H'') σ H fun v H1 => D.rt v H1)
/-- what a text's names stand for -/
structure Fx (P : Program) (w : World) (K : PySem.W.Frag) (mg : Str → Option Value) (base : Heap) (nm : Nm) (fa : Fa) (gc : Nat → Option DE.P) (T : Nat → Option Df) (k : Nat) : Prop where
  fn : ∀ f x, nm.f f = some x → ∃ fd ps, mg x = some (.ref (fa f)) ∧ PySem.W.keepIn K (.ref (fa f)) = true ∧ Binds K fd ps [] ∧ FnOk P w K mg base (L2N.CX P w) (3 * k) (fa f) fd ps (spK K fa (callK T gc k f))
  con : ∀ x p, gc x = some p → ∃ v u, mg (nm.c x) = some u ∧ RelV v u ∧ ∀ F H, VR K fa F H v p
  free : ∀ x, x ∈ freeNames → mg x = none
  exc : ∀ c x, nm.e c = some x → mg x = some (.ref (fa c)) ∧ PySem.W.keepIn K (.ref (fa c)) = true ∧ (∃ B newId initId bmB, ExcBaseFacts B newId initId bmB ∧ PySem.W.excIn K (fa c) bmB newId = true) ∧ ∀ X : Cx, X.K = K → Raises X (.ref (fa c))
  wrd : ∀ f x get, nm.w f = some (x, get) → ∃ pg bg sg dV kV doc pm cdv ct oc an od osl Ng a g, WordOk P w K mg base fa x get (wdT T f) pg bg sg dV kV doc pm cdv ct oc an od osl Ng a g
  tok : ∀ f x get, nm.w f = some (x, get) → TryOk P w K mg base fa "_law_names" (wdT T f)
/-- where a lambda may be made -/
structure LamOk (fa : Fa) (k : Nat) (X : Cx) : Prop where
  room : Room (3 * k + 2) X.A
  tb : ∃ c P, LamX.TabB X.base X.mg c P ∧ X.env.code = .ref c ∧ (P, X.env.qual ++ "<lambda>") ∈ fa.tb ∧ ∀ p ∈ fa.tb, p.1 = P → p.2 = X.env.qual ++ "<lambda>"
structure Cok (nm : Nm) (fa : Fa) (gc : Nat → Option DE.P) (T : Nat → Option Df) (k : Nat) (X : Cx) : Prop where
  calm : X.calm = true
  nd : X.N.Nodup
  room : Room (3 * k) X.A
  fx : Fx X.prog X.w X.K X.mg X.base nm fa gc T k
  lam : nm.l = true → LamOk fa k X
theorem Fx.l {P : Program} {w : World} {K : PySem.W.Frag} {mg : Str → Option Value} {base : Heap} {nm : Nm} {fa : Fa} {gc : Nat → Option DE.P} {T : Nat → Option Df} {k : Nat} (o : Fx P w K mg base nm fa gc T k) (b : Bool) : Fx P w K mg base { nm with l := b } fa gc T k := ⟨o.fn, o.con, o.free, o.exc, o.wrd, o.tok⟩
theorem Cok.blk {nm : Nm} {fa : Fa} {gc : Nat → Option DE.P} {T : Nat → Option Df} {k : Nat} {X : Cx} (o : Cok nm fa gc T k X) (s : Shared) (H : Hp) (scope : Scope) (cl : List (Str × Addr)) (C : Addr) (fp : List Addr) : Cok nm fa gc T k (X.blk s H scope (compEnvC scope cl C X.env) fp) :=
  ⟨o.calm, o.nd, o.room, o.fx, fun h => ⟨(o.lam h).room, let ⟨c, P, h1, h2, h3, h4⟩ := (o.lam h).tb; ⟨c, P, h1, h2, h3, h4⟩⟩⟩
theorem okN_of {x : Str} (h : okN x = true) : (x == ("__debug__" : Str)) = false ∧ (x == ("__classdict__" : Str)) = false ∧ x ≠ "__name__" := by
  unfold okN at h
  simp only [Bool.and_eq_true, Bool.not_eq_true', decide_eq_false_iff_not] at h
  exact ⟨h.1.1, h.1.2, h.2⟩
theorem gl_of {X : Cx} {x : Str} (h : glB X.env.scope x = true) : Gl X x := by
  unfold glB at h
  unfold Gl
  show X.env.scope.names.lookup x = _
  split at h
  · rename_i q
    exact q
  · cases h

def newsOf : List V → List D → List V
  | v :: vs, .new _ :: ds => v :: newsOf vs ds
  | _ :: vs, _ :: ds => newsOf vs ds
  | _, _ => []
/-- the new ones stand apart -/
def Apart : List V → List D → Prop
  | v :: vs, .new _ :: ds => v ∉ newsOf vs ds ∧ Apart vs ds
  | _ :: vs, _ :: ds => Apart vs ds
  | _, _ => True
abbrev relA (K : PySem.W.Frag) (fa : Fa) : Rel (List V) (List D) := fun F ρ H H0 v d => DRs K fa F ρ H H0 v d ∧ Apart v d
theorem anti_A {K : PySem.W.Frag} {fa : Fa} : Anti (relA K fa) := fun _ _ _ _ _ _ _ _ _ _ _ e h => ⟨h.1.anti e, h.2⟩
section
variable {K : PySem.W.Frag} {fa : Fa} {W : WX} {c : Cf} {F : Addr → Prop} {ρ : List Addr} {H : Hp} {σ : L2.St} {env : Env} {st : Store} {Q : VK}
def tEv (K : PySem.W.Frag) (fa : Fa) (W : WX) (c : Cf) (ie : IE) : TE := fun σ H Q => ∃ F ρ env st, Wok K fa F ρ H st ∧ ERel K fa F ρ H σ env ∧ PostD K fa W F ρ H σ (ev c ie env st) Q
def tEvL (K : PySem.W.Frag) (fa : Fa) (W : WX) (c : Cf) (il : IL) : TA := fun σ H Q => ∃ F ρ env st, Wok K fa F ρ H st ∧ ERel K fa F ρ H σ env ∧ Post K fa (relA K fa) W F ρ H σ (evL c il env st) Q
def tEvT (K : PySem.W.Frag) (fa : Fa) (W : WX) (c : Cf) (f : Env → Store → R Bool) : TT := fun σ H Q => ∃ F ρ env st, Wok K fa F ρ H st ∧ ERel K fa F ρ H σ env ∧ Post K fa relE W F ρ H σ (f env st) Q
def tEvF (K : PySem.W.Frag) (fa : Fa) (W : WX) (f : Env → Store → R D) : TE := fun σ H Q => ∃ F ρ env st, Wok K fa F ρ H st ∧ ERel K fa F ρ H σ env ∧ PostD K fa W F ρ H σ (f env st) Q
/-- a first part, then the rest -/
theorem ev0 {F0 : Addr → Prop} {ρ0 : List Addr} {H0 : Hp} {f : Env → Store → R D} {β α : Type} {rel : Rel β α} {g : D → Store → R α} {Q : β → Hp → Prop} (w : Wok K fa F ρ H st) (er : ERel K fa F ρ H σ env) (e0 : Ext F0 ρ0 H0 F ρ H) (h : Post K fa rel W F0 ρ0 H0 σ ((f env st).bind g) Q) {Q1 : VK}
    (k : ∀ x H1 F1 ρ1 d st1, Ext F ρ H F1 ρ1 H1 → Wok K fa F1 ρ1 H1 st1 → DR K fa F1 ρ1 H1 H x d → Post K fa rel W F0 ρ0 H0 σ (g d st1) Q → Q1 x H1) : tEvF K fa W f σ H Q1 :=
  ⟨F, ρ, env, st, w, er, (h.step0 (rel1 := relD K fa) e0).imp fun b H1 ⟨F1, ρ1, a, st1, e1, w1, r1, p1⟩ => k b H1 F1 ρ1 a st1 e1 w1 r1 p1⟩
theorem evl0 {F0 : Addr → Prop} {ρ0 : List Addr} {H0 : Hp} {il : IL} {β α : Type} {rel : Rel β α} {g : List D → Store → R α} {Q : β → Hp → Prop} (w : Wok K fa F ρ H st) (er : ERel K fa F ρ H σ env) (e0 : Ext F0 ρ0 H0 F ρ H) (h : Post K fa rel W F0 ρ0 H0 σ ((evL c il env st).bind g) Q) {Q1 : List V → Hp → Prop}
    (k : ∀ x H1 F1 ρ1 d st1, Ext F ρ H F1 ρ1 H1 → Wok K fa F1 ρ1 H1 st1 → DRs K fa F1 ρ1 H1 H x d → Apart x d → Post K fa rel W F0 ρ0 H0 σ (g d st1) Q → Q1 x H1) : tEvL K fa W c il σ H Q1 :=
  ⟨F, ρ, env, st, w, er, (h.step0 (rel1 := relA K fa) e0).imp fun b H1 ⟨F1, ρ1, a, st1, e1, w1, r1, p1⟩ => k b H1 F1 ρ1 a st1 e1 w1 r1.1 r1.2 p1⟩
theorem ev1 {f : Env → Store → R D} {β α : Type} {rel : Rel β α} {g : D → Store → R α} {Q : β → Hp → Prop} (an : Anti rel) (w : Wok K fa F ρ H st) (er : ERel K fa F ρ H σ env) (h : Post K fa rel W F ρ H σ ((f env st).bind g) Q) {Q1 : VK}
    (k : ∀ x H1 F1 ρ1 d st1, Ext F ρ H F1 ρ1 H1 → Wok K fa F1 ρ1 H1 st1 → ERel K fa F1 ρ1 H1 σ env → DR K fa F1 ρ1 H1 H x d → Post K fa rel W F1 ρ1 H1 σ (g d st1) Q → Q1 x H1) : tEvF K fa W f σ H Q1 :=
  ev0 w er (.refl _ _ _) h fun x H1 F1 ρ1 d st1 e1 w1 r1 p1 => k x H1 F1 ρ1 d st1 e1 w1 (er.mono w e1) r1 (p1.rebase an e1)
theorem evl1 {il : IL} {β α : Type} {rel : Rel β α} {g : List D → Store → R α} {Q : β → Hp → Prop} (an : Anti rel) (w : Wok K fa F ρ H st) (er : ERel K fa F ρ H σ env) (h : Post K fa rel W F ρ H σ ((evL c il env st).bind g) Q) {Q1 : List V → Hp → Prop}
    (k : ∀ x H1 F1 ρ1 d st1, Ext F ρ H F1 ρ1 H1 → Wok K fa F1 ρ1 H1 st1 → ERel K fa F1 ρ1 H1 σ env → DRs K fa F1 ρ1 H1 H x d → Apart x d → Post K fa rel W F1 ρ1 H1 σ (g d st1) Q → Q1 x H1) : tEvL K fa W c il σ H Q1 :=
  evl0 w er (.refl _ _ _) h fun x H1 F1 ρ1 d st1 e1 w1 r1 a1 p1 => k x H1 F1 ρ1 d st1 e1 w1 (er.mono w e1) r1 a1 (p1.rebase an e1)
theorem cvD {o : Option DE.P} (h : PostD K fa W F ρ H σ (mkD o st) Q) : PostD K fa W0 F ρ H [] (mkD o st) Q := by
  cases o with
  | none => exact h
  | some x => exact h
theorem cvP {o : Option DE.P} (h : PostD K fa W F ρ H σ (mkP o st) Q) : PostD K fa W0 F ρ H [] (mkP o st) Q := by
  cases o with
  | none => exact h
  | some x => exact h
theorem cvB {o : Option Bool} (h : PostD K fa W F ρ H σ (mkB o st) Q) : PostD K fa W0 F ρ H [] (mkB o st) Q := by
  cases o with
  | none => exact h
  | some x => exact h
theorem rd2_of {β α : Type} {rel : Rel β α} {Q : β → Hp → Prop} {a b : D} {f : DE.P → DE.P → R D} {Q : VK} (h : PostD K fa W F ρ H σ (rd2 a b st f) Q) : ∃ x y, a.rd st = some x ∧ b.rd st = some y ∧ PostD K fa W F ρ H σ (f x y) Q := by
  unfold rd2 at h
  cases q1 : a.rd st with
  | none =>
    rw [q1] at h
    exact h.elim
  | some x =>
    cases q2 : b.rd st with
    | none =>
      rw [q1, q2] at h
      exact h.elim
    | some y =>
      rw [q1, q2] at h
      exact ⟨x, y, rfl, rfl, h⟩
/-- two parts, read -/
theorem ev2 {fa1 fb : Env → Store → R D} {f : DE.P → DE.P → Store → R D} (w : Wok K fa F ρ H st) (er : ERel K fa F ρ H σ env) (h : PostD K fa W F ρ H σ ((fa1 env st).bind fun x st => (fb env st).bind fun y st => rd2 x y st fun x y => f x y st) Q) :
    tEvF K fa W fa1 σ H fun x H1 => tEvF K fa W fb σ H1 fun y H2 => ∃ F ρ st px py, Wok K fa F ρ H2 st ∧ VRr K fa F H2 x px ∧ VRr K fa F H2 y py ∧ PostD K fa W F ρ H2 σ (f px py st) Q :=
  ev1 anti_D w er h fun x H1 F1 ρ1 d st1 e1 w1 er1 r1 p1 => ev1 anti_D w1 er1 p1 fun y H2 F2 ρ2 d2 st2 e2 w2 er2 r2 p2 => by
    obtain ⟨px, py, q1, q2, p3⟩ := rd2_of (rel := relD K fa) (Q := Q) p2
    exact ⟨F2, ρ2, st2, px, py, w2, (r1.mono w1.dis e2).rd w2 q1, r2.rd w2 q2, p3⟩
theorem truth_of {d : D} {v : V} {H0 : Hp} {Q : Bool → Hp → Prop} (w : Wok K fa F ρ H st) (r : DR K fa F ρ H H0 v d) (h : Post K fa relE W F ρ H σ (rdB d st) Q) : ∃ b, TruV K v H b ∧ Q b H := by
  unfold rdB at h
  cases q : d.rd st with
  | none =>
    rw [q] at h
    exact h.elim
  | some x =>
    rw [q] at h
    have h : Post K fa relE W F ρ H σ (R.opt (truth x) st) Q := h
    cases q2 : truth x with
    | none =>
      rw [q2] at h
      exact h.elim
    | some b =>
      rw [q2] at h
      exact ⟨b, de_tru (r.rd w q) q2, Post.ok (rel := relE) h w rfl⟩
theorem news_fresh {F : Addr → Prop} {ρ : List Addr} {H H0 : Hp} : ∀ {vs : List V} {ds : List D}, DRs K fa F ρ H H0 vs ds → ∀ v ∈ newsOf vs ds, ∃ a, v = .ref a ∧ nt H0 a = none
  | [], [], _, v, hv => by cases hv
  | u :: us, d :: ds, h, v, hv => by
    cases d with
    | new xs =>
      have hv : v ∈ u :: newsOf us ds := hv
      rcases List.mem_cons.mp hv with e | hv
      · obtain ⟨a, ws, e1, h1, h2, h3, h4, h5⟩ := h.1
        exact ⟨a, by rw [e, e1], h5⟩
      · exact news_fresh h.2 v hv
    | p x => exact news_fresh h.2 v hv
    | bor x => exact news_fresh h.2 v hv
    | box x => exact news_fresh h.2 v hv
  | [], _ :: _, h, _, _ => h.elim
  | _ :: _, [], h, _, _ => h.elim
theorem DR.addF {F : Addr → Prop} {ρ : List Addr} {H H0 : Hp} {v : V} {d : D} {a : Addr} (hn : ∀ xs, d = .new xs → v ≠ .ref a) (h : DR K fa F ρ H H0 v d) : DR K fa (addF F a) ρ H H0 v d := by
  cases d with
  | p x => exact VR.sub (fun _ h => .inl h) h
  | new xs =>
    obtain ⟨b, ws, e1, h1, h2, h3, h4, h5⟩ := h
    exact ⟨b, ws, e1, h1, h2.sub fun _ h => .inl h, fun z => z.elim h3 fun z => hn xs rfl (by rw [e1, z]), h4, h5⟩
  | bor o =>
    obtain ⟨b, e1, h1, h2⟩ := h
    exact ⟨b, e1, h1.sub fun _ h => .inl h, h2⟩
  | box n => exact h
theorem DRs.addF {F : Addr → Prop} {ρ : List Addr} {H H0 : Hp} {a : Addr} : ∀ {vs : List V} {ds : List D}, V.ref a ∉ newsOf vs ds → DRs K fa F ρ H H0 vs ds → DRs K fa (addF F a) ρ H H0 vs ds
  | [], [], _, _ => True.intro
  | u :: us, d :: ds, hn, h => by
    cases d with
    | new xs =>
      have hn : V.ref a ∉ u :: newsOf us ds := hn
      rw [List.mem_cons, not_or] at hn
      exact ⟨h.1.addF fun _ _ e => hn.1 e.symm, DRs.addF hn.2 h.2⟩
    | p x => exact ⟨h.1.addF (fun _ e => by cases e), DRs.addF hn h.2⟩
    | bor x => exact ⟨h.1.addF (fun _ e => by cases e), DRs.addF hn h.2⟩
    | box x => exact ⟨h.1.addF (fun _ e => by cases e), DRs.addF hn h.2⟩
  | [], _ :: _, _, h => h.elim
  | _ :: _, [], _, h => h.elim
/-- kept as items -/
theorem keeps_ok {F0 : Addr → Prop} {ρ0 ρ : List Addr} {H0 H : Hp} {st : Store} : ∀ {vs : List V} {ds : List D} {xs : List DE.P} {F : Addr → Prop}, Wok K fa F ρ H st → Ext F0 ρ0 H0 F ρ H → DRs K fa F ρ H H0 vs ds → Apart vs ds → keeps ds = some xs →
    ∃ F', Ext F0 ρ0 H0 F' ρ H ∧ Wok K fa F' ρ H st ∧ VRs K fa F' H vs xs ∧ ∀ a, F a → F' a
  | [], [], xs, F, w, e, _, _, hk => by
    cases hk
    exact ⟨F, e, w, .nil, fun _ h => h⟩
  | v :: vs, d :: ds, xs, F, w, e, h, ap, hk => by
    unfold keeps at hk
    cases q1 : d.keep with
    | none =>
      rw [q1] at hk
      cases hk
    | some x =>
      cases q2 : keeps ds with
      | none =>
        rw [q1, q2] at hk
        cases hk
      | some ys =>
        rw [q1, q2] at hk
        cases hk
        cases d with
        | p y =>
          cases q1
          obtain ⟨F', e', w', r', s'⟩ := keeps_ok w e h.2 ap q2
          exact ⟨F', e', w', .cons (VR.sub s' h.1) r', s'⟩
        | new zs =>
          cases q1
          obtain ⟨a, ws, e1, h1, h2, h3, h4, h5⟩ := h.1
          have hh := nt_lst h1
          subst e1
          obtain ⟨F', e', w', r', s'⟩ := keeps_ok (F := DE.addF F a) (w.fz h4 hh) (e.fz h5) (DRs.addF ap.1 h.2) ap.2 q2
          exact ⟨F', e', w', .cons (.lst (s' a (.inr rfl)) h1 (h2.sub fun b hb => s' b (.inl hb))) r', fun b hb => s' b (.inl hb)⟩
        | bor o => cases q1
        | box n => cases q1
  | [], _ :: _, _, _, _, _, h, _, _ => h.elim
  | _ :: _, [], _, _, _, _, h, _, _ => h.elim
/-- given to a def -/
theorem args_ok {F0 : Addr → Prop} {ρ0 ρ : List Addr} {H0 H : Hp} {st : Store} : ∀ {vs : List V} {ds xs : List D} {F : Addr → Prop}, Wok K fa F ρ H st → Ext F0 ρ0 H0 F ρ H → DRs K fa F ρ H H0 vs ds → Apart vs ds → argsD ds = some xs →
    ∃ F', Ext F0 ρ0 H0 F' ρ H ∧ Wok K fa F' ρ H st ∧ DVs K fa F' ρ H vs xs ∧ ∀ a, F a → F' a
  | [], [], xs, F, w, e, _, _, hk => by
    cases hk
    exact ⟨F, e, w, True.intro, fun _ h => h⟩
  | v :: vs, d :: ds, xs, F, w, e, h, ap, hk => by
    unfold argsD at hk
    cases q1 : d.arg with
    | none =>
      rw [q1] at hk
      cases hk
    | some x =>
      cases q2 : argsD ds with
      | none =>
        rw [q1, q2] at hk
        cases hk
      | some ys =>
        rw [q1, q2] at hk
        cases hk
        cases d with
        | p y =>
          cases q1
          obtain ⟨F', e', w', r', s'⟩ := args_ok w e h.2 ap q2
          exact ⟨F', e', w', ⟨VR.sub s' h.1, r'⟩, s'⟩
        | new zs =>
          cases q1
          obtain ⟨a, ws, e1, h1, h2, h3, h4, h5⟩ := h.1
          have hh := nt_lst h1
          subst e1
          obtain ⟨F', e', w', r', s'⟩ := args_ok (F := DE.addF F a) (w.fz h4 hh) (e.fz h5) (DRs.addF ap.1 h.2) ap.2 q2
          exact ⟨F', e', w', ⟨VR.lst (s' a (.inr rfl)) h1 (h2.sub fun b hb => s' b (.inl hb)), r'⟩, fun b hb => s' b (.inl hb)⟩
        | bor o => cases q1
        | box n =>
          cases q1
          obtain ⟨F', e', w', r', s'⟩ := args_ok w e h.2 ap q2
          exact ⟨F', e', w', ⟨h.1, r'⟩, s'⟩
  | [], _ :: _, _, _, _, _, h, _, _ => h.elim
  | _ :: _, [], _, _, _, _, h, _, _ => h.elim
/-- read -/
theorem rds_ok {F : Addr → Prop} {ρ : List Addr} {H0 H : Hp} {st : Store} : ∀ {vs : List V} {ds : List D} {xs : List DE.P}, Wok K fa F ρ H st → DRs K fa F ρ H H0 vs ds → rds st ds = some xs → VRrs K fa F H vs xs
  | [], [], xs, w, _, hk => by
    cases hk
    exact .nil
  | v :: vs, d :: ds, xs, w, h, hk => by
    unfold rds at hk
    cases q1 : d.rd st with
    | none =>
      rw [q1] at hk
      cases hk
    | some x =>
      cases q2 : rds st ds with
      | none =>
        rw [q1, q2] at hk
        cases hk
      | some ys =>
        rw [q1, q2] at hk
        cases hk
        exact .cons (h.1.rd w q1) (rds_ok w h.2 q2)
  | [], _ :: _, _, _, h, _ => h.elim
  | _ :: _, [], _, _, h, _ => h.elim
end
end DE
end

section
set_option Elab.async false
set_option linter.all false
set_option maxRecDepth 100000
set_option autoImplicit false
namespace DE
open PySem PySem.Spec L2
section
variable {X : Cx} {e e1 e2 e3 : Expr} {es : List Expr} {pos : Pos} {fa : Fa} {W : WX} {c : Cf} {a b d : IE} {il : IL}
theorem pe_of {t t' : TE} (h : PE X e t) (i : ∀ σ H Q, t' σ H Q → t σ H Q) : PE X e t' := ⟨fun pins s σ H Q I q => h.run pins s σ H Q I (i σ H Q q)⟩
theorem pa_of {t t' : TA} (h : PA X es t) (i : ∀ σ H Q, t' σ H Q → t σ H Q) : PA X es t' := ⟨fun po pins s σ H Q I q => h.run po pins s σ H Q I (i σ H Q q)⟩
theorem pt_of {t t' : TT} (h : PT X e t) (i : ∀ σ H Q, t' σ H Q → t σ H Q) : PT X e t' := ⟨fun pins s σ H Q I q => h.run pins s σ H Q I (i σ H Q q)⟩
theorem c_val {v : V} {x : DE.P} (h : PE X e (tC v)) (he : ∀ env st, ev c a env st = .ok (.p x) st) (hv : ∀ F H, VR X.K fa F H v x) : PE X e (tEv X.K fa W c a) := pe_of h fun σ H Q ⟨F, ρ, env, st, w, er, p⟩ => by
  rw [he] at p
  exact pP p w (hv F H)
theorem c_var {i : Nat} {x : Str} (hN : X.N[i]? = some x) (hv : Vis X.env.scope x) (hd : (x == ("__debug__" : Str)) = false) (hcd : (x == ("__classdict__" : Str)) = false) : PE X (.Name x pos) (tEv X.K fa W c (.v i)) := pe_of (pe_var hN hv hd hcd) fun σ H Q ⟨F, ρ, env, st, w, er, p⟩ => by
  have p : PostD X.K fa W F ρ H σ (match env[i]? with | some (.val d) => .ok d st | some (.own o) => .ok (.bor o) st | _ => .bad) Q := p
  cases q : env[i]? with
  | none =>
    rw [q] at p
    exact p.elim
  | some sl =>
    rw [q] at p
    cases sl with
    | un => exact p.elim
    | val d =>
      obtain ⟨v, h1, h2⟩ := er.val i d q
      exact ⟨v, h1, Post.ok (rel := relD X.K fa) p w h2.dr⟩
    | own so =>
      obtain ⟨ad, h1, h2, h3, h4⟩ := er.own i so q
      exact ⟨_, h1, Post.ok (rel := relD X.K fa) p w ⟨ad, rfl, h2, h4⟩⟩
theorem imp1 {f : Env → Store → R D} {σ : L2.St} {H : Hp} {Q Q' : VK} {K : PySem.W.Frag} (h : tEvF K fa W f σ H Q) (i : ∀ v H', Q v H' → Q' v H') : tEvF K fa W f σ H Q' := by
  obtain ⟨F, ρ, env, st, w, er, p⟩ := h
  exact ⟨F, ρ, env, st, w, er, p.imp i⟩
theorem c_bin {op : Operator} (ha : PE X e1 (tEv X.K fa W c a)) (hb : PE X e2 (tEv X.K fa W c b)) : PE X (.BinOp e1 op e2 pos) (tEv X.K fa W c (.bin op a b)) := pe_of (pe_op (de_bin (fa := fa) op) ha hb) fun σ H Q ⟨F, ρ, env, st, w, er, p⟩ =>
  imp1 (ev2 (fa1 := ev c a) (fb := ev c b) (f := fun x y st => mkD (opBin op x y) st) w er p) fun x H1 h1 => imp1 h1 fun y H2 ⟨F, ρ, st, px, py, w, hx, hy, p⟩ => ⟨F, ρ, st, px, py, w, hx, hy, cvD p⟩
theorem c_cmp {op : CmpOp} (hu : X.A.units + 64 < cLine) (hm : behindInMarks op e2 = false) (ha : PE X e1 (tEv X.K fa W c a)) (hb : PE X e2 (tEv X.K fa W c b)) : PE X (.Compare e1 [op] [e2] pos) (tEv X.K fa W c (.cmp op a b)) := pe_of (pe_cmpR (de_cmp (fa := fa) hu op) ha hb hm) fun σ H Q ⟨F, ρ, env, st, w, er, p⟩ =>
  imp1 (ev2 (fa1 := ev c a) (fb := ev c b) (f := fun x y st => mkB (opCmp op x y) st) w er p) fun x H1 h1 => imp1 h1 fun y H2 ⟨F, ρ, st, px, py, w, hx, hy, p⟩ => ⟨F, ρ, st, px, py, w, hx, hy, cvB p⟩
theorem c_idx (hs : PlainIx e2) (ha : PE X e1 (tEv X.K fa W c a)) (hb : PE X e2 (tEv X.K fa W c b)) : PE X (.Subscript e1 e2 pos) (tEv X.K fa W c (.idx a b)) := pe_of (pe_ix (de_ix (fa := fa)) ha hb hs) fun σ H Q ⟨F, ρ, env, st, w, er, p⟩ =>
  imp1 (ev2 (fa1 := ev c a) (fb := ev c b) (f := fun x y st => mkP (opIdx x y) st) w er p) fun x H1 h1 => imp1 h1 fun y H2 ⟨F, ρ, st, px, py, w, hx, hy, p⟩ => ⟨F, ρ, st, px, py, w, hx, hy, cvP p⟩
theorem un_negB : UnR X (unaryOp .USub) (fun x H Q => ∃ b, x = .bl b ∧ Q (.int (-b2i b)) H) := by
  intro pins s σ H x v Q I rx h
  obtain ⟨b, rfl, q⟩ := h
  cases rx
  unfold unaryOp
  refine wpAny_holding ?_
  refine wpAny_bind (m := callSpecial? (.bool b) (Str.ofString "__neg__")) (wpAny_callSpecial?_slot (name := Str.ofString "__neg__") (T := "bool") rfl F.slot_bool_neg
    (wpAny_call_entry F.slot_bool_neg (show s.TypeIs (.bool b) "bool" from rfl) F.entry_int_neg ?_ (F.args_int_neg_1 _)))
  show wpAny _ _ (do ret (← mkInt (-b2i b))) _ _ s
  exact wpAny_ret_mkInt (wpAny_pure ⟨.int (-b2i b), H, I.tok _, ⟨_, rfl⟩, q⟩)
def rNeg : V → Hp → VK → Prop := fun x H Q => (∃ i, x = .int i ∧ Q (.int (-i)) H) ∨ ∃ b, x = .bl b ∧ Q (.int (-b2i b)) H
theorem un_neg2 : UnR X (unaryOp .USub) rNeg := by
  intro pins s σ H x v Q I rx h
  rcases h with h | h
  · exact un_neg pins s σ H x v Q I rx h
  · exact un_negB pins s σ H x v Q I rx h
theorem c_neg (ha : PE X e1 (tEv X.K fa W c a)) : PE X (.UnaryOp .USub e1 pos) (tEv X.K fa W c (.neg a)) := pe_of (pe_un un_neg2 ha) fun σ H Q ⟨F, ρ, env, st, w, er, p⟩ =>
  ev1 (f := ev c a) (g := fun x st => match x.rd st with | some (.int i) => .ok (.p (.int (-i))) st | some (.bl b) => .ok (.p (.int (-b2i b))) st | _ => .bad) anti_D w er p fun x H1 F1 ρ1 d st1 _ w1 er1 r1 p1 => by
    cases q : d.rd st1 with
    | none =>
      simp only [q] at p1
      exact p1.elim
    | some y =>
      simp only [q] at p1
      cases y with
      | int i =>
        cases (r1.rd w1 q).int
        exact .inl ⟨i, rfl, pP p1 w1 (.int _)⟩
      | bl i =>
        cases (r1.rd w1 q).bl
        exact .inr ⟨i, rfl, pP p1 w1 (.int _)⟩
      | _ => exact p1.elim
theorem c_no (ha : PE X e1 (tEv X.K fa W c a)) : PE X (.UnaryOp .Not e1 pos) (tEv X.K fa W c (.no a)) := pe_of (pe_notT ha) fun σ H Q ⟨F, ρ, env, st, w, er, p⟩ =>
  ev1 (f := ev c a) (g := fun d st => (rdB d st).bind fun b st => .ok (.p (.bl (!b))) st) anti_D w er p fun x H1 F1 ρ1 d st1 _ w1 er1 r1 p1 => by
    have p2 : Post X.K fa relE W F1 ρ1 H1 σ (rdB d st1) (fun b H' => Q (.bl (!b)) H') := by
      cases q : rdB d st1 with
      | bad =>
        simp only [q] at p1
        exact p1.elim
      | exc kk xx ss =>
        simp only [q] at p1
        exact p1
      | ok b ss =>
        simp only [q] at p1
        intro b' F' ρ' H' e' w' r'
        cases (show b' = b from r')
        exact p1 _ F' ρ' H' e' w' (VR.bl _)
    exact truth_of w1 r1 p2
theorem c_ife {f1 f2 f3 : Env → Store → R D} (ht : PT X e1 (tEvT X.K fa W c fun env st => evT c a env st)) (ha : PE X e2 (tEv X.K fa W c b)) (hb : PE X e3 (tEv X.K fa W c d)) : PE X (.IfExp e1 e2 e3 pos) (tEv X.K fa W c (.ife a b d)) := pe_of (pe_ifExp ht ha hb) fun σ H Q ⟨F, ρ, env, st, w, er, p⟩ => by
  have p : PostD X.K fa W F ρ H σ ((ev c a env st).bind fun k st => (rdB k st).bind fun k st => if k then ev c b env st else ev c d env st) Q := p
  have p' : PostD X.K fa W F ρ H σ ((evT c a env st).bind fun k st => if k then ev c b env st else ev c d env st) Q := by
    unfold evT
    cases q : ev c a env st with
    | ok x s1 => simpa [q, R.bind] using p
    | exc kk xx ss => simpa [q, R.bind] using p
    | bad => simpa [q, R.bind] using p
  refine ⟨F, ρ, env, st, w, er, (p'.step (rel1 := relE) anti_D).imp fun k H1 ⟨F1, ρ1, k', st1, e1, w1, r1, p1⟩ => ?_⟩
  cases (show k = k' from r1)
  cases k with
  | true => exact iteT ⟨F1, ρ1, env, st1, w1, er.mono w e1, p1⟩
  | false => exact iteF ⟨F1, ρ1, env, st1, w1, er.mono w e1, p1⟩
theorem c_tup {kk : Nat} (h : PA X es (tEvL X.K fa W c il)) : PE X (.Tuple es kk pos) (tEv X.K fa W c (.tup il)) := pe_of (pe_tup h) fun σ H Q ⟨F, ρ, env, st, w, er, p⟩ =>
  evl0 w er (.refl _ _ _) p fun vs H1 F1 ρ1 ds st1 e1 w1 r1 ap1 p1 => by
    cases q : keeps ds with
    | none =>
      simp only [q] at p1
      exact p1.elim
    | some xs =>
      simp only [q] at p1
      cases hm : small xs.length with
      | false =>
        simp only [hm] at p1
        exact p1.elim
      | true =>
        simp only [hm] at p1
        obtain ⟨F', e', w', r', s'⟩ := keeps_ok w1 e1 r1 ap1 q
        exact ⟨by rw [r'.length]; exact of_decide_eq_true hm, pTup (p1.rebase anti_D e') w' r'⟩
theorem c_lst (h : PA X es (tEvL X.K fa W c il)) : PE X (.List es pos) (tEv X.K fa W c (.lst il)) := pe_of (pe_lst h) fun σ H Q ⟨F, ρ, env, st, w, er, p⟩ =>
  evl0 w er (.refl _ _ _) p fun vs H1 F1 ρ1 ds st1 e1 w1 r1 ap1 p1 => by
    cases q : keeps ds with
    | none =>
      simp only [q] at p1
      exact p1.elim
    | some xs =>
      simp only [q] at p1
      cases hm : small xs.length with
      | false =>
        simp only [hm] at p1
        exact p1.elim
      | true =>
        simp only [hm] at p1
        obtain ⟨F', e', w', r', s'⟩ := keeps_ok w1 e1 r1 ap1 q
        exact ⟨by rw [r'.length]; exact of_decide_eq_true hm, pNew (p1.rebase anti_D e') w' r'⟩
theorem c_nil : PA X [] (tEvL X.K fa W c .nil) := pa_of pa_nil fun σ H Q ⟨F, ρ, env, st, w, er, p⟩ => Post.ok (rel := relA X.K fa) p w ⟨True.intro, True.intro⟩
theorem c_cons (ha : PE X e (tEv X.K fa W c a)) (hr : PA X es (tEvL X.K fa W c il)) (hs : starEach (e :: es) X.env = (false, eval e X.env) :: starEach es X.env) : PA X (e :: es) (tEvL X.K fa W c (.cons a il)) := pa_of (pa_cons ha hr hs) fun σ H Q ⟨F, ρ, env, st, w, er, p⟩ => by
  have p : Post X.K fa (relA X.K fa) W F ρ H σ ((ev c a env st).bind fun d st => (evL c il env st).bind fun ds st => .ok (d :: ds) st) Q := p
  refine ev0 w er (.refl _ _ _) p fun v H1 F1 ρ1 d st1 e1 w1 r1 p1 => ?_
  refine evl0 w1 (er.mono w e1) e1 p1 fun vs H2 F2 ρ2 ds st2 e2 w2 r2 a2 p2 => ?_
  refine p2 (v :: vs) F2 ρ2 H2 (e1.trans e2) w2 ⟨⟨r1.mono w1.dis e2, r2.anti e1⟩, ?_⟩
  cases d with
  | new xs =>
    obtain ⟨b, ws, z1, h1, h2, h3, h4, h5⟩ := r1
    refine ⟨fun hm => ?_, a2⟩
    obtain ⟨b', z2, z3⟩ := news_fresh r2 v hm
    rw [z1] at z2
    cases z2
    exact nt_abs z3 h1 (fun _ z => nomatch z)
  | p x => exact a2
  | bor x => exact a2
  | box x => exact a2
end
end DE
end

section
set_option Elab.async false
set_option linter.all false
set_option maxRecDepth 100000
set_option autoImplicit false
namespace DE
open PySem PySem.Spec L2
section
variable {X : Cx} {e e1 e2 e3 : Expr} {es : List Expr} {pos p : Pos} {fa : Fa} {W : WX} {c : Cf} {a b d : IE} {il : IL}
/-- a wish at one slot list is a wish for all -/
theorem post_at {K : PySem.W.Frag} {F : Addr → Prop} {ρ : List Addr} {H : Hp} {σ : L2.St} {r : R D} {Q : VK} (h : PostD K fa W F ρ H σ r Q) : PostD K fa (fun cls d _ H' => W cls d σ H') F ρ H [] r Q := by
  cases r with
  | ok a s => exact h
  | exc k x s => exact h
  | bad => exact h
theorem c_call {T : Nat → Option Df} {gc : Nat → Option DE.P} {nm : Nm} {k f : Nat} {x : Str} (o : Cok nm fa gc T k X) (tk : L2N.Takes X W) (hf : nm.f f = some x) (hg : Gl X x) (hdb : (x == ("__debug__" : Str)) = false)
    (ha : PA X es (tEvL X.K fa W ⟨callK T gc k, gc, wdT T⟩ il)) (hst : ∀ e r, es = e :: r → starEach (e :: r) X.env = (false, eval e X.env) :: starEach r X.env) (hpl : ∀ e r, es = e :: r → (backTo pos (starEach r X.env)).any (·.1) = false) (h0 : es = [] → il = .nil) :
    PE X (.Call (.Name x p) es [] pos) (tEv X.K fa W ⟨callK T gc k, gc, wdT T⟩ (.call f il)) := by
  obtain ⟨fd, ps, h1, h2, h3, h4⟩ := o.fx.fn f x hf
  have rd : ∀ σ H Q, tEv X.K fa W ⟨callK T gc k, gc, wdT T⟩ (.call f il) σ H Q → tCallS (spK X.K fa (callK T gc k f)) (WE W) (tEvL X.K fa W ⟨callK T gc k, gc, wdT T⟩ il) σ H Q := fun σ H Q ⟨F, ρ, env, st, w, er, p⟩ =>
    evl0 w er (.refl _ _ _) p fun vs H1 F1 ρ1 ds st1 e1 w1 r1 ap1 p1 => by
      cases q : argsD ds with
      | none =>
        simp only [q] at p1
        exact p1.elim
      | some xs =>
        simp only [q] at p1
        obtain ⟨F', e', w', r', s'⟩ := args_ok w1 e1 r1 ap1 q
        exact ⟨F', ρ1, xs, st1, w', r', post_at (p1.rebase anti_D e')⟩
  cases es with
  | nil =>
    refine ⟨fun pins s σ H Q I h => ?_⟩
    refine wpAny_Call_Name_kw (ld_glob I hg h1 ?_ hdb)
    cases h0 rfl
    obtain ⟨F, ρ, env, st, w, er, q⟩ := h
    refine PySem.W.callWith_K0 I.kIn h2 ?_
    exact run_fnS (us := []) (vs := []) h4 o.room h3 (L2N.passAt tk σ) I .nil ⟨F, ρ, [], st, w, True.intro, post_at q⟩
  | cons e r =>
    exact pe_of (pe_callS h4 o.room hg h1 h2 h3 (L2N.passAt tk) ha hdb (hst e r rfl) (hpl e r rfl)) rd
/-- a def in a slot -/
theorem c_callV {T : Nat → Option Df} {gc : Nat → Option DE.P} {nm : Nm} {k i : Nat} {fs : List Nat} {x : Str} (o : Cok nm fa gc T k X) (tk : L2N.Takes X W) (hN : X.N[i]? = some x) (hv : Vis X.env.scope x) (hdb : (x == ("__debug__" : Str)) = false) (hcd : (x == ("__classdict__" : Str)) = false)
    (hfs : fs.all (fun f => (nm.f f).isSome) = true) (ha : PA X (e :: es) (tEvL X.K fa W ⟨callK T gc k, gc, wdT T⟩ il)) (hst : starEach (e :: es) X.env = (false, eval e X.env) :: starEach es X.env) (hpl : (backTo pos (starEach es X.env)).any (·.1) = false) :
    PE X (.Call (.Name x p) (e :: es) [] pos) (tEv X.K fa W ⟨callK T gc k, gc, wdT T⟩ (.callV i fs il)) := by
  refine ⟨fun pins s σ H Q I h => ?_⟩
  obtain ⟨F, ρ, env, st, w, er, q⟩ := h
  have q : PostD X.K fa W F ρ H σ (match env[i]? with
    | some (.val (.p (.fn f))) => if fs.contains f then (evL ⟨callK T gc k, gc, wdT T⟩ il env st).bind fun ds st => match argsD ds with
        | some as => callK T gc k f as st
        | none => .bad
      else .bad
    | _ => .bad) Q := q
  cases hq : env[i]? with
  | none =>
    rw [hq] at q
    exact q.elim
  | some sl =>
    cases sl with
    | un =>
      rw [hq] at q
      exact q.elim
    | own oo =>
      rw [hq] at q
      exact q.elim
    | val d =>
      cases d with
      | new xs =>
        rw [hq] at q
        exact q.elim
      | bor xs =>
        rw [hq] at q
        exact q.elim
      | box xs =>
        rw [hq] at q
        exact q.elim
      | p y =>
        cases y with
        | fn f =>
          simp only [hq] at q
          obtain ⟨v, e1, hv2⟩ := er.val i _ hq
          have hv2 : VR X.K fa F H v (.fn f) := hv2
          cases hv2
          cases hc : fs.contains f with
          | false =>
            simp only [hc] at q
            exact q.elim
          | true =>
            simp only [hc, if_true] at q
            have hm : (nm.f f).isSome = true := List.all_eq_true.mp hfs f (List.contains_iff_mem.mp hc)
            obtain ⟨xf, hxf⟩ := Option.isSome_iff_exists.mp hm
            obtain ⟨fd, ps, h1, h2, h3, h4⟩ := o.fx.fn f xf hxf
            refine wpAny_Call_Name_kw (thn ((pe_var (pos := p) hN hv hdb hcd).run pins s σ H (fun v H1 => v = .ref (fa f) ∧ H1 = H) I ⟨.ref (fa f), e1, rfl, rfl⟩) fun u s1 ⟨v, H1, I1, r1, q1⟩ => ?_)
            obtain ⟨rfl, rfl⟩ := q1
            cases r1
            have hh : tEvL X.K fa W ⟨callK T gc k, gc, wdT T⟩ il σ H1 (fun vs H2 => spK X.K fa (callK T gc k f) vs H2 Q (WE W σ)) := evl0 w er (.refl _ _ _) q fun vs H1 F1 ρ1 ds st1 e1 w1 r1 ap1 p1 => by
              cases q : argsD ds with
              | none =>
                simp only [q] at p1
                exact p1.elim
              | some xs =>
                simp only [q] at p1
                obtain ⟨F', e', w', r', s'⟩ := args_ok w1 e1 r1 ap1 q
                exact ⟨F', ρ1, xs, st1, w', r', post_at (p1.rebase anti_D e')⟩
            refine PySem.W.callWith_K (h₀ := X.base) I.ok.mod.kin h2 (thn (ha.run pos pins s1 σ _ _ I1 hh) fun us s2 ⟨vs, H2, I2, r, q⟩ => ⟨I2.kIn, ?_⟩) hst hpl
            exact run_fnS h4 o.room h3 (L2N.passAt tk σ) I2 r q
        | _ =>
          simp only [hq] at q
          exact q.elim
theorem call_str_bool : CallR X (.type "str") (fun xs H Q => ∃ b : Bool, xs = [.bl b] ∧ Q (.str (if b then Str.ofString "True" else Str.ofString "False")) H) := by
  intro pins s σ H xs us Q I r h
  obtain ⟨b, rfl, q⟩ := h
  obtain ⟨u, rfl, r1⟩ := vals1 r
  cases r1
  refine PySem.P.str_of_bool ⟨.str (if b then Str.ofString "True" else Str.ofString "False"), H, I.tok _, ⟨s.toks, ?_⟩, q⟩
  cases b <;> rfl
theorem de_str : CallR X (.type "str") (rBiD X.K fa biStr) := by
  intro pins s σ H vs us Q I rx h
  obtain ⟨F, ρ, st, ps, w, hx, q⟩ := h
  obtain ⟨z, e, q⟩ := postM q
  match ps, hx, e with
  | [.int i], hx, e =>
    obtain ⟨v, rfl, hv⟩ := one_of hx
    cases hv.int
    have e : (if decide (i.natAbs.log2 < 1920) = true then some (DE.P.str (toString i)) else none) = some z := e
    by_cases h : decide (i.natAbs.log2 < 1920) = true
    · rw [if_pos h] at e
      cases e
      exact call_str_int pins s σ H _ us Q I rx ⟨i, rfl, of_decide_eq_true h, pP q w (.str _)⟩
    · rw [if_neg h] at e
      cases e
  | [.str i], hx, e =>
    obtain ⟨v, rfl, hv⟩ := one_of hx
    cases hv.str
    cases e
    exact SkE.call_str_str pins s σ H _ us Q I rx ⟨i, rfl, pP q w (.str _)⟩
  | [.bl i], hx, e =>
    obtain ⟨v, rfl, hv⟩ := one_of hx
    cases hv.bl
    cases e
    exact call_str_bool pins s σ H _ us Q I rx ⟨i, rfl, pP q w (.str _)⟩
theorem c_bi {f : Bf} {x : Str} {es : List Expr} (hc : X.calm = true) (hx : x = f.name) (hg : Gl X x) (hm : X.mg x = none) (ha : PE X e (tEv X.K fa W c a)) (hr : PA X es (tEvL X.K fa W c il))
    (hst : starEach (e :: es) X.env = (false, eval e X.env) :: starEach es X.env) (hpl : (backTo pos (starEach es X.env)).any (·.1) = false) :
    PE X (.Call (.Name x p) (e :: es) [] pos) (tEv X.K fa W c (.bi f a il)) := by
  have pa := pa_cons ha hr hst
  have rd : ∀ σ H Q, tEv X.K fa W c (.bi f a il) σ H Q → tCB (rBiD X.K fa (opBi f)) (tCons (tEv X.K fa W c a) (tEvL X.K fa W c il)) σ H Q := fun σ H Q ⟨F, ρ, env, st, w, er, p⟩ => by
    have p : PostD X.K fa W F ρ H σ ((ev c a env st).bind fun d st => (evL c il env st).bind fun ds st => match rds st (d :: ds) with | some xs => mkD (opBi f xs) st | none => .bad) Q := p
    refine ev1 anti_D w er p fun v H1 F1 ρ1 d st1 e1 w1 er1 r1 p1 => evl1 anti_D w1 er1 p1 fun vs H2 F2 ρ2 ds st2 e2 w2 er2 r2 a2 p2 => ?_
    cases q : rds st2 (d :: ds) with
    | none =>
      simp only [q] at p2
      exact p2.elim
    | some xs =>
      simp only [q] at p2
      have h : DRs X.K fa F2 ρ2 H2 H1 (v :: vs) (d :: ds) → VRrs X.K fa F2 H2 (v :: vs) xs := fun h => rds_ok w2 h q
      have r1' := r1.mono w1.dis e2
      unfold rds at q
      cases q1 : d.rd st2 with
      | none =>
        rw [q1] at q
        cases q
      | some y =>
        cases q2 : rds st2 ds with
        | none =>
          rw [q1, q2] at q
          cases q
        | some ys =>
          rw [q1, q2] at q
          cases q
          exact ⟨F2, ρ2, st2, _, w2, .cons (r1'.rd w2 q1) (rds_ok w2 r2 q2), cvD p2⟩
  have go : ∀ (hv : bootBuiltins x = some (.builtin x.toString)) (r : CallR X (.builtin x.toString) (rBiD X.K fa (opBi f))), True := fun _ _ => trivial
  subst hx
  cases f with
  | len => exact pe_of (pe_callB (id := "len") de_len hg hm (by decide +kernel) pa (by decide +kernel) (by decide +kernel) hst hpl) rd
  | abs => exact pe_of (pe_callB (id := "abs") de_abs hg hm (by decide +kernel) pa (by decide +kernel) (by decide +kernel) hst hpl) rd
  | max => exact pe_of (pe_callB (id := "max") (de_max hc) hg hm (by decide +kernel) pa (by decide +kernel) (by decide +kernel) hst hpl) rd
  | min => exact pe_of (pe_callB (id := "min") (de_min hc) hg hm (by decide +kernel) pa (by decide +kernel) (by decide +kernel) hst hpl) rd
  | all => exact pe_of (pe_callB (id := "all") (de_all hc) hg hm (by decide +kernel) pa (by decide +kernel) (by decide +kernel) hst hpl) rd
  | any => exact pe_of (pe_callB (id := "any") (de_any hc) hg hm (by decide +kernel) pa (by decide +kernel) (by decide +kernel) hst hpl) rd
  | int => exact pe_of (pe_callTy (T := "int") de_int hg hm (by decide +kernel) pa (by decide +kernel) (by decide +kernel) hst hpl) rd
  | tuple => exact pe_of (pe_callTy (T := "tuple") de_tuple hg hm (by decide +kernel) pa (by decide +kernel) (by decide +kernel) hst hpl) rd
  | str => exact pe_of (pe_callTy (T := "str") de_str hg hm (by decide +kernel) pa (by decide +kernel) (by decide +kernel) hst hpl) rd
  | list => exact pe_of (pe_callTy (T := "list") de_list hg hm (by decide +kernel) pa (by decide +kernel) (by decide +kernel) hst hpl) rd
theorem base_of {o : Expr} {name : Str} {env : PySem.Env} {whole : Sem Value} (h : notSup o = true) : attributeBase o name env whole = whole := by
  unfold attributeBase
  cases o <;> first | rfl | cases h
theorem c_meth {m : Me} {name : Str} {ov arg : Expr} {ap cp : Pos} (hn : name = m.name) (hl : (ap.endLine == cp.line) = true) (hb : notSup ov = true) (ho : PE X ov (tEv X.K fa W c a)) (ha : PE X arg (tEv X.K fa W c b))
    (hst : starEach [arg] X.env = (false, eval arg X.env) :: starEach [] X.env) : PE X (.Call (.Attribute ov name ap) [arg] [] cp) (tEv X.K fa W c (.meth m a b)) := by
  have pa := pa_cons ha pa_nil hst
  have rd : ∀ σ H Q, tEv X.K fa W c (.meth m a b) σ H Q → tBM X.K "str" (rMeD X.K fa m) (tEv X.K fa W c a) (tCons (tEv X.K fa W c b) tNil) σ H Q := fun σ H Q ⟨F, ρ, env, st, w, er, p⟩ => by
    refine ev1 (f := ev c a) (g := fun x st => match x with | .p (.str z) => ((ev c b env st).bind fun y st => match y.rd st with | some y => mkD (opMe m (.str z) y) st | none => .bad) | _ => .bad) anti_D w er p fun v H1 F1 ρ1 d1 st1 e1 w1 er1 r1 p1 => ?_
    cases d1 with
    | p x =>
      cases x with
      | str z =>
        cases (VR.r r1).str
        refine ⟨rfl, ev1 (f := ev c b) (g := fun y st => match y.rd st with | some y => mkD (opMe m (.str z) y) st | none => .bad) anti_D w1 er1 p1 fun y H2 F2 ρ2 d2 st2 e2 w2 er2 r2 p2 => ?_⟩
        cases q : d2.rd st2 with
        | none =>
          simp only [q] at p2
          exact p2.elim
        | some py =>
          simp only [q] at p2
          exact ⟨F2, ρ2, st2, .str z, py, y, rfl, w2, VR.str z, r2.rd w2 q, cvD p2⟩
      | _ => exact p1.elim
    | _ => exact p1.elim
  subst hn
  have few : ∀ e : Expr, starEach [e] X.env = (false, eval e X.env) :: starEach [] X.env → ((backTo cp (starEach (e :: []) X.env)).all (fun x => !x.1) && (backToKw cp (keywordEach [] X.env)).all (fun x => x.1.isSome)
      && decide ((e :: ([] : List Expr)).length + ([] : List Keyword).length + (if ([] : List Keyword).isEmpty then 0 else 1) < 30)) = true := fun e h => by
    rw [h] <;> rfl
  cases m with
  | join => exact pe_of (pe_bm PySem.F.plainAttrs_str PySem.F.slot_str_join PySem.F.type_str_join (de_me .join) ho pa (base_of hb) (few arg hst) hl hst rfl) rd
  | split => exact pe_of (pe_bm PySem.F.plainAttrs_str PySem.F.slot_str_split PySem.F.type_str_split (de_me .split) ho pa (base_of hb) (few arg hst) hl hst rfl) rd
  | count => exact pe_of (pe_bm PySem.F.plainAttrs_str PySem.F.slot_str_count PySem.F.type_str_count (de_me .count) ho pa (base_of hb) (few arg hst) hl hst rfl) rd
  | find => exact pe_of (pe_bm PySem.F.plainAttrs_str PySem.F.slot_str_find PySem.F.type_str_find (de_me .find) ho pa (base_of hb) (few arg hst) hl hst rfl) rd
theorem c_slc {lo hi : Option Expr} {l h : IO} {p2 : Pos} (ha : PE X e (tEv X.K fa W c a)) (hl : PO X lo fun σ H Q => ∃ F ρ env st, Wok X.K fa F ρ H st ∧ ERel X.K fa F ρ H σ env ∧ Post X.K fa relE W F ρ H σ (evO c l env st) Q)
    (hh : PO X hi fun σ H Q => ∃ F ρ env st, Wok X.K fa F ρ H st ∧ ERel X.K fa F ρ H σ env ∧ Post X.K fa relE W F ρ H σ (evO c h env st) Q) : PE X (.Subscript e (.Slice lo hi none p2) pos) (tEv X.K fa W c (.slc a l h)) :=
  pe_of (pe_slice (de_sl (fa := fa)) ha hl hh) fun σ H Q ⟨F, ρ, env, st, w, er, p⟩ => by
    have p : PostD X.K fa W F ρ H σ ((ev c a env st).bind fun x st => (evO c l env st).bind fun l st => (evO c h env st).bind fun h st => match x.rd st with | some x => mkD (opSlc x l h) st | none => .bad) Q := p
    refine ev1 anti_D w er p fun v H1 F1 ρ1 d1 st1 e1 w1 er1 r1 p1 => ?_
    refine ⟨F1, ρ1, env, st1, w1, er1, (p1.step (rel1 := relE) anti_D).imp fun l' H2 ⟨F2, ρ2, l2, st2, e2, w2, q2, p2⟩ => ?_⟩
    cases (show l' = l2 from q2)
    refine ⟨F2, ρ2, env, st2, w2, er1.mono w1 e2, (p2.step (rel1 := relE) anti_D).imp fun h' H3 ⟨F3, ρ3, h3, st3, e3, w3, q3, p3⟩ => ?_⟩
    cases (show h' = h3 from q3)
    cases q : d1.rd st3 with
    | none =>
      simp only [q] at p3
      exact p3.elim
    | some x =>
      simp only [q] at p3
      exact ⟨F3, ρ3, st3, x, w3, ((r1.mono w1.dis e2).mono w2.dis e3).rd w3 q, cvD p3⟩
theorem c_oN : PO X none fun σ H Q => ∃ F ρ env st, Wok X.K fa F ρ H st ∧ ERel X.K fa F ρ H σ env ∧ Post X.K fa relE W F ρ H σ (evO c .non env st) Q := ⟨fun pins s σ H Q I ⟨F, ρ, env, st, w, er, p⟩ =>
  po_none.run pins s σ H Q I (Post.ok (rel := relE) p w rfl)⟩
theorem c_oS (ha : PE X e (tEv X.K fa W c a)) : PO X (some e) fun σ H Q => ∃ F ρ env st, Wok X.K fa F ρ H st ∧ ERel X.K fa F ρ H σ env ∧ Post X.K fa relE W F ρ H σ (evO c (.som a) env st) Q := ⟨fun pins s σ H Q I ⟨F, ρ, env, st, w, er, p⟩ =>
  (po_some ha).run pins s σ H Q I (ev1 (f := ev c a) (g := fun x st => match x with | .p (.int i) => .ok (some i) st | _ => .bad) anti_E w er p fun v H1 F1 ρ1 d1 st1 e1 w1 er1 r1 p1 => by
    cases d1 with
    | p x =>
      cases x with
      | int i =>
        cases (VR.r r1).int
        exact ⟨i, rfl, Post.ok (rel := relE) p1 w1 rfl⟩
      | _ => exact p1.elim
    | _ => exact p1.elim)⟩
theorem c_isi {t : String} {x z : Str} {p1 p3 : Pos} (ht : tyNames.contains t = true) (hx : x = (Str.ofString "isinstance")) (hz : z = Str.ofString t) (hg : Gl X x) (hg2 : Gl X z) (hm : X.mg x = none) (hm2 : X.mg z = none) (ha : PE X e (tEv X.K fa W c a))
    (hst : ∀ r, starEach (e :: r) X.env = (false, eval e X.env) :: starEach r X.env) : PE X (.Call (.Name x p1) [e, .Name z p3] [] pos) (tEv X.K fa W c (.isi a t)) := by
  subst hx
  have hz' : PE X (.Name z p3) (tC (.ty t)) := by
    subst hz
    have hc : t = "int" ∨ t = "bool" ∨ t = "str" ∨ t = "tuple" ∨ t = "list" := by
      simpa [tyNames] using ht
    rcases hc with rfl | rfl | rfl | rfl | rfl <;> exact pe_bltn hg2 hm2 (by decide +kernel) rfl (by decide +kernel) (by decide +kernel)
  have pa := pa_cons (es := [.Name z p3]) ha (pa_cons hz' pa_nil rfl) (hst _)
  refine pe_of (pe_callB (id := "isinstance") call_isi hg hm (by decide +kernel) pa (by decide +kernel) (by decide +kernel) (hst _) rfl) fun σ H Q ⟨F, ρ, env, st, w, er, p⟩ => ?_
  refine ev1 (f := ev c a) (g := fun x st => match x.rd st with | some x => mkB (isT x t) st | none => .bad) anti_D w er p fun v H1 F1 ρ1 d1 st1 e1 w1 er1 r1 p1 => ?_
  cases q : d1.rd st1 with
  | none =>
    simp only [q] at p1
    exact p1.elim
  | some y =>
    simp only [q] at p1
    obtain ⟨b, e2, q2⟩ := postB w1 p1
    obtain ⟨T, t1, t2⟩ := de_isi (r1.rd w1 q) e2
    exact ⟨v, .ty t, _, _, b, rfl, .ty t, t1, t2, q2⟩
theorem chain_rd {o1 o2 : CmpOp} (hu : X.A.units + 64 < cLine) {σ : L2.St} {H : Hp} {Q : VK} (h : tEv X.K fa W c (.chain o1 o2 a b d) σ H Q) : tChain (rOpB X.K fa (opCmp o1)) (rOpB X.K fa (opCmp o2)) (tEv X.K fa W c a) (tEv X.K fa W c b) (tEv X.K fa W c d) σ H Q := by
  obtain ⟨F, ρ, env, st, w, er, p⟩ := h
  have p : PostD X.K fa W F ρ H σ ((ev c a env st).bind fun x st => (ev c b env st).bind fun y st => rd2 x y st fun x y => match opCmp o1 x y with
    | some true => if y.flat then ((ev c d env st).bind fun z st => match z.rd st with | some z => mkB (opCmp o2 y z) st | none => .bad) else .bad
    | some false => .ok (.p (.bl false)) st
    | none => .bad) Q := p
  refine ev1 anti_D w er p fun v H1 F1 ρ1 d1 st1 e1 w1 er1 r1 p1 => ev1 anti_D w1 er1 p1 fun u H2 F2 ρ2 d2 st2 e2 w2 er2 r2 p2 => ?_
  obtain ⟨px, py, q1, q2, p3⟩ := rd2_of (rel := relD X.K fa) (Q := Q) p2
  have hx := (r1.mono w1.dis e2).rd w2 q1
  have hy := r2.rd w2 q2
  cases q : opCmp o1 px py with
  | none =>
    simp only [q] at p3
    exact p3.elim
  | some k =>
    refine ⟨F2, ρ2, st2, px, py, w2, hx, hy, ?_⟩
    rw [q]
    intro v' F' ρ' H' ex wk rv
    have hv : v' = .bl k := (VRr.bl (VR.r (show VR X.K fa F' H' v' (.bl k) from rv)))
    subst hv
    refine ⟨k, rfl, ?_⟩
    cases k with
    | true =>
      simp only [q] at p3
      cases hf : py.flat with
      | false =>
        rw [hf] at p3
        exact p3.elim
      | true =>
        rw [hf, if_pos rfl] at p3
        refine iteT (ev1 (f := ev c d) (g := fun z st => match z.rd st with | some z => mkB (opCmp o2 py z) st | none => .bad) anti_D wk (er2.mono w2 ex) (p3.rebase anti_D ex) fun z H3 F3 ρ3 d3 st3 e3 w3 er3 r3 p4 => ?_)
        cases q3 : d3.rd st3 with
        | none =>
          simp only [q3] at p4
          exact p4.elim
        | some pz =>
          simp only [q3] at p4
          have hy' : VRr X.K fa F3 H3 u py := by
            cases py with
            | non =>
              cases hy.non
              exact VR.non
            | bl k =>
              cases hy.bl
              exact VR.bl k
            | int k =>
              cases hy.int
              exact VR.int k
            | str k =>
              cases hy.str
              exact VR.str k
            | _ => cases hf
          exact ⟨F3, ρ3, st3, py, pz, w3, hy', r3.rd w3 q3, cvB p4⟩
    | false =>
      simp only [q] at p3
      exact iteF (p3 _ F' ρ' H' ex wk (VR.bl false))
theorem c_chain {o1 o2 : CmpOp} (hu : X.A.units + 64 < cLine) (hm : lastMarks [o1, o2] [e2, e3] = false) (ha : PE X e1 (tEv X.K fa W c a)) (hb : PE X e2 (tEv X.K fa W c b)) (hd : PE X e3 (tEv X.K fa W c d)) :
    PE X (.Compare e1 [o1, o2] [e2, e3] pos) (tEv X.K fa W c (.chain o1 o2 a b d)) := pe_of (pe_chain (de_cmp (fa := fa) hu o1) (de_cmp (fa := fa) hu o2) ha hb hd hm) fun σ H Q h => chain_rd hu h
end
end DE
end

section
set_option Elab.async false
set_option linter.all false
set_option maxRecDepth 100000
set_option autoImplicit false
namespace DE
open PySem PySem.Spec L2
section
variable {X : Cx} {e e1 e2 e3 : Expr} {es : List Expr} {pos p : Pos} {fa : Fa} {W : WX} {c : Cf} {a b d : IE} {il : IL}
abbrev tT (K : PySem.W.Frag) (fa : Fa) (W : WX) (c : Cf) (a : IE) : TT := tEvT K fa W c fun env st => evT c a env st
/-- a plain test -/
theorem t_plain (ha : PE X e (tEv X.K fa W c a)) (he : ∀ whole, isTrue e X.env whole = (do let v ← whole; standAt e.pos; holding [v] (truthy v))) : PT X e (tT X.K fa W c a) := pt_of (pt_truth ha he) fun σ H Q ⟨F, ρ, env, st, w, er, p⟩ => by
  have p : Post X.K fa relE W F ρ H σ ((ev c a env st).bind rdB) Q := p
  exact ev1 (f := ev c a) anti_E w er p fun v H1 F1 ρ1 d1 st1 e1 w1 er1 r1 p1 => truth_of w1 r1 p1
/-- an expression whose value is a bool -/
theorem pt_bool {t : TE} (h : PT X e (tTest t)) {f : Env → Store → R D} (i : ∀ σ H Q, tEvF X.K fa W f σ H Q → t σ H Q) (hb : ∀ env st d st', f env st = .ok d st' → ∃ k, d = .p (.bl k)) : PT X e (tEvT X.K fa W c fun env st => (f env st).bind rdB) := pt_of h fun σ H Q ⟨F, ρ, env, st, w, er, p⟩ => by
  refine i σ H _ ⟨F, ρ, env, st, w, er, ?_⟩
  cases q : f env st with
  | bad =>
    simp only [q] at p
    exact p
  | exc k x s =>
    simp only [q] at p
    exact p
  | ok d s =>
    obtain ⟨k, rfl⟩ := hb env st d s q
    simp only [q] at p
    intro v F' ρ' H' ex wk rv
    have hv : v = .bl k := (VRr.bl (VR.r (show VR X.K fa F' H' v (.bl k) from rv)))
    exact ⟨k, hv, p k F' ρ' H' ex wk rfl⟩
theorem mkB_bl {o : Option Bool} {st st' : Store} {d : D} (h : mkB o st = .ok d st') : ∃ k, d = .p (.bl k) := by
  cases o with
  | none => cases h
  | some b =>
    cases h
    exact ⟨b, rfl⟩
theorem bind_ok_inv {α β : Type} {r : R α} {f : α → Store → R β} {b : β} {st : Store} (h : r.bind f = .ok b st) : ∃ a s, r = .ok a s ∧ f a s = .ok b st := by
  cases r with
  | ok a s => exact ⟨a, s, rfl, h⟩
  | exc k x s => cases h
  | bad => cases h
theorem rd2_inv {x y : D} {st : Store} {f : DE.P → DE.P → R D} {d : D} {st' : Store} (h : rd2 x y st f = .ok d st') : ∃ a b, f a b = .ok d st' := by
  unfold rd2 at h
  cases q1 : x.rd st with
  | none =>
    rw [q1] at h
    cases h
  | some a =>
    cases q2 : y.rd st with
    | none =>
      rw [q1, q2] at h
      cases h
    | some b =>
      rw [q1, q2] at h
      exact ⟨a, b, h⟩
theorem t_cmp {op : CmpOp} (hu : X.A.units + 64 < cLine) (hm : behindInMarks op e2 = false) (ha : PE X e1 (tEv X.K fa W c a)) (hb : PE X e2 (tEv X.K fa W c b)) : PT X (.Compare e1 [op] [e2] pos) (tT X.K fa W c (.cmp op a b)) :=
  pt_bool (f := ev c (.cmp op a b)) (pt_cmpR (de_cmp (fa := fa) hu op) ha hb hm) (fun σ H Q ⟨F, ρ, env, st, w, er, p⟩ =>
    imp1 (ev2 (fa1 := ev c a) (fb := ev c b) (f := fun x y st => mkB (opCmp op x y) st) w er p) fun x H1 h1 => imp1 h1 fun y H2 ⟨F, ρ, st, px, py, w, hx, hy, p⟩ => ⟨F, ρ, st, px, py, w, hx, hy, cvB p⟩)
    fun env st d st' h => by
      have h : ((ev c a env st).bind fun x st => (ev c b env st).bind fun y st => rd2 x y st fun x y => mkB (opCmp op x y) st) = .ok d st' := h
      obtain ⟨x, s1, _, h⟩ := bind_ok_inv h
      obtain ⟨y, s2, _, h⟩ := bind_ok_inv h
      obtain ⟨u, v, h⟩ := rd2_inv h
      exact mkB_bl h
theorem t_chain {o1 o2 : CmpOp} (hu : X.A.units + 64 < cLine) (hm : lastMarks [o1, o2] [e2, e3] = false) (ha : PE X e1 (tEv X.K fa W c a)) (hb : PE X e2 (tEv X.K fa W c b)) (hd : PE X e3 (tEv X.K fa W c d)) :
    PT X (.Compare e1 [o1, o2] [e2, e3] pos) (tT X.K fa W c (.chain o1 o2 a b d)) :=
  pt_bool (f := ev c (.chain o1 o2 a b d)) (pt_chain (de_cmp (fa := fa) hu o1) (de_cmp (fa := fa) hu o2) ha hb hd hm) (fun σ H Q h => chain_rd hu h)
    fun env st d' st' h => by
      have h : ((ev c a env st).bind fun x st => (ev c b env st).bind fun y st => rd2 x y st fun x y => match opCmp o1 x y with
        | some true => if y.flat then ((ev c d env st).bind fun z st => match z.rd st with | some z => mkB (opCmp o2 y z) st | none => .bad) else .bad
        | some false => .ok (.p (.bl false)) st
        | none => .bad) = .ok d' st' := h
      obtain ⟨x, s1, _, h⟩ := bind_ok_inv h
      obtain ⟨y, s2, _, h⟩ := bind_ok_inv h
      obtain ⟨u, v, h⟩ := rd2_inv h
      cases q : opCmp o1 u v with
      | none =>
        simp only [q] at h
        cases h
      | some k =>
        simp only [q] at h
        cases k with
        | false =>
          cases h
          exact ⟨false, rfl⟩
        | true =>
          simp only at h
          cases hf : v.flat with
          | false =>
            rw [hf] at h
            cases h
          | true =>
            rw [hf, if_pos rfl] at h
            obtain ⟨z, s3, _, h⟩ := bind_ok_inv h
            cases q3 : z.rd s3 with
            | none =>
              simp only [q3] at h
              cases h
            | some z' =>
              simp only [q3] at h
              exact mkB_bl h
theorem t_no (ha : PT X e (tT X.K fa W c a)) : PT X (.UnaryOp .Not e pos) (tT X.K fa W c (.no a)) := pt_of (pt_not ha) fun σ H Q ⟨F, ρ, env, st, w, er, p⟩ => by
  have p : Post X.K fa relE W F ρ H σ (((ev c a env st).bind fun d st => (rdB d st).bind fun b st => R.ok (.p (.bl (!b))) st).bind rdB) Q := p
  refine ⟨F, ρ, env, st, w, er, ?_⟩
  show Post X.K fa relE W F ρ H σ ((ev c a env st).bind rdB) (fun b H1 => Q (!b) H1)
  cases q : ev c a env st with
  | bad =>
    simp only [q] at p
    exact p
  | exc k x s =>
    simp only [q] at p
    exact p
  | ok d s =>
    simp only [q, R.bind_ok] at p ⊢
    cases q2 : rdB d s with
    | bad =>
      simp only [q2] at p
      exact p
    | exc k x s =>
      simp only [q2] at p
      exact p
    | ok b s2 =>
      simp only [q2, R.bind_ok] at p
      intro b' F' ρ' H' ex wk rv
      cases (show b' = b from rv)
      exact p _ F' ρ' H' ex wk rfl
theorem t_ife (ht : PT X e1 (tT X.K fa W c a)) (ha : PT X e2 (tT X.K fa W c b)) (hb : PT X e3 (tT X.K fa W c d)) : PT X (.IfExp e1 e2 e3 pos) (tT X.K fa W c (.ife a b d)) := by
  refine ⟨fun pins s σ H Q I h => ?_⟩
  have hif : isTrue (.IfExp e1 e2 e3 pos) X.env (eval (.IfExp e1 e2 e3 pos) X.env) = (do if ← isTrue e1 X.env (eval e1 X.env) then isTrue e2 X.env (eval e2 X.env) else isTrue e3 X.env (eval e3 X.env)) := rfl
  rw [hif]
  obtain ⟨F, ρ, env, st, w, er, p⟩ := h
  have p : Post X.K fa relE W F ρ H σ (((ev c a env st).bind fun k st => (rdB k st).bind fun k st => if k then ev c b env st else ev c d env st).bind rdB) Q := p
  have p' : Post X.K fa relE W F ρ H σ ((evT c a env st).bind fun k st => if k then evT c b env st else evT c d env st) Q := by
    unfold evT
    cases q : ev c a env st with
    | bad => simpa only [q, R.bind_bad] using p
    | exc k x s => simpa only [q, R.bind_exc] using p
    | ok k s =>
      simp only [q, R.bind_ok] at p ⊢
      cases q2 : rdB k s with
      | bad => simpa only [q2, R.bind_bad] using p
      | exc k x s => simpa only [q2, R.bind_exc] using p
      | ok k s =>
        simp only [q2, R.bind_ok] at p ⊢
        cases k <;> simpa using p
  have z : tT X.K fa W c a σ H (fun k H1 => if k = true then tT X.K fa W c b σ H1 Q else tT X.K fa W c d σ H1 Q) := by
    refine ⟨F, ρ, env, st, w, er, (p'.step (rel1 := relE) anti_E).imp fun k H1 ⟨F1, ρ1, k', st1, e1, w1, r1, p1⟩ => ?_⟩
    cases (show k = k' from r1)
    cases k with
    | true => exact iteT ⟨F1, ρ1, env, st1, w1, er.mono w e1, p1⟩
    | false => exact iteF ⟨F1, ρ1, env, st1, w1, er.mono w e1, p1⟩
  refine wpAny_bind (thn (ht.run pins s σ H _ I z) fun k s1 ⟨H1, I1, q1⟩ => ?_)
  cases k with
  | true => exact ha.run pins s1 σ H1 Q I1 q1
  | false => exact hb.run pins s1 σ H1 Q I1 q1
abbrev tA (K : PySem.W.Frag) (fa : Fa) (W : WX) (c : Cf) (r : IL) : TE := tEvF K fa W (evAnd c r)
abbrev tO (K : PySem.W.Frag) (fa : Fa) (W : WX) (c : Cf) (r : IL) : TE := tEvF K fa W (evOr c r)
theorem v_and1 (ha : PE X e (tEv X.K fa W c a)) : PE X (.BoolOp .And [e] pos) (tA X.K fa W c (.cons a .nil)) := pe_of (pe_one ha) fun σ H Q h => h
theorem v_or1 (ha : PE X e (tEv X.K fa W c a)) : PE X (.BoolOp .Or [e] pos) (tO X.K fa W c (.cons a .nil)) := pe_of (pe_one ha) fun σ H Q h => h
theorem v_and {r : IL} (ha : PE X e (tEv X.K fa W c a)) (hr : PE X (.BoolOp .And (e1 :: es) pos) (tA X.K fa W c (.cons b r))) : PE X (.BoolOp .And (e :: e1 :: es) pos) (tA X.K fa W c (.cons a (.cons b r))) := pe_of (pe_and ha hr) fun σ H Q ⟨F, ρ, env, st, w, er, p⟩ => by
  have p : PostD X.K fa W F ρ H σ ((ev c a env st).bind fun x st => match x with | .p (.bl true) => evAnd c (.cons b r) env st | .p (.bl false) => .ok (.p (.bl false)) st | _ => .bad) Q := p
  refine ev1 (f := ev c a) anti_D w er p fun v H1 F1 ρ1 d1 st1 e1 w1 er1 r1 p1 => ?_
  cases d1 with
  | p x =>
    cases x with
    | bl k =>
      cases (VR.r r1).bl
      refine ⟨k, rfl, ?_⟩
      cases k with
      | true => exact iteT ⟨F1, ρ1, env, st1, w1, er1, p1⟩
      | false => exact iteF (pP p1 w1 (.bl false))
    | _ => exact p1.elim
  | _ => exact p1.elim
theorem v_or {r : IL} (ha : PE X e (tEv X.K fa W c a)) (hr : PE X (.BoolOp .Or (e1 :: es) pos) (tO X.K fa W c (.cons b r))) : PE X (.BoolOp .Or (e :: e1 :: es) pos) (tO X.K fa W c (.cons a (.cons b r))) := pe_of (pe_or ha hr) fun σ H Q ⟨F, ρ, env, st, w, er, p⟩ => by
  have p : PostD X.K fa W F ρ H σ ((ev c a env st).bind fun x st => match x with | .p (.bl false) => evOr c (.cons b r) env st | .p (.bl true) => .ok (.p (.bl true)) st | _ => .bad) Q := p
  refine ev1 (f := ev c a) anti_D w er p fun v H1 F1 ρ1 d1 st1 e1 w1 er1 r1 p1 => ?_
  cases d1 with
  | p x =>
    cases x with
    | bl k =>
      cases (VR.r r1).bl
      refine ⟨k, rfl, ?_⟩
      cases k with
      | false => exact iteF ⟨F1, ρ1, env, st1, w1, er1, p1⟩
      | true => exact iteT (pP p1 w1 (.bl true))
    | _ => exact p1.elim
  | _ => exact p1.elim
abbrev tAT (K : PySem.W.Frag) (fa : Fa) (W : WX) (c : Cf) (r : IL) : TT := tEvT K fa W c fun env st => (evAnd c r env st).bind rdB
abbrev tOT (K : PySem.W.Frag) (fa : Fa) (W : WX) (c : Cf) (r : IL) : TT := tEvT K fa W c fun env st => (evOr c r env st).bind rdB
theorem pw_of {t t' : TT} (h : PW X e t) (i : ∀ σ H Q, t' σ H Q → t σ H Q) : PW X e t' := ⟨fun wh pins s σ H Q I q => h.run wh pins s σ H Q I (i σ H Q q)⟩
theorem t_and1 (ha : PT X e (tT X.K fa W c a)) : PW X (.BoolOp .And [e] pos) (tAT X.K fa W c (.cons a .nil)) := pw_of (pw_and1 ha) fun σ H Q h => h
theorem t_or1 (ha : PT X e (tT X.K fa W c a)) : PW X (.BoolOp .Or [e] pos) (tOT X.K fa W c (.cons a .nil)) := pw_of (pw_or1 ha) fun σ H Q h => h
theorem t_and {r : IL} (ha : PT X e (tT X.K fa W c a)) (hr : PW X (.BoolOp .And (e1 :: es) pos) (tAT X.K fa W c (.cons b r))) : PW X (.BoolOp .And (e :: e1 :: es) pos) (tAT X.K fa W c (.cons a (.cons b r))) := pw_of (pw_and ha hr) fun σ H Q ⟨F, ρ, env, st, w, er, p⟩ => by
  have p : Post X.K fa relE W F ρ H σ (((ev c a env st).bind fun x st => match x with | .p (.bl true) => evAnd c (.cons b r) env st | .p (.bl false) => .ok (.p (.bl false)) st | _ => .bad).bind rdB) Q := p
  refine ⟨F, ρ, env, st, w, er, ?_⟩
  show Post X.K fa relE W F ρ H σ ((ev c a env st).bind rdB) _
  cases q : ev c a env st with
  | bad =>
    simp only [q, R.bind_bad] at p
    exact p
  | exc k x s =>
    simp only [q, R.bind_exc] at p
    exact p
  | ok d s =>
    simp only [q, R.bind_ok] at p ⊢
    cases d with
    | p x =>
      cases x with
      | bl k =>
        intro k' F' ρ' H' ex wk rv
        cases (show k' = k from rv)
        cases k with
        | true => exact iteT ⟨F', ρ', env, s, wk, er.mono w ex, p.rebase anti_E ex⟩
        | false => exact iteF (p false F' ρ' H' ex wk rfl)
      | _ => exact p.elim
    | _ => exact p.elim
theorem t_or {r : IL} (ha : PT X e (tT X.K fa W c a)) (hr : PW X (.BoolOp .Or (e1 :: es) pos) (tOT X.K fa W c (.cons b r))) : PW X (.BoolOp .Or (e :: e1 :: es) pos) (tOT X.K fa W c (.cons a (.cons b r))) := pw_of (pw_or ha hr) fun σ H Q ⟨F, ρ, env, st, w, er, p⟩ => by
  have p : Post X.K fa relE W F ρ H σ (((ev c a env st).bind fun x st => match x with | .p (.bl false) => evOr c (.cons b r) env st | .p (.bl true) => .ok (.p (.bl true)) st | _ => .bad).bind rdB) Q := p
  refine ⟨F, ρ, env, st, w, er, ?_⟩
  show Post X.K fa relE W F ρ H σ ((ev c a env st).bind rdB) _
  cases q : ev c a env st with
  | bad =>
    simp only [q, R.bind_bad] at p
    exact p
  | exc k x s =>
    simp only [q, R.bind_exc] at p
    exact p
  | ok d s =>
    simp only [q, R.bind_ok] at p ⊢
    cases d with
    | p x =>
      cases x with
      | bl k =>
        intro k' F' ρ' H' ex wk rv
        cases (show k' = k from rv)
        cases k with
        | false => exact iteF ⟨F', ρ', env, s, wk, er.mono w ex, p.rebase anti_E ex⟩
        | true => exact iteT (p true F' ρ' H' ex wk rfl)
      | _ => exact p.elim
    | _ => exact p.elim
end
end DE
end

section
set_option Elab.async false
set_option linter.all false
set_option maxRecDepth 100000
set_option autoImplicit false
namespace DE
open PySem PySem.Spec L2
/-- J walks xs while S stands; b: S stands still by itself (a for), else by the ways of expressions -/
def relJ (K : PySem.W.Frag) (fa : Fa) (b : Bool) : Rel It (List DE.P) := fun F ρ H H0 J xs => ∃ S, ItW K fa S F H J xs ∧ ∀ a, a ∈ S → a ∉ ρ ∧ (∃ o, H a = some o ∧ ∀ ps, o ≠ .tbl ps) ∧ (b = true → F a ∨ nt H0 a = none)
def tIv (K : PySem.W.Frag) (fa : Fa) (W : WX) (c : Cf) (b : Bool) (it : IT) : TI := fun σ H R => ∃ F ρ env st, Wok K fa F ρ H st ∧ ERel K fa F ρ H σ env ∧ Post K fa (relJ K fa b) W F ρ H σ (evI c b it env st) R
section
variable {X : Cx} {tg e e1 e2 : Expr} {pos p : Pos} {fa : Fa} {W : WX} {c : Cf} {a b d : IE} {il : IL} {fl : Bool}
theorem pi_of {t t' : TI} (h : PI X tg e t) (i : ∀ σ H Q, t' σ H Q → t σ H Q) : PI X tg e t' := ⟨fun pins s σ H Q I q => h.run pins s σ H Q I (i σ H Q q)⟩
/-- a list, a tuple, a text -/
def iAny (K : PySem.W.Frag) (te : TE) : TI := fun σ H R => te σ H fun x H1 => (∃ a, x = .ref a ∧ (∃ xs, SqL K H1 a xs) ∧ R (Itl K a) H1) ∨ (∃ a, x = .ref a ∧ (∃ xs, SqT K H1 a xs) ∧ R (Itt K a) H1) ∨ ∃ z, x = .str z ∧ R (Its z) H1
theorem pi_any {te : TE} (he : PE X e te) : PI X tg e (iAny X.K te) := by
  refine ⟨fun pins s σ H R I h => ?_⟩
  refine thn (he.run pins s σ H _ I h) fun v s1 ⟨x, H1, I1, r1, q1⟩ => ?_
  rcases q1 with ⟨ad, rfl, ⟨xs, hq⟩, q⟩ | ⟨ad, rfl, ⟨xs, hq⟩, q⟩ | ⟨z, rfl, q⟩
  · cases r1
    obtain ⟨its, rv, pl, hz⟩ := I1.list hq
    refine wpAny_pyIter_list pl.isList ?_
    refine ⟨s1.heap.objs.size, [s1.heap.objs.size], _, _, H1, rfl, I1.kept (t' := s1.toks) fun b o e => Heap.get?_push_of_some _ e, turn_list ad _, ⟨_, Heap.get?_push_size _ rfl, rfl, rfl⟩, fun b hb => ?_, q⟩
    have e : b = s1.heap.objs.size := by simpa using hb
    subst e
    exact I1.fpOk (Nat.le_refl _) (I1.hok.fresh (Nat.le_refl _))
  · cases r1
    obtain ⟨its, rv, pl, hz⟩ := I1.tuple hq
    refine wpAny_pyIter_tuple (show s1.heap.IsTuple ad its.toArray from pl) ?_
    refine ⟨s1.heap.objs.size, [s1.heap.objs.size], _, _, H1, rfl, I1.kept (t' := s1.toks) fun b o e => Heap.get?_push_of_some _ e, turn_tuple ad _, ⟨_, Heap.get?_push_size _ rfl, rfl, rfl⟩, fun b hb => ?_, q⟩
    have e : b = s1.heap.objs.size := by simpa using hb
    subst e
    exact I1.fpOk (Nat.le_refl _) (I1.hok.fresh (Nat.le_refl _))
  · obtain ⟨t, rfl⟩ := r1
    cases ha : z.cps.all (· < 128)
    · exact wpAny_pyIter_wide ha (pi_one (tk := s1.toks) I1 _ (turn_str _ z t "str_iterator" (.inr rfl)) ⟨_, Heap.get?_push_size _ rfl, rfl, rfl⟩ q)
    · exact wpAny_pyIter_ascii ha (pi_one (tk := s1.toks) I1 _ (turn_str _ z t "str_ascii_iterator" (.inl rfl)) ⟨_, Heap.get?_push_size _ rfl, rfl, rfl⟩ q)
/-- where a walked list stands -/
theorem lst_at {K : PySem.W.Frag} {F : Addr → Prop} {ρ : List Addr} {H H0 : Hp} {st : Store} {v : V} {dd : D} {xs : List DE.P} (w : Wok K fa F ρ H st) (r : DR K fa F ρ H H0 v dd) (q : dd.rdI fl = some (.lst xs)) :
    ∃ ad vs, v = .ref ad ∧ H ad = some (.lst vs) ∧ VRs K fa F H vs xs ∧ ad ∉ ρ ∧ (fl = true → F ad ∨ nt H0 ad = none) := by
  cases dd with
  | p x =>
    cases q
    cases (show VR K fa F H v (.lst xs) from r) with
    | lst f h r' => exact ⟨_, _, rfl, h, r', fun z => w.dis _ z f, fun _ => .inl f⟩
  | new ys =>
    cases q
    obtain ⟨ad, vs, e1, h1, h2, h3, h4, h5⟩ := r
    exact ⟨ad, vs, e1, h1, h2, h4, fun _ => .inr h5⟩
  | bor o =>
    cases o with
    | lst ys =>
      have q : (if fl = true then none else some (DE.P.lst ys)) = some (.lst xs) := q
      cases fl with
      | true => cases q
      | false =>
        cases q
        obtain ⟨ad, e1, ⟨vs, h1, h2⟩, h3⟩ := r
        exact ⟨ad, vs, e1, h1, h2, h3, fun z => by cases z⟩
    | dic kvs => cases q
  | box n => cases q
/-- where a walked tuple stands -/
theorem tup_at {K : PySem.W.Frag} {F : Addr → Prop} {ρ : List Addr} {H H0 : Hp} {st : Store} {v : V} {dd : D} {xs : List DE.P} (w : Wok K fa F ρ H st) (r : DR K fa F ρ H H0 v dd) (q : dd.rdI fl = some (.tup xs)) :
    ∃ (ad : Addr) (vs : List V) (S : List Addr), v = .ref ad ∧ (∀ H' : Hp, (∀ b, b ∈ S → H' b = H b) → SqT K H' ad vs) ∧ VRs K fa F H vs xs ∧ ∀ b, b ∈ S → b ∉ ρ ∧ (∃ o, H b = some o ∧ ∀ ps, o ≠ .tbl ps) ∧ F b := by
  cases dd with
  | p x =>
    cases q
    obtain ⟨ad, vs, rfl, ht, hr⟩ := (VR.r (show VR K fa F H v (.tup xs) from r)).tup
    rcases ht with ⟨f, h⟩ | h
    · refine ⟨ad, vs, [ad], rfl, fun H' s => SqT.of (by rw [s ad (by simp)]; exact h), hr, fun b hb => ?_⟩
      have e : b = ad := by simpa using hb
      subst e
      exact ⟨fun z => w.dis _ z f, ⟨_, h, fun _ z => nomatch z⟩, f⟩
    · exact ⟨ad, vs, [], rfl, fun H' _ => h H', hr, fun b hb => absurd hb (by simp)⟩
  | new ys => cases q
  | bor o =>
    cases o with
    | lst ys =>
      have q : (if fl = true then none else some (DE.P.lst ys)) = some (.tup xs) := q
      cases fl <;> cases q
    | dic kvs => cases q
  | box n => cases q
theorem i_seq (ha : PE X e (tEv X.K fa W c a)) : PI X tg e (tIv X.K fa W c fl (.seq a)) := pi_of (pi_any ha) fun σ H R ⟨F, ρ, env, st, w, er, p⟩ => by
  have p : Post X.K fa (relJ X.K fa fl) W F ρ H σ ((ev c a env st).bind fun x st => match x.rdI fl with | some x => DE.R.opt (itSeq x) st | none => .bad) R := p
  refine ev0 (f := ev c a) w er (.refl _ _ _) p fun v H1 F1 ρ1 d1 st1 e1 w1 r1 p1 => ?_
  cases q : d1.rdI fl with
  | none =>
    simp only [q] at p1
    exact p1.elim
  | some x =>
    simp only [q] at p1
    cases x with
    | lst xs =>
      obtain ⟨ad, vs, rfl, h1, h2, h3, h4⟩ := lst_at w1 r1 q
      refine .inl ⟨ad, rfl, ⟨vs, SqL.of h1⟩, p1 _ F1 ρ1 H1 e1 w1 ⟨[ad], itw_lst (fun H' s => SqL.of (by rw [s ad (by simp)]; exact h1)) h2, fun b hb => ?_⟩⟩
      have e : b = ad := by simpa using hb
      subst e
      exact ⟨h3, ⟨_, h1, fun _ z => nomatch z⟩, h4⟩
    | tup xs =>
      obtain ⟨ad, vs, S, rfl, h1, h2, h3⟩ := tup_at w1 r1 q
      exact .inr (.inl ⟨ad, rfl, ⟨vs, h1 H1 fun _ _ => rfl⟩, p1 _ F1 ρ1 H1 e1 w1 ⟨S, itw_tup h1 h2, fun b hb => ⟨(h3 b hb).1, (h3 b hb).2.1, fun _ => .inl (h3 b hb).2.2⟩⟩⟩)
    | str z =>
      cases d1 with
      | p y =>
        cases q
        cases (VR.r (show VR X.K fa F1 H1 v (.str z) from r1)).str
        exact .inr (.inr ⟨z, rfl, p1 _ F1 ρ1 H1 e1 w1 ⟨[], itw_str z, fun b hb => absurd hb (by simp)⟩⟩)
      | new ys => cases q
      | bor o =>
        cases o with
        | lst ys =>
          have q : (if fl = true then none else some (DE.P.lst ys)) = some (.str z) := q
          cases fl <;> cases q
        | dic kvs => cases q
      | box n => cases q
    | _ => exact p1.elim
theorem rng_of {K : PySem.W.Frag} {F0 F : Addr → Prop} {ρ0 ρ : List Addr} {H H0 H2 : Hp} {st : Store} {σ : L2.St} {u v : V} {x y : D} {Q : It → Hp → Prop} (h : Post K fa (relJ K fa fl) W F0 ρ0 H0 σ (itRng x y st) Q) (e : Ext F0 ρ0 H0 F ρ H) (w : Wok K fa F ρ H st) (hx : DR K fa F ρ H H2 u x) (hy : DR K fa F ρ H H2 v y) :
    ∃ i j : Int, u = .int i ∧ v = .int j ∧ Q (Itr i (j - i).toNat) H := by
  unfold itRng at h
  cases x with
  | p x =>
    cases x with
    | int i =>
      cases y with
      | p y =>
        cases y with
        | int j =>
          cases ho : rngOk i j with
          | false =>
            simp only [ho] at h
            exact h.elim
          | true =>
            simp only [ho] at h
            cases (VR.r (show VR K fa F H u (.int i) from hx)).int
            cases (VR.r (show VR K fa F H v (.int j) from hy)).int
            exact ⟨i, j, rfl, rfl, h _ F ρ H e w ⟨[], itw_rng i j, fun b hb => absurd hb (by simp)⟩⟩
        | _ => exact h.elim
      | _ => exact h.elim
    | _ => cases y <;> exact h.elim
  | _ => cases y <;> exact h.elim
theorem i_rng1 {x : Str} (hx : x = (Str.ofString "range")) (hg : Gl X x) (hm : X.mg x = none) (ha : PE X e1 (tEv X.K fa W c a)) (hst : ∀ r, starEach (e1 :: r) X.env = (false, eval e1 X.env) :: starEach r X.env) : PI X tg (.Call (.Name x p) [e1] [] pos) (tIv X.K fa W c fl (.rng1 a)) := by
  subst hx
  refine pi_of (RB.pi_rangeB1 hg hm (pa_cons ha pa_nil (hst _)) (hst _)) fun σ H R ⟨F, ρ, env, st, w, er, p⟩ => ?_
  refine ev0 (f := ev c a) w er (.refl _ _ _) p fun v H1 F1 ρ1 d1 st1 e1 w1 r1 p1 => ?_
  obtain ⟨i, j, h1, rfl, q⟩ := rng_of (u := .int 0) (H2 := H) p1 e1 w1 (VR.int 0) r1
  cases h1
  exact ⟨j, rfl, by rw [Int.sub_zero] at q; exact q⟩
theorem i_rng2 {x : Str} (hx : x = (Str.ofString "range")) (hg : Gl X x) (hm : X.mg x = none) (ha : PE X e1 (tEv X.K fa W c a)) (hb : PE X e2 (tEv X.K fa W c b)) (hst : ∀ r, starEach (e1 :: r) X.env = (false, eval e1 X.env) :: starEach r X.env) (hst2 : ∀ r, starEach (e2 :: r) X.env = (false, eval e2 X.env) :: starEach r X.env) :
    PI X tg (.Call (.Name x p) [e1, e2] [] pos) (tIv X.K fa W c fl (.rng2 a b)) := by
  subst hx
  refine pi_of (RB.pi_rangeB2 hg hm (pa_cons ha (pa_cons hb pa_nil (hst2 _)) (hst _)) (by rw [hst, hst2] <;> rfl) (hst2 _)) fun σ H R ⟨F, ρ, env, st, w, er, p⟩ => ?_
  refine ev0 (f := ev c a) w er (.refl _ _ _) p fun v H1 F1 ρ1 d1 st1 e1 w1 r1 p1 => ?_
  refine ev0 (f := ev c b) w1 (er.mono w e1) e1 p1 fun u H2 F2 ρ2 d2 st2 e2 w2 r2 p2 => ?_
  obtain ⟨i, j, rfl, rfl, q⟩ := rng_of (H2 := H) p2 (e1.trans e2) w2 (r1.mono w1.dis e2) (r2.anti e1)
  exact ⟨i, j, rfl, q⟩
theorem lst_keep {K : PySem.W.Frag} {F F2 : Addr → Prop} {ρ ρ2 : List Addr} {H H2 : Hp} {ad : Addr} {vs : List V} (e : Ext F ρ H F2 ρ2 H2) (h : H ad = some (.lst vs)) (hn : ad ∉ ρ) : H2 ad = some (.lst vs) := e.keep _ _ h hn (fun _ z => nomatch z)
theorem i_zip {x : Str} {elts : List Expr} {kk : Nat} {tp : Pos} (hx : x = (Str.ofString "zip")) (hg : Gl X x) (hm : X.mg x = none) (ha : PE X e1 (tEv X.K fa W c a)) (hb : PE X e2 (tEv X.K fa W c b)) (hst : ∀ r, starEach (e1 :: r) X.env = (false, eval e1 X.env) :: starEach r X.env) (hst2 : ∀ r, starEach (e2 :: r) X.env = (false, eval e2 X.env) :: starEach r X.env) :
    PI X (.Tuple elts kk tp) (.Call (.Name x p) [e1, e2] [] pos) (tIv X.K fa W c fl (.zip a b)) := by
  subst hx
  refine pi_of (RZ.pi_zipA hg hm (pa_cons ha (pa_cons hb pa_nil (hst2 _)) (hst _)) (hst _) (by rw [hst2] <;> rfl)) fun σ H R ⟨F, ρ, env, st, w, er, p⟩ => ?_
  have p : Post X.K fa (relJ X.K fa fl) W F ρ H σ ((ev c a env st).bind fun x st => (ev c b env st).bind fun y st => match x.rdI fl, y.rdI fl with | some x, some y => DE.R.opt (itZip x y) st | _, _ => .bad) R := p
  refine ev0 (f := ev c a) w er (.refl _ _ _) p fun v H1 F1 ρ1 d1 st1 e1 w1 r1 p1 => ?_
  refine ev0 (f := ev c b) w1 (er.mono w e1) e1 p1 fun u H2 F2 ρ2 d2 st2 e2 w2 r2 p2 => ?_
  have r1' := (r1.mono w1.dis e2)
  have r2' := r2.anti e1
  cases q1 : d1.rdI fl with
  | none =>
    simp only [q1] at p2
    exact p2.elim
  | some x =>
    cases q2 : d2.rdI fl with
    | none =>
      simp only [q1, q2] at p2
      exact p2.elim
    | some y =>
      simp only [q1, q2] at p2
      cases x with
      | lst xs =>
        cases y with
        | lst ys =>
          obtain ⟨ad, vs, rfl, h1, h2, h3, h4⟩ := lst_at w2 r1' q1
          obtain ⟨bd, ws, rfl, g1, g2, g3, g4⟩ := lst_at w2 r2' q2
          refine ⟨ad, bd, vs, ws, rfl, .inl ⟨SqL.of h1, SqL.of g1, p2 _ F2 ρ2 H2 (e1.trans e2) w2 ⟨[ad, bd], itw_zipL (fun H' s => ⟨SqL.of (by rw [s ad (by simp)]; exact h1), SqL.of (by rw [s bd (by simp)]; exact g1)⟩) h2 g2, fun b hb => ?_⟩⟩⟩
          have e : b = ad ∨ b = bd := by simpa using hb
          rcases e with rfl | rfl
          · exact ⟨h3, ⟨_, h1, fun _ z => nomatch z⟩, h4⟩
          · exact ⟨g3, ⟨_, g1, fun _ z => nomatch z⟩, g4⟩
        | _ => exact p2.elim
      | tup xs =>
        cases y with
        | tup ys =>
          obtain ⟨ad, vs, S, rfl, h1, h2, h3⟩ := tup_at w2 r1' q1
          obtain ⟨bd, ws, S', rfl, g1, g2, g3⟩ := tup_at w2 r2' q2
          have hh : ∀ H' : Hp, (∀ z, z ∈ S ++ S' → H' z = H2 z) → SqT X.K H' ad vs ∧ SqT X.K H' bd ws := fun H' s => ⟨h1 H' fun z hz => s z (List.mem_append_left _ hz), g1 H' fun z hz => s z (List.mem_append_right _ hz)⟩
          refine ⟨ad, bd, vs, ws, rfl, .inr ⟨(hh H2 fun _ _ => rfl).1, (hh H2 fun _ _ => rfl).2, p2 _ F2 ρ2 H2 (e1.trans e2) w2 ⟨S ++ S', itw_zipT hh h2 g2, fun b hb => ?_⟩⟩⟩
          rcases List.mem_append.mp hb with hb | hb
          · exact ⟨(h3 b hb).1, (h3 b hb).2.1, fun _ => .inl (h3 b hb).2.2⟩
          · exact ⟨(g3 b hb).1, (g3 b hb).2.1, fun _ => .inl (g3 b hb).2.2⟩
        | _ => exact p2.elim
      | _ => cases y <;> exact p2.elim
theorem i_enum {x : Str} {elts : List Expr} {kk : Nat} {tp : Pos} (hx : x = (Str.ofString "enumerate")) (hg : Gl X x) (hm : X.mg x = none) (ha : PE X e1 (tEv X.K fa W c a)) (hst : ∀ r, starEach (e1 :: r) X.env = (false, eval e1 X.env) :: starEach r X.env) :
    PI X (.Tuple elts kk tp) (.Call (.Name x p) [e1] [] pos) (tIv X.K fa W c fl (.enum a)) := by
  subst hx
  refine pi_of (pi_enum hg hm (pa_cons ha pa_nil (hst _)) (hst _)) fun σ H R ⟨F, ρ, env, st, w, er, p⟩ => ?_
  have p : Post X.K fa (relJ X.K fa fl) W F ρ H σ ((ev c a env st).bind fun x st => match x.rdI fl with | some x => DE.R.opt (itEnum x) st | none => .bad) R := p
  refine ev0 (f := ev c a) w er (.refl _ _ _) p fun v H1 F1 ρ1 d1 st1 e1 w1 r1 p1 => ?_
  cases q1 : d1.rdI fl with
  | none =>
    simp only [q1] at p1
    exact p1.elim
  | some x =>
    simp only [q1] at p1
    cases x with
    | lst xs =>
      obtain ⟨ad, vs, rfl, h1, h2, h3, h4⟩ := lst_at w1 r1 q1
      refine ⟨ad, vs, rfl, SqL.of h1, p1 _ F1 ρ1 H1 e1 w1 ⟨[ad], itw_enum (fun H' s => SqL.of (by rw [s ad (by simp)]; exact h1)) h2, fun b hb => ?_⟩⟩
      have e : b = ad := by simpa using hb
      subst e
      exact ⟨h3, ⟨_, h1, fun _ z => nomatch z⟩, h4⟩
    | _ => exact p1.elim
end
end DE
end

section
set_option Elab.async false
set_option linter.all false
set_option maxRecDepth 100000
set_option autoImplicit false
namespace DE
open PySem PySem.Spec L2
theorem R.bind_assoc {α β γ : Type} (r : R α) (f : α → Store → R β) (g : β → Store → R γ) : (r.bind f).bind g = r.bind fun a st => (f a st).bind g := by
  cases r <;> rfl
section
variable {K : PySem.W.Frag} {fa : Fa} {F F' : Addr → Prop} {ρ ρ' : List Addr} {H H' H0 : Hp} {st : Store} {D : Addr}
theorem ext_updF (e : Ext F ρ H F' ρ' H') (hD : H D = none) (vs : List V) : Ext F ρ H F' ρ' (upd H' D (.lst vs)) :=
  ⟨e.sub, e.new, e.pre, fun a q h hn ht => by rw [upd_ne (ne_of_none h hD)]; exact e.keep a q h hn ht, fun a h => e.there a (nt_upd (o := .lst vs) (fun _ z => nomatch z) h)⟩
theorem Wok.updF (w : Wok K fa F ρ H st) (hf : ¬ F D) (hr : D ∉ ρ) {ws : List V} (hD : H D = some (.lst ws)) (vs : List V) : Wok K fa F ρ (upd H D (.lst vs)) st := by
  have ne : ∀ a, F a → a ≠ D := fun a f (z : a = D) => hf (z ▸ f)
  have kp : ∀ a q, F a → H a = some q → upd H D (.lst vs) a = some q := fun a q f h => by
    rw [upd_ne (ne a f)]
    exact h
  refine ⟨w.len, w.nd, fun n a q h1 h2 => ?_, w.dis, fun a f q => w.has a f (nt_upd (o := .lst vs) (fun _ z => nomatch z) q), tabs_upd w.tab hD⟩
  · have h := w.box n a q h1 h2
    cases q with
    | lst xs =>
      obtain ⟨vs, h3, h4⟩ := h
      exact ⟨vs, by rw [upd_ne (fun (z : a = D) => hr (z ▸ List.mem_of_getElem? h1))]; exact h3, h4.mono2 (fun _ h => h) fun a q f h _ => kp a q f h⟩
    | dic kvs => exact h.elim
theorem VRs.updF {vs : List V} {xs : List P} (h : VRs K fa F H vs xs) (hf : ¬ F D) (o : HO) : VRs K fa F (upd H D o) vs xs := h.mono2 (fun _ h => h) fun a q f h _ => by
  rw [upd_ne (fun (z : a = D) => hf (z ▸ f))]
  exact h
end
section
variable {X : Cx} {fa : Fa} {W : WX} {c : Cf}
theorem c_compR {wi : TI} {it : IT} {tgt : Tg} {elt : IE} {cond : IO} {tt : TT} {te : TE} {σ : L2.St} {H : Hp} {Q : VK}
    (hwi : ∀ σ H R, tIv X.K fa W c false it σ H R → wi σ H R) (htt : ∀ σ H Q, tEvT X.K fa W0 c (fun env st => evC c cond env st) σ H Q → tt σ H Q) (hte : ∀ σ H Q, tEv X.K fa W0 c elt σ H Q → te σ H Q)
    (h : tEv X.K fa W c (.comp elt tgt it cond) σ H Q) : tLc wi (gTv X.K fa tgt) tt te tgt.slots σ H Q := by
  obtain ⟨F, ρ, env, st, w, er, p⟩ := h
  have p : PostD X.K fa W F ρ H σ ((evI c false it env st).bind fun xs st => (compGo (fun env st => ev c elt env st) (fun env st => evC c cond env st) tgt (wip env tgt.slots) xs [] st).bind fun ys st => .ok (.new ys) st) Q := p
  refine hwi σ H _ ⟨F, ρ, env, st, w, er, (p.step0 (rel1 := relJ X.K fa false) (.refl _ _ _)).imp fun J H1 ⟨F1, ρ1, xs, st1, e1, w1, r1, p1⟩ => ?_⟩
  obtain ⟨S, itw, hS⟩ := r1
  intro Dl hD
  have hDH : nt H Dl = none := e1.there Dl (nt_of hD)
  have keepS : ∀ {F' : Addr → Prop} {ρ' : List Addr} {H' : Hp}, Ext F1 ρ1 H1 F' ρ' H' → ∀ a, a ∈ S → H' a = H1 a := fun {F' ρ' H'} e a ha => by
    obtain ⟨s1, ⟨o, s2, s3⟩, _⟩ := hS a ha
    rw [e.keep a o s2 s1 s3, s2]
  refine ⟨fun i m H' => m = xs.length - i ∧ i ≤ xs.length ∧ ∃ F' ρ' st' vacc acc, Ext F1 ρ1 H1 F' ρ' H' ∧ Wok X.K fa F' ρ' H' st' ∧ H' Dl = some (.lst vacc) ∧ VRs X.K fa F' H' vacc acc ∧ ¬ F' Dl ∧ Dl ∉ ρ' ∧
      PostD X.K fa W F ρ H σ ((compGo (fun env st => ev c elt env st) (fun env st => evC c cond env st) tgt (wip env tgt.slots) (xs.drop i) acc st').bind fun ys st => .ok (.new ys) st) Q,
    ⟨xs.length, by simp, Nat.zero_le _, F1, ρ1, st1, [], [], ext_new hD, w1.new hD, upd_same, .nil, w1.freeF (nt_of hD), w1.free (nt_of hD), p1⟩, ?_⟩
  rintro i m H' ⟨rfl, hi, F', ρ', st', vacc, acc, ex, wk, hl, hv, hf, hr, pp⟩
  have hS' := keepS ex
  by_cases hlt : i < xs.length
  · -- a turn
    refine .inr ⟨itw.go H' i hS' hlt, fun H2 => ∃ F' ρ' st' vacc acc, Ext F1 ρ1 H1 F' ρ' H2 ∧ Wok X.K fa F' ρ' H2 st' ∧ H2 Dl = some (.lst vacc) ∧ VRs X.K fa F' H2 vacc acc ∧ ¬ F' Dl ∧ Dl ∉ ρ' ∧
      PostD X.K fa W F ρ H σ ((compGo (fun env st => ev c elt env st) (fun env st => evC c cond env st) tgt (wip env tgt.slots) (xs.drop (i + 1)) acc st').bind fun ys st => .ok (.new ys) st) Q,
      fun H2 h2 => ⟨xs.length - (i + 1), by omega, rfl, hlt, h2⟩, fun v H2 y => ?_⟩
    have hx : xs[i]? = some xs[i] := List.getElem?_eq_getElem hlt
    have hdrop : xs.drop i = xs[i] :: xs.drop (i + 1) := List.drop_eq_getElem_cons hlt
    rw [hdrop] at pp
    obtain ⟨F2, ex2, wk2, hv2, _⟩ := itw.yld F' ρ' H' st' i xs[i] v H2 hS' ex.sub (fun a o f h nt => ex.keep a o h (fun z => w1.dis a z f) nt) wk hx y
    have pp : PostD X.K fa W F ρ H σ ((match asgT tgt (.p xs[i]) (wip env tgt.slots) with
      | some env1 => (evC c cond env1 st').nx.bind fun b st1 => if b then
          (ev c elt env1 st1).nx.bind fun d st2 => match d.keep with
            | some y => if decide (acc.length < sizeLine) then compGo (fun env st => ev c elt env st) (fun env st => evC c cond env st) tgt (wip env tgt.slots) (xs.drop (i + 1)) (acc ++ [y]) st2 else .bad
            | none => .bad
        else compGo (fun env st => ev c elt env st) (fun env st => evC c cond env st) tgt (wip env tgt.slots) (xs.drop (i + 1)) acc st1
      | none => .bad).bind fun ys st => .ok (.new ys) st) Q := pp
    cases hq : asgT tgt (.p xs[i]) (wip env tgt.slots) with
    | none =>
      rw [hq] at pp
      exact pp.elim
    | some env1 =>
      rw [hq] at pp
      have ex3 := ex.trans ex2
      have e3 := e1.trans ex3
      have erw : ERel X.K fa F2 ρ' H2 (L2.wipe σ tgt.slots) (wip env tgt.slots) := (er.mono w e3).wip _
      refine ⟨F2, ρ', wip env tgt.slots, .p xs[i], env1, hv2, erw, hq, fun σ2 er2 off => ⟨?_, ?_⟩⟩
      · rw [off.wipe]
        exact Off.wipe ⟨wipe_length _ _, fun j hj => by rw [wipe_get, if_neg hj]⟩
      · simp only [R.bind_assoc] at pp
        refine htt _ _ _ ⟨F2, ρ', env1, st', wk2, er2, ((pp.step0 (rel1 := relE) e3).nx).imp fun b H3 ⟨F3, ρ3, b', st3, e4, w3, r3, p3⟩ => ?_⟩
        cases (show b = b' from r3)
        have hl' : nt H' Dl ≠ none := nt_lst hl
        have hD2 : H2 Dl = some (.lst vacc) := ex2.keep _ _ hl hr (fun _ z => nomatch z)
        have hl2 : nt H2 Dl ≠ none := nt_lst hD2
        have hD3 : H3 Dl = some (.lst vacc) := e4.keep _ _ hD2 (ex2.notin hr (nt_lst hl)) (fun _ z => nomatch z)
        have hl3 : nt H3 Dl ≠ none := nt_lst hD3
        have hf3 : ¬ F3 Dl := e4.notF (ex2.notF hf hl') hl2
        have hr3 : Dl ∉ ρ3 := e4.notin (ex2.notin hr hl') hl2
        have hv3 : VRs X.K fa F3 H3 vacc acc := (hv.mono wk.dis ex2).mono wk2.dis e4
        cases b with
        | false => exact iteF ⟨F3, ρ3, st3, vacc, acc, ex3.trans e4, w3, hD3, hv3, hf3, hr3, by simpa using p3⟩
        | true =>
          have p3' : PostD X.K fa W F ρ H σ ((ev c elt env1 st3).nx.bind fun a st => (match a.keep with
              | some y => if decide (acc.length < sizeLine) then compGo (fun env st => ev c elt env st) (fun env st => evC c cond env st) tgt (wip env tgt.slots) (xs.drop (i + 1)) (acc ++ [y]) st else .bad
              | none => .bad).bind fun ys st => .ok (.new ys) st) Q := by
            rw [← R.bind_assoc]
            simpa using p3
          refine iteT (hte _ _ _ ⟨F3, ρ3, env1, st3, w3, er2.mono wk2 e4, ((p3'.step0 (rel1 := relD X.K fa) (e3.trans e4)).nx).imp fun y H4 ⟨F4, ρ4, d, st4, e5, w4, r4, p4⟩ => ?_⟩)
          have hD4 : H4 Dl = some (.lst vacc) := e5.keep _ _ hD3 hr3 (fun _ z => nomatch z)
          have hf4 : ¬ F4 Dl := e5.notF hf3 hl3
          have hr4 : Dl ∉ ρ4 := e5.notin hr3 hl3
          cases qk : d.keep with
          | none =>
            simp only [qk] at p4
            exact p4.elim
          | some x =>
            simp only [qk] at p4
            cases hm : decide (acc.length < sizeLine) with
            | false =>
              simp only [hm] at p4
              exact p4.elim
            | true =>
              simp only [hm] at p4
              obtain ⟨F5, e6, w5, r5, s5, n5⟩ := DR.keep w4 e5 r4 qk
              have hf5 : ¬ F5 Dl := fun z => by
                rcases n5 Dl z with z | ⟨z, _⟩
                · exact hf4 z
                · exact nt_lst hD3 z
              have hv5 : VRs X.K fa F5 H4 (vacc ++ [y]) (acc ++ [x]) := ((hv3.mono w3.dis e5).sub s5).append (.cons r5 .nil)
              exact ⟨vacc, hD4, by rw [hv3.length]; exact of_decide_eq_true hm, F5, ρ4, st4, vacc ++ [y], acc ++ [x], ext_updF ((ex3.trans e4).trans e6) hD _, w5.updF hf5 hr4 hD4 _, upd_same, hv5.updF hf5 _, hf5, hr4, p4⟩
  · have he : i = xs.length := by omega
    subst he
    refine .inl ⟨itw.stop H' _ hS' (Nat.le_refl _), ?_⟩
    rw [List.drop_length] at pp
    exact pp (.ref Dl) F' ρ' H' (e1.trans ex) wk ⟨Dl, vacc, rfl, hl, hv, hf, hr, hDH⟩
end
end DE
end

section
set_option Elab.async false
set_option linter.all false
set_option maxRecDepth 100000
set_option autoImplicit false
namespace DE
open PySem PySem.Spec L2
section
variable {X : Cx} {fa : Fa} {W : WX} {c : Cf}
/-- an expression that is a constant -/
def CE (X : Cx) (fa : Fa) (c : Cf) (a : IE) (e : Expr) : Prop := (∃ v x, PE X e (tC v) ∧ (∀ env st, ev c a env st = .ok (.p x) st) ∧ ∀ F H, VR X.K fa F H v x) ∨ ∀ env st, ev c a env st = .bad
theorem dget_core {gt : Bool} {k1 k2 : Str} {v1 v2 : V} {x1 x2 : DE.P} {i1 i2 a : IE} (h1 : ∀ env st, ev c i1 env st = .ok (.p x1) st) (h2 : ∀ env st, ev c i2 env st = .ok (.p x2) st)
    (r1 : ∀ F H, VR X.K fa F H v1 x1) (r2 : ∀ F H, VR X.K fa F H v2 x2) (hk : k1 ≠ k2) {σ : L2.St} {H : Hp} {Q : VK} (h : tEv X.K fa W c (.dget gt [k1, k2] (.cons i1 (.cons i2 .nil)) a) σ H Q) (p : Addr) (hp : H p = none) :
    tEv X.K fa W c a σ (upd H p (.dK (mergeK [] [(.inr k1, v1), (.inr k2, v2)]))) fun y H2 => ∃ o, DGet H2 p y o ∧ (gt = false → ∃ v, o = some v) ∧ Q (o.getD .non) H2 := by
  obtain ⟨F, ρ, env, st, w, er, q⟩ := h
  have e0 : mergeK [] [(.inr k1, v1), (.inr k2, v2)] = [((.inr k1 : Key), v1), (.inr k2, v2)] := by
    have hn : ¬ ((.inr k1 : Key) = .inr k2) := fun h => hk (by cases h; rfl)
    simp [mergeK, putK, hn]
  rw [e0]
  have q : Post X.K fa (relD X.K fa) W F ρ H σ ((ev c a env st).bind fun x st => match x with | .p (.str z) => dGet gt [(k1, x1), (k2, x2)] z st | _ => .bad) Q := by
    have q : Post X.K fa (relD X.K fa) W F ρ H σ (ev c (.dget gt [k1, k2] (.cons i1 (.cons i2 .nil)) a) env st) Q := q
    rw [ev] at q
    simp only [evL, h1, h2, R.bind, keeps, D.keep, List.zip_cons_cons, List.zip_nil_right] at q
    exact q
  have e1 : Ext F ρ H F ρ (upd H p (.dK [((.inr k1 : Key), v1), (.inr k2, v2)])) := ext_new hp
  refine ev0 (f := ev c a) (w.new hp) (er.mono w e1) e1 q fun y H3 F3 ρ3 d st3 e3 w3 r3 p3 => ?_
  have hd : H3 p = some (.dK [((.inr k1 : Key), v1), (.inr k2, v2)]) := e3.keep _ _ upd_same (w.free (nt_of hp)) (fun _ z => nomatch z)
  cases d with
  | p z =>
    cases z with
    | str z =>
      cases (VR.r r3).str
      have g := DGet.k (k := .inr z) hd
      refine ⟨_, g, ?_⟩
      have p3 : Post X.K fa (relD X.K fa) W F ρ H σ (dGet gt [(k1, x1), (k2, x2)] z st3) Q := p3
      by_cases c1 : k1 = z
      · subst c1
        rw [valV_pos rfl]
        have l : ([(k1, x1), (k2, x2)] : List (Str × DE.P)).lookup k1 = some x1 := by simp [List.lookup]
        unfold dGet at p3
        simp only [l] at p3
        exact ⟨fun _ => ⟨_, rfl⟩, p3 _ F3 ρ3 H3 (e1.trans e3) w3 (r1 _ _)⟩
      · have hn : ¬ ((.inr k1 : Key) = .inr z) := fun h => c1 (by cases h; rfl)
        rw [valV_neg hn]
        by_cases c2 : k2 = z
        · subst c2
          rw [valV_pos rfl]
          have b1 : (k2 == k1) = false := beq_eq_false_iff_ne.mpr fun h => c1 h.symm
          have l : ([(k1, x1), (k2, x2)] : List (Str × DE.P)).lookup k2 = some x2 := by simp [List.lookup, b1]
          unfold dGet at p3
          simp only [l] at p3
          exact ⟨fun _ => ⟨_, rfl⟩, p3 _ F3 ρ3 H3 (e1.trans e3) w3 (r2 _ _)⟩
        · have hn2 : ¬ ((.inr k2 : Key) = .inr z) := fun h => c2 (by cases h; rfl)
          rw [valV_neg hn2, valV_nil]
          have b1 : (z == k1) = false := beq_eq_false_iff_ne.mpr fun h => c1 h.symm
          have b2 : (z == k2) = false := beq_eq_false_iff_ne.mpr fun h => c2 h.symm
          have l : ([(k1, x1), (k2, x2)] : List (Str × DE.P)).lookup z = none := by simp [List.lookup, b1, b2]
          unfold dGet at p3
          simp only [l] at p3
          cases gt with
          | false => exact p3.elim
          | true => exact ⟨fun h => (Bool.noConfusion h), p3 _ F3 ρ3 H3 (e1.trans e3) w3 (VR.non)⟩
    | _ => exact p3.elim
  | _ => exact p3.elim
variable {e1 e2 r : Expr} {p1 p2 kp1 kp2 ap cp : Pos} {q1 q2 : Nat} {gt : Bool} {k1 k2 : Str} {i1 i2 a : IE}
theorem bad1 {Q : VK} {σ : L2.St} {H : Hp} (h : (∀ env st, ev c i1 env st = .bad) ∨ ∀ env st, ev c i2 env st = .bad) (hg : tEv X.K fa W c (.dget gt [k1, k2] (.cons i1 (.cons i2 .nil)) a) σ H Q) (h1 : ∀ env st, (∃ x, ev c i1 env st = .ok (.p x) st) ∨ ev c i1 env st = .bad) : False := by
  obtain ⟨F, ρ, env, st, w, er, q⟩ := hg
  have q : Post X.K fa (relD X.K fa) W F ρ H σ (ev c (.dget gt [k1, k2] (.cons i1 (.cons i2 .nil)) a) env st) Q := q
  rw [ev] at q
  rcases h with h | h
  · simp only [evL, h, R.bind] at q
    exact q
  · rcases h1 env st with ⟨x, h1⟩ | h1
    · simp only [evL, h, h1, R.bind] at q
      exact q
    · simp only [evL, h1, R.bind] at q
      exact q
theorem disp_two {v1 v2 : V} (h1 : PE X e1 (tC v1)) (h2 : PE X e2 (tC v2)) : PE X (.Dict [some (.Constant (.str k1) q1 kp1), some (.Constant (.str k2) q2 kp2)] [e1, e2] p1) (tDisp [(tC (.str k1), tC v1), (tC (.str k2), tC v2)]) :=
  pe_disp (pps_cons pe_str h1 (pps_cons pe_str h2 pps_nil)) rfl rfl (by simp) (by simp)
theorem disp_at {v1 v2 : V} {σ : L2.St} {H : Hp} {Q : VK} (h : ∀ p, H p = none → Q (.ref p) (upd H p (.dK (mergeK [] [(.inr k1, v1), (.inr k2, v2)])))) : tDisp [(tC (.str k1), tC v1), (tC (.str k2), tC v2)] σ H Q := fun p hp =>
  ⟨upd_same, [(.inr k1, v1), (.inr k2, v2)], rfl, by simp, by rw [upd_upd]; exact h p hp⟩
theorem c_dget0 (hu : X.A.units + 1 < cLine) (h1 : CE X fa c i1 e1) (h2 : CE X fa c i2 e2) (hk : k1 ≠ k2) (ha : PE X r (tEv X.K fa W c a)) (hs : NoSl r) :
    PE X (.Subscript (.Dict [some (.Constant (.str k1) q1 kp1), some (.Constant (.str k2) q2 kp2)] [e1, e2] p1) r p2) (tEv X.K fa W c (.dget false [k1, k2] (.cons i1 (.cons i2 .nil)) a)) := by
  rcases h1 with ⟨v1, x1, g1, g2, g3⟩ | b
  · rcases h2 with ⟨v2, x2, f1, f2, f3⟩ | b
    · refine pe_of (pe_dget hu (disp_two g1 f1) ha hs) fun σ H Q h => disp_at fun p hp => ?_
      refine imp1 (dget_core g2 f2 g3 f3 hk h p hp) fun y H2 ⟨o, d, ho, q⟩ => ?_
      obtain ⟨v, rfl⟩ := ho rfl
      exact ⟨p, v, rfl, d, q⟩
    · exact ⟨fun pins s σ H Q I h => (bad1 (.inr b) h fun env st => .inl ⟨_, g2 env st⟩).elim⟩
  · exact ⟨fun pins s σ H Q I h => (bad1 (.inl b) h fun env st => .inr (b env st)).elim⟩
theorem c_dget1 (hu : X.A.units + 1 < cLine) (h1 : CE X fa c i1 e1) (h2 : CE X fa c i2 e2) (hk : k1 ≠ k2) (ha : PE X r (tEv X.K fa W c a)) (hl : (ap.endLine == cp.line) = true)
    (hst : starEach [r] X.env = (false, eval r X.env) :: starEach [] X.env) {name : Str} (hn : name = Str.ofString "get") :
    PE X (.Call (.Attribute (.Dict [some (.Constant (.str k1) q1 kp1), some (.Constant (.str k2) q2 kp2)] [e1, e2] p1) name ap) [r] [] cp) (tEv X.K fa W c (.dget true [k1, k2] (.cons i1 (.cons i2 .nil)) a)) := by
  subst hn
  rcases h1 with ⟨v1, x1, g1, g2, g3⟩ | b
  · rcases h2 with ⟨v2, x2, f1, f2, f3⟩ | b
    · refine pe_of (pe_dget1 hu (disp_two g1 f1) ha ⟨base_of rfl, by rw [hst]; rfl, hl, by rw [hst]; rfl⟩) fun σ H Q h => disp_at fun p hp => ?_
      refine ⟨p, rfl, .inl ⟨_, .inl upd_same⟩, ?_⟩
      refine imp1 (dget_core g2 f2 g3 f3 hk h p hp) fun y H2 ⟨o, d, _, q⟩ => ⟨o, d, q⟩
    · exact ⟨fun pins s σ H Q I h => (bad1 (.inr b) h fun env st => .inl ⟨_, g2 env st⟩).elim⟩
  · exact ⟨fun pins s σ H Q I h => (bad1 (.inl b) h fun env st => .inr (b env st)).elim⟩
end
end DE
end

section
set_option Elab.async false
set_option linter.all false
set_option maxRecDepth 100000
set_option autoImplicit false
namespace DE
open PySem PySem.Spec L2
theorem insB_perm {α : Type} (le : α → α → Bool) (x : α) : ∀ l : List α, (insB le x l).Perm (x :: l)
  | [] => List.Perm.refl _
  | y :: r => by
    unfold insB
    split
    · exact List.Perm.refl _
    · exact ((insB_perm le x r).cons y).trans (List.Perm.swap x y r)
theorem srtB_perm {α : Type} (le : α → α → Bool) : ∀ l : List α, (srtB le l).Perm l
  | [] => List.Perm.refl _
  | y :: r => (insB_perm le y (srtB le r)).trans ((srtB_perm le r).cons y)
structure Ord {α : Type} (le : α → α → Bool) : Prop where
  tot : ∀ x y, le x y = false → le y x = true
  tr : ∀ x y z, le x y = true → le y z = true → le x z = true
  anti : ∀ x y, le x y = true → le y x = true → x = y
theorem insB_up {α : Type} {le : α → α → Bool} (O : Ord le) {x : α} : ∀ {l : List α}, l.Pairwise (fun a b => le a b = true) → (insB le x l).Pairwise (fun a b => le a b = true)
  | [], _ => List.pairwise_singleton _ _
  | y :: r, h => by
    obtain ⟨h1, h2⟩ := List.pairwise_cons.mp h
    unfold insB
    split
    · rename_i q
      refine List.pairwise_cons.mpr ⟨fun z hz => ?_, h⟩
      rcases List.mem_cons.mp hz with rfl | hz
      · exact q
      · exact O.tr _ _ _ q (h1 z hz)
    · rename_i q
      refine List.pairwise_cons.mpr ⟨fun z hz => ?_, insB_up O h2⟩
      rcases List.mem_cons.mp ((insB_perm le x r).mem_iff.mp hz) with rfl | hz
      · exact O.tot _ _ (by simpa using q)
      · exact h1 z hz
theorem srtB_up {α : Type} {le : α → α → Bool} (O : Ord le) : ∀ l : List α, (srtB le l).Pairwise (fun a b => le a b = true)
  | [] => List.Pairwise.nil
  | y :: r => insB_up O (srtB_up O r)
theorem srtB_uniq {α : Type} {le : α → α → Bool} (O : Ord le) {l m : List α} (h1 : m.Perm l) (h2 : m.Pairwise (fun a b => le a b = true)) : m = srtB le l :=
  List.Perm.eq_of_pairwise (fun a b _ _ => O.anti a b) h2 (srtB_up O l) (h1.trans (srtB_perm le l).symm)
theorem ord_I : Ord leI := ⟨fun x y h => by simp only [leI, decide_eq_false_iff_not, decide_eq_true_eq] at *; omega, fun x y z h1 h2 => by simp only [leI, decide_eq_true_eq] at *; omega, fun x y h1 h2 => by simp only [leI, decide_eq_true_eq] at *; omega⟩
theorem leP_iff {p q : Int × Int} : leP p q = true ↔ ¬ (q.1 < p.1 ∨ (q.1 = p.1 ∧ q.2 < p.2)) := by
  unfold leP
  rw [Bool.not_eq_true', SrtO.lexB_no]
theorem ord_P : Ord leP := by
  refine ⟨fun x y h => ?_, fun x y z h1 h2 => ?_, fun x y h1 h2 => ?_⟩
  · have h : ¬ leP x y = true := by rw [h]; decide
    rw [leP_iff] at h ⊢
    omega
  · rw [leP_iff] at h1 h2 ⊢
    omega
  · rw [leP_iff] at h1 h2
    obtain ⟨a, b⟩ := x
    obtain ⟨c, d⟩ := y
    simp only at h1 h2
    have e1 : a = c := by omega
    have e2 : b = d := by omega
    rw [e1, e2]
def rdPair (h : Heap) : Value → Int × Int
  | .ref t => match h.get? t with
    | some ⟨_, _, .seq xs _, _⟩ => match xs.toList with
      | [.int i _, .int j _] => (i, j)
      | _ => (0, 0)
    | _ => (0, 0)
  | _ => (0, 0)
def rSortP (K : PySem.W.Frag) : List V → Hp → VK → Prop := fun vs H Q => ∃ (a : Addr) (xs : List V) (ps : List (Int × Int)), vs = [V.ref a] ∧ SqL K H a xs ∧ xs.length = ps.length ∧ (∀ z ∈ xs.zip ps, ∃ t, z.1 = V.ref t ∧ SqT K H t [.int z.2.1, .int z.2.2]) ∧
  ∀ (ys : List V) (k : V → Int × Int) (p : Addr), (∀ z ∈ xs.zip ps, k z.1 = z.2) → ys.Perm xs → ys.Pairwise (fun x y => leP (k x) (k y) = true) → H p = none → Q (.ref p) (upd H p (.lst ys))
theorem zip_left {α β : Type} : ∀ {xs : List α} {ps : List β}, xs.length = ps.length → ∀ x ∈ xs, ∃ q, (x, q) ∈ xs.zip ps
  | [], _, _, _, h => by cases h
  | y :: xs, [], e, _, _ => by cases e
  | y :: xs, q :: ps, e, x, h => by
    rcases List.mem_cons.mp h with rfl | h
    · exact ⟨q, List.mem_cons_self⟩
    · obtain ⟨r, hr⟩ := zip_left (by simpa using e) x h
      exact ⟨r, List.mem_cons_of_mem _ hr⟩
theorem cr_sortP {X : Cx} : CallR X (.builtin "sorted") (rSortP X.K) := by
  intro pins s σ H vs us Q I r h
  obtain ⟨a, xs, ps, rfl, hs, hl, hx, q⟩ := h
  obtain ⟨its, rv, hi, hz⟩ := I.list hs
  obtain ⟨u, rfl, ru⟩ := vals1 r
  obtain rfl : u = Value.ref a := ru
  have isP : ∀ z ∈ xs.zip ps, ∃ t, z.1 = V.ref t ∧ Srt.IsPair s.heap (.ref t) z.2.1 z.2.2 ∧ rdPair s.heap (.ref t) = z.2 := fun z m => by
    obtain ⟨t, e, ht⟩ := hx z m
    obtain ⟨its2, r2, ⟨⟨c0, d0, x0, s0⟩, ho, hc, n, hd⟩, _⟩ := I.tuple ht
    simp only at hc hd
    subst hc hd
    obtain ⟨u1, u2, rfl, ri, rj⟩ := vals2 r2
    obtain ⟨t1, rfl⟩ := ri
    obtain ⟨t2, rfl⟩ := rj
    refine ⟨t, e, ⟨t, _, t1, t2, n, rfl, ho, rfl, rfl⟩, ?_⟩
    unfold rdPair
    simp only [ho]
  obtain ⟨e1, e2⟩ := refs_back rv fun x m => by
    obtain ⟨p, hp⟩ := zip_left hl x m
    obtain ⟨t, e, _⟩ := isP _ hp
    exact ⟨t, e⟩
  refine SrtO.sorted_pairsO (k := rdPair s.heap) hi.isList (by rw [← rv.length]; exact hz) (fun v hv => ?_) fun h' d out h1 h2 kp hd hn => ?_
  · obtain ⟨t, rfl⟩ := e2 v hv
    have hm : V.ref t ∈ xs := by rw [e1]; exact List.mem_map.mpr ⟨_, hv, rfl⟩
    obtain ⟨p, hp⟩ := zip_left hl _ hm
    obtain ⟨t', e, i1, i2⟩ := isP _ hp
    cases e
    rw [i2]
    exact i1
  · have h3 : ∀ u ∈ out, ∃ a, u = Value.ref a := fun u hu => e2 u (h2.perm.mem_iff.mp hu)
    obtain ⟨n, hn⟩ := hn
    have pm : (out.map backV).Perm xs := by
      rw [e1]
      exact h2.perm.map backV
    refine ⟨.ref d, upd H d (.lst (out.map backV)), I.laid (t' := s.toks) kp hd ⟨?_, out, n, vals_back h3, hn⟩, rfl, q _ (fun x => match x with
      | .ref t => rdPair s.heap (.ref t)
      | _ => (0, 0)) d (fun z m => ?_) pm ?_ (I.hok.fresh hd)⟩
    · rw [pm.length_eq]
      exact hz
    · obtain ⟨t, e, _, i2⟩ := isP z m
      rw [e]
      exact i2
    · rw [List.pairwise_map]
      refine List.Pairwise.imp_of_mem (fun {x y} mx my hxy => ?_) h1
      obtain ⟨tx, rfl⟩ := h3 x mx
      obtain ⟨ty, rfl⟩ := h3 y my
      have hxy : SrtO.lexB (rdPair s.heap (.ref ty)) (rdPair s.heap (.ref tx)) = false := hxy
      show (!SrtO.lexB (rdPair s.heap (.ref ty)) (rdPair s.heap (.ref tx))) = true
      rw [hxy]
      rfl
section
variable {X : Cx} {fa : Fa} {W : WX} {c : Cf} {e : Expr} {a : IE} {p p2 q2 pos : Pos}
theorem VRs.ints' {K : PySem.W.Frag} {F : Addr → Prop} {H : Hp} : ∀ {vs : List V} {xs : List P} {ns : List Int}, VRs K fa F H vs xs → allInt xs = some ns → vs = ns.map V.int
  | _, _, _, .nil, e => by
    cases e
    rfl
  | _, _, _, .cons (x := x) (xs := xs) r b, e => by
    cases r with
    | int c =>
      have e' : (allInt xs).map (c :: ·) = some _ := e
      cases q : allInt xs with
      | none =>
        rw [q] at e'
        cases e'
      | some bs =>
        rw [q] at e'
        cases e'
        rw [b.ints' q] <;> rfl
    | _ => cases e
theorem VRs.ofInts {K : PySem.W.Frag} {F : Addr → Prop} {H : Hp} : ∀ zs : List Int, VRs K fa F H (zs.map V.int) (zs.map P.int)
  | [] => .nil
  | z :: zs => .cons (.int z) (VRs.ofInts zs)
theorem allPair_eq : ∀ {xs : List P} {ps : List (Int × Int)}, allPair xs = some ps → xs = ps.map pairP
  | [], _, e => by
    cases e
    rfl
  | x :: xs, ps, e => by
    unfold allPair at e
    split at e
    · rename_i h1
      cases h1
    · rename_i a b ys h1
      cases h1
      cases q : allPair xs with
      | none =>
        rw [q] at e
        cases e
      | some qs =>
        rw [q] at e
        cases e
        rw [allPair_eq q]
        rfl
    · cases e
theorem VRs.len {K : PySem.W.Frag} {F : Addr → Prop} {H : Hp} : ∀ {vs : List V} {xs : List P}, VRs K fa F H vs xs → vs.length = xs.length
  | _, _, .nil => rfl
  | _, _, .cons _ b => by rw [List.length_cons, List.length_cons, b.len]
theorem VRs.zip {K : PySem.W.Frag} {F : Addr → Prop} {H : Hp} : ∀ {vs : List V} {ps : List (Int × Int)}, VRs K fa F H vs (ps.map pairP) → ∀ z ∈ vs.zip ps, VR K fa F H z.1 (pairP z.2)
  | _, [], .nil, z, h => by cases h
  | _, q :: ps, .cons r b, z, h => by
    rcases List.mem_cons.mp h with rfl | h
    · exact r
    · exact b.zip z h
theorem VRs.back {K : PySem.W.Frag} {F : Addr → Prop} {H : Hp} {vs : List V} {ps : List (Int × Int)} {k : V → Int × Int} (h : ∀ z ∈ vs.zip ps, VR K fa F H z.1 (pairP z.2)) (hk : ∀ z ∈ vs.zip ps, k z.1 = z.2) (hl : vs.length = ps.length) : ∀ {ys : List V}, (∀ y ∈ ys, y ∈ vs) → VRs K fa F H ys ((ys.map k).map pairP)
  | [], _ => .nil
  | y :: ys, hy => by
    obtain ⟨q, hq⟩ := zip_left hl y (hy y List.mem_cons_self)
    refine .cons ?_ (VRs.back h hk hl fun z hz => hy z (List.mem_cons_of_mem _ hz))
    rw [hk _ hq]
    exact h _ hq
theorem zip_map {vs : List V} {ps : List (Int × Int)} {k : V → Int × Int} : vs.length = ps.length → (∀ z ∈ vs.zip ps, k z.1 = z.2) → vs.map k = ps := by
  induction vs generalizing ps with
  | nil =>
    intro hl _
    cases ps with
    | nil => rfl
    | cons a b => cases hl
  | cons v vs ih =>
    intro hl hk
    cases ps with
    | nil => cases hl
    | cons q ps =>
      rw [List.map_cons, hk (v, q) List.mem_cons_self, ih (by simpa using hl) fun z hz => hk z (List.mem_cons_of_mem _ hz)]
theorem c_sort0 (hc : X.calm = true) (hg : Gl X "sorted") (hm : X.mg "sorted" = none) (hg2 : Gl X "set") (hm2 : X.mg "set" = none) (ha : PE X e (tEv X.K fa W c a)) (hst : starEach [e] X.env = (false, eval e X.env) :: starEach [] X.env) :
    PE X (.Call (.Name "sorted" p) [.Call (.Name "set" p2) [e] [] q2] [] pos) (tEv X.K fa W c (.sort 0 a)) := by
  refine pe_of (pe_callB (id := "sorted") (SX.cr_sortSet hc) hg hm (by decide +kernel) (pa_cons (pe_callTy (T := "set") (SX.cr_setS hc) hg2 hm2 (by decide +kernel) (pa_cons ha pa_nil hst) (by decide +kernel) (by decide +kernel) hst rfl) pa_nil rfl) (by decide +kernel) (by decide +kernel) rfl rfl) fun σ H Q ⟨F, ρ, env, st, w, er, pq⟩ => ?_
  refine ev1 (f := ev c a) (g := fun d st => match d.rd st with | some x => mkD (opSort 0 x) st | none => .bad) anti_D w er pq fun v H1 F1 ρ1 d st1 e1 w1 er1 r1 p1 => ?_
  cases q : d.rd st1 with
  | none =>
    simp only [q] at p1
    exact p1.elim
  | some x =>
    simp only [q] at p1
    have r := r1.rd w1 q
    cases x with
    | lst xs =>
      obtain ⟨ad, vs, rfl, h1, h2⟩ := r
      have p1 : PostD X.K fa W F1 ρ1 H1 σ (mkD (sortS (allStr xs)) st1) Q := p1
      cases hs : allStr xs with
      | none =>
        rw [hs] at p1
        exact p1.elim
      | some zs =>
        rw [hs] at p1
        have e2 := h2.strs hs
        subst e2
        have p1 : PostD X.K fa W F1 ρ1 H1 σ (mkD (if (decide (zs.length ≤ 4000) && decide ((SX.metS zs).length < 64)) = true then some (.lst ((SX.srtS zs).map .str)) else none) st1) Q := p1
        by_cases hb : (decide (zs.length ≤ 4000) && decide ((SX.metS zs).length < 64)) = true
        · rw [if_pos hb] at p1
          obtain ⟨b1, b2⟩ := Bool.and_eq_true_iff.mp hb
          refine ⟨ad, zs, rfl, SqL.of h1, of_decide_eq_true b1, fun pp hp => ⟨pp, SX.metS zs, rfl, upd_same, of_decide_eq_true b2, fun p3 hp3 => ?_⟩⟩
          rw [SX.srt_met]
          exact pNew (p1.rebase anti_D (ext_new hp)) (w1.new hp) (VRs.ofStrs _) p3 hp3
        · rw [if_neg hb] at p1
          exact p1.elim
    | _ => exact p1.elim
theorem c_sortN {k : Nat} (hc : X.calm = true) (hg : Gl X "sorted") (hm : X.mg "sorted" = none) (ha : PE X e (tEv X.K fa W c a)) (hst : starEach [e] X.env = (false, eval e X.env) :: starEach [] X.env) (hk : k ≠ 0) (hk2 : k ≤ 2) :
    PE X (.Call (.Name "sorted" p) [e] [] pos) (tEv X.K fa W c (.sort k a)) := by
  by_cases h1 : k = 1
  · subst h1
    refine pe_of (pe_callB (id := "sorted") cr_sortedI hg hm (by decide +kernel) (pa_cons ha pa_nil hst) (by decide +kernel) (by decide +kernel) hst rfl) fun σ H Q ⟨F, ρ, env, st, w, er, pq⟩ => ?_
    refine ev1 (f := ev c a) (g := fun d st => match d.rd st with | some x => mkD (opSort 1 x) st | none => .bad) anti_D w er pq fun v H1 F1 ρ1 d st1 e1 w1 er1 r1 p1 => ?_
    cases q : d.rd st1 with
    | none =>
      simp only [q] at p1
      exact p1.elim
    | some x =>
      simp only [q] at p1
      have r := r1.rd w1 q
      cases x with
      | lst xs =>
        obtain ⟨ad, vs, rfl, g1, g2⟩ := r
        have p1 : PostD X.K fa W F1 ρ1 H1 σ (mkD ((allInt xs).map fun ns => .lst ((srtB leI ns).map .int)) st1) Q := p1
        cases hs : allInt xs with
        | none =>
          rw [hs] at p1
          exact p1.elim
        | some ns =>
          rw [hs] at p1
          have e2 := g2.ints' hs
          subst e2
          refine ⟨ad, ns, rfl, SqL.of g1, fun ns' pp pm up hp => ?_⟩
          have e3 : ns' = srtB leI ns := srtB_uniq ord_I pm (up.imp fun h => decide_eq_true h)
          rw [e3]
          exact pNew p1 w1 (VRs.ofInts _) pp hp
      | _ => exact p1.elim
  · by_cases h2 : k = 2
    · subst h2
      refine pe_of (pe_callB (id := "sorted") cr_sortP hg hm (by decide +kernel) (pa_cons ha pa_nil hst) (by decide +kernel) (by decide +kernel) hst rfl) fun σ H Q ⟨F, ρ, env, st, w, er, pq⟩ => ?_
      refine ev1 (f := ev c a) (g := fun d st => match d.rd st with | some x => mkD (opSort 2 x) st | none => .bad) anti_D w er pq fun v H1 F1 ρ1 d st1 e1 w1 er1 r1 p1 => ?_
      cases q : d.rd st1 with
      | none =>
        simp only [q] at p1
        exact p1.elim
      | some x =>
        simp only [q] at p1
        have r := r1.rd w1 q
        cases x with
        | lst xs =>
          obtain ⟨ad, vs, rfl, g1, g2⟩ := r
          have pp2 : PostD X.K fa W F1 ρ1 H1 σ (mkD ((allPair xs).map fun ps => .lst ((srtB leP ps).map pairP)) st1) Q := p1
          clear p1
          cases hs : allPair xs with
          | none =>
            rw [hs] at pp2
            exact pp2.elim
          | some ps =>
            rw [hs] at pp2
            have e2 := allPair_eq hs
            subst e2
            have hl : vs.length = ps.length := by rw [g2.len, List.length_map]
            have hz := g2.zip
            refine ⟨ad, vs, ps, rfl, SqL.of g1, hl, fun z m => ?_, fun ys kk pp hkk pm up hp => ?_⟩
            · obtain ⟨t, ws, e, ht, hw⟩ := (VR.r (hz z m)).tup
              cases hw with
              | cons a1 b1 =>
                cases b1 with
                | cons a2 b2 =>
                  cases b2
                  cases a1
                  cases a2
                  exact ⟨t, e, SqT_of ht⟩
            · have e3 : ys.map kk = srtB leP ps := srtB_uniq ord_P (by rw [← zip_map hl hkk]; exact pm.map kk) (List.pairwise_map.mpr up)
              have g3 := VRs.back hz hkk hl (ys := ys) fun y hy => pm.mem_iff.mp hy
              rw [e3] at g3
              exact pNew pp2 w1 g3 pp hp
        | _ => exact p1.elim
    · omega
end
end DE
end

section
set_option Elab.async false
set_option linter.all false
set_option maxRecDepth 100000
set_option autoImplicit false
namespace DE
open PySem PySem.Spec L2
section
open PyProof.Rows
variable {prog : Program} {w : World} {A : Around} {E : Value → Shared → Prop} {s : Shared}
theorem fm_congr {α β : Type} {f g : α → Option β} : ∀ {l : List α}, (∀ x ∈ l, f x = g x) → l.filterMap f = l.filterMap g
  | [], _ => rfl
  | x :: l, h => by
    rw [List.filterMap_cons, List.filterMap_cons, h x List.mem_cons_self, fm_congr fun y hy => h y (List.mem_cons_of_mem _ hy)]
theorem sliceApplied_rev {sl : Addr} {vl vu vs : Value} {n : Nat} {Q : Int × Int × Nat → Shared → Prop} (hs : s.heap.IsSliceOf sl vl vu vs) (pl : IsPart vl none) (pu : IsPart vu none) (ps : IsPart vs (some (-1)))
    (h : Q ((n : Int) - 1, -1, n) s) : wpAny (model prog w) A (Builtin.Slice.sliceApplied (.ref sl) (pure (n : Int))) Q E s := by
  obtain ⟨os, hos, hcs, hds⟩ := id hs
  have e1 : Builtin.Slice.sliceAdjust none none (-1) (n : Int) = ((n : Int) - 1, -1) := rfl
  have e2 : Builtin.Slice.slicePlaces ((n : Int) - 1) (-1) (-1) = n := by
    unfold Builtin.Slice.slicePlaces
    have h1 : ¬ ((-1 : Int) > 0) := by omega
    rw [if_neg h1]
    by_cases hn : (n : Int) - 1 > -1
    · rw [if_pos hn, show (-(-1) : Int) = 1 by decide, Int.ediv_one]
      omega
    · rw [if_neg hn]
      omega
  unfold Builtin.Slice.sliceApplied Builtin.Slice.sliceFields
  refine wpAny_bind (wpAny_bind (wpAny_field hos hds (x := vl) rfl (wpAny_bind (wpAny_field hos hds (x := vu) rfl (wpAny_bind (wpAny_field hos hds (x := vs) rfl (wpAny_pure ?_)))))))
  refine wpAny_bind (HT.slicePart_ ps ?_)
  show wpAny _ _ (if ((-1 : Int) == 0) = true then _ else _) _ _ s
  rw [if_neg (by decide)]
  refine wpAny_bind (HT.slicePart_ pl (wpAny_bind (HT.slicePart_ pu (wpAny_bind (wpAny_pure ?_)))))
  show wpAny _ _ (match Builtin.Slice.sliceAdjust none none (-1) (n : Int) with | (lo, hi) => pure (lo, (-1 : Int), Builtin.Slice.slicePlaces lo hi (-1))) _ _ s
  rw [e1]
  show wpAny _ _ (pure ((n : Int) - 1, (-1 : Int), Builtin.Slice.slicePlaces ((n : Int) - 1) (-1) (-1))) _ _ s
  rw [e2]
  exact wpAny_pure h
theorem pick_rev {α : Type} (xs : List α) (n : Nat) (hn : xs.length = n) : (List.range n).filterMap (fun (m : Nat) => xs.toArray[(((n : Int) - 1) + (m : Int) * (-1)).toNat]?) = xs.reverse := by
  have e : ∀ m, m ∈ List.range n → xs.toArray[(((n : Int) - 1) + (m : Int) * (-1)).toNat]? = xs.reverse[m]? := fun m hm => by
    have := List.mem_range.mp hm
    have e1 : (((n : Int) - 1) + (m : Int) * (-1)).toNat = n - 1 - m := by omega
    rw [e1, List.getElem?_reverse (by omega), hn]
    simp
  have e2 : (List.range n).filterMap (fun (m : Nat) => xs.toArray[(((n : Int) - 1) + (m : Int) * (-1)).toNat]?) = (List.range n).filterMap (fun m => xs.reverse[m]?) := fm_congr e
  rw [e2]
  have key : ∀ (ys : List α), (List.range ys.length).filterMap (fun m => ys[m]?) = ys := fun ys => by
    induction ys with
    | nil => rfl
    | cons y ys ih =>
      rw [List.length_cons, List.range_succ_eq_map, List.filterMap_cons]
      simp only [List.getElem?_cons_zero, List.filterMap_map]
      congr 1
  have := key xs.reverse
  rw [List.length_reverse, hn] at this
  rw [this]
theorem getItem_tuple_rev {t sl : Addr} {items : List Value} {vl vu vs : Value} {Q : Value → Shared → Prop} (ht : IsTup s.heap t items.toArray) (hs : s.heap.IsSliceOf sl vl vu vs) (pl : IsPart vl none) (pu : IsPart vu none) (ps : IsPart vs (some (-1)))
    (h : Q (.ref s.heap.objs.size) { s with heap := s.heap.push { cls := .type "tuple", data := .seq items.reverse.toArray } })
    (hsz : items.length ≤ sizeLine) : wpAny (model prog w) A (getItem (.ref t) (.ref sl)) Q E s := by
  have htake : sizeOk (.seq items.reverse.toArray) := by
    show items.reverse.toArray.size ≤ sizeLine
    rw [List.size_toArray, List.length_reverse]
    exact hsz
  obtain ⟨os, hos, hcs, hds⟩ := id hs
  have hTs : s.TypeIs (.ref sl) "slice" := ⟨os, hos, hcs⟩
  unfold getItem
  try with_reducible refine wpAny_holding ?_
  first | refine wpAny_bind (wpAny_pure ?_) | skip
  refine wpAny_bind (wpAny_sequenceKey ht.typeIs (by decide) ?_)
  refine wpAny_bind (wpAny_callSpecial?_slot (name := Str.ofString "__getitem__") ht.typeIs PyProof.Rows.slot_tuple_getitem
    (wpAny_call_entry PyProof.Rows.slot_tuple_getitem ht.typeIs PyProof.Rows.entry_tuple_getitem ?_ (PyProof.Rows.args_tuple_getitem _ _)))
  show wpAny _ _ (Builtin.Tuple.tupleItemsOf (.ref t) >>= _) _ _ s
  refine wpAny_bind (PyProof.Rows.tupleItemsOf_ ht ?_)
  refine wpAny_bind (wpAny_typeOf hTs ?_)
  rw [if_pos (by decide)]
  refine wpAny_bind (sliceApplied_rev (n := items.toArray.size) hs pl pu ps ?_)
  show wpAny _ _ (if (((items.toArray.size : Int) - 1) == 0 && (-1 : Int) == 1 && items.toArray.size == items.toArray.size) = true then _ else _) _ _ s
  rw [if_neg (by simp), pick_rev items items.toArray.size (by simp)]
  first
    | exact wpAny_bind (m := Builtin.Tuple.tupleExact _) (wpAny_newObj_type (wpAny_pure ⟨_, rfl, wpAny_pure h⟩) htake)
    | exact wpAny_bind (m := Builtin.Tuple.tupleExact _) (wpAny_newObj_type (wpAny_bind (wpAny_pure (wpAny_pure ⟨_, rfl, wpAny_pure h⟩))) htake)
    | exact wpAny_bind (wpAny_bind (m := Builtin.Tuple.tupleExact _) (wpAny_newObj_type (wpAny_pure (wpAny_pure ⟨_, rfl, wpAny_pure h⟩)) htake))
    | exact wpAny_bind (wpAny_bind (m := Builtin.Tuple.tupleExact _) (wpAny_newObj_type (wpAny_pure ⟨_, rfl, wpAny_pure h⟩) htake))
end
theorem c_rev {X : Cx} {fa : Fa} {W : WX} {c : Cf} {a : IE} {e : Expr} {kk : Nat} {q1 p2 p3 pos : Pos} (ha : PE X e (tEv X.K fa W c a)) : PE X (.Subscript e (.Slice none none (some (.UnaryOp .USub (.Constant (.int 1) kk q1) p2)) p3) pos) (tEv X.K fa W c (.rev a)) := by
  refine ⟨fun pins s σ H Q I h => ?_⟩
  obtain ⟨F, ρ, env, st, w, er, p⟩ := h
  have p : PostD X.K fa W F ρ H σ ((ev c a env st).bind fun x st => match x.rd st with
    | some x => mkD (opRev x) st
    | none => .bad) Q := p
  have hh : tEvF X.K fa W (ev c a) σ H (fun x H1 => ∃ F1 ρ1 st1 px, Wok X.K fa F1 ρ1 H1 st1 ∧ VRr X.K fa F1 H1 x px ∧ PostD X.K fa W F1 ρ1 H1 σ (mkD (opRev px) st1) Q) := ev1 anti_D w er p fun x H1 F1 ρ1 d st1 e1 w1 er1 r1 p1 => by
    cases q : d.rd st1 with
    | none =>
      simp only [q] at p1
      exact p1.elim
    | some px =>
      simp only [q] at p1
      exact ⟨F1, ρ1, st1, px, w1, r1.rd w1 q, p1⟩
  refine PyProof.Rows.Subscript_ (thn (ha.run pins s σ H _ I hh) fun v s1 ⟨x, H1, I1, r1, F1, ρ1, st1, px, w1, hx, p1⟩ => ?_)
  have hst : PO X (some (.UnaryOp .USub (.Constant (.int 1) kk q1) p2)) (tPart (tUn (rU fun i => .int (-i)) (tC (.int 1)))) := po_some (pe_un un_neg pe_int)
  refine wpAny_Slice (thn (po_none.run pins s1 σ H1 (fun o H2 => o = none ∧ H2 = H1) I1 ⟨rfl, rfl⟩) fun vl s2 ⟨l, H2, I2, pl, el, e2⟩ => ?_)
  subst el e2
  refine thn (po_none.run pins s2 σ H2 (fun o H3 => o = none ∧ H3 = H2) I2 ⟨rfl, rfl⟩) fun vu s3 ⟨u, H3, I3, pu, eu, e3⟩ => ?_
  subst eu e3
  refine thn (hst.run pins s3 σ H3 (fun o H4 => o = some (-1) ∧ H4 = H3) I3 ⟨1, rfl, -1, rfl, rfl, rfl⟩) fun vs s4 ⟨o, H4, I4, ps, eo, e4⟩ => ?_
  subst eo e4
  have I5 : L2.Inv X pins σ H4 { s4 with heap := s4.heap.push { cls := .type "slice", data := .fields #[vl, vu, vs] } } := I4.kept (t' := s4.toks) fun b ob q => Heap.get?_push_of_some _ q
  show wpAny (model X.prog X.w) X.A (PyProof.Rows.subscriptTail e (.Slice none none (some (.UnaryOp .USub (.Constant (.int 1) kk q1) p2)) p3) v (.ref s4.heap.objs.size)) (EP X pins σ Q) X.xe { s4 with heap := s4.heap.push { cls := .type "slice", data := .fields #[vl, vu, vs] } }
  cases px with
  | tup xs =>
    obtain ⟨a, ws, rfl, ha, hr⟩ := hx.tup
    cases r1
    obtain ⟨its, r, ht, hz⟩ := I5.tuple (SqT_of ha)
    have hlen := r.length
    refine PyProof.Rows.tail_any (ops := [.ref a, .ref s4.heap.objs.size]) ht.typeIs PyProof.Rows.slot_tuple_getitem.lookup ?_ (by with_unfolding_all rfl)
    refine getItem_tuple_rev ht (Heap.IsSliceOf.new _ vl vu vs) pl pu ps ?_ (by rw [← hlen]; exact hz)
    refine ⟨.ref _, _, I5.laid (t' := s4.toks) (o := .tup ws.reverse) (fun b ob q => Heap.get?_push_of_some _ q) (Nat.le_refl _) ?_, rfl, ?_⟩
    · exact ⟨by rw [List.length_reverse]; exact hz, _, r.reverse, PyProof.Rows.IsTup.new _ _⟩
    · exact pTup p1 w1 hr.reverse _ (I5.hok.fresh (Nat.le_refl _))
  | str z =>
    cases hx.str
    obtain ⟨t, rfl⟩ := r1
    have p1 : PostD X.K fa W F1 ρ1 H4 σ (mkD (if small z.length then some (.str ⟨z.cps.toList.reverse.toArray⟩) else none) st1) Q := p1
    cases hm : small z.length with
    | false =>
      rw [hm] at p1
      exact p1.elim
    | true =>
      rw [hm] at p1
      cases pl
      cases pu
      cases ps with
      | int _ tk =>
        refine PyProof.Rows.tail_any (ops := [.str z t, .ref s4.heap.objs.size]) (typeIs_str _ _ _) PySem.F.slot_str_getitem.lookup ?_ (by with_unfolding_all rfl)
        refine wpAny_getItem_str_slice (l := none) (u := none) (st := some (-1, tk)) ⟨_, Heap.get?_push_size _ rfl, rfl, rfl⟩ rfl ?_
        have e1 : slicePicked z none none (some (-1, tk)) = (List.range z.length).reverse := by
          show sliceRange ((z.length : Int) - 1) (-1) (-1) = _
          rw [PySem.W.krv_sliceRange, PySem.W.krv_range]
        have e2 : ((slicePicked z none none (some (-1, tk))).filterMap (z.cps[·]?)).toArray = z.cps.toList.reverse.toArray := by
          rw [e1, List.filterMap_reverse]
          congr 2
          exact PySem.W.krv_all z.cps
        show Made.post (if ((-1 : Int) == 1 && (slicePicked z none none (some (-1, tk))).length == z.length) = true then Made.val (.str z t) else Made.str ⟨((slicePicked z none none (some (-1, tk))).filterMap (z.cps[·]?)).toArray⟩) _ _
        rw [if_neg (by simp), e2]
        refine ⟨?_, .str _, H4, I5.tok _, ⟨_, rfl⟩, pP p1 w1 (.str _)⟩
        have := of_decide_eq_true hm
        show z.cps.toList.reverse.toArray.size ≤ sizeLine
        rw [List.size_toArray, List.length_reverse]
        exact this
  | _ => exact p1.elim
theorem plainIx_of {b : Expr} (h : notSl b = true) : PlainIx b := fun o i => by
  cases b <;> first | rfl | cases h
section
variable {fa : Fa} {gc : Nat → Option DE.P} {T : Nat → Option Df} {k : Nat}
theorem units_of {nm : Nm} {X : Cx} (o : Cok nm fa gc T k X) : X.A.units + 64 < cLine := o.room.units
theorem free_of {nm : Nm} {X : Cx} (o : Cok nm fa gc T k X) {x : Str} (h : x ∈ freeNames) : X.mg x = none := o.fx.free x h
theorem bf_free (f : Bf) : f.name ∈ freeNames := by
  cases f <;> simp [Bf.name, freeNames]
theorem both {X : Cx} {W : WX} {e : Expr} {ie : IE} {c : Cf} (q : PE X e (tEv X.K fa W c ie)) (he : ∀ whole, isTrue e X.env whole = (do let v ← whole; standAt e.pos; holding [v] (truthy v))) : PE X e (tEv X.K fa W c ie) ∧ PT X e (tT X.K fa W c ie) := ⟨q, t_plain q he⟩
theorem b3 {a b : Bool} (h : (a && b) = true) : a = true ∧ b = true := Bool.and_eq_true_iff.mp h
theorem no_case {X : Cx} {e : Expr} {t : TE} {u : TT} (h : false = true) : PE X e t ∧ PT X e u := by cases h
/-- at a heap in which no more than tables were written -/
theorem extN_ext {F : Addr → Prop} {ρ : List Addr} {H H1 : Hp} (e : LamX.ExtN H H1) : Ext F ρ H F ρ H1 := ⟨fun _ h => h, fun _ h => .inl h, ⟨[], by simp, by simp⟩, fun a o h _ ht => e a o h ht, fun a h => by
  cases q : nt H a with
  | none => rfl
  | some o =>
    obtain ⟨o', h1, h2⟩ := nt_get (H := H) (a := a) (by rw [q]; exact fun z => nomatch z)
    exact (nt_abs h (e a o' h1 h2) h2).elim⟩
theorem Wok.extN {K : PySem.W.Frag} {F : Addr → Prop} {ρ : List Addr} {H H1 : Hp} {st : Store} (w : Wok K fa F ρ H st) (e : LamX.ExtN H H1) (ht : LamX.Tabs fa.tb H1) : Wok K fa F ρ H1 st := by
  have same : ∀ a, nt H a ≠ none → H1 a = H a := fun a h => by
    obtain ⟨o, h1, h2⟩ := nt_get h
    rw [h1, e a o h1 h2]
  refine w.mono' (extN_ext e) (fun a ha => same a ?_) w.dis (fun a f => ?_) ht
  · intro q
    exact w.free q ha
  · obtain ⟨o, h1, h2⟩ := nt_get (w.has a f)
    exact nt_ne (e a o h1 h2) h2
theorem noP_of {p : Arguments} (h : noP p = true) : p = ⟨[], [], none, [], [], none, []⟩ := by
  unfold noP at h
  split at h
  · rfl
  · cases h
/-- x(lambda: e), x the def that tells the error -/
theorem c_word {nm : Nm} {X : Cx} {W : WX} {f : Nat} {get : Bool} {a : IE} {x : Str} {p lpos pos : Pos} {params : Arguments} {body : Expr} {scope : Scope} (o : Cok nm fa gc T k X) (hl : nm.l = true) (hw : nm.w f = some (x, get)) (hg : Gl X x) (hdb : (x == ("__debug__" : Str)) = false)
    (hp : noP params = true) (hs : LamX.lamSB X.env.scope scope = true)
    (ih : ∀ {X' : Cx} {W : WX}, Cok { nm with l := false } fa gc T k X' → L2N.Takes X' W → X'.N = X.N → X'.env.scope = scope → PE X' body (tEv X'.K fa W (Cf.mk (callK T gc k) gc (wdT T)) a)) :
    PE X (.Call (.Name x p) [.Lambda params body scope lpos] [] pos) (tEv X.K fa W (Cf.mk (callK T gc k) gc (wdT T)) (.word f get a)) := by
  obtain ⟨pg, bg, sg, dV, kV, doc, pm, cdv, ct, oc, an, od, osl, Ng, y, g, wo⟩ := o.fx.wrd f x get hw
  obtain ⟨hr, c, P, hTB, hcode, hmT, hu⟩ := o.lam hl
  cases noP_of hp
  refine pe_of (DL.pe_lamcall (t := fun E => tEv X.K fa (fun cls d _ H' => E cls d H') (Cf.mk (callK T gc k) gc (wdT T)) a) (k := 3 * k) hg wo.hm wo.hk wo.lk wo.hcg wo.hb wo.Sg wo.hNg wo.hva (wo.hG X _ rfl rfl rfl rfl rfl) hTB hcode hmT hu hr (LamX.lamS_by hs) rfl (fun _ _ _ _ _ => rfl)
    (fun A outer s H E fn c' hr' => ih (X' := DL.lamCx X A outer s H E scope fn c') ⟨rfl, o.nd, hr', o.fx.l false, fun h => by cases h⟩ DL.lamCx_takes rfl rfl) hdb wo.hd wo.hcd) fun σ H Q ⟨F, ρ, env, st, w, er, q⟩ => ?_
  refine ⟨w.tab, fun H1 eN hT => ?_⟩
  have e1 : Ext F ρ H F ρ H1 := extN_ext eN
  refine ⟨F, ρ, env, st, w.extN eN hT, er.mono w e1, ?_⟩
  have q : PostD X.K fa W F ρ H σ (match ev (Cf.mk (callK T gc k) gc (wdT T)) a env st with
    | .ok d st => if get then .ok d st else .ok (.p (.str "")) st
    | .exc k none st => match wdT T f k with
      | some z => .ok (.p (.str z)) st
      | none => .bad
    | .exc _ (some _) _ => .bad
    | .bad => .bad) Q := q
  cases h : ev (Cf.mk (callK T gc k) gc (wdT T)) a env st with
  | bad =>
    rw [h] at q
    exact q.elim
  | ok d s =>
    simp only [h] at q
    cases get with
    | true => exact fun b F' ρ' H' e' w' r' => q b F' ρ' H' (e1.trans e') w' (r'.anti e1)
    | false => exact fun b F' ρ' H' e' w' r' => q (.str "") F' ρ' H' (e1.trans e') w' (VR.str _)
  | exc kk xx s =>
    cases xx with
    | some xx =>
      simp only [h] at q
      exact q.elim
    | none =>
      simp only [h] at q
      cases hz : wdT T f kk with
      | none =>
        simp only [hz] at q
        exact q.elim
      | some z =>
        simp only [hz] at q
        exact fun F' ρ' H' e' w' _ => ⟨kk, z, rfl, rfl, hz, fun H'' hk => q (.str z) F' ρ' H'' ((e1.trans e').trans (extN_ext fun a o h _ => hk a o h)) (w'.extN (fun a o h _ => hk a o h) (LamX.Tabs.ext w'.tab hk)) (VR.str _)⟩
theorem ce_of {nm : Nm} {X : Cx} (o : Cok nm fa gc T k X) {a : IE} {e : Expr} (h : chK nm a X.env.scope e = true) : CE X fa (Cf.mk (callK T gc k) gc (wdT T)) a e := by
  unfold chK at h
  split at h
  · rename_i i x pos
    obtain ⟨h1, h2⟩ := b3 h
    obtain ⟨h3, h4⟩ := b3 h1
    obtain ⟨g1, g2, g3⟩ := okN_of h2
    have h3 : x = nm.c i := of_decide_eq_true h3
    cases q : gc i with
    | none =>
      have e1 : ∀ (env : Env) (st : Store), ev (Cf.mk (callK T gc k) gc (wdT T)) (.g i) env st = .bad := fun env st => by
        show mkP (gc i) st = _
        rw [q]
        rfl
      exact .inr e1
    | some c =>
      obtain ⟨v, u, m1, m2, m3⟩ := o.fx.con i c q
      have e1 : ∀ (env : Env) (st : Store), ev (Cf.mk (callK T gc k) gc (wdT T)) (.g i) env st = .ok (.p c) st := fun env st => by
        show mkP (gc i) st = _
        rw [q]
        rfl
      exact .inl ⟨v, c, pe_glob (gl_of h4) (by rw [h3]; exact m1) m2 g1, e1, m3⟩
  · rename_i i j kk pos
    cases of_decide_eq_true h
    exact .inl ⟨.str _, .str _, pe_str, fun _ _ => rfl, fun _ _ => VR.str _⟩
  · cases h
mutual
theorem sE : (ie : IE) → ∀ {nm : Nm} {X : Cx} {W : WX}, Cok nm fa gc T k X → L2N.Takes X W → ∀ e : Expr, chE nm X.N ie X.env.scope e = true → PE X e (tEv X.K fa W (Cf.mk (callK T gc k) gc (wdT T)) ie) ∧ PT X e (tT X.K fa W (Cf.mk (callK T gc k) gc (wdT T)) ie)
  | .v i, nm, X, W, o, tk, e, h => by
    unfold chE at h
    split at h
    · rename_i x pos
      obtain ⟨h1, h2⟩ := b3 h
      obtain ⟨h3, h4⟩ := b3 h1
      obtain ⟨g1, g2, g3⟩ := okN_of h2
      have q : PE X (.Name x pos) (tEv X.K fa W (Cf.mk (callK T gc k) gc (wdT T)) (.v i)) := c_var (of_decide_eq_true h3) (vis_of h4) g1 g2
      exact ⟨q, t_plain q fun _ => rfl⟩
    · exact no_case h
  | .g i, nm, X, W, o, tk, e, h => by
    unfold chE at h
    split at h
    · rename_i x pos
      obtain ⟨h1, h2⟩ := b3 h
      obtain ⟨h3, h4⟩ := b3 h1
      obtain ⟨g1, g2, g3⟩ := okN_of h2
      have h3 : x = nm.c i := of_decide_eq_true h3
      have q : PE X (.Name x pos) (tEv X.K fa W (Cf.mk (callK T gc k) gc (wdT T)) (.g i)) := by
        refine ⟨fun pins s σ H Q I hh => ?_⟩
        obtain ⟨F, ρ, env, st, w, er, p⟩ := hh
        have p : PostD X.K fa W F ρ H σ (mkP (gc i) st) Q := p
        obtain ⟨c, e1, p⟩ := postP p
        obtain ⟨v, u, m1, m2, m3⟩ := o.fx.con i c e1
        exact (pe_glob (gl_of h4) (by rw [h3]; exact m1) m2 g1).run pins s σ H Q I (pP p w (m3 F H))
      exact ⟨q, t_plain q fun _ => rfl⟩
    · exact no_case h
  | .int i, nm, X, W, o, tk, e, h => by
    unfold chE at h
    split at h
    · rename_i j kk pos
      cases of_decide_eq_true h
      exact both (c_val (X := X) (fa := fa) (W := W) (c := (Cf.mk (callK T gc k) gc (wdT T))) (a := .int i) (pe_int (j := kk) (pos := pos)) (fun _ _ => rfl) (fun _ _ => VR.int i)) fun _ => rfl
    · exact no_case h
  | .str i, nm, X, W, o, tk, e, h => by
    unfold chE at h
    split at h
    · rename_i j kk pos
      cases of_decide_eq_true h
      exact both (c_val (X := X) (fa := fa) (W := W) (c := (Cf.mk (callK T gc k) gc (wdT T))) (a := .str i) (pe_str (j := kk) (pos := pos)) (fun _ _ => rfl) (fun _ _ => VR.str i)) fun _ => rfl
    · exact no_case h
  | .bl i, nm, X, W, o, tk, e, h => by
    unfold chE at h
    split at h
    · rename_i j kk pos
      cases of_decide_eq_true h
      exact both (c_val (X := X) (fa := fa) (W := W) (c := (Cf.mk (callK T gc k) gc (wdT T))) (a := .bl i) (pe_bl (j := kk) (pos := pos)) (fun _ _ => rfl) (fun _ _ => VR.bl i)) fun _ => rfl
    · exact no_case h
  | .non, nm, X, W, o, tk, e, h => by
    unfold chE at h
    split at h
    · rename_i kk pos
      exact both (c_val (X := X) (fa := fa) (W := W) (c := (Cf.mk (callK T gc k) gc (wdT T))) (a := .non) (pe_non (j := kk) (pos := pos)) (fun _ _ => rfl) (fun _ _ => VR.non)) fun _ => rfl
    · exact no_case h
  | .bin op a b, nm, X, W, o, tk, e, h => by
    unfold chE at h
    split at h
    · obtain ⟨h1, h2⟩ := b3 h
      obtain ⟨h3, h4⟩ := b3 h1
      cases of_decide_eq_true h3
      exact both (c_bin (op := op) (sE a o tk _ h4).1 (sE b o tk _ h2).1) fun _ => rfl
    · exact no_case h
  | .neg a, nm, X, W, o, tk, e, h => by
    unfold chE at h
    split at h
    · exact both (c_neg (sE a o tk _ h).1) fun _ => rfl
    · exact no_case h
  | .no a, nm, X, W, o, tk, e, h => by
    unfold chE at h
    split at h
    · exact ⟨c_no (sE a o tk _ h).1, t_no (sE a o tk _ h).2⟩
    · exact no_case h
  | .and r, nm, X, W, o, tk, e, h => by
    unfold chE at h
    split at h
    · rename_i vs pos
      have q := sAnd r o tk vs pos h
      exact ⟨pe_of q.1 fun σ H Q h => h, pt_of q.2.pt fun σ H Q h => h⟩
    · exact no_case h
  | .or r, nm, X, W, o, tk, e, h => by
    unfold chE at h
    split at h
    · rename_i vs pos
      have q := sOr r o tk vs pos h
      exact ⟨pe_of q.1 fun σ H Q h => h, pt_of q.2.pt fun σ H Q h => h⟩
    · exact no_case h
  | .cmp op a b, nm, X, W, o, tk, e, h => by
    unfold chE at h
    split at h
    · rename_i l oo r pos
      obtain ⟨h1, h2⟩ := b3 h
      obtain ⟨h3, h4⟩ := b3 h1
      obtain ⟨h5, h6⟩ := b3 h3
      cases of_decide_eq_true h5
      have hm : behindInMarks op r = false := by simpa using h6
      have qa := (sE a o tk _ h4).1
      have qb := (sE b o tk _ h2).1
      exact ⟨c_cmp (units_of o) hm qa qb, t_cmp (units_of o) hm qa qb⟩
    · exact no_case h
  | .chain o1 o2 a b d, nm, X, W, o, tk, e, h => by
    unfold chE at h
    split at h
    · rename_i l p1 p2 m r pos
      obtain ⟨h1, h2⟩ := b3 h
      obtain ⟨h3, h4⟩ := b3 h1
      obtain ⟨h5, h6⟩ := b3 h3
      obtain ⟨h7, h8⟩ := b3 h5
      obtain ⟨h9, h10⟩ := b3 h7
      cases of_decide_eq_true h9
      cases of_decide_eq_true h10
      have hm : lastMarks [o1, o2] [m, r] = false := by simpa using h8
      have qa := (sE a o tk _ h6).1
      have qb := (sE b o tk _ h4).1
      have qd := (sE d o tk _ h2).1
      exact ⟨c_chain (units_of o) hm qa qb qd, t_chain (units_of o) hm qa qb qd⟩
    · exact no_case h
  | .ife t a b, nm, X, W, o, tk, e, h => by
    unfold chE at h
    split at h
    · obtain ⟨h1, h2⟩ := b3 h
      obtain ⟨h3, h4⟩ := b3 h1
      have qt := sE t o tk _ h3
      have qa := sE a o tk _ h4
      have qb := sE b o tk _ h2
      exact ⟨c_ife (f1 := fun _ _ => .bad) (f2 := fun _ _ => .bad) (f3 := fun _ _ => .bad) qt.2 qa.1 qb.1, t_ife qt.2 qa.2 qb.2⟩
    · exact no_case h
  | .tup es, nm, X, W, o, tk, e, h => by
    unfold chE at h
    split at h
    · exact both (c_tup (sL es o tk _ h)) fun _ => rfl
    · exact no_case h
  | .lst es, nm, X, W, o, tk, e, h => by
    unfold chE at h
    split at h
    · exact both (c_lst (sL es o tk _ h)) fun _ => rfl
    · exact no_case h
  | .call f es, nm, X, W, o, tk, e, h => by
    unfold chE at h
    split at h
    · rename_i x p as pos
      obtain ⟨h1, h2⟩ := b3 h
      obtain ⟨h3, h4⟩ := b3 h1
      obtain ⟨h5, h6⟩ := b3 h3
      obtain ⟨g1, g2, g3⟩ := okN_of h4
      have pa := sL es o tk _ h2
      have st : ∀ e r, as = e :: r → starEach (e :: r) X.env = (false, eval e X.env) :: starEach r X.env := fun e r ee => by
        subst ee
        cases es with
        | nil => cases h2
        | cons a es => exact chE_star (b3 h2).1 _ _
      have q : PE X (.Call (.Name x p) as [] pos) (tEv X.K fa W (Cf.mk (callK T gc k) gc (wdT T)) (.call f es)) := by
        refine c_call o tk (of_decide_eq_true h5) (gl_of h6) g1 pa st (fun e r ee => ?_) (fun ee => ?_)
        · subst ee
          cases es with
          | nil => cases h2
          | cons a es => exact chL_star (b3 h2).2 _ _
        · subst ee
          cases es with
          | nil => rfl
          | cons a es => cases h2
      exact ⟨q, t_plain q fun _ => rfl⟩
    · exact no_case h
  | .bi f a es, nm, X, W, o, tk, e, h => by
    unfold chE at h
    split at h
    · obtain ⟨h1, h2⟩ := b3 h
      obtain ⟨h3, h4⟩ := b3 h1
      obtain ⟨h5, h6⟩ := b3 h3
      have hx := of_decide_eq_true h5
      exact both (c_bi o.calm hx (gl_of h6) (by rw [hx]; exact free_of o (bf_free f)) (sE a o tk _ h4).1 (sL es o tk _ h2) (chE_star h4 _ _) (chL_star h2 _ _)) fun _ => rfl
    · exact no_case h
  | .meth m a b, nm, X, W, o, tk, e, h => by
    unfold chE at h
    split at h
    · obtain ⟨h1, h2⟩ := b3 h
      obtain ⟨h3, h4⟩ := b3 h1
      obtain ⟨h5, h6⟩ := b3 h3
      obtain ⟨h7, h8⟩ := b3 h5
      exact both (c_meth (of_decide_eq_true h7) h8 h6 (sE a o tk _ h4).1 (sE b o tk _ h2).1 (chE_star h2 _ _)) fun _ => rfl
    · exact no_case h
  | .idx a b, nm, X, W, o, tk, e, h => by
    unfold chE at h
    split at h
    · obtain ⟨h1, h2⟩ := b3 h
      obtain ⟨h3, h4⟩ := b3 h1
      exact both (c_idx (plainIx_of h3) (sE a o tk _ h4).1 (sE b o tk _ h2).1) fun _ => rfl
    · exact no_case h
  | .slc a lo hi, nm, X, W, o, tk, e, h => by
    unfold chE at h
    split at h
    · obtain ⟨h1, h2⟩ := b3 h
      obtain ⟨h3, h4⟩ := b3 h1
      exact both (c_slc (sE a o tk _ h3).1 (sO lo o tk _ h4) (sO hi o tk _ h2)) fun _ => rfl
    · exact no_case h
  | .rev a, nm, X, W, o, tk, e, h => by
    unfold chE at h
    split at h
    · exact both (c_rev (sE a o tk _ h).1) fun _ => rfl
    · exact no_case h
  | .comp elt tg it cond, nm, X, W, o, tk, e, h => by
    unfold chE at h
    split at h
    · rename_i el t i ifs scope pos
      obtain ⟨h1, h2⟩ := b3 h
      obtain ⟨h3, h4⟩ := b3 h1
      obtain ⟨h5, h6⟩ := b3 h3
      obtain ⟨h7, h8⟩ := b3 h5
      obtain ⟨h9, h10⟩ := b3 h7
      have hi := sI it o tk false t i h8
      have hs : ∀ x, foldedSetIterable i X.env x = pure x := fun x => by
        cases i <;> first | rfl | cases h6
      have q := pe_lc (pos := pos) (elt := el) (tg := t) (iter := i) (ifs := ifs) (scope := scope) (own := ownOfT X.N tg) (g := gTv X.K fa tg) (tt := tEvT X.K fa W0 (Cf.mk (callK T gc k) gc (wdT T)) fun env st => evC (Cf.mk (callK T gc k) gc (wdT T)) cond env st) (te := tEv X.K fa W0 (Cf.mk (callK T gc k) gc (wdT T)) elt) o.calm o.nd hi (blkOk_by h9)
        (fun s H C cl fp => sG (fa := fa) (o.blk s H scope cl C fp).calm o.nd tg t h10)
        (fun s H C cl fp => sC cond (o.blk s H scope cl C fp) DL.takes0 ifs h4)
        (fun s H C cl fp => (sE elt (o.blk s H scope cl C fp) DL.takes0 el h2).1) hs
      have hown : (ownOfT X.N tg).map (·.2) = tg.slots := by
        unfold ownOfT
        rw [List.map_map]
        exact List.map_id _
      rw [hown] at q
      have q' : PE X (.ListComp el [⟨t, i, ifs, 0⟩] scope pos) (tEv X.K fa W (Cf.mk (callK T gc k) gc (wdT T)) (.comp elt tg it cond)) := pe_of q fun σ H Q hh => c_compR (fun _ _ _ h => h) (fun _ _ _ h => h) (fun _ _ _ h => h) hh
      exact ⟨q', t_plain q' fun _ => rfl⟩
    · exact no_case h
  | .isi a t, nm, X, W, o, tk, e, h => by
    unfold chE at h
    split at h
    · obtain ⟨h1, h2⟩ := b3 h
      obtain ⟨h3, h4⟩ := b3 h1
      obtain ⟨h5, h6⟩ := b3 h3
      obtain ⟨h7, h8⟩ := b3 h5
      obtain ⟨h9, h10⟩ := b3 h7
      have hx := of_decide_eq_true h9
      have hz := of_decide_eq_true h6
      have hc : t = "int" ∨ t = "bool" ∨ t = "str" ∨ t = "tuple" ∨ t = "list" := by
        simpa [tyNames] using h8
      have hz2 : Str.ofString t ∈ freeNames := by
        rcases hc with rfl | rfl | rfl | rfl | rfl <;> simp [freeNames]
      exact both (c_isi h8 hx hz (gl_of h10) (gl_of h4) (by rw [hx]; exact free_of o (by simp [freeNames])) (by rw [hz]; exact free_of o hz2) (sE a o tk _ h2).1 (fun r => chE_star h2 r _)) fun _ => rfl
    · exact no_case h
  | .callV i fs es, nm, X, W, o, tk, e, h => by
    unfold chE at h
    split at h
    · obtain ⟨h1, h2⟩ := b3 h
      obtain ⟨h3, h4⟩ := b3 h1
      obtain ⟨h5, h6⟩ := b3 h3
      obtain ⟨h7, h8⟩ := b3 h5
      obtain ⟨g1, g2, g3⟩ := okN_of h6
      have hst := fun (y : Expr) (ys : List Expr) (z : chL nm X.N es X.env.scope (y :: ys) = true) => (by
        cases es with
        | nil => cases z
        | cons a r => exact ⟨chE_star (b3 z).1 _ _, fun pos => chL_star (b3 z).2 _ pos⟩ : starEach (y :: ys) X.env = (false, eval y X.env) :: starEach ys X.env ∧ ∀ pos, (backTo pos (starEach ys X.env)).any (·.1) = false)
      exact both (c_callV o tk (of_decide_eq_true h7) (vis_of h8) g1 g2 h4 (sL es o tk _ h2) (hst _ _ h2).1 ((hst _ _ h2).2 _)) fun _ => rfl
    · exact no_case h
  | .dget gt ks vs a, nm, X, W, o, tk, e, h => by
    unfold chE at h
    split at h
    · split at h
      · obtain ⟨h0, h⟩ := b3 h
        obtain ⟨h1, h⟩ := b3 h
        obtain ⟨h2, h⟩ := b3 h
        obtain ⟨h3, h⟩ := b3 h
        obtain ⟨h4, h⟩ := b3 h
        obtain ⟨h5, h⟩ := b3 h
        obtain ⟨h6, hz⟩ := b3 h
        cases of_decide_eq_true h1
        cases of_decide_eq_true h2
        cases gt with
        | true => cases h0
        | false => exact both (c_dget0 (by have := units_of o; omega) (ce_of o h4) (ce_of o h5) (of_decide_eq_true h3) (sE a o tk _ hz).1 (plainIx_of h6)) fun _ => rfl
      · exact no_case h
    · split at h
      · obtain ⟨h0, h⟩ := b3 h
        obtain ⟨h1, h⟩ := b3 h
        obtain ⟨h2, h⟩ := b3 h
        obtain ⟨h3, h⟩ := b3 h
        obtain ⟨h4, h⟩ := b3 h
        obtain ⟨h5, h⟩ := b3 h
        obtain ⟨h6, h⟩ := b3 h
        obtain ⟨h7, hz⟩ := b3 h
        cases of_decide_eq_true h1
        cases of_decide_eq_true h2
        cases gt with
        | false => cases h0
        | true => exact both (c_dget1 (by have := units_of o; omega) (ce_of o h4) (ce_of o h5) (of_decide_eq_true h3) (sE a o tk _ hz).1 h7 (chE_star hz _ _) (of_decide_eq_true h6)) fun _ => rfl
      · exact no_case h
    · exact no_case h
  | .word f get a, nm, X, W, o, tk, e, h => by
    unfold chE at h
    split at h
    · obtain ⟨h1, h2⟩ := b3 h
      obtain ⟨h3, h4⟩ := b3 h1
      obtain ⟨h5, h6⟩ := b3 h3
      obtain ⟨h7, h8⟩ := b3 h5
      obtain ⟨h9, h10⟩ := b3 h7
      obtain ⟨h11, h12⟩ := b3 h9
      obtain ⟨g1, g2, g3⟩ := okN_of h8
      exact both (c_word o h11 (of_decide_eq_true h12) (gl_of h10) g1 h6 h4 fun {X' W'} o' tk' hN hs => (sE a o' tk' _ (by rw [hN, hs]; exact h2)).1) fun _ => rfl
    · exact no_case h
  | .sort kk a, nm, X, W, o, tk, e, h => by
    unfold chE at h
    split at h
    · rename_i x p y pos
      obtain ⟨h1, h2⟩ := b3 h
      obtain ⟨h3, h4⟩ := b3 h2
      cases of_decide_eq_true h1
      have m1 := free_of (x := Str.ofString "sorted") o (by decide +kernel)
      have m2 := free_of (x := Str.ofString "set") o (by decide +kernel)
      split at h4
      · split at h4
        · rename_i x2 p2 z pos2
          obtain ⟨h5, h6⟩ := b3 h4
          obtain ⟨h7, h8⟩ := b3 h6
          cases of_decide_eq_true h5
          exact both (c_sort0 o.calm (gl_of h3) m1 (gl_of h7) m2 (sE a o tk _ h8).1 (chE_star h8 _ _)) fun _ => rfl
        · exact no_case h4
      · rename_i hne
        obtain ⟨h5, h6⟩ := b3 h4
        exact both (c_sortN o.calm (gl_of h3) m1 (sE a o tk _ h6).1 (chE_star h6 _ _) (fun z => hne z) (of_decide_eq_true h5)) fun _ => rfl
    · exact no_case h
theorem sL : (il : IL) → ∀ {nm : Nm} {X : Cx} {W : WX}, Cok nm fa gc T k X → L2N.Takes X W → ∀ es : List Expr, chL nm X.N il X.env.scope es = true → PA X es (tEvL X.K fa W (Cf.mk (callK T gc k) gc (wdT T)) il)
  | .nil, nm, X, W, o, tk, es, h => by
    cases es with
    | nil => exact c_nil
    | cons a b => cases h
  | .cons a r, nm, X, W, o, tk, es, h => by
    cases es with
    | nil => cases h
    | cons e es =>
      obtain ⟨h1, h2⟩ := b3 h
      exact c_cons (sE a o tk e h1).1 (sL r o tk es h2) (chE_star h1 _ _)
theorem sAnd : (il : IL) → ∀ {nm : Nm} {X : Cx} {W : WX}, Cok nm fa gc T k X → L2N.Takes X W → ∀ (es : List Expr) (pos : Pos), chL nm X.N il X.env.scope es = true → PE X (.BoolOp .And es pos) (tA X.K fa W (Cf.mk (callK T gc k) gc (wdT T)) il) ∧ PW X (.BoolOp .And es pos) (tAT X.K fa W (Cf.mk (callK T gc k) gc (wdT T)) il)
  | .nil, nm, X, W, o, tk, es, pos, h => ⟨⟨fun _ _ _ _ _ _ ⟨_, _, _, _, _, _, p⟩ => p.elim⟩, ⟨fun _ _ _ _ _ _ _ ⟨_, _, _, _, _, _, p⟩ => p.elim⟩⟩
  | .cons a r, nm, X, W, o, tk, es, pos, h => by
    cases es with
    | nil => cases h
    | cons e es =>
      obtain ⟨h1, h2⟩ := b3 h
      have qa := sE a o tk e h1
      have qr := sAnd r o tk es pos h2
      cases r with
      | nil =>
        cases es with
        | nil => exact ⟨v_and1 qa.1, t_and1 qa.2⟩
        | cons b c => cases h2
      | cons b r =>
        cases es with
        | nil => cases h2
        | cons e1 es => exact ⟨v_and qa.1 qr.1, t_and qa.2 qr.2⟩
theorem sOr : (il : IL) → ∀ {nm : Nm} {X : Cx} {W : WX}, Cok nm fa gc T k X → L2N.Takes X W → ∀ (es : List Expr) (pos : Pos), chL nm X.N il X.env.scope es = true → PE X (.BoolOp .Or es pos) (tO X.K fa W (Cf.mk (callK T gc k) gc (wdT T)) il) ∧ PW X (.BoolOp .Or es pos) (tOT X.K fa W (Cf.mk (callK T gc k) gc (wdT T)) il)
  | .nil, nm, X, W, o, tk, es, pos, h => ⟨⟨fun _ _ _ _ _ _ ⟨_, _, _, _, _, _, p⟩ => p.elim⟩, ⟨fun _ _ _ _ _ _ _ ⟨_, _, _, _, _, _, p⟩ => p.elim⟩⟩
  | .cons a r, nm, X, W, o, tk, es, pos, h => by
    cases es with
    | nil => cases h
    | cons e es =>
      obtain ⟨h1, h2⟩ := b3 h
      have qa := sE a o tk e h1
      have qr := sOr r o tk es pos h2
      cases r with
      | nil =>
        cases es with
        | nil => exact ⟨v_or1 qa.1, t_or1 qa.2⟩
        | cons b c => cases h2
      | cons b r =>
        cases es with
        | nil => cases h2
        | cons e1 es => exact ⟨v_or qa.1 qr.1, t_or qa.2 qr.2⟩
theorem sO : (io : IO) → ∀ {nm : Nm} {X : Cx} {W : WX}, Cok nm fa gc T k X → L2N.Takes X W → ∀ oe : Option Expr, chO nm X.N io X.env.scope oe = true → PO X oe fun σ H Q => ∃ F ρ env st, Wok X.K fa F ρ H st ∧ ERel X.K fa F ρ H σ env ∧ Post X.K fa relE W F ρ H σ (evO (Cf.mk (callK T gc k) gc (wdT T)) io env st) Q
  | .non, nm, X, W, o, tk, oe, h => by
    cases oe with
    | none => exact c_oN
    | some e => cases h
  | .som a, nm, X, W, o, tk, oe, h => by
    cases oe with
    | none => cases h
    | some e => exact c_oS (sE a o tk e h).1
theorem sC : (io : IO) → ∀ {nm : Nm} {X : Cx} {W : WX}, Cok nm fa gc T k X → L2N.Takes X W → ∀ es : List Expr, chC nm X.N io X.env.scope es = true → PTs X es (tEvT X.K fa W (Cf.mk (callK T gc k) gc (wdT T)) fun env st => evC (Cf.mk (callK T gc k) gc (wdT T)) io env st)
  | .non, nm, X, W, o, tk, es, h => by
    cases es with
    | nil => exact ⟨fun pins s σ H Q I ⟨F, ρ, env, st, w, er, p⟩ => pts_nil.run pins s σ H Q I (Post.ok (rel := relE) p w rfl)⟩
    | cons a b => cases h
  | .som a, nm, X, W, o, tk, es, h => by
    unfold chC at h
    split at h
    · exact pts_one (sE a o tk _ h).2
    · cases h
theorem sI : (it : IT) → ∀ {nm : Nm} {X : Cx} {W : WX}, Cok nm fa gc T k X → L2N.Takes X W → ∀ (fl : Bool) (t e : Expr), chI nm X.N it X.env.scope t e = true → PI X t e (tIv X.K fa W (Cf.mk (callK T gc k) gc (wdT T)) fl it)
  | .seq a, nm, X, W, o, tk, fl, t, e, h => i_seq (sE a o tk e h).1
  | .rng1 a, nm, X, W, o, tk, fl, t, e, h => by
    unfold chI at h
    split at h
    · obtain ⟨h1, h2⟩ := b3 h
      obtain ⟨h3, h4⟩ := b3 h1
      have hx := of_decide_eq_true h3
      exact i_rng1 hx (gl_of h4) (by rw [hx]; exact free_of o (by simp [freeNames])) (sE a o tk _ h2).1 (fun r => chE_star h2 r _)
    · cases h
  | .rng2 a b, nm, X, W, o, tk, fl, t, e, h => by
    unfold chI at h
    split at h
    · obtain ⟨h1, h2⟩ := b3 h
      obtain ⟨h3, h4⟩ := b3 h1
      obtain ⟨h5, h6⟩ := b3 h3
      have hx := of_decide_eq_true h5
      exact i_rng2 hx (gl_of h6) (by rw [hx]; exact free_of o (by simp [freeNames])) (sE a o tk _ h4).1 (sE b o tk _ h2).1 (fun r => chE_star h4 r _) (fun r => chE_star h2 r _)
    · cases h
  | .zip a b, nm, X, W, o, tk, fl, t, e, h => by
    unfold chI at h
    split at h
    · obtain ⟨h1, h2⟩ := b3 h
      obtain ⟨h3, h4⟩ := b3 h1
      obtain ⟨h5, h6⟩ := b3 h3
      obtain ⟨h7, h8⟩ := b3 h5
      have hx := of_decide_eq_true h7
      cases t <;> first | cases h6 | skip
      exact i_zip hx (gl_of h8) (by rw [hx]; exact free_of o (by simp [freeNames])) (sE a o tk _ h4).1 (sE b o tk _ h2).1 (fun r => chE_star h4 r _) (fun r => chE_star h2 r _)
    · cases h
  | .enum a, nm, X, W, o, tk, fl, t, e, h => by
    unfold chI at h
    split at h
    · obtain ⟨h1, h2⟩ := b3 h
      obtain ⟨h3, h4⟩ := b3 h1
      obtain ⟨h5, h6⟩ := b3 h3
      have hx := of_decide_eq_true h5
      cases t <;> first | cases h4 | skip
      exact i_enum hx (gl_of h6) (by rw [hx]; exact free_of o (by simp [freeNames])) (sE a o tk _ h2).1 (fun r => chE_star h2 r _)
    · cases h
end
end
end DE
end

section
set_option Elab.async false
set_option linter.all false
set_option maxRecDepth 100000
set_option autoImplicit false
namespace DE
open PySem PySem.Spec L2
/-- what stands still stands -/
structure SExt (F : Addr → Prop) (H : Hp) (F' : Addr → Prop) (H' : Hp) : Prop where
  sub : ∀ a, F a → F' a
  keep : ∀ a o, F a → H a = some o → (∀ ps, o ≠ .tbl ps) → H' a = some o
theorem SExt.refl (F : Addr → Prop) (H : Hp) : SExt F H F H := ⟨fun _ h => h, fun _ _ _ h _ => h⟩
theorem SExt.trans {F F' F2 : Addr → Prop} {H H' H2 : Hp} (a : SExt F H F' H') (b : SExt F' H' F2 H2) : SExt F H F2 H2 := ⟨fun c h => b.sub c (a.sub c h), fun c o f h t => b.keep c o (a.sub c f) (a.keep c o f h t) t⟩
theorem SExt.of {F F' : Addr → Prop} {ρ ρ' : List Addr} {H H' : Hp} (dis : ∀ a, a ∈ ρ → ¬ F a) (e : Ext F ρ H F' ρ' H') : SExt F H F' H' := ⟨e.sub, fun a o f h t => e.keep a o h (fun z => dis a z f) t⟩
/-- a name's own things are younger than the entry -/
def OwnF (H0 : Hp) (σ : L2.St) (env : Env) : Prop := ∀ (i : Nat) (o : SO) (a : Addr), env[i]? = some (.own o) → σ[i]? = some (some (.ref a)) → nt H0 a = none
/-- the entry -/
structure Ent where
  F : Addr → Prop
  ρ : List Addr
  H : Hp
/-- where one stands -/
structure At (K : PySem.W.Frag) (fa : Fa) (z : Ent) (F : Addr → Prop) (ρ : List Addr) (H : Hp) (σ : L2.St) (env : Env) (st : Store) : Prop where
  ext : Ext z.F z.ρ z.H F ρ H
  wok : Wok K fa F ρ H st
  er : ERel K fa F ρ H σ env
  ow : OwnF z.H σ env
def PostS (K : PySem.W.Frag) (fa : Fa) (W : WX) (z : Ent) (F : Addr → Prop) (H : Hp) (r : R Fl) (D : Ends) : Prop := match r with
  | .ok (.nx env) st => ∀ σ F' ρ' H', At K fa z F' ρ' H' σ env st → SExt F H F' H' → D.nx σ H'
  | .ok (.bk env) st => ∀ σ F' ρ' H', At K fa z F' ρ' H' σ env st → SExt F H F' H' → D.bk σ H'
  | .ok (.ct env) st => ∀ σ F' ρ' H', At K fa z F' ρ' H' σ env st → SExt F H F' H' → D.ct σ H'
  | .ok (.rt d) st => ∀ v F' ρ' H', Ext z.F z.ρ z.H F' ρ' H' → Wok K fa F' ρ' H' st → DV K fa F' ρ' H' v d → D.rt v H'
  | .exc k x st => ∀ σ F' ρ' H', Ext z.F z.ρ z.H F' ρ' H' → Wok K fa F' ρ' H' st → x = none → W (.ref (fa k)) none σ H'
  | .bad => False
def tEx (K : PySem.W.Frag) (fa : Fa) (W : WX) (z : Ent) (f : Env → Store → R Fl) : TS := fun D σ H => ∃ F ρ env st, At K fa z F ρ H σ env st ∧ PostS K fa W z F H (f env st) D
section
variable {K : PySem.W.Frag} {fa : Fa} {W : WX} {z : Ent} {F F' : Addr → Prop} {ρ ρ' : List Addr} {H H' : Hp} {σ : L2.St} {env : Env} {st : Store} {DD : Ends} {r : R Fl}
theorem PostS.rebase (h : PostS K fa W z F H r DD) (e : SExt F H F' H') : PostS K fa W z F' H' r DD := by
  cases r with
  | bad => exact h
  | exc k x s => exact h
  | ok a s =>
    cases a with
    | nx env => exact fun σ F2 ρ2 H2 a x => h σ F2 ρ2 H2 a (e.trans x)
    | bk env => exact fun σ F2 ρ2 H2 a x => h σ F2 ρ2 H2 a (e.trans x)
    | ct env => exact fun σ F2 ρ2 H2 a x => h σ F2 ρ2 H2 a (e.trans x)
    | rt d => exact h
theorem OwnF.mono (h : OwnF H σ env) (e : Ext F ρ H' F' ρ' H) : OwnF H' σ env := fun i o a h1 h2 => e.there a (h i o a h1 h2)
/-- behind an expression -/
theorem At.expr (a : At K fa z F ρ H σ env st) {st' : Store} (e : Ext F ρ H F' ρ' H') (w : Wok K fa F' ρ' H' st') : At K fa z F' ρ' H' σ env st' := ⟨a.ext.trans e, w, a.er.mono a.wok e, a.ow⟩
/-- an expression first, then the rest -/
theorem exS {f : Env → Store → R D} {g : D → Store → R Fl} (a : At K fa z F ρ H σ env st) (h : PostS K fa W z F H ((f env st).bind g) DD) {Q1 : VK}
    (k : ∀ x H1 F1 ρ1 d st1, Ext F ρ H F1 ρ1 H1 → Wok K fa F1 ρ1 H1 st1 → DR K fa F1 ρ1 H1 H x d → PostS K fa W z F H (g d st1) DD → Q1 x H1) : tEvF K fa W f σ H Q1 := by
  refine ⟨F, ρ, env, st, a.wok, a.er, ?_⟩
  cases q : f env st with
  | bad =>
    rw [q] at h
    exact h.elim
  | exc kk x s =>
    rw [q] at h
    exact fun F' ρ' H' e w ex => h σ F' ρ' H' (a.ext.trans e) w ex
  | ok d s =>
    rw [q] at h
    exact fun b F1 ρ1 H1 e w r => k b H1 F1 ρ1 d s e w r h
theorem exSL {c : Cf} {il : IL} {g : List D → Store → R Fl} (a : At K fa z F ρ H σ env st) (h : PostS K fa W z F H ((evL c il env st).bind g) DD) {Q1 : List V → Hp → Prop}
    (k : ∀ x H1 F1 ρ1 d st1, Ext F ρ H F1 ρ1 H1 → Wok K fa F1 ρ1 H1 st1 → DRs K fa F1 ρ1 H1 H x d → Apart x d → PostS K fa W z F H (g d st1) DD → Q1 x H1) : tEvL K fa W c il σ H Q1 := by
  refine ⟨F, ρ, env, st, a.wok, a.er, ?_⟩
  cases q : evL c il env st with
  | bad =>
    rw [q] at h
    exact h.elim
  | exc kk x s =>
    rw [q] at h
    exact fun F' ρ' H' e w ex => h σ F' ρ' H' (a.ext.trans e) w ex
  | ok d s =>
    rw [q] at h
    exact fun b F1 ρ1 H1 e w r => k b H1 F1 ρ1 d s e w r.1 r.2 h
theorem exST {c : Cf} {t : Env → Store → R Bool} {g : Bool → Store → R Fl} (a : At K fa z F ρ H σ env st) (h : PostS K fa W z F H ((t env st).bind g) DD) {Q1 : Bool → Hp → Prop}
    (k : ∀ b H1 F1 ρ1 st1, At K fa z F1 ρ1 H1 σ env st1 → SExt F H F1 H1 → PostS K fa W z F H (g b st1) DD → Q1 b H1) : tEvT K fa W c t σ H Q1 := by
  refine ⟨F, ρ, env, st, a.wok, a.er, ?_⟩
  cases q : t env st with
  | bad =>
    rw [q] at h
    exact h.elim
  | exc kk x s =>
    rw [q] at h
    exact fun F' ρ' H' e w ex => h σ F' ρ' H' (a.ext.trans e) w ex
  | ok b s =>
    rw [q] at h
    intro b' F1 ρ1 H1 e w r
    cases (show b' = b from r)
    exact k b H1 F1 ρ1 s (a.expr e w) (SExt.of a.wok.dis e) h
variable {X : Cx} {s : Stmt} {ss : List Stmt} {c : Cf}
theorem ps_of {t t' : TS} (h : PS X s t) (i : ∀ D σ H, t' D σ H → t D σ H) : PS X s t' := ⟨fun pins sh σ H D I q => h.run pins sh σ H D I (i D σ H q)⟩
theorem pss_of {t t' : TS} (h : PSs X ss t) (i : ∀ D σ H, t' D σ H → t D σ H) : PSs X ss t' := ⟨fun pins sh σ H D I q => h.run pins sh σ H D I (i D σ H q)⟩
theorem PostS.next (a : At K fa z F ρ H σ env st) (h : PostS K fa W z F H (.ok (.nx env) st) DD) : DD.nx σ H := h σ F ρ H a (.refl _ _)
theorem b_nil : PSs X [] (tEx X.K fa W z (execs c .nil)) := pss_of pss_nil fun D σ H ⟨F, ρ, env, st, a, p⟩ => PostS.next a p
theorem seqR {G : Env → Store → R Fl} (a : At K fa z F ρ H σ env st) {f : Env → Store → R Fl} (h : PostS K fa W z F H ((f env st).bind fun r st => match r with | .nx env => G env st | r => .ok r st) DD) : PostS K fa W z F H (f env st) { DD with nx := tEx K fa W z G DD } := by
  cases q : f env st with
  | bad =>
    rw [q] at h
    exact h
  | exc kk x s =>
    rw [q] at h
    exact h
  | ok d s =>
    rw [q] at h
    cases d with
    | nx env' => exact fun σ' F' ρ' H' a' e => ⟨F', ρ', env', s, a', PostS.rebase h e⟩
    | bk env' => exact h
    | ct env' => exact h
    | rt d => exact h
theorem b_cons {is : IS} {ib : IB} (h1 : PS X s (tEx X.K fa W z (exec c is))) (h2 : PSs X ss (tEx X.K fa W z (execs c ib))) : PSs X (s :: ss) (tEx X.K fa W z (execs c (.cons is ib))) := pss_of (pss_cons h1 h2) fun D σ H ⟨F, ρ, env, st, a, p⟩ =>
  ⟨F, ρ, env, st, a, seqR a p⟩
/-- a name's own list is let go -/
theorem b_frz {i : Nat} {ib : IB} (h2 : PSs X ss (tEx X.K fa W z (execs c ib))) : PSs X ss (tEx X.K fa W z (execs c (.cons (.frz i) ib))) := pss_of h2 fun D σ H ⟨F, ρ, env, st, a, p⟩ => by
  have p : PostS X.K fa W z F H ((match env[i]? with | some (.own (.lst xs)) => R.ok (Fl.nx (setS env i (.p (.lst xs)))) st | _ => .bad).bind fun r st => match r with | .nx env => execs c ib env st | r => .ok r st) D := p
  cases q : env[i]? with
  | none =>
    rw [q] at p
    exact p.elim
  | some sl =>
    rw [q] at p
    cases sl with
    | un => exact p.elim
    | val d => exact p.elim
    | own so =>
      cases so with
      | dic kvs => exact p.elim
      | lst xs =>
        obtain ⟨ad, h1, ⟨vs, h3, h4⟩, h5, h6⟩ := a.er.own i _ q
        have hh := nt_lst h3
        have hi : i < env.length := (List.getElem?_eq_some_iff.mp q).1
        -- the others stand elsewhere
        have other : ∀ (j : Nat) (o' : SO), j ≠ i → env[j]? = some (.own o') → σ[j]? ≠ some (some (.ref ad)) := fun j o' hj e1 e2 => hj (a.er.dist j i o' _ ad e1 q e2 h1)
        have σi : σ.set i (some (.ref ad)) = σ := by
          apply List.ext_getElem?
          intro j
          by_cases hj : i = j
          · subst hj
            rw [List.getElem?_set, if_pos rfl, if_pos (by rw [a.er.len]; exact hi), h1]
          · rw [List.getElem?_set_ne hj]
        have er1 : ERel X.K fa (addF F ad) ρ H σ (setS env i (.p (.lst xs))) := by
          have un := a.er.un i (some (.ref ad))
          rw [σi] at un
          have fz := un.fz (a := ad) (fun j o' e => by
            by_cases hj : i = j
            · subst hj
              rw [List.getElem?_set, if_pos rfl, if_pos hi] at e
              cases e
            · rw [List.getElem?_set_ne hj] at e
              exact other j o' (fun z => hj z.symm) e)
          have st2 := fz.set i (v := .ref ad) (d := .p (.lst xs)) (VR.lst (.inr rfl) h3 (h4.sub fun _ h => .inl h))
          rw [σi, List.set_set] at st2
          exact st2
        have at1 : At X.K fa z (addF F ad) ρ H σ (setS env i (.p (.lst xs))) st := ⟨a.ext.fz (a.ow i _ ad q h1), a.wok.fz h6 hh, er1, fun j o b e1 e2 => by
          by_cases hj : i = j
          · subst hj
            unfold setS at e1
            rw [List.getElem?_set, if_pos rfl, if_pos hi] at e1
            cases e1
          · unfold setS at e1
            rw [List.getElem?_set_ne hj] at e1
            exact a.ow j o b e1 e2⟩
        exact ⟨_, ρ, _, st, at1, PostS.rebase p ⟨fun _ h => .inl h, fun _ _ _ h _ => h⟩⟩
variable {e : Expr} {pos : Pos} {ie : IE}
theorem s_pass : PS X (.Pass pos) (tEx X.K fa W z (exec c .pass)) := ps_of ps_pass fun D σ H ⟨F, ρ, env, st, a, p⟩ => PostS.next a p
theorem s_brk : PS X (.Break pos) (tEx X.K fa W z (exec c .brk)) := ps_of ps_break fun D σ H ⟨F, ρ, env, st, a, p⟩ => p σ F ρ H a (.refl _ _)
theorem s_cont : PS X (.Continue pos) (tEx X.K fa W z (exec c .cont)) := ps_of ps_continue fun D σ H ⟨F, ρ, env, st, a, p⟩ => p σ F ρ H a (.refl _ _)
theorem s_exp (he : PE X e (tEv X.K fa W c ie)) (hs : swapsWith e none pos.line X.env = pure false) : PS X (.Expr e pos) (tEx X.K fa W z (exec c (.exp ie))) := ps_of (ps_expr he hs) fun D σ H ⟨F, ρ, env, st, a, p⟩ =>
  exS (f := ev c ie) (g := fun _ st => .ok (.nx env) st) a p fun x H1 F1 ρ1 d st1 e1 w1 r1 p1 => PostS.next (a.expr e1 w1) (PostS.rebase p1 (SExt.of a.wok.dis e1))
theorem s_retN : PS X (.Return none pos) (tEx X.K fa W z (exec c .retN)) := ps_of ps_retN fun D σ H ⟨F, ρ, env, st, a, p⟩ => p .non F ρ H a.ext a.wok VR.non
theorem s_ret (he : PE X e (tEv X.K fa W c ie)) : PS X (.Return (some e) pos) (tEx X.K fa W z (exec c (.ret ie))) := ps_of (ps_ret he) fun D σ H ⟨F, ρ, env, st, a, p⟩ => by
  have p : PostS X.K fa W z F H ((ev c ie env st).bind fun d st => match d.arg with
    | some d => .ok (.rt d) st
    | none => .bad) D := p
  refine exS (f := ev c ie) a p fun x H1 F1 ρ1 d st1 e1 w1 r1 p1 => ?_
  cases d with
  | p y => exact p1 x F1 ρ1 H1 (a.ext.trans e1) w1 r1
  | new xs =>
    obtain ⟨ad, vs, rfl, h1, h2, h3, h4, h5⟩ := r1
    have hh := nt_lst h1
    exact p1 _ (addF F1 ad) ρ1 H1 ((a.ext.trans e1).fz (a.ext.there ad h5)) (w1.fz h4 hh) (VR.lst (.inr rfl) h1 (h2.sub fun _ h => .inl h))
  | box n => exact p1 x F1 ρ1 H1 (a.ext.trans e1) w1 r1
  | bor o => exact p1.elim
theorem s_retB (he : PE X e (tEv X.K fa W c ie)) : PS X (.Return (some e) pos) (tEx X.K fa W z (exec c (.retB ie))) := ps_of (ps_ret he) fun D σ H ⟨F, ρ, env, st, a, p⟩ => by
  have p : PostS X.K fa W z F H ((ev c ie env st).bind fun d st => match d with
    | .new xs => .ok (.rt (.box st.length)) (st ++ [.lst xs])
    | _ => .bad) D := p
  refine exS (f := ev c ie) a p fun x H1 F1 ρ1 d st1 e1 w1 r1 p1 => ?_
  cases d with
  | new xs =>
    obtain ⟨ad, vs, rfl, h1, h2, h3, h4, h5⟩ := r1
    have hh := nt_lst h1
    refine p1 _ F1 (ρ1 ++ [ad]) H1 ?_ ⟨?_, ?_, ?_, ?_, w1.has, w1.tab⟩ ⟨ad, rfl, ?_⟩
    · obtain ⟨l, q1, q2⟩ := (a.ext.trans e1).pre
      refine ⟨(a.ext.trans e1).sub, (a.ext.trans e1).new, ⟨l ++ [ad], by rw [q1, List.append_assoc], fun b hb => ?_⟩, (a.ext.trans e1).keep, (a.ext.trans e1).there⟩
      rcases List.mem_append.mp hb with hb | hb
      · exact q2 b hb
      · have : b = ad := by simpa using hb
        rw [this]
        exact a.ext.there ad h5
    · rw [List.length_append, List.length_append, w1.len]
      rfl
    · rw [List.nodup_append]
      exact ⟨w1.nd, by simp, fun b hb c hc => by
        have : c = ad := by simpa using hc
        rw [this]
        exact fun z => h4 (z ▸ hb)⟩
    · intro n b o q1 q2
      by_cases hn : n < ρ1.length
      · rw [List.getElem?_append_left hn] at q1
        rw [List.getElem?_append_left (by rw [← w1.len]; exact hn)] at q2
        exact w1.box n b o q1 q2
      · have hn' : n = ρ1.length := by
          have := (List.getElem?_eq_some_iff.mp q1).1
          rw [List.length_append] at this
          simp at this
          omega
        subst hn'
        rw [List.getElem?_append_right (Nat.le_refl _)] at q1
        rw [w1.len, List.getElem?_append_right (Nat.le_refl _)] at q2
        simp at q1 q2
        subst q1 q2
        exact ⟨vs, h1, h2⟩
    · intro b hb f
      rcases List.mem_append.mp hb with hb | hb
      · exact w1.dis b hb f
      · have : b = ad := by simpa using hb
        rw [this] at f
        exact h3 f
    · rw [← w1.len, List.getElem?_append_right (Nat.le_refl _)]
      simp
  | _ => exact p1.elim
theorem s_ife {ia ib : IB} {sa sb : List Stmt} (ht : PT X e (tT X.K fa W c ie)) (ha : PSs X sa (tEx X.K fa W z (execs c ia))) (hb : PSs X sb (tEx X.K fa W z (execs c ib))) : PS X (.If e sa sb pos) (tEx X.K fa W z (exec c (.ife ie ia ib))) := ps_of (ps_if ht ha hb) fun D σ H ⟨F, ρ, env, st, a, p⟩ => by
  have p : PostS X.K fa W z F H ((evT c ie env st).bind fun k st => if k then execs c ia env st else execs c ib env st) D := p
  refine exST (c := c) a p fun b H1 F1 ρ1 st1 a1 s1 p1 => ?_
  cases b with
  | true => exact iteT ⟨F1, ρ1, env, st1, a1, PostS.rebase p1 s1⟩
  | false => exact iteF ⟨F1, ρ1, env, st1, a1, PostS.rebase p1 s1⟩
end
end DE
end

section
set_option Elab.async false
set_option linter.all false
set_option maxRecDepth 100000
set_option autoImplicit false
namespace DE
open PySem PySem.Spec L2
section
variable {X : Cx} {fa : Fa} {W : WX} {z : Ent} {c : Cf} {e : Expr} {pos : Pos} {ie : IE} {ib : IB} {ss : List Stmt}
theorem s_whl (hp : PassesOwn (model X.prog X.w) X.A X.env X.xe) (ht : PT X e (tT X.K fa W c ie)) (hb : PSs X ss (tEx X.K fa W z (execs c ib))) : PS X (.While e ss [] pos) (tEx X.K fa W z (exec c (.whl ie ib))) := ps_of (ps_while hp ht hb) fun D σ H h => by
  refine ⟨fun m σ H => tEx X.K fa W z (fun env st => whileGo (fun env st => evT c ie env st) (fun env st => execs c ib env st) m env st) D σ H, ⟨WN, h⟩, ?_⟩
  rintro m σ H ⟨F, ρ, env, st, a, p⟩
  cases m with
  | zero => exact p.elim
  | succ m =>
    have p : PostS X.K fa W z F H ((evT c ie env st).bind fun b st => if b then (execs c ib env st).bind fun r st => match r with
        | .nx env => whileGo (fun env st => evT c ie env st) (fun env st => execs c ib env st) m env st
        | .ct env => whileGo (fun env st => evT c ie env st) (fun env st => execs c ib env st) m env st
        | .bk env => .ok (.nx env) st
        | .rt d => .ok (.rt d) st
      else .ok (.nx env) st) D := p
    refine exST (c := c) a p fun b H1 F1 ρ1 st1 a1 s1 p1 => ?_
    have p1 := p1.rebase s1
    cases b with
    | false => exact iteF (PostS.next a1 p1)
    | true =>
      refine iteT ⟨fun σ' H' => tEx X.K fa W z (fun env st => whileGo (fun env st => evT c ie env st) (fun env st => execs c ib env st) m env st) D σ' H', fun σ' H' h => ⟨m, Nat.lt_succ_self _, h⟩, F1, ρ1, env, st1, a1, ?_⟩
      simp only [if_true] at p1
      cases q : execs c ib env st1 with
      | bad =>
        rw [q] at p1
        exact p1
      | exc kk x s =>
        rw [q] at p1
        exact p1
      | ok r s =>
        rw [q] at p1
        cases r with
        | nx env' => exact fun σ' F' ρ' H' a' e => ⟨F', ρ', env', s, a', PostS.rebase p1 e⟩
        | ct env' => exact fun σ' F' ρ' H' a' e => ⟨F', ρ', env', s, a', PostS.rebase p1 e⟩
        | bk env' => exact p1
        | rt d => exact p1
theorem asgT_own : ∀ {tg : Tg} {d : D} {env env1 : Env}, asgT tg d env = some env1 → ∀ (i : Nat) (o : SO), env1[i]? = some (.own o) → env[i]? = some (.own o) ∧ i ∉ tg.slots
  | .one j, d, env, env1, h, i, o, e => by
    have key : ∀ d', env1 = setS env j d' → env[i]? = some (Sl.own o) ∧ i ∉ (Tg.one j).slots := fun d' q => by
      subst q
      by_cases hj : j = i
      · subst hj
        unfold setS at e
        rw [List.getElem?_set, if_pos rfl] at e
        split at e <;> cases e
      · unfold setS at e
        rw [List.getElem?_set_ne hj] at e
        exact ⟨e, by simp [Tg.slots, Ne.symm hj]⟩
    cases d with
    | p x => exact key _ (Option.some.inj h).symm
    | box n => exact key _ (Option.some.inj h).symm
    | _ => cases h
  | .two a b, d, env, env1, h, i, o, e => by
    cases d with
    | p x =>
      cases x with
      | tup xs =>
        match xs, h with
        | [x, y], h =>
          have h : (match asgT a (.p x) env with | some env1 => asgT b (.p y) env1 | none => none) = some env1 := h
          cases q : asgT a (.p x) env with
          | none =>
            rw [q] at h
            cases h
          | some env2 =>
            rw [q] at h
            obtain ⟨h1, h2⟩ := asgT_own h i o e
            obtain ⟨h3, h4⟩ := asgT_own q i o h1
            exact ⟨h3, by simp [Tg.slots, h2, h4]⟩
      | _ => cases h
    | _ => cases h
theorem s_for {tgt : Tg} {it : IT} {t i : Expr} (hp : PassesOwn (model X.prog X.w) X.A X.env X.xe) (hc : X.calm = true) (hi : PI X t i (tIv X.K fa W c true it)) (hg : PG X t (gTv X.K fa tgt)) (hb : PSs X ss (tEx X.K fa W z (execs c ib))) (hs : ∀ x, foldedSetIterable i X.env x = pure x) :
    PS X (.For t i ss [] pos) (tEx X.K fa W z (exec c (.for_ tgt it ib))) := ps_of (ps_for hp hc hi hg hb hs) fun D σ H ⟨F, ρ, env, st, a, p⟩ => by
  have p : PostS X.K fa W z F H ((evI c true it env st).bind fun xs st => forGo (fun env st => execs c ib env st) tgt xs env st) D := p
  refine ⟨F, ρ, env, st, a.wok, a.er, ?_⟩
  cases q : evI c true it env st with
  | bad =>
    rw [q] at p
    exact p.elim
  | exc kk x s =>
    rw [q] at p
    exact fun F' ρ' H' e w ex => p σ F' ρ' H' (a.ext.trans e) w ex
  | ok xs st1 =>
    rw [q] at p
    have p : PostS X.K fa W z F H (forGo (fun env st => execs c ib env st) tgt xs env st1) D := p
    intro J F1 ρ1 H1 e1 w1 ⟨S, itw, hS⟩
    -- what is walked is kept
    have a1 := a.expr e1 w1
    have a2 : At X.K fa z (fun b => F1 b ∨ b ∈ S) ρ1 H1 σ env st1 := by
      refine ⟨⟨fun b h => .inl (a1.ext.sub b h), fun b h => ?_, a1.ext.pre, a1.ext.keep, a1.ext.there⟩, ⟨w1.len, w1.nd, fun n b o h1 h2 => (w1.box n b o h1 h2).sub fun _ h => .inl h, fun b hb h => ?_, fun b h => ?_, w1.tab⟩, ⟨a1.er.len, fun i d h => ?_, fun i o h => ?_, a1.er.dist⟩, a1.ow⟩
      · rcases h with h | h
        · exact a1.ext.new b h
        · rcases (hS b h).2.2 rfl with h | h
          · exact a1.ext.new b h
          · exact .inr (a.ext.there b h)
      · rcases h with h | h
        · exact w1.dis b hb h
        · exact (hS b h).1 hb
      · rcases h with h | h
        · exact w1.has b h
        · obtain ⟨o, h1, h2⟩ := (hS b h).2.1
          exact nt_ne h1 h2
      · obtain ⟨v, h1, h2⟩ := a1.er.val i d h
        exact ⟨v, h1, h2.sub fun _ h => .inl h⟩
      · obtain ⟨b, h1, h2, h3, h4⟩ := a1.er.own i o h
        refine ⟨b, h1, h2.sub fun _ h => .inl h, fun hb => ?_, h4⟩
        rcases hb with hb | hb
        · exact h3 hb
        · rcases (hS b hb).2.2 rfl with hb | hb
          · exact h3 hb
          · obtain ⟨b', g1, g2, _⟩ := a.er.own i o h
            rw [h1] at g1
            cases g1
            exact g2.has hb
    have s2 : SExt F H (fun b => F1 b ∨ b ∈ S) H1 := (SExt.of a.wok.dis e1).trans ⟨fun _ h => .inl h, fun _ _ _ h _ => h⟩
    have keepS : ∀ {F' : Addr → Prop} {H' : Hp}, SExt (fun b => F1 b ∨ b ∈ S) H1 F' H' → ∀ b, b ∈ S → H' b = H1 b := fun {F' H'} e b hb => by
      obtain ⟨_, ⟨o, h1, h2⟩, _⟩ := hS b hb
      rw [e.keep b o (.inr hb) h1 h2, h1]
    refine ⟨fun i m σ' H' => m = xs.length - i ∧ i ≤ xs.length ∧ ∃ F' ρ' env' st', At X.K fa z F' ρ' H' σ' env' st' ∧ SExt (fun b => F1 b ∨ b ∈ S) H1 F' H' ∧ PostS X.K fa W z F' H' (forGo (fun env st => execs c ib env st) tgt (xs.drop i) env' st') D,
      ⟨xs.length, by simp, Nat.zero_le _, _, ρ1, env, st1, a2, .refl _ _, p.rebase s2⟩, ?_⟩
    rintro i m σ' H' ⟨rfl, hi, F', ρ', env', st', a', s', p'⟩
    have hS' := keepS s'
    by_cases hlt : i < xs.length
    · refine .inr ⟨itw.go H' i hS' hlt, fun σ' H' => ∃ F' ρ' env' st', At X.K fa z F' ρ' H' σ' env' st' ∧ SExt (fun b => F1 b ∨ b ∈ S) H1 F' H' ∧ PostS X.K fa W z F' H' (forGo (fun env st => execs c ib env st) tgt (xs.drop (i + 1)) env' st') D,
        fun σ2 H2 h2 => ⟨xs.length - (i + 1), by omega, rfl, hlt, h2⟩, fun v H2 y => ?_⟩
      have hx : xs[i]? = some xs[i] := List.getElem?_eq_getElem hlt
      rw [List.drop_eq_getElem_cons hlt] at p'
      have p' : PostS X.K fa W z F' H' (match asgT tgt (.p xs[i]) env' with
        | some env1 => (execs c ib env1 st').bind fun r st => match r with
          | .nx env => forGo (fun env st => execs c ib env st) tgt (xs.drop (i + 1)) env st
          | .ct env => forGo (fun env st => execs c ib env st) tgt (xs.drop (i + 1)) env st
          | .bk env => .ok (.nx env) st
          | .rt d => .ok (.rt d) st
        | none => .bad) D := p'
      obtain ⟨F2, ex2, wk2, hv2, _⟩ := itw.yld F' ρ' H' st' i xs[i] v H2 hS' (fun b h => s'.sub b (.inl h)) (fun b o f h t => s'.keep b o (.inl f) h t) a'.wok hx y
      cases hq : asgT tgt (.p xs[i]) env' with
      | none =>
        rw [hq] at p'
        exact p'.elim
      | some env1 =>
        rw [hq] at p'
        refine ⟨F2, ρ', env', .p xs[i], env1, hv2, a'.er.mono a'.wok ex2, hq, fun σ2 er2 off => ?_⟩
        have a3 : At X.K fa z F2 ρ' H2 σ2 env1 st' := ⟨a'.ext.trans ex2, wk2, er2, fun j o b g1 g2 => by
          obtain ⟨g3, g4⟩ := asgT_own hq j o g1
          rw [off.2 j g4] at g2
          exact a'.ow j o b g3 g2⟩
        have s3 := SExt.of a'.wok.dis ex2
        have p3 := p'.rebase s3
        refine ⟨F2, ρ', env1, st', a3, ?_⟩
        cases q2 : execs c ib env1 st' with
        | bad =>
          simp only [q2] at p3
          exact p3
        | exc kk x s =>
          simp only [q2] at p3
          exact p3
        | ok r s =>
          simp only [q2] at p3
          cases r with
          | nx env2 => exact fun σ4 F4 ρ4 H4 a4 e4 => ⟨F4, ρ4, env2, s, a4, (s'.trans s3).trans e4, PostS.rebase p3 e4⟩
          | ct env2 => exact fun σ4 F4 ρ4 H4 a4 e4 => ⟨F4, ρ4, env2, s, a4, (s'.trans s3).trans e4, PostS.rebase p3 e4⟩
          | bk env2 => exact p3
          | rt d => exact p3
    · have he : i = xs.length := by omega
      subst he
      rw [List.drop_length] at p'
      exact .inl ⟨itw.stop H' _ hS' (Nat.le_refl _), PostS.next a' p'⟩
end
end DE
end

section
set_option Elab.async false
set_option linter.all false
set_option maxRecDepth 100000
set_option autoImplicit false
namespace DE
open PySem PySem.Spec L2
def isComp : Expr → Option Scope
  | .ListComp _ _ s _ => some s
  | .SetComp _ _ s _ => some s
  | .DictComp _ _ _ s _ => some s
  | _ => none
theorem sw_no {e : Expr} {t : Option Expr} {l : Nat} {env : PySem.Env} (h : isComp e = none) : swapsWith e t l env = pure false := by
  cases e <;> first | rfl | cases h
theorem sw_sub {e o i : Expr} {p : Pos} {l : Nat} {env : PySem.Env} : swapsWith e (some (.Subscript o i p)) l env = pure false := by
  cases e <;> rfl
theorem sw_tup {e : Expr} {es : List Expr} {k : Nat} {p : Pos} {l : Nat} {env : PySem.Env} : swapsWith e (some (.Tuple es k p)) l env = pure false := by
  cases e <;> rfl
theorem sw_cell {e : Expr} {x : Str} {p : Pos} {l : Nat} {env : PySem.Env} (h : env.scope.names.lookup x = some .cell) : swapsWith e (some (.Name x p)) l env = pure false := by
  have ky : env.kindOf x = some .cell := h
  cases e <;> first | rfl | (unfold swapsWith; simp only [ky]; show pure ((_ && false && _) && _) = pure false; rw [Bool.and_false]; rfl)
/-- the names that are stored from the right -/
def swP (ts vs : List Expr) (isF : Bool) (sc : Scope) : Option (Option (List Str)) :=
  if !(ts.length == 2 || ts.length == 3) || vs.length != ts.length || !isF then some none
  else if vs.any (fun | .Starred .. => true | _ => false) then some none
  else
    let line := (ts.head?.map (·.pos.line)).getD 0
    let names := ts.filterMap fun
      | .Name id pos => if sc.names.lookup id == some .local && pos.line == line then some id else none
      | _ => none
    if names.length != ts.length || names.eraseDups.length != names.length then some none
    else if vs.all (foldedForSure 8) then some none
    else if vs.all (constantsAlone 8) then none
    else some (some names)
def isFn (sc : Scope) : Bool := (if sc.kind.isAnnotationScope then ScopeKind.function else sc.kind) == .function
theorem swP_ok {ts vs : List Expr} {k k2 : Nat} {p p2 : Pos} {env : PySem.Env} {r : Option (List Str)} (h : swP ts vs (isFn env.scope) env.scope = some r) : swappedStores [.Tuple ts k p] (.Tuple vs k2 p2) env = pure r := by
  unfold swP at h
  unfold swappedStores
  dsimp only
  split at h
  · rename_i q
    cases h
    exact if_pos q
  · rename_i q
    refine (if_neg q).trans ?_
    split at h
    · rename_i q2
      cases h
      exact if_pos q2
    · rename_i q2
      refine (if_neg q2).trans ?_
      dsimp only at h
      split at h
      · rename_i q3
        cases h
        exact if_pos q3
      · rename_i q3
        refine (if_neg q3).trans ?_
        split at h
        · rename_i q4
          cases h
          exact if_pos q4
        · rename_i q4
          refine (if_neg q4).trans ?_
          split at h
          · cases h
          · rename_i q5
            cases h
            exact if_neg q5

section
variable {K : PySem.W.Frag} {fa : Fa} {W : WX} {z : Ent} {F F' : Addr → Prop} {ρ ρ' : List Addr} {H H' H0 : Hp} {σ : L2.St} {env : Env} {st : Store} {DD : Ends} {r : R Fl} {v : V} {d : D} {ad : Addr} {o : SO}
theorem set_own {env : Env} {i j : Nat} {s : Sl} {o : SO} (hs : ∀ o, s ≠ .own o) (h : (env.set i s)[j]? = some (.own o)) : j ≠ i ∧ env[j]? = some (.own o) := by
  by_cases hj : i = j
  · subst hj
    rw [List.getElem?_set, if_pos rfl] at h
    split at h
    · cases h
      exact absurd rfl (hs o)
    · cases h
  · rw [List.getElem?_set_ne hj] at h
    exact ⟨fun z => hj z.symm, h⟩
theorem At.setV (a : At K fa z F ρ H σ env st) (i : Nat) (hv : DV K fa F ρ H v d) : At K fa z F ρ H (σ.set i (some v)) (setS env i d) st :=
  ⟨a.ext, a.wok, a.er.set i hv, fun j o b h1 h2 => by
    obtain ⟨hj, h1⟩ := set_own (fun _ e => by cases e) h1
    rw [List.getElem?_set_ne (fun z => hj z.symm)] at h2
    exact a.ow j o b h1 h2⟩
theorem At.setO (a : At K fa z F ρ H σ env st) (i : Nat) (h : SR K fa F H ad o) (hf : ¬ F ad) (hr : ad ∉ ρ) (hn : ∀ j o', j ≠ i → env[j]? = some (.own o') → σ[j]? ≠ some (some (.ref ad))) (hz : nt z.H ad = none) :
    At K fa z F ρ H (σ.set i (some (.ref ad))) (DE.setO env i o) st :=
  ⟨a.ext, a.wok, a.er.setO i h hf hr hn, fun j o' b h1 h2 => by
    unfold DE.setO at h1
    by_cases hj : i = j
    · subst hj
      rw [List.getElem?_set, if_pos rfl] at h2
      split at h2
      · cases h2
        exact hz
      · cases h2
    · rw [List.getElem?_set_ne hj] at h1 h2
      exact a.ow j o' b h1 h2⟩
theorem At.fz (a : At K fa z F ρ H σ env st) (hn : ∀ (j : Nat) (o' : SO), env[j]? = some (.own o') → σ[j]? ≠ some (some (.ref ad))) (hr : ad ∉ ρ) (hh : nt H ad ≠ none) (hz : nt z.H ad = none) : At K fa z (addF F ad) ρ H σ env st :=
  ⟨a.ext.fz hz, a.wok.fz hr hh, a.er.fz hn, a.ow⟩
theorem keepF {o : HO} (hf : ¬ F ad) : ∀ b q, F b → H b = some q → (∀ ps, q ≠ .tbl ps) → upd H ad o b = some q := fun b q f h _ => by
  have hb : b ≠ ad := fun e => by
    rw [e] at f
    exact hf f
  rw [upd_ne hb]
  exact h
theorem SR.upd {o : HO} {b : Addr} {so : SO} (hf : ¬ F ad) (hb : b ≠ ad) (h : SR K fa F H b so) : SR K fa F (upd H ad o) b so := by
  cases so with
  | lst xs =>
    obtain ⟨vs, h1, h2⟩ := h
    exact ⟨vs, by rw [upd_ne hb]; exact h1, h2.mono2 (fun _ h => h) (keepF hf)⟩
  | dic kvs => exact h.elim
theorem SR.isL {a : Addr} {o : SO} (h : SR K fa F H a o) : ∃ ws, H a = some (.lst ws) := by
  cases o with
  | lst xs => exact ⟨_, h.choose_spec.1⟩
  | dic kvs => exact h.elim
/-- a name's own list is written -/
theorem At.updO (a : At K fa z F ρ H σ env st) {i : Nat} {so : SO} {vs : List V} {xs : List P} (hi : env[i]? = some (.own so)) (hs : σ[i]? = some (some (.ref ad))) (hv : VRs K fa F H vs xs) :
    At K fa z F ρ (upd H ad (.lst vs)) σ (DE.setO env i (.lst xs)) st ∧ SExt F H F (upd H ad (.lst vs)) := by
  obtain ⟨b, h1, h2, h3, h4⟩ := a.er.own i so hi
  rw [hs] at h1
  cases h1
  have hz : nt z.H ad = none := a.ow i so ad hi hs
  obtain ⟨ws, hl⟩ := h2.isL
  have hil : i < env.length := (List.getElem?_eq_some_iff.mp hi).1
  have σi : σ.set i (some (.ref ad)) = σ := by
    apply List.ext_getElem?
    intro j
    by_cases hj : i = j
    · subst hj
      rw [List.getElem?_set, if_pos rfl, if_pos (by rw [a.er.len]; exact hil), hs]
    · rw [List.getElem?_set_ne hj]
  refine ⟨⟨⟨a.ext.sub, a.ext.new, a.ext.pre, fun b q h hb ht => ?_, fun b h => a.ext.there b (nt_upd (o := .lst vs) (fun _ z => nomatch z) h)⟩, ⟨a.wok.len, a.wok.nd, fun n b o q1 q2 => ?_, a.wok.dis, fun b f h => a.wok.has b f (nt_upd (o := .lst vs) (fun _ z => nomatch z) h), tabs_upd a.wok.tab hl⟩, ?_, ?_⟩, ⟨fun _ h => h, keepF h3⟩⟩
  · have hne : b ≠ ad := fun e => nt_abs hz (e ▸ h) ht
    rw [upd_ne hne]
    exact a.ext.keep b q h hb ht
  · exact (a.wok.box n b o q1 q2).upd h3 (fun e => h4 (e ▸ List.mem_of_getElem? q1))
  · have er1 : ERel K fa F ρ (upd H ad (.lst vs)) σ (env.set i .un) := by
      have un := a.er.un i (some (.ref ad))
      rw [σi] at un
      refine ⟨un.len, fun j d h => ?_, fun j o h => ?_, un.dist⟩
      · obtain ⟨v, g1, g2⟩ := un.val j d h
        refine ⟨v, g1, ?_⟩
        cases d with
        | p x => exact VR.mono2 (fun _ h => h) (keepF h3) g2
        | box n => exact g2
        | _ => exact g2.elim
      · obtain ⟨b, g1, g2, g3, g4⟩ := un.own j o h
        obtain ⟨hj, h'⟩ := set_own (fun _ e => by cases e) h
        exact ⟨b, g1, g2.upd h3 (fun e => hj (a.er.dist j i o so ad h' hi (e ▸ g1) hs)), g3, g4⟩
    have er2 := er1.setO i (a := ad) (o := .lst xs) ⟨vs, upd_same, hv.mono2 (fun _ h => h) (keepF h3)⟩ h3 h4 (fun j o' hj e => by
      obtain ⟨_, e⟩ := set_own (fun _ e => by cases e) e
      exact fun q => hj (a.er.dist j i o' so ad e hi q hs))
    rw [σi, List.set_set] at er2
    exact er2
  · intro j o b g1 g2
    by_cases hj : i = j
    · subst hj
      rw [hs] at g2
      cases g2
      exact hz
    · unfold DE.setO at g1
      rw [List.getElem?_set_ne hj] at g1
      exact a.ow j o b g1 g2
/-- a box is written -/
theorem At.updB (a : At K fa z F ρ H σ env st) {n : Nat} {vs : List V} {xs : List P} (hn : ρ[n]? = some ad) (hv : VRs K fa F H vs xs) (hst : n < st.length) :
    At K fa z F ρ (upd H ad (.lst vs)) σ env (st.set n (.lst xs)) ∧ SExt F H F (upd H ad (.lst vs)) := by
  have hm : ad ∈ ρ := List.mem_of_getElem? hn
  have h3 : ¬ F ad := a.wok.dis ad hm
  obtain ⟨ws, hl⟩ := (a.wok.box n ad _ hn (List.getElem?_eq_getElem hst)).isL
  refine ⟨⟨⟨a.ext.sub, a.ext.new, a.ext.pre, fun b q h hb ht => ?_, fun b h => a.ext.there b (nt_upd (o := .lst vs) (fun _ z => nomatch z) h)⟩, ⟨by rw [List.length_set]; exact a.wok.len, a.wok.nd, fun m b o q1 q2 => ?_, a.wok.dis, fun b f h => a.wok.has b f (nt_upd (o := .lst vs) (fun _ z => nomatch z) h), tabs_upd a.wok.tab hl⟩, ?_, a.ow⟩, ⟨fun _ h => h, keepF h3⟩⟩
  · have hne : b ≠ ad := fun e => by
      obtain ⟨l, p1, p2⟩ := a.ext.pre
      rw [p1] at hm
      rcases List.mem_append.mp hm with hm | hm
      · exact hb (e ▸ hm)
      · exact nt_abs (p2 ad hm) (e ▸ h) ht
    rw [upd_ne hne]
    exact a.ext.keep b q h hb ht
  · by_cases hnm : n = m
    · subst hnm
      rw [hn] at q1
      cases q1
      rw [List.getElem?_set, if_pos rfl, if_pos hst] at q2
      cases q2
      exact ⟨vs, upd_same, hv.mono2 (fun _ h => h) (keepF h3)⟩
    · rw [List.getElem?_set_ne hnm] at q2
      refine (a.wok.box m b o q1 q2).upd h3 (fun e => hnm ?_)
      subst e
      obtain ⟨l1, e1⟩ := List.getElem?_eq_some_iff.mp hn
      obtain ⟨l2, e2⟩ := List.getElem?_eq_some_iff.mp q1
      exact (List.getElem_inj (h₀ := l1) (h₁ := l2) a.wok.nd).mp (e1.trans e2.symm)
  · refine ⟨a.er.len, fun j d h => ?_, fun j o h => ?_, a.er.dist⟩
    · obtain ⟨v, g1, g2⟩ := a.er.val j d h
      refine ⟨v, g1, ?_⟩
      cases d with
      | p x => exact VR.mono2 (fun _ h => h) (keepF h3) g2
      | box n => exact g2
      | _ => exact g2.elim
    · obtain ⟨b, g1, g2, g3, g4⟩ := a.er.own j o h
      exact ⟨b, g1, g2.upd h3 (fun e => g4 (e ▸ hm)), g3, g4⟩
def stV : L2.St → List Nat → List V → L2.St
  | σ, i :: is, v :: vs => stV (σ.set i (some v)) is vs
  | σ, _, _ => σ
theorem par_ok : ∀ (is : List Nat) (os : List Bool) (ds : List D) (vs : List V) {F : Addr → Prop} {σ : L2.St} {env env' : Env}, At K fa z F ρ H σ env st → DRs K fa F ρ H H0 vs ds → Apart vs ds →
    (∀ ad, V.ref ad ∈ newsOf vs ds → ∀ (j : Nat) (o : SO), env[j]? = some (.own o) → σ[j]? ≠ some (some (.ref ad))) → (∀ ad, nt H0 ad = none → nt z.H ad = none) → parD env is os ds = some env' →
    vs.length = is.length ∧ ∃ F', At K fa z F' ρ H (stV σ is vs) env' st ∧ ∀ a, F a → F' a
  | [], [], [], vs, F, σ, env, env', a, r, ap, hn, hz, hp => by
    cases hp
    cases vs with
    | nil => exact ⟨rfl, F, a, fun _ h => h⟩
    | cons v vs => exact r.elim
  | [], os, d :: ds, vs, F, σ, env, env', a, r, ap, hn, hz, hp => by cases os <;> cases hp
  | [], o :: os, [], vs, F, σ, env, env', a, r, ap, hn, hz, hp => by cases hp
  | i :: is, [], ds, vs, F, σ, env, env', a, r, ap, hn, hz, hp => by cases ds <;> cases hp
  | i :: is, o :: os, [], vs, F, σ, env, env', a, r, ap, hn, hz, hp => by cases hp
  | i :: is, o :: os, d :: ds, [], F, σ, env, env', a, r, ap, hn, hz, hp => r.elim
  | i :: is, o :: os, d :: ds, v :: vs, F, σ, env, env', a, r, ap, hn, hz, hp => by
    have hp : (if o then match ownOf d with
        | some so => parD (DE.setO env i so) is os ds
        | none => none
      else match d.arg with
        | some d' => parD (setS env i d') is os ds
        | none => none) = some env' := hp
    have step : ∀ {F1 : Addr → Prop} {env1 : Env}, (∀ a, F a → F1 a) → At K fa z F1 ρ H (σ.set i (some v)) env1 st → DRs K fa F1 ρ H H0 vs ds → Apart vs ds → (∀ ad, V.ref ad ∈ newsOf vs ds → ∀ (j : Nat) (o : SO), env1[j]? = some (.own o) → (σ.set i (some v))[j]? ≠ some (some (.ref ad))) → parD env1 is os ds = some env' →
        (v :: vs).length = (i :: is).length ∧ ∃ F', At K fa z F' ρ H (stV σ (i :: is) (v :: vs)) env' st ∧ ∀ a, F a → F' a := fun s a1 r1 ap1 hn1 hp1 => by
      obtain ⟨e, F', a', s'⟩ := par_ok is os ds vs a1 r1 ap1 hn1 hz hp1
      exact ⟨by rw [List.length_cons, List.length_cons, e], F', a', fun b hb => s' b (s b hb)⟩
    have rest : ∀ d', (∀ o, d' ≠ Sl.own o) → (∀ ad, V.ref ad ∈ newsOf vs ds → V.ref ad ∈ newsOf (v :: vs) (d :: ds)) → ∀ ad, V.ref ad ∈ newsOf vs ds → ∀ (j : Nat) (o : SO), (env.set i d')[j]? = some (.own o) → (σ.set i (some v))[j]? ≠ some (some (.ref ad)) := fun d' hd hsub ad hm j o e q => by
      obtain ⟨hj, e⟩ := set_own hd e
      rw [List.getElem?_set_ne (fun z => hj z.symm)] at q
      exact hn ad (hsub ad hm) j o e q
    cases o with
    | true =>
      simp only [if_true] at hp
      cases d with
      | new xs =>
        have hp : parD (DE.setO env i (.lst xs)) is os ds = some env' := hp
        obtain ⟨ad, ws, rfl, h1, h2, h3, h4, h5⟩ := r.1
        refine step (fun _ h => h) (a.setO i (o := .lst xs) ⟨ws, h1, h2⟩ h3 h4 (fun j o' _ e => hn ad List.mem_cons_self j o' e) (hz ad h5)) r.2 ap.2 (fun b hb j o e q => ?_) hp
        by_cases hj : i = j
        · subst hj
          rw [List.getElem?_set, if_pos rfl] at q
          split at q
          · cases q
            exact ap.1 hb
          · cases q
        · unfold DE.setO at e
          rw [List.getElem?_set_ne hj] at e q
          exact hn b (List.mem_cons_of_mem _ hb) j o e q
      | _ => cases hp
    | false =>
      simp only [Bool.false_eq_true, if_false] at hp
      cases d with
      | new xs =>
        have hp : parD (setS env i (.p (.lst xs))) is os ds = some env' := hp
        obtain ⟨ad, ws, rfl, h1, h2, h3, h4, h5⟩ := r.1
        have a1 := a.fz (hn ad List.mem_cons_self) h4 (nt_lst h1) (hz ad h5)
        refine step (F1 := addF F ad) (fun _ h => .inl h) (a1.setV i (d := .p (.lst xs)) (VR.lst (.inr rfl) h1 (h2.sub fun _ h => .inl h))) (DRs.addF ap.1 r.2) ap.2 (rest _ (fun _ e => by cases e) fun b hb => List.mem_cons_of_mem _ hb) hp
      | p x => exact step (fun _ h => h) (a.setV i (d := .p x) r.1) r.2 ap (rest _ (fun _ e => by cases e) fun b hb => hb) hp
      | box n => exact step (fun _ h => h) (a.setV i (d := .box n) r.1) r.2 ap (rest _ (fun _ e => by cases e) fun b hb => hb) hp
      | bor o => cases hp
end
end DE
end

section
set_option Elab.async false
set_option linter.all false
set_option maxRecDepth 100000
set_option autoImplicit false
namespace DE
open PySem PySem.Spec L2
section
variable {X : Cx} {fa : Fa} {W : WX} {z : Ent} {c : Cf} {e : Expr} {pos : Pos} {ie : IE}
theorem s_asgG {s : Stmt} {te : TE} {g : TG} {t : Tg} (h : PS X s (tAsg te g)) (hte : ∀ σ H Q, tEv X.K fa W c ie σ H Q → te σ H Q) (hg : ∀ v σ H Q, gTv X.K fa t v σ H Q → g v σ H Q) : PS X s (tEx X.K fa W z (exec c (.asg t ie))) := ps_of h fun D σ H ⟨F, ρ, env, st, a, p⟩ => by
  have p : PostS X.K fa W z F H ((ev c ie env st).bind fun d st => match d.arg with
    | some d => match asgT t d env with
      | some env => .ok (.nx env) st
      | none => .bad
    | none => .bad) D := p
  refine hte _ _ _ (exS (f := ev c ie) a p fun x H1 F1 ρ1 d st1 e1 w1 r1 p1 => hg _ _ _ _ ?_)
  have key : ∀ (F2 : Addr → Prop) (d' : DE.D), At X.K fa z F2 ρ1 H1 σ env st1 → SExt F H F2 H1 → DV X.K fa F2 ρ1 H1 x d' → d.arg = some d' → gTv X.K fa t x σ H1 D.nx := fun F2 d' a2 s2 hv ha => by
    simp only [ha] at p1
    cases q : asgT t d' env with
    | none =>
      simp only [q] at p1
      exact p1.elim
    | some env' =>
      simp only [q] at p1
      exact ⟨F2, ρ1, env, d', env', hv, a2.er, q, fun σ' er' off => PostS.next ⟨a2.ext, a2.wok, er', fun j o b g1 g2 => by
        obtain ⟨g3, g4⟩ := asgT_own q j o g1
        rw [off.2 j g4] at g2
        exact a2.ow j o b g3 g2⟩ (PostS.rebase p1 s2)⟩
  have a1 := a.expr e1 w1
  have s1 := SExt.of a.wok.dis e1
  cases d with
  | p y => exact key F1 (.p y) a1 s1 r1 rfl
  | box n => exact key F1 (.box n) a1 s1 r1 rfl
  | bor o => exact p1.elim
  | new xs =>
    obtain ⟨ad, vs, rfl, h1, h2, h3, h4, h5⟩ := r1
    exact key (addF F1 ad) (.p (.lst xs)) (a1.fz (a.er.fresh h5) h4 (nt_lst h1) (a.ext.there ad h5)) (s1.trans ⟨fun _ h => .inl h, fun _ _ _ h _ => h⟩) (VR.lst (.inr rfl) h1 (h2.sub fun _ h => .inl h)) rfl
theorem gTv_name {t : Nat} : ∀ v σ H Q, gTv X.K fa (.one t) v σ H Q → gName t v σ H Q := fun v σ H Q ⟨F, ρ, env, d, env', hv, hr, ha, q⟩ => by
  cases d with
  | p x =>
    cases ha
    exact q _ (hr.set t hv) (Off.set t σ _)
  | box n =>
    cases ha
    exact q _ (hr.set t hv) (Off.set t σ _)
  | _ => cases ha
theorem s_asgO {s : Stmt} {te : TE} {i : Nat} (h : PS X s (tAsg te (gName i))) (hte : ∀ σ H Q, tEv X.K fa W c ie σ H Q → te σ H Q) : PS X s (tEx X.K fa W z (exec c (.asgO i ie))) := ps_of h fun D σ H ⟨F, ρ, env, st, a, p⟩ => by
  have p : PostS X.K fa W z F H ((ev c ie env st).bind fun d st => match ownOf d with
    | some o => .ok (.nx (setO env i o)) st
    | none => .bad) D := p
  refine hte _ _ _ (exS (f := ev c ie) a p fun x H1 F1 ρ1 d st1 e1 w1 r1 p1 => ?_)
  have a1 := a.expr e1 w1
  have s1 := SExt.of a.wok.dis e1
  cases d with
  | new xs =>
    obtain ⟨ad, vs, rfl, h1, h2, h3, h4, h5⟩ := r1
    exact PostS.next (a1.setO i (o := .lst xs) ⟨vs, h1, h2⟩ h3 h4 (fun j o' _ e => a.er.fresh h5 j o' e) (a.ext.there ad h5)) (PostS.rebase p1 s1)
  | _ => exact p1.elim
theorem s_parG {s : Stmt} {il : IL} {is : List Nat} {os : List Bool} {ts : TS} (h : PS X s ts) (hts : ∀ D σ H, tEvL X.K fa W c il σ H (fun vs H1 => vs.length = is.length ∧ D.nx (stV σ is vs) H1 ∧ ∀ p, H1 p = none → D.nx (stV σ is vs) (upd H1 p (.tup vs))) → ts D σ H) : PS X s (tEx X.K fa W z (exec c (.par is os il))) := ps_of h fun D σ H ⟨F, ρ, env, st, a, p⟩ => by
  have p : PostS X.K fa W z F H ((evL c il env st).bind fun ds st => match parD env is os ds with
    | some env => .ok (.nx env) st
    | none => .bad) D := p
  refine hts D σ H (exSL a p fun vs H1 F1 ρ1 ds st1 e1 w1 r1 ap1 p1 => ?_)
  have a1 := a.expr e1 w1
  have s1 := SExt.of a.wok.dis e1
  cases q : parD env is os ds with
  | none =>
    simp only [q] at p1
    exact p1.elim
  | some env' =>
    simp only [q] at p1
    obtain ⟨hl, F', a', s'⟩ := par_ok is os ds vs a1 r1 ap1 (fun ad hm j o g => by
      obtain ⟨b, e2, h2⟩ := news_fresh r1 _ hm
      cases e2
      exact a.er.fresh h2 j o g) (fun ad h => a.ext.there ad h) q
    have p2 := PostS.rebase p1 (s1.trans ⟨s', fun _ _ _ h _ => h⟩)
    refine ⟨hl, PostS.next a' p2, fun p hp => ?_⟩
    have e3 := ext_new (F := F') (ρ := ρ1) (o := .tup vs) hp
    exact PostS.next (a'.expr e3 (a'.wok.new hp)) (PostS.rebase p2 (SExt.of a'.wok.dis e3))
theorem len2 {α : Type} {vs : List α} (h : vs.length = 2) : ∃ a b, vs = [a, b] := by
  match vs, h with
  | [a, b], _ => exact ⟨a, b, rfl⟩
theorem len3 {α : Type} {vs : List α} (h : vs.length = 3) : ∃ a b c, vs = [a, b, c] := by
  match vs, h with
  | [a, b, c], _ => exact ⟨a, b, c, rfl⟩
theorem pa_imp {es : List Expr} {il : IL} {σ : L2.St} {H : Hp} {Q Q' : List V → Hp → Prop} (h : tEvL X.K fa W c il σ H Q) (i : ∀ v H', Q v H' → Q' v H') : tEvL X.K fa W c il σ H Q' := by
  obtain ⟨F, ρ, env, st, w, er, p⟩ := h
  exact ⟨F, ρ, env, st, w, er, p.imp i⟩
def gNames (is : List Nat) : TGs := fun vs σ H Q => vs.length = is.length ∧ Q (stV σ is vs) H
theorem pgs_of {ts : List Expr} {t t' : TGs} (h : PGs X ts t) (i : ∀ vs σ H Q, t' vs σ H Q → t vs σ H Q) : PGs X ts t' := ⟨fun pins s σ H vs us Q I r q => h.run pins s σ H vs us Q I r (i _ _ _ _ q)⟩
theorem gNames_cons {i : Nat} {is : List Nat} : ∀ vs σ H Q, gNames (i :: is) vs σ H Q → gCons (gName i) (gNames is) vs σ H Q := fun vs σ H Q ⟨h1, h2⟩ => by
  cases vs with
  | nil => cases h1
  | cons v vs => exact ⟨v, vs, rfl, by simpa using h1, h2⟩
theorem s_seti {x : Str} {i : Nat} {k : Expr} {ik : IE} {p1 p2 : Pos} (hN : X.N[i]? = some x) (hv : Vis X.env.scope x) (hd : (x == ("__debug__" : Str)) = false) (hcd : (x == ("__classdict__" : Str)) = false) (he : PE X e (tEv X.K fa W c ie)) (hk : PE X k (tEv X.K fa W c ik))
    (ha : ∀ v, assign (.Subscript (.Name x p1) k p2) X.env v = (do
      let ov ← holding [v] (eval (.Name x p1) X.env)
      let iv ← holding [v, ov] (eval k X.env)
      standAt p2
      holding [v, ov, iv] (setItem ov iv v)
      release [v, ov, iv] [])) : PS X (.Assign [.Subscript (.Name x p1) k p2] e pos) (tEx X.K fa W z (exec c (.seti (.v i) ik ie))) := by
  refine ps_of (ps_asg he (pg_sub (pe_var hN hv hd hcd) hk set_list ha) (show swapsWith e (some (.Subscript (.Name x p1) k p2)) pos.line X.env = pure false from sw_sub) rfl rfl) fun D σ H ⟨F, ρ, env, st, a, p⟩ => ?_
  cases hi : env[i]? with
  | none =>
    simp only [exec, hi] at p
    exact p.elim
  | some sl =>
    cases sl with
    | un =>
      simp only [exec, hi] at p
      exact p.elim
    | own so =>
      simp only [exec, hi] at p
      obtain ⟨ad, h1, h2, h3, h4⟩ := a.er.own i so hi
      refine exS (f := ev c ie) a p fun v H1 F1 ρ1 d st1 e1 w1 r1 p1 => ⟨.ref ad, h1, ?_⟩
      have a1 := a.expr e1 w1
      refine exS (f := ev c ik) a1 (PostS.rebase p1 (SExt.of a.wok.dis e1)) fun u H2 F2 ρ2 dk st2 e2 w2 r2 p2 => ?_
      have a2 := a1.expr e2 w2
      cases q1 : dk.rd st2 with
      | none =>
        simp only [q1] at p2
        exact p2.elim
      | some pk =>
        cases q2 : d.keep with
        | none =>
          simp only [q1, q2] at p2
          exact p2.elim
        | some py =>
          simp only [q1, q2] at p2
          obtain ⟨F3, e3, w3, v3, s3, n3⟩ := DR.keep w2 (e1.trans e2) (r1.mono w1.dis e2) q2
          have a3 : At X.K fa z F3 ρ2 H2 σ env st2 := ⟨a.ext.trans e3, w3, ⟨a2.er.len, fun j dd g => let ⟨vv, g1, g2⟩ := a2.er.val j dd g; ⟨vv, g1, g2.sub s3⟩, fun j oo g => by
            obtain ⟨b, g1, g2, g3, g4⟩ := a2.er.own j oo g
            refine ⟨b, g1, g2.sub s3, fun hb => ?_, g4⟩
            rcases n3 b hb with hb | ⟨hb, _⟩
            · exact g3 hb
            · exact a.er.fresh hb j oo g g1, a2.er.dist⟩, a2.ow⟩
          have s3' : SExt F1 H1 F3 H2 := (SExt.of a1.wok.dis e2).trans ⟨s3, fun _ _ _ h _ => h⟩
          cases so with
          | dic kvs => cases pk <;> exact p2.elim
          | lst xs =>
            cases pk with
            | int kk =>
              cases (r2.rd w2 q1).int
              have p2 : PostS X.K fa W z F1 H1 (match (match ixN xs.length kk with
                | some j => some (SO.lst (xs.set j py))
                | none => none) with
                | some so => .ok (.nx (setO env i so)) st2
                | none => .bad) D := p2
              cases q3 : ixN xs.length kk with
              | none =>
                rw [q3] at p2
                exact p2.elim
              | some j =>
                rw [q3] at p2
                simp only at p2
                obtain ⟨b, g1, ⟨ws, g2, g3⟩, _, _⟩ := a3.er.own i _ hi
                rw [h1] at g1
                cases g1
                obtain ⟨a4, s4⟩ := a3.updO hi h1 (g3.setv v3 j)
                exact ⟨ad, ws, kk, j, rfl, rfl, g2, by rw [g3.length]; exact q3, PostS.next a4 (PostS.rebase p2 (s3'.trans s4))⟩
            | _ => exact p2.elim
    | val dv =>
      cases dv with
      | box n =>
        simp only [exec, hi] at p
        obtain ⟨vv, h1, ad, rfl, h2⟩ := a.er.val i _ hi
        refine exS (f := ev c ie) a p fun v H1 F1 ρ1 d st1 e1 w1 r1 p1 => ⟨.ref ad, h1, ?_⟩
        have a1 := a.expr e1 w1
        refine exS (f := ev c ik) a1 (PostS.rebase p1 (SExt.of a.wok.dis e1)) fun u H2 F2 ρ2 dk st2 e2 w2 r2 p2 => ?_
        have a2 := a1.expr e2 w2
        cases q1 : dk.rd st2 with
        | none =>
          simp only [q1] at p2
          exact p2.elim
        | some pk =>
          cases q2 : d.keep with
          | none =>
            simp only [q1, q2] at p2
            exact p2.elim
          | some py =>
            cases q0 : st2[n]? with
            | none =>
              simp only [q1, q2, q0] at p2
              exact p2.elim
            | some so =>
              simp only [q1, q2, q0] at p2
              obtain ⟨F3, e3, w3, v3, s3, n3⟩ := DR.keep w2 (e1.trans e2) (r1.mono w1.dis e2) q2
              have a3 : At X.K fa z F3 ρ2 H2 σ env st2 := ⟨a.ext.trans e3, w3, ⟨a2.er.len, fun j dd g => let ⟨vv, g1, g2⟩ := a2.er.val j dd g; ⟨vv, g1, g2.sub s3⟩, fun j oo g => by
                obtain ⟨b, g1, g2, g3, g4⟩ := a2.er.own j oo g
                refine ⟨b, g1, g2.sub s3, fun hb => ?_, g4⟩
                rcases n3 b hb with hb | ⟨hb, _⟩
                · exact g3 hb
                · exact a.er.fresh hb j oo g g1, a2.er.dist⟩, a2.ow⟩
              have s3' : SExt F1 H1 F3 H2 := (SExt.of a1.wok.dis e2).trans ⟨s3, fun _ _ _ h _ => h⟩
              cases so with
              | dic kvs => cases pk <;> exact p2.elim
              | lst xs =>
                cases pk with
                | int kk =>
                  cases (r2.rd w2 q1).int
                  have p2 : PostS X.K fa W z F1 H1 (match (match ixN xs.length kk with
                    | some j => some (SO.lst (xs.set j py))
                    | none => none) with
                    | some so => .ok (.nx env) (st2.set n so)
                    | none => .bad) D := p2
                  cases q3 : ixN xs.length kk with
                  | none =>
                    rw [q3] at p2
                    exact p2.elim
                  | some j =>
                    rw [q3] at p2
                    simp only at p2
                    have hn := (e1.trans e2).at h2
                    obtain ⟨ws, g2, g3⟩ := a3.wok.box n ad _ hn q0
                    obtain ⟨a4, s4⟩ := a3.updB hn (g3.setv v3 j) (List.getElem?_eq_some_iff.mp q0).1
                    exact ⟨ad, ws, kk, j, rfl, rfl, g2, by rw [g3.length]; exact q3, PostS.next a4 (PostS.rebase p2 (s3'.trans s4))⟩
                | _ => exact p2.elim
      | _ =>
        simp only [exec, hi] at p
        exact p.elim
end
end DE
end

section
set_option Elab.async false
set_option linter.all false
set_option maxRecDepth 100000
set_option autoImplicit false
namespace DE
open PySem PySem.Spec L2
section
variable {X : Cx} {fa : Fa} {W : WX} {z : Ent} {c : Cf} {e : Expr} {pos : Pos} {ie : IE}
theorem few1 {X : Cx} {cp : Pos} {e : Expr} (h : starEach [e] X.env = (false, eval e X.env) :: starEach [] X.env) : ((backTo cp (starEach (e :: []) X.env)).all (fun x => !x.1) && (backToKw cp (keywordEach [] X.env)).all (fun x => x.1.isSome)
      && decide ((e :: ([] : List Expr)).length + ([] : List Keyword).length + (if ([] : List Keyword).isEmpty then 0 else 1) < 30)) = true := by
  rw [h] <;> rfl
theorem s_app {x name : Str} {i : Nat} {p ap cp : Pos} (hn : name = Str.ofString "append") (hl : (ap.endLine == cp.line) = true) (hN : X.N[i]? = some x) (hv : Vis X.env.scope x) (hd : (x == ("__debug__" : Str)) = false) (hcd : (x == ("__classdict__" : Str)) = false) (he : PE X e (tEv X.K fa W c ie))
    (hst : starEach [e] X.env = (false, eval e X.env) :: starEach [] X.env) : PS X (.Expr (.Call (.Attribute (.Name x p) name ap) [e] [] cp) pos) (tEx X.K fa W z (exec c (.app i ie))) := by
  subst hn
  refine ps_of (ps_expr (pe_bm PySem.F.plainAttrs_list PySem.F.slot_list_append PySem.F.type_list_append mt_append (pe_var hN hv hd hcd) (pa_cons he pa_nil hst) (base_of rfl) (few1 hst) hl hst rfl) rfl) fun D σ H ⟨F, ρ, env, st, a, p⟩ => ?_
  cases hi : env[i]? with
  | none =>
    simp only [exec, hi] at p
    exact p.elim
  | some sl =>
    cases sl with
    | un =>
      simp only [exec, hi] at p
      exact p.elim
    | val d =>
      simp only [exec, hi] at p
      exact p.elim
    | own so =>
      simp only [exec, hi] at p
      obtain ⟨ad, h1, h2, h3, h4⟩ := a.er.own i so hi
      obtain ⟨ws, hw⟩ := h2.isL
      refine ⟨.ref ad, h1, .inl ⟨rfl, ws, SqL.of hw⟩, exS (f := ev c ie) a p fun v H1 F1 ρ1 d st1 e1 w1 r1 p1 => ?_⟩
      have a1 := a.expr e1 w1
      cases q2 : d.keep with
      | none =>
        simp only [q2] at p1
        exact p1.elim
      | some py =>
        simp only [q2] at p1
        obtain ⟨F3, e3, w3, v3, s3, n3⟩ := DR.keep w1 e1 r1 q2
        have a3 : At X.K fa z F3 ρ1 H1 σ env st1 := ⟨a.ext.trans e3, w3, ⟨a1.er.len, fun j dd g => let ⟨vv, g1, g2⟩ := a1.er.val j dd g; ⟨vv, g1, g2.sub s3⟩, fun j oo g => by
          obtain ⟨b, g1, g2, g3, g4⟩ := a1.er.own j oo g
          refine ⟨b, g1, g2.sub s3, fun hb => ?_, g4⟩
          rcases n3 b hb with hb | ⟨hb, _⟩
          · exact g3 hb
          · exact a.er.fresh hb j oo g g1, a1.er.dist⟩, a1.ow⟩
        have s3' : SExt F H F3 H1 := (SExt.of a.wok.dis e1).trans ⟨s3, fun _ _ _ h _ => h⟩
        cases so with
        | dic kvs => exact p1.elim
        | lst xs =>
          have p1 : PostS X.K fa W z F H (match (if decide (xs.length < sizeLine) then some (SO.lst (xs ++ [py])) else none) with
            | some so => .ok (.nx (setO env i so)) st1
            | none => .bad) D := p1
          cases q3 : decide (xs.length < sizeLine) with
          | false =>
            rw [q3] at p1
            exact p1.elim
          | true =>
            rw [q3] at p1
            simp only [if_true] at p1
            obtain ⟨b, g1, ⟨us, g2, g3⟩, _, _⟩ := a3.er.own i _ hi
            rw [h1] at g1
            cases g1
            obtain ⟨a4, s4⟩ := a3.updO hi h1 (g3.append (.cons v3 .nil))
            exact ⟨ad, us, v, rfl, rfl, g2, by rw [g3.length]; exact of_decide_eq_true q3, PostS.next a4 (PostS.rebase p1 (s3'.trans s4))⟩
theorem s_ext {x name : Str} {i : Nat} {p ap cp : Pos} (hn : name = Str.ofString "extend") (hl : (ap.endLine == cp.line) = true) (hN : X.N[i]? = some x) (hv : Vis X.env.scope x) (hd : (x == ("__debug__" : Str)) = false) (hcd : (x == ("__classdict__" : Str)) = false) (he : PE X e (tEv X.K fa W c ie))
    (hst : starEach [e] X.env = (false, eval e X.env) :: starEach [] X.env) : PS X (.Expr (.Call (.Attribute (.Name x p) name ap) [e] [] cp) pos) (tEx X.K fa W z (exec c (.ext i ie))) := by
  subst hn
  refine ps_of (ps_expr (pe_bm PySem.F.plainAttrs_list PySem.F.slot_list_extend PySem.F.type_list_extend mt_extend (pe_var hN hv hd hcd) (pa_cons he pa_nil hst) (base_of rfl) (few1 hst) hl hst rfl) rfl) fun D σ H ⟨F, ρ, env, st, a, p⟩ => ?_
  cases hi : env[i]? with
  | none =>
    simp only [exec, hi] at p
    exact p.elim
  | some sl =>
    cases sl with
    | un =>
      simp only [exec, hi] at p
      exact p.elim
    | val d =>
      simp only [exec, hi] at p
      exact p.elim
    | own so =>
      simp only [exec, hi] at p
      obtain ⟨ad, h1, h2, h3, h4⟩ := a.er.own i so hi
      obtain ⟨ws, hw⟩ := h2.isL
      refine ⟨.ref ad, h1, .inl ⟨rfl, ws, SqL.of hw⟩, exS (f := ev c ie) a p fun v H1 F1 ρ1 d st1 e1 w1 r1 p1 => ?_⟩
      have a1 := a.expr e1 w1
      cases d with
      | new ys =>
        obtain ⟨bd, vs, rfl, k1, k2, k3, k4, k5⟩ := r1
        cases so with
        | dic kvs => exact p1.elim
        | lst xs =>
          have p1 : PostS X.K fa W z F H (match (if small (xs.length + ys.length) then some (SO.lst (xs ++ ys)) else none) with
            | some so => .ok (.nx (setO env i so)) st1
            | none => .bad) D := p1
          cases q3 : small (xs.length + ys.length) with
          | false =>
            rw [q3] at p1
            exact p1.elim
          | true =>
            rw [q3] at p1
            simp only [if_true] at p1
            obtain ⟨b, g1, ⟨us, g2, g3⟩, _, _⟩ := a1.er.own i _ hi
            rw [h1] at g1
            cases g1
            obtain ⟨a4, s4⟩ := a1.updO hi h1 (g3.append k2)
            exact ⟨ad, bd, us, vs, rfl, rfl, g2, k1, by rw [g3.length, k2.length]; exact of_decide_eq_true q3, PostS.next a4 (PostS.rebase p1 ((SExt.of a.wok.dis e1).trans s4))⟩
      | _ => exact p1.elim
theorem s_raise {nm : Nm} {gc : Nat → Option DE.P} {T : Nat → Option Df} {kk k : Nat} {x m : Str} {j : Nat} {p p2 p3 : Pos} (o : Cok nm fa gc T kk X) (tk : L2N.Takes X W) (hx : nm.e k = some x) (hg : Gl X x) (hdb : (x == ("__debug__" : Str)) = false) :
    PS X (.Raise (some (.Call (.Name x p) [.Constant (.str m) j p2] [] p3)) none pos) (tEx X.K fa W z (exec c (.raise k m))) := by
  obtain ⟨h1, h2, ⟨B, n1, n2, bm, h3, h4⟩, h5⟩ := o.fx.exc k x hx
  exact ps_of (L2N.ps_raise o.calm tk (L2N.pmk_own h3 h4 h1 h2 (h5 X rfl) hg hdb)) fun D σ H ⟨F, ρ, env, st, a, p⟩ => p σ F ρ H a.ext a.wok rfl
end
def swA (sc : Scope) (tg v : Expr) : Bool := match isComp v with
  | none => match tg, v with
    | .Tuple ts _ _, .Tuple vs _ _ => decide (swP ts vs (isFn sc) sc = some none)
    | _, _ => true
  | some _ => match tg with
    | .Name x _ => decide (sc.names.lookup x = some .cell)
    | .Tuple .. => true
    | _ => false
def swC (sc : Scope) (y : Str) (py : Pos) (scope : Scope) (pos : Pos) : Bool := decide (sc.kind = .function) && decide (sc.names.lookup y = some .local) && (py.line == pos.line) && !(scope.names.any fun (n, k) => n == y && (k == .local || k == .cell))
def namesB (N : List Str) (sc : Scope) : List Nat → List Expr → Bool
  | [], [] => true
  | i :: is, .Name x _ :: es => decide (N[i]? = some x) && locB sc (fun _ => true) x && namesB N sc is es
  | _, _ => false
def parB (N : List Str) (sc : Scope) (is : List Nat) (ts vs : List Expr) : Bool := match swP ts vs (isFn sc) sc with
  | some none => decide (is.length ≤ 100)
  | some (some ns) => match is, ts, vs with
    | [i, j], [.Name x _, .Name y _], [_, _] => decide (ns = [x, y]) && decide (i ≠ j) && decide (sc.names.lookup x = some .local) && decide (sc.names.lookup y = some .local)
    | [i, j, l], [.Name x _, .Name y _, .Name z _], [_, _, _] => decide (ns = [x, y, z]) && decide (i ≠ j) && decide (i ≠ l) && decide (j ≠ l) && decide (sc.names.lookup x = some .local) && decide (sc.names.lookup y = some .local) && decide (sc.names.lookup z = some .local)
    | _, _, _ => false
  | none => false
mutual
def chS (nm : Nm) (N : List Str) (sc : Scope) : IS → Stmt → Bool
  | .asg t e, s => match s with
    | .Assign [tg] v pos => chT N sc (fun _ => true) t tg && chE nm N e sc v && (swA sc tg v || match t, tg, v with
      | .one _, .Name y py, .ListComp _ _ scope p => swC sc y py scope p
      | _, _, _ => false)
    | _ => false
  | .asgO i e, s => match s with
    | .Assign [tg] v pos => chT N sc (fun _ => true) (.one i) tg && chE nm N e sc v && (swA sc tg v || match tg, v with
      | .Name y py, .ListComp _ _ scope p => swC sc y py scope p
      | _, _ => false)
    | _ => false
  | .par is os es, s => match s with
    | .Assign [.Tuple ts tk tp] (.Tuple vs vk vp) pos => namesB N sc is ts && chL nm N es sc vs && parB N sc is ts vs
    | _ => false
  | .seti o k e, s => match o, s with
    | .v i, .Assign [.Subscript (.Name x p1) kx p2] v pos => decide (N[i]? = some x) && visB sc x && okN x && notSl kx && chE nm N k sc kx && chE nm N e sc v
    | _, _ => false
  | .exp e, s => match s with
    | .Expr v pos => chE nm N e sc v && (isComp v).isNone
    | _ => false
  | .app i e, s => match s with
    | .Expr (.Call (.Attribute (.Name x p) name ap) [y] [] cp) pos => decide (name = Str.ofString "append") && (ap.endLine == cp.line) && decide (N[i]? = some x) && visB sc x && okN x && chE nm N e sc y
    | _ => false
  | .ext i e, s => match s with
    | .Expr (.Call (.Attribute (.Name x p) name ap) [y] [] cp) pos => decide (name = Str.ofString "extend") && (ap.endLine == cp.line) && decide (N[i]? = some x) && visB sc x && okN x && chE nm N e sc y
    | _ => false
  | .ret e, s => match s with
    | .Return (some v) pos => chE nm N e sc v
    | _ => false
  | .retN, s => match s with
    | .Return none pos => true
    | _ => false
  | .retB e, s => match s with
    | .Return (some v) pos => chE nm N e sc v
    | _ => false
  | .ife t a b, s => match s with
    | .If u x y _ => chE nm N t sc u && chB nm N sc a x && chB nm N sc b y
    | _ => false
  | .whl t b, s => match s with
    | .While u x [] _ => chE nm N t sc u && chB nm N sc b x
    | _ => false
  | .for_ tg it b, s => match s with
    | .For t i x [] _ => chT N sc (fun _ => true) tg t && chI nm N it sc t i && notSet i && chB nm N sc b x
    | _ => false
  | .pass, s => match s with
    | .Pass _ => true
    | _ => false
  | .brk, s => match s with
    | .Break _ => true
    | _ => false
  | .cont, s => match s with
    | .Continue _ => true
    | _ => false
  | .raise k m, s => match s with
    | .Raise (some (.Call (.Name x p) [.Constant (.str m2) j p2] [] p3)) none pos => decide (nm.e k = some x) && decide (m2 = m) && glB sc x && okN x
    | _ => false
  | .frz _, s => false
  | .tryN f e, s => match s with
    | .Try [.Return (some v) _] [.ExceptHandler (some (.Name cx _)) (some ev) [.Return (some (.Call (.Name xn _) [.Name ev2 _] [] _)) _] _] [] [] _ => decide (cx = "StripError") && decide (ev = "_law_error") && decide (ev2 = "_law_error") && decide (xn = "_law_names") && (nm.w f).isSome && N.contains ("_law_error" : Str) && decide (sc.names.lookup ("_law_error" : Str) = some .local) && glB sc "_law_names" && glB sc "StripError" && chE nm N e sc v
    | _ => false
  | .any, s => true
def chB (nm : Nm) (N : List Str) (sc : Scope) : IB → List Stmt → Bool
  | .nil, ss => ss.isEmpty
  | .cons s b, ss => match s with
    | .frz _ => chB nm N sc b ss
    | s => match ss with
      | x :: xs => chS nm N sc s x && chB nm N sc b xs
      | [] => false
end
end DE
end

section
set_option Elab.async false
set_option linter.all false
set_option maxRecDepth 100000
set_option autoImplicit false
namespace DE
open PySem PySem.Spec L2
theorem swA_of {N : List Str} {sc : Scope} {fn : Str → Bool} {t : Tg} {tg v : Expr} {l : Nat} {env : PySem.Env} (he : env.scope = sc) (ht : chT N sc fn t tg = true) (h : swA sc tg v = true) :
    swapsWithSole [tg] v l env = pure false ∧ swappedStores [tg] v env = pure none ∧ (assignEach [tg] env).map (·.2) = [assign tg env] := by
  have key : swapsWith v (some tg) l env = pure false ∧ swappedStores [tg] v env = pure none := by
    unfold swA at h
    cases tg with
    | Name x p =>
      refine ⟨?_, rfl⟩
      cases q : isComp v with
      | none => exact sw_no q
      | some s =>
        rw [q] at h
        exact sw_cell (by rw [he]; exact of_decide_eq_true h)
    | Tuple ts k p =>
      refine ⟨sw_tup, ?_⟩
      cases q : isComp v with
      | none =>
        rw [q] at h
        cases v with
        | Tuple vs k2 p2 => exact swP_ok (by rw [he]; exact of_decide_eq_true h)
        | _ => rfl
      | some s => cases v <;> first | rfl | cases q
    | _ => cases t <;> cases ht
  refine ⟨key.1, key.2, ?_⟩
  cases tg <;> first | rfl | (cases t <;> cases ht)
theorem names_len {N : List Str} {sc : Scope} : ∀ {is : List Nat} {es : List Expr}, namesB N sc is es = true → is.length = es.length
  | [], [], _ => rfl
  | [], _ :: _, h => by cases h
  | i :: is, [], h => by cases h
  | i :: is, e :: es, h => by
    cases e with
    | Name x p =>
      have h : (decide (N[i]? = some x) && locB sc (fun _ => true) x && namesB N sc is es) = true := h
      rw [List.length_cons, List.length_cons, names_len (b3 h).2]
    | _ => cases h
section
variable {X : Cx} {fa : Fa}
theorem names_star {N : List Str} {sc : Scope} : ∀ {is : List Nat} {es : List Expr} (env : PySem.Env), namesB N sc is es = true → (assignEach es env).length = es.length ∧ (assignEach es env).findIdx? (·.1) = none
  | [], [], env, _ => ⟨rfl, rfl⟩
  | [], _ :: _, env, h => by cases h
  | i :: is, [], env, h => by cases h
  | i :: is, e :: es, env, h => by
    cases e with
    | Name x p =>
      have h : (decide (N[i]? = some x) && locB sc (fun _ => true) x && namesB N sc is es) = true := h
      obtain ⟨h1, h2⟩ := names_star env (b3 h).2
      have e0 : assignEach (.Name x p :: es) env = (false, assign (.Name x p) env) :: assignEach es env := rfl
      rw [e0]
      refine ⟨by rw [List.length_cons, List.length_cons, h1], ?_⟩
      rw [List.findIdx?_cons]
      simp [h2]
    | _ => cases h
theorem names_pgs (hN : X.N.Nodup) (hfn : ∀ x, X.fn x = true) : ∀ {is : List Nat} {es : List Expr}, namesB X.N X.env.scope is es = true → PGs X es (gNames is)
  | [], [], _ => pgs_of pgs_nil fun vs σ H Q ⟨h1, h2⟩ => by
    cases vs with
    | nil => exact ⟨rfl, h2⟩
    | cons v vs => cases h1
  | [], _ :: _, h => by cases h
  | i :: is, [], h => by cases h
  | i :: is, e :: es, h => by
    cases e with
    | Name x p =>
      have h : (decide (X.N[i]? = some x) && locB X.env.scope (fun _ => true) x && namesB X.N X.env.scope is es) = true := h
      obtain ⟨h1, h2⟩ := b3 h
      obtain ⟨h3, h4⟩ := b3 h1
      obtain ⟨h5, h6⟩ := loc_of h4
      exact pgs_of (pgs_cons (pg_name hN (of_decide_eq_true h3) h5 (.inl (hfn x))) (names_pgs hN hfn h2) rfl) gNames_cons
    | _ => cases h
theorem chT_fn {N : List Str} {sc : Scope} {fn : Str → Bool} (hfn : ∀ x, fn x = true) {t : Tg} {e : Expr} (h : chT N sc (fun _ => true) t e = true) : chT N sc fn t e = true := by
  have : fn = fun _ => true := funext hfn
  rw [this]
  exact h
theorem name_of {N : List Str} {sc : Scope} {fn : Str → Bool} {i : Nat} {e : Expr} (h : chT N sc fn (.one i) e = true) : ∃ x p, e = .Name x p ∧ N[i]? = some x ∧ locB sc fn x = true := by
  cases e with
  | Name x p => exact ⟨x, p, rfl, of_decide_eq_true (b3 h).1, (b3 h).2⟩
  | _ => cases h
end
section
variable {fa : Fa} {gc : Nat → Option DE.P} {T : Nat → Option Df} {k : Nat} {nm : Nm}
/-- name = [..] on one line -/
theorem c_setLc {X : Cx} {W : WX} {i : Nat} {y : Str} {py p spos : Pos} {ie : IE} {elt : Expr} {gs : List Comprehension} {scope : Scope} (o : Cok nm fa gc T k X) (tk : L2N.Takes X W) (hy : X.N[i]? = some y) (hc : swC X.env.scope y py scope p = true) (he : chE nm X.N ie X.env.scope (.ListComp elt gs scope p) = true) :
    ∃ te : TE, PS X (.Assign [.Name y py] (.ListComp elt gs scope p) spos) (tAsg te (gName i)) ∧ ∀ σ H Q, tEv X.K fa W (Cf.mk (callK T gc k) gc (wdT T)) ie σ H Q → te σ H Q := by
  obtain ⟨s1, s2⟩ := b3 hc
  obtain ⟨s3, s4⟩ := b3 s1
  obtain ⟨s5, s6⟩ := b3 s3
  have hsw : swapsWith (.ListComp elt gs scope p) (some (.Name y py)) spos.line X.env = pure true := sw_true (of_decide_eq_true s5) (of_decide_eq_true s6) s4 (by simpa using s2)
  cases ie with
  | comp elt' tg it cond =>
    unfold chE at he
    split at he
    · rename_i el t i' ifs scope' pos' heq
      cases heq
      obtain ⟨h1, h2⟩ := b3 he
      obtain ⟨h3, h4⟩ := b3 h1
      obtain ⟨h5, h6⟩ := b3 h3
      obtain ⟨h7, h8⟩ := b3 h5
      obtain ⟨h9, h10⟩ := b3 h7
      have hs : ∀ x, foldedSetIterable i' X.env x = pure x := fun x => by
        cases i' <;> first | rfl | cases h6
      have hown : (ownOfT X.N tg).map (·.2) = tg.slots := by
        unfold ownOfT
        rw [List.map_map]
        exact List.map_id _
      refine ⟨_, ps_setLc (own := ownOfT X.N tg) (g := gTv X.K fa tg) (tt := tEvT X.K fa W0 (Cf.mk (callK T gc k) gc (wdT T)) fun env st => evC (Cf.mk (callK T gc k) gc (wdT T)) cond env st) (te := tEv X.K fa W0 (Cf.mk (callK T gc k) gc (wdT T)) elt') o.calm o.nd hy (of_decide_eq_true s6) hsw (sI it o tk false t i' h8) (blkOk_by h9)
        (fun s H C cl fp => sG (fa := fa) (o.blk s H scope cl C fp).calm o.nd tg t h10)
        (fun s H C cl fp => sC cond (o.blk s H scope cl C fp) DL.takes0 ifs h4)
        (fun s H C cl fp => (sE elt' (o.blk s H scope cl C fp) DL.takes0 elt h2).1) hs, fun σ H Q hh => ?_⟩
      rw [hown]
      exact c_compR (fun _ _ _ h => h) (fun _ _ _ h => h) (fun _ _ _ h => h) hh
    · cases he
  | _ => simp [chE] at he
/-- the context of a def's own statements -/
structure DefX (X : Cx) : Prop where
  fn : ∀ x, X.fn x = true
  stk : X.stack = X.env :: X.outer
  frm : X.env.frame = some X.env.locals
  rm : Room 1 X.A
theorem tEv_mono {K : PySem.W.Frag} {W W' : WX} {c : Cf} {ie : IE} {σ : L2.St} {H : Hp} {Q : VK} (m : ∀ c d σ H, W c d σ H → W' c d σ H) (t : tEv K fa W c ie σ H Q) : tEv K fa W' c ie σ H Q := by
  obtain ⟨F, ρ, env, st, w, er, p⟩ := t
  refine ⟨F, ρ, env, st, w, er, ?_⟩
  revert p
  cases ev c ie env st with
  | bad => exact id
  | ok d s => exact id
  | exc k x s => exact fun p F' ρ' H' e w' ex => m _ _ _ _ (p F' ρ' H' e w' ex)
/-- try: return e / except StripError as _law_error: return _law_names(_law_error) -/
theorem s_try {X : Cx} {W : WX} {z : Ent} {f : Nat} {ie : IE} {e : Expr} {i : Nat} {q : Nat → Pos} {x : Str} {get : Bool} (o : Cok nm fa gc T k X) (tk : L2N.Takes X W) (dx : DefX X) (hw : nm.w f = some (x, get)) (hN : X.N[i]? = some ("_law_error" : Str)) (hv : X.env.scope.names.lookup ("_law_error" : Str) = some .local) (hg : Gl X "_law_names") (hs : Gl X "StripError")
    (he : ∀ {X' : Cx} {W : WX}, Cok nm fa gc T k X' → L2N.Takes X' W → X'.N = X.N → X'.env = X.env → X'.K = X.K → PE X' e (tEv X'.K fa W (Cf.mk (callK T gc k) gc (wdT T)) ie)) :
    PS X (trySt "_law_names" q e) (tEx X.K fa W z (exec (Cf.mk (callK T gc k) gc (wdT T)) (.tryN f ie))) := by
  have h := o.fx.tok f x get hw X i q e (fun W => tEv X.K fa W (Cf.mk (callK T gc k) gc (wdT T)) ie) W rfl rfl rfl rfl rfl dx.stk dx.frm o.nd hN hv hg hs dx.rm tk (fun W W' m σ H Q => tEv_mono m)
    (fun W pn xe tk' po => he (X' := X.tr pn xe) ⟨o.calm, o.nd, o.room, o.fx, fun hl => ⟨(o.lam hl).room, (o.lam hl).tb⟩⟩ tk' rfl rfl rfl)
  refine ps_of h fun D σ H ⟨F, ρ, env, st, a, p⟩ => ⟨F, ρ, env, st, a.wok, a.er, ?_⟩
  have p : PostS X.K fa W z F H (match ev (Cf.mk (callK T gc k) gc (wdT T)) ie env st with
    | .ok d st => match d.arg with
      | some d => .ok (.rt d) st
      | none => .bad
    | .exc k none st => match wdT T f k with
      | some z => .ok (.rt (.p (.str z))) st
      | none => .bad
    | .exc _ (some _) _ => .bad
    | .bad => .bad) D := p
  cases hev : ev (Cf.mk (callK T gc k) gc (wdT T)) ie env st with
  | bad =>
    rw [hev] at p
    exact p.elim
  | ok d s =>
    simp only [hev] at p
    intro x F1 ρ1 H1 e1 w1 r1
    cases d with
    | p y => exact p x F1 ρ1 H1 (a.ext.trans e1) w1 r1
    | new xs =>
      obtain ⟨ad, vs, rfl, h1, h2, h3, h4, h5⟩ := r1
      have hh := nt_lst h1
      exact p _ (addF F1 ad) ρ1 H1 ((a.ext.trans e1).fz (a.ext.there ad h5)) (w1.fz h4 hh) (VR.lst (.inr rfl) h1 (h2.sub fun _ h => .inl h))
    | box n => exact p x F1 ρ1 H1 (a.ext.trans e1) w1 r1
    | bor o => exact p.elim
  | exc kk xx s =>
    cases xx with
    | some xx =>
      simp only [hev] at p
      exact p.elim
    | none =>
      simp only [hev] at p
      cases hz : wdT T f kk with
      | none =>
        simp only [hz] at p
        exact p.elim
      | some z =>
        simp only [hz] at p
        exact fun F' ρ' H' e' w' _ => ⟨kk, z, rfl, rfl, hz, fun H'' hk => p (.str z) F' ρ' H'' ((a.ext.trans e').trans (extN_ext fun a o h _ => hk a o h)) (w'.extN (fun a o h _ => hk a o h) (LamX.Tabs.ext w'.tab hk)) (VR.str _)⟩
mutual
theorem sS : (is : IS) → ∀ {X : Cx} {W : WX} {z : Ent}, Cok nm fa gc T k X → L2N.Takes X W → PassesOwn (model X.prog X.w) X.A X.env X.xe → DefX X → ∀ s : Stmt, chS nm X.N X.env.scope is s = true → PS X s (tEx X.K fa W z (exec (Cf.mk (callK T gc k) gc (wdT T)) is))
  | .asg t e, X, W, z, o, tk, hp, hfn, s, h => by
    unfold chS at h
    split at h
    · rename_i tg v pos
      obtain ⟨h1, h2⟩ := b3 h
      obtain ⟨h3, h4⟩ := b3 h1
      rcases Bool.or_eq_true_iff.mp h2 with h2 | h2
      · obtain ⟨w1, w2, w3⟩ := swA_of (l := pos.line) (env := X.env) rfl h3 h2
        exact s_asgG (ps_asg (sE e o tk v h4).1 (sG (fa := fa) o.calm o.nd t tg (chT_fn hfn.fn h3)) w1 w2 w3) (fun _ _ _ h => h) (fun _ _ _ _ h => h)
      · split at h2
        · rename_i i y py el gs scope p
          obtain ⟨x, p', e1, e2, e3⟩ := name_of h3
          cases e1
          obtain ⟨te, q1, q2⟩ := c_setLc (fa := fa) (spos := pos) o tk e2 h2 h4
          exact s_asgG q1 q2 gTv_name
        · cases h2
    · cases h
  | .asgO i e, X, W, z, o, tk, hp, hfn, s, h => by
    unfold chS at h
    split at h
    · rename_i tg v pos
      obtain ⟨h1, h2⟩ := b3 h
      obtain ⟨h3, h4⟩ := b3 h1
      obtain ⟨x, p', e1, e2, e3⟩ := name_of h3
      cases e1
      rcases Bool.or_eq_true_iff.mp h2 with h2 | h2
      · obtain ⟨w1, w2, w3⟩ := swA_of (l := pos.line) (env := X.env) rfl h3 h2
        exact s_asgO (ps_asg (sE e o tk v h4).1 (pg_name o.nd e2 (loc_of e3).1 (.inl (hfn.fn x))) w1 w2 w3) (fun _ _ _ h => h)
      · cases v with
        | ListComp el gs scope p =>
          obtain ⟨te, q1, q2⟩ := c_setLc (fa := fa) (spos := pos) o tk e2 h2 h4
          exact s_asgO q1 q2
        | _ => cases h2
    · cases h
  | .par is os es, X, W, z, o, tk, hp, hfn, s, h => by
    unfold chS at h
    split at h
    · rename_i ts tk' tp vs vk vp pos
      obtain ⟨h1, h2⟩ := b3 h
      obtain ⟨h3, h4⟩ := b3 h1
      have ha := sL es o tk vs h4
      unfold parB at h2
      split at h2
      · rename_i hsw
        obtain ⟨n1, n2⟩ := names_star X.env h3
        have hg := pg_tup (k := tk') (pos := tp) (n := is.length) o.calm (names_pgs o.nd hfn.fn h3) (by rw [n1, names_len h3]) n2
        refine s_parG (ps_asg (pe_tup ha) hg (show swapsWith (.Tuple vs vk vp) (some (.Tuple ts tk' tp)) pos.line X.env = pure false from sw_tup) (swP_ok hsw) rfl) fun D σ H hh => ?_
        have hle : is.length ≤ sizeLine := Nat.le_trans (of_decide_eq_true h2) (by rw [sizeLine_eq]; omega)
        exact pa_imp (es := []) hh fun vs' H' ⟨q1, q2, q3⟩ => ⟨by rw [q1]; exact hle, fun p hp => ⟨p, vs', rfl, SqT.of upd_same, q1, q1, q3 p hp⟩⟩
      · rename_i ns hsw
        split at h2
        · rename_i i j x px y py a b
          obtain ⟨a1, a2⟩ := b3 h2
          obtain ⟨a3, a4⟩ := b3 a1
          obtain ⟨a5, a6⟩ := b3 a3
          cases of_decide_eq_true a5
          have h3 : (decide (X.N[i]? = some x) && locB X.env.scope (fun _ => true) x && (decide (X.N[j]? = some y) && locB X.env.scope (fun _ => true) y && namesB X.N X.env.scope [] [])) = true := h3
          obtain ⟨c1, c2⟩ := b3 h3
          obtain ⟨c3, c4⟩ := b3 c2
          refine s_parG (ps_par o.calm o.nd (of_decide_eq_true (b3 c1).1) (of_decide_eq_true (b3 c3).1) (of_decide_eq_true a6) (of_decide_eq_true a4) (of_decide_eq_true a2) ha (swP_ok hsw) rfl) fun D σ H hh => pa_imp (es := []) hh fun vs' H' ⟨q1, q2, _⟩ => ?_
          obtain ⟨v1, v2, rfl⟩ := len2 q1
          exact ⟨v1, v2, rfl, q2⟩
        · rename_i i j l x px y py zz pz a b d
          obtain ⟨a1, a2⟩ := b3 h2
          obtain ⟨a3, a4⟩ := b3 a1
          obtain ⟨a5, a6⟩ := b3 a3
          obtain ⟨a7, a8⟩ := b3 a5
          obtain ⟨a9, a10⟩ := b3 a7
          obtain ⟨a11, a12⟩ := b3 a9
          cases of_decide_eq_true a11
          have h3 : (decide (X.N[i]? = some x) && locB X.env.scope (fun _ => true) x && (decide (X.N[j]? = some y) && locB X.env.scope (fun _ => true) y && (decide (X.N[l]? = some zz) && locB X.env.scope (fun _ => true) zz && namesB X.N X.env.scope [] []))) = true := h3
          obtain ⟨c1, c2⟩ := b3 h3
          obtain ⟨c3, c4⟩ := b3 c2
          obtain ⟨c5, c6⟩ := b3 c4
          refine s_parG (ps_par3 o.calm o.nd (of_decide_eq_true (b3 c1).1) (of_decide_eq_true (b3 c3).1) (of_decide_eq_true (b3 c5).1) (of_decide_eq_true a12) (of_decide_eq_true a10) (of_decide_eq_true a8) (of_decide_eq_true a6) (of_decide_eq_true a4) (of_decide_eq_true a2) ha (swP_ok hsw) rfl) fun D σ H hh => pa_imp (es := []) hh fun vs' H' ⟨q1, q2, _⟩ => ?_
          obtain ⟨v1, v2, v3, rfl⟩ := len3 q1
          exact ⟨v1, v2, v3, rfl, q2⟩
        · cases h2
      · cases h2
    · cases h
  | .seti oo kx e, X, W, z, o, tk, hp, hfn, s, h => by
    unfold chS at h
    split at h
    · rename_i i x p1 ky p2 v pos
      obtain ⟨h1, h2⟩ := b3 h
      obtain ⟨h3, h4⟩ := b3 h1
      obtain ⟨h5, h6⟩ := b3 h3
      obtain ⟨h7, h8⟩ := b3 h5
      obtain ⟨h9, h10⟩ := b3 h7
      obtain ⟨g1, g2, g3⟩ := okN_of h8
      exact s_seti (of_decide_eq_true h9) (vis_of h10) g1 g2 (sE e o tk v h2).1 (sE kx o tk _ h4).1 (fun w => by cases ky <;> first | rfl | cases h6)
    · cases h
  | .exp e, X, W, z, o, tk, hp, hfn, s, h => by
    unfold chS at h
    split at h
    · obtain ⟨h1, h2⟩ := b3 h
      exact s_exp (sE e o tk _ h1).1 (sw_no (by simpa using h2))
    · cases h
  | .app i e, X, W, z, o, tk, hp, hfn, s, h => by
    unfold chS at h
    split at h
    · obtain ⟨h1, h2⟩ := b3 h
      obtain ⟨h3, h4⟩ := b3 h1
      obtain ⟨h5, h6⟩ := b3 h3
      obtain ⟨h7, h8⟩ := b3 h5
      obtain ⟨h9, h10⟩ := b3 h7
      obtain ⟨g1, g2, g3⟩ := okN_of h4
      exact s_app (of_decide_eq_true h9) h10 (of_decide_eq_true h8) (vis_of h6) g1 g2 (sE e o tk _ h2).1 (chE_star h2 _ _)
    · cases h
  | .ext i e, X, W, z, o, tk, hp, hfn, s, h => by
    unfold chS at h
    split at h
    · obtain ⟨h1, h2⟩ := b3 h
      obtain ⟨h3, h4⟩ := b3 h1
      obtain ⟨h5, h6⟩ := b3 h3
      obtain ⟨h7, h8⟩ := b3 h5
      obtain ⟨h9, h10⟩ := b3 h7
      obtain ⟨g1, g2, g3⟩ := okN_of h4
      exact s_ext (of_decide_eq_true h9) h10 (of_decide_eq_true h8) (vis_of h6) g1 g2 (sE e o tk _ h2).1 (chE_star h2 _ _)
    · cases h
  | .ret e, X, W, z, o, tk, hp, hfn, s, h => by
    unfold chS at h
    split at h
    · exact s_ret (sE e o tk _ h).1
    · cases h
  | .retN, X, W, z, o, tk, hp, hfn, s, h => by
    unfold chS at h
    split at h
    · exact s_retN
    · cases h
  | .retB e, X, W, z, o, tk, hp, hfn, s, h => by
    unfold chS at h
    split at h
    · exact s_retB (sE e o tk _ h).1
    · cases h
  | .ife t a b, X, W, z, o, tk, hp, hfn, s, h => by
    unfold chS at h
    split at h
    · obtain ⟨h1, h2⟩ := b3 h
      obtain ⟨h3, h4⟩ := b3 h1
      exact s_ife (sE t o tk _ h3).2 (sB a o tk hp hfn _ h4) (sB b o tk hp hfn _ h2)
    · cases h
  | .whl t b, X, W, z, o, tk, hp, hfn, s, h => by
    unfold chS at h
    split at h
    · obtain ⟨h1, h2⟩ := b3 h
      exact s_whl hp (sE t o tk _ h1).2 (sB b o tk hp hfn _ h2)
    · cases h
  | .for_ tg it b, X, W, z, o, tk, hp, hfn, s, h => by
    unfold chS at h
    split at h
    · rename_i t i x pos
      obtain ⟨h1, h2⟩ := b3 h
      obtain ⟨h3, h4⟩ := b3 h1
      obtain ⟨h5, h6⟩ := b3 h3
      have hs : ∀ x, foldedSetIterable i X.env x = pure x := fun x => by
        cases i <;> first | rfl | cases h4
      exact s_for hp o.calm (sI it o tk true t i h6) (sG (fa := fa) o.calm o.nd tg t (chT_fn hfn.fn h5)) (sB b o tk hp hfn _ h2) hs
    · cases h
  | .pass, X, W, z, o, tk, hp, hfn, s, h => by
    unfold chS at h
    split at h
    · exact s_pass
    · cases h
  | .brk, X, W, z, o, tk, hp, hfn, s, h => by
    unfold chS at h
    split at h
    · exact s_brk
    · cases h
  | .cont, X, W, z, o, tk, hp, hfn, s, h => by
    unfold chS at h
    split at h
    · exact s_cont
    · cases h
  | .raise kk m, X, W, z, o, tk, hp, hfn, s, h => by
    unfold chS at h
    split at h
    · obtain ⟨h1, h2⟩ := b3 h
      obtain ⟨h3, h4⟩ := b3 h1
      obtain ⟨h5, h6⟩ := b3 h3
      obtain ⟨g1, g2, g3⟩ := okN_of h2
      cases of_decide_eq_true h6
      exact s_raise o tk (of_decide_eq_true h5) (gl_of h4) g1
    · cases h
  | .frz _, X, W, z, o, tk, hp, hfn, s, h => by cases h
  | .tryN f e, X, W, z, o, tk, hp, hfn, s, h => by
    unfold chS at h
    split at h
    · rename_i v p8 cx p0 ev xn p1 ev2 p2 p3 p4 p5 p9
      obtain ⟨h1, g10⟩ := b3 h
      obtain ⟨h2, g9⟩ := b3 h1
      obtain ⟨h3, g8⟩ := b3 h2
      obtain ⟨h4, g7⟩ := b3 h3
      obtain ⟨h5, g6⟩ := b3 h4
      obtain ⟨h6, g5⟩ := b3 h5
      obtain ⟨h7, g4⟩ := b3 h6
      obtain ⟨h8, g3⟩ := b3 h7
      obtain ⟨g1, g2⟩ := b3 h8
      cases of_decide_eq_true g1
      cases of_decide_eq_true g2
      cases of_decide_eq_true g3
      cases of_decide_eq_true g4
      obtain ⟨⟨x, get⟩, hw⟩ := Option.isSome_iff_exists.mp g5
      obtain ⟨i, hi⟩ := List.getElem?_of_mem (List.contains_iff_mem.mp g6)
      exact s_try (q := fun n => match n with | 0 => p0 | 1 => p1 | 2 => p2 | 3 => p3 | 4 => p4 | 5 => p5 | 8 => p8 | _ => p9) o tk hfn hw hi (of_decide_eq_true g7) (gl_of g8) (gl_of g9) fun o' tk' hN henv _ => (sE e o' tk' v (by rw [hN, henv]; exact g10)).1
    · cases h
  | .any, X, W, z, o, tk, hp, hfn, s, h => ⟨fun _ _ _ _ _ _ ⟨_, _, _, _, _, p⟩ => p.elim⟩
theorem sB : (ib : IB) → ∀ {X : Cx} {W : WX} {z : Ent}, Cok nm fa gc T k X → L2N.Takes X W → PassesOwn (model X.prog X.w) X.A X.env X.xe → DefX X → ∀ ss : List Stmt, chB nm X.N X.env.scope ib ss = true → PSs X ss (tEx X.K fa W z (execs (Cf.mk (callK T gc k) gc (wdT T)) ib))
  | .nil, X, W, z, o, tk, hp, hfn, ss, h => by
    cases ss with
    | nil => exact b_nil
    | cons a b => cases h
  | .cons s b, X, W, z, o, tk, hp, hfn, ss, h => by
    by_cases hf : ∃ i, s = .frz i
    · obtain ⟨i, rfl⟩ := hf
      exact b_frz (sB b o tk hp hfn ss h)
    · cases ss with
      | nil =>
        cases s <;> first | cases h | exact absurd ⟨_, rfl⟩ hf
      | cons x xs =>
        have h : (chS nm X.N X.env.scope s x && chB nm X.N X.env.scope b xs) = true := by
          cases s <;> first | exact h | exact absurd ⟨_, rfl⟩ hf
        exact b_cons (sS s o tk hp hfn x (b3 h).1) (sB b o tk hp hfn xs (b3 h).2)
end
end
end DE
end

section
set_option Elab.async false
set_option linter.all false
set_option maxRecDepth 100000
set_option autoImplicit false
namespace DE
open PySem PySem.Spec L2 PyProof.Rows
section
variable {K : PySem.W.Frag} {fa : Fa} {F : Addr → Prop} {ρ : List Addr} {H : Hp} {st : Store}
theorem DVs.length : ∀ {vs : List V} {ds : List D}, DVs K fa F ρ H vs ds → vs.length = ds.length
  | [], [], _ => rfl
  | _ :: _, _ :: _, h => congrArg Nat.succ (DVs.length h.2)
  | [], _ :: _, h => h.elim
  | _ :: _, [], h => h.elim
theorem DVs.get : ∀ {vs : List V} {ds : List D} {i : Nat} {d : D}, DVs K fa F ρ H vs ds → ds[i]? = some d → ∃ v, vs[i]? = some v ∧ DV K fa F ρ H v d
  | [], [], i, d, _, h => by cases h
  | v :: vs, d0 :: ds, 0, d, r, h => by
    cases h
    exact ⟨v, rfl, r.1⟩
  | v :: vs, d0 :: ds, i + 1, d, r, h => by
    obtain ⟨u, h1, h2⟩ := DVs.get r.2 h
    exact ⟨u, h1, h2⟩
  | [], _ :: _, _, _, r, _ => r.elim
  | _ :: _, [], _, _, r, _ => r.elim
/-- the slots at a def's start -/
theorem start_rel {N : List Str} {d : Df} {vs : List V} {ds : List D} (h : DVs K fa F ρ H vs ds) (hn : d.ns = N.length) (hp : ds.length = d.np) (hle : d.np ≤ d.ns) : ERel K fa F ρ H (L2.start N vs) (startE d ds) ∧ ∀ (i : Nat) (o : SO), (startE d ds)[i]? ≠ some (.own o) := by
  have hl := h.length
  have noown : ∀ (i : Nat) (o : SO), (startE d ds)[i]? ≠ some (.own o) := fun i o e => by
    have hm := List.mem_of_getElem? e
    unfold startE at hm
    rcases List.mem_append.mp hm with hm | hm
    · obtain ⟨x, _, hx⟩ := List.mem_map.mp hm
      cases hx
    · have := (List.mem_replicate.mp hm).2
      cases this
  refine ⟨⟨?_, fun i x e => ?_, fun i o e => absurd e (noown i o), fun i j o o' a e => absurd e (noown i o)⟩, noown⟩
  · unfold L2.start startE
    rw [List.length_append, List.length_append, List.length_map, List.length_map, List.length_replicate, List.length_replicate]
    omega
  · unfold startE at e
    by_cases hi : i < ds.length
    · rw [List.getElem?_append_left (by rw [List.length_map]; exact hi), List.getElem?_map] at e
      cases q : ds[i]? with
      | none =>
        rw [q] at e
        cases e
      | some y =>
        rw [q] at e
        cases e
        obtain ⟨v, h1, h2⟩ := h.get q
        refine ⟨v, ?_, h2⟩
        unfold L2.start
        rw [List.getElem?_append_left (by rw [List.length_map, hl]; exact hi), List.getElem?_map, h1]
        rfl
    · have hm := List.mem_of_getElem? (by
        rw [List.getElem?_append_right (by rw [List.length_map]; omega)] at e
        exact e)
      have := (List.mem_replicate.mp hm).2
      cases this
/-- behind a call: its boxes are dropped -/
theorem drop_boxes {F' : Addr → Prop} {ρ' : List Addr} {H' : Hp} {st' : Store} (w0 : Wok K fa F ρ H st) (e : Ext F ρ H F' ρ' H') (w : Wok K fa F' ρ' H' st') : Ext F ρ H F' ρ H' ∧ Wok K fa F' ρ H' (st'.take st.length) := by
  obtain ⟨l, e1, e2⟩ := e.pre
  subst e1
  have hlen : st'.length = ρ.length + l.length := by
    rw [← w.len, List.length_append]
  refine ⟨⟨e.sub, e.new, ⟨[], by simp, by simp⟩, e.keep, e.there⟩, ⟨?_, (List.nodup_append.mp w.nd).1, fun n a o h1 h2 => ?_, fun a ha => w.dis a (List.mem_append_left _ ha), w.has, w.tab⟩⟩
  · rw [List.length_take, ← w0.len, hlen]
    omega
  · have hn : n < ρ.length := (List.getElem?_eq_some_iff.mp h1).1
    rw [List.getElem?_take_of_lt (by rw [← w0.len]; exact hn)] at h2
    exact w.box n a o (by rw [List.getElem?_append_left hn]; exact h1) h2
/-- all but one -/
theorem keep_box {F' : Addr → Prop} {ρ' : List Addr} {H' : Hp} {st' : Store} {k : Nat} {a : Addr} {o : SO} (w0 : Wok K fa F ρ H st) (e : Ext F ρ H F' ρ' H') (w : Wok K fa F' ρ' H' st') (hk : ¬ k < st.length) (ha : ρ'[k]? = some a) (ho : st'[k]? = some o) :
    Ext F ρ H F' (ρ ++ [a]) H' ∧ Wok K fa F' (ρ ++ [a]) H' (st'.take st.length ++ [o]) ∧ (ρ ++ [a])[st.length]? = some a := by
  obtain ⟨e', w'⟩ := drop_boxes w0 e w
  obtain ⟨l, e1, e2⟩ := e.pre
  subst e1
  have hm : a ∈ l := by
    rw [List.getElem?_append_right (by rw [w0.len]; omega)] at ha
    exact List.mem_of_getElem? ha
  have hnot : a ∉ ρ := fun h => by
    have := (List.nodup_append.mp w.nd).2.2 a h a hm
    exact this rfl
  refine ⟨⟨e.sub, e.new, ⟨[a], rfl, fun b hb => ?_⟩, e.keep, e.there⟩, ⟨?_, ?_, fun n b o' h1 h2 => ?_, fun b hb => ?_, w.has, w.tab⟩, ?_⟩
  · rw [List.mem_singleton.mp hb]
    exact e2 a hm
  · rw [List.length_append, List.length_append, w'.len]
    rfl
  · rw [List.nodup_append]
    exact ⟨w0.nd, by simp, fun b hb c hc => by
      rw [List.mem_singleton.mp hc]
      exact fun z => hnot (z ▸ hb)⟩
  · by_cases hn : n < ρ.length
    · rw [List.getElem?_append_left hn] at h1
      rw [List.getElem?_append_left (by rw [← w'.len]; exact hn)] at h2
      exact w'.box n b o' h1 h2
    · have hn' : n = ρ.length := by
        have := (List.getElem?_eq_some_iff.mp h1).1
        rw [List.length_append] at this
        simp at this
        omega
      subst hn'
      rw [List.getElem?_append_right (Nat.le_refl _)] at h1
      rw [w'.len, List.getElem?_append_right (Nat.le_refl _)] at h2
      simp at h1 h2
      subst h1 h2
      exact w.box k a o ha ho
  · rcases List.mem_append.mp hb with hb | hb
    · exact w'.dis b hb
    · rw [List.mem_singleton.mp hb]
      exact w.dis a (List.mem_append_right _ hm)
  · rw [← w0.len, List.getElem?_append_right (Nat.le_refl _)]
    simp
theorem fin_post {E : XK} {Q : VK} {r : R Fl} (w0 : Wok K fa F ρ H st) (h : PostD K fa (fun cls d _ H' => E cls d H') F ρ H [] (fin st.length r) Q) : PostS K fa (fun cls d _ H' => E cls d H') ⟨F, ρ, H⟩ F H r { nx := fun _ H' => Q .non H', rt := Q } := by
  cases r with
  | bad => exact h.elim
  | exc k x s =>
    intro σ F' ρ' H' e w ex
    obtain ⟨e', w'⟩ := drop_boxes w0 e w
    exact h F' ρ H' e' w' ex
  | ok fl s =>
    cases fl with
    | nx env =>
      intro σ F' ρ' H' a _
      obtain ⟨e', w'⟩ := drop_boxes w0 a.ext a.wok
      exact h .non F' ρ H' e' w' VR.non
    | bk env => exact h.elim
    | ct env => exact h.elim
    | rt d =>
      cases d with
      | p x =>
        intro v F' ρ' H' e w hv
        obtain ⟨e', w'⟩ := drop_boxes w0 e w
        exact h v F' ρ H' e' w' hv
      | new xs => exact h.elim
      | bor xs => exact h.elim
      | box k =>
        intro v F' ρ' H' e w hv
        obtain ⟨a, rfl, ha⟩ := hv
        have h : PostD K fa (fun cls d _ H' => E cls d H') F ρ H [] (if k < st.length then .ok (.box k) (s.take st.length) else match s[k]? with
          | some o => .ok (.box st.length) (s.take st.length ++ [o])
          | none => .bad) Q := h
        by_cases hk : k < st.length
        · rw [if_pos hk] at h
          obtain ⟨e', w'⟩ := drop_boxes w0 e w
          refine h (.ref a) F' ρ H' e' w' ⟨a, rfl, ?_⟩
          obtain ⟨l, e1, _⟩ := e.pre
          rw [e1, List.getElem?_append_left (by rw [w0.len]; exact hk)] at ha
          exact ha
        · rw [if_neg hk] at h
          cases ho : s[k]? with
          | none =>
            rw [ho] at h
            exact h.elim
          | some o =>
            rw [ho] at h
            obtain ⟨e', w', q⟩ := keep_box w0 e w hk ha ho
            exact h (.ref a) F' _ H' e' w' ⟨a, rfl, q⟩
end
/-- a def of the text -/
structure DefAt (K : PySem.W.Frag) (mg : Str → Option Value) (base : Heap) (nm : Nm) (fa : Fa) (T : Nat → Option Df) (f : Nat) (x : Str) (ps : List Str) (fd : FuncData) : Prop where
  ex : ∃ (params : Arguments) (body : List Stmt) (scope : Scope) (N : List Str) (d : Df) (lf : Bool), FunD K x x params body scope [] [] (fa f) fd ∧ mg x = some (.ref (fa f)) ∧ Binds K fd ps [] ∧ FnScope N ps scope ∧ T f = some d ∧ d.np = ps.length ∧ d.ns = N.length ∧ d.np ≤ d.ns ∧
    chB { nm with l := lf } N scope d.body body = true ∧
    (lf = true → ∃ c P, fd.code = .ref c ∧ LamX.TabB base mg c P ∧ ∀ (n : Nat) (g : Addr) (cd : Value), (P, (envOfC x scope n g cd).qual ++ "<lambda>") ∈ fa.tb ∧ ∀ p ∈ fa.tb, p.1 = P → p.2 = (envOfC x scope n g cd).qual ++ "<lambda>")
section
variable {P : Program} {w : World} {K : PySem.W.Frag} {mg : Str → Option Value} {base : Heap} {nm : Nm} {fa : Fa} {gc : Nat → Option DE.P} {T : Nat → Option Df}
theorem def_fn {k f : Nat} {x : Str} {ps : List Str} {fd : FuncData} (ih : Fx P w K mg base nm fa gc T k) (D : DefAt K mg base nm fa T f x ps fd) : FnOk P w K mg base (L2N.CX P w) (3 * (k + 1)) (fa f) fd ps (spK K fa (callK T gc (k + 1) f)) := by
  obtain ⟨params, body, scope, N, d, lf, FF, hm, hb, S, h1, h2, h3, h4, h5, h6⟩ := D.ex
  obtain ⟨oc, od, dV, kV, doc, pm, an, cdv, ct, osl, rfl, lk, hcd, _, _⟩ := FF.ex
  have unf : ∀ ds st, callK T gc (k + 1) f ds st = if ds.length = d.np then fin st.length (execs (Cf.mk (callK T gc k) gc (wdT T)) d.body (startE d ds) st) else .bad := fun ds st => by
    show (match T f with
      | some d => if ds.length = d.np then fin st.length (execs (Cf.mk (callK T gc k) gc (wdT T)) d.body (startE d ds) st) else .bad
      | none => .bad) = _
    rw [h1]
  have hlen : ∀ vs H Q E, spK K fa (callK T gc (k + 1) f) vs H Q E → vs.length = ps.length := fun vs H Q E ⟨F, ρ, ds, st, w, r, p⟩ => by
    rw [unf] at p
    by_cases hl : ds.length = d.np
    · rw [r.length, hl, h2]
    · rw [if_neg hl] at p
      exact p.elim
  refine fn_of (k := 3 * k + 2) lk hcd S hlen fun A outer s H vs Q E hr hsp => ?_
  obtain ⟨F, ρ, ds, st, w0, r, p⟩ := hsp
  rw [unf] at p
  by_cases hl : ds.length = d.np
  · rw [if_pos hl] at p
    have ck : Cok { nm with l := lf } fa gc T k (cxOf (L2N.CX P w) P w K mg base N x scope (fa f) cdv A outer s H E) := ⟨rfl, S.nd, hr.mono (by omega), ih.l lf, fun hlf => by
      obtain ⟨c, P', g1, g2, g3⟩ := h6 hlf
      have g1 : cdv = .ref c := g1
      exact ⟨hr, ⟨c, P', g2, g1, g3 _ _ _⟩⟩⟩
    refine ⟨tEx K fa (fun cls d _ H' => E cls d H') ⟨F, ρ, H⟩ (execs (Cf.mk (callK T gc k) gc (wdT T)) d.body), ?_, ?_⟩
    · exact sB d.body ck (L2N.takes_of rfl rfl rfl rfl) (passes_of rfl) ⟨fun _ => rfl, rfl, rfl, hr.mono (by omega)⟩ body h5
    · obtain ⟨er, no⟩ := start_rel (N := N) (d := d) r h3 hl h4
      exact ⟨F, ρ, _, st, ⟨.refl _ _ _, w0, er, fun i o a e => absurd e (no i o)⟩, fin_post w0 p⟩
  · rw [if_neg hl] at p
    exact p.elim
theorem fx_all (hd : ∀ f x, nm.f f = some x → ∃ ps fd, DefAt K mg base nm fa T f x ps fd)
    (con : ∀ x p, gc x = some p → ∃ v u, mg (nm.c x) = some u ∧ RelV v u ∧ ∀ F H, VR K fa F H v p) (free : ∀ x, x ∈ freeNames → mg x = none)
    (exc : ∀ c x, nm.e c = some x → mg x = some (.ref (fa c)) ∧ PySem.W.keepIn K (.ref (fa c)) = true ∧ (∃ B newId initId bmB, ExcBaseFacts B newId initId bmB ∧ PySem.W.excIn K (fa c) bmB newId = true) ∧ ∀ X : Cx, X.K = K → Raises X (.ref (fa c)))
    (wrd : ∀ f x get, nm.w f = some (x, get) → ∃ pg bg sg dV kV doc pm cdv ct oc an od osl Ng a g, WordOk P w K mg base fa x get (wdT T f) pg bg sg dV kV doc pm cdv ct oc an od osl Ng a g)
    (tok : ∀ f x get, nm.w f = some (x, get) → TryOk P w K mg base fa "_law_names" (wdT T f)) :
    ∀ k, Fx P w K mg base nm fa gc T k := by
  intro k
  induction k with
  | zero =>
    refine ⟨fun f x hf => ?_, con, free, exc, wrd, tok⟩
    obtain ⟨ps, fd, D⟩ := hd f x hf
    obtain ⟨params, body, scope, N, d, lf, F, hm, hb, _⟩ := D.ex
    exact ⟨fd, ps, hm, F.kp, hb, ⟨fun vs H Q E ⟨F, ρ, ds, st, w, _, p⟩ => p.elim, fun A outer s H args us vs Q E _ _ _ _ ⟨F, ρ, ds, st, w, _, p⟩ => p.elim⟩⟩
  | succ k ih =>
    refine ⟨fun f x hf => ?_, con, free, exc, wrd, tok⟩
    obtain ⟨ps, fd, D⟩ := hd f x hf
    have q := def_fn ih D
    obtain ⟨params, body, scope, N, d, lf, F, hm, hb, _⟩ := D.ex
    exact ⟨fd, ps, hm, F.kp, hb, q⟩
end
end DE
end

section
set_option Elab.async false
set_option linter.all false
set_option maxRecDepth 100000
set_option autoImplicit false
namespace DE
open PySem PySem.Spec L2 PyProof.Rows
theorem law_at {l : PySem.W.OpenLaw} {w : World} {K : PySem.W.Frag} {mg : Str → Option Value} {h : Heap} {nm : Nm} {fa : Fa} {gc : Nat → Option DE.P} {T : Nat → Option Df} {fL k n : Nat} {x xl : Str} {fA : Addr} {fd : FuncData} {cs : List (Addr × Addr)}
    (hc1 : ∀ p ∈ cs, h.get? p.2 = some { cls := .none, data := .fields #[] }) (hc2 : ∀ p ∈ cs, K.lookup p.2 = none) (hc3 : ∀ p ∈ cs, PySem.W.CodeHd h p.1 p.2) (htb : ∀ p ∈ fa.tb, ∃ q ∈ cs, q.2 = p.1)
    (hfx : ∀ base : Heap, K.In base → base.Ns mainGlobals mg → (∀ p ∈ cs, LamX.TabB base mg p.1 p.2) → Fx l.prog w K mg base nm fa gc T k)
    (hdl : ∀ base : Heap, K.In base → base.Ns mainGlobals mg → (∀ p ∈ cs, LamX.TabB base mg p.1 p.2) → DefAt K mg base nm fa T fL xl [x] fd)
    (hfa : fa fL = fA) (hb : ∀ (s : Shared) (u : Value), BindsTo s fd ⟨[u], []⟩ [(x, u)])
    (hlaw : ∀ ns : List Int, ns.length ≤ n → (∀ z ∈ ns, Builtin.Int.intBits z ≤ 1048576) → ∃ st, callK T gc (k + 1) fL [.p (.scr ns)] [] = .ok (.p (.bl true)) st) :
    LamX.LawAtS l w K (L2N.CX l.prog w) (3 * (k + 1)) n x mg fA h := by
  subst hfa
  refine ⟨fd, cs, spK K fa (callK T gc (k + 1) fL), hc1, hc2, hc3, hb, fun H a ns hl hz hH hS => ?_, fun base h1 h2 h3 => def_fn (hfx base h1 h2 h3) (hdl base h1 h2 h3)⟩
  obtain ⟨st, e⟩ := hlaw ns hl hz
  have tabs : LamX.Tabs fa.tb H := fun p hp => by
    obtain ⟨q, hq, e⟩ := htb p hp
    exact LamX.TabS.nil (by rw [← e]; exact hH q hq)
  have go : ∀ F : Addr → Prop, (∀ b, F b → nt H b ≠ none) → ScrAt K F H a ns → spK K fa (callK T gc (k + 1) fL) [.ref a] H (fun v _ => v = .bl true) fun _ _ _ => False := fun F hF hs => by
    refine ⟨F, [], [.p (.scr ns)], [], ⟨rfl, by simp, fun n b o h => by simp at h, fun b hb => by simp at hb, hF, tabs⟩, ⟨VR.scr hs, True.intro⟩, ?_⟩
    rw [e]
    intro b F' ρ' H' _ _ r
    cases (show VR K fa F' H' b (.bl true) from r)
    rfl
  rcases hS with (hS | ⟨o, hS⟩) | ⟨o, its, m, q1, q2, q3, q4, q5, q6⟩
  · exact go (fun b => b = a) (fun b hb => by rw [hb]; exact nt_lst hS) (.inl ⟨rfl, .inl hS⟩)
  · exact go (fun b => b = a) (fun b hb => by rw [hb]; exact nt_ne hS (fun _ z => nomatch z)) (.inl ⟨rfl, .inr ⟨o, hS⟩⟩)
  · exact go (fun _ => False) (fun b hb => hb.elim) (.inr fun H' => .inr ⟨o, its, m, q1, q2, q3, q4, q5, q6⟩)
theorem lookup_memN {α : Type} {e : Nat} {x : α} : ∀ {l : List (Nat × α)}, l.lookup e = some x → (e, x) ∈ l
  | [], h => by cases h
  | (n, y) :: l, h => by
    have h : (match e == n with | true => some y | false => l.lookup e) = some x := h
    cases q : (e == n) with
    | true =>
      rw [q] at h
      cases h
      rw [beq_iff_eq.mp q]
      exact List.mem_cons_self
    | false =>
      rw [q] at h
      exact List.mem_cons_of_mem _ (lookup_memN h)
theorem code_of {K : PySem.W.Frag} {p : He.Defn} {x q : Str} {a : Arguments} {b : List Stmt} {s : Scope} {fd : FuncData} (F : FunD K x q a b s [] [] (He.fAd K p) fd) : fd.code = .ref (He.cT K p).1 := by
  obtain ⟨oc, od, dV, kV, doc, pm, an, cdv, ct, osl, rfl, lk, hcd, _, _⟩ := F.ex
  obtain ⟨c, e⟩ := He.codeIn_ref hcd
  have e2 : He.codeOf K p = c := He.codeOf_eq lk e
  show cdv = .ref (He.codeOf K p)
  rw [e2, e]
section
variable {faL : List He.Fa} {fn : List He.DefD} {K : PySem.W.Frag} {h : Heap} {mg : Str → Option Value}
theorem free_all (c : He.SaysD faL fn K) (X : K.In h) (G : h.Ns mainGlobals mg) (hf : ∀ x ∈ freeNames, He.Fa.free x ∈ faL) : ∀ x, x ∈ freeNames → mg x = none := fun x hx => He.free_ok X G (c.facts (hf x hx))
theorem exc_one (c : He.SaysD faL fn K) (X : K.In h) (G : h.Ns mainGlobals mg) {x : Str} (h1 : He.Fa.glo x ∈ faL) (h2 : He.Fa.exc x ∈ faL) :
    mg x = some (.ref (He.ga K x)) ∧ PySem.W.keepIn K (.ref (He.ga K x)) = true ∧ (∃ B newId initId bmB, ExcBaseFacts B newId initId bmB ∧ PySem.W.excIn K (He.ga K x) bmB newId = true) ∧ ∀ X : Cx, X.K = K → Raises X (.ref (He.ga K x)) := by
  obtain ⟨e1, e2, e3, e4⟩ := He.exc_ok (c.facts h2)
  exact ⟨He.glo_ok X G (c.facts h1), e2, ⟨_, _, _, _, F.excBase_ValueError, e1⟩, fun X hX => raises_own (by rw [hX]; exact e3) (by rw [hX]; exact e4)⟩
theorem con_int (c : He.SaysD faL fn K) (X : K.In h) (G : h.Ns mainGlobals mg) {fa : Fa} {x : Str} {i : Int} (h1 : He.Fa.int x i ∈ faL) : ∃ v u, mg x = some u ∧ RelV v u ∧ ∀ F H, VR K fa F H v (.int i) := by
  obtain ⟨t, e⟩ := He.int_ok X G (c.facts h1)
  exact ⟨.int i, _, e, ⟨t, rfl⟩, fun _ _ => VR.int i⟩
theorem con_str (c : He.SaysD faL fn K) (X : K.In h) (G : h.Ns mainGlobals mg) {fa : Fa} {x z : Str} (h1 : He.Fa.str x z ∈ faL) : ∃ v u, mg x = some u ∧ RelV v u ∧ ∀ F H, VR K fa F H v (.str z) := by
  obtain ⟨t, e⟩ := He.str_ok X G (c.facts h1)
  exact ⟨.str z, _, e, ⟨t, rfl⟩, fun _ _ => VR.str z⟩
theorem con_fn (c : He.SaysD faL fn K) (X : K.In h) (G : h.Ns mainGlobals mg) {fa : Fa} {x : Str} {f : Nat} (h1 : He.Fa.glo x ∈ faL) (h2 : fa f = He.ga K x) : ∃ v u, mg x = some u ∧ RelV v u ∧ ∀ F H, VR K fa F H v (.fn f) := by
  refine ⟨.ref (fa f), _, He.glo_ok X G (c.facts h1), ?_, fun _ _ => VR.fn f⟩
  rw [h2]
  rfl
end
end DE
end

section
set_option Elab.async false
set_option linter.all false
set_option maxRecDepth 100000
set_option autoImplicit false
namespace DE
open PySem
section
variable {α β : Type}
def Wp (r : R α) (Q : α → Store → Prop) : Prop := ∃ a st, r = .ok a st ∧ Q a st
theorem Wp.ok {a : α} {st : Store} {Q : α → Store → Prop} (h : Q a st) : Wp (.ok a st) Q := ⟨a, st, rfl, h⟩
theorem Wp.get {a : α} {st : Store} {Q : α → Store → Prop} (h : Wp (.ok a st) Q) : Q a st := by
  obtain ⟨a', st', e, q⟩ := h
  cases e
  exact q
theorem wp_ok {a : α} {st : Store} {Q : α → Store → Prop} : Wp (.ok a st) Q = Q a st := propext ⟨Wp.get, Wp.ok⟩
theorem Wp.noExc {c : Nat} {x : Option P} {st : Store} {Q : α → Store → Prop} (h : Wp (.exc c x st) Q) : False := by
  obtain ⟨a', st', e, q⟩ := h
  cases e
theorem Wp.noBad {Q : α → Store → Prop} (h : Wp .bad Q) : False := by
  obtain ⟨a', st', e, q⟩ := h
  cases e
theorem Wp.bind {r : R α} {f : α → Store → R β} {Q : β → Store → Prop} {Q1 : α → Store → Prop} (h : Wp r Q1) (h2 : ∀ a st, Q1 a st → Wp (f a st) Q) : Wp (r.bind f) Q := by
  obtain ⟨a, st, rfl, q⟩ := h
  exact h2 a st q
theorem Wp.nx {r : R α} {Q : α → Store → Prop} (h : Wp r Q) : Wp r.nx Q := by
  obtain ⟨a, st, rfl, q⟩ := h
  exact ⟨a, st, rfl, q⟩
theorem Wp.mono {r : R α} {Q Q1 : α → Store → Prop} (h : Wp r Q1) (h2 : ∀ a st, Q1 a st → Q a st) : Wp r Q := by
  obtain ⟨a, st, rfl, q⟩ := h
  exact ⟨a, st, rfl, h2 a st q⟩
theorem Wp.ex {r : R α} {Q : α → Store → Prop} (h : Wp r Q) : ∃ a st, r = .ok a st ∧ Q a st := h
theorem Wp.of_eq {r : R α} {a : α} {st : Store} {Q : α → Store → Prop} (e : r = .ok a st) (h : Q a st) : Wp r Q := ⟨a, st, e, h⟩
/-- what a call makes of a body's outcome -/
def FinQ (n : Nat) (Q : D → Store → Prop) : Fl → Store → Prop
  | .rt (.p x), st => Q (.p x) (st.take n)
  | .rt (.box k), st => if k < n then Q (.box k) (st.take n) else match st[k]? with
    | some o => Q (.box n) (st.take n ++ [o])
    | none => False
  | .nx _, st => Q (.p .non) (st.take n)
  | _, _ => False
theorem Wp.fin {n : Nat} {r : R Fl} {Q : D → Store → Prop} (h : Wp r (FinQ n Q)) : Wp (fin n r) Q := by
  obtain ⟨a, st, rfl, h⟩ := h
  cases a with
  | nx e => exact Wp.ok h
  | bk e => exact h.elim
  | ct e => exact h.elim
  | rt d =>
    cases d with
    | p x => exact Wp.ok h
    | new xs => exact h.elim
    | bor o => exact h.elim
    | box k =>
      have h : (if k < n then Q (.box k) (st.take n) else match st[k]? with
        | some o => Q (.box n) (st.take n ++ [o])
        | none => False) := h
      show Wp (if k < n then _ else _) Q
      split
      · rename_i hk
        rw [if_pos hk] at h
        exact Wp.ok h
      · rename_i hk
        rw [if_neg hk] at h
        cases q : st[k]? with
        | none => rw [q] at h; exact h.elim
        | some o => rw [q] at h; exact Wp.ok h
theorem fin_rtp {n : Nat} {x : P} {st : Store} : fin n (.ok (.rt (.p x)) st) = .ok (.p x) (st.take n) := rfl
theorem fin_nx {n : Nat} {e : Env} {st : Store} : fin n (.ok (.nx e) st) = .ok (.p .non) (st.take n) := rfl
theorem fin_exc {n : Nat} {c : Nat} {x : Option P} {st : Store} : fin n (.exc c x st) = .exc c x (st.take n) := rfl
theorem callK_eq {T : Nat → Option Df} {gc : Nat → Option P} {f k : Nat} {d : Df} {as : List D} {st : Store} (h : T f = some d) (hl : as.length = d.np) :
    callK T gc (k + 1) f as st = fin st.length (execs ⟨callK T gc k, gc, wdT T⟩ d.body (startE d as) st) := by
  show (match T f with
    | some d => if as.length = d.np then fin st.length (execs ⟨callK T gc k, gc, wdT T⟩ d.body (startE d as) st) else .bad
    | none => .bad) = _
  rw [h]
  exact if_pos hl

theorem forGo_wp {f : Env → Store → R Fl} {tg : Tg} {Q : Fl → Store → Prop} (I : Nat → Env → Store → Prop) (ys : List P)
    (h : ∀ i x env st, ys[i]? = some x → I i env st → ∃ env1, asgT tg (.p x) env = some env1 ∧ Wp (f env1 st) (fun r st => match r with
      | .nx env => I (i + 1) env st
      | .ct env => I (i + 1) env st
      | .bk env => Q (.nx env) st
      | .rt d => Q (.rt d) st))
    (he : ∀ env st, I ys.length env st → Q (.nx env) st) {env : Env} {st : Store} (h0 : I 0 env st) : Wp (forGo f tg ys env st) Q := by
  have go : ∀ (xs : List P) (j : Nat) (env : Env) (st : Store), ys.drop j = xs → j ≤ ys.length → I j env st → Wp (forGo f tg xs env st) Q := by
    intro xs
    induction xs with
    | nil =>
      intro j env st hd hj hi
      have : ys.length ≤ j := List.drop_eq_nil_iff.mp hd
      have e : j = ys.length := Nat.le_antisymm hj this
      subst e
      exact Wp.ok (he _ _ hi)
    | cons x xs ih =>
      intro j env st hd hj hi
      have hlt : j < ys.length := by
        rcases Nat.lt_or_ge j ys.length with q | q
        · exact q
        · rw [List.drop_of_length_le q] at hd; cases hd
      rw [List.drop_eq_getElem_cons hlt] at hd
      cases hd
      obtain ⟨env1, e1, w⟩ := h j ys[j] env st (List.getElem?_eq_getElem hlt) hi
      unfold forGo
      rw [e1]
      refine Wp.bind w fun r st1 hr => ?_
      cases r with
      | nx env2 => exact ih (j + 1) env2 st1 rfl hlt hr
      | ct env2 => exact ih (j + 1) env2 st1 rfl hlt hr
      | bk env2 => exact Wp.ok hr
      | rt d => exact Wp.ok hr
  exact go ys 0 env st rfl (Nat.zero_le _) h0
theorem whileGo_wp {t : Env → Store → R Bool} {f : Env → Store → R Fl} {Q : Fl → Store → Prop} (I : Nat → Env → Store → Prop)
    (h : ∀ m env st, I m env st → Wp (t env st) fun b st1 => if b = true then Wp (f env st1) (fun r st => match r with
      | .nx env => ∃ m', m' < m ∧ I m' env st
      | .ct env => ∃ m', m' < m ∧ I m' env st
      | .bk env => Q (.nx env) st
      | .rt d => Q (.rt d) st) else Q (.nx env) st1) : ∀ (n m : Nat) (env : Env) (st : Store), m < n → I m env st → Wp (whileGo t f n env st) Q
  | 0, m, env, st, hm, _ => absurd hm (Nat.not_lt_zero _)
  | n + 1, m, env, st, hm, hi => by
    unfold whileGo
    refine Wp.bind (h m env st hi) fun b st1 hb => ?_
    cases b with
    | false => exact Wp.ok (by simpa using hb)
    | true =>
      refine Wp.bind (by simpa using hb) fun r st2 hr => ?_
      cases r with
      | nx env2 =>
        obtain ⟨m', h1, h2⟩ := hr
        exact whileGo_wp I h n m' env2 st2 (by omega) h2
      | ct env2 =>
        obtain ⟨m', h1, h2⟩ := hr
        exact whileGo_wp I h n m' env2 st2 (by omega) h2
      | bk env2 => exact Wp.ok hr
      | rt d => exact Wp.ok hr
theorem whl_wp {c : Cf} {t : IE} {b : IB} {env : Env} {st : Store} {Q : Fl → Store → Prop} (I : Nat → Env → Store → Prop) (m : Nat) (hm : m < 1000000)
    (h : ∀ m env st, I m env st → Wp (evT c t env st) fun bb st1 => if bb = true then Wp (execs c b env st1) (fun r st => match r with
      | .nx env => ∃ m', m' < m ∧ I m' env st
      | .ct env => ∃ m', m' < m ∧ I m' env st
      | .bk env => Q (.nx env) st
      | .rt d => Q (.rt d) st) else Q (.nx env) st1) (h0 : I m env st) : Wp (exec c (.whl t b) env st) Q := by
  show Wp (whileGo _ _ WN env st) Q
  exact whileGo_wp I h WN m env st hm h0
/-- a comprehension whose turns draw nothing -/
theorem compGo_det {f : Env → Store → R D} {t : Env → Store → R Bool} {tg : Tg} {env : Env} {st : Store} {b : P → Bool} {y : P → P} : ∀ (xs acc : List P),
    (∀ x ∈ xs, ∃ env1, asgT tg (.p x) env = some env1 ∧ t env1 st = .ok (b x) st ∧ (b x = true → ∃ d, f env1 st = .ok d st ∧ d.keep = some (y x))) → acc.length + xs.length ≤ sizeLine →
    compGo f t tg env xs acc st = .ok (acc ++ (xs.filter b).map y) st
  | [], acc, _, _ => by simp [compGo]
  | x :: xs, acc, h, hl => by
    obtain ⟨env1, e1, e2, e3⟩ := h x List.mem_cons_self
    have hr : ∀ z ∈ xs, ∃ env1, asgT tg (.p z) env = some env1 ∧ t env1 st = .ok (b z) st ∧ (b z = true → ∃ d, f env1 st = .ok d st ∧ d.keep = some (y z)) := fun z hz => h z (List.mem_cons_of_mem _ hz)
    rw [List.length_cons] at hl
    unfold compGo
    rw [e1]
    simp only [e2, R.nx_ok, R.bind_ok]
    cases hb : b x with
    | false =>
      rw [if_neg Bool.false_ne_true, compGo_det xs acc hr (by omega), List.filter_cons_of_neg (by simp [hb])]
    | true =>
      obtain ⟨d, e4, e5⟩ := e3 hb
      rw [if_pos rfl]
      simp only [e4, R.nx_ok, R.bind_ok, e5]
      rw [if_pos (decide_eq_true (by omega)), compGo_det xs (acc ++ [y x]) hr (by rw [List.length_append, List.length_singleton]; omega), List.filter_cons_of_pos hb]
      simp
/-- one that draws -/
theorem compGo_wp {f : Env → Store → R D} {t : Env → Store → R Bool} {tg : Tg} {env : Env} {Q : List P → Store → Prop} (I : Nat → List P → Store → Prop) (ys : List P)
    (h : ∀ i x acc st, ys[i]? = some x → I i acc st → ∃ env1, asgT tg (.p x) env = some env1 ∧ Wp (t env1 st) fun b st1 => if b = true then Wp (f env1 st1) (fun d st2 => ∃ y, d.keep = some y ∧ acc.length < sizeLine ∧ I (i + 1) (acc ++ [y]) st2) else I (i + 1) acc st1)
    (he : ∀ acc st, I ys.length acc st → Q acc st) {st : Store} (h0 : I 0 [] st) : Wp (compGo f t tg env ys [] st) Q := by
  have go : ∀ (xs : List P) (j : Nat) (acc : List P) (st : Store), ys.drop j = xs → j ≤ ys.length → I j acc st → Wp (compGo f t tg env xs acc st) Q := by
    intro xs
    induction xs with
    | nil =>
      intro j acc st hd hj hi
      have : ys.length ≤ j := List.drop_eq_nil_iff.mp hd
      have e : j = ys.length := Nat.le_antisymm hj this
      subst e
      exact Wp.ok (he _ _ hi)
    | cons x xs ih =>
      intro j acc st hd hj hi
      have hlt : j < ys.length := by
        rcases Nat.lt_or_ge j ys.length with q | q
        · exact q
        · rw [List.drop_of_length_le q] at hd; cases hd
      rw [List.drop_eq_getElem_cons hlt] at hd
      cases hd
      obtain ⟨env1, e1, w⟩ := h j ys[j] acc st (List.getElem?_eq_getElem hlt) hi
      unfold compGo
      rw [e1]
      refine Wp.bind w.nx fun b st1 hb => ?_
      cases b with
      | false => exact ih (j + 1) acc st1 rfl hlt hb
      | true =>
        refine Wp.bind (Wp.nx hb) fun d st2 hd => ?_
        obtain ⟨y, e2, e3, hi2⟩ := hd
        rw [e2]
        show Wp (if decide (acc.length < sizeLine) = true then _ else _) Q
        rw [if_pos (decide_eq_true e3)]
        exact ih (j + 1) (acc ++ [y]) st2 rfl hlt hi2
  exact go ys 0 [] st rfl (Nat.zero_le _) h0
theorem rngP_get {a b : Int} {i : Nat} {x : P} (h : (rngP a b)[i]? = some x) : x = .int (a + i) ∧ a + i < b := by
  unfold rngP at h
  rw [List.getElem?_map] at h
  cases q : (List.range (b - a).toNat)[i]? with
  | none => rw [q] at h; cases h
  | some j =>
    rw [q] at h
    cases h
    obtain ⟨h1, h2⟩ := List.getElem?_eq_some_iff.mp q
    rw [List.getElem_range] at h2
    subst h2
    rw [List.length_range] at h1
    exact ⟨rfl, by omega⟩
theorem rngP_len {a b : Int} : (rngP a b).length = (b - a).toNat := by simp [rngP]

mutual
/-- plain data, nested at most so deep -/
def P.okD : Nat → P → Bool
  | _, .non => true
  | _, .bl _ => true
  | _, .int _ => true
  | _, .str x => PyData.strOk x
  | n + 1, .lst xs => P.okDs n xs
  | n + 1, .tup xs => P.okDs n xs
  | _, _ => false
def P.okDs : Nat → List P → Bool
  | _, [] => true
  | n, x :: xs => P.okD n x && P.okDs n xs
end
mutual
theorem P.okD_pd : ∀ {n : Nat} {x : P}, P.okD n x = true → ∃ d, x.pd = some d ∧ d.canLay0 = true ∧ d.depth ≤ n
  | _, .non, _ => ⟨_, rfl, rfl, Nat.zero_le _⟩
  | _, .bl b, _ => ⟨_, rfl, rfl, Nat.zero_le _⟩
  | _, .int b, _ => ⟨_, rfl, rfl, Nat.zero_le _⟩
  | _, .str x, h => ⟨.str x, rfl, by simpa [PyData.canLay0, P.okD] using h, Nat.zero_le _⟩
  | n + 1, .lst xs, h => by
    unfold P.okD at h
    obtain ⟨ds, e, h1, h2⟩ := P.okDs_pds h
    refine ⟨.list ds, by unfold P.pd; rw [e]; rfl, by simpa [PyData.canLay0] using h1, by simp [PyData.depth]; exact h2⟩
  | n + 1, .tup xs, h => by
    unfold P.okD at h
    obtain ⟨ds, e, h1, h2⟩ := P.okDs_pds h
    refine ⟨.tuple ds, by unfold P.pd; rw [e]; rfl, by simpa [PyData.canLay0] using h1, by simp [PyData.depth]; exact h2⟩
  | 0, .lst xs, h => by simp [P.okD] at h
  | 0, .tup xs, h => by simp [P.okD] at h
  | _, .fn _, h => by simp [P.okD] at h
  | _, .scr _, h => by simp [P.okD] at h
theorem P.okDs_pds : ∀ {n : Nat} {xs : List P}, P.okDs n xs = true → ∃ ds, P.pds xs = some ds ∧ PyData.canLayAll0 ds = true ∧ PyData.depthAll ds ≤ n
  | _, [], _ => ⟨[], rfl, rfl, Nat.zero_le _⟩
  | n, x :: xs, h => by
    unfold P.okDs at h
    rw [Bool.and_eq_true] at h
    obtain ⟨d, e, h1, h2⟩ := P.okD_pd h.1
    obtain ⟨ds, e2, h3, h4⟩ := P.okDs_pds h.2
    refine ⟨d :: ds, by unfold P.pds; rw [e, e2], by simp [PyData.canLayAll0, h1, h3], by simp [PyData.depthAll]; omega⟩
end
mutual
/-- == of data -/
def P.eqv : P → P → Bool
  | .non, .non => true
  | .bl a, .bl b => a == b
  | .bl a, .int j => (if a then 1 else 0) == j
  | .int i, .bl b => i == (if b then 1 else 0)
  | .int i, .int j => i == j
  | .str x, .str y => x == y
  | .lst xs, .lst ys => P.eqvs xs ys
  | .tup xs, .tup ys => P.eqvs xs ys
  | _, _ => false
def P.eqvs : List P → List P → Bool
  | [], [] => true
  | x :: xs, y :: ys => P.eqv x y && P.eqvs xs ys
  | _, _ => false
end
mutual
theorem P.eqv_pd : ∀ {x y : P} {d e : PyData}, x.pd = some d → y.pd = some e → PyData.eqv d e = P.eqv x y
  | .lst xs, .lst ys, d, e, h1, h2 => by
    unfold P.pd at h1 h2
    cases q1 : P.pds xs with
    | none => rw [q1] at h1; cases h1
    | some ds =>
      cases q2 : P.pds ys with
      | none => rw [q2] at h2; cases h2
      | some es =>
        rw [q1] at h1; rw [q2] at h2; cases h1; cases h2
        simp only [PyData.eqv, P.eqv]
        exact P.eqvs_pds q1 q2
  | .tup xs, .tup ys, d, e, h1, h2 => by
    unfold P.pd at h1 h2
    cases q1 : P.pds xs with
    | none => rw [q1] at h1; cases h1
    | some ds =>
      cases q2 : P.pds ys with
      | none => rw [q2] at h2; cases h2
      | some es =>
        rw [q1] at h1; rw [q2] at h2; cases h1; cases h2
        simp only [PyData.eqv, P.eqv]
        exact P.eqvs_pds q1 q2
  | .lst xs, .tup ys, d, e, h1, h2 => by
    unfold P.pd at h1 h2
    cases q1 : P.pds xs with
    | none => rw [q1] at h1; cases h1
    | some ds =>
      cases q2 : P.pds ys with
      | none => rw [q2] at h2; cases h2
      | some es =>
        rw [q1] at h1; rw [q2] at h2; cases h1; cases h2
        simp [PyData.eqv, P.eqv]
  | .tup xs, .lst ys, d, e, h1, h2 => by
    unfold P.pd at h1 h2
    cases q1 : P.pds xs with
    | none => rw [q1] at h1; cases h1
    | some ds =>
      cases q2 : P.pds ys with
      | none => rw [q2] at h2; cases h2
      | some es =>
        rw [q1] at h1; rw [q2] at h2; cases h1; cases h2
        simp [PyData.eqv, P.eqv]
  | .lst xs, .non, d, e, h1, h2 | .lst xs, .bl _, d, e, h1, h2 | .lst xs, .int _, d, e, h1, h2 | .lst xs, .str _, d, e, h1, h2
  | .tup xs, .non, d, e, h1, h2 | .tup xs, .bl _, d, e, h1, h2 | .tup xs, .int _, d, e, h1, h2 | .tup xs, .str _, d, e, h1, h2 => by
    unfold P.pd at h1 h2
    cases q1 : P.pds xs with
    | none => rw [q1] at h1; cases h1
    | some ds => rw [q1] at h1; cases h1; cases h2; simp [PyData.eqv, P.eqv]
  | .non, .lst ys, d, e, h1, h2 | .bl _, .lst ys, d, e, h1, h2 | .int _, .lst ys, d, e, h1, h2 | .str _, .lst ys, d, e, h1, h2
  | .non, .tup ys, d, e, h1, h2 | .bl _, .tup ys, d, e, h1, h2 | .int _, .tup ys, d, e, h1, h2 | .str _, .tup ys, d, e, h1, h2 => by
    unfold P.pd at h1 h2
    cases q1 : P.pds ys with
    | none => rw [q1] at h2; cases h2
    | some ds => rw [q1] at h2; cases h1; cases h2; simp [PyData.eqv, P.eqv]
  | .non, .non, d, e, h1, h2 | .non, .bl _, d, e, h1, h2 | .non, .int _, d, e, h1, h2 | .non, .str _, d, e, h1, h2
  | .bl _, .non, d, e, h1, h2 | .bl _, .bl _, d, e, h1, h2 | .bl _, .int _, d, e, h1, h2 | .bl _, .str _, d, e, h1, h2
  | .int _, .non, d, e, h1, h2 | .int _, .bl _, d, e, h1, h2 | .int _, .int _, d, e, h1, h2 | .int _, .str _, d, e, h1, h2
  | .str _, .non, d, e, h1, h2 | .str _, .bl _, d, e, h1, h2 | .str _, .int _, d, e, h1, h2 | .str _, .str _, d, e, h1, h2 => by
    cases h1; cases h2; simp [PyData.eqv, P.eqv]
  | .fn _, _, d, e, h1, h2 => by cases h1
  | .scr _, _, d, e, h1, h2 => by cases h1
  | _, .fn _, d, e, h1, h2 => by cases h2
  | _, .scr _, d, e, h1, h2 => by cases h2
theorem P.eqvs_pds : ∀ {xs ys : List P} {ds es : List PyData}, P.pds xs = some ds → P.pds ys = some es → PyData.eqvAll ds es = P.eqvs xs ys
  | [], [], ds, es, h1, h2 => by cases h1; cases h2; rfl
  | [], y :: ys, ds, es, h1, h2 => by
    cases h1
    unfold P.pds at h2
    split at h2
    · cases h2; rfl
    · cases h2
  | x :: xs, [], ds, es, h1, h2 => by
    cases h2
    unfold P.pds at h1
    split at h1
    · cases h1; rfl
    · cases h1
  | x :: xs, y :: ys, ds, es, h1, h2 => by
    unfold P.pds at h1 h2
    split at h1
    · rename_i d1 ds1 e1 e2
      cases h1
      split at h2
      · rename_i d2 ds2 e3 e4
        cases h2
        show (PyData.eqv d1 d2 && PyData.eqvAll ds1 ds2) = (P.eqv x y && P.eqvs xs ys)
        rw [P.eqv_pd e1 e3, P.eqvs_pds e2 e4]
      · cases h2
    · cases h1
end
theorem opEq_ok {x y : P} (hx : P.okD 64 x = true) (hy : P.okD 64 y = true) : opEq x y = some (P.eqv x y) := by
  obtain ⟨d, e1, h1, h2⟩ := P.okD_pd hx
  obtain ⟨e, e2, h3, h4⟩ := P.okD_pd hy
  unfold opEq
  rw [e1, e2]
  show (if (SeqAt.shaped d && SeqAt.shaped e) = true then some (PyData.eqv d e) else none) = _
  rw [if_pos (by simp [SeqAt.shaped, h1, h2, h3, h4]), P.eqv_pd e1 e2]
mutual
theorem P.okD_mono : ∀ {n m : Nat} {x : P}, n ≤ m → P.okD n x = true → P.okD m x = true
  | _, _, .non, _, _ => by simp [P.okD]
  | _, _, .bl b, _, _ => by simp [P.okD]
  | _, _, .int b, _, _ => by simp [P.okD]
  | _, _, .str x, _, h => by simpa [P.okD] using h
  | n + 1, m + 1, .lst xs, hm, h => by
    unfold P.okD at h ⊢
    exact P.okDs_mono (Nat.le_of_succ_le_succ hm) h
  | n + 1, m + 1, .tup xs, hm, h => by
    unfold P.okD at h ⊢
    exact P.okDs_mono (Nat.le_of_succ_le_succ hm) h
  | n + 1, 0, .lst xs, hm, h => by omega
  | n + 1, 0, .tup xs, hm, h => by omega
  | 0, _, .lst xs, _, h => by simp [P.okD] at h
  | 0, _, .tup xs, _, h => by simp [P.okD] at h
  | _, _, .fn _, _, h => by simp [P.okD] at h
  | _, _, .scr _, _, h => by simp [P.okD] at h
theorem P.okDs_mono : ∀ {n m : Nat} {xs : List P}, n ≤ m → P.okDs n xs = true → P.okDs m xs = true
  | _, _, [], _, _ => by simp [P.okDs]
  | n, m, x :: xs, hm, h => by
    unfold P.okDs at h ⊢
    rw [Bool.and_eq_true] at h ⊢
    exact ⟨P.okD_mono hm h.1, P.okDs_mono hm h.2⟩
end
theorem P.okDs_iff {n : Nat} {xs : List P} : P.okDs n xs = true ↔ ∀ x ∈ xs, P.okD n x = true := by
  induction xs with
  | nil => simp [P.okDs]
  | cons x xs ih => simp [P.okDs, ih]
end
end DE
end

section
set_option Elab.async false
set_option linter.all false
set_option maxRecDepth 100000
set_option autoImplicit false
namespace DE
open PySem L2
section
variable {c : Cf} {env env1 : Env} {st : Store} {a b e d0 t : IE} {es : IL} {x y z : P} {d d1 : D} {ds as : List D} {xs ys : List P} {i j n k f : Nat} {op o1 o2 : Operator} {cop cop2 : CmpOp} {w : Option P} {lo hi : IO} {l h : Option Int} {tg : Tg} {it : IT} {cond : IO} {bb : Bool} {ibl ibl2 : IB} {fl : Fl} {o : SO} {sl : Sl} {zs : Str} {bf : Bf} {me : Me} {ty : String} {fs is : List Nat} {os bs : List Bool} {ks : List Str} {kx : IE} {msg : Str}
def kV (s : Option Sl) (st : Store) : R D := match s with
  | some (.val d) => .ok d st
  | some (.own o) => .ok (.bor o) st
  | _ => .bad
theorem V1 : ev c (.v i) env st = kV env[i]? st := by rw [ev]; rfl
theorem V2 : kV (some (.val d)) st = .ok d st := rfl
theorem V3 : kV (some (.own o)) st = .ok (.bor o) st := rfl
theorem V4 : ev c (.g i) env st = mkP (c.gc i) st := by rw [ev]
theorem V5 : mkP (some x) st = .ok (.p x) st := rfl
theorem V6 : mkB (some bb) st = .ok (.p (.bl bb)) st := rfl
theorem V7 (i : Int): ev c (.int i) env st = .ok (.p (.int i)) st := by rw [ev]
theorem V8 (i : Bool): ev c (.bl i) env st = .ok (.p (.bl i)) st := by rw [ev]
theorem V9 (i : Str): ev c (.str i) env st = .ok (.p (.str i)) st := by rw [ev]
theorem V10 : ev c .non env st = .ok (.p .non) st := by rw [ev]
theorem V11 (i : Int): mkD (some (.int i)) st = .ok (.p (.int i)) st := rfl
theorem V12 (i : Bool): mkD (some (.bl i)) st = .ok (.p (.bl i)) st := rfl
theorem V13 (i : Str): mkD (some (.str i)) st = .ok (.p (.str i)) st := rfl
theorem V14 (xs : List P): mkD (some (.tup xs)) st = .ok (.p (.tup xs)) st := rfl
theorem V15 : mkD (some .non) st = .ok (.p .non) st := rfl
theorem V16 : mkD (some (.lst xs)) st = .ok (.new xs) st := rfl
theorem V17 : (D.p x).rd st = some x := rfl
theorem V18 : (D.new xs).rd st = some (.lst xs) := rfl
theorem V19 : (D.bor (.lst xs)).rd st = some (.lst xs) := rfl
def kBx (o : Option SO) : Option P := match o with
  | some (.lst xs) => some (.lst xs)
  | _ => none
theorem V20 : (D.box n).rd st = kBx st[n]? := rfl
theorem V21 : kBx (some (.lst xs)) = some (.lst xs) := rfl
theorem V22 : (D.p x).rdI false = some x := rfl
theorem V23 : (D.new xs).rdI false = some (.lst xs) := rfl
theorem V24 : (D.p x).rdI true = some x := rfl
theorem V25 : (D.new xs).rdI true = some (.lst xs) := rfl
theorem V26 : (D.bor (.lst xs)).rdI false = some (.lst xs) := rfl
theorem V27 : (D.p x).keep = some x := rfl
theorem V28 : (D.new xs).keep = some (.lst xs) := rfl
theorem V29 : (D.p x).arg = some (.p x) := rfl
theorem V30 : (D.new xs).arg = some (.p (.lst xs)) := rfl
theorem V31 : (D.box n).arg = some (.box n) := rfl
def kTr (o : Option P) (st : Store) : R Bool := match o with
  | some x => R.opt (truth x) st
  | none => .bad
theorem V32 : rdB d st = kTr (d.rd st) st := rfl
theorem V33 : kTr (some x) st = R.opt (truth x) st := rfl
theorem V34 : R.opt (some bb) st = .ok bb st := rfl
theorem V35 : R.opt (some xs) st = .ok xs st := rfl
def kBinR (op : Operator) (a b : Option P) (st : Store) : R D := match a, b with
  | some x, some y => mkD (opBin op x y) st
  | _, _ => .bad
theorem V36 : kBinR op (some x) (some y) st = mkD (opBin op x y) st := rfl
def kBin2 (r : R D)  (op : Operator) (x : D) : R D := r.bind fun y st => kBinR op (x.rd st) (y.rd st) st
theorem V37 : kBin2 (.exc k w st) op d = .exc k w st := rfl
theorem V38 : kBin2 (.ok d1 st) op d = kBinR op (d.rd st) (d1.rd st) st := rfl
def kBin1 (r : R D)  (c : Cf) (op : Operator) (b : IE) (env : Env) : R D := r.bind fun x st => kBin2 (ev c b env st) op x
theorem V39 : kBin1 (.exc k w st) c op b env = .exc k w st := rfl
theorem V40 : kBin1 (.ok d st) c op b env = kBin2 (ev c b env st) op d := rfl
theorem V41 : ev c (.bin op a b) env st = kBin1 (ev c a env st) c op b env := by rw [ev]; rfl
def kCmpR (op : CmpOp) (a b : Option P) (st : Store) : R D := match a, b with
  | some x, some y => mkB (opCmp op x y) st
  | _, _ => .bad
theorem V42 : kCmpR cop (some x) (some y) st = mkB (opCmp cop x y) st := rfl
def kCmp2 (r : R D)  (op : CmpOp) (x : D) : R D := r.bind fun y st => kCmpR op (x.rd st) (y.rd st) st
theorem V43 : kCmp2 (.exc k w st) cop d = .exc k w st := rfl
theorem V44 : kCmp2 (.ok d1 st) cop d = kCmpR cop (d.rd st) (d1.rd st) st := rfl
def kCmp1 (r : R D)  (c : Cf) (op : CmpOp) (b : IE) (env : Env) : R D := r.bind fun x st => kCmp2 (ev c b env st) op x
theorem V45 : kCmp1 (.exc k w st) c cop b env = .exc k w st := rfl
theorem V46 : kCmp1 (.ok d st) c cop b env = kCmp2 (ev c b env st) cop d := rfl
theorem V47 : ev c (.cmp cop a b) env st = kCmp1 (ev c a env st) c cop b env := by rw [ev]; rfl
def kIxR (a b : Option P) (st : Store) : R D := match a, b with
  | some x, some y => mkP (opIdx x y) st
  | _, _ => .bad
theorem V48 : kIxR (some x) (some y) st = mkP (opIdx x y) st := rfl
def kIx2 (r : R D)  (x : D) : R D := r.bind fun y st => kIxR (x.rd st) (y.rd st) st
theorem V49 : kIx2 (.exc k w st) d = .exc k w st := rfl
theorem V50 : kIx2 (.ok d1 st) d = kIxR (d.rd st) (d1.rd st) st := rfl
def kIx1 (r : R D)  (c : Cf) (b : IE) (env : Env) : R D := r.bind fun x st => kIx2 (ev c b env st) x
theorem V51 : kIx1 (.exc k w st) c b env = .exc k w st := rfl
theorem V52 : kIx1 (.ok d st) c b env = kIx2 (ev c b env st) d := rfl
theorem V53 : ev c (.idx a b) env st = kIx1 (ev c a env st) c b env := by rw [ev]; rfl
def kNegR (a : Option P) (st : Store) : R D := match a with
  | some (.int i) => .ok (.p (.int (-i))) st
  | some (.bl b) => .ok (.p (.int (-b2i b))) st
  | _ => .bad
theorem V54 (i : Int): kNegR (some (.int i)) st = .ok (.p (.int (-i))) st := rfl
theorem V55 : kNegR (some (.bl bb)) st = .ok (.p (.int (-b2i bb))) st := rfl
def kNeg (r : R D)  : R D := r.bind fun x st => kNegR (x.rd st) st
theorem V56 : kNeg (.exc k w st)  = .exc k w st := rfl
theorem V57 : kNeg (.ok d st) = kNegR (d.rd st) st := rfl
theorem V58 : ev c (.neg a) env st = kNeg (ev c a env st) := by rw [ev]; rfl
def kNoR (r : R Bool)  : R D := r.bind fun b st => .ok (.p (.bl (!b))) st
theorem V59 : kNoR (.exc k w st)  = .exc k w st := rfl
theorem V60 : kNoR (.ok bb st) = .ok (.p (.bl (!bb))) st := rfl
def kNo (r : R D)  : R D := r.bind fun d st => kNoR (rdB d st)
theorem V61 : kNo (.exc k w st)  = .exc k w st := rfl
theorem V62 : kNo (.ok d st) = kNoR (rdB d st) := rfl
theorem V63 : ev c (.no a) env st = kNo (ev c a env st) := by rw [ev]; rfl
def kAnd (r : R D) (c : Cf) (es : IL) (env : Env) : R D := r.bind fun x st => match x with
  | .p (.bl true) => evAnd c es env st
  | .p (.bl false) => .ok (.p (.bl false)) st
  | _ => .bad
theorem V64 : kAnd (.exc k w st) c es env = .exc k w st := rfl
theorem V65 : kAnd (.ok (.p (.bl true)) st) c es env = evAnd c es env st := rfl
theorem V66 : kAnd (.ok (.p (.bl false)) st) c es env = .ok (.p (.bl false)) st := rfl
theorem V67 : ev c (.and es) env st = evAnd c es env st := by rw [ev]
theorem V68 : evAnd c (.cons e .nil) env st = ev c e env st := by rw [evAnd]
theorem V69 : evAnd c (.cons e (.cons a es)) env st = kAnd (ev c e env st) c (.cons a es) env := by rw [evAnd]; rfl; exact fun h => nomatch h
def kOr (r : R D) (c : Cf) (es : IL) (env : Env) : R D := r.bind fun x st => match x with
  | .p (.bl false) => evOr c es env st
  | .p (.bl true) => .ok (.p (.bl true)) st
  | _ => .bad
theorem V70 : kOr (.exc k w st) c es env = .exc k w st := rfl
theorem V71 : kOr (.ok (.p (.bl false)) st) c es env = evOr c es env st := rfl
theorem V72 : kOr (.ok (.p (.bl true)) st) c es env = .ok (.p (.bl true)) st := rfl
theorem V73 : ev c (.or es) env st = evOr c es env st := by rw [ev]
theorem V74 : evOr c (.cons e .nil) env st = ev c e env st := by rw [evOr]
theorem V75 : evOr c (.cons e (.cons a es)) env st = kOr (ev c e env st) c (.cons a es) env := by rw [evOr]; rfl; exact fun h => nomatch h
def kCh6 (w : Option P) (o2 : CmpOp) (y : P) (st : Store) : R D := match w with
  | some z => mkB (opCmp o2 y z) st
  | none => .bad
theorem V76 : kCh6 (some z) cop2 y st = mkB (opCmp cop2 y z) st := rfl
def kCh5 (r : R D)  (o2 : CmpOp) (y : P) : R D := r.bind fun z st => kCh6 (z.rd st) o2 y st
theorem V77 : kCh5 (.exc k w st) cop2 y = .exc k w st := rfl
theorem V78 : kCh5 (.ok d st) cop2 y = kCh6 (d.rd st) cop2 y st := rfl
def kCh4 (f : Bool) (y : P) (st : Store) (c : Cf) (o2 : CmpOp) (d : IE) (env : Env) : R D := if f then kCh5 (ev c d env st) o2 y else .bad
theorem V79 : kCh4 true y st c cop2 e env = kCh5 (ev c e env st) cop2 y := rfl
def kCh3 (b : Option Bool) (y : P) (st : Store) (c : Cf) (o2 : CmpOp) (d : IE) (env : Env) : R D := match b with
  | some true => kCh4 y.flat y st c o2 d env
  | some false => .ok (.p (.bl false)) st
  | none => .bad
theorem V80 : kCh3 (some true) y st c cop2 e env = kCh4 y.flat y st c cop2 e env := rfl
theorem V81 : kCh3 (some false) y st c cop2 e env = .ok (.p (.bl false)) st := rfl
def kChR (a b : Option P) (o1 o2 : CmpOp) (st : Store) (c : Cf) (d : IE) (env : Env) : R D := match a, b with
  | some x, some y => kCh3 (opCmp o1 x y) y st c o2 d env
  | _, _ => .bad
theorem V82 : kChR (some x) (some y) cop cop2 st c e env = kCh3 (opCmp cop x y) y st c cop2 e env := rfl
def kCh2 (r : R D)  (c : Cf) (o1 o2 : CmpOp) (x : D) (d : IE) (env : Env) : R D := r.bind fun y st => kChR (x.rd st) (y.rd st) o1 o2 st c d env
theorem V83 : kCh2 (.exc k w st) c cop cop2 d e env = .exc k w st := rfl
theorem V84 : kCh2 (.ok d1 st) c cop cop2 d e env = kChR (d.rd st) (d1.rd st) cop cop2 st c e env := rfl
def kCh1 (r : R D)  (c : Cf) (o1 o2 : CmpOp) (b d : IE) (env : Env) : R D := r.bind fun x st => kCh2 (ev c b env st) c o1 o2 x d env
theorem V85 : kCh1 (.exc k w st) c cop cop2 b e env = .exc k w st := rfl
theorem V86 : kCh1 (.ok d st) c cop cop2 b e env = kCh2 (ev c b env st) c cop cop2 d e env := rfl
theorem V87 : ev c (.chain cop cop2 a b e) env st = kCh1 (ev c a env st) c cop cop2 b e env := by rw [ev]; rfl
theorem V88 : P.flat .non = true := rfl
theorem V89 : P.flat (.bl bb) = true := rfl
theorem V90 (i : Int): P.flat (.int i) = true := rfl
theorem V91 : P.flat (.str zs) = true := rfl
theorem V92 : P.flat (.lst xs) = false := rfl
theorem V93 : P.flat (.tup xs) = false := rfl
def kIf2 (r : R Bool)  (c : Cf) (a b : IE) (env : Env) : R D := r.bind fun k st => if k then ev c a env st else ev c b env st
theorem V94 : kIf2 (.exc k w st) c a b env = .exc k w st := rfl
theorem V95 : kIf2 (.ok true st) c a b env = ev c a env st := rfl
theorem V96 : kIf2 (.ok false st) c a b env = ev c b env st := rfl
def kIf1 (r : R D)  (c : Cf) (a b : IE) (env : Env) : R D := r.bind fun k st => kIf2 (rdB k st) c a b env
theorem V97 : kIf1 (.exc k w st) c a b env = .exc k w st := rfl
theorem V98 : kIf1 (.ok d st) c a b env = kIf2 (rdB d st) c a b env := rfl
theorem V99 : ev c (.ife t a b) env st = kIf1 (ev c t env st) c a b env := by rw [ev]; rfl
def kTup3 (s : Bool) (xs : List P) (st : Store) : R D := if s then .ok (.p (.tup xs)) st else .bad
theorem V100 : kTup3 true xs st = .ok (.p (.tup xs)) st := rfl
def kTup2 (o : Option (List P)) (st : Store) : R D := match o with
  | some xs => kTup3 (small xs.length) xs st
  | none => .bad
theorem V101 : kTup2 (some xs) st = kTup3 (small xs.length) xs st := rfl
def kTup (r : R (List D))  : R D := r.bind fun ds st => kTup2 (keeps ds) st
theorem V102 : kTup (.exc k w st)  = .exc k w st := rfl
theorem V103 : kTup (.ok ds st) = kTup2 (keeps ds) st := rfl
theorem V104 : ev c (.tup es) env st = kTup (evL c es env st) := by rw [ev]; rfl
def kLst3 (s : Bool) (xs : List P) (st : Store) : R D := if s then .ok (.new xs) st else .bad
theorem V105 : kLst3 true xs st = .ok (.new xs) st := rfl
def kLst2 (o : Option (List P)) (st : Store) : R D := match o with
  | some xs => kLst3 (small xs.length) xs st
  | none => .bad
theorem V106 : kLst2 (some xs) st = kLst3 (small xs.length) xs st := rfl
def kLst (r : R (List D))  : R D := r.bind fun ds st => kLst2 (keeps ds) st
theorem V107 : kLst (.exc k w st)  = .exc k w st := rfl
theorem V108 : kLst (.ok ds st) = kLst2 (keeps ds) st := rfl
theorem V109 : ev c (.lst es) env st = kLst (evL c es env st) := by rw [ev]; rfl
def kCons (a : Option P) (b : Option (List P)) : Option (List P) := match a, b with
  | some x, some xs => some (x :: xs)
  | _, _ => none
def kConsD (a : Option D) (b : Option (List D)) : Option (List D) := match a, b with
  | some x, some xs => some (x :: xs)
  | _, _ => none
theorem V110 : kCons (some x) (some xs) = some (x :: xs) := rfl
theorem V111 : kConsD (some d) (some ds) = some (d :: ds) := rfl
theorem V112 : keeps [] = some [] := rfl
theorem V113 : keeps (d :: ds) = kCons d.keep (keeps ds) := rfl
theorem V114 : rds st [] = some [] := rfl
theorem V115 : rds st (d :: ds) = kCons (d.rd st) (rds st ds) := rfl
theorem V116 : argsD [] = some [] := rfl
theorem V117 : argsD (d :: ds) = kConsD d.arg (argsD ds) := rfl
def kL2 (r : R (List D))  (d : D) : R (List D) := r.bind fun ds st => .ok (d :: ds) st
theorem V118 : kL2 (.exc k w st) d = .exc k w st := rfl
theorem V119 : kL2 (.ok ds st) d = .ok (d :: ds) st := rfl
def kL1 (r : R D)  (c : Cf) (es : IL) (env : Env) : R (List D) := r.bind fun d st => kL2 (evL c es env st) d
theorem V120 : kL1 (.exc k w st) c es env = .exc k w st := rfl
theorem V121 : kL1 (.ok d st) c es env = kL2 (evL c es env st) d := rfl
theorem V122 : evL c .nil env st = .ok [] st := by rw [evL]
theorem V123 : evL c (.cons e es) env st = kL1 (ev c e env st) c es env := by rw [evL]; rfl
def kCall2 (o : Option (List D)) (c : Cf) (f : Nat) (st : Store) : R D := match o with
  | some as => c.call f as st
  | none => .bad
theorem V124 : kCall2 (some as) c f st = c.call f as st := rfl
def kCall (r : R (List D))  (c : Cf) (f : Nat) : R D := r.bind fun ds st => kCall2 (argsD ds) c f st
theorem V125 : kCall (.exc k w st) c f = .exc k w st := rfl
theorem V126 : kCall (.ok ds st) c f = kCall2 (argsD ds) c f st := rfl
theorem V127 : ev c (.call f es) env st = kCall (evL c es env st) c f := by rw [ev]; rfl
def kCv (s : Option Sl) (fs : List Nat) (c : Cf) (es : IL) (env : Env) (st : Store) : R D := match s with
  | some (.val (.p (.fn f))) => if fs.contains f then kCall (evL c es env st) c f else .bad
  | _ => .bad
theorem V128 : ev c (.callV i fs es) env st = kCv env[i]? fs c es env st := by rw [ev]; rfl
theorem V129 : kCv (some (.val (.p (.fn f)))) fs c es env st = if fs.contains f then kCall (evL c es env st) c f else .bad := rfl
def kBi3 (o : Option (List P)) (f : Bf) (st : Store) : R D := match o with
  | some xs => mkD (opBi f xs) st
  | none => .bad
theorem V130 : kBi3 (some xs) bf st = mkD (opBi bf xs) st := rfl
def kBi2 (r : R (List D))  (f : Bf) (d : D) : R D := r.bind fun ds st => kBi3 (rds st (d :: ds)) f st
theorem V131 : kBi2 (.exc k w st) bf d = .exc k w st := rfl
theorem V132 : kBi2 (.ok ds st) bf d = kBi3 (rds st (d :: ds)) bf st := rfl
def kBi1 (r : R D)  (c : Cf) (f : Bf) (es : IL) (env : Env) : R D := r.bind fun d st => kBi2 (evL c es env st) f d
theorem V133 : kBi1 (.exc k w st) c bf es env = .exc k w st := rfl
theorem V134 : kBi1 (.ok d st) c bf es env = kBi2 (evL c es env st) bf d := rfl
theorem V135 : ev c (.bi bf a es) env st = kBi1 (ev c a env st) c bf es env := by rw [ev]; rfl
def kMe3 (o : Option P) (m : Me) (z : Str) (st : Store) : R D := match o with
  | some y => mkD (opMe m (.str z) y) st
  | none => .bad
theorem V136 : kMe3 (some y) me zs st = mkD (opMe me (.str zs) y) st := rfl
def kMe2 (r : R D)  (m : Me) (z : Str) : R D := r.bind fun y st => kMe3 (y.rd st) m z st
theorem V137 : kMe2 (.exc k w st) me zs = .exc k w st := rfl
theorem V138 : kMe2 (.ok d st) me zs = kMe3 (d.rd st) me zs st := rfl
def kMe1 (r : R D) (c : Cf) (m : Me) (a : IE) (env : Env) : R D := r.bind fun x st => match x with
  | .p (.str z) => kMe2 (ev c a env st) m z
  | _ => .bad
theorem V139 : kMe1 (.ok (.p (.str zs)) st) c me a env = kMe2 (ev c a env st) me zs := rfl
theorem V140 : kMe1 (.exc k w st) c me a env = .exc k w st := rfl
theorem V141 : ev c (.meth me e a) env st = kMe1 (ev c e env st) c me a env := by rw [ev]; rfl
def kSl4 (o : Option P) (l h : Option Int) (st : Store) : R D := match o with
  | some x => mkD (opSlc x l h) st
  | none => .bad
theorem V142 : kSl4 (some x) l h st = mkD (opSlc x l h) st := rfl
def kSl3 (r : R (Option Int))  (x : D) (l : Option Int) : R D := r.bind fun h st => kSl4 (x.rd st) l h st
theorem V143 : kSl3 (.exc k w st) d l = .exc k w st := rfl
theorem V144 : kSl3 (.ok h st) d l = kSl4 (d.rd st) l h st := rfl
def kSl2 (r : R (Option Int))  (c : Cf) (x : D) (hi : IO) (env : Env) : R D := r.bind fun l st => kSl3 (evO c hi env st) x l
theorem V145 : kSl2 (.exc k w st) c d hi env = .exc k w st := rfl
theorem V146 : kSl2 (.ok l st) c d hi env = kSl3 (evO c hi env st) d l := rfl
def kSl1 (r : R D)  (c : Cf) (lo hi : IO) (env : Env) : R D := r.bind fun x st => kSl2 (evO c lo env st) c x hi env
theorem V147 : kSl1 (.exc k w st) c lo hi env = .exc k w st := rfl
theorem V148 : kSl1 (.ok d st) c lo hi env = kSl2 (evO c lo env st) c d hi env := rfl
theorem V149 : ev c (.slc a lo hi) env st = kSl1 (ev c a env st) c lo hi env := by rw [ev]; rfl
def kO (r : R D) : R (Option Int) := r.bind fun x st => match x with
  | .p (.int i) => .ok (some i) st
  | _ => .bad
theorem V150 (i : Int): kO (.ok (.p (.int i)) st) = .ok (some i) st := rfl
theorem V151 : kO (.exc k w st) = .exc k w st := rfl
theorem V152 : evO c .non env st = .ok none st := by rw [evO]
theorem V153 : evO c (.som e) env st = kO (ev c e env st) := by rw [evO]; rfl
def kRev2 (o : Option P) (st : Store) : R D := match o with
  | some x => mkD (opRev x) st
  | none => .bad
theorem V154 : kRev2 (some x) st = mkD (opRev x) st := rfl
def kRev (r : R D)  : R D := r.bind fun x st => kRev2 (x.rd st) st
theorem V155 : kRev (.exc k w st)  = .exc k w st := rfl
theorem V156 : kRev (.ok d st) = kRev2 (d.rd st) st := rfl
theorem V157 : ev c (.rev a) env st = kRev (ev c a env st) := by rw [ev]; rfl
def compC (c : Cf) (elt : IE) (cond : IO) (tg : Tg) (env : Env) (xs : List P) (st : Store) : R (List P) := compGo (fun env st => ev c elt env st) (fun env st => evC c cond env st) tg env xs [] st
def kCo2 (r : R (List P))  : R D := r.bind fun ys st => .ok (.new ys) st
theorem V158 : kCo2 (.exc k w st)  = .exc k w st := rfl
theorem V159 : kCo2 (.ok xs st) = .ok (.new xs) st := rfl
def kCo (r : R (List P))  (c : Cf) (elt : IE) (tg : Tg) (cond : IO) (env : Env) : R D := r.bind fun xs st => kCo2 (compC c elt cond tg (wip env tg.slots) xs st)
theorem V160 : kCo (.exc k w st) c e tg cond env = .exc k w st := rfl
theorem V161 : kCo (.ok xs st) c e tg cond env = kCo2 (compC c e cond tg (wip env tg.slots) xs st) := rfl
theorem V162 : ev c (.comp e tg it cond) env st = kCo (evI c false it env st) c e tg cond env := by rw [ev]; rfl
theorem V163 : Tg.slots (.one i) = [i] := rfl
theorem V164 (t1 t2 : Tg): Tg.slots (.two t1 t2) = t1.slots ++ t2.slots := rfl
theorem V165 : DE.wip env [] = env := rfl
theorem V166 : DE.wip env (i :: is) = (DE.wip env is).set i .un := rfl
def kIsi2 (o : Option P) (t : String) (st : Store) : R D := match o with
  | some x => mkB (isT x t) st
  | none => .bad
theorem V167 : kIsi2 (some x) ty st = mkB (isT x ty) st := rfl
def kIsi (r : R D)  (t : String) : R D := r.bind fun x st => kIsi2 (x.rd st) t st
theorem V168 : kIsi (.exc k w st) ty = .exc k w st := rfl
theorem V169 : kIsi (.ok d st) ty = kIsi2 (d.rd st) ty st := rfl
theorem V170 : ev c (.isi a ty) env st = kIsi (ev c a env st) ty := by rw [ev]; rfl
theorem V171 : isT .non "int" = some false := by show kitB "NoneType" "int" = _; decide +kernel
theorem V172 : isT .non "bool" = some false := by show kitB "NoneType" "bool" = _; decide +kernel
theorem V173 : isT .non "str" = some false := by show kitB "NoneType" "str" = _; decide +kernel
theorem V174 : isT .non "tuple" = some false := by show kitB "NoneType" "tuple" = _; decide +kernel
theorem V175 : isT .non "list" = some false := by show kitB "NoneType" "list" = _; decide +kernel
theorem V176 : isT (.bl bb) "int" = some true := by show kitB "bool" "int" = _; decide +kernel
theorem V177 : isT (.bl bb) "bool" = some true := by show kitB "bool" "bool" = _; decide +kernel
theorem V178 : isT (.bl bb) "str" = some false := by show kitB "bool" "str" = _; decide +kernel
theorem V179 : isT (.bl bb) "tuple" = some false := by show kitB "bool" "tuple" = _; decide +kernel
theorem V180 : isT (.bl bb) "list" = some false := by show kitB "bool" "list" = _; decide +kernel
theorem V181 (i : Int): isT (.int i) "int" = some true := by show kitB "int" "int" = _; decide +kernel
theorem V182 (i : Int): isT (.int i) "bool" = some false := by show kitB "int" "bool" = _; decide +kernel
theorem V183 (i : Int): isT (.int i) "str" = some false := by show kitB "int" "str" = _; decide +kernel
theorem V184 (i : Int): isT (.int i) "tuple" = some false := by show kitB "int" "tuple" = _; decide +kernel
theorem V185 (i : Int): isT (.int i) "list" = some false := by show kitB "int" "list" = _; decide +kernel
theorem V186 : isT (.str zs) "int" = some false := by show kitB "str" "int" = _; decide +kernel
theorem V187 : isT (.str zs) "bool" = some false := by show kitB "str" "bool" = _; decide +kernel
theorem V188 : isT (.str zs) "str" = some true := by show kitB "str" "str" = _; decide +kernel
theorem V189 : isT (.str zs) "tuple" = some false := by show kitB "str" "tuple" = _; decide +kernel
theorem V190 : isT (.str zs) "list" = some false := by show kitB "str" "list" = _; decide +kernel
theorem V191 : isT (.lst xs) "int" = some false := by show kitB "list" "int" = _; decide +kernel
theorem V192 : isT (.lst xs) "bool" = some false := by show kitB "list" "bool" = _; decide +kernel
theorem V193 : isT (.lst xs) "str" = some false := by show kitB "list" "str" = _; decide +kernel
theorem V194 : isT (.lst xs) "tuple" = some false := by show kitB "list" "tuple" = _; decide +kernel
theorem V195 : isT (.lst xs) "list" = some true := by show kitB "list" "list" = _; decide +kernel
theorem V196 : isT (.tup xs) "int" = some false := by show kitB "tuple" "int" = _; decide +kernel
theorem V197 : isT (.tup xs) "bool" = some false := by show kitB "tuple" "bool" = _; decide +kernel
theorem V198 : isT (.tup xs) "str" = some false := by show kitB "tuple" "str" = _; decide +kernel
theorem V199 : isT (.tup xs) "tuple" = some true := by show kitB "tuple" "tuple" = _; decide +kernel
theorem V200 : isT (.tup xs) "list" = some false := by show kitB "tuple" "list" = _; decide +kernel
def kDg2 (r : R D) (gt : Bool) (ks : List Str) (xs : List P) : R D := r.bind fun x st => match x with
  | .p (.str z) => dGet gt (ks.zip xs) z st
  | _ => .bad
theorem V201 : kDg2 (.ok (.p (.str zs)) st) bb ks xs = dGet bb (ks.zip xs) zs st := rfl
theorem V202 : kDg2 (.exc k w st) bb ks xs = .exc k w st := rfl
def kDg1 (r : R (List D)) (c : Cf) (gt : Bool) (ks : List Str) (a : IE) (env : Env) : R D := r.bind fun ds st => match keeps ds with
    | some xs => kDg2 (ev c a env st) gt ks xs
    | none => .bad
def kDg0 (o : Option (List P)) (c : Cf) (gt : Bool) (ks : List Str) (a : IE) (env : Env) (st : Store) : R D := match o with
    | some xs => kDg2 (ev c a env st) gt ks xs
    | none => .bad
theorem V203 : kDg1 (.ok ds st) c bb ks a env = kDg0 (keeps ds) c bb ks a env st := rfl
theorem V204 : kDg0 (some xs) c bb ks a env st = kDg2 (ev c a env st) bb ks xs := rfl
theorem V205 : ev c (.dget bb ks es a) env st = kDg1 (evL c es env st) c bb ks a env := by rw [ev]; rfl
def kWd2 (o : Option Str) (st : Store) : R D := match o with
  | some z => .ok (.p (.str z)) st
  | none => .bad
def kWd (r : R D) (c : Cf) (f : Nat) (get : Bool) : R D := match r with
    | .ok d st => if get then .ok d st else .ok (.p (.str "")) st
    | .exc k none st => kWd2 (c.wd f k) st
    | .exc _ (some _) _ => .bad
    | .bad => .bad
theorem V206 : kWd2 (some zs) st = .ok (.p (.str zs)) st := rfl
theorem V207 : kWd (.ok d st) c f true = .ok d st := rfl
theorem V208 : kWd (.ok d st) c f false = .ok (.p (.str "")) st := rfl
theorem V209 : kWd (.exc k none st) c f bb = kWd2 (c.wd f k) st := rfl
theorem V210 : ev c (.word f bb e) env st = kWd (ev c e env st) c f bb := by rw [ev]; rfl
def kC (r : R D)  : R Bool := r.bind fun d st => rdB d st
theorem V211 : kC (.exc k w st)  = .exc k w st := rfl
theorem V212 : kC (.ok d st) = rdB d st := rfl
theorem V213 : evC c .non env st = .ok true st := by rw [evC]
theorem V214 : evC c (.som e) env st = kC (ev c e env st) := by rw [evC]; rfl
theorem V215 : evT c e env st = kC (ev c e env st) := rfl
def kSeq2 (o : Option P) (st : Store) : R (List P) := match o with
  | some x => R.opt (itSeq x) st
  | none => .bad
theorem V216 : kSeq2 (some x) st = R.opt (itSeq x) st := rfl
def kSeq (r : R D)  (b : Bool) : R (List P) := r.bind fun x st => kSeq2 (x.rdI b) st
theorem V217 : kSeq (.exc k w st) bb = .exc k w st := rfl
theorem V218 : kSeq (.ok d st) bb = kSeq2 (d.rdI bb) st := rfl
theorem V219 : evI c bb (.seq e) env st = kSeq (ev c e env st) bb := by rw [evI]; rfl
def kR1 (r : R D)  (d : D) : R (List P) := r.bind fun x st => itRng d x st
theorem V220 : kR1 (.exc k w st) d = .exc k w st := rfl
theorem V221 : kR1 (.ok d1 st) d = itRng d d1 st := rfl
theorem V222 : evI c bb (.rng1 e) env st = kR1 (ev c e env st) (.p (.int 0)) := by rw [evI]; rfl
def kR2 (r : R D)  (c : Cf) (b : IE) (env : Env) : R (List P) := r.bind fun x st => kR1 (ev c b env st) x
theorem V223 : kR2 (.exc k w st) c b env = .exc k w st := rfl
theorem V224 : kR2 (.ok d st) c b env = kR1 (ev c b env st) d := rfl
theorem V225 : evI c bb (.rng2 a b) env st = kR2 (ev c a env st) c b env := by rw [evI]; rfl
def kRg (o : Bool) (i j : Int) (st : Store) : R (List P) := if o then .ok (rngP i j) st else .bad
theorem V226 (i j : Int): itRng (.p (.int i)) (.p (.int j)) st = kRg (rngOk i j) i j st := rfl
theorem V227 (i j : Int): kRg true i j st = .ok (rngP i j) st := rfl
def kZ3 (a b : Option P) (st : Store) : R (List P) := match a, b with
  | some x, some y => R.opt (itZip x y) st
  | _, _ => .bad
theorem V228 : kZ3 (some x) (some y) st = R.opt (itZip x y) st := rfl
def kZ2 (r : R D)  (bb : Bool) (x : D) : R (List P) := r.bind fun y st => kZ3 (x.rdI bb) (y.rdI bb) st
theorem V229 : kZ2 (.exc k w st) bb d = .exc k w st := rfl
theorem V230 : kZ2 (.ok d1 st) bb d = kZ3 (d.rdI bb) (d1.rdI bb) st := rfl
def kZ1 (r : R D)  (c : Cf) (bb : Bool) (b : IE) (env : Env) : R (List P) := r.bind fun x st => kZ2 (ev c b env st) bb x
theorem V231 : kZ1 (.exc k w st) c bb b env = .exc k w st := rfl
theorem V232 : kZ1 (.ok d st) c bb b env = kZ2 (ev c b env st) bb d := rfl
theorem V233 : evI c bb (.zip a b) env st = kZ1 (ev c a env st) c bb b env := by rw [evI]; rfl
def kEn2 (o : Option P) (st : Store) : R (List P) := match o with
  | some x => R.opt (itEnum x) st
  | none => .bad
theorem V234 : kEn2 (some x) st = R.opt (itEnum x) st := rfl
def kEn (r : R D)  (b : Bool) : R (List P) := r.bind fun x st => kEn2 (x.rdI b) st
theorem V235 : kEn (.exc k w st) bb = .exc k w st := rfl
theorem V236 : kEn (.ok d st) bb = kEn2 (d.rdI bb) st := rfl
theorem V237 : evI c bb (.enum e) env st = kEn (ev c e env st) bb := by rw [evI]; rfl
def kAsg3 (o : Option Env) (st : Store) : R Fl := match o with
  | some env => .ok (.nx env) st
  | none => .bad
def kAsg2 (o : Option D) (t : Tg) (env : Env) (st : Store) : R Fl := match o with
  | some d => kAsg3 (asgT t d env) st
  | none => .bad
theorem V238 : kAsg3 (some env) st = .ok (.nx env) st := rfl
theorem V239 : kAsg2 (some d) tg env st = kAsg3 (asgT tg d env) st := rfl
def kAsg (r : R D)  (t : Tg) (env : Env) : R Fl := r.bind fun d st => kAsg2 d.arg t env st
theorem V240 : kAsg (.exc k w st) tg env = .exc k w st := rfl
theorem V241 : kAsg (.ok d st) tg env = kAsg2 d.arg tg env st := rfl
theorem V242 : exec c (.asg tg e) env st = kAsg (ev c e env st) tg env := by rw [exec]; rfl
theorem V243 : asgT (.one i) (.p x) env = some (env.set i (.val (.p x))) := rfl
theorem V244 : asgT (.one i) (.box n) env = some (env.set i (.val (.box n))) := rfl
def kTwo (o : Option Env) (b : Tg) (y : P) : Option Env := match o with | some env1 => asgT b (.p y) env1 | none => none
theorem V245 (t1 t2 : Tg): asgT (.two t1 t2) (.p (.tup [x, y])) env = kTwo (asgT t1 (.p x) env) t2 y := rfl
theorem V246 : kTwo (some env) tg y = asgT tg (.p y) env := rfl
def kAsO2 (o : Option SO) (i : Nat) (env : Env) (st : Store) : R Fl := match o with
  | some o => .ok (.nx (setO env i o)) st
  | none => .bad
theorem V247 : kAsO2 (some o) i env st = .ok (.nx (env.set i (.own o))) st := rfl
def kAsO (r : R D)  (i : Nat) (env : Env) : R Fl := r.bind fun d st => kAsO2 (ownOf d) i env st
theorem V248 : kAsO (.exc k w st) i env = .exc k w st := rfl
theorem V249 : kAsO (.ok d st) i env = kAsO2 (ownOf d) i env st := rfl
theorem V250 : exec c (.asgO i e) env st = kAsO (ev c e env st) i env := by rw [exec]; rfl
theorem V251 : ownOf (.new xs) = some (.lst xs) := rfl
def kPar (r : R (List D))  (is : List Nat) (os : List Bool) (env : Env) : R Fl := r.bind fun ds st => kAsg3 (parD env is os ds) st
theorem V252 : kPar (.exc k w st) is os env = .exc k w st := rfl
theorem V253 : kPar (.ok ds st) is os env = kAsg3 (parD env is os ds) st := rfl
theorem V254 : exec c (.par is os es) env st = kPar (evL c es env st) is os env := by rw [exec]; rfl
def kPd (o : Option SO) (env : Env) (i : Nat) (is : List Nat) (os : List Bool) (ds : List D) : Option Env := match o with
  | some so => parD (setO env i so) is os ds
  | none => none
def kPv (o : Option D) (env : Env) (i : Nat) (is : List Nat) (os : List Bool) (ds : List D) : Option Env := match o with
  | some d => parD (setS env i d) is os ds
  | none => none
theorem V255 : parD env [] [] [] = some env := rfl
theorem V256 : parD env (i :: is) (true :: os) (d :: ds) = kPd (ownOf d) env i is os ds := by rw [parD]; rfl
theorem V257 : parD env (i :: is) (false :: os) (d :: ds) = kPv d.arg env i is os ds := by rw [parD]; rfl
theorem V258 : kPd (some o) env i is os ds = parD (env.set i (.own o)) is os ds := rfl
theorem V259 : kPv (some d) env i is os ds = parD (env.set i (.val d)) is os ds := rfl
def kSt4 (o : Option SO) (i : Nat) (env : Env) (st : Store) : R Fl := match o with
  | some so => .ok (.nx (setO env i so)) st
  | none => .bad
def kSt3 (a b : Option P) (so : SO) (i : Nat) (env : Env) (st : Store) : R Fl := match a, b with
  | some k, some y => kSt4 (so.put k y) i env st
  | _, _ => .bad
def kSb4 (o : Option SO) (n : Nat) (env : Env) (st : Store) : R Fl := match o with
  | some so => .ok (.nx env) (st.set n so)
  | none => .bad
def kSb3 (a b : Option P) (o : Option SO) (n : Nat) (env : Env) (st : Store) : R Fl := match a, b, o with
  | some k, some y, some so => kSb4 (so.put k y) n env st
  | _, _, _ => .bad
theorem V260 : kSt4 (some o) i env st = .ok (.nx (env.set i (.own o))) st := rfl
theorem V261 : kSt3 (some x) (some y) o i env st = kSt4 (o.put x y) i env st := rfl
theorem V262 : kSb4 (some o) n env st = .ok (.nx env) (st.set n o) := rfl
theorem V263 : kSb3 (some x) (some y) (some o) n env st = kSb4 (o.put x y) n env st := rfl
def kSt2 (r : R D)  (y : D) (so : SO) (i : Nat) (env : Env) : R Fl := r.bind fun k st => kSt3 (k.rd st) y.keep so i env st
theorem V264 : kSt2 (.exc k w st) d o i env = .exc k w st := rfl
theorem V265 : kSt2 (.ok d1 st) d o i env = kSt3 (d1.rd st) d.keep o i env st := rfl
def kSt1 (r : R D)  (c : Cf) (k : IE) (so : SO) (i : Nat) (env : Env) : R Fl := r.bind fun y st => kSt2 (ev c k env st) y so i env
theorem V266 : kSt1 (.exc k w st) c a o i env = .exc k w st := rfl
theorem V267 : kSt1 (.ok d st) c a o i env = kSt2 (ev c a env st) d o i env := rfl
def kSb2 (r : R D)  (y : D) (n : Nat) (env : Env) : R Fl := r.bind fun k st => kSb3 (k.rd st) y.keep st[n]? n env st
theorem V268 : kSb2 (.exc k w st) d n env = .exc k w st := rfl
theorem V269 : kSb2 (.ok d1 st) d n env = kSb3 (d1.rd st) d.keep st[n]? n env st := rfl
def kSb1 (r : R D)  (c : Cf) (k : IE) (n : Nat) (env : Env) : R Fl := r.bind fun y st => kSb2 (ev c k env st) y n env
theorem V270 : kSb1 (.exc k w st) c a n env = .exc k w st := rfl
theorem V271 : kSb1 (.ok d st) c a n env = kSb2 (ev c a env st) d n env := rfl
def kSeti (s : Option Sl) (c : Cf) (i : Nat) (k e : IE) (env : Env) (st : Store) : R Fl := match s with
  | some (.own so) => kSt1 (ev c e env st) c k so i env
  | some (.val (.box n)) => kSb1 (ev c e env st) c k n env
  | _ => .bad
theorem V272 : exec c (.seti (.v i) a e) env st = kSeti env[i]? c i a e env st := by rw [exec]; rfl
theorem V273 : kSeti (some (.own o)) c i a e env st = kSt1 (ev c e env st) c a o i env := rfl
theorem V274 : kSeti (some (.val (.box n))) c i a e env st = kSb1 (ev c e env st) c a n env := rfl
def kExp (r : R D)  (env : Env) : R Fl := r.bind fun _ st => .ok (.nx env) st
theorem V275 : kExp (.exc k w st) env = .exc k w st := rfl
theorem V276 : kExp (.ok d st) env = .ok (.nx env) st := rfl
theorem V277 : exec c (.exp e) env st = kExp (ev c e env st) env := by rw [exec]; rfl
def kAp3 (o : Option SO) (i : Nat) (env : Env) (st : Store) : R Fl := match o with
  | some so => .ok (.nx (setO env i so)) st
  | none => .bad
def kAp2 (o : Option P) (so : SO) (i : Nat) (env : Env) (st : Store) : R Fl := match o with
  | some y => kAp3 (so.push y) i env st
  | none => .bad
theorem V278 : kAp3 (some o) i env st = .ok (.nx (env.set i (.own o))) st := rfl
theorem V279 : kAp2 (some x) o i env st = kAp3 (o.push x) i env st := rfl
def kAp1 (r : R D)  (so : SO) (i : Nat) (env : Env) : R Fl := r.bind fun y st => kAp2 y.keep so i env st
theorem V280 : kAp1 (.exc k w st) o i env = .exc k w st := rfl
theorem V281 : kAp1 (.ok d st) o i env = kAp2 d.keep o i env st := rfl
def kApp (s : Option Sl) (c : Cf) (i : Nat) (e : IE) (env : Env) (st : Store) : R Fl := match s with
  | some (.own so) => kAp1 (ev c e env st) so i env
  | _ => .bad
theorem V282 : exec c (.app i e) env st = kApp env[i]? c i e env st := by rw [exec]; rfl
theorem V283 : kApp (some (.own o)) c i e env st = kAp1 (ev c e env st) o i env := rfl
def kEx1 (r : R D) (so : SO) (i : Nat) (env : Env) : R Fl := r.bind fun y st => match y with
  | .new ys => match so.extend (.lst ys) with
    | some so => .ok (.nx (setO env i so)) st
    | none => .bad
  | _ => .bad
theorem V284 : kEx1 (.ok (.new xs) st) o i env = kAp3 (o.extend (.lst xs)) i env st := rfl
theorem V285 : kEx1 (.exc k w st) o i env = .exc k w st := rfl
def kExt (s : Option Sl) (c : Cf) (i : Nat) (e : IE) (env : Env) (st : Store) : R Fl := match s with
  | some (.own so) => kEx1 (ev c e env st) so i env
  | _ => .bad
theorem V286 : exec c (.ext i e) env st = kExt env[i]? c i e env st := by rw [exec]; rfl
theorem V287 : kExt (some (.own o)) c i e env st = kEx1 (ev c e env st) o i env := rfl
def kRet2 (o : Option D) (st : Store) : R Fl := match o with
  | some d => .ok (.rt d) st
  | none => .bad
theorem V288 : kRet2 (some d) st = .ok (.rt d) st := rfl
def kRet (r : R D)  : R Fl := r.bind fun d st => kRet2 d.arg st
theorem V289 : kRet (.exc k w st)  = .exc k w st := rfl
theorem V290 : kRet (.ok d st) = kRet2 d.arg st := rfl
theorem V291 : exec c (.ret e) env st = kRet (ev c e env st) := by rw [exec]; rfl
theorem V292 : exec c .retN env st = .ok (.rt (.p .non)) st := by rw [exec]
def kRetB (r : R D) : R Fl := r.bind fun d st => match d with
  | .new xs => .ok (.rt (.box st.length)) (st ++ [.lst xs])
  | _ => .bad
theorem V293 : kRetB (.ok (.new xs) st) = .ok (.rt (.box st.length)) (st ++ [.lst xs]) := rfl
theorem V294 : exec c (.retB e) env st = kRetB (ev c e env st) := by rw [exec]; rfl
def kIfS (r : R Bool)  (c : Cf) (a b : IB) (env : Env) : R Fl := r.bind fun k st => if k then execs c a env st else execs c b env st
theorem V295 : kIfS (.exc k w st) c ibl ibl2 env = .exc k w st := rfl
theorem V296 : kIfS (.ok true st) c ibl ibl2 env = execs c ibl env st := rfl
theorem V297 : kIfS (.ok false st) c ibl ibl2 env = execs c ibl2 env st := rfl
theorem V298 : exec c (.ife t ibl ibl2) env st = kIfS (evT c t env st) c ibl ibl2 env := by rw [exec]; rfl
def forC (c : Cf) (tg : Tg) (b : IB) (xs : List P) (env : Env) (st : Store) : R Fl := forGo (fun env st => execs c b env st) tg xs env st
def kFor (r : R (List P))  (c : Cf) (tg : Tg) (b : IB) (env : Env) : R Fl := r.bind fun xs st => forC c tg b xs env st
theorem V299 : kFor (.exc k w st) c tg ibl env = .exc k w st := rfl
theorem V300 : kFor (.ok xs st) c tg ibl env = forC c tg ibl xs env st := rfl
theorem V301 : exec c (.for_ tg it ibl) env st = kFor (evI c true it env st) c tg ibl env := by rw [exec]; rfl
theorem V302 : exec c .pass env st = .ok (.nx env) st := by rw [exec]
theorem V303 : exec c .brk env st = .ok (.bk env) st := by rw [exec]
theorem V304 : exec c .cont env st = .ok (.ct env) st := by rw [exec]
theorem V305 : exec c (.raise k msg) env st = .exc k none st := by rw [exec]
def kFrz (s : Option Sl) (i : Nat) (env : Env) (st : Store) : R Fl := match s with
  | some (.own (.lst xs)) => .ok (.nx (setS env i (.p (.lst xs)))) st
  | _ => .bad
theorem V306 : exec c (.frz i) env st = kFrz env[i]? i env st := by rw [exec]; rfl
theorem V307 : kFrz (some (.own (.lst xs))) i env st = .ok (.nx (env.set i (.val (.p (.lst xs))))) st := rfl
def kTry2 (o : Option Str) (st : Store) : R Fl := match o with
  | some z => .ok (.rt (.p (.str z))) st
  | none => .bad
def kTry (r : R D) (c : Cf) (f : Nat) : R Fl := match r with
    | .ok d st => kRet2 d.arg st
    | .exc k none st => kTry2 (c.wd f k) st
    | .exc _ (some _) _ => .bad
    | .bad => .bad
theorem V308 : kTry2 (some zs) st = .ok (.rt (.p (.str zs))) st := rfl
theorem V309 : kTry (.ok d st) c f = kRet2 d.arg st := rfl
theorem V310 : kTry (.exc k none st) c f = kTry2 (c.wd f k) st := rfl
theorem V311 : exec c (.tryN f e) env st = kTry (ev c e env st) c f := by rw [exec]; rfl
def kB (r : R Fl) (c : Cf) (b : IB) : R Fl := r.bind fun r st => match r with
    | .nx env => execs c b env st
    | r => .ok r st
theorem V312 : kB (.exc k w st) c ibl = .exc k w st := rfl
theorem V313 : kB (.ok (.nx env) st) c ibl = execs c ibl env st := rfl
theorem V314 : kB (.ok (.rt d) st) c ibl = .ok (.rt d) st := rfl
theorem V315 : kB (.ok (.bk env) st) c ibl = .ok (.bk env) st := rfl
theorem V316 : kB (.ok (.ct env) st) c ibl = .ok (.ct env) st := rfl
theorem V317 : execs c .nil env st = .ok (.nx env) st := by rw [execs]
variable {s : IS}
theorem V318 : execs c (.cons s ibl) env st = kB (exec c s env st) c ibl := by rw [execs]; rfl
theorem V319 : fin n (.ok (.rt (.p x)) st) = .ok (.p x) (st.take n) := rfl
theorem V320 : fin n (.ok (.nx env) st) = .ok (.p .non) (st.take n) := rfl
theorem V321 : fin n (.exc k w st) = .exc k w (st.take n) := rfl
theorem V322 (i : Int) (j : Int): opBin .Add (.int i) (.int j) = some (.int (i + j)) := rfl
theorem V323 (i : Int) : opBin .Add (.int i) (.bl bb) = some (.int (i + b2i bb)) := rfl
theorem V324 (j : Int): opBin .Add (.bl bb) (.int j) = some (.int (b2i bb + j)) := rfl
def kSm (b : Bool) (x : P) : Option P := if b then some x else none
theorem V325 : kSm true x = some x := rfl
theorem V326 (z2 : Str): opBin .Add (.str zs) (.str z2) = kSm (small (zs.length + z2.length)) (.str (zs ++ z2)) := rfl
theorem V327 : opBin .Add (.tup xs) (.tup ys) = kSm (small (xs.length + ys.length)) (.tup (xs ++ ys)) := rfl
theorem V328 : opBin .Add (.lst xs) (.lst ys) = kSm (small (xs.length + ys.length)) (.lst (xs ++ ys)) := rfl
theorem V329 (i j : Int): opBin .Sub (.int i) (.int j) = some (.int (i - j)) := rfl
theorem V330 (j : Int): opBin .Sub (.bl bb) (.int j) = some (.int (b2i bb - j)) := rfl
theorem V331 (i j : Int): opBin .Mult (.int i) (.int j) = kSm (mulOk i j) (.int (i * j)) := rfl
theorem V332 (j : Int): opBin .Mult (.tup xs) (.int j) = kSm (decide (j ≤ 1000) && decide (-1000 ≤ j) && decide (xs.length ≤ 1000)) (.tup (rep j xs)) := rfl
theorem V333 (j : Int): opBin .Mult (.lst xs) (.int j) = kSm (decide (j ≤ 1000) && decide (-1000 ≤ j) && decide (xs.length ≤ 1000)) (.lst (rep j xs)) := rfl
theorem V334 (i j : Int): opBin .FloorDiv (.int i) (.int j) = kSm (divOk j) (.int (i / j)) := rfl
theorem V335 (i j : Int): opBin .Mod (.int i) (.int j) = kSm (decide (0 < j)) (.int (i % j)) := rfl
theorem pow_eq {i j : Int} : opBin .Pow (.int i) (.int j) = kSm (decide (0 ≤ j) && decide (j ≤ 1000000) && decide (i.natAbs < 2 ^ 64)) (.int (i ^ j.toNat)) := rfl
theorem V336 : opCmp .Eq x y = opEq x y := rfl
theorem V337 : opCmp .NotEq x y = (opEq x y).map not := rfl
theorem V338 (i j : Int): opCmp .Lt (.int i) (.int j) = some (decide (i < j)) := rfl
theorem V339 (i j : Int): opCmp .LtE (.int i) (.int j) = some (decide (i ≤ j)) := rfl
theorem V340 (i j : Int): opCmp .Gt (.int i) (.int j) = some (decide (j < i)) := rfl
theorem V341 (i j : Int): opCmp .GtE (.int i) (.int j) = some (decide (j ≤ i)) := rfl
theorem V342 : opCmp .Is x .non = some x.isNon := rfl
theorem V343 : opCmp .IsNot x .non = some (!x.isNon) := rfl
theorem V344 (b2 : Bool): opCmp .Is (.bl bb) (.bl b2) = some (decide (bb = b2)) := rfl
theorem V345 (b2 : Bool): opCmp .IsNot (.bl bb) (.bl b2) = some (!decide (bb = b2)) := rfl
theorem V346 : opCmp .In x y = opIn x y := rfl
theorem V347 : opCmp .NotIn x y = (opIn x y).map not := rfl
theorem V348 : P.isNon .non = true := rfl
theorem V349 : P.isNon (.bl bb) = false := rfl
theorem V350 (i : Int): P.isNon (.int i) = false := rfl
theorem V351 : P.isNon (.str zs) = false := rfl
theorem V352 : P.isNon (.lst xs) = false := rfl
theorem V353 : P.isNon (.tup xs) = false := rfl
theorem V354 : truth .non = some false := rfl
theorem V355 : truth (.bl bb) = some bb := rfl
theorem V356 (i : Int): truth (.int i) = some (i != 0) := rfl
theorem V357 : truth (.lst xs) = some (!xs.isEmpty) := rfl
theorem V358 : truth (.tup xs) = some (!xs.isEmpty) := rfl
theorem V359 (i : Int): opIdx (.lst xs) (.int i) = atI xs i := rfl
theorem V360 (i : Int): opIdx (.tup xs) (.int i) = atI xs i := rfl
theorem V361 (i : Int) (ns : List Int): opIdx (.scr ns) (.int i) = (atI ns i).map .int := rfl
theorem V362 : opSlc (.lst xs) l h = some (.lst (cutP xs l h)) := rfl
theorem V363 : opSlc (.tup xs) l h = some (.tup (cutP xs l h)) := rfl
theorem V364 : opSlc (.str zs) l h = kSm (small zs.length) (.str (cutS zs l h)) := rfl
theorem V365 : opRev (.tup xs) = some (.tup xs.reverse) := rfl
theorem V366 : opRev (.str zs) = kSm (small zs.length) (.str ⟨zs.cps.toList.reverse.toArray⟩) := rfl
theorem V367 : opBi .len [.lst xs] = some (.int xs.length) := rfl
theorem V368 : opBi .len [.tup xs] = some (.int xs.length) := rfl
theorem V369 (ns : List Int): opBi .len [.scr ns] = some (.int ns.length) := rfl
theorem V370 : opBi .len [.str zs] = (lenS zs).map fun n => .int n := by simp only [opBi, biLen, lenP]; cases lenS zs <;> rfl
theorem V371 (i : Int): opBi .abs [.int i] = some (.int (if i < 0 then -i else i)) := rfl
theorem V372 (i : Int): opBi .int [.int i] = some (.int i) := rfl
theorem V373 : opBi .int [.bl bb] = some (.int (b2i bb)) := by cases bb <;> rfl
theorem V374 (i j : Int): opBi .max [.int i, .int j] = some (.int (if j > i then j else i)) := rfl
theorem V375 (i j : Int): opBi .min [.int i, .int j] = some (.int (if j < i then j else i)) := rfl
theorem V376 : opBi .tuple [.lst xs] = some (.tup xs) := rfl
theorem V377 : opBi .tuple [.tup xs] = some (.tup xs) := rfl
theorem V378 : opBi .list [.lst xs] = some (.lst xs) := rfl
theorem V379 : opBi .list [.tup xs] = some (.lst xs) := rfl
theorem V380 : opBi .all [.lst xs] = (allBl xs).map fun bs => .bl (bs.all id) := rfl
theorem V381 : opBi .any [.lst xs] = (allBl xs).map fun bs => .bl (bs.any id) := rfl
theorem V382 : opBi .str [.str zs] = some (.str zs) := rfl
theorem V383 : itSeq (.lst xs) = some xs := rfl
theorem V384 : itSeq (.tup xs) = some xs := rfl
theorem V385 : itSeq (.str zs) = some (zs.cps.toList.map fun c => .str ⟨#[c]⟩) := rfl
theorem V386 : opMe .join (.str zs) (.lst xs) = joinP zs (allStr xs) := rfl
theorem V387 (z2 : Str): opMe .split (.str zs) (.str z2) = splitP zs z2 := rfl
theorem V388 : SO.push (.lst xs) y = if decide (xs.length < sizeLine) then some (.lst (xs ++ [y])) else none := rfl
theorem V389 : SO.extend (.lst xs) (.lst ys) = if small (xs.length + ys.length) then some (.lst (xs ++ ys)) else none := rfl
def kPut (o : Option Nat) (xs : List P) (y : P) : Option SO := match o with
  | some j => some (.lst (xs.set j y))
  | none => none
theorem put_eq {i : Int} : SO.put (.lst xs) (.int i) y = kPut (ixN xs.length i) xs y := rfl
def kSort (r : R D)  (k : Nat) : R D := r.bind fun d st => (match d.rd st with | some x => mkD (opSort k x) st | none => .bad)
theorem V390 : kSort (.exc k w st) n = .exc k w st := rfl
def kSort2 (o : Option P) (k : Nat) (st : Store) : R D := match o with
  | some x => mkD (opSort k x) st
  | none => .bad
theorem V391 : kSort (.ok d st) n = kSort2 (d.rd st) n st := rfl
theorem V392 : kSort2 (some x) n st = mkD (opSort n x) st := rfl
theorem V393 : ev c (.sort n a) env st = kSort (ev c a env st) n := by rw [ev]; rfl
theorem V394 : opSort 0 (.lst xs) = sortS (allStr xs) := rfl
end
end DE
end

section
set_option Elab.async false
set_option linter.all false
set_option maxRecDepth 100000
set_option autoImplicit false
namespace DE
open PySem L2
section
variable {x y z : P} {xs ys : List P} {i j : Int}
theorem atI0 {α : Type} {x : α} {xs : List α} : atI (x :: xs) 0 = some x := by
  unfold atI ixN
  rw [if_pos (Int.le_refl 0), if_pos (by rw [List.length_cons]; omega)]
  rfl
theorem atI1 {α : Type} {x y : α} {xs : List α} : atI (x :: y :: xs) 1 = some y := by
  unfold atI ixN
  rw [if_pos (by omega), if_pos (by rw [List.length_cons, List.length_cons]; omega)]
  rfl
theorem atI2 {α : Type} {x y z : α} {xs : List α} : atI (x :: y :: z :: xs) 2 = some z := by
  unfold atI ixN
  rw [if_pos (by omega), if_pos (by rw [List.length_cons, List.length_cons, List.length_cons]; omega)]
  rfl
theorem atI3 {α : Type} {x y z w : α} {xs : List α} : atI (x :: y :: z :: w :: xs) 3 = some w := by
  unfold atI ixN
  rw [if_pos (by omega), if_pos (by rw [List.length_cons, List.length_cons, List.length_cons, List.length_cons]; omega)]
  rfl
theorem atI_nat {α : Type} {xs : List α} {n : Nat} (h : n < xs.length) : atI xs (n : Int) = some xs[n] := by
  unfold atI ixN
  rw [if_pos (Int.natCast_nonneg n), if_pos (by omega)]
  show xs[(n : Int).toNat]? = _
  rw [Int.toNat_natCast, List.getElem?_eq_getElem h]
theorem atI_natQ {α : Type} {xs : List α} {n : Nat} (h : n < xs.length) : atI xs (n : Int) = xs[n]? := by
  rw [atI_nat h, List.getElem?_eq_getElem h]
theorem atI_int {α : Type} {xs : List α} {i : Int} (h : 0 ≤ i) (h2 : i < xs.length) : ∃ y, atI xs i = some y ∧ xs[i.toNat]? = some y ∧ y ∈ xs := by
  obtain ⟨n, rfl⟩ := Int.eq_ofNat_of_zero_le h
  have hn : n < xs.length := by omega
  exact ⟨xs[n], atI_nat hn, by rw [Int.toNat_natCast, List.getElem?_eq_getElem hn], List.getElem_mem hn⟩
theorem atI_last {α : Type} {xs : List α} (h : xs ≠ []) : atI xs (-1) = xs.getLast? := by
  have hp : 0 < xs.length := List.length_pos_iff.mpr h
  unfold atI ixN
  rw [if_neg (by omega), if_pos (by omega)]
  show xs[((-1 : Int) + xs.length).toNat]? = _
  rw [List.getLast?_eq_getElem?]
  congr 1
  omega
theorem put0 : SO.put (.lst (x :: xs)) (.int 0) y = some (.lst (y :: xs)) := by
  show kPut (ixN (x :: xs).length 0) _ _ = _
  unfold ixN
  rw [if_pos (Int.le_refl 0), if_pos (by rw [List.length_cons]; omega)]
  rfl
theorem put1 : SO.put (.lst (x :: z :: xs)) (.int 1) y = some (.lst (x :: y :: xs)) := by
  show kPut (ixN (x :: z :: xs).length 1) _ _ = _
  unfold ixN
  rw [if_pos (by omega), if_pos (by rw [List.length_cons, List.length_cons]; omega)]
  rfl
theorem divOk_lit (h : 0 < j) (h2 : j < 9223372036854775808) : divOk j = true := by
  have : j.natAbs < 2 ^ 9000 := Nat.lt_of_lt_of_le (show j.natAbs < 2 ^ 63 by omega) (Nat.pow_le_pow_right (by decide) (by decide))
  simp only [divOk, Bool.and_eq_true, decide_eq_true_eq]
  refine ⟨h, ?_⟩
  by_cases h0 : j.natAbs = 0
  · rw [h0]; decide
  · exact (Nat.log2_lt h0).mpr this
theorem mulOk_r (h : -9223372036854775808 < j) (h2 : j < 9223372036854775808) : mulOk i j = true := by
  simp only [mulOk, Bool.or_eq_true, decide_eq_true_eq]
  exact .inr ⟨by omega, by omega⟩
theorem mulOk_l (h : -9223372036854775808 < i) (h2 : i < 9223372036854775808) : mulOk i j = true := by
  simp only [mulOk, Bool.or_eq_true, decide_eq_true_eq]
  exact .inl ⟨by omega, by omega⟩
theorem small_lit {n : Nat} (h : n ≤ 16000000) : small n = true := by
  have : sizeLine = 16777216 := by decide
  simp only [small, this, decide_eq_true_eq]
  omega
theorem sizeLine_lit : sizeLine = 16777216 := by decide
theorem rngOk_lit {a b : Int} (h1 : -4000000000000000000 ≤ a) (h2 : a ≤ 4000000000000000000) (h3 : -4000000000000000000 ≤ b) (h4 : b ≤ 4000000000000000000) : rngOk a b = true := rfl
theorem rngOk_any (a b : Int) : rngOk a b = true := rfl
end
section
variable {c : Cf} {elt : IE} {cond : IO} {tg : Tg} {env : Env} {st : Store} {xs : List P}
theorem compC_det {b : P → Bool} {y : P → P} (h : ∀ x ∈ xs, ∃ env1, asgT tg (.p x) env = some env1 ∧ evC c cond env1 st = .ok (b x) st ∧ (b x = true → ∃ d, ev c elt env1 st = .ok d st ∧ d.keep = some (y x))) (hl : xs.length ≤ 16000000) :
    compC c elt cond tg env xs st = .ok ((xs.filter b).map y) st := by
  have := compGo_det (f := fun env st => ev c elt env st) (t := fun env st => evC c cond env st) (tg := tg) (env := env) (st := st) (b := b) (y := y) xs [] h (by rw [sizeLine_lit, List.length_nil]; omega)
  rwa [List.nil_append] at this
/-- without a test -/
theorem compC_map {y : P → P} (h : ∀ x ∈ xs, ∃ env1, asgT tg (.p x) env = some env1 ∧ ∃ d, ev c elt env1 st = .ok d st ∧ d.keep = some (y x)) (hl : xs.length ≤ 16000000) :
    compC c elt .non tg env xs st = .ok (xs.map y) st := by
  have := compC_det (c := c) (elt := elt) (cond := .non) (tg := tg) (env := env) (st := st) (xs := xs) (b := fun _ => true) (y := y) (fun x hx => by
    obtain ⟨e1, h1, d, h2, h3⟩ := h x hx
    exact ⟨e1, h1, by rw [evC], fun _ => ⟨d, h2, h3⟩⟩) hl
  rwa [List.filter_eq_self.mpr (fun _ _ => rfl)] at this
theorem compC_wp {Q : List P → Store → Prop} (I : Nat → List P → Store → Prop)
    (h : ∀ i x acc st, xs[i]? = some x → I i acc st → ∃ env1, asgT tg (.p x) env = some env1 ∧ Wp (evC c cond env1 st) fun b st1 => if b = true then Wp (ev c elt env1 st1) (fun d st2 => ∃ y, d.keep = some y ∧ acc.length < sizeLine ∧ I (i + 1) (acc ++ [y]) st2) else I (i + 1) acc st1)
    (he : ∀ acc st, I xs.length acc st → Q acc st) (h0 : I 0 [] st) : Wp (compC c elt cond tg env xs st) Q :=
  compGo_wp I xs h he h0
theorem forC_wp {b : IB} {Q : Fl → Store → Prop} (I : Nat → Env → Store → Prop)
    (h : ∀ i x env st, xs[i]? = some x → I i env st → ∃ env1, asgT tg (.p x) env = some env1 ∧ Wp (execs c b env1 st) (fun r st => match r with
      | .nx env => I (i + 1) env st
      | .ct env => I (i + 1) env st
      | .bk env => Q (.nx env) st
      | .rt d => Q (.rt d) st))
    (he : ∀ env st, I xs.length env st → Q (.nx env) st) (h0 : I 0 env st) : Wp (forC c tg b xs env st) Q :=
  forGo_wp I xs h he h0
theorem wp_kB {r : R Fl} {c : Cf} {b : IB} {Q : Fl → Store → Prop} (h : Wp r fun fl st => match fl with
    | .nx env => Wp (execs c b env st) Q
    | r => Q r st) : Wp (kB r c b) Q := by
  obtain ⟨fl, st, rfl, h⟩ := h
  cases fl with
  | nx env => exact h
  | rt d => exact Wp.ok h
  | bk env => exact Wp.ok h
  | ct env => exact Wp.ok h
theorem wp_bindR {α β : Type} {r : R α} {f : α → Store → R β} {Q : β → Store → Prop} (h : Wp r fun a st => Wp (f a st) Q) : Wp (r.bind f) Q := Wp.bind h fun _ _ x => x
end
end DE
namespace DE
open PySem L2
theorem pow18 : opBin .Pow (.int 10) (.int 18) = some (.int 1000000000000000000) := rfl
theorem pow30 : opBin .Pow (.int 10) (.int 30) = some (.int 1000000000000000000000000000000) := rfl
theorem pow28 : opBin .Pow (.int 10) (.int 28) = some (.int 10000000000000000000000000000) := rfl
end DE
end

section
set_option Elab.async false
set_option linter.all false
set_option maxRecDepth 100000
set_option autoImplicit false
namespace DE
open PySem L2
theorem opEq_int {i j : Int} : opEq (.int i) (.int j) = some (i == j) := by rw [opEq_ok (by simp [P.okD]) (by simp [P.okD])]; rfl
theorem opEq_bl {i j : Bool} : opEq (.bl i) (.bl j) = some (i == j) := by rw [opEq_ok (by simp [P.okD]) (by simp [P.okD])]; rfl
theorem strOk_ofString (s : String) : PyData.strOk (Str.ofString s) = true := by
  rw [Str.ofString_eq_toList]
  simp only [PyData.strOk, List.all_toArray, List.all_map, List.all_eq_true]
  intro c _
  simp only [Function.comp, decide_eq_true_eq]
  have hv : c.toNat < 0xd800 ∨ (0xdfff < c.toNat ∧ c.toNat < 0x110000) := c.valid
  omega
theorem len_ofString (s : String) : (Str.ofString s).length = s.toList.length := by
  rw [Str.ofString_eq_toList]
  simp [Str.length]
theorem opEq_strs {x y : Str} (hx : PyData.strOk x = true) (hy : PyData.strOk y = true) : opEq (.str x) (.str y) = some (x == y) := by rw [opEq_ok (by simpa [P.okD] using hx) (by simpa [P.okD] using hy)]; rfl
theorem len_toString (i : Int) {B : Nat} (hB : 0 < B) (h : i.natAbs < 10 ^ B) : (Str.ofString (toString i)).length ≤ B + 1 := by
  rw [len_ofString]
  cases i with
  | ofNat n =>
    have e : (toString (Int.ofNat n)).toList = Nat.toDigits 10 n := by
      show (Nat.repr n).toList = _
      simp [Nat.repr]
    rw [e]
    have := (Nat.length_toDigits_le_iff (b := 10) (n := n) (k := B) (by decide) hB).mpr h
    omega
  | negSucc n =>
    have e : (toString (Int.negSucc n)).toList = '-' :: Nat.toDigits 10 (n + 1) := by
      show ("-" ++ Nat.repr (n + 1)).toList = _
      simp [Nat.repr]
    rw [e]
    have := (Nat.length_toDigits_le_iff (b := 10) (n := n + 1) (k := B) (by decide) hB).mpr h
    simp only [List.length_cons]
    omega
mutual
/-- plain data, nested at most so deep, of bounded sizes -/
def P.gd (B : Nat) : Nat → P → Bool
  | _, .non => true
  | _, .bl _ => true
  | _, .int i => decide (i.natAbs < 2 ^ B)
  | _, .str x => PyData.strOk x && decide (x.length ≤ B)
  | n + 1, .lst xs => P.gds B n xs && decide (xs.length ≤ B)
  | n + 1, .tup xs => P.gds B n xs && decide (xs.length ≤ B)
  | _, _ => false
def P.gds (B : Nat) : Nat → List P → Bool
  | _, [] => true
  | n, x :: xs => P.gd B n x && P.gds B n xs
end
theorem P.gds_iff {B n : Nat} {xs : List P} : P.gds B n xs = true ↔ ∀ x ∈ xs, P.gd B n x = true := by
  induction xs with
  | nil => simp [P.gds]
  | cons x xs ih => simp [P.gds, ih]
mutual
theorem P.gd_ok {B : Nat} : ∀ {n : Nat} {x : P}, P.gd B n x = true → P.okD n x = true
  | _, .non, _ => by simp [P.okD]
  | _, .bl b, _ => by simp [P.okD]
  | _, .int b, _ => by simp [P.okD]
  | _, .str x, h => by
    simp only [P.gd, Bool.and_eq_true] at h
    simpa [P.okD] using h.1
  | n + 1, .lst xs, h => by
    simp only [P.gd, Bool.and_eq_true] at h
    unfold P.okD
    exact P.gds_ok h.1
  | n + 1, .tup xs, h => by
    simp only [P.gd, Bool.and_eq_true] at h
    unfold P.okD
    exact P.gds_ok h.1
  | 0, .lst xs, h => by simp [P.gd] at h
  | 0, .tup xs, h => by simp [P.gd] at h
  | _, .fn _, h => by simp [P.gd] at h
  | _, .scr _, h => by simp [P.gd] at h
theorem P.gds_ok {B : Nat} : ∀ {n : Nat} {xs : List P}, P.gds B n xs = true → P.okDs n xs = true
  | _, [], _ => rfl
  | n, x :: xs, h => by
    unfold P.gds at h
    unfold P.okDs
    rw [Bool.and_eq_true] at h ⊢
    exact ⟨P.gd_ok h.1, P.gds_ok h.2⟩
end
mutual
theorem P.gd_mono {B B' : Nat} (hB : B ≤ B') : ∀ {n m : Nat} {x : P}, n ≤ m → P.gd B n x = true → P.gd B' m x = true
  | _, _, .non, _, _ => by simp [P.gd]
  | _, _, .bl b, _, _ => by simp [P.gd]
  | _, _, .int b, _, h => by
    simp only [P.gd, decide_eq_true_eq] at h ⊢
    exact Nat.lt_of_lt_of_le h (Nat.pow_le_pow_right (by decide) hB)
  | _, _, .str x, _, h => by
    simp only [P.gd, Bool.and_eq_true, decide_eq_true_eq] at h ⊢
    exact ⟨h.1, by omega⟩
  | n + 1, m + 1, .lst xs, hm, h => by
    simp only [P.gd, Bool.and_eq_true, decide_eq_true_eq] at h ⊢
    exact ⟨P.gds_mono hB (Nat.le_of_succ_le_succ hm) h.1, by omega⟩
  | n + 1, m + 1, .tup xs, hm, h => by
    simp only [P.gd, Bool.and_eq_true, decide_eq_true_eq] at h ⊢
    exact ⟨P.gds_mono hB (Nat.le_of_succ_le_succ hm) h.1, by omega⟩
  | n + 1, 0, .lst xs, hm, h => by omega
  | n + 1, 0, .tup xs, hm, h => by omega
  | 0, _, .lst xs, _, h => by simp [P.gd] at h
  | 0, _, .tup xs, _, h => by simp [P.gd] at h
  | _, _, .fn _, _, h => by simp [P.gd] at h
  | _, _, .scr _, _, h => by simp [P.gd] at h
theorem P.gds_mono {B B' : Nat} (hB : B ≤ B') : ∀ {n m : Nat} {xs : List P}, n ≤ m → P.gds B n xs = true → P.gds B' m xs = true
  | _, _, [], _, _ => by simp [P.gds]
  | n, m, x :: xs, hm, h => by
    unfold P.gds at h ⊢
    rw [Bool.and_eq_true] at h ⊢
    exact ⟨P.gd_mono hB hm h.1, P.gds_mono hB hm h.2⟩
end
def isF : P → Bool
  | .str s => (Str.ofString "over" == s) || (Str.ofString "under" == s)
  | _ => false
def plen : P → Nat
  | .tup xs => xs.length
  | _ => 0
def areF : P → Bool
  | .tup xs => xs.all isF
  | _ => false
def isR : P → Bool
  | .tup [a, b] => areF a && areF b && decide (plen a ≤ 12) && (decide (1 ≤ plen b) && decide (plen b ≤ 12))
  | _ => false
theorem in_folds {s : Str} (h : PyData.strOk s = true) : opIn (.str s) (.tup [.str "over", .str "under"]) = some (isF (.str s)) := by
  show (if ((P.str s).flat && [P.str (Str.ofString "over"), P.str (Str.ofString "under")].all P.flat) = true then anyEq (.str s) [.str (Str.ofString "over"), .str (Str.ofString "under")] else none) = _
  rw [if_pos (by rfl)]
  simp only [anyEq, opEq_strs (strOk_ofString _) h]
  show _ = some ((Str.ofString "over" == s) || (Str.ofString "under" == s))
  cases (Str.ofString "over" == s) <;> cases (Str.ofString "under" == s) <;> rfl
theorem in_foldsL {s : Str} (h : PyData.strOk s = true) : opIn (.str s) (.lst [.str "over", .str "under"]) = some (isF (.str s)) := in_folds h
theorem allBl_map (f : P → Bool) : ∀ xs : List P, allBl (xs.map fun x => .bl (f x)) = some (xs.map f)
  | [] => rfl
  | x :: xs => by
    show (allBl (xs.map fun x => .bl (f x))).map (f x :: ·) = _
    rw [allBl_map f xs]
    rfl
theorem eqL0 {n : Nat} {xs : List P} (h : P.okDs 60 xs = true) : opEq (.lst xs) (.lst []) = some xs.isEmpty := by
  rw [opEq_ok (P.okD_mono (n := 61) (by decide) (by unfold P.okD; exact h)) (by simp [P.okD, P.okDs])]
  cases xs <;> simp [P.eqv, P.eqvs]
theorem eqT0 {xs : List P} (h : P.okDs 60 xs = true) : opEq (.tup xs) (.tup []) = some xs.isEmpty := by
  rw [opEq_ok (P.okD_mono (n := 61) (by decide) (by unfold P.okD; exact h)) (by simp [P.okD, P.okDs])]
  cases xs <;> simp [P.eqv, P.eqvs]
theorem okD_tup {n : Nat} {xs : List P} (h : P.okD n (.tup xs) = true) : ∀ x ∈ xs, P.okD n x = true := by
  cases n with
  | zero => simp [P.okD] at h
  | succ n =>
    unfold P.okD at h
    exact fun x hx => P.okD_mono (Nat.le_succ n) (P.okDs_iff.mp h x hx)
theorem okDs_tup {n : Nat} {xs : List P} (h : P.okD n (.tup xs) = true) : P.okDs n xs = true := P.okDs_iff.mpr (okD_tup h)
theorem not_all_F (xs : List P) : (xs.filter fun x => !isF x).isEmpty = xs.all isF := by
  induction xs with
  | nil => rfl
  | cons x xs ih =>
    rw [List.filter_cons, List.all_cons]
    cases isF x with
    | true => simpa using ih
    | false => simp
def EVC := (And.intro (And.intro (And.intro (And.intro (And.intro (And.intro (And.intro (And.intro @V1 (And.intro @V2 @V3)) (And.intro @V4 (And.intro @V5 @V6))) (And.intro (And.intro @V7 (And.intro @V8 @V9)) (And.intro @V10 (And.intro @V11 @V12)))) (And.intro (And.intro (And.intro @V13 (And.intro @V14 @V15)) (And.intro @V16 (And.intro @V17 @V18))) (And.intro (And.intro @V19 (And.intro @V20 @V21)) (And.intro @V22 (And.intro @V23 @V24))))) (And.intro (And.intro (And.intro (And.intro @V25 (And.intro @V26 @V27)) (And.intro @V28 (And.intro @V29 @V30))) (And.intro (And.intro @V31 (And.intro @V32 @V33)) (And.intro @V34 (And.intro @V35 @V36)))) (And.intro (And.intro (And.intro @V37 (And.intro @V38 @V39)) (And.intro @V40 (And.intro @V41 @V42))) (And.intro (And.intro @V43 (And.intro @V44 @V45)) (And.intro @V46 (And.intro @V47 @V48)))))) (And.intro (And.intro (And.intro (And.intro (And.intro @V49 (And.intro @V50 @V51)) (And.intro @V52 (And.intro @V53 @V54))) (And.intro (And.intro @V55 (And.intro @V56 @V57)) (And.intro @V58 (And.intro @V59 @V60)))) (And.intro (And.intro (And.intro @V61 (And.intro @V62 @V63)) (And.intro @V64 (And.intro @V65 @V66))) (And.intro (And.intro @V67 (And.intro @V68 @V69)) (And.intro @V70 (And.intro @V71 @V72))))) (And.intro (And.intro (And.intro (And.intro @V73 (And.intro @V74 @V75)) (And.intro @V76 (And.intro @V77 @V78))) (And.intro (And.intro @V79 (And.intro @V80 @V81)) (And.intro @V82 (And.intro @V83 @V84)))) (And.intro (And.intro (And.intro @V85 (And.intro @V86 @V87)) (And.intro @V88 (And.intro @V89 @V90))) (And.intro (And.intro @V91 (And.intro @V92 @V93)) (And.intro (And.intro @V94 @V95) (And.intro @V96 @V97))))))) (And.intro (And.intro (And.intro (And.intro (And.intro (And.intro @V98 (And.intro @V99 @V100)) (And.intro @V101 (And.intro @V102 @V103))) (And.intro (And.intro @V104 (And.intro @V105 @V106)) (And.intro @V107 (And.intro @V108 @V109)))) (And.intro (And.intro (And.intro @V110 (And.intro @V111 @V112)) (And.intro @V113 (And.intro @V114 @V115))) (And.intro (And.intro @V116 (And.intro @V117 @V118)) (And.intro @V119 (And.intro @V120 @V121))))) (And.intro (And.intro (And.intro (And.intro @V122 (And.intro @V123 @V124)) (And.intro @V125 (And.intro @V126 @V127))) (And.intro (And.intro @V128 (And.intro @V129 @V130)) (And.intro @V131 (And.intro @V132 @V133)))) (And.intro (And.intro (And.intro @V134 (And.intro @V135 @V136)) (And.intro @V137 (And.intro @V138 @V139))) (And.intro (And.intro @V140 (And.intro @V141 @V142)) (And.intro @V143 (And.intro @V144 @V145)))))) (And.intro (And.intro (And.intro (And.intro (And.intro @V146 (And.intro @V147 @V148)) (And.intro @V149 (And.intro @V150 @V151))) (And.intro (And.intro @V152 (And.intro @V153 @V154)) (And.intro @V155 (And.intro @V156 @V157)))) (And.intro (And.intro (And.intro @V158 (And.intro @V159 @V160)) (And.intro @V161 (And.intro @V162 @V163))) (And.intro (And.intro @V164 (And.intro @V165 @V166)) (And.intro @V167 (And.intro @V168 @V169))))) (And.intro (And.intro (And.intro (And.intro @V170 (And.intro @V171 @V172)) (And.intro @V173 (And.intro @V174 @V175))) (And.intro (And.intro @V176 (And.intro @V177 @V178)) (And.intro @V179 (And.intro @V180 @V181)))) (And.intro (And.intro (And.intro @V182 (And.intro @V183 @V184)) (And.intro @V185 (And.intro @V186 @V187))) (And.intro (And.intro @V188 (And.intro @V189 @V190)) (And.intro (And.intro @V191 @V192) (And.intro @V193 @V194)))))))) (And.intro (And.intro (And.intro (And.intro (And.intro (And.intro (And.intro @V195 (And.intro @V196 @V197)) (And.intro @V198 (And.intro @V199 @V200))) (And.intro (And.intro @V201 (And.intro @V202 @V203)) (And.intro @V204 (And.intro @V205 @V206)))) (And.intro (And.intro (And.intro @V207 (And.intro @V208 @V209)) (And.intro @V210 (And.intro @V211 @V212))) (And.intro (And.intro @V213 (And.intro @V214 @V215)) (And.intro @V216 (And.intro @V217 @V218))))) (And.intro (And.intro (And.intro (And.intro @V219 (And.intro @V220 @V221)) (And.intro @V222 (And.intro @V223 @V224))) (And.intro (And.intro @V225 (And.intro @V226 @V227)) (And.intro @V228 (And.intro @V229 @V230)))) (And.intro (And.intro (And.intro @V231 (And.intro @V232 @V233)) (And.intro @V234 (And.intro @V235 @V236))) (And.intro (And.intro @V237 (And.intro @V238 @V239)) (And.intro @V240 (And.intro @V241 @V242)))))) (And.intro (And.intro (And.intro (And.intro (And.intro @V243 (And.intro @V244 @V245)) (And.intro @V246 (And.intro @V247 @V248))) (And.intro (And.intro @V249 (And.intro @V250 @V251)) (And.intro @V252 (And.intro @V253 @V254)))) (And.intro (And.intro (And.intro @V255 (And.intro @V256 @V257)) (And.intro @V258 (And.intro @V259 @V260))) (And.intro (And.intro @V261 (And.intro @V262 @V263)) (And.intro @V264 (And.intro @V265 @V266))))) (And.intro (And.intro (And.intro (And.intro @V267 (And.intro @V268 @V269)) (And.intro @V270 (And.intro @V271 @V272))) (And.intro (And.intro @V273 (And.intro @V274 @V275)) (And.intro @V276 (And.intro @V277 @V278)))) (And.intro (And.intro (And.intro @V279 (And.intro @V280 @V281)) (And.intro @V282 (And.intro @V283 @V284))) (And.intro (And.intro @V285 (And.intro @V286 @V287)) (And.intro (And.intro @V288 @V289) (And.intro @V290 @V291))))))) (And.intro (And.intro (And.intro (And.intro (And.intro (And.intro @V292 (And.intro @V293 @V294)) (And.intro @V295 (And.intro @V296 @V297))) (And.intro (And.intro @V298 (And.intro @V299 @V300)) (And.intro @V301 (And.intro @V302 @V303)))) (And.intro (And.intro (And.intro @V304 (And.intro @V305 @V306)) (And.intro @V307 (And.intro @V308 @V309))) (And.intro (And.intro @V310 (And.intro @V311 @V312)) (And.intro @V313 (And.intro @V314 @V315))))) (And.intro (And.intro (And.intro (And.intro @V316 (And.intro @V317 @V318)) (And.intro @V319 (And.intro @V320 @V321))) (And.intro (And.intro @V322 (And.intro @V323 @V324)) (And.intro @V325 (And.intro @V326 @V327)))) (And.intro (And.intro (And.intro @V328 (And.intro @V329 @V330)) (And.intro @V331 (And.intro @V332 @V333))) (And.intro (And.intro @V334 (And.intro @V335 @V336)) (And.intro (And.intro @V337 @V338) (And.intro @V339 @V340)))))) (And.intro (And.intro (And.intro (And.intro (And.intro @V341 (And.intro @V342 @V343)) (And.intro @V344 (And.intro @V345 @V346))) (And.intro (And.intro @V347 (And.intro @V348 @V349)) (And.intro @V350 (And.intro @V351 @V352)))) (And.intro (And.intro (And.intro @V353 (And.intro @V354 @V355)) (And.intro @V356 (And.intro @V357 @V358))) (And.intro (And.intro @V359 (And.intro @V360 @V361)) (And.intro @V362 (And.intro @V363 @V364))))) (And.intro (And.intro (And.intro (And.intro @V365 (And.intro @V366 @V367)) (And.intro @V368 (And.intro @V369 @V370))) (And.intro (And.intro @V371 (And.intro @V372 @V373)) (And.intro @V374 (And.intro @V375 @V376)))) (And.intro (And.intro (And.intro @V377 (And.intro @V378 @V379)) (And.intro @V380 (And.intro @V381 @V382))) (And.intro (And.intro @V383 (And.intro @V384 @V385)) (And.intro (And.intro @V386 @V387) (And.intro @V388 @V389)))))))))
def EVD := (And.intro (And.intro (And.intro @wp_ok (And.intro @atI0 @atI1)) (And.intro @atI2 (And.intro @atI3 @put0))) (And.intro (And.intro @put1 (And.intro @divOk_lit @mulOk_r)) (And.intro (And.intro @mulOk_l @small_lit) (And.intro @opEq_int @opEq_bl))))
def EVS := And.intro (And.intro @V390 @V391) (And.intro @V392 (And.intro @V393 @V394))
end DE
end

section
set_option autoImplicit false
namespace MM
section
variable {α : Type}
theorem rep_get (xs : List α) : ∀ (k i : Nat), i < k * xs.length → (List.replicate k xs).flatten[i]? = xs[i % xs.length]?
  | 0, i, h => by simp at h
  | k + 1, i, h => by
    rw [List.replicate_succ, List.flatten_cons]
    by_cases h1 : i < xs.length
    · rw [List.getElem?_append_left h1, Nat.mod_eq_of_lt h1]
    · rw [List.getElem?_append_right (by omega), rep_get xs k (i - xs.length) (by rw [Nat.succ_mul] at h; omega), ← Nat.mod_eq_sub_mod (by omega)]
theorem rep_len (xs : List α) (k : Nat) : (List.replicate k xs).flatten.length = k * xs.length := by simp
/-- the item behind so many others -/
def sq (e a : List α) (n : Nat) : Option α := if n < e.length then e[n]? else a[(n - e.length) % a.length]?
/-- again is a part of s items, written again and again -/
def IsPer (a : List α) (s : Nat) : Prop := a.length % s = 0 ∧ (List.replicate (a.length / s) (a.take s)).flatten = a
theorem isPer_iff {a : List α} {s : Nat} (h1 : 1 ≤ s) (h2 : s ≤ a.length) : IsPer a s ↔ a.length % s = 0 ∧ ∀ i, i < a.length → a[i]? = a[i % s]? := by
  have hl : (a.take s).length = s := by simp; omega
  have key : a.length % s = 0 → (a.length / s) * (a.take s).length = a.length := fun h => by
    rw [hl]; exact Nat.div_mul_cancel (Nat.dvd_of_mod_eq_zero h)
  constructor
  · rintro ⟨h, e⟩
    refine ⟨h, fun i hi => ?_⟩
    have q := rep_get (a.take s) (a.length / s) i (by rw [key h]; exact hi)
    rw [e, hl, List.getElem?_take_of_lt (Nat.mod_lt _ h1)] at q
    exact q
  · rintro ⟨h, e⟩
    refine ⟨h, ?_⟩
    refine List.ext_getElem? fun i => ?_
    by_cases hi : i < a.length
    · rw [rep_get _ _ _ (by rw [key h]; exact hi), hl, List.getElem?_take_of_lt (Nat.mod_lt _ h1)]
      exact (e i hi).symm
    · rw [List.getElem?_eq_none (by rw [rep_len, key h]; omega), List.getElem?_eq_none (by omega)]
theorem isPer_self {a : List α} (h : 1 ≤ a.length) : IsPer a a.length :=
  (isPer_iff h (Nat.le_refl _)).mpr ⟨Nat.mod_self _, fun i hi => by rw [Nat.mod_eq_of_lt hi]⟩
/-- as short as can be -/
structure Canon (e a : List α) : Prop where
  pos : 1 ≤ a.length
  prim : ∀ s, 1 ≤ s → s < a.length → ¬ IsPer a s
  last : e = [] ∨ e.getLast? ≠ a.getLast?
theorem sq_lo {e a : List α} {n : Nat} (h : n < e.length) : sq e a n = e[n]? := if_pos h
theorem sq_hi {e a : List α} (n : Nat) : sq e a (e.length + n) = a[n % a.length]? := by
  unfold sq
  rw [if_neg (by omega), Nat.add_sub_cancel_left]
theorem sq_hi' {e a : List α} {n : Nat} (h : e.length ≤ n) : sq e a n = a[(n - e.length) % a.length]? := if_neg (by omega)
theorem sq_per {e a : List α} {n : Nat} (h : e.length ≤ n) : ∀ k, sq e a (n + k * a.length) = sq e a n := fun k => by
  rw [sq_hi' h, sq_hi' (by omega), show n + k * a.length - e.length = (n - e.length) + k * a.length from by omega, Nat.add_mul_mod_self_right]
theorem sq_per1 {e a : List α} {n : Nat} (h : e.length ≤ n) : sq e a (n + a.length) = sq e a n := by
  have := sq_per (a := a) h 1
  rwa [Nat.one_mul] at this
/-- agreeing for long enough -/
theorem sq_agree {e a e' a' : List α} {N M : Nat} (he : e.length ≤ N) (he' : e'.length ≤ N) (h1 : 1 ≤ a.length) (h1' : 1 ≤ a'.length) (hM : N + a.length * a'.length ≤ M) (h : ∀ n, n < M → sq e a n = sq e' a' n) : ∀ n, sq e a n = sq e' a' n := by
  intro n
  induction n using Nat.strongRecOn with
  | _ n ih =>
    by_cases hn : n < M
    · exact h n hn
    · have hp : 1 ≤ a.length * a'.length := Nat.mul_pos h1 h1'
      have e1 : sq e a n = sq e a (n - a.length * a'.length) := by
        have q := sq_per (e := e) (a := a) (n := n - a.length * a'.length) (by omega) a'.length
        rw [Nat.mul_comm a'.length, Nat.sub_add_cancel (by omega)] at q
        exact q
      have e2 : sq e' a' n = sq e' a' (n - a.length * a'.length) := by
        have q := sq_per (e := e') (a := a') (n := n - a.length * a'.length) (by omega) a.length
        rw [Nat.sub_add_cancel (by omega)] at q
        exact q
      rw [e1, e2]
      exact ih _ (by omega)
/-- periods of a row without an early part -/
def Pd (u : Nat → Option α) (p : Nat) : Prop := ∀ n, u (n + p) = u n
theorem Pd.sub {u : Nat → Option α} {p q : Nat} (h1 : Pd u p) (h2 : Pd u q) (h : p ≤ q) : Pd u (q - p) := fun n => by
  have e := h1 (n + (q - p))
  rw [show n + (q - p) + p = n + q from by omega, h2] at e
  exact e.symm
theorem Pd.mul {u : Nat → Option α} {p : Nat} (h : Pd u p) : ∀ k, Pd u (k * p)
  | 0 => fun n => by simp
  | k + 1 => fun n => by
    rw [Nat.succ_mul, ← Nat.add_assoc, h]
    exact Pd.mul h k n
theorem Pd.gcd {u : Nat → Option α} : ∀ (k p q : Nat), p + q ≤ k → Pd u p → Pd u q → Pd u (Nat.gcd p q)
  | 0, p, q, hk, h1, h2 => by
    have e1 : p = 0 := by omega
    have e2 : q = 0 := by omega
    subst e1; subst e2
    exact h1
  | k + 1, p, q, hk, h1, h2 => by
    by_cases hp : p = 0
    · subst hp; rw [Nat.gcd_zero_left]; exact h2
    · by_cases hq : q = 0
      · subst hq; rw [Nat.gcd_zero_right]; exact h1
      · by_cases h : p ≤ q
        · have := Pd.gcd k p (q - p) (by omega) h1 (h1.sub h2 h)
          rwa [Nat.gcd_sub_self_right h] at this
        · have := Pd.gcd k (p - q) q (by omega) (h2.sub h1 (by omega)) h2
          rwa [Nat.gcd_sub_self_left (by omega)] at this
theorem Pd.mod {u : Nat → Option α} {p : Nat} (h : Pd u p) (n : Nat) : u n = u (n % p) := by
  have := h.mul (n / p) (n % p)
  rw [Nat.mul_comm, Nat.add_comm, Nat.div_add_mod] at this
  exact this
abbrev pr (a : List α) : Nat → Option α := fun n => a[n % a.length]?
theorem pd_len (a : List α) : Pd (pr a) a.length := fun n => by simp [pr]
theorem isPer_of_pd {a : List α} {s : Nat} (h1 : 1 ≤ s) (h2 : s ≤ a.length) (hd : a.length % s = 0) (h : Pd (pr a) s) : IsPer a s :=
  (isPer_iff h1 h2).mpr ⟨hd, fun i hi => by
    have q := h.mod i
    have z : i % s < a.length := Nat.lt_of_lt_of_le (Nat.mod_lt _ h1) h2
    simp only [pr, Nat.mod_eq_of_lt hi, Nat.mod_eq_of_lt z] at q
    exact q⟩
theorem pd_of_isPer {a : List α} {s : Nat} (h1 : 1 ≤ s) (h2 : s ≤ a.length) (h : IsPer a s) : Pd (pr a) s := by
  obtain ⟨hd, e⟩ := (isPer_iff h1 h2).mp h
  intro n
  have ha : 0 < a.length := by omega
  have d : s ∣ a.length := Nat.dvd_of_mod_eq_zero hd
  show a[(n + s) % a.length]? = a[n % a.length]?
  rw [e _ (Nat.mod_lt _ ha), e (n % a.length) (Nat.mod_lt _ ha), Nat.mod_mod_of_dvd _ d, Nat.mod_mod_of_dvd _ d, Nat.add_mod_right]
theorem canon_len {a b : List α} (ha : 1 ≤ a.length) (hb : 1 ≤ b.length) (pa : ∀ s, 1 ≤ s → s < a.length → ¬ IsPer a s) (h : ∀ n, pr a n = pr b n) : a.length ≤ b.length := by
  have e : pr a = pr b := funext h
  have d1 := pd_len a
  have d2 := pd_len b
  rw [← e] at d2
  have g := Pd.gcd _ _ _ (Nat.le_refl _) d1 d2
  have g1 : 1 ≤ Nat.gcd a.length b.length := Nat.gcd_pos_of_pos_left _ ha
  have gd := Nat.gcd_dvd_left a.length b.length
  have gl := Nat.le_of_dvd ha gd
  have gr := Nat.le_of_dvd hb (Nat.gcd_dvd_right a.length b.length)
  by_cases hlt : Nat.gcd a.length b.length < a.length
  · exact absurd (isPer_of_pd g1 gl (Nat.mod_eq_zero_of_dvd gd) g) (pa _ g1 hlt)
  · omega
theorem canon_again {a b : List α} (ha : 1 ≤ a.length) (hb : 1 ≤ b.length) (pa : ∀ s, 1 ≤ s → s < a.length → ¬ IsPer a s) (pb : ∀ s, 1 ≤ s → s < b.length → ¬ IsPer b s) (h : ∀ n, pr a n = pr b n) : a = b := by
  have l1 := canon_len ha hb pa h
  have l2 := canon_len hb ha pb fun n => (h n).symm
  have l : a.length = b.length := Nat.le_antisymm l1 l2
  refine List.ext_getElem? fun i => ?_
  by_cases hi : i < a.length
  · have q := h i
    simp only [pr, Nat.mod_eq_of_lt hi, Nat.mod_eq_of_lt (l ▸ hi)] at q
    exact q
  · rw [List.getElem?_eq_none (by omega), List.getElem?_eq_none (by omega)]
theorem getLast?_get (a : List α) : a.getLast? = a[a.length - 1]? := List.getLast?_eq_getElem?
theorem canon_le {e a e' a' : List α} (c' : Canon e' a') (h1 : 1 ≤ a.length) (h : ∀ n, sq e a n = sq e' a' n) : e'.length ≤ e.length := by
  by_cases hlt : e.length < e'.length
  · exfalso
    have hp := c'.pos
    rcases c'.last with z | z
    · subst z; simp at hlt
    · apply z
      rw [getLast?_get, getLast?_get]
      have s1 : sq e' a' (e'.length - 1) = e'[e'.length - 1]? := sq_lo (by omega)
      have s2 : sq e' a' (e'.length - 1 + a'.length) = a'[a'.length - 1]? := by
        rw [sq_hi' (by omega), show e'.length - 1 + a'.length - e'.length = a'.length - 1 from by omega, Nat.mod_eq_of_lt (by omega)]
      rw [← s1, ← s2, ← h, ← h]
      have t1 := sq_per (e := e) (a := a) (n := e'.length - 1) (by omega) a'.length
      have t2 := sq_per (e := e) (a := a) (n := e'.length - 1 + a'.length) (by omega) a'.length
      have t3 := sq_per1 (e := e') (a := a') (n := e'.length - 1 + a'.length * a.length) (by
        have : 1 ≤ a'.length * a.length := Nat.mul_pos hp h1
        omega)
      rw [← t1, ← t2, h, h, ← t3]
      congr 1
      omega
  · omega
theorem canon_uniq {e a e' a' : List α} (c : Canon e a) (c' : Canon e' a') (h : ∀ n, sq e a n = sq e' a' n) : e = e' ∧ a = a' := by
  have l1 := canon_le c' c.pos h
  have l2 := canon_le c c'.pos fun n => (h n).symm
  have l : e.length = e'.length := Nat.le_antisymm l2 l1
  constructor
  · refine List.ext_getElem? fun i => ?_
    by_cases hi : i < e.length
    · rw [← sq_lo (a := a) hi, ← sq_lo (a := a') (l ▸ hi)]
      exact h i
    · rw [List.getElem?_eq_none (by omega), List.getElem?_eq_none (by omega)]
  · refine canon_again c.pos c'.pos c.prim c'.prim fun n => ?_
    have q := h (e.length + n)
    rw [sq_hi, l, sq_hi] at q
    exact q
theorem sq_take {e a : List α} {s : Nat} (h1 : 1 ≤ s) (h2 : s ≤ a.length) (h : IsPer a s) : ∀ n, sq e (a.take s) n = sq e a n := by
  intro n
  have hl : (a.take s).length = s := by simp; omega
  obtain ⟨hd, ee⟩ := (isPer_iff h1 h2).mp h
  unfold sq
  split
  · rfl
  · rw [hl, List.getElem?_take_of_lt (Nat.mod_lt _ h1), ee _ (Nat.mod_lt _ (by omega)), Nat.mod_mod_of_dvd _ (Nat.dvd_of_mod_eq_zero hd)]
theorem prim_take {a : List α} {s : Nat} (h1 : 1 ≤ s) (h2 : s ≤ a.length) (h : IsPer a s) (hm : ∀ t, 1 ≤ t → t < s → ¬ IsPer a t) : ∀ t, 1 ≤ t → t < (a.take s).length → ¬ IsPer (a.take s) t := by
  have hl : (a.take s).length = s := by simp; omega
  rw [hl]
  intro t ht hts hp
  refine hm t ht hts ?_
  have pd : Pd (pr (a.take s)) t := pd_of_isPer ht (by omega) hp
  have e : pr (a.take s) = pr a := funext fun n => by
    have := sq_take (e := ([] : List α)) h1 h2 h n
    simpa [sq, pr] using this
  rw [e] at pd
  have hd : s % t = 0 := hl ▸ hp.1
  exact isPer_of_pd ht (by omega) (Nat.mod_eq_zero_of_dvd (Nat.dvd_trans (Nat.dvd_of_mod_eq_zero hd) (Nat.dvd_of_mod_eq_zero h.1))) pd
/-- the last item goes ahead -/
def rot (a : List α) : List α := a.drop (a.length - 1) ++ a.take (a.length - 1)
theorem rot_len (a : List α) : (rot a).length = a.length := by simp only [rot, List.length_append, List.length_drop, List.length_take]; omega
theorem rot_get {a : List α} (h : 1 ≤ a.length) (n : Nat) : pr (rot a) n = pr a (n + (a.length - 1)) := by
  show (rot a)[n % (rot a).length]? = a[(n + (a.length - 1)) % a.length]?
  rw [rot_len]
  have hn : n % a.length < a.length := Nat.mod_lt _ h
  have e : (n + (a.length - 1)) % a.length = (n % a.length + (a.length - 1)) % a.length := by rw [Nat.mod_add_mod]
  rw [e]
  generalize n % a.length = m at hn
  unfold rot
  have hl : (a.drop (a.length - 1)).length = 1 := by simp; omega
  by_cases h0 : m = 0
  · subst h0
    rw [List.getElem?_append_left (by omega), List.getElem?_drop, Nat.zero_add, Nat.mod_eq_of_lt (by omega)]
    rfl
  · rw [List.getElem?_append_right (by omega), hl, List.getElem?_take_of_lt (by omega), show m + (a.length - 1) = (m - 1) + a.length from by omega, Nat.add_mod_right, Nat.mod_eq_of_lt (by omega)]
theorem prim_rot {a : List α} (h : 1 ≤ a.length) (hp : ∀ t, 1 ≤ t → t < a.length → ¬ IsPer a t) : ∀ t, 1 ≤ t → t < (rot a).length → ¬ IsPer (rot a) t := by
  rw [rot_len]
  intro t ht hta hq
  refine hp t ht hta (isPer_of_pd ht (by omega) (rot_len a ▸ hq.1) ?_)
  have pd := pd_of_isPer ht (by rw [rot_len]; omega) hq
  intro n
  have q := pd (n + 1)
  rw [rot_get h, rot_get h, show n + 1 + t + (a.length - 1) = n + t + a.length from by omega, show n + 1 + (a.length - 1) = n + a.length from by omega, pd_len a, pd_len a] at q
  exact q
theorem sq_rot {e a : List α} (h : 1 ≤ a.length) (he : e ≠ []) (hl : e.getLast? = a.getLast?) : ∀ n, sq e.dropLast (rot a) n = sq e a n := by
  intro n
  have hpos : 0 < e.length := List.length_pos_iff.mpr he
  have hd : e.dropLast.length = e.length - 1 := List.length_dropLast
  rcases Nat.lt_trichotomy n (e.length - 1) with hn | hn | hn
  · rw [sq_lo (by omega), sq_lo (by omega), List.getElem?_dropLast, if_pos hn]
  · have e1 : sq e.dropLast (rot a) n = pr (rot a) 0 := by
      rw [sq_hi' (by omega), hd, show n - (e.length - 1) = 0 from by omega]
    rw [e1, rot_get h, sq_lo (by omega), hn, ← getLast?_get, hl, getLast?_get]
    show a[(0 + (a.length - 1)) % a.length]? = _
    rw [Nat.zero_add, Nat.mod_eq_of_lt (by omega)]
  · have e1 : sq e.dropLast (rot a) n = pr (rot a) (n - (e.length - 1)) := by rw [sq_hi' (by omega), hd]
    rw [e1, rot_get h, sq_hi' (by omega), show n - (e.length - 1) + (a.length - 1) = (n - e.length) + a.length from by omega, pd_len a]
end
end MM
end

section
set_option autoImplicit false
namespace MM
/-- the crease at a place, half by half -/
def cr : List Bool → Nat → Bool
  | [], _ => false
  | f :: fs, p => if p = 2 ^ fs.length then f else if 2 ^ fs.length < p then !cr fs (2 * 2 ^ fs.length - p) else cr fs p
theorem two_pos (n : Nat) : 0 < 2 ^ n := Nat.pow_pos (by decide)
theorem two_succ (n : Nat) : 2 ^ (n + 1) = 2 * 2 ^ n := by rw [Nat.pow_succ, Nat.mul_comm]
/-- a place's exponent and odd number -/
structure Hv (p e o : Nat) : Prop where
  eq : p = 2 ^ e * o
  odd : o % 2 = 1
theorem hv_ex : ∀ (n p : Nat), p ≤ n → 0 < p → ∃ e o, Hv p e o
  | 0, p, h, h0 => by omega
  | n + 1, p, h, h0 => by
    by_cases hp : p % 2 = 0
    · obtain ⟨e, o, h1, h2⟩ := hv_ex n (p / 2) (by omega) (by omega)
      refine ⟨e + 1, o, ?_, h2⟩
      rw [two_succ, Nat.mul_assoc, ← h1]
      omega
    · exact ⟨0, p, by simp, by omega⟩
theorem hv_lt {p e o n : Nat} (h : Hv p e o) (h0 : p < 2 ^ n) : e < n := by
  have ho : 0 < o := by have := h.odd; omega
  have : 2 ^ e ≤ p := by rw [h.eq]; exact Nat.le_mul_of_pos_right _ ho
  exact (Nat.pow_lt_pow_iff_right (by decide : 1 < 2)).mp (Nat.lt_of_le_of_lt this h0)
theorem hv_uniq : ∀ {e p o e' o' : Nat}, Hv p e o → Hv p e' o' → e = e' ∧ o = o'
  | 0, p, o, 0, o', h, h' => ⟨rfl, by have a := h.eq; have b := h'.eq; simp at a b; omega⟩
  | 0, p, o, e' + 1, o', h, h' => by
    have a := h.eq; have b := h'.eq; have c := h.odd
    rw [two_succ, Nat.mul_assoc] at b
    simp at a
    omega
  | e + 1, p, o, 0, o', h, h' => by
    have a := h.eq; have b := h'.eq; have c := h'.odd
    rw [two_succ, Nat.mul_assoc] at a
    simp at b
    omega
  | e + 1, p, o, e' + 1, o', h, h' => by
    have a := h.eq; have b := h'.eq
    rw [two_succ, Nat.mul_assoc] at a b
    have := hv_uniq (p := p / 2) (e := e) (o := o) (e' := e') (o' := o') ⟨by omega, h.odd⟩ ⟨by omega, h'.odd⟩
    omega
theorem cr_eq : ∀ {fs : List Bool} {p e o : Nat}, 0 < p → p < 2 ^ fs.length → Hv p e o → ∀ f, fs[fs.length - 1 - e]? = some f → cr fs p = (f == decide (o % 4 = 1))
  | [], p, e, o, h0, h1, h, f, hf => by simp at hf
  | g :: fs, p, e, o, h0, h1, h, f, hf => by
    rw [List.length_cons, two_succ] at h1
    have hM := two_pos fs.length
    unfold cr
    by_cases c1 : p = 2 ^ fs.length
    · rw [if_pos c1]
      obtain ⟨rfl, rfl⟩ := hv_uniq h ⟨show p = 2 ^ fs.length * 1 by omega, by decide⟩
      simp at hf
      subst hf
      simp
    · rw [if_neg c1]
      by_cases c2 : 2 ^ fs.length < p
      · rw [if_pos c2]
        -- the mirrored place
        have ho : 0 < o := by have := h.odd; omega
        have he : e < fs.length := by
          have h3 : e < fs.length + 1 := hv_lt h (by rw [two_succ]; exact h1)
          by_cases q : e = fs.length
          · exfalso
            have a := h.eq
            rw [q] at a
            have o1 : o = 1 := by
              by_cases z : o = 1
              · exact z
              · exfalso
                have : 2 ^ fs.length * 2 ≤ 2 ^ fs.length * o := Nat.mul_le_mul_left _ (by have := h.odd; omega)
                omega
            rw [o1] at a
            omega
          · omega
        obtain ⟨d, hd⟩ : ∃ d, fs.length = e + 1 + d := ⟨fs.length - e - 1, by omega⟩
        have hpow : 2 * 2 ^ fs.length = 2 ^ e * (4 * 2 ^ d) := by
          rw [hd, Nat.pow_add, Nat.pow_add]
          simp only [Nat.pow_one]
          rw [show (4 : Nat) = 2 * 2 from rfl]
          simp only [Nat.mul_comm, Nat.mul_left_comm, Nat.mul_assoc]
        have a := h.eq
        have hlt : o < 4 * 2 ^ d := by
          have : 2 ^ e * o < 2 ^ e * (4 * 2 ^ d) := by rw [← a, ← hpow]; exact h1
          exact Nat.lt_of_mul_lt_mul_left this
        have h4 : Hv (2 * 2 ^ fs.length - p) e (4 * 2 ^ d - o) := ⟨by rw [hpow, a, Nat.mul_sub], by have := h.odd; omega⟩
        have hf' : fs[fs.length - 1 - e]? = some f := by
          rw [List.length_cons, show fs.length + 1 - 1 - e = (fs.length - 1 - e) + 1 from by omega, List.getElem?_cons_succ] at hf
          exact hf
        rw [cr_eq (by omega) (by omega) h4 f hf']
        have e1 : decide ((4 * 2 ^ d - o) % 4 = 1) = !decide (o % 4 = 1) := by
          have := h.odd
          by_cases z : o % 4 = 1
          · have : ¬ (4 * 2 ^ d - o) % 4 = 1 := by omega
            simp [z, this]
          · have : (4 * 2 ^ d - o) % 4 = 1 := by omega
            simp [z, this]
        rw [e1]
        cases f <;> cases decide (o % 4 = 1) <;> rfl
      · rw [if_neg c2]
        have he : e < fs.length := hv_lt h (by omega)
        have hf' : fs[fs.length - 1 - e]? = some f := by
          rw [List.length_cons, show fs.length + 1 - 1 - e = (fs.length - 1 - e) + 1 from by omega, List.getElem?_cons_succ] at hf
          exact hf
        exact cr_eq h0 (by omega) h f hf'
/-- all creases -/
def strip : List Bool → List Bool
  | [] => []
  | f :: fs => strip fs ++ f :: (strip fs).reverse.map not
theorem strip_len : ∀ fs : List Bool, (strip fs).length = 2 ^ fs.length - 1
  | [] => rfl
  | f :: fs => by
    have := two_pos fs.length
    rw [strip, List.length_append, List.length_cons, List.length_map, List.length_reverse, strip_len fs, List.length_cons, two_succ]
    omega
theorem strip_get : ∀ {fs : List Bool} {i : Nat}, i + 1 < 2 ^ fs.length → (strip fs)[i]? = some (cr fs (i + 1))
  | [], i, h => by simp at h
  | f :: fs, i, h => by
    have hM := two_pos fs.length
    rw [List.length_cons, two_succ] at h
    have hl := strip_len fs
    rw [strip]
    unfold cr
    by_cases c1 : i + 1 = 2 ^ fs.length
    · rw [if_pos c1, List.getElem?_append_right (by omega), show i - (strip fs).length = 0 from by omega]
      rfl
    · rw [if_neg c1]
      by_cases c2 : 2 ^ fs.length < i + 1
      · rw [if_pos c2, List.getElem?_append_right (by omega), show i - (strip fs).length = (i - 2 ^ fs.length) + 1 from by omega, List.getElem?_cons_succ, List.getElem?_map, List.getElem?_reverse (by omega),
          show (strip fs).length - 1 - (i - 2 ^ fs.length) = 2 * 2 ^ fs.length - (i + 1) - 1 from by omega]
        rw [strip_get (fs := fs) (by omega)]
        show some (!cr fs (2 * 2 ^ fs.length - (i + 1) - 1 + 1)) = _
        rw [show 2 * 2 ^ fs.length - (i + 1) - 1 + 1 = 2 * 2 ^ fs.length - (i + 1) from by omega]
      · rw [if_neg c2, List.getElem?_append_left (by omega)]
        exact strip_get (by omega)
/-- how many valleys up to a place; folds from the last one -/
def val : List Bool → Nat → Nat
  | [], _ => 0
  | f :: r, p => (if f then (p + 3) / 4 else (p + 1) / 4) + val r (p / 2)
theorem val_step : ∀ {r : List Bool} {p e o : Nat}, 0 < p → Hv p e o → ∀ f, r[e]? = some f → val r p = val r (p - 1) + (f == decide (o % 4 = 1)).toNat
  | [], p, e, o, h0, h, f, hf => by simp at hf
  | g :: r, p, 0, o, h0, h, f, hf => by
    have a := h.eq
    have b := h.odd
    simp at a hf
    subst hf a
    unfold val
    rw [show (p - 1) / 2 = p / 2 from by omega]
    cases g
    · simp only [Bool.false_eq_true, if_false]
      by_cases z : p % 4 = 1
      · simp [z]; omega
      · simp [z]; omega
    · simp only [if_true]
      by_cases z : p % 4 = 1
      · simp [z]; omega
      · simp [z]; omega
  | g :: r, p, e + 1, o, h0, h, f, hf => by
    have a := h.eq
    rw [two_succ, Nat.mul_assoc] at a
    have ho : 0 < 2 ^ e * o := Nat.mul_pos (two_pos e) (by have := h.odd; omega)
    unfold val
    rw [List.getElem?_cons_succ] at hf
    rw [val_step (p := p / 2) (e := e) (o := o) (by omega) ⟨by omega, h.odd⟩ f hf, show (p - 1) / 2 = p / 2 - 1 from by omega]
    cases g
    · simp only [Bool.false_eq_true, if_false]; omega
    · simp only [if_true]; omega
theorem val_zero : ∀ r : List Bool, val r 0 = 0
  | [] => rfl
  | f :: r => by
    unfold val
    rw [val_zero r]
    cases f <;> rfl
theorem val_cr {fs : List Bool} {p : Nat} (h0 : 0 < p) (h1 : p < 2 ^ fs.length) : val fs.reverse p = val fs.reverse (p - 1) + (cr fs p).toNat := by
  obtain ⟨e, o, h⟩ := hv_ex p p (Nat.le_refl _) h0
  have he := hv_lt h h1
  obtain ⟨f, hf⟩ : ∃ f, fs[fs.length - 1 - e]? = some f := ⟨_, List.getElem?_eq_getElem (by omega)⟩
  rw [cr_eq h0 h1 h f hf]
  exact val_step h0 h f (by rw [List.getElem?_reverse he]; exact hf)
theorem val_count {fs : List Bool} : ∀ {p : Nat}, p < 2 ^ fs.length → val fs.reverse p = ((strip fs).take p).countP id
  | 0, _ => by rw [val_zero]; rfl
  | p + 1, h => by
    rw [val_cr (by omega) h, Nat.add_sub_cancel, val_count (by omega), List.take_add_one, strip_get h, List.countP_append]
    cases cr fs (p + 1) <;> rfl
theorem countP_not (l : List Bool) : (l.map not).countP id + l.countP id = l.length := by
  induction l with
  | nil => rfl
  | cons x l ih =>
    cases x <;> simp only [List.map_cons, List.countP_cons, id, Bool.not_false, Bool.not_true, if_true, Bool.false_eq_true, if_false, List.length_cons] <;> omega
/-- all valleys -/
theorem val_all (f : Bool) (fs : List Bool) : val (f :: fs).reverse (2 * 2 ^ fs.length - 1) = (2 ^ fs.length - 1) + f.toNat := by
  have hM := two_pos fs.length
  rw [val_count (by rw [List.length_cons, two_succ]; omega), List.take_of_length_le (by rw [strip_len, List.length_cons, two_succ]; omega), strip, List.countP_append, List.countP_cons]
  have := countP_not (strip fs)
  rw [strip_len] at this
  rw [List.map_reverse, List.countP_reverse]
  cases f <;> simp only [id, if_true, Bool.false_eq_true, if_false, Bool.toNat_true, Bool.toNat_false] <;> omega
end MM
end

section
set_option Elab.async false
set_option linter.all false
set_option maxRecDepth 100000
set_option autoImplicit false
namespace MS
open PySem DE L2
def chN (b : Bool) : Nat := bif b then 118 else 109
def sT (l : List Bool) : Str := ⟨(l.map chN).toArray⟩
theorem chN_inj : ∀ {a b : Bool}, chN a = chN b → a = b
  | true, true, _ => rfl | false, false, _ => rfl | true, false, h => by cases h | false, true, h => by cases h
theorem map_inj : ∀ {a b : List Bool}, a.map chN = b.map chN → a = b
  | [], [], _ => rfl
  | [], _ :: _, h => by cases h
  | _ :: _, [], h => by cases h
  | x :: a, y :: b, h => by
    simp only [List.map_cons, List.cons.injEq] at h
    rw [chN_inj h.1, map_inj h.2]
theorem sT_inj {a b : List Bool} (h : sT a = sT b) : a = b := map_inj (by
  have := congrArg (fun s => s.cps.toList) h
  simpa [sT] using this)
theorem sT_nil : sT [] = Str.ofString "" := by decide +kernel
theorem sT_v : sT [true] = Str.ofString "v" := by decide +kernel
theorem sT_m : sT [false] = Str.ofString "m" := by decide +kernel
theorem sT_len (l : List Bool) : (sT l).length = l.length := by simp [sT, Str.length]
theorem sT_app (a b : List Bool) : sT a ++ sT b = sT (a ++ b) := by
  show Str.append _ _ = _
  simp [Str.append, sT]
theorem sT_ok (l : List Bool) : PyData.strOk (sT l) = true := by
  simp only [PyData.strOk, sT, List.all_toArray, List.all_map, List.all_eq_true]
  intro b _
  cases b <;> decide
theorem eq_sT (a b : List Bool) : opEq (.str (sT a)) (.str (sT b)) = some (a == b) := by
  rw [opEq_strs (sT_ok a) (sT_ok b)]
  congr 1
  rw [Bool.eq_iff_iff, beq_iff_eq, beq_iff_eq]
  exact ⟨sT_inj, fun h => by rw [h]⟩
theorem rev_sT (l : List Bool) : (⟨(sT l).cps.toList.reverse.toArray⟩ : Str) = sT l.reverse := by
  simp [sT]
theorem cut_sT (l : List Bool) (lo hi : Option Int) : cutS (sT l) lo hi = sT (cutP l lo hi) := by
  unfold cutS cutP
  rw [sT_len]
  simp [sT, List.map_take, List.map_drop]
theorem seq_sT (l : List Bool) : ((sT l).cps.toList.map fun c => P.str ⟨#[c]⟩) = l.map fun b => P.str (sT [b]) := by
  simp only [sT, List.map_map]
  rfl
theorem allStr_sT : ∀ l : List Bool, allStr (l.map fun b => P.str (sT [b])) = some (l.map fun b => sT [b])
  | [] => rfl
  | x :: l => by
    simp only [List.map_cons, allStr, allStr_sT l, Option.map_some]
theorem sjoin_sT : ∀ l : List Bool, Str.join (Str.ofString "") (l.map fun b => sT [b]) = sT l
  | [] => by decide +kernel
  | [x] => rfl
  | x :: y :: r => by
    have h := sjoin_sT (y :: r)
    show sT [x] ++ Str.ofString "" ++ Str.join (Str.ofString "") ((y :: r).map fun b => sT [b]) = _
    rw [h, ← sT_nil, sT_app, sT_app]
    rfl
theorem join_sT (l : List Bool) : Txt.join (Str.ofString "") (l.map fun b => sT [b]) = sT l := by
  unfold Txt.join
  rw [StrLaws.glued_eq_join]
  exact sjoin_sT l
theorem joinP_sT {l : List Bool} (h : l.length ≤ 100000) : joinP (Str.ofString "") (allStr (l.map fun b => P.str (sT [b]))) = some (.str (sT l)) := by
  rw [allStr_sT]
  have e1 : ((l.map fun b => sT [b]).map (·.length)).sum = l.length := by
    clear h
    induction l with
    | nil => rfl
    | cons x l ih => simp only [List.map_cons, List.sum_cons, ih, sT_len, List.length_cons, List.length_nil]; omega
  have e2 : joinLen (Str.ofString "") (l.map fun b => sT [b]) = true := by
    unfold joinLen
    rw [e1, ← sT_nil, sT_len, decide_eq_true_eq, List.length_nil]
    omega
  show (if joinLen (Str.ofString "") (l.map fun b => sT [b]) then some (P.str (Txt.join (Str.ofString "") (l.map fun b => sT [b]))) else none) = _
  rw [e2, join_sT]
  rfl
open Builtin Builtin.Str StrLaws in
theorem occ_count (x : Str) (c limit : Nat) : ∀ (m a free : Nat) (arr : Array Nat), free ≤ a → arr.size + m ≤ limit →
    (forIn (List.range' a m) (arr, free) (occBody x ⟨#[c]⟩ x.length limit)).run.fst.size = arr.size + ((List.range' a m).countP fun i => x.cps.toList[i]? == some c)
  | 0, a, free, arr, _, _ => by simp
  | m + 1, a, free, arr, hf, hl => by
    rw [List.range'_succ, List.forIn_cons]
    unfold occBody
    by_cases hc : a + (⟨#[c]⟩ : Str).length ≤ x.length ∧ subAt x ⟨#[c]⟩ a = true
    · have c1 : (((arr, free).fst.size < limit ∧ (arr, free).snd ≤ a) ∧ a + (⟨#[c]⟩ : Str).length ≤ x.length) ∧ subAt x ⟨#[c]⟩ a = true := ⟨⟨⟨by show arr.size < limit; omega, hf⟩, hc.1⟩, hc.2⟩
      rw [if_pos c1]
      have ih := occ_count x c limit m (a + 1) (a + 1) (arr.push a) (Nat.le_refl _) (by rw [Array.size_push]; omega)
      have h1 : x.cps.toList[a]? = some c := (subAt_one x c a).mp hc
      rw [List.countP_cons_of_pos (by rw [h1]; exact beq_self_eq_true _)]
      refine Eq.trans ih ?_
      rw [Array.size_push]
      omega
    · have c1 : ¬ ((((arr, free).fst.size < limit ∧ (arr, free).snd ≤ a) ∧ a + (⟨#[c]⟩ : Str).length ≤ x.length) ∧ subAt x ⟨#[c]⟩ a = true) := fun h => hc ⟨h.1.2, h.2⟩
      rw [if_neg c1]
      have ih := occ_count x c limit m (a + 1) free arr (by omega) (by omega)
      have h1 : ¬ x.cps.toList[a]? = some c := fun h => hc ((subAt_one x c a).mpr h)
      rw [List.countP_cons_of_neg (by rw [beq_iff_eq]; exact h1)]
      exact ih
theorem countP_range (l : List Nat) (c : Nat) : ∀ (m a : Nat), l.length ≤ a + m → ((List.range' a m).countP fun i => l[i]? == some c) = (l.drop a).countP (· == c)
  | 0, a, h => by rw [List.drop_of_length_le (by omega)]; rfl
  | m + 1, a, h => by
    rw [List.range'_succ, List.countP_cons, countP_range l c m (a + 1) (by omega)]
    by_cases ha : a < l.length
    · rw [List.drop_eq_getElem_cons ha, List.countP_cons, List.getElem?_eq_getElem ha]
      rfl
    · rw [List.drop_of_length_le (by omega), List.drop_of_length_le (by omega), List.getElem?_eq_none (by omega)]
      rfl
theorem count_one (x : Str) (c : Nat) : Txt.count x ⟨#[c]⟩ = ((x.cps.toList.countP (· == c) : Nat) : Int) := by
  unfold Txt.count
  rw [StrLaws.occ_eq, Array.length_toList, Nat.sub_zero, occ_count x c (x.length + 1) (x.length + 1) 0 0 #[] (Nat.le_refl _) (by simp), countP_range _ _ _ _ (by simp [Str.length])]
  simp
theorem count_sT (l : List Bool) : Txt.count (sT l) (Str.ofString "v") = ((l.countP id : Nat) : Int) := by
  rw [← sT_v]
  show Txt.count (sT l) ⟨#[118]⟩ = _
  rw [count_one]
  simp only [sT, List.countP_map]
  congr 2
  funext b
  cases b <;> rfl
end MS
end

section
set_option Elab.async false
set_option linter.all false
set_option maxRecDepth 100000
set_option autoImplicit false
namespace M5
open MM
/-- a place's exponent and odd number -/
noncomputable def hvE (p : Nat) : Nat × Nat := open Classical in if h : ∃ q : Nat × Nat, Hv p q.1 q.2 then h.choose else (0, 0)
theorem hvE_ok {p : Nat} (h : 0 < p) : Hv p (hvE p).1 (hvE p).2 := by
  obtain ⟨e, o, h1⟩ := hv_ex p p (Nat.le_refl _) h
  have q : ∃ q : Nat × Nat, Hv p q.1 q.2 := ⟨(e, o), h1⟩
  unfold hvE
  rw [dif_pos q]
  exact q.choose_spec
theorem hvE_eq {p e o : Nat} (h0 : 0 < p) (h : Hv p e o) : hvE p = (e, o) := by
  obtain ⟨h1, h2⟩ := hv_uniq (hvE_ok h0) h
  exact Prod.ext h1 h2
/-- the fold told, and its number -/
noncomputable def fx (s : Nat × Bool) : Bool := s.2 == decide ((hvE s.1).2 % 4 = 1)
noncomputable def ix (n : Nat) (p : Nat) : Nat := n - 1 - (hvE p).1
theorem ix_lt {n p : Nat} (h0 : 0 < p) (h : p < 2 ^ n) : ix n p < n := by
  have := hv_lt (hvE_ok h0) h
  unfold ix
  omega
def gd1 (fs : List Bool) (s : Nat × Bool) : Bool := decide (s.1 < 2 ^ fs.length) && (cr fs s.1 == s.2)
def gs (fs : List Bool) (S : List (Nat × Bool)) : Bool := S.all (gd1 fs)
theorem cr_ix {n p : Nat} {fs : List Bool} (hl : fs.length = n) (h0 : 0 < p) (h : p < 2 ^ n) {f : Bool} (hf : fs[ix n p]? = some f) : cr fs p = (f == decide ((hvE p).2 % 4 = 1)) := by
  subst hl
  exact cr_eq h0 h (hvE_ok h0) f hf
theorem gd_iff {n : Nat} {fs : List Bool} (hl : fs.length = n) {s : Nat × Bool} (h0 : 0 < s.1) : gd1 fs s = true ↔ s.1 < 2 ^ n ∧ fs[ix n s.1]? = some (fx s) := by
  unfold gd1
  rw [hl, Bool.and_eq_true, decide_eq_true_eq]
  refine and_congr_right fun h => ?_
  have hi := ix_lt h0 h
  obtain ⟨f, hf⟩ : ∃ f, fs[ix n s.1]? = some f := ⟨_, List.getElem?_eq_getElem (by omega)⟩
  rw [cr_ix hl h0 h hf, hf, Option.some.injEq, beq_iff_eq]
  unfold fx
  generalize decide ((hvE s.1).2 % 4 = 1) = d
  generalize s.2 = c
  cases f <;> cases d <;> cases c <;> simp
/-- all folds as sights tell them -/
noncomputable def tl (n : Nat) : List (Nat × Bool) → List (Option Bool) → Option (List (Option Bool))
  | [], L => some L
  | s :: S, L => if s.1 < 2 ^ n ∧ (L[ix n s.1]? = some none ∨ L[ix n s.1]? = some (some (fx s))) then tl n S (L.set (ix n s.1) (some (fx s))) else none
def ag (fs : List Bool) (L : List (Option Bool)) : Prop := ∀ (i : Nat) (b : Bool), L[i]? = some (some b) → fs[i]? = some b
theorem ag_set {n i : Nat} {fs : List Bool} {L : List (Option Bool)} {f : Bool} (hL : L.length = n) (hi : i < n) (h : L[i]? = some none ∨ L[i]? = some (some f)) : ag fs (L.set i (some f)) ↔ ag fs L ∧ fs[i]? = some f := by
  have self : (L.set i (some f))[i]? = some (some f) := by rw [List.getElem?_set_self (by omega)]
  constructor
  · intro a
    refine ⟨fun j b hj => ?_, a i f self⟩
    by_cases e : i = j
    · subst e
      rcases h with h | h
      · rw [h] at hj; cases hj
      · rw [h] at hj; cases hj; exact a i f self
    · exact a j b (by rw [List.getElem?_set_ne e]; exact hj)
  · rintro ⟨a, hf⟩ j b hj
    by_cases e : i = j
    · subst e
      rw [self] at hj
      cases hj
      exact hf
    · rw [List.getElem?_set_ne e] at hj
      exact a j b hj
theorem tl_some {n : Nat} : ∀ {S : List (Nat × Bool)} {L M : List (Option Bool)}, L.length = n → (∀ s ∈ S, 0 < s.1) → tl n S L = some M → M.length = n ∧ (∀ s ∈ S, s.1 < 2 ^ n) ∧ ∀ fs : List Bool, fs.length = n → (ag fs M ↔ ag fs L ∧ gs fs S = true)
  | [], L, M, hL, _, h => by
    cases h
    exact ⟨hL, (fun _ h => nomatch h), fun fs _ => by simp [gs]⟩
  | s :: S, L, M, hL, hp, h => by
    unfold tl at h
    split at h
    · rename_i hc
      have h0 := hp s List.mem_cons_self
      have hi := ix_lt h0 hc.1
      obtain ⟨h1, h2, h3⟩ := tl_some (by rw [List.length_set]; exact hL) (fun s hs => hp s (List.mem_cons_of_mem _ hs)) h
      refine ⟨h1, fun z hz => ?_, fun fs hl => ?_⟩
      · rcases List.mem_cons.mp hz with rfl | hz
        · exact hc.1
        · exact h2 z hz
      · rw [h3 fs hl, ag_set hL hi hc.2]
        unfold gs
        rw [List.all_cons, Bool.and_eq_true, gd_iff hl h0]
        constructor
        · rintro ⟨⟨a, b⟩, c⟩
          exact ⟨a, ⟨hc.1, b⟩, c⟩
        · rintro ⟨a, ⟨_, b⟩, c⟩
          exact ⟨⟨a, b⟩, c⟩
    · cases h
theorem tl_none {n : Nat} : ∀ {S : List (Nat × Bool)} {L : List (Option Bool)}, L.length = n → (∀ s ∈ S, 0 < s.1) → tl n S L = none → ∀ fs : List Bool, fs.length = n → ag fs L → gs fs S = false
  | [], L, hL, _, h => by cases h
  | s :: S, L, hL, hp, h => by
    intro fs hl a
    have h0 := hp s List.mem_cons_self
    unfold tl at h
    unfold gs
    rw [List.all_cons]
    split at h
    · rename_i hc
      have hi := ix_lt h0 hc.1
      cases hg : gd1 fs s with
      | false => rfl
      | true =>
        exact tl_none (by rw [List.length_set]; exact hL) (fun s hs => hp s (List.mem_cons_of_mem _ hs)) h fs hl ((ag_set hL hi hc.2).mpr ⟨a, ((gd_iff hl h0).mp hg).2⟩)
    · rename_i hc
      cases hg : gd1 fs s with
      | false => rfl
      | true =>
        obtain ⟨q1, q2⟩ := (gd_iff hl h0).mp hg
        have hi := ix_lt h0 q1
        refine absurd ⟨q1, ?_⟩ hc
        cases hLi : L[ix n s.1]? with
        | none => rw [List.getElem?_eq_none_iff] at hLi; omega
        | some o =>
          cases o with
          | none => exact .inl rfl
          | some b =>
            right
            have := a _ b hLi
            rw [q2] at this
            cases this
            rfl
def L0 (n : Nat) : List (Option Bool) := List.replicate n none
theorem L0_len (n : Nat) : (L0 n).length = n := List.length_replicate
theorem ag_L0 (n : Nat) (fs : List Bool) : ag fs (L0 n) := fun i b h => by
  have := List.mem_of_getElem? h
  have := (List.mem_replicate.mp this).2
  cases this
/-- a strip that goes with what is told, otherwise as wanted -/
def fillB (M : List (Option Bool)) (i : Nat) (c : Bool) : List Bool := M.mapIdx fun j o => o.getD (if j = i then c else true)
theorem fillB_len (M : List (Option Bool)) (i : Nat) (c : Bool) : (fillB M i c).length = M.length := by simp [fillB]
theorem fillB_ag (M : List (Option Bool)) (i : Nat) (c : Bool) : ag (fillB M i c) M := fun j b h => by
  simp [fillB, h]
theorem fillB_at {M : List (Option Bool)} {i : Nat} {c : Bool} (h : M[i]? = some none) : (fillB M i c)[i]? = some c := by
  simp [fillB, h]
/-- a pair of sights -/
noncomputable def pq (n : Nat) (s t : Nat × Bool) : Bool := decide (ix n s.1 = ix n t.1) && (fx s != fx t)
theorem pair_iff {n : Nat} {s t : Nat × Bool} (hs : 0 < s.1) (ht : 0 < t.1) (hs2 : s.1 < 2 ^ n) (ht2 : t.1 < 2 ^ n) : (∀ fs : List Bool, fs.length = n → gs fs [s, t] = false) ↔ pq n s t = true := by
  have g : ∀ fs : List Bool, fs.length = n → (gs fs [s, t] = true ↔ fs[ix n s.1]? = some (fx s) ∧ fs[ix n t.1]? = some (fx t)) := fun fs hl => by
    unfold gs
    simp only [List.all_cons, List.all_nil, Bool.and_true, Bool.and_eq_true, gd_iff hl hs, gd_iff hl ht, hs2, ht2, true_and]
  have is := ix_lt hs hs2
  have it := ix_lt ht ht2
  unfold pq
  rw [Bool.and_eq_true, decide_eq_true_eq, bne_iff_ne]
  constructor
  · intro h
    by_cases e : ix n s.1 = ix n t.1
    · refine ⟨e, fun q => ?_⟩
      have := h (List.replicate n (fx s)) (by simp)
      rw [(g _ (by simp)).mpr ⟨by simp [is], by simp [it, q]⟩] at this
      cases this
    · exfalso
      have := h ((List.replicate n (fx s)).set (ix n t.1) (fx t)) (by simp)
      rw [(g _ (by simp)).mpr ⟨by rw [List.getElem?_set_ne (Ne.symm e)]; simp [is], by rw [List.getElem?_set_self (by simpa using it)]⟩] at this
      cases this
  · rintro ⟨e, d⟩ fs hl
    cases q : gs fs [s, t] with
    | false => rfl
    | true =>
      obtain ⟨q1, q2⟩ := (g fs hl).mp q
      rw [e, q2] at q1
      exact absurd (Option.some.inj q1).symm d
/-- the first pair -/
def fp (m : Nat) (q : Nat → Nat → Bool) : Option (Nat × Nat) := (List.range m).findSome? fun i => ((List.range' (i + 1) (m - (i + 1))).find? (q i)).map fun j => (i, j)
end M5
end

section
set_option Elab.async false
set_option linter.all false
set_option maxRecDepth 100000
set_option maxHeartbeats 2000000
set_option autoImplicit false
namespace DH
open PySem PySem.Spec PyProof.Rows L2 HotX
section
variable {prog : Program} {w : World} {A : Around} {E : Value → Shared → Prop} {s : Shared}
theorem nextOf_list_end {it l x1 : Addr} {i : Nat} {items : Array Value} {Q : Value → Shared → Prop} (hot : HotAt A x1 s.heap) (hne : x1 ≠ it) (hit : s.heap.IsListIter it l i) (hl : s.heap.IsList l items) (hx : items[i]? = none)
    (hE : ∀ h' e, Heap.ExtBut it s.heap h' → (∃ o, h'.get? e = some o ∧ o.cls = .type "StopIteration") → E (.ref e) { s with heap := h' }) : wpAny (model prog w) A (Builtin.SmallTypes.nextOf (.ref it)) Q E s := by
  obtain ⟨o, ho, hc, hd⟩ := id hit
  obtain ⟨ol, hol, _, nl, hdl⟩ := hl
  obtain ⟨hh, o1, vs1, h1, d1, c1⟩ := hot
  have hu : ∀ f, (s.heap.update it f).get? x1 = some o1 := fun f => by
    rw [Heap.get?_update_other _ _ (Ne.symm hne)]
    exact h1
  unfold Builtin.SmallTypes.nextOf
  refine wpAny_bind (wpAny_callSpecial?_slot (name := Str.ofString "__next__") hit.typeIs slot_listiter_next
    (wpAny_call_entry slot_listiter_next hit.typeIs entry_listiter_next ?_ (args_listiter_next _)))
  show wpAny _ _ (field (.ref it) 0 >>= _) _ _ s
  refine wpAny_bind (wpAny_field ho hd (x := .ref l) rfl ?_)
  show wpAny _ _ (if (Value.ref l == Value.none) = true then _ else _) _ _ s
  rw [if_neg (show ¬ ((Value.ref l == Value.none) = true) from Bool.false_ne_true)]
  show wpAny _ _ (field (.ref it) 1 >>= _) _ _ s
  refine wpAny_bind (wpAny_field ho hd (x := .int i 0) rfl ?_)
  show wpAny _ _ (seqItems? (.ref l) >>= _) _ _ s
  refine wpAny_bind (wpAny_seqItems hol hdl ?_)
  simp only [Int.toNat_natCast, hx]
  refine wpAny_bind (wpAny_rule (wpAny_bind (wpAny_setField ho hd (by simp) ?_)))
  show wpAny _ _ (newExc (.type "StopIteration") [] >>= _) _ _ _
  refine wpAny_bind ?_
  simp only [newExc, newTuple]
  refine wpAny_bind (wpAny_newObj_type ?_ (by size_fits))
  refine wpAny_bind (m := firstArgMember _ _) (wpAny_of_eq (a := Value.none) (by first | rfl | (simp only [firstArgMember]; rfl)) ?_)
  refine wpAny_newObj_type ?_ (by size_fits)
  refine raiseNew_hot ⟨hh, o1, vs1, Heap.get?_push_of_some _ (Heap.get?_push_of_some _ (hu _)), d1, c1⟩ (Nat.ne_of_lt (Heap.lt_size (Heap.get?_push_of_some _ (hu _)))) (Heap.get?_push_size _ rfl) rfl (by rw [Array.size_append]; exact Nat.lt_of_lt_of_le (show 2 < 6 by decide) (Nat.le_add_right _ _)) ?_
  refine hE _ _ (fun b o hb e => ?_) ⟨_, Heap.get?_update_self _ (Heap.get?_push_size _ rfl) rfl, rfl⟩
  have e2 : ∀ f, (s.heap.update it f).get? b = some o := fun f => (Heap.get?_update_other _ _ (Ne.symm hb)).trans e
  rw [Heap.get?_update_other _ _ (Nat.ne_of_gt (Heap.lt_size (Heap.get?_push_of_some _ (e2 _))))]
  exact Heap.get?_push_of_some _ (Heap.get?_push_of_some _ (e2 _))
theorem draws_list {x1 : Addr} {o1 : Obj} {vs1 : Array Value} (hh : A.handled = some (.ref x1)) (d1 : o1.data = .fields vs1) (c1 : vs1[2]? = some .none) (it l : Addr) (hne : l ≠ it) (hx : x1 ≠ it) (items : Array Value) :
    Draws prog w A it [it, l, x1] items.size (fun i v => items[i]? = some v) (fun i h => (h.IsListIter it l i ∧ h.IsList l items) ∧ h.get? x1 = some o1) where
  live := fun _ _ st => let ⟨o, ho, _⟩ := st.1.1; ⟨o, ho⟩
  frame := fun _ _ _ st hk => ⟨⟨st.1.1.at fun o e => hk it (by simp) o e, st.1.2.at fun o e => hk l (by simp) o e⟩, hk x1 (by simp) _ st.2⟩
  item := fun i s Q E hi st hQ => by
    refine wpAny_nextOf_list_item st.1.1 st.1.2 (x := items[i]) (by simp [hi]) fun h' hit' hs' => ?_
    exact hQ _ h' s.toks (by simp [hi]) ⟨⟨hit', st.1.2.extBut hs'.extBut hne⟩, hs'.extBut _ _ hx st.2⟩ hs'
  done := fun s Q E st hE => nextOf_list_end ⟨hh, o1, vs1, st.2, d1, c1⟩ hx st.1.1 st.1.2 (by simp) hE
theorem next_tuple_end {it t x1 : Addr} {i : Nat} {items : Array Value} {Q : Option Value → Shared → Prop} (hot : HotAt A x1 s.heap) (hne : x1 ≠ it) (hit : IsTupIter s.heap it t i) (ht : IsTup s.heap t items) (hx : items[i]? = none)
    (hQ : ∀ h', Heap.ExtBut it s.heap h' → Q none { s with heap := h' }) : wpAny (model prog w) A (pyNext (.ref it)) Q E s := by
  obtain ⟨o, ho, hc, hd⟩ := id hit
  obtain ⟨ol, hol, _, nl, hdl⟩ := ht
  obtain ⟨hh, o1, vs1, h1, d1, c1⟩ := hot
  have hu : ∀ f, (s.heap.update it f).get? x1 = some o1 := fun f => by
    rw [Heap.get?_update_other _ _ (Ne.symm hne)]
    exact h1
  unfold pyNext
  refine wpAny_bind (wpAny_attempt (wpAny_callSpecial?_slot (name := Str.ofString "__next__") hit.typeIs slot_tupleiter_next
    (wpAny_call_entry slot_tupleiter_next hit.typeIs entry_tupleiter_next ?_ (args_tupleiter_next _))))
  show wpAny _ _ (field (.ref it) 0 >>= _) _ _ s
  refine wpAny_bind (wpAny_field ho hd (x := .ref t) rfl ?_)
  show wpAny _ _ (if (Value.ref t == Value.none) = true then _ else _) _ _ s
  rw [if_neg (show ¬ ((Value.ref t == Value.none) = true) from Bool.false_ne_true)]
  show wpAny _ _ (field (.ref it) 1 >>= _) _ _ s
  refine wpAny_bind (wpAny_field ho hd (x := .int i 0) rfl ?_)
  show wpAny _ _ (seqItems? (.ref t) >>= _) _ _ s
  refine wpAny_bind (wpAny_seqItems hol hdl ?_)
  simp only [Int.toNat_natCast, hx]
  refine wpAny_bind (wpAny_rule (wpAny_bind (wpAny_setField ho hd (by simp) ?_)))
  show wpAny _ _ (newExc (.type "StopIteration") [] >>= _) _ _ _
  refine wpAny_bind ?_
  simp only [newExc, newTuple]
  refine wpAny_bind (wpAny_newObj_type ?_ (by size_fits))
  refine wpAny_bind (m := firstArgMember _ _) (wpAny_of_eq (a := Value.none) (by first | rfl | (simp only [firstArgMember]; rfl)) ?_)
  refine wpAny_newObj_type ?_ (by size_fits)
  refine raiseNew_hot ⟨hh, o1, vs1, Heap.get?_push_of_some _ (Heap.get?_push_of_some _ (hu _)), d1, c1⟩ (Nat.ne_of_lt (Heap.lt_size (Heap.get?_push_of_some _ (hu _)))) (Heap.get?_push_size _ rfl) rfl (by rw [Array.size_append]; exact Nat.lt_of_lt_of_le (show 2 < 6 by decide) (Nat.le_add_right _ _)) ?_
  refine wpAny_bind (wpAny_isInstance (T := "StopIteration") (b := true) ⟨_, Heap.get?_update_self _ (Heap.get?_push_size _ rfl) rfl, rfl⟩ isSubtype_stop ?_)
  refine wpAny_pure (hQ _ fun b o hb e => ?_)
  have e2 : ∀ f, (s.heap.update it f).get? b = some o := fun f => (Heap.get?_update_other _ _ (Ne.symm hb)).trans e
  rw [Heap.get?_update_other _ _ (Nat.ne_of_gt (Heap.lt_size (Heap.get?_push_of_some _ (e2 _))))]
  exact Heap.get?_push_of_some _ (Heap.get?_push_of_some _ (e2 _))
theorem unpackItems_tuple {t x1 : Addr} {items : Array Value} {Q : List Value → Shared → Prop} (hot : HotAt A x1 s.heap) (ht : IsTup s.heap t items)
    (hQ : ∀ h', Heap.ExtBut s.heap.objs.size s.heap h' → Q items.toList { s with heap := h' }) : wpAny (model prog w) A (unpackItems (.ref t) items.size none) Q E s := by
  have hlt : t ≠ s.heap.objs.size := by obtain ⟨o, ho, _⟩ := ht; exact Nat.ne_of_lt (Heap.lt_size ho)
  obtain ⟨hh, o1, vs1, h1, d1, c1⟩ := hot
  have hx1 : x1 ≠ s.heap.objs.size := Nat.ne_of_lt (Heap.lt_size h1)
  unfold unpackItems
  refine wpAny_bind ?_
  · unfold notIterableAtAll
    refine wpAny_bind (wpAny_specialOf ht.typeIs slot_tuple_iter.lookup ?_)
    refine wpAny_pure ?_
    simp only [Bool.false_eq_true, if_false]
    refine wpAny_bind (wpAny_holding (iter_tuple ht ?_))
    refine wpAny_bind (wpAny_holding (draw_tuple hlt items.size 0 _ _ ⟨_, Heap.get?_push_size _ rfl, rfl, rfl⟩ (ht.push _) (by omega) fun h₁ hit₁ hs₁ => ?_))
    have hall : List.take items.size (List.drop 0 items.toList) = items.toList := by
      rw [List.drop_zero]; exact List.take_of_length_le (by simp)
    rw [hall]
    rw [if_neg (by simp)]
    have ht₁ : IsTup h₁ t items := (ht.push _).extBut hs₁.extBut hlt
    have h1' : h₁.get? x1 = some o1 := hs₁.extBut _ _ hx1 (Heap.get?_push_of_some _ h1)
    refine wpAny_bind (wpAny_holding (next_tuple_end ⟨hh, o1, vs1, h1', d1, c1⟩ hx1 hit₁ ht₁ (by simp) fun h₂ he₂ => ?_))
    simp only [Option.isSome_none, Bool.false_eq_true, if_false]
    refine wpAny_pure (hQ h₂ fun b o hb e => he₂ b o hb (hs₁.extBut b o hb (Heap.get?_push_of_some _ e)))
theorem assign_tuple {env : Env} {elts : List Expr} {kk : Nat} {pos : Pos} {t x1 : Addr} {items : Array Value} {Q : Unit → Shared → Prop} (hot : HotAt A x1 s.heap) (ht : IsTup s.heap t items)
    (hn : (assignEach elts env).length = items.size) (hstar : (assignEach elts env).findIdx? (·.1) = none)
    (h : ∀ h', Heap.ExtBut s.heap.objs.size s.heap h' → wpAny (model prog w) A (assignInOrder ((assignEach elts env).map (·.2)) items.toList) Q E { s with heap := h' }) :
    wpAny (model prog w) A (assign (.Tuple elts kk pos) env (.ref t)) Q E s := by
  rw [assign_Tuple]
  refine wpAny_bind (wpAny_standAt ?_)
  unfold unpack
  rw [hn, hstar]
  exact wpAny_bind (wpAny_holding (unpackItems_tuple hot ht h))
end
end DH
end

section
set_option Elab.async false
set_option linter.all false
set_option maxRecDepth 100000
set_option maxHeartbeats 2000000
set_option autoImplicit false
namespace DH
open PySem PySem.Spec PyProof.Rows L2 HotX
abbrev HotS (X : Cx) (x1 : Addr) (s : Shared) : Prop := HotAt X.A x1 s.heap
/-- what is walked, an exception being handled -/
structure TurnQ (P : Program) (w : World) (K : PySem.W.Frag) (tg : Expr) (J : It) (fp : List Addr) (it : Addr) (tn : Nat → Heap → Prop) : Prop where
  mem : it ∈ fp
  obj : ∀ i h, tn i h → ∀ b ∈ fp, ∃ o, h.get? b = some o ∧ ∀ v, o.data ≠ .cell v
  keep : ∀ i h h', tn i h → (∀ b ∈ fp, ∀ o, h.get? b = some o → h'.get? b = some o) → tn i h'
  item : ∀ (X : Cx), X.prog = P → X.w = w → X.K = K → ∀ (i : Nat) (pins : List (Addr × Obj)) (s : Shared) (σ : L2.St) (H : Hp) (E : Value → Shared → Prop), L2.Inv X pins σ H s → (∀ b ∈ fp, FpOk X pins H b) → tn i s.heap → J.go i H →
    wpAny (model P w) X.A (pyNext (.ref it)) (fun r s1 => ∃ u, r = some u ∧
      wpAny (model P w) X.A (letOwnedTupleGo tg (.ref it) u) (fun _ s2 => ∃ x H', L2.Inv X pins σ H' s2 ∧ RelV x u ∧ J.yld i H x H' ∧ tn (i + 1) s2.heap ∧ ∀ b ∈ fp, H' b = none) E s1) E s
  done : ∀ (X : Cx), X.prog = P → X.w = w → X.K = K → ∀ (x1 : Addr), x1 ∉ fp → ∀ (i : Nat) (pins : List (Addr × Obj)) (s : Shared) (σ : L2.St) (H : Hp) (E : Value → Shared → Prop), HotS X x1 s → L2.Inv X pins σ H s → (∀ b ∈ fp, FpOk X pins H b) → tn i s.heap → J.stop i H →
    wpAny (model P w) X.A (pyNext (.ref it)) (fun r s1 => r = none ∧ L2.Inv X pins σ H s1) E s
def ItQ (K : PySem.W.Frag) (a b : Addr) : It := { Itz K a b with stop := fun i H => ∃ xs ys, SqL K H a xs ∧ SqL K H b ys ∧ i ≤ xs.length ∧ i ≤ ys.length ∧ (i = xs.length ∨ i = ys.length) }
theorem turn_zip {P : Program} {w : World} {K : PySem.W.Frag} {elts : List Expr} {kk : Nat} {tpos : Pos} {a b z TI TO i1 i2 : Addr} (D : ZipApart z TI TO i1 i2 a b) :
    TurnQ P w K (.Tuple elts kk tpos) (ItQ K a b) [z, TI, TO, i1, i2] z (fun i h => IsZip h z TI TO .none ∧ IsPair h TI (.ref i1) (.ref i2) ∧ (∃ x y, IsPair h TO x y) ∧ h.IsListIter i1 a i ∧ h.IsListIter i2 b i) where
  mem := by simp
  obj := fun i h st c hc => by
    obtain ⟨hz, hTI, ⟨x, y, hTO⟩, ⟨o1, e1, _, d1⟩, ⟨o2, e2, _, d2⟩⟩ := st
    have e' : c = z ∨ c = TI ∨ c = TO ∨ c = i1 ∨ c = i2 := by simpa using hc
    rcases e' with q | q | q | q | q
    · rw [q]; exact ⟨_, hz, fun v q => nomatch q⟩
    · rw [q]; exact ⟨_, hTI, fun v q => nomatch q⟩
    · rw [q]; exact ⟨_, hTO, fun v q => nomatch q⟩
    · rw [q]; exact ⟨o1, e1, fun v q => by rw [d1] at q; cases q⟩
    · rw [q]; exact ⟨o2, e2, fun v q => by rw [d2] at q; cases q⟩
  keep := fun i h h' st k => by
    obtain ⟨hz, hTI, ⟨x, y, hTO⟩, h1, h2⟩ := st
    exact ⟨k z (by simp) _ hz, k TI (by simp) _ hTI, ⟨x, y, k TO (by simp) _ hTO⟩, h1.at fun o q => k i1 (by simp) o q, h2.at fun o q => k i2 (by simp) o q⟩
  item := by
    intro X hP hw hK i pins s σ H E I hf st hg
    subst hP hw hK
    obtain ⟨hz, hTI, ⟨x0, y0, hTO⟩, h1, h2⟩ := st
    obtain ⟨xs, ys, x, y, hqx, hqy, hx, hy⟩ := hg
    obtain ⟨its, rv, p, _⟩ := I.list hqx
    obtain ⟨its2, rv2, p2, _⟩ := I.list hqy
    obtain ⟨u, hu, ru⟩ := rv.get hx
    obtain ⟨u2, hu2, ru2⟩ := rv2.get hy
    have hzl : z < s.heap.objs.size := Heap.lt_size hz
    refine wpAny_pyNext_zip_item D hz hTI hTO h1 h2 p.isList p2.isList (x := u) (y := u2) (by simpa using hu) (by simpa using hu2) fun h' z' TO' h1' h2' hT hsz hk => ?_
    refine ⟨_, rfl, wpAny_letOwnedTupleGo_zip (s := { s with heap := h' }) z' fun h'' z'' sb => ?_⟩
    have hT2 : h''.get? s.heap.objs.size = some { cls := .type "tuple", data := .seq #[u, u2] } := (sb.2 _ (Nat.ne_of_gt hzl)).trans hT
    have new : ObjOk X.prog X.w (upd H s.heap.objs.size (.tup [x, y])) h'' s.heap.objs.size (.tup [x, y]) :=
      ⟨by show 2 ≤ sizeLine; decide, [u, u2], .cons ru (.cons ru2 .nil), ⟨_, hT2, rfl, _, rfl⟩⟩
    have I1 : L2.Inv X pins σ (upd H s.heap.objs.size (.tup [x, y])) { s with heap := h'' } :=
      I.turnedNew (t' := s.toks) (ch := [z, TI, TO, i1, i2]) (fun c o hb q => (sb.2 c (fun q' => hb (by simp [q']))).trans (hk c o (fun q' => hb (by simp [q'])) (fun q' => hb (by simp [q'])) (fun q' => hb (by simp [q'])) (fun q' => hb (by simp [q'])) q)) hf (Nat.le_refl _) new
    refine ⟨.ref s.heap.objs.size, _, I1, rfl, ⟨_, x, y, rfl, I.hok.fresh (Nat.le_refl _), rfl, fun l hl => by rw [I.list_inj hl hqx]; exact hx, fun l hl => by rw [I.list_inj hl hqy]; exact hy⟩, ⟨z'', ?_, ⟨u, u2, ?_⟩, ?_, ?_⟩, fun c hcm => ?_⟩
    · exact (sb.2 _ D.TIz).trans (hk _ _ D.TIz D.TITO D.TIi1 D.TIi2 hTI)
    · exact (sb.2 _ D.TOz).trans TO'
    · exact h1'.at fun o q => (sb.2 _ D.i1z).trans q
    · exact h2'.at fun o q => (sb.2 _ D.i2z).trans q
    · have hlt : c < s.heap.objs.size := by
        have e' : c = z ∨ c = TI ∨ c = TO ∨ c = i1 ∨ c = i2 := by simpa using hcm
        rcases e' with q | q | q | q | q
        · rw [q]; exact hzl
        · rw [q]; exact Heap.lt_size hTI
        · rw [q]; exact Heap.lt_size hTO
        · rw [q]; obtain ⟨_, e1, _⟩ := h1; exact Heap.lt_size e1
        · rw [q]; obtain ⟨_, e2, _⟩ := h2; exact Heap.lt_size e2
      rw [upd_ne (Nat.ne_of_lt hlt)]
      exact (hf c hcm).1
  done := by
    intro X hP hw hK x1 hx1 i pins s σ H E hot I hf st hg
    subst hP hw hK
    obtain ⟨hz, hTI, ⟨x0, y0, hTO⟩, h1, h2⟩ := st
    obtain ⟨xs, ys, hqx, hqy, hle1, hle2, hend⟩ := hg
    obtain ⟨its, rv, p, _⟩ := I.list hqx
    obtain ⟨its2, rv2, p2, _⟩ := I.list hqy
    obtain ⟨hh, o1, vs1, g1, d1, c1⟩ := hot
    have l1 := rv.length
    have l2 := rv2.length
    have n1 : x1 ≠ z := fun e => hx1 (by simp [e])
    have n2 : x1 ≠ TO := fun e => hx1 (by simp [e])
    have n3 : x1 ≠ i1 := fun e => hx1 (by simp [e])
    have n4 : x1 ≠ i2 := fun e => hx1 (by simp [e])
    have S : ZipSep2 z TI TO i1 i2 [i1, a, x1] [i2, b, x1] := by
      refine ⟨D.TIz, D.TOz, D.TITO, D.TIi1, by simp, ?_, ?_, D.TIi2, by simp, ?_, ?_, ?_, ?_⟩
      · simp [Ne.symm D.i1z, Ne.symm D.l1z, Ne.symm n1]
      · simp [D.TOi1, Ne.symm D.l1TO, Ne.symm n2]
      · simp [Ne.symm D.i2z, Ne.symm D.l2z, Ne.symm n1]
      · simp [D.TOi2, Ne.symm D.l2TO, Ne.symm n2]
      · simp [D.i12, Ne.symm D.l2i1, Ne.symm n3]
      · simp [Ne.symm D.i12, Ne.symm D.l1i2, Ne.symm n4]
    have D1 := draws_list (prog := X.prog) (w := X.w) (A := X.A.in1) (o1 := o1) (vs1 := vs1) hh d1 c1 i1 a D.l1i1 n3 its.toArray
    have D2 := draws_list (prog := X.prog) (w := X.w) (A := X.A.in1) (o1 := o1) (vs1 := vs1) hh d1 c1 i2 b D.l2i2 n4 its2.toArray
    refine wpAny_pyNext_zipD2_end S D1 D2 hz hTI hTO ⟨⟨h1, p.isList⟩, g1⟩ ⟨⟨h2, p2.isList⟩, g1⟩ (by rw [List.size_toArray]; omega) (by rw [List.size_toArray]; omega) (by rw [List.size_toArray, List.size_toArray]; omega) fun h' tk hk => ⟨rfl, I.turnedL (t' := tk) (ch := [z, TI, TO, i1, i2]) (fun c o hb q =>
      hk c o (fun q' => hb (by simp [q'])) (fun q' => hb (by simp [q'])) (fun q' => hb (by simp [q'])) (fun q' => hb (by simp [q'])) q) hf⟩
end DH
end

section
set_option Elab.async false
set_option linter.all false
set_option maxRecDepth 100000
set_option maxHeartbeats 2000000
set_option autoImplicit false
namespace DH
open PySem PySem.Spec PyProof.Rows L2 HotX L2H
/-- a target, p's object being pinned -/
structure PGH (X : Cx) (p : Addr × Obj) (target : Expr) (t : TG) : Prop where
  run : ∀ (pins : List (Addr × Obj)) (s : Shared) (σ : L2.St) (H : Hp) (v : V) (u : Value) (Q : L2.St → Hp → Prop), p ∈ pins → Inv X pins σ H s → RelV v u → t v σ H Q →
    wpAny (model X.prog X.w) X.A (assign target X.env u) (fun _ s' => ∃ σ' H', Inv X pins σ' H' s' ∧ Q σ' H') X.xe s
def PIEQ (X : Cx) (pins : List (Addr × Obj)) (σ : L2.St) (tg : Expr) (R : It → Hp → Prop) (itv : Value) (s2 : Shared) : Prop :=
  ∃ (it : Addr) (fp : List Addr) (tn : Nat → Heap → Prop) (J : It) (H' : Hp), itv = .ref it ∧ Inv X pins σ H' s2 ∧ TurnQ X.prog X.w X.K tg J fp it tn ∧ tn 0 s2.heap ∧ (∀ b ∈ fp, FpOk X pins H' b) ∧ R J H' ∧
    ∀ (A : Around) (s : Shared) (Q : Value → Shared → Prop) (E : Value → Shared → Prop), tn 0 s.heap → Q (.ref it) s → wpAny (model X.prog X.w) A (pyIter (.ref it)) Q E s
structure PIQ (X : Cx) (tg iter : Expr) (wi : TI) : Prop where
  run : ∀ (pins : List (Addr × Obj)) (s : Shared) (σ : L2.St) (H : Hp) (R : It → Hp → Prop), Inv X pins σ H s → wi σ H R →
    wpAny (model X.prog X.w) X.A (eval iter X.env) (fun v s1 => wpAny (model X.prog X.w) X.A (pyIter v) (PIEQ X pins σ tg R) X.xe s1) X.xe s
section
variable {X : Cx}
theorem pgh_tup {p : Addr × Obj} {es : List Expr} {k : Nat} {t : TGs} {n : Nat} {pos : Pos} (hot : Hot1 X.A p) (h : PGs X es t)
    (hn : (assignEach es X.env).length = n := by rfl) (hst : (assignEach es X.env).findIdx? (·.1) = none := by rfl) : PGH X p (.Tuple es k pos) (gTup X.K n t) := by
  refine ⟨fun pins s σ H v u Q hp I r hw => ?_⟩
  obtain ⟨a, xs, e1, hq, hl, hw⟩ := hw
  subst e1
  cases r
  obtain ⟨its, rv, ht, hz⟩ := I.tuple hq
  obtain ⟨hh, v1, e2, c2⟩ := hot
  have P1 := I.pin p (List.mem_append_right _ hp)
  refine assign_tuple (x1 := p.1) ⟨hh, p.2, v1, P1.1, e2, c2⟩ ht (by simp [hn, ← hl, rv.length]) hst fun h' hx => ?_
  have I1 : Inv X pins σ H { s with heap := h' } := I.kept (t' := s.toks) fun b o e => hx b o (Nat.ne_of_lt (Heap.lt_size e)) e
  exact h.run pins _ σ H xs _ Q I1 (by simpa using rv) hw
theorem lc_hot {p : Addr × Obj} {pins : List (Addr × Obj)} {s : Shared} {σ : L2.St} {H : Hp} {Q : VK} {elt tg iter : Expr} {ifs : List Expr} {scope : Scope} {own : List (Str × Nat)} {pos pos' : Pos} {wi : TI} {g : TG} {tt : TT} {te : TE} {use : Option (Value → Sem Unit)} {Qf : Value → Shared → Prop}
    (hot : Hot1 X.A p) (hpn : p ∈ X.pn) (hN : X.N.Nodup) (I : Inv X pins σ H s) (hi : PIQ X tg iter wi) (ok : BlkOk X.N X.env.scope scope own)
    (hg : ∀ (s : Shared) (H : Hp) (C : Addr) (cl : List (Str × Addr)) (fp : List Addr), PGH (X.blk s H scope (compEnvC scope cl C X.env) fp) p tg g) (ht : ∀ (s : Shared) (H : Hp) (C : Addr) (cl : List (Str × Addr)) (fp : List Addr), PTs (X.blk s H scope (compEnvC scope cl C X.env) fp) ifs tt)
    (he : ∀ (s : Shared) (H : Hp) (C : Addr) (cl : List (Str × Addr)) (fp : List Addr), PE (X.blk s H scope (compEnvC scope cl C X.env) fp) elt te) (hs : ∀ x, foldedSetIterable iter X.env x = pure x)
    (h : tLc wi g tt te (own.map (·.2)) σ H Q)
    (hRR : ∀ D C s' m H', Inv X pins σ H' s' → Q (.ref D) H' → s'.heap.Ns C m → FpOk X pins H' C → compPost (model X.prog X.w) X.A X.xe use Qf (.ref D) C (.ok .next) s') :
    wpAny (model X.prog X.w) X.A (comprehension (.ListComp elt [⟨tg, iter, ifs, 0⟩] scope pos) scope X.env pos' (newList []) false (eval iter X.env) use) Qf X.xe s := by
  obtain ⟨hhan, v1, ev1, cv1⟩ := id hot
  have hfree : ∀ y ∈ scope.names, y.2 = .free → ∃ c, X.env.cells.lookup y.1 = some c := fun y hy e => by
    rcases ok.free y hy e with k | k
    · exact I.ok.has _ (.inl k)
    · exact I.ok.has _ (.inr k)
  refine wpAny_comprehension_free (use := use) rfl hs (closure_ok hfree) ok.kind (fun y hy e => by rw [ok.uniq y hy, e])
    (thn (hi.run pins s σ H _ I h) fun xv s1 hx => thn hx fun itv s2 h2 => ?_)
  obtain ⟨it, fp, tn, J, H2, e, I2, T, st2, f2, q, hself⟩ := h2
  subst e
  refine wpAny_newObj_type (newEnv_comp ?_) (by show 0 ≤ sizeLine; decide)
  generalize hD : s2.heap.objs.size = D
  have hDn : H2 D = none := I2.hok.fresh (Nat.le_of_eq hD)
  obtain ⟨W, ⟨m0, w0⟩, turn⟩ := q D hDn
  generalize hs3 : ({ s2 with heap := s2.heap.push { cls := .type "list", data := .seq ([] : List Value).toArray } } : Shared) = s3
  have I3 : Inv X pins σ (upd H2 D (.lst [])) s3 := by
    rw [← hs3]
    refine I2.laid (t' := s2.toks) (fun b o e => Heap.get?_push_of_some _ e) (Nat.le_of_eq hD) ⟨Nat.zero_le _, [], 0, .nil, ?_⟩
    rw [← hD]
    exact Heap.get?_push_size _ rfl
  have h3 : s3.heap = s2.heap.push { cls := .type "list", data := .seq ([] : List Value).toArray } := by rw [← hs3]
  have sz : ∀ b ∈ fp, b < s2.heap.objs.size := fun b hb => by
    obtain ⟨o, e, _⟩ := T.obj _ _ st2 b hb
    exact Heap.lt_size e
  have f3 : ∀ b ∈ fp, FpOk X pins (upd H2 D (.lst [])) b ∧ b < s3.heap.objs.size := fun b hb => by
    have hlt := sz b hb
    refine ⟨⟨?_, (f2 b hb).2⟩, by rw [h3, Heap.size_push]; exact Nat.lt_succ_of_lt hlt⟩
    rw [upd_ne (by rw [← hD]; exact Nat.ne_of_lt hlt)]
    exact (f2 b hb).1
  have st3 : tn 0 s3.heap := T.keep _ _ _ st2 fun b _ o e => by rw [h3]; exact Heap.get?_push_of_some _ e
  have I4 := block_start I3 ok hN f3
  have pg := hg s3 (upd H2 D (.lst [])) s3.heap.objs.size (cellsFrom (s3.heap.objs.size + 1) scope.names (cloFrom X.env.cells scope.names [])) fp
  have pt := ht s3 (upd H2 D (.lst [])) s3.heap.objs.size (cellsFrom (s3.heap.objs.size + 1) scope.names (cloFrom X.env.cells scope.names [])) fp
  have pe := he s3 (upd H2 D (.lst [])) s3.heap.objs.size (cellsFrom (s3.heap.objs.size + 1) scope.names (cloFrom X.env.cells scope.names [])) fp
  show codeAny _ _ (.compStart (.ListComp elt [⟨tg, iter, ifs, 0⟩] scope pos) 0 (.ref it) (.ref D) (compEnvC scope (cellsFrom (s3.heap.objs.size + 1) scope.names (cloFrom X.env.cells scope.names [])) s3.heap.objs.size X.env)) (compPost (model X.prog X.w) X.A X.xe use Qf (.ref D) s3.heap.objs.size) { s3 with heap := pushCells (s3.heap.push { cls := .type "dict", data := .dict #[] }) scope.names }
  have nfp : ∀ b ∈ fp, (upd H2 D (.lst [])) b = none := fun b hb => (f3 b hb).1.1
  have P3 := I3.pin p (List.mem_append_left _ hpn)
  have stk3 : p.1 ∉ frs X.stack := fun hm => (List.mem_cons.mp (I3.stkSub p.1 hm)).elim P3.2.2.1 P3.2.2.2.1
  generalize hce : compEnvC scope (cellsFrom (s3.heap.objs.size + 1) scope.names (cloFrom X.env.cells scope.names [])) s3.heap.objs.size X.env = ce at I4 pg pt pe ⊢
  have cL : ce.locals = s3.heap.objs.size := by subst hce; rfl
  generalize hH3 : upd H2 D (.lst []) = H3 at I3 I4 pg pt pe w0 nfp f3 P3
  generalize hs4 : ({ s3 with heap := pushCells (s3.heap.push { cls := .type "dict", data := .dict #[] }) scope.names } : Shared) = s4 at I4 ⊢
  have k4 : ∀ b o, s3.heap.get? b = some o → s4.heap.get? b = some o := fun b o e => by rw [← hs4]; exact pushCells_keeps _ _ _ _ (Heap.get?_push_of_some _ e)
  have st4 : tn 0 s4.heap := T.keep _ _ _ st3 fun b _ o e => k4 b o e
  have I4p : Inv (X.blk s3 H3 scope ce fp) [p] (wipe σ (own.map (·.2))) H3 s4 := I4.pins_of fun q hq => by
    have eq : q = p := by simpa using (show q ∈ ([] : List (Addr × Obj)) ++ [p] from hq)
    rw [eq]
    refine ⟨k4 _ _ P3.1, P3.2.1, fun z => ?_, stk3, P3.2.2.2.2⟩
    have h1 := Heap.lt_size P3.1
    have z : p.1 = ce.locals := z
    rw [z, cL] at h1
    exact Nat.lt_irrefl _ h1
  have np : ∀ b ∈ fp, p.1 ≠ b := fun b hb => (f3 b hb).1.2.2.2.2.2 p (List.mem_append_left _ hpn)
  have stat : ∀ {σ' : L2.St} {H' : Hp} {s' : Shared}, Inv (X.blk s3 H3 scope ce fp) [p] σ' H' s' → (∀ b ∈ fp, H' b = none) → ∀ b ∈ fp, FpOk (X.blk s3 H3 scope ce fp) [p] H' b := fun {σ' H' s'} I' hn b hb =>
    ⟨hn b hb, (I'.ok.exf b hb).1, I'.ok.exfs b hb, .inl hb, fun x c e => (I'.ok.exf b hb).2 x c e, fun q hq => by
      have eq : q = p := by simpa using (show q ∈ ([] : List (Addr × Obj)) ++ [p] from hq)
      rw [eq]
      exact np b hb⟩
  have loop : codeAny (model X.prog X.w) X.A (.compLoop (.ListComp elt [⟨tg, iter, ifs, 0⟩] scope pos) 0 (.ref it) (.ref D) ce) (compPost (model X.prog X.w) X.A X.xe use Qf (.ref D) s3.heap.objs.size) s4 := by
    refine compLoop_any (fun n s' => ∃ i H', Inv (X.blk s3 H3 scope ce fp) [p] (wipe σ (own.map (·.2))) H' s' ∧ tn i s'.heap ∧ (∀ b ∈ fp, H' b = none) ∧ W i n H') ?_ m0 ⟨0, H3, I4p, st4, nfp, w0⟩
    rintro n s5 ⟨i, H5, I5, st5, n5, w5⟩
    have g5 : s5.heap.get? p.1 = some p.2 := (I5.pin p (List.mem_append_right _ (by simp))).1
    rcases turn i n H5 w5 with ⟨stop, qq⟩ | ⟨go, Nx, hNx, step⟩
    · have td := T.done (X.blk s3 H3 scope ce fp) rfl rfl rfl p.1 (fun hm => np p.1 hm rfl) i [p] s5 _ H5 (fun _ _ => False) ⟨hhan, p.2, v1, g5, ev1, cv1⟩ I5 (stat I5 n5) st5 stop
      refine thnF td fun r s6 ⟨hr, I6⟩ => ?_
      subst hr
      have I7 : Inv X pins σ H5 s6 := I3.call' (ch := fp) I6.os I6.base I6.hok I6.bare fun b hb => ⟨(f3 b hb).1.2.2.2.1, (f3 b hb).1.2.1, (f3 b hb).1.2.2.2.2.1, (f3 b hb).1.2.2.2.2.2⟩
      have nC : H5 s3.heap.objs.size = none := by
        have z : H5 ce.locals = none := I6.free
        rw [cL] at z
        exact z
      obtain ⟨m, hn, _⟩ := I6.loc
      have hn : s6.heap.Ns ce.locals m := hn
      rw [cL] at hn
      exact hRR D s3.heap.objs.size s6 m H5 I7 qq hn (I3.fpOk (Nat.le_refl _) nC)
    · have ti := T.item (X.blk s3 H3 scope ce fp) rfl rfl rfl i [p] s5 _ H5 (fun _ _ => False) I5 (stat I5 n5) st5 go
      refine thnF ti fun r s6 ⟨u, hr, h6⟩ => ?_
      subst hr
      refine thnF h6 fun _ s7 ⟨x, H7, I7, r7, y7, st7, n7⟩ => ?_
      have I7' := I7.pinned (stat I7 n7) (T.obj _ _ st7)
      refine thnF (pg.run _ s7 _ H7 x u _ (List.mem_append_left _ (by simp)) I7' r7 (step x H7 y7)) fun _ s8 ⟨σ8, H8, I8, hw8, q8⟩ => ?_
      refine thnF (pt.run _ s8 σ8 H8 _ I8 q8) fun b s9 ⟨H9, I9, q9⟩ => ?_
      have fin : ∀ {s' : Shared} {H' : Hp}, Inv (X.blk s3 H3 scope ce fp) ([p] ++ pinsAt fp s7.heap) σ8 H' s' → Nx H' → ∃ m, m < n ∧ ∃ i H', Inv (X.blk s3 H3 scope ce fp) [p] (wipe σ (own.map (·.2))) H' s' ∧ tn i s'.heap ∧ (∀ b ∈ fp, H' b = none) ∧ W i m H' := fun {s' H'} I' nx => by
        obtain ⟨m', hm, w'⟩ := hNx H' nx
        have pin' : ∀ b ∈ fp, ∀ o, s7.heap.get? b = some o → s'.heap.get? b = some o ∧ H' b = none := fun b hb o e =>
          let z := I'.pin (b, o) (List.mem_append_right _ (List.mem_append_right _ (mem_pinsAt hb e)))
          ⟨z.1, z.2.1⟩
        have hl : (wipe σ (own.map (·.2))).length = σ8.length := by rw [← hw8, wipe_length]
        refine ⟨m', hm, i + 1, H', (I'.unpinned (pins := [p])).weak hl (fun j v e => ?_), T.keep _ _ _ st7 fun b hb o e => (pin' b hb o e).1, fun b hb => ?_, w'⟩
        · rw [← hw8] at e
          exact (wipe_some e).1
        · obtain ⟨o, e, _⟩ := T.obj _ _ st7 b hb
          exact (pin' b hb o e).2
      cases b with
      | false =>
        simp only [Bool.false_eq_true, if_false] at q9 ⊢
        exact fin I9 q9
      | true =>
        simp only [if_true] at q9 ⊢
        refine thnF (pe.run _ s9 σ8 H9 _ I9 q9) fun z s10 ⟨yv, H10, I10, r10, acc, hD10, hz10, nx⟩ => ?_
        exact app_ok (X := X.blk s3 H3 scope ce fp) I10 hD10 hz10 r10 fun s11 I11 => fin I11 nx
  exact codeAny_compStart_list loop (hself X.A _ _ _ st4 loop)
theorem pe_lcH {p : Addr × Obj} {elt tg iter : Expr} {ifs : List Expr} {scope : Scope} {own : List (Str × Nat)} {pos : Pos} {wi : TI} {g : TG} {tt : TT} {te : TE} (hot : Hot1 X.A p) (hpn : p ∈ X.pn) (hN : X.N.Nodup) (hi : PIQ X tg iter wi) (ok : BlkOk X.N X.env.scope scope own)
    (hg : ∀ (s : Shared) (H : Hp) (C : Addr) (cl : List (Str × Addr)) (fp : List Addr), PGH (X.blk s H scope (compEnvC scope cl C X.env) fp) p tg g) (ht : ∀ (s : Shared) (H : Hp) (C : Addr) (cl : List (Str × Addr)) (fp : List Addr), PTs (X.blk s H scope (compEnvC scope cl C X.env) fp) ifs tt)
    (he : ∀ (s : Shared) (H : Hp) (C : Addr) (cl : List (Str × Addr)) (fp : List Addr), PE (X.blk s H scope (compEnvC scope cl C X.env) fp) elt te) (hs : ∀ x, foldedSetIterable iter X.env x = pure x := by intro _; rfl) :
    PE X (.ListComp elt [⟨tg, iter, ifs, 0⟩] scope pos) (tLc wi g tt te (own.map (·.2))) := by
  refine ⟨fun pins s σ H Q I h => ?_⟩
  rw [eval_ListComp]
  refine lc_hot hot hpn hN I hi ok hg ht he hs h fun D C s' m H' I' q hn f => ⟨m, hn, fun h'' sb => ?_⟩
  obtain ⟨f0, f1, f2, f3, f4, f5⟩ := f
  exact ⟨.ref D, H', I'.turned (t' := s'.toks) (fun b o hb e => (sb.2 b hb).trans e) f0 f1 f3 f4 f5, rfl, q⟩
/-- zip of two lists -/
theorem pi_zipQ {e e2 : Expr} {ta : TA} {p pos tpos : Pos} {elts : List Expr} {kk : Nat} (hg : Gl X "zip") (hm : X.mg "zip" = none) (ha : PA X [e, e2] ta)
    (hs : starEach [e, e2] X.env = (false, eval e X.env) :: starEach [e2] X.env := by rfl) (hpl : (backTo pos (starEach [e2] X.env)).any (·.1) = false := by rfl) :
    PIQ X (.Tuple elts kk tpos) (.Call (.Name "zip" p) [e, e2] [] pos) (fun σ H R => ta σ H fun vs H1 => ∃ a b xs ys, vs = [.ref a, .ref b] ∧ SqL X.K H1 a xs ∧ SqL X.K H1 b ys ∧ R (ItQ X.K a b) H1) := by
  refine ⟨fun pins s σ H R I h => ?_⟩
  refine Call_ (ld_blt I hg hm PyProof.Rows.boot_zip (PyProof.Rows.callWith_type1 (thn (ha.run pos pins s σ H _ I h) fun us s1 ⟨vs, H1, I1, r1, q1⟩ => ?_) hs hpl))
  obtain ⟨a, b, xs, ys, ex, hqx, hqy, q⟩ := q1
  subst ex
  cases r1 with
  | cons r rr =>
    cases rr with
    | cons r' rr =>
      cases rr
      cases r
      cases r'
      have fresh5 : ∀ c, c ∈ [s1.heap.objs.size + 4, s1.heap.objs.size + 2, s1.heap.objs.size + 3, s1.heap.objs.size, s1.heap.objs.size + 1] → FpOk X pins H1 c := fun c hcm => by
        have e' : c = s1.heap.objs.size + 4 ∨ c = s1.heap.objs.size + 2 ∨ c = s1.heap.objs.size + 3 ∨ c = s1.heap.objs.size ∨ c = s1.heap.objs.size + 1 := by simpa using hcm
        have hle : s1.heap.objs.size ≤ c := by omega
        exact I1.fpOk hle (I1.hok.fresh hle)
      obtain ⟨its, rv, p1, _⟩ := I1.list hqx
      obtain ⟨its2, rv2, p2, _⟩ := I1.list hqy
      refine call_zip_2 p1.isList p2.isList fun h' hz hTI hTO h1 h2 hsz hk => wpAny_pyIter_zip hz ?_
      have I2 : Inv X pins σ H1 { s1 with heap := h' } := I1.kept (t' := s1.toks) hk
      exact ⟨s1.heap.objs.size + 4, [s1.heap.objs.size + 4, s1.heap.objs.size + 2, s1.heap.objs.size + 3, s1.heap.objs.size, s1.heap.objs.size + 1], _, _, H1, rfl, I2, turn_zip (PySem.W.ktu_apart s1.heap.objs.size a b p1.lt p2.lt), ⟨hz, hTI, ⟨_, _, hTO⟩, h1, h2⟩, fresh5, q, fun A s Q E st h => wpAny_pyIter_zip st.1 h⟩
end
end DH
end

section
set_option Elab.async false
set_option linter.all false
set_option maxRecDepth 100000
set_option maxHeartbeats 2000000
set_option autoImplicit false
namespace DH
open PySem PySem.Spec PyProof.Rows L2 HotX L2H
structure FnP (P : Program) (w : World) (K : PySem.W.Frag) (mg : Str → Option Value) (base : Heap) (CX : CXT) (p : Addr × Obj) (k : Nat) (f : Addr) (fd : FuncData) (ps : List Str) (sp : Sp) : Prop where
  len : ∀ vs H Q E, sp vs H Q E → vs.length = ps.length
  run : ∀ (A : Around) (outer : List Env) (s : Shared) (H : Hp) (args : Args) (us : List Value) (vs : List V) (Q : VK) (E : XK), RoomH k A → Hot1 A p → PinOk outer H s p → Env0 P w K mg base A outer s H → BindsTo s fd args (ps.zip us) → Vals vs us → sp vs H Q E →
    codeAny (model P w) A (.call (.ref f) args) (CR CX outer P w H s Q E) s
theorem fn_ofP {CX : CXT} {P : Program} {w : World} {K : PySem.W.Frag} {mg : Str → Option Value} {base : Heap} {p : Addr × Obj} {k : Nat} {f : Addr} {name qual : Str} {params : Arguments} {body : List Stmt} {scope : Scope} {dV kV doc pm cdv ct oc : Value} {an od : Option Addr}
    {osl : Array (Option Value)} {N ps : List Str} {sp : Sp} (lk : K.lookup f = some ⟨oc, od, .func (PySem.W.fnOf name qual params body scope dV kV doc pm an cdv ct), osl⟩) (hcd : PySem.W.codeIn K cdv qual = true) (S : FnScope N ps scope)
    (len : ∀ vs H Q E, sp vs H Q E → vs.length = ps.length)
    (hbody : ∀ (A : Around) (outer : List Env) (s : Shared) (H : Hp) (vs : List V) (Q : VK) (E : XK), Hot1 A p → sp vs H Q E →
      ∃ t, PSs (cxH CX P w K mg base N qual scope f cdv A outer s H E p) body t ∧ t { nx := fun _ H' => Q .non H', rt := Q } (L2.start N vs) H) :
    FnP P w K mg base CX p (k + 1) f (PySem.W.fnOf name qual params body scope dV kV doc pm an cdv ct) ps sp := by
  refine ⟨len, fun A outer s H args us vs Q E hr hot hpin e0 hb r hsp => ?_⟩
  have hl := len _ _ _ _ hsp
  have KX : K.In s.heap := e0.mod.kin.keeps fun b o e => (e0.bs b o e).1
  have lim : s.heap.NoLimit := e0.mod.nolimit.keeps fun b o e => (e0.bs b o e).1
  have hkind : ∀ y ∈ ps.zip us, scope.names.lookup y.1 = some .local ∨ (scope.names.lookup y.1 = some .cell ∧ ((cellsFrom (s.heap.objs.size + 1) scope.names []).lookup y.1).isSome = true) := fun ⟨n, v⟩ hy => by
    rcases S.par n (List.of_mem_zip hy).1 with q | q
    · exact .inl q
    · exact .inr ⟨q, PySem.W.cellsFrom_some _ _ _ (.inl q)⟩
  refine codeAny_call_function hr.depth (KX _ _ lk) rfl S.co S.gen rfl (PySem.W.codeRec_of KX hcd) (hb _ _ _ _ ?_)
  refine wpAny_newFunctionEnv_cells S.kind hkind fun env he s1 x => ?_
  subst he
  refine ⟨lim.keeps x.toInCall.keep, codeAny_func ?_⟩
  obtain ⟨t, ht, hq⟩ := hbody A outer s H vs Q E hot hsp
  have I : Inv (cxH CX P w K mg base N qual scope f cdv A outer s H E p) [] (L2.start N vs) H s1 := inv_startH S hpin e0 hl r x
  refine wpAny_mono (ht.run [] s1 (L2.start N vs) H _ I hq) (fun fl s' hs => ?_) fun e s' hs => hs
  have fin : ∀ {σ' : L2.St} {H' : Hp} {v : V} {u : Value}, Inv (cxH CX P w K mg base N qual scope f cdv A outer s H E p) [] σ' H' s' → RelV v u → Q v H' → CE outer P w H s Q u s' :=
    fun {σ' H' v u} J rv q => ⟨v, H', J.os, J.bare, J.base, J.hok, rv, q⟩
  cases fl with
  | ret u =>
    obtain ⟨v, σ', H', J, rv, q⟩ := hs
    exact fin J rv q
  | next =>
    obtain ⟨σ', H', J, q⟩ := hs
    exact fin (v := V.non) (u := Value.none) J rfl q
  | brk =>
    obtain ⟨_, _, _, q⟩ := hs
    exact False.elim q
  | cont =>
    obtain ⟨_, _, _, q⟩ := hs
    exact False.elim q
section
variable {X : Cx} {CX : CXT} {k : Nat} {f : Addr} {fd : FuncData} {ps : List Str} {sp : Sp} {E : L2.St → XK} {x : Str} {q pos : Pos} {e : Expr} {es : List Expr} {t : TA} {p : Addr × Obj}
theorem run_fnP {pins : List (Addr × Obj)} {σ : L2.St} {H : Hp} {s : Shared} {Q : VK} {us : List Value} {vs : List V} (F : FnP X.prog X.w X.K X.mg X.base CX p k f fd ps sp) (hr : RoomH k X.A) (hot : Hot1 X.A p) (hp : p ∈ X.pn) (hb : Binds X.K fd ps []) (hx : PassesAt CX X σ (E σ))
    (I : Inv X pins σ H s) (r : Vals vs us) (h : sp vs H Q (E σ)) : wpAny (model X.prog X.w) X.A (call (.ref f) us) (EP X pins σ Q) X.xe s := by
  have hl : us.length = ps.length := by rw [← r.length]; exact F.len _ _ _ _ h
  have b := hb s us I.kIn (by rw [List.append_nil]; exact hl)
  rw [List.append_nil] at b
  have P1 := I.pin p (List.mem_append_left _ hp)
  have hpin : PinOk X.stack H s p := ⟨P1.1, P1.2.1, fun hm => (List.mem_cons.mp (I.stkSub p.1 hm)).elim P1.2.2.1 P1.2.2.2.1, P1.2.2.2.2⟩
  refine wpAny_call (codeAny_mono (F.run X.A X.stack s H ⟨us, []⟩ us vs Q (E σ) hr hot hpin I.env0 b r h) fun r s' hq => ?_)
  cases r with
  | error e => exact hx pins H s e s' I hq
  | ok fl =>
    cases fl with
    | ret u => exact I.after hq
    | next => exact False.elim hq
    | brk => exact False.elim hq
    | cont => exact False.elim hq
theorem pe_callP (F : FnP X.prog X.w X.K X.mg X.base CX p k f fd ps sp) (hr : RoomH k X.A) (hot : Hot1 X.A p) (hp : p ∈ X.pn) (hg : Gl X x) (hm : X.mg x = some (.ref f)) (hk : PySem.W.keepIn X.K (.ref f) = true) (hb : Binds X.K fd ps []) (hx : ∀ σ, PassesAt CX X σ (E σ))
    (ha : PA X (e :: es) t) (hdb : (x == ("__debug__" : Str)) = false := by decide) (he : starEach (e :: es) X.env = (false, eval e X.env) :: starEach es X.env := by rfl) (hpl : (backTo pos (starEach es X.env)).any (·.1) = false := by rfl) :
    PE X (.Call (.Name x q) (e :: es) [] pos) (tCallS sp E t) := by
  refine ⟨fun pins s σ H Q I h => ?_⟩
  refine wpAny_Call_Name_kw (ld_glob I hg hm ?_ hdb)
  refine PySem.W.callWith_K (h₀ := X.base) I.ok.mod.kin hk (thn (ha.run pos pins s σ H _ I h) fun us s1 ⟨vs, H1, I1, r, q⟩ => ⟨I1.kIn, ?_⟩) he hpl
  exact run_fnP F hr hot hp hb (hx σ) I1 r q
theorem call_isH {D : Addr} (hp : p ∈ X.pn) (C : ExcC X.K D) (hz : Zc (.ref D) none p.2) (hf : ∃ vs, p.2.data = .fields vs) : CallR X (.builtin "isinstance") (rIsE X.K D p.1) := by
  intro pins s σ H xs us Q I r h
  obtain ⟨c, cv, b, rfl, hcv, e, q⟩ := h
  obtain ⟨u1, u2, rfl, rx, rt⟩ := vals2 r
  cases (show u1 = Value.ref p.1 from rx)
  have ec := hcv _ rt
  subst ec
  obtain ⟨hget, _⟩ := I.pin p (List.mem_append_left _ hp)
  obtain ⟨vs, hv⟩ := hf
  have J : PySem.W.InstAt s.heap p.1 p.2 D none := by
    obtain ⟨pa, oc, od, oda, osl⟩ := p
    obtain ⟨h1, h2⟩ := hz
    dsimp only at h1 h2 hv
    subst h1 h2 hv
    exact ⟨hget, rfl, rfl, trivial⟩
  exact PySem.W.kia_one (PySem.W.handS_kitx_exc C.hg C.hk C.hs C.hd C.ha C.hn C.ht C.hm) I.kIn J e (fun z => nomatch z) fun tk => ⟨.bl b, H, I.kept (t' := tk) fun _ _ z => z, rfl, q⟩
theorem pe_weak {e : Expr} {t u : TE} (h : PE X e t) (i : ∀ σ H Q, u σ H Q → t σ H Q) : PE X e u := ⟨fun pins s σ H Q I hw => h.run pins s σ H Q I (i σ H Q hw)⟩
theorem pa_weak {es : List Expr} {t u : TA} (h : PA X es t) (i : ∀ σ H Q, u σ H Q → t σ H Q) : PA X es u := ⟨fun pos pins s σ H Q I hw => h.run pos pins s σ H Q I (i σ H Q hw)⟩
end
end DH
end

section
set_option Elab.async false
set_option linter.all false
set_option maxRecDepth 100000
set_option maxHeartbeats 2000000
set_option autoImplicit false
namespace DH
open PySem PySem.Spec PyProof.Rows L2 HotX L2H
def nLab : Str := "recipe number place word sights step corner text fold none unlike flat undo many failed value"
def isB (q : Nat → Pos) (n : Nat) (c : Str) : Expr := .Call (.Name "isinstance" (q n)) [.Name "_law_error" (q (n + 1)), .Name c (q (n + 2))] [] (q (n + 3))
def nCs : Scope := { kind := .function, names := [(".0", .local), ("_law_label", .local), ("_law_good", .local)], isGenerator := false, isCoroutine := false, more := [] }
def nAdd (q : Nat → Pos) (n : Nat) (a b c : Str) : Stmt := .Assign [.Name "_law_some" (q n)] (.BinOp (.Name "_law_some" (q (n + 1))) .Add (.List [isB q (n + 2) a, isB q (n + 6) b, isB q (n + 10) c] (q (n + 14))) (q (n + 15))) (q (n + 16))
def nRet (q : Nat → Pos) : Stmt := .Return (some (.Call (.Attribute (.Constant (.str " ") 0 (q 94)) "join" (q 95)) [.ListComp (.Name "_law_label" (q 96)) [⟨.Tuple [.Name "_law_label" (q 97), .Name "_law_good" (q 98)] 0 (q 99),
  .Call (.Name "zip" (q 100)) [.Call (.Attribute (.Name "_law_labels" (q 101)) "split" (q 102)) [.Constant (.str " ") 0 (q 103)] [] (q 104), .Name "_law_some" (q 105)] [] (q 106), [.Name "_law_good" (q 107)], 0⟩] nCs (q 108)] [] (q 109))) (q 110)
def nBody (q : Nat → Pos) : List Stmt := [
  .Assign [.Name "_law_some" (q 0)] (.List [isB q 1 "InvalidRecipe", isB q 5 "InvalidNumber", isB q 9 "InvalidPlace"] (q 13)) (q 14),
  nAdd q 15 "InvalidWord" "InvalidSights" "InvalidStep",
  nAdd q 32 "InvalidCorner" "InvalidText" "InvalidFold",
  nAdd q 49 "Impossible" "Unlike" "Flat",
  nAdd q 66 "NothingToUndo" "TooMany" "Failed",
  .Expr (.Call (.Attribute (.Name "_law_some" (q 83)) "append" (q 84)) [isB q 85 "ValueError"] [] (q 89)) (q 90),
  .Assign [.Name "_law_labels" (q 91)] (.Constant (.str nLab) 0 (q 92)) (q 93),
  nRet q]
def nCls : List Str := ["InvalidRecipe", "InvalidNumber", "InvalidPlace", "InvalidWord", "InvalidSights", "InvalidStep", "InvalidCorner", "InvalidText", "InvalidFold", "Impossible", "Unlike", "Flat", "NothingToUndo", "TooMany", "Failed"]
def nN : List Str := ["_law_error", "_law_some", "_law_labels", "_law_label", "_law_good"]
/-- the names of the def -/
def nSc (sc : Scope) : Bool := decide (sc.kind = .function) && decide (sc.names.lookup ("_law_error" : Str) = some .local) && decide (sc.names.lookup ("_law_some" : Str) = some .local) && decide (sc.names.lookup ("_law_labels" : Str) = some .local) &&
  ("isinstance" :: "zip" :: "ValueError" :: nCls : List Str).all fun x => decide (sc.names.lookup x = some .globalImplicit)
structure NC (X : Cx) (p : Addr × Obj) (D : Addr) (b : Str → Bool) : Prop where
  N : X.N = nN
  sc : nSc X.env.scope = true
  blk : BlkOk X.N X.env.scope nCs [("_law_label", 3), ("_law_good", 4)]
  hot : Hot1 X.A p
  hp : p ∈ X.pn
  ex : ExcC X.K D
  zc : Zc (.ref D) none p.2
  hf : ∃ vs, p.2.data = .fields vs
  mi : X.mg "isinstance" = none
  mz : X.mg "zip" = none
  mv : X.mg "ValueError" = none
  cls : ∀ c ∈ nCls, ∃ C, X.mg c = some (.ref C) ∧ PySem.W.kitOne X.K (.ref D) (.ref C) = some (b c)
  val : PySem.W.kitOne X.K (.ref D) (.type "ValueError") = some true
  fn : ∀ x, X.fn x = true
section
variable {X : Cx} {p : Addr × Obj} {D : Addr} {b : Str → Bool} {q : Nat → Pos}
theorem NC.nd (n : NC X p D b) : X.N.Nodup := by rw [n.N]; decide +kernel
theorem NC.ix (n : NC X p D b) (i : Nat) : X.N[i]? = nN[i]? := by rw [n.N]
theorem NC.kinds (n : NC X p D b) : (X.env.scope.names.lookup ("_law_error" : Str) = some .local ∧ X.env.scope.names.lookup ("_law_some" : Str) = some .local ∧ X.env.scope.names.lookup ("_law_labels" : Str) = some .local) ∧ ∀ x ∈ ("isinstance" :: "zip" :: "ValueError" :: nCls : List Str), Gl X x := by
  have h := n.sc
  unfold nSc at h
  rw [Bool.and_eq_true, Bool.and_eq_true, Bool.and_eq_true, Bool.and_eq_true] at h
  exact ⟨⟨of_decide_eq_true h.1.1.1.2, of_decide_eq_true h.1.1.2, of_decide_eq_true h.1.2⟩, fun x hx => by
    have h2 := List.all_eq_true.mp h.2 x hx
    exact of_decide_eq_true (p := X.env.scope.names.lookup x = some .globalImplicit) h2⟩
theorem pe_is (n : NC X p D b) {i : Nat} {c : Str} {cv : V} {u : Value} {r : Bool} (hc : PE X (.Name c (q (i + 2))) (tC cv)) (hu : ∀ u', RelV cv u' → u' = u) (hk : PySem.W.kitOne X.K (.ref D) u = some r) :
    PE X (isB q i c) (fun σ H Q => σ[0]? = some (some (.ref p.1)) ∧ Q (.bl r) H) := by
  obtain ⟨⟨k1, k2, k3⟩, kg⟩ := n.kinds
  refine pe_weak (pe_callB (id := "isinstance") (call_isH n.hp n.ex n.zc n.hf) (kg _ (by simp)) n.mi (by decide +kernel) (pa_cons (pe_var (i := 0) (by rw [n.ix]; rfl) (.inl k1) (by decide +kernel) (by decide +kernel)) (pa_cons hc pa_nil)) (by decide +kernel) (by decide +kernel)) fun σ H Q h => ?_
  exact ⟨_, h.1, cv, u, r, rfl, hu, hk, h.2⟩
theorem pe_isC (n : NC X p D b) {i : Nat} {c : Str} (hc : c ∈ nCls) : PE X (isB q i c) (fun σ H Q => σ[0]? = some (some (.ref p.1)) ∧ Q (.bl (b c)) H) := by
  obtain ⟨C, h1, h2⟩ := n.cls c hc
  have hdb : (c == ("__debug__" : Str)) = false := by
    have h3 : nCls.all (fun c => !(c == ("__debug__" : Str))) = true := by decide +kernel
    simpa using List.all_eq_true.mp h3 c hc
  exact pe_is n (cv := .ref C) (pe_glob (n.kinds.2 c (by simp [hc])) h1 rfl hdb) (fun u' h => h) h2
theorem pa_is3 (n : NC X p D b) {i j k : Nat} {c1 c2 c3 : Str} (h1 : c1 ∈ nCls) (h2 : c2 ∈ nCls) (h3 : c3 ∈ nCls) :
    PA X [isB q i c1, isB q j c2, isB q k c3] (fun σ H Q => σ[0]? = some (some (.ref p.1)) ∧ Q [.bl (b c1), .bl (b c2), .bl (b c3)] H) :=
  pa_weak (pa_cons (pe_isC n h1) (pa_cons (pe_isC n h2) (pa_cons (pe_isC n h3) pa_nil))) fun σ H Q h => ⟨h.1, h.1, h.1, h.2⟩
def hx (H0 H : Hp) : Prop := ∀ a o, H0 a = some o → H a = some o
theorem hx_new {H0 H : Hp} {a : Addr} {o : HO} (h : hx H0 H) (hn : H a = none) : hx H0 (upd H a o) := fun c u e => by
  rw [upd_ne (ne_of_none (h c u e) hn)]
  exact h c u e
/-- between the statements: the list so far -/
def nAt (p : Addr × Obj) (H0 : Hp) (bs : List Bool) (lab : Option V) (σ : L2.St) (H : Hp) : Prop := hx H0 H ∧ ∃ a, H0 a = none ∧ H a = some (.lst (bs.map V.bl)) ∧ σ = [some (.ref p.1), some (.ref a), lab, none, none]
theorem ps_first (n : NC X p D b) : PS X (.Assign [.Name "_law_some" (q 0)] (.List [isB q 1 "InvalidRecipe", isB q 5 "InvalidNumber", isB q 9 "InvalidPlace"] (q 13)) (q 14))
    (fun E σ H => ∃ H0, H0 = H ∧ σ = [some (.ref p.1), none, none, none, none] ∧ ∀ σ' H', nAt p H0 [b "InvalidRecipe", b "InvalidNumber", b "InvalidPlace"] none σ' H' → E.nx σ' H') := by
  have h := ps_asg (pos := q 14) (pe_lst (pos := q 13) (pa_is3 n (q := q) (i := 1) (j := 5) (k := 9) (c1 := "InvalidRecipe") (c2 := "InvalidNumber") (c3 := "InvalidPlace") (by decide +kernel) (by decide +kernel) (by decide +kernel))) (pg_name (pos := q 0) n.nd (i := 1) (x := "_law_some") (by rw [n.ix]; rfl) (.inl n.kinds.1.2.1) (.inl (n.fn _)))
  refine ⟨fun pins s σ H E I ⟨H0, e0, es, k⟩ => h.run pins s σ H E I ?_⟩
  subst e0 es
  refine ⟨rfl, by show 3 ≤ sizeLine; decide, fun a ha => ?_⟩
  exact k _ _ ⟨hx_new (fun _ _ e => e) ha, a, ha, upd_same, rfl⟩
theorem ps_add (n : NC X p D b) {i : Nat} {c1 c2 c3 : Str} (h1 : c1 ∈ nCls) (h2 : c2 ∈ nCls) (h3 : c3 ∈ nCls) : PS X (nAdd q i c1 c2 c3)
    (fun E σ H => ∃ H0 bs, nAt p H0 bs none σ H ∧ bs.length ≤ 100 ∧ ∀ σ' H', nAt p H0 (bs ++ [b c1, b c2, b c3]) none σ' H' → E.nx σ' H') := by
  have h := ps_asg (pos := q (i + 16)) (pe_op (pos := q (i + 15)) op_cat (pe_var (pos := q (i + 1)) (i := 1) (x := "_law_some") (by rw [n.ix]; rfl) (.inl n.kinds.1.2.1) (by decide +kernel) (by decide +kernel)) (pe_lst (pos := q (i + 14)) (pa_is3 n (q := q) (i := i + 2) (j := i + 6) (k := i + 10) h1 h2 h3)))
    (pg_name (pos := q i) n.nd (i := 1) (x := "_law_some") (by rw [n.ix]; rfl) (.inl n.kinds.1.2.1) (.inl (n.fn _)))
  refine ⟨fun pins s σ H E I ⟨H0, bs, ⟨hh, a, a0, ha, es⟩, hl, k⟩ => h.run pins s σ H E I ?_⟩
  subst es
  refine ⟨.ref a, rfl, rfl, by show 3 ≤ sizeLine; decide, fun c hc => ?_⟩
  refine ⟨a, c, bs.map V.bl, [.bl (b c1), .bl (b c2), .bl (b c3)], rfl, rfl, by rw [upd_ne (ne_of_none ha hc)]; exact ha, upd_same, by rw [List.length_map]; show _ + 3 ≤ sizeLine; rw [sizeLine_eq]; omega, fun d hd => ?_⟩
  have x1 : hx H0 (upd H c (.lst [.bl (b c1), .bl (b c2), .bl (b c3)])) := hx_new hh hc
  refine k _ _ ⟨hx_new x1 hd, d, ?_, by rw [upd_same, List.map_append]; rfl, rfl⟩
  cases e : H0 d with
  | none => rfl
  | some o =>
    rw [x1 d o e] at hd
    cases hd
theorem ps_app (n : NC X p D b) (hl : ((q 84).endLine == (q 89).line) = true) : PS X (.Expr (.Call (.Attribute (.Name "_law_some" (q 83)) "append" (q 84)) [isB q 85 "ValueError"] [] (q 89)) (q 90))
    (fun E σ H => ∃ H0 bs, nAt p H0 bs none σ H ∧ bs.length ≤ 100 ∧ ∀ σ' H', nAt p H0 (bs ++ [true]) none σ' H' → E.nx σ' H') := by
  have hv : PE X (isB q 85 "ValueError") (fun σ H Q => σ[0]? = some (some (.ref p.1)) ∧ Q (.bl true) H) :=
    pe_is n (q := q) (i := 85) (c := "ValueError") (cv := .ty "ValueError") (pe_bltn (pos := q 87) (n.kinds.2 _ (by simp)) n.mv (by decide +kernel) rfl (by decide +kernel) (by decide +kernel)) (fun u' h => h) n.val
  have h := ps_expr (pos := q 90) (pe_bm (cpos := q 89) (apos := q 84) PySem.F.plainAttrs_list PySem.F.slot_list_append PySem.F.type_list_append mt_append (pe_var (pos := q 83) (i := 1) (x := "_law_some") (by rw [n.ix]; rfl) (.inl n.kinds.1.2.1) (by decide +kernel) (by decide +kernel)) (pa_cons hv pa_nil) (by rfl) (by rfl) hl) (by rfl)
  refine ⟨fun pins s σ H E I ⟨H0, bs, ⟨hh, a, a0, ha, es⟩, hlen, k⟩ => h.run pins s σ H E I ?_⟩
  subst es
  refine ⟨.ref a, rfl, .inl ⟨rfl, _, SqL.of ha⟩, rfl, a, bs.map V.bl, .bl true, rfl, rfl, ha, by rw [List.length_map, sizeLine_eq]; omega, ?_⟩
  refine k _ _ ⟨fun c u e => ?_, a, a0, by rw [upd_same, List.map_append]; rfl, rfl⟩
  rw [upd_ne (ne_of_none e a0)]
  exact hh c u e
theorem ps_lab (n : NC X p D b) : PS X (.Assign [.Name "_law_labels" (q 91)] (.Constant (.str nLab) 0 (q 92)) (q 93))
    (fun E σ H => ∃ H0 bs, nAt p H0 bs none σ H ∧ ∀ σ' H', nAt p H0 bs (some (.str nLab)) σ' H' → E.nx σ' H') := by
  have h := ps_asg (pos := q 93) (pe_str (x := nLab) (j := 0) (pos := q 92)) (pg_name (pos := q 91) n.nd (i := 2) (x := "_law_labels") (by rw [n.ix]; rfl) (.inl n.kinds.1.2.2) (.inl (n.fn _)))
  refine ⟨fun pins s σ H E I ⟨H0, bs, ⟨hh, a, a0, ha, es⟩, k⟩ => h.run pins s σ H E I ?_⟩
  subst es
  exact k _ _ ⟨hh, a, a0, ha, rfl⟩
end
end DH
end

section
set_option Elab.async false
set_option linter.all false
set_option maxRecDepth 100000
set_option maxHeartbeats 2000000
set_option autoImplicit false
namespace DH
open PySem PySem.Spec PyProof.Rows L2 HotX L2H
def nLabs : List Str := ["recipe", "number", "place", "word", "sights", "step", "corner", "text", "fold", "none", "unlike", "flat", "undo", "many", "failed", "value"]
theorem split_lab : Txt.split nLab (Str.ofString " ") = nLabs := by decide +kernel
def nTold (bs : List Bool) : List Str := ((nLabs.zip bs).filter (·.2)).map (·.1)
section
variable {X : Cx} {p : Addr × Obj} {D : Addr} {b : Str → Bool} {q : Nat → Pos}
theorem told_len (bs : List Bool) : ((nTold bs).map (·.length)).sum + (nTold bs).length * (Str.ofString " ").length ≤ 16777216 := by
  have h1 : ∀ (l : List (Str × Bool)), (∀ x ∈ l, x.1.length ≤ 10) → (((l.filter (·.2)).map (·.1)).map (·.length)).sum ≤ 10 * l.length ∧ ((l.filter (·.2)).map (·.1)).length ≤ l.length := by
    intro l
    induction l with
    | nil => intro _; exact ⟨Nat.le_refl _, Nat.le_refl _⟩
    | cons x l ih =>
      intro h
      obtain ⟨i1, i2⟩ := ih fun y hy => h y (List.mem_cons_of_mem _ hy)
      have hx := h x List.mem_cons_self
      rw [List.filter_cons]
      split
      · simp only [List.map_cons, List.sum_cons, List.length_cons]
        omega
      · simp only [List.length_cons]
        omega
  have h2 : (nLabs.zip bs).length ≤ 16 := by
    rw [List.length_zip]
    have : nLabs.length = 16 := rfl
    omega
  have h3 : ∀ x ∈ nLabs.zip bs, x.1.length ≤ 10 := fun x hx => by
    have h4 : nLabs.all (fun y => decide (y.length ≤ 10)) = true := by decide +kernel
    exact of_decide_eq_true (List.all_eq_true.mp h4 x.1 (List.of_mem_zip hx).1)
  obtain ⟨i1, i2⟩ := h1 _ h3
  have h5 : (Str.ofString " ").length = 1 := by decide +kernel
  unfold nTold
  rw [h5]
  omega
theorem pe_lcN (n : NC X p D b) (hl : ((q 102).endLine == (q 104).line) = true) : PE X (.ListComp (.Name "_law_label" (q 96)) [⟨.Tuple [.Name "_law_label" (q 97), .Name "_law_good" (q 98)] 0 (q 99),
    .Call (.Name "zip" (q 100)) [.Call (.Attribute (.Name "_law_labels" (q 101)) "split" (q 102)) [.Constant (.str " ") 0 (q 103)] [] (q 104), .Name "_law_some" (q 105)] [] (q 106), [.Name "_law_good" (q 107)], 0⟩] nCs (q 108))
    (fun σ H Q => ∃ H0 bs, nAt p H0 bs (some (.str nLab)) σ H ∧ bs.length = 16 ∧ ∀ Dl H', hx H0 H' → H' Dl = some (.lst ((nTold bs).map V.str)) → Q (.ref Dl) H') := by
  have hz : PIQ X (.Tuple [.Name "_law_label" (q 97), .Name "_law_good" (q 98)] 0 (q 99)) (.Call (.Name "zip" (q 100)) [.Call (.Attribute (.Name "_law_labels" (q 101)) "split" (q 102)) [.Constant (.str " ") 0 (q 103)] [] (q 104), .Name "_law_some" (q 105)] [] (q 106)) _ :=
    pi_zipQ (pos := q 106) (n.kinds.2 _ (by simp)) n.mz (pa_cons (pe_split (apos := q 102) (pos := q 104) (pe_var (pos := q 101) (i := 2) (x := "_law_labels") (by rw [n.ix]; rfl) (.inl n.kinds.1.2.2) (by decide +kernel) (by decide +kernel)) (pe_str (x := " ") (j := 0) (pos := q 103)) (by rfl) (by rfl) hl)
      (pa_cons (pe_var (pos := q 105) (i := 1) (x := "_law_some") (by rw [n.ix]; rfl) (.inl n.kinds.1.2.1) (by decide +kernel) (by decide +kernel)) pa_nil))
  have hlab : X.N[3]? = some ("_law_label" : Str) := by rw [n.ix]; rfl
  have hgood : X.N[4]? = some ("_law_good" : Str) := by rw [n.ix]; rfl
  refine pe_weak (pe_lcH (p := p) (g := gTup X.K 2 (gCons (gName 3) (gCons (gName 4) gNil))) (tt := tB (tVar 4)) (te := tVar 3) n.hot n.hp n.nd hz n.blk
    (fun s H C cl fp => pgh_tup (X := X.blk s H nCs (compEnvC nCs cl C X.env) fp) (n := 2) n.hot (pgs_cons (pg_name n.nd hlab (.inl rfl) (.inr rfl)) (pgs_cons (pg_name n.nd hgood (.inl rfl) (.inr rfl)) pgs_nil)))
    (fun s H C cl fp => pts_one (pt_val (X := X.blk s H nCs (compEnvC nCs cl C X.env) fp) (pe_var hgood (.inl rfl) (by decide +kernel) (by decide +kernel)) (fun _ => rfl)))
    (fun s H C cl fp => pe_var (X := X.blk s H nCs (compEnvC nCs cl C X.env) fp) hlab (.inl rfl) (by decide +kernel) (by decide +kernel)) (fun _ => rfl)) fun σ H Q h => ?_
  obtain ⟨H0, bs, ⟨hh, a, a0, ha, es⟩, hb, k⟩ := h
  subst es
  refine ⟨.str nLab, rfl, ⟨nLab, rfl⟩, nLab, Str.ofString " ", rfl, rfl, by decide +kernel, by rw [sizeLine_eq]; decide +kernel, fun l hl => ?_⟩
  rw [split_lab]
  have hal : (upd H l (.lst (nLabs.map V.str))) a = some (.lst (bs.map V.bl)) := by rw [upd_ne (ne_of_none ha hl)]; exact ha
  refine ⟨.ref a, rfl, l, a, nLabs.map V.str, bs.map V.bl, rfl, SqL.of upd_same, SqL.of hal, fun Dl hD => ?_⟩
  have hx1 : hx H0 (upd H l (.lst (nLabs.map V.str))) := hx_new hh hl
  have l16 : nLabs.length = 16 := rfl
  generalize hH1 : upd H l (.lst (nLabs.map V.str)) = H1 at hD hal hx1
  have hl1 : H1 l = some (.lst (nLabs.map V.str)) := by rw [← hH1]; exact upd_same
  have D0 : H0 Dl = none := by
    cases e : H0 Dl with
    | none => rfl
    | some o =>
      rw [hx1 Dl o e] at hD
      cases hD
  have lD : l ≠ Dl := ne_of_none hl1 hD
  have aD : a ≠ Dl := ne_of_none hal hD
  let P : Nat → Hp → Prop := fun i H' => H' l = some (.lst (nLabs.map V.str)) ∧ H' a = some (.lst (bs.map V.bl)) ∧ hx H0 H' ∧ H' Dl = some (.lst (((((nLabs.zip bs).take i).filter (·.2)).map (·.1)).map V.str))
  refine ⟨fun i m H' => m = 16 - i ∧ i ≤ 16 ∧ P i H', ⟨16, rfl, by decide, by rw [upd_ne lD]; exact hl1, by rw [upd_ne aD]; exact hal, fun c u e => by rw [upd_ne (ne_of_none (hx1 c u e) hD)]; exact hx1 c u e, upd_same⟩, ?_⟩
  rintro i m H' ⟨rfl, hi, p1, p2, p3, p4⟩
  by_cases hlt : i < 16
  · refine .inr ⟨⟨nLabs.map V.str, bs.map V.bl, .str (nLabs[i]'(by omega)), .bl (bs[i]'(by omega)), SqL.of p1, SqL.of p2, by rw [List.getElem?_map, List.getElem?_eq_getElem (by omega)]; rfl, by rw [List.getElem?_map, List.getElem?_eq_getElem (by omega)]; rfl⟩, P (i + 1), fun H2 h2 => ⟨16 - (i + 1), by omega, rfl, by omega, h2⟩, ?_⟩
    rintro v H2 ⟨T, x, y, rfl, hT, rfl, f1, f2⟩
    have ex := f1 _ (SqL.of p1)
    have ey := f2 _ (SqL.of p2)
    rw [List.getElem?_map, List.getElem?_eq_getElem (show i < nLabs.length by omega)] at ex
    rw [List.getElem?_map, List.getElem?_eq_getElem (show i < bs.length by omega)] at ey
    cases ex
    cases ey
    have hz : (nLabs.zip bs)[i]? = some (nLabs[i]'(by omega), bs[i]'(by omega)) := by
      rw [List.getElem?_zip_eq_some]
      exact ⟨List.getElem?_eq_getElem (by omega), List.getElem?_eq_getElem (by omega)⟩
    have tk : (nLabs.zip bs).take (i + 1) = (nLabs.zip bs).take i ++ [(nLabs[i]'(by omega), bs[i]'(by omega))] := by
      rw [List.take_succ, hz]
      rfl
    refine ⟨T, [.str (nLabs[i]'(by omega)), .bl (bs[i]'(by omega))], rfl, .inl (.inl upd_same), rfl, _, _, rfl, _, _, rfl, rfl, rfl, .bl (bs[i]'(by omega)), rfl, bs[i]'(by omega), rfl, ?_⟩
    have nT : ∀ c u, H' c = some u → upd H' T (.tup [.str (nLabs[i]'(by omega)), .bl (bs[i]'(by omega))]) c = some u := fun c u e => by rw [upd_ne (ne_of_none e hT)]; exact e
    cases hbi : bs[i]'(by omega) with
    | false =>
      show P (i + 1) _
      rw [hbi] at nT
      refine ⟨nT _ _ p1, nT _ _ p2, fun c u e => nT _ _ (p3 c u e), ?_⟩
      rw [nT _ _ p4, tk, List.filter_append, hbi]
      simp
    | true =>
      dsimp only
      rw [if_pos rfl]
      rw [hbi] at nT
      refine ⟨.str (nLabs[i]'(by omega)), rfl, _, nT _ _ p4, ?_, ?_⟩
      · rw [List.length_map, List.length_map, sizeLine_eq]
        have h1 := List.length_filter_le (fun x : Str × Bool => x.2) ((nLabs.zip bs).take i)
        have h2 : ((nLabs.zip bs).take i).length ≤ i := List.length_take_le _ _
        omega
      · have keep : ∀ c u, H' c = some u → c ≠ Dl → upd (upd H' T (.tup [.str (nLabs[i]'(by omega)), .bl true])) Dl (.lst (((((nLabs.zip bs).take i).filter (·.2)).map (·.1)).map V.str ++ [.str (nLabs[i]'(by omega))])) c = some u := fun c u e hc => by
          rw [upd_ne hc]
          exact nT c u e
        refine ⟨keep _ _ p1 lD, keep _ _ p2 aD, fun c u e => keep _ _ (p3 c u e) (ne_of_none e D0), ?_⟩
        rw [upd_same, tk, List.filter_append, hbi]
        simp
  · have hi16 : i = 16 := by omega
    subst hi16
    refine .inl ⟨⟨_, _, SqL.of p1, SqL.of p2, by rw [List.length_map]; omega, by rw [List.length_map]; omega, .inl (by rw [List.length_map]; omega)⟩, k Dl H' p3 ?_⟩
    rw [p4, List.take_of_length_le (by rw [List.length_zip]; omega)]
    rfl
theorem ps_nret (n : NC X p D b) (h1 : ((q 95).endLine == (q 109).line) = true) (h2 : ((q 102).endLine == (q 104).line) = true) : PS X (nRet q)
    (fun E σ H => ∃ H0 bs, nAt p H0 bs (some (.str nLab)) σ H ∧ bs.length = 16 ∧ ∀ H', hx H0 H' → E.rt (.str (Txt.join (Str.ofString " ") (nTold bs))) H') := by
  have h := ps_ret (pos := q 110) (pe_join (apos := q 95) (pos := q 109) (pe_str (x := " ") (j := 0) (pos := q 94)) (pe_lcN n h2) (by rfl) (by rfl) h1)
  refine ⟨fun pins s σ H E I ⟨H0, bs, hn, hb, k⟩ => h.run pins s σ H E I ?_⟩
  exact ⟨⟨_, rfl⟩, H0, bs, hn, hb, fun Dl H' h3 h4 => ⟨Str.ofString " ", Dl, nTold bs, rfl, rfl, .inl (SqL.of h4), told_len bs, k H' h3⟩⟩
end
end DH
end

section
set_option Elab.async false
set_option linter.all false
set_option maxRecDepth 100000
set_option maxHeartbeats 2000000
set_option autoImplicit false
namespace DH
open PySem PySem.Spec PyProof.Rows L2 HotX L2H
theorem pss_weak {X : Cx} {ss : List Stmt} {t u : TS} (h : PSs X ss t) (i : ∀ E σ H, u E σ H → t E σ H) : PSs X ss u := ⟨fun pins s σ H E I hw => h.run pins s σ H E I (i E σ H hw)⟩
/-- the lines of the methods' calls -/
structure NLn (q : Nat → Pos) : Prop where
  a : ((q 84).endLine == (q 89).line) = true
  b : ((q 95).endLine == (q 109).line) = true
  c : ((q 102).endLine == (q 104).line) = true
def nZ (b : Str → Bool) : Str := Txt.join (Str.ofString " ") (nTold (nCls.map b ++ [true]))
section
variable {X : Cx} {p : Addr × Obj} {D : Addr} {b : Str → Bool} {q : Nat → Pos}
theorem pss_names (n : NC X p D b) (hq : NLn q) : PSs X (nBody q) (fun E σ H => σ = [some (.ref p.1), none, none, none, none] ∧ ∀ H', hx H H' → E.rt (.str (nZ b)) H') := by
  have m : ∀ c, nCls.contains c = true → c ∈ nCls := fun c h => List.contains_iff_mem.mp h
  refine pss_weak (pss_cons (ps_first n) (pss_cons (ps_add n (m _ (by decide +kernel)) (m _ (by decide +kernel)) (m _ (by decide +kernel))) (pss_cons (ps_add n (m _ (by decide +kernel)) (m _ (by decide +kernel)) (m _ (by decide +kernel))) (pss_cons (ps_add n (m _ (by decide +kernel)) (m _ (by decide +kernel)) (m _ (by decide +kernel)))
    (pss_cons (ps_add n (m _ (by decide +kernel)) (m _ (by decide +kernel)) (m _ (by decide +kernel))) (pss_cons (ps_app n hq.a) (pss_cons (ps_lab n) (pss_one (ps_nret n hq.b hq.c))))))))) fun E σ H ⟨es, k⟩ => ?_
  refine ⟨H, rfl, es, fun σ1 H1 h1 => ⟨H, _, h1, by simp, fun σ2 H2 h2 => ⟨H, _, h2, by simp, fun σ3 H3 h3 => ⟨H, _, h3, by simp, fun σ4 H4 h4 => ⟨H, _, h4, by simp, fun σ5 H5 h5 => ⟨H, _, h5, by simp, fun σ6 H6 h6 => ⟨H, _, h6, fun σ7 H7 h7 => ⟨H, _, h7, by simp, fun H' h' => ?_⟩⟩⟩⟩⟩⟩⟩⟩
  exact k H' h'
end
/-- the classes, as the fragment says -/
structure NK (K : PySem.W.Frag) (mg : Str → Option Value) (D : Addr) (b : Str → Bool) : Prop where
  ex : ExcC K D
  mi : mg "isinstance" = none
  mz : mg "zip" = none
  mv : mg "ValueError" = none
  cls : ∀ c ∈ nCls, ∃ C, mg c = some (.ref C) ∧ PySem.W.kitOne K (.ref D) (.ref C) = some (b c)
  val : PySem.W.kitOne K (.ref D) (.type "ValueError") = some true
section
variable {P : Program} {w : World} {K : PySem.W.Frag} {mg : Str → Option Value} {base : Heap}
/-- its promise -/
def nSp (p : Addr × Obj) (b : Str → Bool) : Sp := fun vs H Q _ => vs = [.ref p.1] ∧ ∀ H', hx H H' → Q (.str (nZ b)) H'
theorem fn_names {p : Addr × Obj} {D fn : Addr} {b : Str → Bool} {q : Nat → Pos} {x : Str} {params : Arguments} {scope : Scope} {dV kV doc pm cdv ct oc : Value} {an od : Option Addr} {osl : Array (Option Value)} (nk : NK K mg D b) (hz : Zc (.ref D) none p.2) (hf : ∃ vs, p.2.data = .fields vs)
    (lk : K.lookup fn = some ⟨oc, od, .func (PySem.W.fnOf x x params (nBody q) scope dV kV doc pm an cdv ct), osl⟩) (hcd : PySem.W.codeIn K cdv x = true) (S : FnScope nN ["_law_error"] scope) (hsc : nSc scope = true) (hbl : blkC nN scope nCs [("_law_label", 3), ("_law_good", 4)] = true) (hq : NLn q) :
    FnP P w K mg base C8.CX0 p 1 fn (PySem.W.fnOf x x params (nBody q) scope dV kV doc pm an cdv ct) ["_law_error"] (nSp p b) := by
  refine fn_ofP lk hcd S (fun vs H Q E h => by rw [h.1]; rfl) fun A outer s H vs Q E hot h => ?_
  have n : NC (cxH C8.CX0 P w K mg base nN x scope fn cdv A outer s H E p) p D b := ⟨rfl, hsc, blkOk_by hbl, hot, by show p ∈ [p]; simp, nk.ex, hz, hf, nk.mi, nk.mz, nk.mv, nk.cls, nk.val, fun _ => rfl⟩
  refine ⟨_, pss_names n hq, ?_, h.2⟩
  rw [h.1]
  rfl
theorem takes_len {X : Cx} {W : WX} (t : L2N.Takes X W) : L2N.Takes X (fun c d σ H => σ.length = X.N.length → W c d σ H) :=
  fun u s' ⟨a, B, sI, pins, σ, H, cls, d, e, I, nb, up, sky, na, os, ag, wh⟩ => t u s' ⟨a, B, sI, pins, σ, H, cls, d, e, I, nb, up, sky, na, os, ag, wh I.len⟩
/-- try: a() / except StripError as _law_error: return names(_law_error) -/
def wSuite (xn : Str) (q : Nat → Pos) : List ExceptHandler := [.ExceptHandler (some (.Name "StripError" (q 0))) (some "_law_error") [.Return (some (.Call (.Name xn (q 1)) [.Name "_law_error" (q 2)] [] (q 3))) (q 4)] (q 5)]
/-- what the suite makes of an error -/
def wTs (fa : DE.Fa) (wd : Nat → Option Str) : Addr → Value → Option Addr → TS := fun a cls d E σ H => ∃ k z, cls = .ref (fa k) ∧ d = none ∧ wd k = some z ∧ σ[1]? = some (some (.ref a)) ∧ ∀ H', hx H H' → E.rt (.str z) H'
theorem suite_ok {Z : Cx} {fa : DE.Fa} {wd : Nat → Option Str} {fn : Addr} {q qn : Nat → Pos} {xn : Str} {params : Arguments} {scope : Scope} {dV kV doc pm cdv ct oc : Value} {an od : Option Addr} {osl : Array (Option Value)}
    (hw : ∀ k z, wd k = some z → ∃ b, NK Z.K Z.mg (fa k) b ∧ z = nZ b)
    (lk : Z.K.lookup fn = some ⟨oc, od, .func (PySem.W.fnOf xn xn params (nBody qn) scope dV kV doc pm an cdv ct), osl⟩) (hcd : PySem.W.codeIn Z.K cdv xn = true) (S : FnScope nN ["_law_error"] scope) (hsc : nSc scope = true) (hbl : blkC nN scope nCs [("_law_label", 3), ("_law_good", 4)] = true) (hq : NLn qn)
    (hm : Z.mg xn = some (.ref fn)) (hk : PySem.W.keepIn Z.K (.ref fn) = true) (hb : Binds Z.K (PySem.W.fnOf xn xn params (nBody qn) scope dV kV doc pm an cdv ct) ["_law_error"] []) (hg : Gl Z xn) (hxn : (xn == ("__debug__" : Str)) = false) (hr : Room 1 Z.A)
    (hN : Z.N[1]? = some ("_law_error" : Str)) (hv : Vis Z.env.scope "_law_error")
    (a : Addr) (oe : Obj) (cls : Value) (d : Option Addr) (pn : List (Addr × Obj)) (hz : L2N.Zn cls d oe) (hf : ∃ vs, oe.data = .fields vs) :
    PSs (Z.suite a ((a, oe) :: pn)) [.Return (some (.Call (.Name xn (q 1)) [.Name "_law_error" (q 2)] [] (q 3))) (q 4)] (wTs fa wd a cls d) := by
  refine ⟨fun pins s σ H E I ⟨k, z, hcls, hd, hwd, hs, hq2⟩ => ?_⟩
  obtain ⟨b, nk, hzb⟩ := hw k z hwd
  subst hcls hd
  have hot : Hot1 (Z.suite a ((a, oe) :: pn)).A (a, oe) := by
    obtain ⟨vs, e⟩ := hf
    exact ⟨rfl, vs, e, hz.2.2 vs e⟩
  have F := fn_names (P := Z.prog) (w := Z.w) (base := Z.base) (p := (a, oe)) (x := xn) nk hz.zc hf lk hcd S hsc hbl hq
  have pc := pe_callP (X := Z.suite a ((a, oe) :: pn)) (E := fun _ => C8.E0) (q := q 1) (pos := q 3) F ⟨hr.dp, hr.un⟩ hot (by simp) hg hm hk hb (fun σ pins H s e s' I c => c.elim) (pa_cons (pe_var (pos := q 2) hN hv (by decide +kernel) (by decide +kernel)) pa_nil) hxn
  exact (pss_one (ps_ret (pos := q 4) pc)).run pins s σ H E I ⟨.ref a, hs, rfl, fun H' h' => by rw [← hzb]; exact hq2 H' h'⟩
/-- what the word's def makes of the lambda, at a later heap too -/
theorem word_gives {X : Cx} {fa : DE.Fa} {wd : Nat → Option Str} {get : Bool} {g fn CS : Addr} {q qn : Nat → Pos} {x xn a ql : Str} {sg : Scope} {cdg : Value} {params : Arguments} {scope : Scope} {dV kV doc pm cdv ct oc : Value} {an od : Option Addr} {osl : Array (Option Value)} {Ng : List Str} {body : List Stmt}
    (hbody : body = if get then [.Try [.Return (some (.Call (.Name a (q 6)) [] [] (q 7))) (q 8)] (wSuite xn q) [] [] (q 9)] else [.Try [.Expr (.Call (.Name a (q 6)) [] [] (q 7)) (q 8)] (wSuite xn q) [] [] (q 9), .Return (some (.Constant (.str "") 0 (q 10))) (q 11)])
    (hw : ∀ k z, wd k = some z → (∃ b, NK X.K X.mg (fa k) b ∧ z = nZ b) ∧ PySem.W.exmOne X.K (.ref (fa k)) (.ref CS) = some true)
    (lk : X.K.lookup fn = some ⟨oc, od, .func (PySem.W.fnOf xn xn params (nBody qn) scope dV kV doc pm an cdv ct), osl⟩) (hcd : PySem.W.codeIn X.K cdv xn = true) (S : FnScope nN ["_law_error"] scope) (hsc : nSc scope = true) (hbl : blkC nN scope nCs [("_law_label", 3), ("_law_good", 4)] = true) (hq : NLn qn)
    (hm : X.mg xn = some (.ref fn)) (hk : PySem.W.keepIn X.K (.ref fn) = true) (hb : Binds X.K (PySem.W.fnOf xn xn params (nBody qn) scope dV kV doc pm an cdv ct) ["_law_error"] []) (hxn : (xn == ("__debug__" : Str)) = false)
    (hN : Ng = [a, "_law_error"]) (hnd : Ng.Nodup) (hv : sg.names.lookup ("_law_error" : Str) = some .local) (hg : sg.names.lookup xn = some .globalImplicit) (hcs : sg.names.lookup ("StripError" : Str) = some .globalImplicit) (hmc : X.mg "StripError" = some (.ref CS)) :
    DL.GivesTo X Ng x sg g cdg body a ql (DE.TTw fa get wd) := by
  intro f c' s H Q tl hr act hc h
  have htry := fun (tb : WX → TS) (b1 : Stmt) (hbb : ∀ (W : WX) (pn : List (Addr × Obj)) (xe : Value → Shared → Prop), L2N.Takes ((cxOf C8.CX0 X.prog X.w X.K X.mg X.base Ng x sg g cdg X.A X.stack s H C8.E0).nox.tr pn xe) W → PassesOwn (model X.prog X.w) (cxOf C8.CX0 X.prog X.w X.K X.mg X.base Ng x sg g cdg X.A X.stack s H C8.E0).nox.A (cxOf C8.CX0 X.prog X.w X.K X.mg X.base Ng x sg g cdg X.A X.stack s H C8.E0).nox.env xe → PSs ((cxOf C8.CX0 X.prog X.w X.K X.mg X.base Ng x sg g cdg X.A X.stack s H C8.E0).nox.tr pn xe) [b1] (tb W)) =>
    L2N.ps_try_as (X := (cxOf C8.CX0 X.prog X.w X.K X.mg X.base Ng x sg g cdg X.A X.stack s H C8.E0).nox) (n := "_law_error") (i := 1) (c := .ref CS) (x := "StripError") (np := q 0) (pos' := q 5) (pos := q 9) (Wout := fun _ _ _ _ => False) (body := [b1]) (tb := tb) (ts := wTs fa wd)
      (b₀ := .Return (some (.Call (.Name xn (q 1)) [.Name "_law_error" (q 2)] [] (q 3))) (q 4)) (suite := []) rfl rfl hnd (by show Ng[1]? = _; rw [hN]; rfl) hv ⟨hcs, by decide +kernel, .inl hmc⟩ DL.takes0 hbb
      (fun a oe cls d pn hz hf => suite_ok (Z := (cxOf C8.CX0 X.prog X.w X.K X.mg X.base Ng x sg g cdg X.A X.stack s H C8.E0).nox) (q := q) (fun k z e => (hw k z e).1) lk hcd S hsc hbl hq hm hk hb hg hxn hr (by show Ng[1]? = _; rw [hN]; rfl) (.inl hv) a oe cls d pn hz hf)
  have h0 : (L2.start Ng [V.ref f])[0]? = some (some (V.ref f)) := rfl
  -- an error is told
  have told : ∀ (D : Ends), D.rt = Q → ∀ (cls : Value) (d : Option Addr) (σ' : L2.St) (H' : Hp), (∃ k z, cls = .ref (fa k) ∧ d = none ∧ wd k = some z ∧ ∀ H'', hx H' H'' → Q (.str z) H'') → σ'.length = Ng.length → wAs X.K (.ref CS) 1 (wTs fa wd) (fun _ _ _ _ => False) D cls d σ' H' := by
    rintro D hD cls d σ' H' ⟨k, z, rfl, rfl, hz, hQ⟩ hl
    refine ⟨true, (hw k z hz).2, fun _ a _ => ⟨k, z, rfl, rfl, hz, ?_, fun H'' h'' => by rw [hD]; exact hQ H'' h''⟩, fun q => by cases q⟩
    rw [List.getElem?_set_self (by rw [hl, hN]; simp)]
  cases get with
  | true =>
    subst hbody
    rw [if_pos rfl]
    refine ⟨_, pss_one (htry (fun W D σ H => ∃ Ech : XK, (∀ cls d σ' H', Ech cls d H' → σ'.length = Ng.length → W cls d σ' H') ∧ σ[0]? = some (some (.ref f)) ∧ H c' = some (LamX.CodeO c' ql) ∧ tl Ech H D.rt) (.Return (some (.Call (.Name a (q 6)) [] [] (q 7))) (q 8)) (fun W pn xe tk _ => ⟨fun pins s' σ H' D I ⟨Ech, hW, h1, h2, h3⟩ => ?_⟩)), ?_⟩
    · exact (pss_one (ps_ret (pos := q 8) (act _ pn xe Ech (q 6) (q 7) (takes_len tk) fun cls d σ' H' e hl => hW cls d σ' H' e hl))).run pins s' σ H' D I ⟨h1, h2, h3⟩
    · exact ⟨_, fun cls d σ' H' e hl => told _ rfl cls d σ' H' e hl, h0, hc, h⟩
  | false =>
    subst hbody
    rw [if_neg Bool.false_ne_true]
    refine ⟨_, pss_cons (htry (fun W D σ H => ∃ Ech : XK, (∀ cls d σ' H', Ech cls d H' → σ'.length = Ng.length → W cls d σ' H') ∧ σ[0]? = some (some (.ref f)) ∧ H c' = some (LamX.CodeO c' ql) ∧ tl Ech H fun _ H1 => D.nx σ H1) (.Expr (.Call (.Name a (q 6)) [] [] (q 7)) (q 8)) (fun W pn xe tk _ => ⟨fun pins s' σ H' D I ⟨Ech, hW, h1, h2, h3⟩ => ?_⟩)) (pss_one (ps_ret (pos := q 11) (pe_str (x := "") (j := 0) (pos := q 10)))), ?_⟩
    · exact (pss_one (ps_expr (pos := q 8) (act _ pn xe Ech (q 6) (q 7) (takes_len tk) fun cls d σ' H' e hl => hW cls d σ' H' e hl) (by rfl))).run pins s' σ H' D I ⟨h1, h2, h3⟩
    · exact ⟨_, fun cls d σ' H' e hl => told _ rfl cls d σ' H' e hl, h0, hc, h⟩
end
end DH
end

section
set_option Elab.async false
set_option linter.all false
set_option maxRecDepth 100000
set_option maxHeartbeats 2000000
set_option autoImplicit false
namespace DH
open PySem PySem.Spec PyProof.Rows L2 HotX L2H
def excB (K : PySem.W.Frag) (D : Addr) : Bool :=
  decide (PySem.W.findIn K (.ref D) "__getattribute__" = some (some (.builtin "BaseException.__getattribute__"))) && decide (PySem.W.findIn K (.ref D) "__getattr__" = some none) && decide (PySem.W.subIn K (.ref D) (.type "BaseException") = some true) && PySem.W.hasDictIn K D &&
  decide (PySem.W.findIn K (.ref D) "__class__" = some (some (.builtin "object.__class__"))) && decide (PySem.W.specialIn K (.builtin "object.__class__") "__get__" = some (some (.builtin "getset_descriptor.__get__"))) && decide (PySem.W.takesIn K (.builtin "object.__class__") = some true) && decide (PySem.W.mroIn K D (.type "object") = some true)
theorem excB_ok {K : PySem.W.Frag} {D : Addr} (h : excB K D = true) : ExcC K D := by
  unfold excB at h
  simp only [Bool.and_eq_true, decide_eq_true_eq] at h
  obtain ⟨⟨⟨⟨⟨⟨⟨h1, h2⟩, h3⟩, h4⟩, h5⟩, h6⟩, h7⟩, h8⟩ := h
  exact ⟨h1, h2, h3, h4, h5, h6, h7, h8⟩
def nkB (K : PySem.W.Frag) (x : Str) : Bool := excB K (He.ga K x) && (nCls.all fun c => decide (PySem.W.kitOne K (.ref (He.ga K x)) (.ref (He.ga K c)) = some (x == c))) && decide (PySem.W.kitOne K (.ref (He.ga K x)) (.type "ValueError") = some true)
theorem nkB_ok {K : PySem.W.Frag} {x : Str} {mg : Str → Option Value} (h : nkB K x = true) (h1 : mg "isinstance" = none) (h2 : mg "zip" = none) (h3 : mg "ValueError" = none) (hc : ∀ c ∈ nCls, mg c = some (.ref (He.ga K c))) : NK K mg (He.ga K x) (fun c => x == c) := by
  unfold nkB at h
  rw [Bool.and_eq_true, Bool.and_eq_true] at h
  exact ⟨excB_ok h.1.1, h1, h2, h3, fun c hm => ⟨_, hc c hm, of_decide_eq_true (p := PySem.W.kitOne K (.ref (He.ga K x)) (.ref (He.ga K c)) = some (x == c)) (List.all_eq_true.mp h.1.2 c hm)⟩, of_decide_eq_true h.2⟩
def wBody (get : Bool) (q : Nat → Pos) (a xn : Str) : List Stmt := if get then [.Try [.Return (some (.Call (.Name a (q 6)) [] [] (q 7))) (q 8)] (wSuite xn q) [] [] (q 9)] else [.Try [.Expr (.Call (.Name a (q 6)) [] [] (q 7)) (q 8)] (wSuite xn q) [] [] (q 9), .Return (some (.Constant (.str "") 0 (q 10))) (q 11)]
def nlnB (q : Nat → Pos) : Bool := ((q 84).endLine == (q 89).line) && ((q 95).endLine == (q 109).line) && ((q 102).endLine == (q 104).line)
theorem nln_of {q : Nat → Pos} (h : nlnB q = true) : NLn q := by
  unfold nlnB at h
  rw [Bool.and_eq_true, Bool.and_eq_true] at h
  exact ⟨h.1.1, h.1.2, h.2⟩
theorem word_ok {P : Program} {w : World} {K : PySem.W.Frag} {mg : Str → Option Value} {base : Heap} {fa : DE.Fa} {x xn a : Str} {get : Bool} {wd : Nat → Option Str} {g fn CS : Addr} {q qn : Nat → Pos} {pg pn : Arguments} {sg scope : Scope} {fdw fdn : FuncData}
    (Fw : FunD K x x pg (wBody get q a xn) sg [] [] g fdw) (hmw : mg x = some (.ref g)) (Bw : Binds K fdw [a] []) (Sw : FnScope [a, "_law_error"] [a] sg)
    (Fn : FunD K xn xn pn (nBody qn) scope [] [] fn fdn) (hmn : mg xn = some (.ref fn)) (Bn : Binds K fdn ["_law_error"] []) (Sn : FnScope nN ["_law_error"] scope)
    (hsc : nSc scope = true) (hbl : blkC nN scope nCs [("_law_label", 3), ("_law_good", 4)] = true) (hq : nlnB qn = true) (hxn : (xn == ("__debug__" : Str)) = false)
    (hva : sg.names.lookup a = some .local) (hda : (a == ("__debug__" : Str)) = false) (hca : (a == ("__classdict__" : Str)) = false)
    (hv : sg.names.lookup ("_law_error" : Str) = some .local) (hg : sg.names.lookup xn = some .globalImplicit) (hcs : sg.names.lookup ("StripError" : Str) = some .globalImplicit) (hmc : mg "StripError" = some (.ref CS))
    (hw : ∀ k z, wd k = some z → (∃ b, NK K mg (fa k) b ∧ z = nZ b) ∧ PySem.W.exmOne K (.ref (fa k)) (.ref CS) = some true) :
    ∃ pg bg sg dV kV doc pm cdv ct oc an od osl Ng a g, DE.WordOk P w K mg base fa x get wd pg bg sg dV kV doc pm cdv ct oc an od osl Ng a g := by
  obtain ⟨oc, od, dV, kV, doc, pm, an, cdv, ct, osl, rfl, lk, hcd, _, _⟩ := Fw.ex
  obtain ⟨oc2, od2, dV2, kV2, doc2, pm2, an2, cdv2, ct2, osl2, rfl, lk2, hcd2, _, _⟩ := Fn.ex
  refine ⟨pg, _, sg, dV, kV, doc, pm, cdv, ct, oc, an, od, osl, [a, "_law_error"], a, g, ⟨hmw, Fw.kp, lk, hcd, Bw, Sw, rfl, .inl hva, hda, hca, fun X ql e1 e2 e3 e4 e5 => ?_⟩⟩
  subst e1 e2 e3 e4 e5
  exact word_gives (qn := qn) (q := q) (fn := fn) (CS := CS) (xn := xn) rfl hw lk2 hcd2 Sn hsc hbl (nln_of hq) hmn Fn.kp Bn hxn rfl Sw.nd hv hg hcs hmc
end DH
end

section
set_option Elab.async false
set_option linter.all false
set_option maxRecDepth 100000
set_option maxHeartbeats 2000000
set_option autoImplicit false
namespace DH
open PySem PySem.Spec PyProof.Rows L2 HotX L2H
def tTs (fa : DE.Fa) (wd : Nat → Option Str) (i : Nat) : Addr → Value → Option Addr → TS := fun a cls d E σ H => ∃ k z, cls = .ref (fa k) ∧ d = none ∧ wd k = some z ∧ σ[i]? = some (some (.ref a)) ∧ ∀ H', hx H H' → E.rt (.str z) H'
theorem tsuite_ok {Z : Cx} {fa : DE.Fa} {wd : Nat → Option Str} {i : Nat} {fn : Addr} {q qn : Nat → Pos} {xn : Str} {params : Arguments} {scope : Scope} {dV kV doc pm cdv ct oc : Value} {an od : Option Addr} {osl : Array (Option Value)}
    (hw : ∀ k z, wd k = some z → ∃ b, NK Z.K Z.mg (fa k) b ∧ z = nZ b)
    (lk : Z.K.lookup fn = some ⟨oc, od, .func (PySem.W.fnOf xn xn params (nBody qn) scope dV kV doc pm an cdv ct), osl⟩) (hcd : PySem.W.codeIn Z.K cdv xn = true) (S : FnScope nN ["_law_error"] scope) (hsc : nSc scope = true) (hbl : blkC nN scope nCs [("_law_label", 3), ("_law_good", 4)] = true) (hq : NLn qn)
    (hm : Z.mg xn = some (.ref fn)) (hk : PySem.W.keepIn Z.K (.ref fn) = true) (hb : Binds Z.K (PySem.W.fnOf xn xn params (nBody qn) scope dV kV doc pm an cdv ct) ["_law_error"] []) (hg : Gl Z xn) (hxn : (xn == ("__debug__" : Str)) = false) (hr : Room 1 Z.A)
    (hN : Z.N[i]? = some ("_law_error" : Str)) (hv : Vis Z.env.scope "_law_error")
    (a : Addr) (oe : Obj) (cls : Value) (d : Option Addr) (pn : List (Addr × Obj)) (hz : L2N.Zn cls d oe) (hf : ∃ vs, oe.data = .fields vs) :
    PSs (Z.suite a ((a, oe) :: pn)) [.Return (some (.Call (.Name xn (q 1)) [.Name "_law_error" (q 2)] [] (q 3))) (q 4)] (tTs fa wd i a cls d) := by
  refine ⟨fun pins s σ H E I ⟨k, z, hcls, hd, hwd, hs, hq2⟩ => ?_⟩
  obtain ⟨b, nk, hzb⟩ := hw k z hwd
  subst hcls hd
  have hot : Hot1 (Z.suite a ((a, oe) :: pn)).A (a, oe) := by
    obtain ⟨vs, e⟩ := hf
    exact ⟨rfl, vs, e, hz.2.2 vs e⟩
  have F := fn_names (P := Z.prog) (w := Z.w) (base := Z.base) (p := (a, oe)) (x := xn) nk hz.zc hf lk hcd S hsc hbl hq
  have pc := pe_callP (X := Z.suite a ((a, oe) :: pn)) (E := fun _ => C8.E0) (q := q 1) (pos := q 3) F ⟨hr.dp, hr.un⟩ hot (by simp) hg hm hk hb (fun σ pins H s e s' I c => c.elim) (pa_cons (pe_var (pos := q 2) hN hv (by decide +kernel) (by decide +kernel)) pa_nil) hxn
  exact (pss_one (ps_ret (pos := q 4) pc)).run pins s σ H E I ⟨.ref a, hs, rfl, fun H' h' => by rw [← hzb]; exact hq2 H' h'⟩
theorem try_ok {X : Cx} {fa : DE.Fa} {wd : Nat → Option Str} {i : Nat} {fn CS : Addr} {q qn : Nat → Pos} {xn : Str} {e : Expr} {params : Arguments} {scope : Scope} {dV kV doc pm cdv ct oc : Value} {an od : Option Addr} {osl : Array (Option Value)} {te : WX → TE} {WO : WX}
    (hw : ∀ k z, wd k = some z → (∃ b, NK X.K X.mg (fa k) b ∧ z = nZ b) ∧ PySem.W.exmOne X.K (.ref (fa k)) (.ref CS) = some true)
    (lk : X.K.lookup fn = some ⟨oc, od, .func (PySem.W.fnOf xn xn params (nBody qn) scope dV kV doc pm an cdv ct), osl⟩) (hcd : PySem.W.codeIn X.K cdv xn = true) (S : FnScope nN ["_law_error"] scope) (hsc : nSc scope = true) (hbl : blkC nN scope nCs [("_law_label", 3), ("_law_good", 4)] = true) (hq : NLn qn)
    (hm : X.mg xn = some (.ref fn)) (hk : PySem.W.keepIn X.K (.ref fn) = true) (hb : Binds X.K (PySem.W.fnOf xn xn params (nBody qn) scope dV kV doc pm an cdv ct) ["_law_error"] []) (hxn : (xn == ("__debug__" : Str)) = false)
    (hs : X.stack = X.env :: X.outer) (hfr : X.env.frame = some X.env.locals) (hnd : X.N.Nodup) (hN : X.N[i]? = some ("_law_error" : Str)) (hv : X.env.kindOf "_law_error" = some .local) (hvv : Vis X.env.scope "_law_error") (hg : Gl X xn) (hcs : Names X "StripError" (.ref CS)) (hr : Room 1 X.A) (tk : L2N.Takes X WO)
    (mono : ∀ W W' : WX, (∀ c d σ H, W c d σ H → W' c d σ H) → ∀ σ H Q, te W σ H Q → te W' σ H Q)
    (he : ∀ (W : WX) (pn : List (Addr × Obj)) (xe : Value → Shared → Prop), L2N.Takes (X.tr pn xe) W → PassesOwn (model X.prog X.w) X.A X.env xe → PE (X.tr pn xe) e (te W)) :
    PS X (.Try [.Return (some e) (q 8)] (wSuite xn q) [] [] (q 9)) (fun D σ H => te (fun cls d σ' H' => ∃ k z, cls = .ref (fa k) ∧ d = none ∧ wd k = some z ∧ ∀ H'', hx H' H'' → D.rt (.str z) H'') σ H fun v H1 => D.rt v H1) := by
  have htry := L2N.ps_try_as (X := X) (n := "_law_error") (i := i) (c := .ref CS) (x := "StripError") (np := q 0) (pos' := q 5) (pos := q 9) (Wout := WO) (body := [.Return (some e) (q 8)]) (tb := fun W D σ H => te (fun c d σ' H' => σ'.length = X.N.length → W c d σ' H') σ H fun v H1 => D.rt v H1) (ts := tTs fa wd i)
      (b₀ := .Return (some (.Call (.Name xn (q 1)) [.Name "_law_error" (q 2)] [] (q 3))) (q 4)) (suite := []) hs hfr hnd hN hv hcs tk
      (fun W pn xe tkw po => pss_one (ps_ret (pos := q 8) (he _ pn xe (takes_len tkw) po)))
      (fun a oe cls d pn hz hf => tsuite_ok (Z := X) (q := q) (fun k z e => (hw k z e).1) lk hcd S hsc hbl hq hm hk hb hg hxn hr hN hvv a oe cls d pn hz hf)
  refine ⟨fun pins s σ H D I h => htry.run pins s σ H D I (mono _ _ (fun cls d σ' H' => ?_) σ H _ h)⟩
  rintro ⟨k, z, rfl, rfl, hz, hQ⟩ hl
  have hi : i < X.N.length := (List.getElem?_eq_some_iff.mp hN).1
  refine ⟨true, (hw k z hz).2, fun _ a _ => ⟨k, z, rfl, rfl, hz, ?_, fun H'' h'' => hQ H'' h''⟩, fun q => by cases q⟩
  rw [List.getElem?_set_self (by rw [hl]; exact hi)]
theorem tryOk_of {P : Program} {w : World} {K : PySem.W.Frag} {mg : Str → Option Value} {base : Heap} {fa : DE.Fa} {xn : Str} {wd : Nat → Option Str} {fn CS : Addr} {qn : Nat → Pos} {pn : Arguments} {scope : Scope} {fdn : FuncData}
    (Fn : FunD K xn xn pn (nBody qn) scope [] [] fn fdn) (hmn : mg xn = some (.ref fn)) (Bn : Binds K fdn ["_law_error"] []) (Sn : FnScope nN ["_law_error"] scope)
    (hsc : nSc scope = true) (hbl : blkC nN scope nCs [("_law_label", 3), ("_law_good", 4)] = true) (hq : nlnB qn = true) (hxn : (xn == ("__debug__" : Str)) = false) (hmc : mg "StripError" = some (.ref CS))
    (hw : ∀ k z, wd k = some z → (∃ b, NK K mg (fa k) b ∧ z = nZ b) ∧ PySem.W.exmOne K (.ref (fa k)) (.ref CS) = some true) : DE.TryOk P w K mg base fa xn wd := by
  obtain ⟨oc2, od2, dV2, kV2, doc2, pm2, an2, cdv2, ct2, osl2, rfl, lk2, hcd2, _, _⟩ := Fn.ex
  intro X i q e te WO e1 e2 e3 e4 e5 hs hfr hnd hN hl hg hgs hr tk mono he
  subst e1 e2 e3 e4 e5
  exact try_ok (q := q) hw lk2 hcd2 Sn hsc hbl (nln_of hq) hmn Fn.kp Bn hxn hs hfr hnd hN hl (.inl hl) hg ⟨hgs, by decide +kernel, .inl hmc⟩ hr tk mono he
end DH
end

section
set_option Elab.async false
set_option linter.all false
set_option maxRecDepth 100000
set_option maxHeartbeats 0
namespace LAW
open PySem L2 DE PyProof.Rows
def top (i : Nat) : Stmt := PySem.Challenge.pw_foldedstrip_k05_whole_what_was_seen.main.body.getD i (.Pass ⟨0, 0, 0, 0⟩)
def wTabl : List (Nat × Str) := [(1002, "number value"), (1003, "place value"), (1005, "sights value"), (1010, "none value")]
def dW : DE.Df := { np := 1, ns := 1, body := .cons (.retB .non) .nil, wt := wTabl }
def fTab : List (Option Str) := ([some "is_integer", some "need_many", some "power", some "last_place", some "halved", some "crease_by", some "need_place", some "is_sight", some "need_sights", some "fold_told", some "told_by", some "told", some "clash", some "sure", some "_law_sheet", some "_law_tear", some "_law_pick", some "_law_folds", none, some "_law_first", some "_law_other", some "_law_strip", some "_law_doubled", some "_law_crease", none, none, none, none, some "_law_any_value", some "_law_bent"] : List (Option Str)) ++ ([none, none, some "_law_all", some "_law_goes", none, some "_law_clash", some "_law_small_right", some "_law_far_right", some "_law_refused", some "law"] : List (Option Str))
def cTab : List Str := ["GREAT", "MOST_FOLDS", "OVER", "UNDER", "VALLEY", "HILL", "MOST_SIGHTS"]
def dTab : List Str := (["is_integer", "need_many", "power", "last_place", "halved", "crease_by", "need_place", "is_sight", "need_sights", "fold_told", "told_by", "told", "clash", "sure", "_law_sheet", "_law_tear", "_law_pick", "_law_folds", "_law_any_recipe", "_law_first", "_law_other", "_law_strip", "_law_doubled", "_law_crease", "_law_whole", "_law_are_folds", "_law_good_recipe", "_law_good_sights", "_law_any_value", "_law_bent"] : List Str) ++ (["_law_names", "_law_word", "_law_all", "_law_goes", "_law_tried", "_law_clash", "_law_small_right", "_law_far_right", "_law_refused", "law"] : List Str)
def eTab : List Str := ["StripError", "InvalidRecipe", "InvalidNumber", "InvalidPlace", "InvalidWord", "InvalidSights", "InvalidStep", "InvalidCorner", "InvalidText", "InvalidFold", "Impossible", "Unlike", "Flat", "NothingToUndo", "TooMany", "Failed"]
def xTab : List (Nat × Str) := [(1002, "InvalidNumber"), (1003, "InvalidPlace"), (1005, "InvalidSights"), (1010, "Impossible")]
def wTab : List (Nat × Str × Bool) := [(31, "_law_word", false), (34, "_law_tried", true)]
def nm : DE.Nm := { c := fun i => if i < 500 then cTab.getD i "" else dTab.getD (i - 500) "", f := fun i => (fTab[i]?).join, e := fun i => xTab.lookup i, w := fun i => wTab.lookup i, l := false }
def gTab : List DE.P := [(.int 1000000000000000000000000000000), (.int 100), (.str "over"), (.str "under"), (.str "v"), (.str "m"), (.int 8)]
def gc : Nat → Option DE.P := fun i => if i < 500 then gTab[i]? else if [11, 12].contains (i - 500) then some (.fn (i - 500)) else none
def N0 : List Str := ["value", "low", "high"]
/-- is_integer -/
def d0 : DE.Df := { np := 3, ns := 3, body := (.cons (.ret (.and (.cons (.isi (.v 0) "int") (.cons (.no (.isi (.v 0) "bool")) (.cons (.chain .LtE .LtE (.v 1) (.v 0) (.v 2)) .nil)))))
    .nil) }
def N1 : List Str := ["value"]
/-- need_many -/
def d1 : DE.Df := { np := 1, ns := 1, body := (.cons (.ife (.no (.call 0 (.cons (.v 0) (.cons (.int 0) (.cons (.g 1) .nil))))) (.cons (.raise 1002 "no such number of folds")
    .nil) .nil)
    .nil) }
def N2 : List Str := ["many", "found", "turn"]
/-- power -/
def d2 : DE.Df := { np := 1, ns := 3, body := (.cons (.asg (.one 1) (.int 1))
    (.cons (.for_ (.one 2) (.rng1 (.v 0)) (.cons (.asg (.one 1) (.bin .Mult (.v 1) (.int 2)))
    .nil))
    (.cons (.ret (.v 1))
    .nil))) }
def N3 : List Str := ["many"]
/-- last_place -/
def d3 : DE.Df := { np := 1, ns := 1, body := (.cons (.ret (.bin .Sub (.call 2 (.cons (.v 0) .nil)) (.int 1)))
    .nil) }
def N4 : List Str := ["place", "exponent"]
/-- halved -/
def d4 : DE.Df := { np := 1, ns := 2, body := (.cons (.asg (.one 1) (.int 0))
    (.cons (.whl (.cmp .Eq (.bin .Mod (.v 0) (.int 2)) (.int 0)) (.cons (.par [0, 1] [false, false] (.cons (.bin .FloorDiv (.v 0) (.int 2)) (.cons (.bin .Add (.v 1) (.int 1)) .nil)))
    .nil))
    (.cons (.ret (.tup (.cons (.v 1) (.cons (.v 0) .nil))))
    .nil))) }
def N5 : List Str := ["folds", "place", "exponent", "odd", "is_over"]
/-- crease_by -/
def d5 : DE.Df := { np := 2, ns := 5, body := (.cons (.asg (.two (.one 2) (.one 3)) (.call 4 (.cons (.v 1) .nil)))
    (.cons (.asg (.one 4) (.cmp .Eq (.idx (.v 0) (.bin .Sub (.bin .Sub (.bi .len (.v 0) .nil) (.int 1)) (.v 2))) (.g 2)))
    (.cons (.ret (.ife (.cmp .Eq (.v 4) (.cmp .Eq (.bin .Mod (.v 3) (.int 4)) (.int 1))) (.g 4) (.g 5)))
    .nil))) }
def N6 : List Str := ["many", "place"]
/-- need_place -/
def d6 : DE.Df := { np := 2, ns := 2, body := (.cons (.ife (.no (.call 0 (.cons (.v 1) (.cons (.int 1) (.cons (.call 3 (.cons (.v 0) .nil)) .nil))))) (.cons (.raise 1003 "no such place")
    .nil) .nil)
    .nil) }
def N7 : List Str := ["value"]
/-- is_sight -/
def d7 : DE.Df := { np := 1, ns := 1, body := (.cons (.ife (.or (.cons (.no (.isi (.v 0) "tuple")) (.cons (.cmp .NotEq (.bi .len (.v 0) .nil) (.int 2)) (.cons (.no (.call 0 (.cons (.idx (.v 0) (.int 0)) (.cons (.int 1) (.cons (.g 0) .nil))))) .nil)))) (.cons (.ret (.bl false))
    .nil) .nil)
    (.cons (.ret (.and (.cons (.isi (.idx (.v 0) (.int 1)) "str") (.cons (.cmp .In (.idx (.v 0) (.int 1)) (.tup (.cons (.g 4) (.cons (.g 5) .nil)))) .nil))))
    .nil)) }
def N8 : List Str := ["value", "sight"]
/-- need_sights -/
def d8 : DE.Df := { np := 1, ns := 2, body := (.cons (.ife (.or (.cons (.no (.isi (.v 0) "tuple")) (.cons (.cmp .Gt (.bi .len (.v 0) .nil) (.g 6)) (.cons (.no (.bi .all (.comp (.call 7 (.cons (.v 1) .nil)) (.one 1) (.seq (.v 0)) .non) .nil)) .nil)))) (.cons (.raise 1005 "no sights")
    .nil) .nil)
    .nil) }
def N9 : List Str := ["many", "sight", "exponent", "odd", "is_over"]
/-- fold_told -/
def d9 : DE.Df := { np := 2, ns := 5, body := (.cons (.asg (.two (.one 2) (.one 3)) (.call 4 (.cons (.idx (.v 1) (.int 0)) .nil)))
    (.cons (.asg (.one 4) (.cmp .Eq (.cmp .Eq (.idx (.v 1) (.int 1)) (.g 4)) (.cmp .Eq (.bin .Mod (.v 3) (.int 4)) (.int 1))))
    (.cons (.ret (.tup (.cons (.bin .Sub (.bin .Sub (.v 0) (.int 1)) (.v 2)) (.cons (.ife (.v 4) (.g 2) (.g 3)) .nil))))
    .nil))) }
def N10 : List Str := ["many", "sights", "found", "sight", "number", "fold"]
/-- told_by -/
def d10 : DE.Df := { np := 2, ns := 6, body := (.cons (.asgO 2 (.bin .Mult (.lst (.cons .non .nil)) (.v 0)))
    (.cons (.for_ (.one 3) (.seq (.v 1)) (.cons (.ife (.cmp .Gt (.idx (.v 3) (.int 0)) (.call 3 (.cons (.v 0) .nil))) (.cons (.raise 1010 "there is no such place")
    .nil) .nil)
    (.cons (.asg (.two (.one 4) (.one 5)) (.call 9 (.cons (.v 0) (.cons (.v 3) .nil))))
    (.cons (.ife (.cmp .NotIn (.idx (.v 2) (.v 4)) (.tup (.cons .non (.cons (.v 5) .nil)))) (.cons (.raise 1010 "sights clash")
    .nil) .nil)
    (.cons (.seti (.v 2) (.v 4) (.v 5))
    .nil)))))
    (.cons (.ret (.bi .tuple (.v 2) .nil))
    .nil))) }
def N11 : List Str := ["many", "sights"]
/-- told -/
def d11 : DE.Df := { np := 2, ns := 2, body := (.cons (.exp (.call 1 (.cons (.v 0) .nil)))
    (.cons (.exp (.call 8 (.cons (.v 1) .nil)))
    (.cons (.ret (.call 10 (.cons (.v 0) (.cons (.v 1) .nil))))
    .nil))) }
def N12 : List Str := ["many", "sights", "folds", "one", "other", "sight", "place", "seen"]
/-- clash -/
def d12 : DE.Df := { np := 2, ns := 8, body := (.cons (.exp (.call 1 (.cons (.v 0) .nil)))
    (.cons (.exp (.call 8 (.cons (.v 1) .nil)))
    (.cons (.ife (.bi .any (.comp (.cmp .Gt (.v 6) (.call 3 (.cons (.v 0) .nil))) (.two (.one 6) (.one 7)) (.seq (.v 1)) .non) .nil) (.cons (.raise 1003 "there is no such place")
    .nil) .nil)
    (.cons (.asg (.one 2) (.comp (.call 9 (.cons (.v 0) (.cons (.v 5) .nil))) (.one 5) (.seq (.v 1)) .non))
    (.cons (.for_ (.one 3) (.rng1 (.bi .len (.v 2) .nil)) (.cons (.for_ (.one 4) (.rng2 (.bin .Add (.v 3) (.int 1)) (.bi .len (.v 2) .nil)) (.cons (.ife (.and (.cons (.cmp .Eq (.idx (.idx (.v 2) (.v 3)) (.int 0)) (.idx (.idx (.v 2) (.v 4)) (.int 0))) (.cons (.cmp .NotEq (.idx (.idx (.v 2) (.v 3)) (.int 1)) (.idx (.idx (.v 2) (.v 4)) (.int 1))) .nil))) (.cons (.ret (.tup (.cons (.v 3) (.cons (.v 4) .nil))))
    .nil) .nil)
    .nil))
    .nil))
    (.cons (.ret .non)
    .nil)))))) }
def N13 : List Str := ["many", "sights", "place", "known", "number"]
/-- sure -/
def d13 : DE.Df := { np := 3, ns := 5, body := (.cons (.exp (.call 1 (.cons (.v 0) .nil)))
    (.cons (.exp (.call 8 (.cons (.v 1) .nil)))
    (.cons (.exp (.call 6 (.cons (.v 0) (.cons (.v 2) .nil))))
    (.cons (.asg (.one 3) (.call 10 (.cons (.v 0) (.cons (.v 1) .nil))))
    (.cons (.asg (.one 4) (.bin .Sub (.bin .Sub (.v 0) (.int 1)) (.idx (.call 4 (.cons (.v 2) .nil)) (.int 0))))
    (.cons (.ret (.ife (.cmp .Is (.idx (.v 3) (.v 4)) .non) .non (.call 5 (.cons (.v 3) (.cons (.v 2) .nil)))))
    .nil)))))) }
def N14 : List Str := ["_law_script", "_law_k", "_law_cell"]
/-- _law_sheet -/
def d14 : DE.Df := { np := 2, ns := 3, body := (.cons (.asg (.one 2) (.ife (.cmp .Lt (.v 1) (.bi .len (.v 0) .nil)) (.bi .abs (.bi .int (.idx (.v 0) (.v 1)) .nil) .nil) (.bin .Add (.bin .Mult (.int 401) (.v 1)) (.int 73))))
    (.cons (.retB (.lst (.cons (.ife (.cmp .GtE (.v 2) (.bin .Pow (.int 10) (.int 18))) (.v 2) (.int 0)) (.cons (.bin .Add (.bin .Mod (.bi .int (.bin .Add (.bin .Add (.bin .Mult (.v 2) (.int 59)) (.bin .Mult (.int 6287) (.v 1))) (.int 31)) .nil) (.int 2147483549)) (.int 1)) .nil))))
    .nil)) }
def N15 : List Str := ["_law_sheet_here", "_law_many", "_law_wide", "_law_part"]
/-- _law_tear -/
def d15 : DE.Df := { np := 2, ns := 4, body := (.cons (.ife (.cmp .Gt (.idx (.v 0) (.int 0)) (.int 0)) (.cons (.asg (.one 3) (.bin .Mod (.bi .int (.idx (.v 0) (.int 0)) .nil) (.v 1)))
    (.cons (.seti (.v 0) (.int 0) (.bin .FloorDiv (.idx (.v 0) (.int 0)) (.v 1)))
    (.cons (.ret (.v 3))
    .nil))) .nil)
    (.cons (.seti (.v 0) (.int 1) (.bin .Mod (.bi .int (.bin .Add (.bin .Mult (.idx (.v 0) (.int 1)) (.int 45083)) (.int 181)) .nil) (.int 2147483549)))
    (.cons (.asg (.one 2) (.bin .Mod (.bi .int (.bin .Mult (.idx (.v 0) (.int 1)) (.bin .Add (.bin .FloorDiv (.idx (.v 0) (.int 1)) (.int 6)) (.int 71))) .nil) (.int 2147483543)))
    (.cons (.ret (.bin .Mod (.bi .int (.bin .FloorDiv (.v 2) (.int 32)) .nil) (.v 1)))
    .nil)))) }
def N16 : List Str := ["_law_sheet_here", "_law_things"]
/-- _law_pick -/
def d16 : DE.Df := { np := 2, ns := 2, body := (.cons (.ret (.idx (.v 1) (.call 15 (.cons (.v 0) (.cons (.bi .len (.v 1) .nil) .nil)))))
    .nil) }
def N17 : List Str := ["_law_sheet_here", "_law_many", "_law_turn"]
/-- _law_folds -/
def d17 : DE.Df := { np := 2, ns := 3, body := (.cons (.ret (.bi .tuple (.comp (.call 16 (.cons (.v 0) (.cons (.lst (.cons (.str "over") (.cons (.str "under") .nil))) .nil))) (.one 2) (.rng1 (.v 1)) .non) .nil))
    .nil) }
def N19 : List Str := ["_law_recipe", "_law_many", "_law_folds_here"]
/-- _law_first -/
def d19 : DE.Df := { np := 2, ns := 3, body := (.cons (.asg (.one 2) (.idx (.v 0) (.int 0)))
    (.cons (.whl (.cmp .Lt (.bi .len (.v 2) .nil) (.v 1)) (.cons (.asg (.one 2) (.bin .Add (.v 2) (.idx (.v 0) (.int 1))))
    .nil))
    (.cons (.ret (.slc (.v 2) .non (.som (.v 1))))
    .nil))) }
def N20 : List Str := ["_law_strand", "_law_sign"]
/-- _law_other -/
def d20 : DE.Df := { np := 1, ns := 2, body := (.cons (.ret (.meth .join (.str "") (.comp (.ife (.cmp .Eq (.v 1) (.str "v")) (.str "m") (.str "v")) (.one 1) (.seq (.v 0)) .non)))
    .nil) }
def N21 : List Str := ["_law_folds_here", "_law_strand", "_law_fold"]
/-- _law_strip -/
def d21 : DE.Df := { np := 1, ns := 3, body := (.cons (.asg (.one 1) (.str ""))
    (.cons (.for_ (.one 2) (.seq (.rev (.v 0))) (.cons (.asg (.one 1) (.bin .Add (.bin .Add (.v 1) (.ife (.cmp .Eq (.v 2) (.str "over")) (.str "v") (.str "m"))) (.call 20 (.cons (.rev (.v 1)) .nil))))
    .nil))
    (.cons (.ret (.v 1))
    .nil))) }
def N22 : List Str := ["_law_many", "_law_found", "_law_turn"]
/-- _law_doubled -/
def d22 : DE.Df := { np := 1, ns := 3, body := (.cons (.asg (.one 1) (.int 1))
    (.cons (.for_ (.one 2) (.rng1 (.v 0)) (.cons (.asg (.one 1) (.bin .Mult (.v 1) (.int 2)))
    .nil))
    (.cons (.ret (.v 1))
    .nil))) }
def N23 : List Str := ["_law_folds_here", "_law_place", "_law_turned", "_law_middle", "_law_fold"]
/-- _law_crease -/
def d23 : DE.Df := { np := 2, ns := 5, body := (.cons (.par [2, 3] [false, false] (.cons (.bl false) (.cons (.bin .FloorDiv (.call 22 (.cons (.bi .len (.v 0) .nil) .nil)) (.int 2)) .nil)))
    (.cons (.for_ (.one 4) (.seq (.v 0)) (.cons (.ife (.cmp .Eq (.v 1) (.v 3)) (.cons (.ret (.ife (.cmp .NotEq (.cmp .Eq (.v 4) (.str "over")) (.v 2)) (.str "v") (.str "m")))
    .nil) .nil)
    (.cons (.ife (.cmp .Gt (.v 1) (.v 3)) (.cons (.par [1, 2] [false, false] (.cons (.bin .Sub (.bin .Mult (.int 2) (.v 3)) (.v 1)) (.cons (.no (.v 2)) .nil)))
    .nil) .nil)
    (.cons (.asg (.one 3) (.bin .FloorDiv (.v 3) (.int 2)))
    .nil))))
    (.cons (.ret (.str ""))
    .nil))) }
def N28 : List Str := ["_law_sheet_here", "_law_deep", "_law_some", "_law_strand", "_law_part"]
/-- _law_any_value -/
def d28 : DE.Df := { np := 2, ns := 5, body := (.cons (.asg (.one 2) (.lst (.cons .non (.cons (.bl true) (.cons (.bl false) (.cons (.int 0) (.cons (.int 1) (.cons (.int 2) (.cons (.int 3) (.cons (.neg (.int 1)) (.cons (.bin .Pow (.int 10) (.int 30)) (.cons (.bin .Add (.bin .Pow (.int 10) (.int 30)) (.int 1)) (.cons (.str "") (.cons (.str "over") (.cons (.str "under") (.cons (.str "v") (.cons (.str "m") (.cons (.str "o:u") (.cons (.tup .nil) (.cons (.lst .nil) .nil))))))))))))))))))))
    (.cons (.asg (.one 2) (.bin .Add (.v 2) (.lst (.cons (.tup (.cons (.str "over") .nil)) (.cons (.tup (.cons (.str "over") (.cons (.str "under") .nil))) (.cons (.tup (.cons (.tup .nil) (.cons (.tup (.cons (.str "over") .nil)) .nil))) (.cons (.tup (.cons (.int 1) (.cons (.str "v") .nil))) (.cons (.tup (.cons (.tup (.cons (.int 1) (.cons (.str "v") .nil))) (.cons (.tup (.cons (.int 2) (.cons (.str "m") .nil))) .nil))) (.cons (.tup (.cons (.int 0) (.cons (.int 0) .nil))) (.cons (.str "vm") (.cons (.lst (.cons (.int 1) (.cons (.int 2) .nil))) .nil)))))))))))
    (.cons (.ife (.or (.cons (.cmp .Eq (.v 1) (.int 0)) (.cons (.cmp .Lt (.call 15 (.cons (.v 0) (.cons (.int 9) .nil))) (.int 6)) .nil))) (.cons (.ret (.call 16 (.cons (.v 0) (.cons (.v 2) .nil))))
    .nil) .nil)
    (.cons (.asg (.one 3) (.comp (.call 28 (.cons (.v 0) (.cons (.bin .Sub (.v 1) (.int 1)) .nil))) (.one 4) (.rng1 (.call 15 (.cons (.v 0) (.cons (.int 4) .nil)))) .non))
    (.cons (.ret (.ife (.cmp .Eq (.call 15 (.cons (.v 0) (.cons (.int 3) .nil))) (.int 0)) (.v 3) (.bi .tuple (.v 3) .nil)))
    .nil))))) }
def N29 : List Str := ["_law_sheet_here", "_law_value", "_law_at", "_law_way", "_law_near"]
/-- _law_bent -/
def d29 : DE.Df := { np := 2, ns := 5, body := (.cons (.ife (.or (.cons (.no (.isi (.v 1) "tuple")) (.cons (.cmp .Eq (.v 1) (.tup .nil)) (.cons (.cmp .Eq (.call 15 (.cons (.v 0) (.cons (.int 7) .nil))) (.int 0)) .nil)))) (.cons (.asg (.one 4) (.lst (.cons (.call 28 (.cons (.v 0) (.cons (.int 1) .nil))) (.cons (.call 28 (.cons (.v 0) (.cons (.int 1) .nil))) .nil))))
    (.cons (.ife (.isi (.v 1) "str") (.cons (.asg (.one 4) (.bin .Add (.v 4) (.lst (.cons (.str "over") (.cons (.str "under") (.cons (.str "v") (.cons (.str "m") (.cons (.str "Over") (.cons (.bin .Add (.v 1) (.str "s")) .nil)))))))))
    .nil) (.cons (.ife (.isi (.v 1) "int") (.cons (.asg (.one 4) (.bin .Add (.v 4) (.lst (.cons (.bin .Add (.v 1) (.int 1)) (.cons (.bin .Sub (.v 1) (.int 1)) (.cons (.no (.v 1)) (.cons (.bi .str (.v 1) .nil) (.cons (.neg (.v 1)) .nil))))))))
    .nil) .nil)
    .nil))
    (.cons (.ret (.call 16 (.cons (.v 0) (.cons (.v 4) .nil))))
    .nil))) .nil)
    (.cons (.par [2, 3] [false, false] (.cons (.call 15 (.cons (.v 0) (.cons (.bi .len (.v 1) .nil) .nil))) (.cons (.call 15 (.cons (.v 0) (.cons (.int 9) .nil))) .nil)))
    (.cons (.ife (.cmp .Eq (.v 3) (.int 0)) (.cons (.ret (.bin .Add (.slc (.v 1) .non (.som (.v 2))) (.slc (.v 1) (.som (.bin .Add (.v 2) (.int 1))) .non)))
    .nil) .nil)
    (.cons (.ife (.cmp .Eq (.v 3) (.int 1)) (.cons (.ret (.bin .Add (.slc (.v 1) .non (.som (.bin .Add (.v 2) (.int 1)))) (.slc (.v 1) (.som (.v 2)) .non)))
    .nil) .nil)
    (.cons (.ife (.cmp .Eq (.v 3) (.int 2)) (.cons (.ret (.rev (.v 1)))
    .nil) .nil)
    (.cons (.ife (.cmp .Eq (.v 3) (.int 3)) (.cons (.ret (.bi .list (.v 1) .nil))
    .nil) .nil)
    (.cons (.ret (.bin .Add (.bin .Add (.slc (.v 1) .non (.som (.v 2))) (.tup (.cons (.call 29 (.cons (.v 0) (.cons (.idx (.v 1) (.v 2)) .nil))) .nil))) (.slc (.v 1) (.som (.bin .Add (.v 2) (.int 1))) .non)))
    .nil))))))) }
def N32 : List Str := ["_law_many", "_law_found", "_law_turn", "_law_longer", "_law_folds_here"]
/-- _law_all -/
def d32 : DE.Df := { np := 1, ns := 5, body := (.cons (.asg (.one 1) (.lst (.cons (.tup .nil) .nil)))
    (.cons (.for_ (.one 2) (.rng1 (.v 0)) (.cons (.asg (.one 3) (.lst .nil))
    (.cons (.for_ (.one 4) (.seq (.v 1)) (.cons (.asg (.one 3) (.bin .Add (.v 3) (.lst (.cons (.bin .Add (.v 4) (.tup (.cons (.str "over") .nil))) (.cons (.bin .Add (.v 4) (.tup (.cons (.str "under") .nil))) .nil)))))
    .nil))
    (.cons (.asg (.one 1) (.v 3))
    .nil))))
    (.cons (.ret (.v 1))
    .nil))) }
def N33 : List Str := ["_law_strip_here", "_law_sights", "_law_place", "_law_seen"]
/-- _law_goes -/
def d33 : DE.Df := { np := 2, ns := 4, body := (.cons (.for_ (.two (.one 2) (.one 3)) (.seq (.v 1)) (.cons (.ife (.or (.cons (.cmp .Gt (.v 2) (.bi .len (.v 0) .nil)) (.cons (.cmp .NotEq (.slc (.v 0) (.som (.bin .Sub (.v 2) (.int 1))) (.som (.v 2))) (.v 3)) .nil))) (.cons (.ret (.bl false))
    .nil) .nil)
    .nil))
    (.cons (.ret (.bl true))
    .nil)) }
def N35 : List Str := ["_law_strips", "_law_sights", "_law_one", "_law_other_here", "_law_pair", "_law_strip_here"]
/-- _law_clash -/
def d35 : DE.Df := { np := 2, ns := 6, body := (.cons (.for_ (.one 2) (.rng1 (.bi .len (.v 1) .nil)) (.cons (.for_ (.one 3) (.rng2 (.bin .Add (.v 2) (.int 1)) (.bi .len (.v 1) .nil)) (.cons (.asg (.one 4) (.lst (.cons (.idx (.v 1) (.v 2)) (.cons (.idx (.v 1) (.v 3)) .nil))))
    (.cons (.ife (.cmp .Eq (.comp (.v 5) (.one 5) (.seq (.v 0)) (.som (.call 33 (.cons (.v 5) (.cons (.v 4) .nil))))) (.lst .nil)) (.cons (.ret (.tup (.cons (.v 2) (.cons (.v 3) .nil))))
    .nil) .nil)
    .nil)))
    .nil))
    (.cons (.ret .non)
    .nil)) }
def N36 : List Str := ["_law_sheet_here", "_law_many", "_law_every", "_law_sights", "_law_some", "_law_due", "_law_last", "_law_far", "_law_pair", "_law_place", "_law_at", "_law_seen", "_law_folds_here", "_law_strip_here", "_law_kinds", "_law_one"]
/-- _law_small_right -/
def d36 : DE.Df := { np := 4, ns := 16, body := (.cons (.asg (.one 4) (.comp (.v 12) (.two (.one 12) (.one 13)) (.seq (.v 2)) (.som (.call 33 (.cons (.v 13) (.cons (.v 3) .nil))))))
    (.cons (.asg (.one 5) (.str "none value"))
    (.cons (.ife (.cmp .NotEq (.v 4) (.lst .nil)) (.cons (.asg (.one 5) (.tup .nil))
    (.cons (.for_ (.one 10) (.rng1 (.v 1)) (.cons (.asg (.one 14) (.sort 0 (.comp (.idx (.v 12) (.v 10)) (.one 12) (.seq (.v 4)) .non)))
    (.cons (.asg (.one 5) (.bin .Add (.v 5) (.tup (.cons (.ife (.cmp .Eq (.bi .len (.v 14) .nil) (.int 1)) (.idx (.v 14) (.int 0)) .non) .nil))))
    .nil)))
    .nil)) .nil)
    (.cons (.ife (.cmp .NotEq (.word 34 true (.call 11 (.cons (.v 1) (.cons (.v 3) .nil)))) (.v 5)) (.cons (.ret (.bl false))
    .nil) .nil)
    (.cons (.asg (.one 6) (.bin .Sub (.call 22 (.cons (.v 1) .nil)) (.int 1)))
    (.cons (.asg (.one 7) (.comp (.v 15) (.one 15) (.seq (.v 3)) (.som (.cmp .Gt (.idx (.v 15) (.int 0)) (.v 6)))))
    (.cons (.asg (.one 8) (.str "place value"))
    (.cons (.ife (.cmp .Eq (.v 7) (.lst .nil)) (.cons (.asg (.one 8) (.call 35 (.cons (.comp (.v 13) (.two (.one 12) (.one 13)) (.seq (.v 2)) .non) (.cons (.v 3) .nil))))
    .nil) .nil)
    (.cons (.ife (.cmp .NotEq (.word 34 true (.call 12 (.cons (.v 1) (.cons (.v 3) .nil)))) (.v 8)) (.cons (.ret (.bl false))
    .nil) .nil)
    (.cons (.for_ (.one 9) (.rng2 (.int 1) (.bin .Add (.v 6) (.int 1))) (.cons (.asg (.one 11) (.sort 0 (.comp (.slc (.call 21 (.cons (.v 12) .nil)) (.som (.bin .Sub (.v 9) (.int 1))) (.som (.v 9))) (.one 12) (.seq (.v 4)) .non)))
    (.cons (.asg (.one 5) (.str "none value"))
    (.cons (.ife (.cmp .NotEq (.v 11) (.lst .nil)) (.cons (.asg (.one 5) (.ife (.cmp .Eq (.bi .len (.v 11) .nil) (.int 1)) (.idx (.v 11) (.int 0)) .non))
    .nil) .nil)
    (.cons (.ife (.cmp .NotEq (.word 34 true (.call 13 (.cons (.v 1) (.cons (.v 3) (.cons (.v 9) .nil))))) (.v 5)) (.cons (.ret (.bl false))
    .nil) .nil)
    .nil)))))
    (.cons (.ret (.bl true))
    .nil))))))))))) }
def N37 : List Str := ["_law_sheet_here", "_law_folds_here", "_law_many", "_law_last", "_law_sights", "_law_turn", "_law_found", "_law_place", "_law_seen", "_law_other_here", "_law_at"]
/-- _law_far_right -/
def d37 : DE.Df := { np := 2, ns := 11, body := (.cons (.par [2, 3] [false, false] (.cons (.bi .len (.v 1) .nil) (.cons (.bin .Sub (.call 22 (.cons (.bi .len (.v 1) .nil) .nil)) (.int 1)) .nil)))
    (.cons (.asg (.one 4) (.tup .nil))
    (.cons (.for_ (.one 5) (.rng1 (.int 8)) (.cons (.asg (.one 7) (.bin .Add (.int 1) (.call 15 (.cons (.v 0) (.cons (.bi .min (.v 3) (.cons (.bin .Pow (.int 10) (.int 30)) .nil)) .nil)))))
    (.cons (.asg (.one 9) (.call 22 (.cons (.call 15 (.cons (.v 0) (.cons (.v 2) .nil))) .nil)))
    (.cons (.asg (.one 7) (.call 16 (.cons (.v 0) (.cons (.lst (.cons (.v 7) (.cons (.bi .min (.bin .Pow (.int 10) (.int 30)) (.cons (.v 9) .nil)) .nil))) .nil))))
    (.cons (.asg (.one 4) (.bin .Add (.v 4) (.tup (.cons (.tup (.cons (.v 7) (.cons (.call 23 (.cons (.v 1) (.cons (.v 7) .nil))) .nil))) .nil))))
    .nil)))))
    (.cons (.asg (.one 6) (.call 11 (.cons (.v 2) (.cons (.v 4) .nil))))
    (.cons (.ife (.cmp .NotEq (.bi .len (.v 6) .nil) (.v 2)) (.cons (.ret (.bl false))
    .nil) .nil)
    (.cons (.ife (.cmp .NotEq (.comp (.v 10) (.one 10) (.rng1 (.v 2)) (.som (.cmp .NotIn (.idx (.v 6) (.v 10)) (.tup (.cons .non (.cons (.idx (.v 1) (.v 10)) .nil)))))) (.lst .nil)) (.cons (.ret (.bl false))
    .nil) .nil)
    (.cons (.ife (.or (.cons (.cmp .IsNot (.call 12 (.cons (.v 2) (.cons (.v 4) .nil))) .non) (.cons (.cmp .Eq (.v 6) (.bin .Mult (.tup (.cons .non .nil)) (.v 2))) .nil))) (.cons (.ret (.bl false))
    .nil) .nil)
    (.cons (.for_ (.two (.one 7) (.one 8)) (.seq (.v 4)) (.cons (.ife (.cmp .NotEq (.call 13 (.cons (.v 2) (.cons (.v 4) (.cons (.v 7) .nil)))) (.v 8)) (.cons (.ret (.bl false))
    .nil) .nil)
    .nil))
    (.cons (.ret (.bl true))
    .nil))))))))) }
def N38 : List Str := ["_law_calls", "_law_odd", "_law_bad", "_law_words", "_law_call"]
/-- _law_refused -/
def d38 : DE.Df := { np := 0, ns := 5, body := (.cons (.asg (.one 0) (.tup (.cons (.g 511) (.cons (.g 512) .nil))))
    (.cons (.for_ (.one 1) (.seq (.lst (.cons .non (.cons (.neg (.int 1)) (.cons (.int 101) (.cons (.bl true) .nil)))))) (.cons (.asg (.one 3) (.comp (.word 31 false (.callV 4 [11, 12] (.cons (.v 1) (.cons .non .nil)))) (.one 4) (.seq (.v 0)) .non))
    (.cons (.ife (.cmp .NotEq (.bin .Add (.v 3) (.lst (.cons (.word 31 false (.call 13 (.cons (.v 1) (.cons .non (.cons .non .nil))))) .nil))) (.bin .Mult (.lst (.cons (.str "number value") .nil)) (.int 3))) (.cons (.ret (.bl false))
    .nil) .nil)
    .nil)))
    (.cons (.asg (.one 2) (.lst (.cons .non (.cons (.lst .nil) (.cons (.tup (.cons (.tup (.cons (.int 0) (.cons (.str "v") .nil))) .nil)) (.cons (.tup (.cons (.tup (.cons (.int 1) (.cons (.str "x") .nil))) .nil)) (.cons (.tup (.cons (.tup (.cons (.int 1) (.cons (.str "v") (.cons (.int 1) .nil)))) .nil)) (.cons (.bin .Mult (.tup (.cons (.tup (.cons (.int 1) (.cons (.str "v") .nil))) .nil)) (.int 9)) (.cons (.tup (.cons (.lst (.cons (.int 1) (.cons (.str "v") .nil))) .nil)) .nil)))))))))
    (.cons (.for_ (.one 1) (.seq (.bin .Add (.v 2) (.lst (.cons (.tup (.cons (.tup (.cons (.bin .Add (.bin .Pow (.int 10) (.int 30)) (.int 1)) (.cons (.str "v") .nil))) .nil)) .nil)))) (.cons (.asg (.one 3) (.comp (.word 31 false (.callV 4 [11, 12] (.cons (.int 3) (.cons (.v 1) .nil)))) (.one 4) (.seq (.v 0)) .non))
    (.cons (.ife (.cmp .NotEq (.bin .Add (.v 3) (.lst (.cons (.word 31 false (.call 13 (.cons (.int 3) (.cons (.v 1) (.cons .non .nil))))) .nil))) (.bin .Mult (.lst (.cons (.str "sights value") .nil)) (.int 3))) (.cons (.ret (.bl false))
    .nil) .nil)
    .nil)))
    (.cons (.for_ (.one 1) (.seq (.lst (.cons .non (.cons (.int 0) (.cons (.int 8) (.cons (.bl true) (.cons (.str "1") .nil))))))) (.cons (.ife (.cmp .NotEq (.word 31 false (.call 13 (.cons (.int 3) (.cons (.tup (.cons (.tup (.cons (.int 1) (.cons (.str "v") .nil))) (.cons (.tup (.cons (.int 1) (.cons (.str "m") .nil))) .nil))) (.cons (.v 1) .nil))))) (.str "place value")) (.cons (.ret (.bl false))
    .nil) .nil)
    .nil))
    (.cons (.ret (.and (.cons (.cmp .Eq (.word 31 false (.call 13 (.cons (.int 3) (.cons (.tup (.cons (.tup (.cons (.int 1) (.cons (.str "v") .nil))) (.cons (.tup (.cons (.int 1) (.cons (.str "m") .nil))) .nil))) (.cons (.int 2) .nil))))) (.str "none value")) (.cons (.cmp .Eq (.call 11 (.cons (.int 0) (.cons (.tup .nil) .nil))) (.tup .nil)) .nil))))
    .nil)))))) }
def N39 : List Str := ["_law_script", "_law_k", "_law_sheet_here", "_law_many", "_law_every", "_law_turn", "_law_folds_here", "_law_strip_here", "_law_sights", "_law_more", "_law_place", "_law_seen"]
/-- law -/
def d39 : DE.Df := { np := 1, ns := 12, body := (.cons (.for_ (.one 1) (.rng1 (.bi .max (.int 4) (.cons (.bi .min (.int 8) (.cons (.bi .len (.v 0) .nil) .nil)) .nil))) (.cons (.asg (.one 2) (.call 14 (.cons (.v 0) (.cons (.v 1) .nil))))
    (.cons (.asg (.one 3) (.bin .Add (.int 1) (.call 15 (.cons (.v 2) (.cons (.int 4) .nil)))))
    (.cons (.asg (.one 4) (.comp (.tup (.cons (.v 6) (.cons (.call 21 (.cons (.v 6) .nil)) .nil))) (.one 6) (.seq (.call 32 (.cons (.v 3) .nil))) .non))
    (.cons (.for_ (.one 5) (.rng1 (.int 5)) (.cons (.asg (.two (.one 6) (.one 7)) (.call 16 (.cons (.v 2) (.cons (.v 4) .nil))))
    (.cons (.asg (.one 8) (.tup .nil))
    (.cons (.for_ (.one 9) (.rng1 (.call 15 (.cons (.v 2) (.cons (.int 5) .nil)))) (.cons (.asg (.one 10) (.bin .Add (.int 1) (.call 15 (.cons (.v 2) (.cons (.bi .len (.v 7) .nil) .nil)))))
    (.cons (.asg (.one 11) (.slc (.v 7) (.som (.bin .Sub (.v 10) (.int 1))) (.som (.v 10))))
    (.cons (.ife (.cmp .Eq (.call 15 (.cons (.v 2) (.cons (.int 6) .nil))) (.int 0)) (.cons (.asg (.one 11) (.call 16 (.cons (.v 2) (.cons (.lst (.cons (.str "v") (.cons (.str "m") .nil))) .nil))))
    .nil) .nil)
    (.cons (.asg (.one 10) (.bin .Add (.v 10) (.ife (.cmp .Eq (.call 15 (.cons (.v 2) (.cons (.int 15) .nil))) (.int 0)) (.bi .len (.v 7) .nil) (.int 0))))
    (.cons (.asg (.one 8) (.bin .Add (.v 8) (.tup (.cons (.tup (.cons (.v 10) (.cons (.v 11) .nil))) .nil))))
    .nil))))))
    (.cons (.ife (.no (.call 36 (.cons (.v 2) (.cons (.v 3) (.cons (.v 4) (.cons (.v 8) .nil)))))) (.cons (.ret (.bl false))
    .nil) .nil)
    .nil)))))
    (.cons (.ife (.no (.call 37 (.cons (.v 2) (.cons (.call 17 (.cons (.v 2) (.cons (.bin .Add (.int 60) (.call 15 (.cons (.v 2) (.cons (.int 41) .nil)))) .nil))) .nil)))) (.cons (.ret (.bl false))
    .nil) .nil)
    .nil))))))
    (.cons (.ife (.or (.cons (.cmp .NotEq (.call 11 (.cons (.int 3) (.cons (.tup (.cons (.tup (.cons (.int 1) (.cons (.str "v") .nil))) (.cons (.tup (.cons (.int 6) (.cons (.str "m") .nil))) .nil))) .nil))) (.tup (.cons .non (.cons (.str "over") (.cons (.str "over") .nil))))) (.cons (.cmp .NotEq (.call 12 (.cons (.int 3) (.cons (.tup (.cons (.tup (.cons (.int 1) (.cons (.str "v") .nil))) (.cons (.tup (.cons (.int 3) (.cons (.str "v") .nil))) .nil))) .nil))) (.tup (.cons (.int 0) (.cons (.int 1) .nil)))) .nil))) (.cons (.ret (.bl false))
    .nil) .nil)
    (.cons (.ret (.and (.cons (.cmp .Eq (.call 13 (.cons (.int 3) (.cons (.tup (.cons (.tup (.cons (.int 1) (.cons (.str "v") .nil))) .nil)) (.cons (.int 7) .nil)))) (.str "m")) (.cons (.cmp .Is (.call 13 (.cons (.int 3) (.cons (.tup (.cons (.tup (.cons (.int 1) (.cons (.str "v") .nil))) .nil)) (.cons (.int 2) .nil)))) .non) (.cons (.call 38 .nil) .nil)))))
    .nil))) }
def dtab : List (Option DE.Df) := ([some d0, some d1, some d2, some d3, some d4, some d5, some d6, some d7, some d8, some d9, some d10, some d11, some d12, some d13, some d14, some d15, some d16, some d17, none, some d19, some d20, some d21, some d22, some d23, none, none, none, none, some d28, some d29] : List (Option DE.Df)) ++ ([none, some dW, some d32, some d33, some dW, some d35, some d36, some d37, some d38, some d39] : List (Option DE.Df))
def TT : Nat → Option DE.Df := fun i => (dtab[i]?).join
theorem T0 : TT 0 = some d0 := rfl
theorem T1 : TT 1 = some d1 := rfl
theorem T2 : TT 2 = some d2 := rfl
theorem T3 : TT 3 = some d3 := rfl
theorem T4 : TT 4 = some d4 := rfl
theorem T5 : TT 5 = some d5 := rfl
theorem T6 : TT 6 = some d6 := rfl
theorem T7 : TT 7 = some d7 := rfl
theorem T8 : TT 8 = some d8 := rfl
theorem T9 : TT 9 = some d9 := rfl
theorem T10 : TT 10 = some d10 := rfl
theorem T11 : TT 11 = some d11 := rfl
theorem T12 : TT 12 = some d12 := rfl
theorem T13 : TT 13 = some d13 := rfl
theorem T14 : TT 14 = some d14 := rfl
theorem T15 : TT 15 = some d15 := rfl
theorem T16 : TT 16 = some d16 := rfl
theorem T17 : TT 17 = some d17 := rfl
theorem T19 : TT 19 = some d19 := rfl
theorem T20 : TT 20 = some d20 := rfl
theorem T21 : TT 21 = some d21 := rfl
theorem T22 : TT 22 = some d22 := rfl
theorem T23 : TT 23 = some d23 := rfl
theorem T28 : TT 28 = some d28 := rfl
theorem T29 : TT 29 = some d29 := rfl
theorem T32 : TT 32 = some d32 := rfl
theorem T33 : TT 33 = some d33 := rfl
theorem T35 : TT 35 = some d35 := rfl
theorem T36 : TT 36 = some d36 := rfl
theorem T37 : TT 37 = some d37 := rfl
theorem T38 : TT 38 = some d38 := rfl
theorem T39 : TT 39 = some d39 := rfl
theorem GC0 : gc 0 = some (.int 1000000000000000000000000000000) := rfl
theorem GC1 : gc 1 = some (.int 100) := rfl
theorem GC2 : gc 2 = some (.str "over") := rfl
theorem GC3 : gc 3 = some (.str "under") := rfl
theorem GC4 : gc 4 = some (.str "v") := rfl
theorem GC5 : gc 5 = some (.str "m") := rfl
theorem GC6 : gc 6 = some (.int 8) := rfl
end LAW
end

section
set_option Elab.async false
set_option linter.all false
set_option maxRecDepth 100000
set_option maxHeartbeats 0
set_option autoImplicit false
namespace LAW
open PySem L2 DE
local macro_rules
  | `(tactic| dsimp? [$xs,*] $[$loc:location]?) => `(tactic| simp only [$xs,*, EVC, EVD, EVS, pow18, pow28, pow30, setS, setO, startE, List.map_cons, List.map_nil, List.getElem?_cons_zero, List.getElem?_cons_succ, List.set_cons_zero, List.set_cons_succ, List.replicate_succ, List.replicate_zero, List.cons_append, List.nil_append, List.append_nil, if_true, if_false, Bool.true_and, Bool.and_true, List.length_cons, List.length_nil, Int.cast_ofNat_Int, BEq.rfl, eq_self, Option.map_some, Bool.not_true, Bool.not_false, decide_true, decide_false, Int.reduceLT, Int.reduceLE, Int.reduceNeg, Nat.reduceAdd, Nat.reduceLeDiff, Int.reduceAdd, Int.reduceSub, Int.reduceMul, Int.reduceEq, Nat.reduceSub, Nat.sub_self, Int.reduceBEq, Int.reduceBNe, Nat.reduceEqDiff, Int.reduceMod, Int.reduceDiv, GC0, GC1, GC2, GC3, GC4, GC5, GC6] $[$loc]?)
  | `(tactic| dsimp? $[$loc:location]?) => `(tactic| simp only [EVC, EVD, EVS, pow18, pow28, pow30, setS, setO, startE, List.map_cons, List.map_nil, List.getElem?_cons_zero, List.getElem?_cons_succ, List.set_cons_zero, List.set_cons_succ, List.replicate_succ, List.replicate_zero, List.cons_append, List.nil_append, List.append_nil, if_true, if_false, Bool.true_and, Bool.and_true, List.length_cons, List.length_nil, Int.cast_ofNat_Int, BEq.rfl, eq_self, Option.map_some, Bool.not_true, Bool.not_false, decide_true, decide_false, Int.reduceLT, Int.reduceLE, Int.reduceNeg, Nat.reduceAdd, Nat.reduceLeDiff, Int.reduceAdd, Int.reduceSub, Int.reduceMul, Int.reduceEq, Nat.reduceSub, Nat.sub_self, Int.reduceBEq, Int.reduceBNe, Nat.reduceEqDiff, Int.reduceMod, Int.reduceDiv, GC0, GC1, GC2, GC3, GC4, GC5, GC6] $[$loc]?)


/-- the sheet that a law tears from -/
def Sh (st : Store) (n : Nat) : Prop := ∃ a b : Int, st[n]? = some (.lst [.int a, .int b]) ∧ 0 ≤ a ∧ 0 ≤ b ∧ b < 2147483550
theorem Sh.lt {st : Store} {n : Nat} (h : Sh st n) : n < st.length := by
  obtain ⟨a, b, e, _⟩ := h
  exact (List.getElem?_eq_some_iff.mp e).1
theorem Sh.set {st : Store} {n : Nat} {a b : Int} (h : Sh st n) (ha : 0 ≤ a) (hb : 0 ≤ b) (hb2 : b < 2147483550) : Sh ((st.set n (.lst [.int a, .int b])).take st.length) n := by
  refine ⟨a, b, ?_, ha, hb, hb2⟩
  rw [List.getElem?_take_of_lt h.lt, List.getElem?_set_self h.lt]
abbrev Drawn (st : Store) (n : Nat) (st' : Store) : Prop := Sh st' n ∧ st'.length = st.length
theorem Drawn.set {st : Store} {n : Nat} {a b : Int} (h : Sh st n) (ha : 0 ≤ a) (hb : 0 ≤ b) (hb2 : b < 2147483550) : Drawn st n ((st.set n (.lst [.int a, .int b])).take st.length) := ⟨h.set ha hb hb2, by simp⟩
theorem tear {k : Nat} {st : Store} {n : Nat} {m : Int} (hs : Sh st n) (hm : 0 < m) (hm2 : m.natAbs.log2 < 9000) :
    Wp (callK TT gc (k + 1) 15 [.box n, .p (.int m)] st) fun d st' => ∃ r, d = .p (.int r) ∧ 0 ≤ r ∧ r < m ∧ Drawn st n st' := by
  obtain ⟨a, b, e, ha, hb, hb2⟩ := id hs
  have hlt := hs.lt
  have hd : divOk m = true := by simp [divOk, hm, hm2]
  rw [callK_eq T15 rfl]
  by_cases h0 : 0 < a
  · dsimp? [d15, e, h0, hd, hm, List.getElem?_set_self hlt]
    exact ⟨_, rfl, Int.emod_nonneg _ (by omega), Int.emod_lt_of_pos _ hm, Drawn.set hs (Int.ediv_nonneg ha (by omega)) hb hb2⟩
  · dsimp? [d15, e, h0, hd, hm, List.getElem?_set_self hlt]
    have b1 : 0 ≤ (b * 45083 + 181) % 2147483549 := Int.emod_nonneg _ (by decide)
    have b2 : (b * 45083 + 181) % 2147483549 < 2147483549 := Int.emod_lt_of_pos _ (by decide)
    generalize (b * 45083 + 181) % 2147483549 = b' at b1 b2 ⊢
    dsimp? [mulOk_l (i := b') (by omega) (by omega), hd, hm, List.getElem?_set_self hlt]
    exact ⟨_, rfl, Int.emod_nonneg _ (by omega), Int.emod_lt_of_pos _ hm, Drawn.set hs ha b1 (by omega)⟩
theorem log_lit {m : Int} (h : 0 < m) (h2 : m < 9223372036854775808) : m.natAbs.log2 < 9000 := by
  have := divOk_lit h h2
  simp only [divOk, Bool.and_eq_true, decide_eq_true_eq] at this
  exact this.2
theorem sheet {k : Nat} {st : Store} {ns : List Int} {i : Nat} (hi : i < 1000) :
    Wp (callK TT gc (k + 1) 14 [.p (.scr ns), .p (.int i)] st) fun d st' => d = .box st.length ∧ Sh st' st.length ∧ st'.length = st.length + 1 := by
  rw [callK_eq T14 rfl]
  have fine : ∀ (a b : Int), 0 ≤ a → 0 ≤ b → b < 2147483550 → Sh (st ++ [.lst [.int a, .int b]]) st.length := fun a b ha hb hb2 => ⟨a, b, by simp, ha, hb, hb2⟩
  have key : ∀ z : Int, 0 ≤ z → Wp (fin st.length (execs ⟨callK TT gc k, gc, wdT TT⟩ (.cons (.retB (.lst (.cons (.ife (.cmp .GtE (.v 2) (.bin .Pow (.int 10) (.int 18))) (.v 2) (.int 0)) (.cons (.bin .Add (.bin .Mod (.bi .int (.bin .Add (.bin .Add (.bin .Mult (.v 2) (.int 59)) (.bin .Mult (.int 6287) (.v 1))) (.int 31)) .nil) (.int 2147483549)) (.int 1)) .nil)))) .nil) [.val (.p (.scr ns)), .val (.p (.int i)), .val (.p (.int z))] st)) fun d st' => d = .box st.length ∧ Sh st' st.length ∧ st'.length = st.length + 1 := by
    intro z hz
    have b1 : 0 ≤ (z * 59 + 6287 * (i : Int) + 31) % 2147483549 := Int.emod_nonneg _ (by decide)
    have b2 : (z * 59 + 6287 * (i : Int) + 31) % 2147483549 < 2147483549 := Int.emod_lt_of_pos _ (by decide)
    by_cases h : 1000000000000000000 ≤ z
    · dsimp? [pow18, h]
      refine Wp.fin ?_
      refine Wp.ok ?_
      show if st.length < st.length then _ else _
      rw [if_neg (Nat.lt_irrefl _)]
      simp only [List.getElem?_append_right (Nat.le_refl _), Nat.sub_self, List.getElem?_cons_zero, List.take_left']
      exact ⟨trivial, fine _ _ hz (by omega) (by omega), by simp⟩
    · dsimp? [pow18, h]
      refine Wp.fin ?_
      refine Wp.ok ?_
      show if st.length < st.length then _ else _
      rw [if_neg (Nat.lt_irrefl _)]
      simp only [List.getElem?_append_right (Nat.le_refl _), Nat.sub_self, List.getElem?_cons_zero, List.take_left']
      exact ⟨trivial, fine _ _ (Int.le_refl 0) (by omega) (by omega), by simp⟩
  by_cases h : (i : Int) < ns.length
  · dsimp? [d14, h, atI_nat (xs := ns) (n := i) (by omega)]
    have := key (if ns[i]'(by omega) < 0 then -ns[i]'(by omega) else ns[i]'(by omega)) (by split <;> omega)
    dsimp? at this
    exact this
  · dsimp? [d14, h]
    have := key (401 * (i : Int) + 73) (by omega)
    dsimp? at this
    exact this
theorem pick {k : Nat} {st : Store} {n : Nat} {xs : List P} (hs : Sh st n) (h0 : xs ≠ []) (hl : xs.length < 1000000) :
    Wp (callK TT gc (k + 2) 16 [.box n, .p (.lst xs)] st) fun d st' => ∃ x, d = .p x ∧ x ∈ xs ∧ Drawn st n st' := by
  have hp : 0 < xs.length := List.length_pos_iff.mpr h0
  rw [callK_eq T16 rfl]
  dsimp? [d16]
  obtain ⟨_, st1, e1, r, rfl, r0, r1, D⟩ := (tear (k := k) (m := (xs.length : Int)) hs (by omega) (log_lit (by omega) (by omega))).ex
  obtain ⟨y, e2, _, hy⟩ := atI_int (xs := xs) r0 (by omega)
  dsimp? [e1, e2]
  refine ⟨y, rfl, hy, ?_⟩
  rw [← D.2, List.take_length]
  exact D
def FP (b : Bool) : P := bif b then .str "over" else .str "under"
def TF (bs : List Bool) : P := .tup (bs.map FP)
def RC (e a : List Bool) : P := .tup [TF e, TF a]
theorem Drawn.tk {st st1 : Store} {n : Nat} (D : Drawn st n st1) : Drawn st n (st1.take st.length) := by
  rw [← D.2, List.take_length]
  exact D
theorem Drawn.trans {st st1 st2 : Store} {n : Nat} (D : Drawn st n st1) (D2 : Drawn st1 n st2) : Drawn st n st2 := ⟨D2.1, D2.2.trans D.2⟩
theorem Drawn.refl {st : Store} {n : Nat} (h : Sh st n) : Drawn st n st := ⟨h, rfl⟩
theorem folds {k : Nat} {st : Store} {n : Nat} {m : Int} (hs : Sh st n) (h0 : 0 ≤ m) (hm : m < 1000000) :
    Wp (callK TT gc (k + 3) 17 [.box n, .p (.int m)] st) fun d st' => ∃ bs, d = .p (TF bs) ∧ (bs.length : Int) = m ∧ Drawn st n st' := by
  rw [callK_eq T17 rfl]
  dsimp? [d17, rngOk_lit (a := 0) (b := m) (by decide) (by decide) (by omega) (by omega)]
  generalize hr : compC _ _ _ _ _ _ _ = r
  obtain ⟨ys, st1, rfl, bs, rfl, hl, D⟩ : ∃ ys st1, r = .ok ys st1 ∧ ∃ bs : List Bool, ys = bs.map FP ∧ (bs.length : Int) = m ∧ Drawn st n st1 := by
    rw [← hr]
    refine (compC_wp (fun i acc st1 => ∃ bs : List Bool, acc = bs.map FP ∧ bs.length = i ∧ Drawn st n st1) ?_ ?_ ⟨[], rfl, rfl, .refl hs⟩).ex
    · rintro i x acc st1 hx ⟨bs, rfl, hb, D⟩
      obtain ⟨rfl, hlt⟩ := rngP_get hx
      refine ⟨_, rfl, ?_⟩
      dsimp?
      obtain ⟨_, st2, e1, y, rfl, hy, D2⟩ := (pick (k := k) (xs := [.str "over", .str "under"]) D.1 (by simp) (by simp)).ex
      dsimp? [e1]
      refine ⟨y, rfl, by rw [List.length_map, sizeLine_lit]; omega, ?_⟩
      rcases List.mem_cons.mp hy with rfl | hy
      · exact ⟨bs ++ [true], by simp [FP], by simp [hb], D.trans D2⟩
      · rcases List.mem_cons.mp hy with rfl | hy
        · exact ⟨bs ++ [false], by simp [FP], by simp [hb], D.trans D2⟩
        · cases hy
    · rintro acc st1 ⟨bs, rfl, hb, D⟩
      rw [rngP_len] at hb
      exact ⟨bs, rfl, by omega, D⟩
  dsimp?
  exact ⟨bs, rfl, hl, D.tk⟩
end LAW
end

section
set_option Elab.async false
set_option linter.all false
set_option maxRecDepth 100000
set_option maxHeartbeats 0
set_option autoImplicit false
namespace LAW
open PySem L2 DE
local macro_rules
  | `(tactic| dsimp? [$xs,*] $[$loc:location]?) => `(tactic| simp only [$xs,*, EVC, EVD, EVS, pow18, pow28, pow30, setS, setO, startE, List.map_cons, List.map_nil, List.getElem?_cons_zero, List.getElem?_cons_succ, List.set_cons_zero, List.set_cons_succ, List.replicate_succ, List.replicate_zero, List.cons_append, List.nil_append, List.append_nil, if_true, if_false, Bool.true_and, Bool.and_true, List.length_cons, List.length_nil, Int.cast_ofNat_Int, BEq.rfl, eq_self, Option.map_some, Bool.not_true, Bool.not_false, decide_true, decide_false, Int.reduceLT, Int.reduceLE, Int.reduceNeg, Nat.reduceAdd, Nat.reduceLeDiff, Int.reduceAdd, Int.reduceSub, Int.reduceMul, Int.reduceEq, Nat.reduceSub, Nat.sub_self, Int.reduceBEq, Int.reduceBNe, Nat.reduceEqDiff, Int.reduceMod, Int.reduceDiv, GC0, GC1, GC2, GC3, GC4, GC5, GC6] $[$loc]?)
  | `(tactic| dsimp? $[$loc:location]?) => `(tactic| simp only [EVC, EVD, EVS, pow18, pow28, pow30, setS, setO, startE, List.map_cons, List.map_nil, List.getElem?_cons_zero, List.getElem?_cons_succ, List.set_cons_zero, List.set_cons_succ, List.replicate_succ, List.replicate_zero, List.cons_append, List.nil_append, List.append_nil, if_true, if_false, Bool.true_and, Bool.and_true, List.length_cons, List.length_nil, Int.cast_ofNat_Int, BEq.rfl, eq_self, Option.map_some, Bool.not_true, Bool.not_false, decide_true, decide_false, Int.reduceLT, Int.reduceLE, Int.reduceNeg, Nat.reduceAdd, Nat.reduceLeDiff, Int.reduceAdd, Int.reduceSub, Int.reduceMul, Int.reduceEq, Nat.reduceSub, Nat.sub_self, Int.reduceBEq, Int.reduceBNe, Nat.reduceEqDiff, Int.reduceMod, Int.reduceDiv, GC0, GC1, GC2, GC3, GC4, GC5, GC6] $[$loc]?)


theorem eqv_FP (a b : Bool) : P.eqv (FP a) (FP b) = (a == b) := by cases a <;> cases b <;> decide +kernel
theorem eqvs_FP : ∀ x y : List Bool, P.eqvs (x.map FP) (y.map FP) = (x == y)
  | [], [] => by simp [P.eqvs]
  | [], b :: y => by simp [P.eqvs]
  | a :: x, [] => by simp [P.eqvs]
  | a :: x, b :: y => by
    rw [List.map_cons, List.map_cons, P.eqvs, eqv_FP, eqvs_FP x y]
    simp
theorem ok_FP (n : Nat) (b : Bool) : P.okD n (FP b) = true := by
  cases b
  · show P.okD n (.str "under") = true
    unfold P.okD
    decide +kernel
  · show P.okD n (.str "over") = true
    unfold P.okD
    decide +kernel
theorem ok_FPs (n : Nat) (x : List Bool) : P.okDs n (x.map FP) = true := P.okDs_iff.mpr fun y hy => by
  obtain ⟨b, _, rfl⟩ := List.mem_map.mp hy
  exact ok_FP n b
theorem ok_TF (n : Nat) (x : List Bool) : P.okD (n + 1) (TF x) = true := by
  show P.okD (n + 1) (.tup _) = true
  unfold P.okD
  exact ok_FPs n x
theorem ok_RC (n : Nat) (e a : List Bool) : P.okD (n + 2) (RC e a) = true := by
  show P.okD (n + 2) (.tup _) = true
  unfold P.okD
  simp [P.okDs, ok_TF]
theorem eq_FP (a b : Bool) : opEq (FP a) (FP b) = some (a == b) := by rw [opEq_ok (ok_FP 64 a) (ok_FP 64 b), eqv_FP]
theorem eq_TF (x y : List Bool) : opEq (TF x) (TF y) = some (x == y) := by
  rw [opEq_ok (ok_TF 63 x) (ok_TF 63 y)]
  show some (P.eqvs _ _) = _
  rw [eqvs_FP]
theorem eq_tf (x y : List Bool) : opEq (.tup (x.map FP)) (.tup (y.map FP)) = some (x == y) := eq_TF x y
theorem eq_tf0 (x : List Bool) : opEq (.tup (x.map FP)) (.tup []) = some (x == []) := eq_TF x []
theorem eqv_RC (e a e' a' : List Bool) : P.eqv (RC e a) (RC e' a') = (e == e' && a == a') := by
  show P.eqvs [TF e, TF a] [TF e', TF a'] = _
  simp only [P.eqvs, Bool.and_true]
  show (P.eqvs _ _ && P.eqvs _ _) = _
  rw [eqvs_FP, eqvs_FP]
theorem eq_RC (e a e' a' : List Bool) : opEq (RC e a) (RC e' a') = some (e == e' && a == a') := by
  rw [opEq_ok (ok_RC 62 e a) (ok_RC 62 e' a'), eqv_RC]
def pre (e a : List Bool) (n : Nat) : List Bool := (List.range n).map fun i => (MM.sq e a i).getD true
theorem sq_some {e a : List Bool} (h : 1 ≤ a.length) (n : Nat) : ∃ b, MM.sq e a n = some b := by
  unfold MM.sq
  split
  · rename_i h1
    exact ⟨_, List.getElem?_eq_getElem h1⟩
  · exact ⟨_, List.getElem?_eq_getElem (Nat.mod_lt _ h)⟩
theorem pre_len (e a : List Bool) (n : Nat) : (pre e a n).length = n := by simp [pre]
theorem pre_get {e a : List Bool} (h : 1 ≤ a.length) {n i : Nat} (hi : i < n) : (pre e a n)[i]? = MM.sq e a i := by
  obtain ⟨b, hb⟩ := sq_some (e := e) h i
  simp [pre, hi, hb]
theorem pre_of {e a L : List Bool} (h : 1 ≤ a.length) {n : Nat} (hl : L.length = n) (hg : ∀ i, i < n → L[i]? = MM.sq e a i) : L = pre e a n := by
  refine List.ext_getElem? fun i => ?_
  by_cases hi : i < n
  · rw [hg i hi, pre_get h hi]
  · rw [List.getElem?_eq_none (by omega), List.getElem?_eq_none (by rw [pre_len]; omega)]
theorem pre_eq {e a e' a' : List Bool} (h : 1 ≤ a.length) (h' : 1 ≤ a'.length) {n : Nat} : pre e a n = pre e' a' n ↔ ∀ i, i < n → MM.sq e a i = MM.sq e' a' i := by
  constructor
  · intro q i hi
    rw [← pre_get h hi, ← pre_get h' hi, q]
  · intro q
    exact pre_of h' (pre_len _ _ _) fun i hi => by rw [pre_get h hi, q i hi]
theorem cutP_to {α : Type} (xs : List α) (n : Nat) : cutP xs none (some (n : Int)) = xs.take n := by
  unfold cutP
  rw [HT.sIx_none, HT.sIx_nat, List.drop_zero, Nat.sub_zero]
  by_cases h : n ≤ xs.length
  · rw [Nat.min_eq_left h]
  · rw [Nat.min_eq_right (by omega), List.take_length, List.take_of_length_le (by omega)]
theorem cutP_from {α : Type} (xs : List α) (n : Nat) : cutP xs (some (n : Int)) none = xs.drop n := by
  unfold cutP
  rw [HT.sIx_none, HT.sIx_nat]
  by_cases h : n ≤ xs.length
  · rw [Nat.min_eq_left h, List.take_of_length_le (by simp)]
  · rw [Nat.min_eq_right (by omega), Nat.sub_self, List.take_zero, List.drop_of_length_le (by omega)]
theorem cutP_map {α β : Type} (f : α → β) (xs : List α) (l h : Option Int) : cutP (xs.map f) l h = (cutP xs l h).map f := by simp [cutP, List.map_take, List.map_drop]
theorem first {k : Nat} {st : Store} {e a : List Bool} {n : Nat} (ha : 1 ≤ a.length) (he : e.length ≤ 1000) (hal : a.length ≤ 1000) (hn : n ≤ 1000) :
    callK TT gc (k + 1) 19 [.p (RC e a), .p (.int n)] st = .ok (.p (TF (pre e a n))) st := by
  have w : Wp (callK TT gc (k + 1) 19 [.p (RC e a), .p (.int n)] st) fun d st' => d = .p (TF (pre e a n)) ∧ st' = st := by
    rw [callK_eq T19 rfl]
    dsimp? [d19, RC, TF]
    refine Wp.fin (wp_kB (whl_wp (fun m env st1 => ∃ L : List Bool, env = [.val (.p (.tup [.tup (e.map FP), .tup (a.map FP)])), .val (.p (.int n)), .val (.p (.tup (L.map FP)))] ∧ st1 = st ∧ m = n - L.length ∧ L.length ≤ 2000 ∧ (∃ j, L.length = e.length + j * a.length) ∧ ∀ i, i < L.length → L[i]? = MM.sq e a i) (n - e.length) (by omega) ?_ ?_))
    · rintro m env st1 ⟨L, rfl, rfl, rfl, hl, ⟨j, hj⟩, hg⟩
      by_cases h : L.length < n
      · have h' : (L.length : Int) < n := by omega
        dsimp? [List.length_map, h']
        dsimp? [small_lit (n := L.length + a.length) (by omega)]
        refine ⟨n - (L.length + a.length), by omega, L ++ a, by rw [List.map_append], trivial, by rw [List.length_append], by rw [List.length_append]; omega, ⟨j + 1, by rw [List.length_append, hj, Nat.succ_mul]; omega⟩, fun i hi => ?_⟩
        rw [List.length_append] at hi
        by_cases h1 : i < L.length
        · rw [List.getElem?_append_left h1, hg i h1]
        · rw [List.getElem?_append_right (by omega), MM.sq_hi' (by omega)]
          have : (i - e.length) = (i - L.length) + j * a.length := by omega
          rw [this, Nat.add_mul_mod_self_right, Nat.mod_eq_of_lt (by omega)]
      · have h' : ¬ (L.length : Int) < n := by omega
        dsimp? [List.length_map, h', cutP_to, ← List.map_take]
        simp only [FinQ, List.take_length]
        have e1 : L.take n = pre e a n := pre_of ha (by rw [List.length_take]; omega) fun i hi => by
          rw [List.getElem?_take_of_lt hi]
          exact hg i (by omega)
        rw [e1]
        exact ⟨rfl, trivial⟩
    · exact ⟨e, rfl, rfl, rfl, by omega, ⟨0, by omega⟩, fun i hi => (MM.sq_lo hi).symm⟩
  obtain ⟨d, st', e1, rfl, rfl⟩ := w.ex
  exact e1

end LAW
end

section
set_option Elab.async false
set_option linter.all false
set_option maxRecDepth 100000
set_option maxHeartbeats 0
set_option autoImplicit false
namespace LAW
open PySem L2 DE
local macro_rules
  | `(tactic| dsimp? [$xs,*] $[$loc:location]?) => `(tactic| simp only [$xs,*, EVC, EVD, EVS, pow18, pow28, pow30, setS, setO, startE, List.map_cons, List.map_nil, List.getElem?_cons_zero, List.getElem?_cons_succ, List.set_cons_zero, List.set_cons_succ, List.replicate_succ, List.replicate_zero, List.cons_append, List.nil_append, List.append_nil, if_true, if_false, Bool.true_and, Bool.and_true, List.length_cons, List.length_nil, Int.cast_ofNat_Int, BEq.rfl, eq_self, Option.map_some, Bool.not_true, Bool.not_false, decide_true, decide_false, Int.reduceLT, Int.reduceLE, Int.reduceNeg, Nat.reduceAdd, Nat.reduceLeDiff, Int.reduceAdd, Int.reduceSub, Int.reduceMul, Int.reduceEq, Nat.reduceSub, Nat.sub_self, Int.reduceBEq, Int.reduceBNe, Nat.reduceEqDiff, Int.reduceMod, Int.reduceDiv, GC0, GC1, GC2, GC3, GC4, GC5, GC6] $[$loc]?)
  | `(tactic| dsimp? $[$loc:location]?) => `(tactic| simp only [EVC, EVD, EVS, pow18, pow28, pow30, setS, setO, startE, List.map_cons, List.map_nil, List.getElem?_cons_zero, List.getElem?_cons_succ, List.set_cons_zero, List.set_cons_succ, List.replicate_succ, List.replicate_zero, List.cons_append, List.nil_append, List.append_nil, if_true, if_false, Bool.true_and, Bool.and_true, List.length_cons, List.length_nil, Int.cast_ofNat_Int, BEq.rfl, eq_self, Option.map_some, Bool.not_true, Bool.not_false, decide_true, decide_false, Int.reduceLT, Int.reduceLE, Int.reduceNeg, Nat.reduceAdd, Nat.reduceLeDiff, Int.reduceAdd, Int.reduceSub, Int.reduceMul, Int.reduceEq, Nat.reduceSub, Nat.sub_self, Int.reduceBEq, Int.reduceBNe, Nat.reduceEqDiff, Int.reduceMod, Int.reduceDiv, GC0, GC1, GC2, GC3, GC4, GC5, GC6] $[$loc]?)


section
variable {k : Nat} {st : Store} {x : P}
/-- sizes of what is asked -/
def sz2 : P → Bool
  | .tup [a, b] => decide (plen a ≤ 100000) && decide (plen b ≤ 100000)
  | _ => true
theorem areF_tup (h : areF x = true) : ∃ xs, x = .tup xs := by
  cases x with
  | tup xs => exact ⟨xs, rfl⟩
  | _ => cases h
theorem isR_iff : isR x = true ↔ ∃ e a : List Bool, x = RC e a ∧ e.length ≤ 12 ∧ 1 ≤ a.length ∧ a.length ≤ 12 := by
  have allF : ∀ xs : List P, xs.all isF = true → ∃ bs : List Bool, xs = bs.map FP := by
    intro xs
    induction xs with
    | nil => exact fun _ => ⟨[], rfl⟩
    | cons y ys ih =>
      intro h
      rw [List.all_cons, Bool.and_eq_true] at h
      obtain ⟨bs, rfl⟩ := ih h.2
      cases y with
      | str s =>
        have h1 := h.1
        simp only [isF, Bool.or_eq_true, beq_iff_eq] at h1
        rcases h1 with rfl | rfl
        · exact ⟨true :: bs, rfl⟩
        · exact ⟨false :: bs, rfl⟩
      | _ => cases h.1
  have allF2 : ∀ bs : List Bool, (bs.map FP).all isF = true := fun bs => by
    rw [List.all_eq_true]
    intro y hy
    obtain ⟨b, _, rfl⟩ := List.mem_map.mp hy
    cases b <;> decide +kernel
  constructor
  · intro h
    cases x with
    | tup xs =>
      match xs, h with
      | [a, b], h =>
        simp only [isR, Bool.and_eq_true, decide_eq_true_eq] at h
        obtain ⟨⟨⟨h1, h2⟩, h3⟩, h4, h5⟩ := h
        obtain ⟨us, rfl⟩ := areF_tup h1
        obtain ⟨vs, rfl⟩ := areF_tup h2
        obtain ⟨e, rfl⟩ := allF us h1
        obtain ⟨a, rfl⟩ := allF vs h2
        simp only [plen, List.length_map] at h3 h4 h5
        exact ⟨e, a, rfl, h3, h4, h5⟩
      | [], h => cases h
      | [_], h => cases h
      | _ :: _ :: _ :: _, h => cases h
    | _ => cases h
  · rintro ⟨e, a, rfl, h1, h2, h3⟩
    simp only [RC, TF, isR, areF, plen, List.length_map, Bool.and_eq_true, decide_eq_true_eq, allF2]
    exact ⟨⟨⟨trivial, trivial⟩, h1⟩, h2, h3⟩
theorem sz2_RC {e a : List Bool} (h1 : e.length ≤ 100000) (h2 : a.length ≤ 100000) : sz2 (RC e a) = true := by
  simp only [RC, TF, sz2, plen, List.length_map, Bool.and_eq_true, decide_eq_true_eq]
  exact ⟨h1, h2⟩
end

end LAW
end

section
set_option Elab.async false
set_option linter.all false
set_option maxRecDepth 100000
set_option maxHeartbeats 0
set_option autoImplicit false
namespace LAW
open PySem L2 DE
local macro_rules
  | `(tactic| dsimp? [$xs,*] $[$loc:location]?) => `(tactic| simp only [$xs,*, EVC, EVD, EVS, pow18, pow28, pow30, setS, setO, startE, List.map_cons, List.map_nil, List.getElem?_cons_zero, List.getElem?_cons_succ, List.set_cons_zero, List.set_cons_succ, List.replicate_succ, List.replicate_zero, List.cons_append, List.nil_append, List.append_nil, if_true, if_false, Bool.true_and, Bool.and_true, List.length_cons, List.length_nil, Int.cast_ofNat_Int, BEq.rfl, eq_self, Option.map_some, Bool.not_true, Bool.not_false, decide_true, decide_false, Int.reduceLT, Int.reduceLE, Int.reduceNeg, Nat.reduceAdd, Nat.reduceLeDiff, Int.reduceAdd, Int.reduceSub, Int.reduceMul, Int.reduceEq, Nat.reduceSub, Nat.sub_self, Int.reduceBEq, Int.reduceBNe, Nat.reduceEqDiff, Int.reduceMod, Int.reduceDiv, GC0, GC1, GC2, GC3, GC4, GC5, GC6] $[$loc]?)
  | `(tactic| dsimp? $[$loc:location]?) => `(tactic| simp only [EVC, EVD, EVS, pow18, pow28, pow30, setS, setO, startE, List.map_cons, List.map_nil, List.getElem?_cons_zero, List.getElem?_cons_succ, List.set_cons_zero, List.set_cons_succ, List.replicate_succ, List.replicate_zero, List.cons_append, List.nil_append, List.append_nil, if_true, if_false, Bool.true_and, Bool.and_true, List.length_cons, List.length_nil, Int.cast_ofNat_Int, BEq.rfl, eq_self, Option.map_some, Bool.not_true, Bool.not_false, decide_true, decide_false, Int.reduceLT, Int.reduceLE, Int.reduceNeg, Nat.reduceAdd, Nat.reduceLeDiff, Int.reduceAdd, Int.reduceSub, Int.reduceMul, Int.reduceEq, Nat.reduceSub, Nat.sub_self, Int.reduceBEq, Int.reduceBNe, Nat.reduceEqDiff, Int.reduceMod, Int.reduceDiv, GC0, GC1, GC2, GC3, GC4, GC5, GC6] $[$loc]?)


def isInt (lo hi : Int) : P → Bool
  | .int i => decide (lo ≤ i) && decide (i ≤ hi)
  | _ => false
section
variable {k : Nat} {st : Store} {x : P} {lo hi : Int}
theorem is_integer (h : P.okD 60 x = true) : callK TT gc (k + 1) 0 [.p x, .p (.int lo), .p (.int hi)] st = .ok (.p (.bl (isInt lo hi x))) st := by
  rw [callK_eq T0 rfl]
  cases x with
  | int i =>
    by_cases h1 : lo ≤ i
    · dsimp? [d0, h1, isInt, List.take_length]
    · dsimp? [d0, h1, isInt, List.take_length, Bool.false_and]
  | fn i => simp [P.okD] at h
  | scr i => simp [P.okD] at h
  | _ => dsimp? [d0, isInt, List.take_length]
end

end LAW
end

section
set_option Elab.async false
set_option linter.all false
set_option maxRecDepth 100000
set_option maxHeartbeats 0
set_option autoImplicit false
namespace LAW
open PySem L2 DE
local macro_rules
  | `(tactic| dsimp? [$xs,*] $[$loc:location]?) => `(tactic| simp only [$xs,*, EVC, EVD, EVS, pow18, pow28, pow30, setS, setO, startE, List.map_cons, List.map_nil, List.getElem?_cons_zero, List.getElem?_cons_succ, List.set_cons_zero, List.set_cons_succ, List.replicate_succ, List.replicate_zero, List.cons_append, List.nil_append, List.append_nil, if_true, if_false, Bool.true_and, Bool.and_true, List.length_cons, List.length_nil, Int.cast_ofNat_Int, BEq.rfl, eq_self, Option.map_some, Bool.not_true, Bool.not_false, decide_true, decide_false, Int.reduceLT, Int.reduceLE, Int.reduceNeg, Nat.reduceAdd, Nat.reduceLeDiff, Int.reduceAdd, Int.reduceSub, Int.reduceMul, Int.reduceEq, Nat.reduceSub, Nat.sub_self, Int.reduceBEq, Int.reduceBNe, Nat.reduceEqDiff, Int.reduceMod, Int.reduceDiv, GC0, GC1, GC2, GC3, GC4, GC5, GC6] $[$loc]?)
  | `(tactic| dsimp? $[$loc:location]?) => `(tactic| simp only [EVC, EVD, EVS, pow18, pow28, pow30, setS, setO, startE, List.map_cons, List.map_nil, List.getElem?_cons_zero, List.getElem?_cons_succ, List.set_cons_zero, List.set_cons_succ, List.replicate_succ, List.replicate_zero, List.cons_append, List.nil_append, List.append_nil, if_true, if_false, Bool.true_and, Bool.and_true, List.length_cons, List.length_nil, Int.cast_ofNat_Int, BEq.rfl, eq_self, Option.map_some, Bool.not_true, Bool.not_false, decide_true, decide_false, Int.reduceLT, Int.reduceLE, Int.reduceNeg, Nat.reduceAdd, Nat.reduceLeDiff, Int.reduceAdd, Int.reduceSub, Int.reduceMul, Int.reduceEq, Nat.reduceSub, Nat.sub_self, Int.reduceBEq, Int.reduceBNe, Nat.reduceEqDiff, Int.reduceMod, Int.reduceDiv, GC0, GC1, GC2, GC3, GC4, GC5, GC6] $[$loc]?)


theorem sIx_m1 (n d : Nat) : HT.sIx n d (some (-1)) = n - 1 := by
  show (if (-1 : Int) < 0 then ((-1 : Int) + (n : Int)).toNat else min (-1 : Int).toNat n) = _
  rw [if_pos (by decide)]
  omega
theorem cutP_toM {α : Type} (xs : List α) : cutP xs none (some (-1)) = xs.take (xs.length - 1) := by
  unfold cutP
  rw [HT.sIx_none, sIx_m1, List.drop_zero, Nat.sub_zero]
theorem cutP_fromM {α : Type} (xs : List α) : cutP xs (some (-1)) none = xs.drop (xs.length - 1) := by
  unfold cutP
  rw [HT.sIx_none, sIx_m1]
  exact List.take_of_length_le (by simp)
theorem rep_map {α β : Type} (f : α → β) (k : Int) (xs : List α) : rep k (xs.map f) = (rep k xs).map f := by
  unfold rep
  rw [List.map_flatten, List.map_replicate]
theorem rep_nat {α : Type} (k : Nat) (xs : List α) : rep (k : Int) xs = (List.replicate k xs).flatten := by
  unfold rep
  rw [Int.toNat_natCast]
/-- == tells items apart -/
structure EqF {α : Type} [BEq α] (f : α → P) : Prop where
  one : ∀ x y, opEq (f x) (f y) = some (x == y)
  tup : ∀ x y : List α, opEq (.tup (x.map f)) (.tup (y.map f)) = some (x == y)
theorem eqF_FP : EqF FP := ⟨eq_FP, eq_TF⟩
section
variable {α : Type} [BEq α] [LawfulBEq α] {f : α → P} {k : Nat} {st : Store}
end

end LAW
end

section
set_option Elab.async false
set_option linter.all false
set_option maxRecDepth 100000
set_option maxHeartbeats 0
set_option autoImplicit false
namespace LAW
open PySem L2 DE
local macro_rules
  | `(tactic| dsimp? [$xs,*] $[$loc:location]?) => `(tactic| simp only [$xs,*, EVC, EVD, EVS, pow18, pow28, pow30, setS, setO, startE, List.map_cons, List.map_nil, List.getElem?_cons_zero, List.getElem?_cons_succ, List.set_cons_zero, List.set_cons_succ, List.replicate_succ, List.replicate_zero, List.cons_append, List.nil_append, List.append_nil, if_true, if_false, Bool.true_and, Bool.and_true, List.length_cons, List.length_nil, Int.cast_ofNat_Int, BEq.rfl, eq_self, Option.map_some, Bool.not_true, Bool.not_false, decide_true, decide_false, Int.reduceLT, Int.reduceLE, Int.reduceNeg, Nat.reduceAdd, Nat.reduceLeDiff, Int.reduceAdd, Int.reduceSub, Int.reduceMul, Int.reduceEq, Nat.reduceSub, Nat.sub_self, Int.reduceBEq, Int.reduceBNe, Nat.reduceEqDiff, Int.reduceMod, Int.reduceDiv, GC0, GC1, GC2, GC3, GC4, GC5, GC6] $[$loc]?)
  | `(tactic| dsimp? $[$loc:location]?) => `(tactic| simp only [EVC, EVD, EVS, pow18, pow28, pow30, setS, setO, startE, List.map_cons, List.map_nil, List.getElem?_cons_zero, List.getElem?_cons_succ, List.set_cons_zero, List.set_cons_succ, List.replicate_succ, List.replicate_zero, List.cons_append, List.nil_append, List.append_nil, if_true, if_false, Bool.true_and, Bool.and_true, List.length_cons, List.length_nil, Int.cast_ofNat_Int, BEq.rfl, eq_self, Option.map_some, Bool.not_true, Bool.not_false, decide_true, decide_false, Int.reduceLT, Int.reduceLE, Int.reduceNeg, Nat.reduceAdd, Nat.reduceLeDiff, Int.reduceAdd, Int.reduceSub, Int.reduceMul, Int.reduceEq, Nat.reduceSub, Nat.sub_self, Int.reduceBEq, Int.reduceBNe, Nat.reduceEqDiff, Int.reduceMod, Int.reduceDiv, GC0, GC1, GC2, GC3, GC4, GC5, GC6] $[$loc]?)


section
variable {k : Nat} {st : Store} {x : P}
theorem need_many_ok {n : Nat} (hn : n ≤ 100) : callK TT gc (k + 2) 1 [.p (.int n)] st = .ok (.p .non) st := by
  have hi : isInt 0 100 (.int n) = true := by simp only [isInt, Bool.and_eq_true, decide_eq_true_eq]; omega
  rw [callK_eq T1 rfl]
  dsimp? [d1, is_integer (x := .int n) (lo := 0) (hi := 100) (by simp [P.okD]), hi, List.take_length]
theorem need_many_bad (h : P.okD 60 x = true) (hx : isInt 0 100 x = false) : callK TT gc (k + 2) 1 [.p x] st = .exc 1002 none st := by
  rw [callK_eq T1 rfl]
  dsimp? [d1, is_integer h, hx, List.take_length]
end

end LAW
end

section
set_option Elab.async false
set_option linter.all false
set_option maxRecDepth 100000
set_option maxHeartbeats 0
set_option autoImplicit false
namespace LAW
open PySem L2 DE
local macro_rules
  | `(tactic| dsimp? [$xs,*] $[$loc:location]?) => `(tactic| simp only [$xs,*, EVC, EVD, EVS, pow18, pow28, pow30, setS, setO, startE, List.map_cons, List.map_nil, List.getElem?_cons_zero, List.getElem?_cons_succ, List.set_cons_zero, List.set_cons_succ, List.replicate_succ, List.replicate_zero, List.cons_append, List.nil_append, List.append_nil, if_true, if_false, Bool.true_and, Bool.and_true, List.length_cons, List.length_nil, Int.cast_ofNat_Int, BEq.rfl, eq_self, Option.map_some, Bool.not_true, Bool.not_false, decide_true, decide_false, Int.reduceLT, Int.reduceLE, Int.reduceNeg, Nat.reduceAdd, Nat.reduceLeDiff, Int.reduceAdd, Int.reduceSub, Int.reduceMul, Int.reduceEq, Nat.reduceSub, Nat.sub_self, Int.reduceBEq, Int.reduceBNe, Nat.reduceEqDiff, Int.reduceMod, Int.reduceDiv, GC0, GC1, GC2, GC3, GC4, GC5, GC6] $[$loc]?)
  | `(tactic| dsimp? $[$loc:location]?) => `(tactic| simp only [EVC, EVD, EVS, pow18, pow28, pow30, setS, setO, startE, List.map_cons, List.map_nil, List.getElem?_cons_zero, List.getElem?_cons_succ, List.set_cons_zero, List.set_cons_succ, List.replicate_succ, List.replicate_zero, List.cons_append, List.nil_append, List.append_nil, if_true, if_false, Bool.true_and, Bool.and_true, List.length_cons, List.length_nil, Int.cast_ofNat_Int, BEq.rfl, eq_self, Option.map_some, Bool.not_true, Bool.not_false, decide_true, decide_false, Int.reduceLT, Int.reduceLE, Int.reduceNeg, Nat.reduceAdd, Nat.reduceLeDiff, Int.reduceAdd, Int.reduceSub, Int.reduceMul, Int.reduceEq, Nat.reduceSub, Nat.sub_self, Int.reduceBEq, Int.reduceBNe, Nat.reduceEqDiff, Int.reduceMod, Int.reduceDiv, GC0, GC1, GC2, GC3, GC4, GC5, GC6] $[$loc]?)


def CP (b : Bool) : P := bif b then .str "v" else .str "m"
theorem ok_CP (n : Nat) (b : Bool) : P.okD n (CP b) = true := by
  cases b
  · show P.okD n (.str "m") = true
    unfold P.okD
    decide +kernel
  · show P.okD n (.str "v") = true
    unfold P.okD
    decide +kernel
theorem eqv_CP (a b : Bool) : P.eqv (CP a) (CP b) = (a == b) := by cases a <;> cases b <;> decide +kernel
theorem eq_CP (a b : Bool) : opEq (CP a) (CP b) = some (a == b) := by rw [opEq_ok (ok_CP 64 a) (ok_CP 64 b), eqv_CP]
theorem pow_log {n : Nat} (h : n ≤ 8000) : ((2 ^ n : Nat) : Int).natAbs.log2 < 9000 := by
  rw [Int.natAbs_natCast, Nat.log2_two_pow]
  omega
theorem log_le {m : Int} {n : Nat} (h0 : 0 < m) (h : m ≤ ((2 ^ n : Nat) : Int)) (hn : n ≤ 8000) : m.natAbs.log2 < 9000 := by
  have h1 : m.natAbs < 2 ^ (n + 1) := by
    rw [Nat.pow_succ]
    have := MM.two_pos n
    omega
  exact Nat.lt_of_lt_of_le ((Nat.log2_lt (by omega)).mpr h1) (by omega)
section
variable {k : Nat} {st : Store}
theorem power {n : Nat} (hn : n ≤ 1000) : callK TT gc (k + 1) 2 [.p (.int n)] st = .ok (.p (.int ((2 ^ n : Nat) : Int))) st := by
  have w : Wp (callK TT gc (k + 1) 2 [.p (.int n)] st) fun d st' => d = .p (.int ((2 ^ n : Nat) : Int)) ∧ st' = st := by
    rw [callK_eq T2 rfl]
    dsimp? [d2, rngOk_lit (a := 0) (b := (n : Int)) (by decide) (by decide) (by omega) (by omega)]
    refine Wp.fin (wp_kB (forC_wp (fun i env st' => st = st' ∧ ∃ z, env = [.val (.p (.int n)), .val (.p (.int ((2 ^ i : Nat) : Int))), z]) ?_ ?_ ⟨rfl, _, rfl⟩))
    · rintro i x env st' hx ⟨rfl, z, rfl⟩
      refine ⟨_, by obtain ⟨rfl, _⟩ := rngP_get hx; rfl, ?_⟩
      dsimp?
      refine ⟨trivial, .val (.p (.int (0 + (i : Int)))), ?_⟩
      rw [Nat.pow_succ, Int.natCast_mul]
      rfl
    · rintro env st' ⟨rfl, z, rfl⟩
      rw [rngP_len]
      dsimp?
      refine ⟨?_, List.take_length⟩
      rw [show ((n : Int) - 0).toNat = n from by omega]
  obtain ⟨d, st', e, rfl, rfl⟩ := w.ex
  exact e
theorem doubled {n : Nat} (hn : n ≤ 1000) : callK TT gc (k + 1) 22 [.p (.int n)] st = .ok (.p (.int ((2 ^ n : Nat) : Int))) st := by
  have w : Wp (callK TT gc (k + 1) 22 [.p (.int n)] st) fun d st' => d = .p (.int ((2 ^ n : Nat) : Int)) ∧ st' = st := by
    rw [callK_eq T22 rfl]
    dsimp? [d22, rngOk_lit (a := 0) (b := (n : Int)) (by decide) (by decide) (by omega) (by omega)]
    refine Wp.fin (wp_kB (forC_wp (fun i env st' => st = st' ∧ ∃ z, env = [.val (.p (.int n)), .val (.p (.int ((2 ^ i : Nat) : Int))), z]) ?_ ?_ ⟨rfl, _, rfl⟩))
    · rintro i x env st' hx ⟨rfl, z, rfl⟩
      refine ⟨_, by obtain ⟨rfl, _⟩ := rngP_get hx; rfl, ?_⟩
      dsimp?
      refine ⟨trivial, .val (.p (.int (0 + (i : Int)))), ?_⟩
      rw [Nat.pow_succ, Int.natCast_mul]
      rfl
    · rintro env st' ⟨rfl, z, rfl⟩
      rw [rngP_len]
      dsimp?
      refine ⟨?_, List.take_length⟩
      rw [show ((n : Int) - 0).toNat = n from by omega]
  obtain ⟨d, st', e, rfl, rfl⟩ := w.ex
  exact e
theorem last_place {n : Nat} (hn : n ≤ 1000) : callK TT gc (k + 2) 3 [.p (.int n)] st = .ok (.p (.int (((2 ^ n : Nat) : Int) - 1))) st := by
  rw [callK_eq T3 rfl]
  dsimp? [d3, power (k := k) hn, List.take_length]
theorem halved {p n : Nat} (h0 : 0 < p) (hp : p < 2 ^ n) (hn : n ≤ 900000) : ∃ e o, MM.Hv p e o ∧ callK TT gc (k + 1) 4 [.p (.int p)] st = .ok (.p (.tup [.int e, .int o])) st := by
  have w : Wp (callK TT gc (k + 1) 4 [.p (.int p)] st) fun d st' => ∃ e o : Nat, MM.Hv p e o ∧ d = .p (.tup [.int e, .int o]) ∧ st' = st := by
    rw [callK_eq T4 rfl]
    dsimp? [d4]
    refine Wp.fin (wp_kB (whl_wp (fun m env st' => ∃ (e o : Nat), env = [.val (.p (.int o)), .val (.p (.int e))] ∧ st = st' ∧ p = 2 ^ e * o ∧ 0 < o ∧ o < 2 ^ m) n (by omega) ?_ ⟨0, p, rfl, rfl, by simp, h0, hp⟩))
    rintro m env st' ⟨e, o, rfl, rfl, h1, h2, h3⟩
    by_cases ho : o % 2 = 0
    · have c1 : ((o : Int) % 2 == 0) = true := by rw [beq_iff_eq]; omega
      dsimp? [c1]
      refine ⟨m - 1, ?_, e + 1, o / 2, ?_, trivial, ?_, by omega, ?_⟩
      · rcases Nat.eq_zero_or_pos m with q | q
        · subst q; simp at h3; omega
        · omega
      · rw [Int.natCast_ediv]; rfl
      · rw [MM.two_succ, Nat.mul_assoc, show 2 * (2 ^ e * (o / 2)) = 2 ^ e * (2 * (o / 2)) from by rw [Nat.mul_left_comm], show 2 * (o / 2) = o from by omega]
        exact h1
      · rcases Nat.eq_zero_or_pos m with q | q
        · subst q; simp at h3; omega
        · obtain ⟨m', rfl⟩ : ∃ m', m = m' + 1 := ⟨m - 1, by omega⟩
          rw [MM.two_succ] at h3
          simp only [Nat.add_sub_cancel]
          omega
    · have c1 : ((o : Int) % 2 == 0) = false := by rw [beq_eq_false_iff_ne]; omega
      dsimp? [c1, Bool.false_eq_true]
      exact ⟨e, o, ⟨h1, by omega⟩, rfl, List.take_length⟩
  obtain ⟨d, st', e1, e, o, h1, rfl, rfl⟩ := w.ex
  exact ⟨e, o, h1, e1⟩
theorem crease_by {fs : List Bool} {p : Nat} (h0 : 0 < p) (hp : p < 2 ^ fs.length) (hl : fs.length ≤ 1000) : callK TT gc (k + 2) 5 [.p (TF fs), .p (.int p)] st = .ok (.p (CP (MM.cr fs p))) st := by
  obtain ⟨e, o, hv, e1⟩ := halved (k := k) (st := st) h0 hp (by omega)
  have he := MM.hv_lt hv hp
  obtain ⟨f, hf⟩ : ∃ f, fs[fs.length - 1 - e]? = some f := ⟨_, List.getElem?_eq_getElem (by omega)⟩
  have g : atI (fs.map FP) ((fs.length : Int) - 1 - (e : Int)) = some (FP f) := by
    rw [show (fs.length : Int) - 1 - (e : Int) = ((fs.length - 1 - e : Nat) : Int) from by omega, atI_natQ (by rw [List.length_map]; omega), List.getElem?_map, hf]
    rfl
  have c1 : ((o : Int) % 4 == 1) = decide (o % 4 = 1) := by
    by_cases z : o % 4 = 1
    · rw [decide_eq_true z, beq_iff_eq]; omega
    · rw [decide_eq_false z, beq_eq_false_iff_ne]; omega
  have ov : opEq (FP f) (.str "over") = some f := by
    have := eq_FP f true
    rw [show FP true = .str "over" from rfl] at this
    rw [this]
    cases f <;> rfl
  rw [callK_eq T5 rfl, MM.cr_eq h0 hp hv f hf]
  dsimp? [d5, e1, TF, List.length_map, g, ov, c1]
  cases q : (f == decide (o % 4 = 1)) with
  | true => dsimp? [List.take_length]; rfl
  | false => dsimp? [List.take_length]; rfl
end

end LAW
end

section
set_option Elab.async false
set_option linter.all false
set_option maxRecDepth 100000
set_option maxHeartbeats 0
set_option autoImplicit false
namespace LAW
open PySem L2 DE
local macro_rules
  | `(tactic| dsimp? [$xs,*] $[$loc:location]?) => `(tactic| simp only [$xs,*, EVC, EVD, EVS, pow18, pow28, pow30, setS, setO, startE, List.map_cons, List.map_nil, List.getElem?_cons_zero, List.getElem?_cons_succ, List.set_cons_zero, List.set_cons_succ, List.replicate_succ, List.replicate_zero, List.cons_append, List.nil_append, List.append_nil, if_true, if_false, Bool.true_and, Bool.and_true, List.length_cons, List.length_nil, Int.cast_ofNat_Int, BEq.rfl, eq_self, Option.map_some, Bool.not_true, Bool.not_false, decide_true, decide_false, Int.reduceLT, Int.reduceLE, Int.reduceNeg, Nat.reduceAdd, Nat.reduceLeDiff, Int.reduceAdd, Int.reduceSub, Int.reduceMul, Int.reduceEq, Nat.reduceSub, Nat.sub_self, Int.reduceBEq, Int.reduceBNe, Nat.reduceEqDiff, Int.reduceMod, Int.reduceDiv, GC0, GC1, GC2, GC3, GC4, GC5, GC6] $[$loc]?)
  | `(tactic| dsimp? $[$loc:location]?) => `(tactic| simp only [EVC, EVD, EVS, pow18, pow28, pow30, setS, setO, startE, List.map_cons, List.map_nil, List.getElem?_cons_zero, List.getElem?_cons_succ, List.set_cons_zero, List.set_cons_succ, List.replicate_succ, List.replicate_zero, List.cons_append, List.nil_append, List.append_nil, if_true, if_false, Bool.true_and, Bool.and_true, List.length_cons, List.length_nil, Int.cast_ofNat_Int, BEq.rfl, eq_self, Option.map_some, Bool.not_true, Bool.not_false, decide_true, decide_false, Int.reduceLT, Int.reduceLE, Int.reduceNeg, Nat.reduceAdd, Nat.reduceLeDiff, Int.reduceAdd, Int.reduceSub, Int.reduceMul, Int.reduceEq, Nat.reduceSub, Nat.sub_self, Int.reduceBEq, Int.reduceBNe, Nat.reduceEqDiff, Int.reduceMod, Int.reduceDiv, GC0, GC1, GC2, GC3, GC4, GC5, GC6] $[$loc]?)


section
variable {k : Nat} {st : Store}
theorem law_crease {fs : List Bool} {p : Nat} (h0 : 0 < p) (hp : p < 2 ^ fs.length) (hl : fs.length ≤ 1000) : callK TT gc (k + 2) 23 [.p (TF fs), .p (.int p)] st = .ok (.p (CP (MM.cr fs p))) st := by
  have ov : ∀ f, opEq (FP f) (.str "over") = some f := fun f => by
    have := eq_FP f true
    rw [show FP true = .str "over" from rfl] at this
    rw [this]
    cases f <;> rfl
  have w : Wp (callK TT gc (k + 2) 23 [.p (TF fs), .p (.int p)] st) fun d st' => d = .p (CP (MM.cr fs p)) ∧ st' = st := by
    rw [callK_eq T23 rfl]
    dsimp? [d23, TF, List.length_map, doubled (k := k) hl]
    refine Wp.fin (wp_kB (forC_wp (fun i env st' => st = st' ∧ ∃ (q : Nat) (t : Bool) (z : Sl), env = [.val (.p (.tup (fs.map FP))), .val (.p (.int q)), .val (.p (.bl t)), .val (.p (.int ((2 ^ (fs.length - i) / 2 : Nat) : Int))), z] ∧ 0 < q ∧ q < 2 ^ (fs.length - i) ∧ MM.cr fs p = (t != MM.cr (fs.drop i) q)) ?_ ?_ ⟨rfl, p, false, _, by rw [Int.natCast_ediv]; rfl, h0, hp, by simp⟩))
    · rintro i x env st' hx ⟨rfl, q, t, z, rfl, q0, q1, hc⟩
      rw [List.getElem?_map] at hx
      have hi : i < fs.length := by
        rcases Nat.lt_or_ge i fs.length with q | q
        · exact q
        · rw [List.getElem?_eq_none q] at hx; cases hx
      rw [List.getElem?_eq_getElem hi] at hx
      cases hx
      generalize hf : fs[i] = f
      have hd : fs.drop i = f :: fs.drop (i + 1) := by rw [← hf]; exact List.drop_eq_getElem_cons hi
      obtain ⟨m, hm⟩ : ∃ m, fs.length - i = m + 1 := ⟨fs.length - i - 1, by omega⟩
      have hm2 : fs.length - (i + 1) = m := by omega
      have hdl : (fs.drop (i + 1)).length = m := by rw [List.length_drop]; exact hm2
      have hM : 2 ^ (fs.length - i) / 2 = 2 ^ m := by rw [hm, MM.two_succ]; omega
      rw [hm, MM.two_succ] at q1
      rw [hd] at hc
      rw [show MM.cr (f :: fs.drop (i + 1)) q = (if q = 2 ^ (fs.drop (i + 1)).length then f else if 2 ^ (fs.drop (i + 1)).length < q then !MM.cr (fs.drop (i + 1)) (2 * 2 ^ (fs.drop (i + 1)).length - q) else MM.cr (fs.drop (i + 1)) q) from rfl, hdl] at hc
      refine ⟨_, rfl, ?_⟩
      rw [hM, hm2]
      have eM : ∀ a b : Nat, ((a : Int) == (b : Int)) = decide (a = b) := fun a b => by
        by_cases z : a = b
        · rw [decide_eq_true z, beq_iff_eq]; omega
        · rw [decide_eq_false z, beq_eq_false_iff_ne]; omega
      have half : ((2 ^ m : Nat) : Int) / 2 = ((2 ^ m / 2 : Nat) : Int) := by rw [Int.natCast_ediv]; rfl
      by_cases c1 : q = 2 ^ m
      · have c1' : (((q : Nat) : Int) == ((2 ^ m : Nat) : Int)) = true := by rw [eM]; exact decide_eq_true c1
        rw [if_pos c1] at hc
        dsimp? [c1', ov]
        have e2 : (!(f == t)) = MM.cr fs p := by rw [hc]; cases f <;> cases t <;> rfl
        rw [e2]
        cases hcc : MM.cr fs p with
        | true => dsimp?; exact ⟨rfl, List.take_length⟩
        | false => dsimp?; exact ⟨rfl, List.take_length⟩
      · have c1' : (((q : Nat) : Int) == ((2 ^ m : Nat) : Int)) = false := by rw [eM]; exact decide_eq_false c1
        rw [if_neg c1] at hc
        by_cases c2 : 2 ^ m < q
        · have c2' : ((2 ^ m : Nat) : Int) < (q : Int) := by omega
          rw [if_pos c2] at hc
          dsimp? [c1', c2', half]
          refine ⟨trivial, 2 * 2 ^ m - q, !t, .val (.p (FP f)), ?_, by omega, by omega, ?_⟩
          · rw [show (2 : Int) * ((2 ^ m : Nat) : Int) - (q : Int) = ((2 * 2 ^ m - q : Nat) : Int) from by omega]
          · rw [hc]; cases t <;> cases MM.cr (fs.drop (i + 1)) (2 * 2 ^ m - q) <;> rfl
        · have c2' : ¬ ((2 ^ m : Nat) : Int) < (q : Int) := by omega
          rw [if_neg c2] at hc
          dsimp? [c1', c2', half]
          exact ⟨trivial, q, t, _, rfl, q0, by omega, hc⟩
    · rintro env st' ⟨rfl, q, t, z, rfl, q0, q1, hc⟩
      rw [List.length_map, Nat.sub_self] at q1
      simp at q1
      omega
  obtain ⟨d, st', e, rfl, rfl⟩ := w.ex
  exact e
end
def isC : P → Bool
  | .str s => (Str.ofString "v" == s) || (Str.ofString "m" == s)
  | _ => false
def isSt : P → Bool
  | .tup [a, b] => isInt 1 1000000000000000000000000000000 a && isC b
  | _ => false
def isSs : P → Bool
  | .tup xs => decide (xs.length ≤ 8) && xs.all isSt
  | _ => false
theorem in_cs {s : Str} (h : PyData.strOk s = true) : opIn (.str s) (.tup [.str "v", .str "m"]) = some (isC (.str s)) := by
  show (if ((P.str s).flat && [P.str (Str.ofString "v"), P.str (Str.ofString "m")].all P.flat) = true then anyEq (.str s) [.str (Str.ofString "v"), .str (Str.ofString "m")] else none) = _
  rw [if_pos (by rfl)]
  simp only [anyEq, opEq_strs (strOk_ofString _) h]
  show _ = some ((Str.ofString "v" == s) || (Str.ofString "m" == s))
  cases (Str.ofString "v" == s) <;> cases (Str.ofString "m" == s) <;> rfl
section
variable {k : Nat} {st : Store} {x : P}
theorem is_sight (h : P.okD 60 x = true) : callK TT gc (k + 2) 7 [.p x] st = .ok (.p (.bl (isSt x))) st := by
  rw [callK_eq T7 rfl]
  cases x with
  | tup xs =>
    match xs, h with
    | [], h => dsimp? [d7, isSt, List.take_length]
    | [a], h => dsimp? [d7, isSt, List.take_length]
    | a :: b :: c :: r, h =>
      have e : (((r.length + 1 + 1 + 1 : Nat) : Int) == 2) = false := by simp; omega
      dsimp? [d7, isSt, List.take_length, e]
    | [a, b], h =>
      have ha := okD_tup h a (by simp)
      have hb := okD_tup h b (by simp)
      have i1 := is_integer (k := k) (st := st) (lo := 1) (hi := 1000000000000000000000000000000) ha
      cases ea : isInt 1 1000000000000000000000000000000 a with
      | false => dsimp? [d7, i1, ea, isSt, List.take_length, Bool.false_and]
      | true =>
        cases b with
        | str s => dsimp? [d7, i1, ea, isSt, List.take_length, in_cs (s := s) (by simpa [P.okD] using hb)]
        | fn i => simp [P.okD] at hb
        | scr i => simp [P.okD] at hb
        | _ => dsimp? [d7, i1, ea, isSt, isC, List.take_length]
  | fn i => simp [P.okD] at h
  | scr i => simp [P.okD] at h
  | _ => dsimp? [d7, isSt, List.take_length]
theorem need_sights (h : P.okD 60 x = true) (hl : plen x ≤ 1000) : callK TT gc (k + 3) 8 [.p x] st = if isSs x = true then .ok (.p .non) st else .exc 1005 none st := by
  rw [callK_eq T8 rfl]
  cases x with
  | tup xs =>
    by_cases h8 : xs.length ≤ 8
    · have h8' : ¬ (8 : Int) < (xs.length : Int) := by omega
      dsimp? [d8, h8']
      rw [compC_map (y := fun x => .bl (isSt x))]
      · dsimp? [allBl_map, List.all_map]
        have e0 : xs.all (id ∘ isSt) = xs.all isSt := rfl
        rw [e0]
        cases hs : xs.all isSt with
        | true => dsimp? [isSs, h8, hs, List.take_length]
        | false => dsimp? [isSs, h8, hs, List.take_length, Bool.false_eq_true]
      · intro y hy
        refine ⟨_, rfl, .p (.bl (isSt y)), ?_, rfl⟩
        dsimp? [is_sight (okD_tup h y hy)]
      · omega
    · have h8' : (8 : Int) < (xs.length : Int) := by omega
      dsimp? [d8, h8', isSs, h8, Bool.false_and, Bool.false_eq_true, List.take_length]
  | fn i => simp [P.okD] at h
  | scr i => simp [P.okD] at h
  | _ => dsimp? [d8, isSs, List.take_length, Bool.false_eq_true]
end

end LAW
end

section
set_option Elab.async false
set_option linter.all false
set_option maxRecDepth 100000
set_option maxHeartbeats 0
set_option autoImplicit false
namespace LAW
open PySem L2 DE
local macro_rules
  | `(tactic| dsimp? [$xs,*] $[$loc:location]?) => `(tactic| simp only [$xs,*, EVC, EVD, EVS, pow18, pow28, pow30, setS, setO, startE, List.map_cons, List.map_nil, List.getElem?_cons_zero, List.getElem?_cons_succ, List.set_cons_zero, List.set_cons_succ, List.replicate_succ, List.replicate_zero, List.cons_append, List.nil_append, List.append_nil, if_true, if_false, Bool.true_and, Bool.and_true, List.length_cons, List.length_nil, Int.cast_ofNat_Int, BEq.rfl, eq_self, Option.map_some, Bool.not_true, Bool.not_false, decide_true, decide_false, Int.reduceLT, Int.reduceLE, Int.reduceNeg, Nat.reduceAdd, Nat.reduceLeDiff, Int.reduceAdd, Int.reduceSub, Int.reduceMul, Int.reduceEq, Nat.reduceSub, Nat.sub_self, Int.reduceBEq, Int.reduceBNe, Nat.reduceEqDiff, Int.reduceMod, Int.reduceDiv, GC0, GC1, GC2, GC3, GC4, GC5, GC6] $[$loc]?)
  | `(tactic| dsimp? $[$loc:location]?) => `(tactic| simp only [EVC, EVD, EVS, pow18, pow28, pow30, setS, setO, startE, List.map_cons, List.map_nil, List.getElem?_cons_zero, List.getElem?_cons_succ, List.set_cons_zero, List.set_cons_succ, List.replicate_succ, List.replicate_zero, List.cons_append, List.nil_append, List.append_nil, if_true, if_false, Bool.true_and, Bool.and_true, List.length_cons, List.length_nil, Int.cast_ofNat_Int, BEq.rfl, eq_self, Option.map_some, Bool.not_true, Bool.not_false, decide_true, decide_false, Int.reduceLT, Int.reduceLE, Int.reduceNeg, Nat.reduceAdd, Nat.reduceLeDiff, Int.reduceAdd, Int.reduceSub, Int.reduceMul, Int.reduceEq, Nat.reduceSub, Nat.sub_self, Int.reduceBEq, Int.reduceBNe, Nat.reduceEqDiff, Int.reduceMod, Int.reduceDiv, GC0, GC1, GC2, GC3, GC4, GC5, GC6] $[$loc]?)


/-- sights, written -/
def RS (S : List (Nat × Bool)) : P := .tup (S.map fun s => .tup [.int s.1, CP s.2])
/-- a sight goes with a strip -/
def gd1 (fs : List Bool) (s : Nat × Bool) : Bool := decide (s.1 < 2 ^ fs.length) && (MM.cr fs s.1 == s.2)
def gs (fs : List Bool) (S : List (Nat × Bool)) : Bool := S.all (gd1 fs)
/-- as a value tells it -/
def gV (fs : List Bool) : P → Bool
  | .tup [.int p, c] => decide (p.toNat < 2 ^ fs.length) && P.eqv (CP (MM.cr fs p.toNat)) c
  | _ => false
theorem gV_eq (fs : List Bool) (s : Nat × Bool) : gV fs (.tup [.int s.1, CP s.2]) = gd1 fs s := by
  show (decide ((s.1 : Int).toNat < 2 ^ fs.length) && P.eqv (CP (MM.cr fs (s.1 : Int).toNat)) (CP s.2)) = _
  rw [Int.toNat_natCast, eqv_CP]
  rfl
structure SOk (S : List (Nat × Bool)) : Prop where
  len : S.length ≤ 8
  pos : ∀ s ∈ S, 0 < s.1
  top : ∀ s ∈ S, s.1 ≤ 1000000000000000000000000000000
theorem ok_RS (n : Nat) (S : List (Nat × Bool)) : P.okD (n + 2) (RS S) = true := by
  show P.okD (n + 1 + 1) (.tup _) = true
  unfold P.okD
  rw [P.okDs_iff]
  intro y hy
  obtain ⟨s, _, rfl⟩ := List.mem_map.mp hy
  unfold P.okD
  simp [P.okDs, P.okD, ok_CP]
theorem isSs_RS {S : List (Nat × Bool)} (h : SOk S) : isSs (RS S) = true := by
  show (decide ((S.map fun s => P.tup [.int s.1, CP s.2]).length ≤ 8) && (S.map fun s => P.tup [.int s.1, CP s.2]).all isSt) = true
  rw [List.length_map, decide_eq_true h.len, Bool.true_and, List.all_eq_true]
  intro y hy
  obtain ⟨s, hs, rfl⟩ := List.mem_map.mp hy
  have h1 := h.pos s hs
  have h2 := h.top s hs
  show (isInt 1 1000000000000000000000000000000 (.int s.1) && isC (CP s.2)) = true
  have e1 : isC (CP s.2) = true := by cases s.2 <;> decide +kernel
  rw [e1, Bool.and_true]
  show (decide ((1 : Int) ≤ (s.1 : Int)) && decide ((s.1 : Int) ≤ 1000000000000000000000000000000)) = true
  rw [decide_eq_true (by omega), decide_eq_true (by omega)]
  rfl
section
variable {k : Nat} {st : Store}
theorem eqvs_bl : ∀ x y : List Bool, P.eqvs (x.map .bl) (y.map .bl) = (x == y)
  | [], [] => by simp [P.eqvs]
  | [], b :: y => by simp [P.eqvs]
  | a :: x, [] => by simp [P.eqvs]
  | a :: x, b :: y => by
    rw [List.map_cons, List.map_cons, P.eqvs, eqvs_bl x y]
    simp [P.eqv]
theorem ok_bls (n : Nat) (x : List Bool) : P.okDs n (x.map .bl) = true := P.okDs_iff.mpr fun y hy => by
  obtain ⟨b, _, rfl⟩ := List.mem_map.mp hy
  simp [P.okD]
theorem eq_tbl (x y : List Bool) : opEq (.tup (x.map .bl)) (.tup (y.map .bl)) = some (x == y) := by
  rw [opEq_ok (by unfold P.okD; exact ok_bls 63 x) (by unfold P.okD; exact ok_bls 63 y)]
  simp only [P.eqv, eqvs_bl]
theorem eq_lbl (x y : List Bool) : opEq (.lst (x.map .bl)) (.lst (y.map .bl)) = some (x == y) := by
  rw [opEq_ok (by unfold P.okD; exact ok_bls 63 x) (by unfold P.okD; exact ok_bls 63 y)]
  simp only [P.eqv, eqvs_bl]
theorem eqF_bl : EqF P.bl := ⟨fun x y => opEq_bl, eq_tbl⟩
/-- a strip's sights go alike, one round of the recipe on -/
theorem gs_per {e a : List Bool} {S : List (Nat × Bool)} {B n : Nat} (ha : 1 ≤ a.length) (hS : ∀ s ∈ S, 0 < s.1 ∧ s.1 < 2 ^ B ∧ ∀ x o, MM.Hv s.1 x o → e.length + 1 + x ≤ B) (hn : B ≤ n) : gs (pre e a (n + a.length)) S = gs (pre e a n) S := by
  unfold gs
  rw [Bool.eq_iff_iff, List.all_eq_true, List.all_eq_true]
  have key : ∀ s ∈ S, gd1 (pre e a (n + a.length)) s = gd1 (pre e a n) s := by
    intro s hs
    obtain ⟨h0, h1, h2⟩ := hS s hs
    obtain ⟨x, o, hv⟩ := MM.hv_ex s.1 s.1 (Nat.le_refl _) h0
    have hx := h2 x o hv
    have b1 : 2 ^ B ≤ 2 ^ n := Nat.pow_le_pow_right (by decide) hn
    have b2 : 2 ^ n ≤ 2 ^ (n + a.length) := Nat.pow_le_pow_right (by decide) (by omega)
    obtain ⟨f, hf⟩ := sq_some (e := e) ha (n - 1 - x)
    have hf2 : MM.sq e a (n + a.length - 1 - x) = some f := by
      rw [← hf, show n + a.length - 1 - x = (n - 1 - x) + a.length from by omega]
      exact MM.sq_per1 (by omega)
    unfold gd1
    rw [pre_len, pre_len, decide_eq_true (show s.1 < 2 ^ (n + a.length) by omega), decide_eq_true (show s.1 < 2 ^ n by omega)]
    rw [MM.cr_eq h0 (by rw [pre_len]; omega) hv f (by rw [pre_len, pre_get ha (by omega)]; exact hf2), MM.cr_eq h0 (by rw [pre_len]; omega) hv f (by rw [pre_len, pre_get ha (by omega)]; exact hf)]
  constructor
  · intro h s hs
    rw [← key s hs]; exact h s hs
  · intro h s hs
    rw [key s hs]; exact h s hs
end

end LAW
end

section
set_option Elab.async false
set_option linter.all false
set_option maxRecDepth 100000
set_option maxHeartbeats 0
set_option autoImplicit false
namespace LAW
open PySem L2 DE
local macro_rules
  | `(tactic| dsimp? [$xs,*] $[$loc:location]?) => `(tactic| simp only [$xs,*, EVC, EVD, EVS, pow18, pow28, pow30, setS, setO, startE, List.map_cons, List.map_nil, List.getElem?_cons_zero, List.getElem?_cons_succ, List.set_cons_zero, List.set_cons_succ, List.replicate_succ, List.replicate_zero, List.cons_append, List.nil_append, List.append_nil, if_true, if_false, Bool.true_and, Bool.and_true, List.length_cons, List.length_nil, Int.cast_ofNat_Int, BEq.rfl, eq_self, Option.map_some, Bool.not_true, Bool.not_false, decide_true, decide_false, Int.reduceLT, Int.reduceLE, Int.reduceNeg, Nat.reduceAdd, Nat.reduceLeDiff, Int.reduceAdd, Int.reduceSub, Int.reduceMul, Int.reduceEq, Nat.reduceSub, Nat.sub_self, Int.reduceBEq, Int.reduceBNe, Nat.reduceEqDiff, Int.reduceMod, Int.reduceDiv, GC0, GC1, GC2, GC3, GC4, GC5, GC6] $[$loc]?)
  | `(tactic| dsimp? $[$loc:location]?) => `(tactic| simp only [EVC, EVD, EVS, pow18, pow28, pow30, setS, setO, startE, List.map_cons, List.map_nil, List.getElem?_cons_zero, List.getElem?_cons_succ, List.set_cons_zero, List.set_cons_succ, List.replicate_succ, List.replicate_zero, List.cons_append, List.nil_append, List.append_nil, if_true, if_false, Bool.true_and, Bool.and_true, List.length_cons, List.length_nil, Int.cast_ofNat_Int, BEq.rfl, eq_self, Option.map_some, Bool.not_true, Bool.not_false, decide_true, decide_false, Int.reduceLT, Int.reduceLE, Int.reduceNeg, Nat.reduceAdd, Nat.reduceLeDiff, Int.reduceAdd, Int.reduceSub, Int.reduceMul, Int.reduceEq, Nat.reduceSub, Nat.sub_self, Int.reduceBEq, Int.reduceBNe, Nat.reduceEqDiff, Int.reduceMod, Int.reduceDiv, GC0, GC1, GC2, GC3, GC4, GC5, GC6] $[$loc]?)


section
open MS
variable {k : Nat} {st : Store}
theorem flip_map (l : List Bool) : (l.map fun b => P.str (sT [b])).map (fun x => match x with | .str s => P.str (sT [!(s == sT [true])]) | x => x) = (l.map not).map fun b => P.str (sT [b]) := by
  rw [List.map_map, List.map_map]
  refine List.map_congr_left fun b _ => ?_
  cases b
  · have : (sT [false] == sT [true]) = false := by decide +kernel
    simp only [Function.comp, this]
  · simp only [Function.comp, beq_self_eq_true]
theorem law_other {l : List Bool} (h : l.length ≤ 100000) : callK TT gc (k + 1) 20 [.p (.str (sT l))] st = .ok (.p (.str (sT (l.map not)))) st := by
  rw [callK_eq T20 rfl]
  dsimp? [d20, seq_sT]
  rw [compC_map (y := fun x => match x with | .str s => P.str (sT [!(s == sT [true])]) | x => x)]
  · dsimp? [flip_map, joinP_sT (l := l.map not) (by rw [List.length_map]; exact h), List.take_length]
  · intro x hx
    obtain ⟨b, _, rfl⟩ := List.mem_map.mp hx
    refine ⟨_, rfl, .p (.str (sT [!b])), ?_, ?_⟩
    · have e := eq_sT [b] [true]
      rw [sT_v] at e
      cases b
      · dsimp? [e, show ([false] == [true]) = false from rfl, sT_v, Bool.not_false]
      · dsimp? [e, show ([true] == [true]) = true from rfl, sT_m, Bool.not_true]
    · cases b
      · have : (sT [false] == sT [true]) = false := by decide +kernel
        simp only [this]
        rfl
      · simp only [beq_self_eq_true]
        rfl
  · rw [List.length_map]
    omega
theorem strip_len7 {fs : List Bool} {B : Nat} (h : fs.length ≤ B) : (MM.strip fs).length < 2 ^ B := by
  rw [MM.strip_len]
  have := MM.two_pos fs.length
  have : 2 ^ fs.length ≤ 2 ^ B := Nat.pow_le_pow_right (by decide) h
  omega
theorem drop_strip (fs : List Bool) {i : Nat} {f : Bool} (h : fs.reverse[i]? = some f) : MM.strip (fs.reverse.take (i + 1)).reverse = MM.strip (fs.reverse.take i).reverse ++ f :: ((MM.strip (fs.reverse.take i).reverse).reverse.map not) := by
  rw [List.take_add_one, h]
  simp only [Option.toList, List.reverse_append, List.reverse_cons, List.reverse_nil, List.nil_append, List.cons_append]
  rfl
theorem law_strip {fs : List Bool} (h : fs.length ≤ 14) : callK TT gc (k + 2) 21 [.p (TF fs)] st = .ok (.p (.str (sT (MM.strip fs)))) st := by
  have w : Wp (callK TT gc (k + 2) 21 [.p (TF fs)] st) fun d st' => d = .p (.str (sT (MM.strip fs))) ∧ st' = st := by
    rw [callK_eq T21 rfl]
    dsimp? [d21, TF]
    refine Wp.fin (wp_kB (forC_wp (fun i env st' => st = st' ∧ ∃ z, env = [.val (.p (.tup (fs.map FP))), .val (.p (.str (sT (MM.strip (fs.reverse.take i).reverse)))), z]) ?_ ?_ ⟨rfl, _, by rw [List.take_zero, List.reverse_nil]; simp only [MM.strip, sT_nil]; rfl⟩))
    · rintro i x env st' hx ⟨rfl, z, rfl⟩
      rw [← List.map_reverse, List.getElem?_map] at hx
      cases hf : fs.reverse[i]? with
      | none => rw [hf] at hx; cases hx
      | some f =>
        rw [hf] at hx
        cases hx
        refine ⟨_, rfl, ?_⟩
        have hb : (MM.strip (fs.reverse.take i).reverse).length < 2 ^ 14 := strip_len7 (by rw [List.length_reverse, List.length_take, List.length_reverse]; omega)
        have ov : opEq (FP f) (.str "over") = some f := by
          have := eq_FP f true
          rw [show FP true = .str "over" from rfl] at this
          rw [this]
          cases f <;> rfl
        rw [drop_strip fs hf]
        generalize MM.strip (fs.reverse.take i).reverse = S at hb ⊢
        have sl : small (sT S).length = true := small_lit (n := (sT S).length) (by rw [sT_len]; omega)
        have e1 := law_other (k := k) (st := st) (l := S.reverse) (by rw [List.length_reverse]; omega)
        have l2 : (sT S).length ≤ 20000 := by rw [sT_len]; omega
        have sm : ∀ n : Nat, n ≤ 100000 → small n = true := fun n h => small_lit (by omega)
        have sl3 : ∀ b : Bool, small ((sT (S ++ [b])).length + (sT (S.reverse.map not)).length) = true := fun b => sm _ (by rw [sT_len, sT_len, List.length_append, List.length_map, List.length_reverse, List.length_singleton]; omega)
        have sv : small ((sT S).length + (Str.ofString "v").length) = true := sm _ (by rw [← sT_v, sT_len, sT_len, List.length_singleton]; omega)
        have sw : small ((sT S).length + (Str.ofString "m").length) = true := sm _ (by rw [← sT_m, sT_len, sT_len, List.length_singleton]; omega)
        have av : sT S ++ Str.ofString "v" = sT (S ++ [true]) := by rw [← sT_v, sT_app]
        have aw : sT S ++ Str.ofString "m" = sT (S ++ [false]) := by rw [← sT_m, sT_app]
        have a2 : ∀ b : Bool, sT (S ++ [b]) ++ sT (S.reverse.map not) = sT (S ++ b :: S.reverse.map not) := fun b => by rw [sT_app, List.append_assoc]; rfl
        cases f
        · dsimp? [ov, sl, rev_sT, sw, aw, e1, sl3, a2]
          exact ⟨trivial, _, rfl⟩
        · dsimp? [ov, sl, rev_sT, sv, av, e1, sl3, a2]
          exact ⟨trivial, _, rfl⟩
    · rintro env st' ⟨rfl, z, rfl⟩
      dsimp?
      refine ⟨?_, List.take_length⟩
      rw [List.length_reverse, List.length_map, List.take_of_length_le (by rw [List.length_reverse]; exact Nat.le_refl _), List.reverse_reverse]
  obtain ⟨d, st', e, rfl, rfl⟩ := w.ex
  exact e
end

end LAW
end

section
set_option Elab.async false
set_option linter.all false
set_option maxRecDepth 100000
set_option maxHeartbeats 0
set_option autoImplicit false
namespace LAW
open PySem L2 DE
local macro_rules
  | `(tactic| dsimp? [$xs,*] $[$loc:location]?) => `(tactic| simp only [$xs,*, EVC, EVD, EVS, pow18, pow28, pow30, setS, setO, startE, List.map_cons, List.map_nil, List.getElem?_cons_zero, List.getElem?_cons_succ, List.set_cons_zero, List.set_cons_succ, List.replicate_succ, List.replicate_zero, List.cons_append, List.nil_append, List.append_nil, if_true, if_false, Bool.true_and, Bool.and_true, List.length_cons, List.length_nil, Int.cast_ofNat_Int, BEq.rfl, eq_self, Option.map_some, Bool.not_true, Bool.not_false, decide_true, decide_false, Int.reduceLT, Int.reduceLE, Int.reduceNeg, Nat.reduceAdd, Nat.reduceLeDiff, Int.reduceAdd, Int.reduceSub, Int.reduceMul, Int.reduceEq, Nat.reduceSub, Nat.sub_self, Int.reduceBEq, Int.reduceBNe, Nat.reduceEqDiff, Int.reduceMod, Int.reduceDiv, GC0, GC1, GC2, GC3, GC4, GC5, GC6] $[$loc]?)
  | `(tactic| dsimp? $[$loc:location]?) => `(tactic| simp only [EVC, EVD, EVS, pow18, pow28, pow30, setS, setO, startE, List.map_cons, List.map_nil, List.getElem?_cons_zero, List.getElem?_cons_succ, List.set_cons_zero, List.set_cons_succ, List.replicate_succ, List.replicate_zero, List.cons_append, List.nil_append, List.append_nil, if_true, if_false, Bool.true_and, Bool.and_true, List.length_cons, List.length_nil, Int.cast_ofNat_Int, BEq.rfl, eq_self, Option.map_some, Bool.not_true, Bool.not_false, decide_true, decide_false, Int.reduceLT, Int.reduceLE, Int.reduceNeg, Nat.reduceAdd, Nat.reduceLeDiff, Int.reduceAdd, Int.reduceSub, Int.reduceMul, Int.reduceEq, Nat.reduceSub, Nat.sub_self, Int.reduceBEq, Int.reduceBNe, Nat.reduceEqDiff, Int.reduceMod, Int.reduceDiv, GC0, GC1, GC2, GC3, GC4, GC5, GC6] $[$loc]?)


theorem forC_cons {c : Cf} {tg : Tg} {b : IB} {x : P} {xs : List P} {env env1 env2 : DE.Env} {st st2 : Store} (h1 : asgT tg (.p x) env = some env1) (h2 : execs c b env1 st = .ok (.nx env2) st2) : forC c tg b (x :: xs) env st = forC c tg b xs env2 st2 := by
  unfold forC
  rw [forGo]
  simp only [h1, h2, R.bind]
theorem forC_stop {c : Cf} {tg : Tg} {b : IB} {x : P} {xs : List P} {env env1 : DE.Env} {d : D} {st st2 : Store} (h1 : asgT tg (.p x) env = some env1) (h2 : execs c b env1 st = .ok (.rt d) st2) : forC c tg b (x :: xs) env st = .ok (.rt d) st2 := by
  unfold forC
  rw [forGo]
  simp only [h1, h2, R.bind]
theorem forC_exc {c : Cf} {tg : Tg} {b : IB} {x : P} {xs : List P} {env env1 : DE.Env} {e : Nat} {o : Option P} {st st2 : Store} (h1 : asgT tg (.p x) env = some env1) (h2 : execs c b env1 st = .exc e o st2) : forC c tg b (x :: xs) env st = .exc e o st2 := by
  unfold forC
  rw [forGo]
  simp only [h1, h2, R.bind]
theorem forC_nil {c : Cf} {tg : Tg} {b : IB} {env : DE.Env} {st : Store} : forC c tg b [] env st = .ok (.nx env) st := rfl
def OP (o : Option Bool) : P := match o with
  | some b => FP b
  | none => .non
def TO (L : List (Option Bool)) : P := .tup (L.map OP)
def sgt (s : Nat × Bool) : P := .tup [.int s.1, CP s.2]
theorem in_nf (o : Option Bool) (f : Bool) : opIn (OP o) (.tup [.non, FP f]) = some (o == none || o == some f) := by
  cases o with
  | none => cases f <;> decide +kernel
  | some b => cases b <;> cases f <;> decide +kernel
theorem vee (b : Bool) : opEq (CP b) (.str "v") = some b := by
  have := eq_CP b true
  rw [show CP true = .str "v" from rfl] at this
  rw [this]
  cases b <;> rfl
theorem cr4 (o : Nat) : ((o : Int) % 4 == 1) = decide (o % 4 = 1) := by
  by_cases z : o % 4 = 1
  · rw [decide_eq_true z, beq_iff_eq]; omega
  · rw [decide_eq_false z, beq_eq_false_iff_ne]; omega
section
open M5
variable {k : Nat} {st : Store}
theorem halvedE {p n : Nat} (h0 : 0 < p) (hp : p < 2 ^ n) (hn : n ≤ 900000) : callK TT gc (k + 1) 4 [.p (.int p)] st = .ok (.p (.tup [.int (hvE p).1, .int (hvE p).2])) st := by
  obtain ⟨e, o, hv, e1⟩ := halved (k := k) (st := st) h0 hp hn
  rw [hvE_eq h0 hv]
  exact e1
theorem fold_told {n : Nat} {s : Nat × Bool} (h0 : 0 < s.1) (h : s.1 < 2 ^ n) (hn : n ≤ 1000) : callK TT gc (k + 2) 9 [.p (.int n), .p (sgt s)] st = .ok (.p (.tup [.int (ix n s.1), FP (fx s)])) st := by
  have e1 := halvedE (k := k) (st := st) h0 h (by omega)
  have he := MM.hv_lt (hvE_ok h0) h
  have ei : (n : Int) - 1 - ((hvE s.1).1 : Int) = (ix n s.1 : Int) := by unfold ix; omega
  rw [callK_eq T9 rfl]
  dsimp? [d9, sgt, e1, vee, cr4, ei]
  unfold fx
  cases (s.2 == decide ((hvE s.1).2 % 4 = 1)) with
  | true => dsimp? [List.take_length]; rfl
  | false => dsimp? [List.take_length]; rfl
def toldB : IB := match d10.body with
  | .cons _ (.cons (.for_ _ _ b) _) => b
  | _ => .nil
theorem ixN_nat {n i : Nat} (h : i < n) : ixN n (i : Int) = some i := by
  unfold ixN
  rw [if_pos (by omega), if_pos (by omega), Int.toNat_natCast]
theorem told_loop {n : Nat} (hn : n ≤ 1000) {r0 r1 : Sl} (e0 : r0 = .val (.p (.int n))) : ∀ (S : List (Nat × Bool)) (L : List (Option Bool)) (s3 s4 s5 : Sl), (∀ s ∈ S, 0 < s.1) → L.length = n →
    (∀ M, tl n S L = some M → ∃ t3 t4 t5, forC ⟨callK TT gc (k + 2), gc, wdT TT⟩ (.one 3) toldB (S.map sgt) [r0, r1, .own (.lst (L.map OP)), s3, s4, s5] st = .ok (.nx [r0, r1, .own (.lst (M.map OP)), t3, t4, t5]) st) ∧
    (tl n S L = none → forC ⟨callK TT gc (k + 2), gc, wdT TT⟩ (.one 3) toldB (S.map sgt) [r0, r1, .own (.lst (L.map OP)), s3, s4, s5] st = .exc 1010 none st)
  | [], L, s3, s4, s5, _, hL => ⟨fun M h => by
      cases h
      exact ⟨s3, s4, s5, forC_nil⟩, fun h => by cases h⟩
  | s :: S, L, s3, s4, s5, hp, hL => by
    subst e0
    have h0 := hp s List.mem_cons_self
    have lp := last_place (k := k) (st := st) (n := n) hn
    by_cases hb : s.1 < 2 ^ n
    · have hb' : ¬ ((2 ^ n : Nat) : Int) - 1 < (s.1 : Int) := by omega
      have hi := ix_lt h0 hb
      have ft := fold_told (k := k) (st := st) h0 hb hn
      simp only [sgt] at ft
      obtain ⟨o, ho⟩ : ∃ o, L[ix n s.1]? = some o := ⟨_, List.getElem?_eq_getElem (by omega)⟩
      have g : atI (L.map OP) (ix n s.1 : Int) = some (OP o) := by
        rw [atI_natQ (by rw [List.length_map]; omega), List.getElem?_map, ho]
        rfl
      have ixn : ixN (L.map OP).length (ix n s.1 : Int) = some (ix n s.1) := ixN_nat (by rw [List.length_map]; omega)
      by_cases hc : o = none ∨ o = some (fx s)
      · have hq : (o == none || o == some (fx s)) = true := by
          rcases hc with rfl | rfl
          · rfl
          · simp
        have et : tl n (s :: S) L = tl n S (L.set (ix n s.1) (some (fx s))) := by
          rw [tl, if_pos ⟨hb, by rcases hc with rfl | rfl; exact .inl ho; exact .inr ho⟩]
        rw [et]
        have ih := told_loop hn (r0 := .val (.p (.int n))) (r1 := r1) rfl S (L.set (ix n s.1) (some (fx s))) (.val (.p (sgt s))) (.val (.p (.int (ix n s.1)))) (.val (.p (FP (fx s)))) (fun z hz => hp z (List.mem_cons_of_mem _ hz)) (by rw [List.length_set]; exact hL)
        have stp : forC ⟨callK TT gc (k + 2), gc, wdT TT⟩ (.one 3) toldB ((s :: S).map sgt) [.val (.p (.int n)), r1, .own (.lst (L.map OP)), s3, s4, s5] st = forC ⟨callK TT gc (k + 2), gc, wdT TT⟩ (.one 3) toldB (S.map sgt) [.val (.p (.int n)), r1, .own (.lst ((L.set (ix n s.1) (some (fx s))).map OP)), .val (.p (sgt s)), .val (.p (.int (ix n s.1))), .val (.p (FP (fx s)))] st := by
          refine forC_cons rfl ?_
          dsimp? [toldB, d10, sgt, lp, hb', ft, g, in_nf, hq, put_eq, ixn, kPut, List.map_set]
          rfl
        rw [stp]
        exact ih
      · have hq : (o == none || o == some (fx s)) = false := by
          rw [Bool.or_eq_false_iff, beq_eq_false_iff_ne, beq_eq_false_iff_ne]
          exact ⟨fun z => hc (.inl z), fun z => hc (.inr z)⟩
        have et : tl n (s :: S) L = none := by
          rw [tl, if_neg]
          rintro ⟨_, z | z⟩
          · rw [ho] at z
            exact hc (.inl (Option.some.inj z))
          · rw [ho] at z
            exact hc (.inr (Option.some.inj z))
        rw [et]
        refine ⟨(fun M h => nomatch h), fun _ => forC_exc rfl ?_⟩
        dsimp? [toldB, d10, sgt, lp, hb', ft, g, in_nf, hq]
    · have hb' : ((2 ^ n : Nat) : Int) - 1 < (s.1 : Int) := by omega
      have et : tl n (s :: S) L = none := by
        rw [tl, if_neg]
        rintro ⟨z, _⟩
        exact hb z
      rw [et]
      refine ⟨(fun M h => nomatch h), fun _ => forC_exc rfl ?_⟩
      dsimp? [toldB, d10, sgt, lp, hb']
theorem rep_one {α : Type} (x : α) (n : Nat) : rep (n : Int) [x] = List.replicate n x := by
  rw [rep_nat]
  simp
theorem OP_L0 (n : Nat) : List.replicate n P.non = (L0 n).map OP := by
  unfold L0
  rw [List.map_replicate]
  rfl
/-- what it gives -/
noncomputable def toldR (n : Nat) (S : List (Nat × Bool)) (st : Store) : R D := match tl n S (L0 n) with
  | some M => .ok (.p (TO M)) st
  | none => .exc 1010 none st
theorem told_by {n : Nat} {S : List (Nat × Bool)} (hn : n ≤ 1000) (hp : ∀ s ∈ S, 0 < s.1) : callK TT gc (k + 3) 10 [.p (.int n), .p (RS S)] st = toldR n S st := by
  have rs : RS S = .tup (S.map sgt) := rfl
  have c1 : ((n : Int) ≤ 1000) := by omega
  have c2 : ((-1000 : Int) ≤ (n : Int)) := by omega
  have tl2 := told_loop (k := k) (st := st) hn (r0 := .val (.p (.int n))) (r1 := .val (.p (.tup (S.map sgt)))) rfl S (L0 n) .un .un .un hp (L0_len n)
  simp only [toldB, d10] at tl2
  rw [callK_eq T10 rfl, rs]
  dsimp? [d10, c1, c2, rep_one, OP_L0]
  unfold toldR
  cases q : tl n S (L0 n) with
  | none =>
    rw [tl2.2 q]
    dsimp? [List.take_length]
  | some M =>
    obtain ⟨t3, t4, t5, e⟩ := tl2.1 M q
    rw [e]
    dsimp? [List.take_length]
    rfl
theorem need_RS {S : List (Nat × Bool)} (h : SOk S) : callK TT gc (k + 3) 8 [.p (RS S)] st = .ok (.p .non) st := by
  have e := need_sights (k := k) (st := st) (x := RS S) (ok_RS 58 S) (by show (S.map _).length ≤ 1000; rw [List.length_map]; have := h.len; omega)
  rw [isSs_RS h, if_pos rfl] at e
  exact e
theorem told {n : Nat} {S : List (Nat × Bool)} (hn : n ≤ 100) (h : SOk S) : callK TT gc (k + 4) 11 [.p (.int n), .p (RS S)] st = toldR n S st := by
  have e1 := need_many_ok (k := k + 1) (st := st) hn
  have e2 := need_RS (k := k) (st := st) h
  have e3 := told_by (k := k) (st := st) (S := S) (n := n) (by omega) h.pos
  rw [callK_eq T11 rfl]
  dsimp? [d11, e1, e2, e3]
  unfold toldR
  cases tl n S (L0 n) with
  | none => dsimp? [List.take_length]
  | some M => dsimp? [List.take_length]
end

end LAW
end

section
set_option Elab.async false
set_option linter.all false
set_option maxRecDepth 100000
set_option maxHeartbeats 0
set_option autoImplicit false
namespace LAW
open PySem L2 DE
local macro_rules
  | `(tactic| dsimp? [$xs,*] $[$loc:location]?) => `(tactic| simp only [$xs,*, EVC, EVD, EVS, pow18, pow28, pow30, setS, setO, startE, List.map_cons, List.map_nil, List.getElem?_cons_zero, List.getElem?_cons_succ, List.set_cons_zero, List.set_cons_succ, List.replicate_succ, List.replicate_zero, List.cons_append, List.nil_append, List.append_nil, if_true, if_false, Bool.true_and, Bool.and_true, List.length_cons, List.length_nil, Int.cast_ofNat_Int, BEq.rfl, eq_self, Option.map_some, Bool.not_true, Bool.not_false, decide_true, decide_false, Int.reduceLT, Int.reduceLE, Int.reduceNeg, Nat.reduceAdd, Nat.reduceLeDiff, Int.reduceAdd, Int.reduceSub, Int.reduceMul, Int.reduceEq, Nat.reduceSub, Nat.sub_self, Int.reduceBEq, Int.reduceBNe, Nat.reduceEqDiff, Int.reduceMod, Int.reduceDiv, GC0, GC1, GC2, GC3, GC4, GC5, GC6] $[$loc]?)
  | `(tactic| dsimp? $[$loc:location]?) => `(tactic| simp only [EVC, EVD, EVS, pow18, pow28, pow30, setS, setO, startE, List.map_cons, List.map_nil, List.getElem?_cons_zero, List.getElem?_cons_succ, List.set_cons_zero, List.set_cons_succ, List.replicate_succ, List.replicate_zero, List.cons_append, List.nil_append, List.append_nil, if_true, if_false, Bool.true_and, Bool.and_true, List.length_cons, List.length_nil, Int.cast_ofNat_Int, BEq.rfl, eq_self, Option.map_some, Bool.not_true, Bool.not_false, decide_true, decide_false, Int.reduceLT, Int.reduceLE, Int.reduceNeg, Nat.reduceAdd, Nat.reduceLeDiff, Int.reduceAdd, Int.reduceSub, Int.reduceMul, Int.reduceEq, Nat.reduceSub, Nat.sub_self, Int.reduceBEq, Int.reduceBNe, Nat.reduceEqDiff, Int.reduceMod, Int.reduceDiv, GC0, GC1, GC2, GC3, GC4, GC5, GC6] $[$loc]?)


/-- a loop that may end in between -/
theorem forC_find {c : Cf} {tg : Tg} {b : IB} {st : Store} (f : P → Option D) (I : DE.Env → Prop) : ∀ (xs : List P) (env : DE.Env), I env →
    (∀ x ∈ xs, ∀ env, I env → ∃ env1, asgT tg (.p x) env = some env1 ∧ match f x with
      | some d => execs c b env1 st = .ok (.rt d) st
      | none => ∃ env2, execs c b env1 st = .ok (.nx env2) st ∧ I env2) →
    (∀ d, xs.findSome? f = some d → forC c tg b xs env st = .ok (.rt d) st) ∧ (xs.findSome? f = none → ∃ env', forC c tg b xs env st = .ok (.nx env') st ∧ I env')
  | [], env, hi, _ => ⟨(fun d h => nomatch h), fun _ => ⟨env, forC_nil, hi⟩⟩
  | x :: xs, env, hi, h => by
    obtain ⟨env1, h1, h2⟩ := h x List.mem_cons_self env hi
    rw [List.findSome?_cons]
    cases q : f x with
    | some d =>
      rw [q] at h2
      refine ⟨fun d' e => ?_, (fun e => nomatch e)⟩
      cases e
      exact forC_stop h1 h2
    | none =>
      rw [q] at h2
      obtain ⟨env2, h3, h4⟩ := h2
      rw [forC_cons h1 h3]
      exact forC_find f I xs env2 h4 fun y hy => h y (List.mem_cons_of_mem _ hy)
theorem rngP_nat (a b : Nat) : rngP (a : Int) (b : Int) = (List.range' a (b - a)).map fun i => P.int (i : Nat) := by
  unfold rngP
  rw [show ((b : Int) - (a : Int)).toNat = b - a from by omega, List.range'_eq_map_range, List.map_map]
  refine List.map_congr_left fun i _ => ?_
  simp only [Function.comp]
  congr 1
def pI (x : P) : Nat := match x with
  | .int i => i.toNat
  | _ => 0
theorem pI_int (i : Nat) : pI (.int (i : Nat)) = i := Int.toNat_natCast i
theorem find_map {α β : Type} (p : α → Bool) (g : α → β) : ∀ l : List α, (l.find? p).map g = l.findSome? fun x => if p x = true then some (g x) else none
  | [] => rfl
  | x :: l => by
    rw [List.find?_cons, List.findSome?_cons, ← find_map p g l]
    cases p x <;> rfl
def prD (p : Nat × Nat) : D := .p (.tup [.int p.1, .int p.2])
/-- two loops, each behind the other: the first pair -/
theorem forC_pair {c : Cf} {b : IB} {st : Store} {m i0 j0 : Nat} (q : Nat → Nat → Bool) (I : DE.Env → Prop) {bo : IB} {env : DE.Env} (h0 : I env)
    (hin : ∀ i, i < m → ∀ env, I env → ∃ env1, asgT (.one i0) (.p (.int (i : Nat))) env = some env1 ∧ I env1 ∧ ∃ J : DE.Env → Prop, J env1 ∧ (∀ e, J e → I e) ∧
      (∀ env2 r, (forC c (.one j0) b (rngP ((i : Int) + 1) (m : Int)) env1 st = .ok (.rt r) st → execs c bo env1 st = .ok (.rt r) st) ∧ (forC c (.one j0) b (rngP ((i : Int) + 1) (m : Int)) env1 st = .ok (.nx env2) st → execs c bo env1 st = .ok (.nx env2) st)) ∧
      ∀ j, i < j → j < m → ∀ e, J e → ∃ e1, asgT (.one j0) (.p (.int (j : Nat))) e = some e1 ∧ if q i j then execs c b e1 st = .ok (.rt (prD (i, j))) st else ∃ e2, execs c b e1 st = .ok (.nx e2) st ∧ J e2) :
    (∀ p, M5.fp m q = some p → forC c (.one i0) bo (rngP 0 (m : Int)) env st = .ok (.rt (prD p)) st) ∧ (M5.fp m q = none → ∃ env', forC c (.one i0) bo (rngP 0 (m : Int)) env st = .ok (.nx env') st ∧ I env') := by
  have row : ∀ i : Nat, ((List.range' (i + 1) (m - (i + 1))).find? (q i)).map (fun j => prD (i, j)) = (rngP ((i : Int) + 1) (m : Int)).findSome? fun x => if q i (pI x) = true then some (prD (i, pI x)) else none := fun i => by
    rw [show ((i : Int) + 1) = ((i + 1 : Nat) : Int) from by omega, rngP_nat, List.findSome?_map, find_map]
    congr 1
  have e1 : (M5.fp m q).map prD = (rngP 0 (m : Int)).findSome? fun x => (rngP (((pI x : Nat) : Int) + 1) (m : Int)).findSome? fun y => if q (pI x) (pI y) = true then some (prD (pI x, pI y)) else none := by
    rw [show (0 : Int) = ((0 : Nat) : Int) from rfl, rngP_nat, List.findSome?_map]
    unfold M5.fp
    rw [Nat.sub_zero, List.range_eq_range', List.map_findSome?]
    congr 1
    funext i
    simp only [Function.comp, pI_int]
    rw [Option.map_map]
    exact row i
  have key := forC_find (c := c) (tg := .one i0) (b := bo) (st := st) (fun x => (rngP (((pI x : Nat) : Int) + 1) (m : Int)).findSome? fun y => if q (pI x) (pI y) = true then some (prD (pI x, pI y)) else none) I (rngP 0 (m : Int)) env h0 (fun x hx env he => by
    rw [show (0 : Int) = ((0 : Nat) : Int) from rfl, rngP_nat] at hx
    obtain ⟨i, hi, rfl⟩ := List.mem_map.mp hx
    have him : i < m := by
      have := (List.mem_range'_1.mp hi).2
      omega
    obtain ⟨env1, h1, hi1, J, j1, j2, h2, h3⟩ := hin i him env he
    refine ⟨env1, h1, ?_⟩
    simp only [pI_int]
    have inner := forC_find (c := c) (tg := .one j0) (b := b) (st := st) (fun y => if q i (pI y) = true then some (prD (i, pI y)) else none) J (rngP ((i : Int) + 1) (m : Int)) env1 j1 (fun y hy e he => by
      rw [show ((i : Int) + 1) = ((i + 1 : Nat) : Int) from by omega, rngP_nat] at hy
      obtain ⟨j, hj, rfl⟩ := List.mem_map.mp hy
      have hjm := List.mem_range'_1.mp hj
      obtain ⟨e1, g1, g2⟩ := h3 j (by omega) (by omega) e he
      refine ⟨e1, g1, ?_⟩
      simp only [pI_int]
      cases hq : q i j with
      | true =>
        rw [hq, if_pos rfl] at g2
        simpa using g2
      | false =>
        rw [hq, if_neg Bool.false_ne_true] at g2
        simpa using g2)
    cases hf : (rngP ((i : Int) + 1) (m : Int)).findSome? fun y => if q i (pI y) = true then some (prD (i, pI y)) else none with
    | some d => exact (h2 [] d).1 (inner.1 d hf)
    | none =>
      obtain ⟨env2, g1, g2⟩ := inner.2 hf
      exact ⟨env2, (h2 env2 (.p .non)).2 g1, j2 _ g2⟩)
  rw [← e1] at key
  refine ⟨fun p hp => key.1 (prD p) (by rw [hp]; rfl), fun hn => key.2 (by rw [hn]; rfl)⟩

end LAW
end

section
set_option Elab.async false
set_option linter.all false
set_option maxRecDepth 100000
set_option maxHeartbeats 0
set_option autoImplicit false
namespace LAW
open PySem L2 DE
local macro_rules
  | `(tactic| dsimp? [$xs,*] $[$loc:location]?) => `(tactic| simp only [$xs,*, EVC, EVD, EVS, pow18, pow28, pow30, setS, setO, startE, List.map_cons, List.map_nil, List.getElem?_cons_zero, List.getElem?_cons_succ, List.set_cons_zero, List.set_cons_succ, List.replicate_succ, List.replicate_zero, List.cons_append, List.nil_append, List.append_nil, if_true, if_false, Bool.true_and, Bool.and_true, List.length_cons, List.length_nil, Int.cast_ofNat_Int, BEq.rfl, eq_self, Option.map_some, Bool.not_true, Bool.not_false, decide_true, decide_false, Int.reduceLT, Int.reduceLE, Int.reduceNeg, Nat.reduceAdd, Nat.reduceLeDiff, Int.reduceAdd, Int.reduceSub, Int.reduceMul, Int.reduceEq, Nat.reduceSub, Nat.sub_self, Int.reduceBEq, Int.reduceBNe, Nat.reduceEqDiff, Int.reduceMod, Int.reduceDiv, GC0, GC1, GC2, GC3, GC4, GC5, GC6] $[$loc]?)
  | `(tactic| dsimp? $[$loc:location]?) => `(tactic| simp only [EVC, EVD, EVS, pow18, pow28, pow30, setS, setO, startE, List.map_cons, List.map_nil, List.getElem?_cons_zero, List.getElem?_cons_succ, List.set_cons_zero, List.set_cons_succ, List.replicate_succ, List.replicate_zero, List.cons_append, List.nil_append, List.append_nil, if_true, if_false, Bool.true_and, Bool.and_true, List.length_cons, List.length_nil, Int.cast_ofNat_Int, BEq.rfl, eq_self, Option.map_some, Bool.not_true, Bool.not_false, decide_true, decide_false, Int.reduceLT, Int.reduceLE, Int.reduceNeg, Nat.reduceAdd, Nat.reduceLeDiff, Int.reduceAdd, Int.reduceSub, Int.reduceMul, Int.reduceEq, Nat.reduceSub, Nat.sub_self, Int.reduceBEq, Int.reduceBNe, Nat.reduceEqDiff, Int.reduceMod, Int.reduceDiv, GC0, GC1, GC2, GC3, GC4, GC5, GC6] $[$loc]?)


theorem compGo_list {α : Type} {f : DE.Env → Store → R D} {t : DE.Env → Store → R Bool} {tg : Tg} {env : DE.Env} {st : Store} (h : α → P) (b : α → Bool) (g : α → P) : ∀ (S : List α) (acc : List P),
    (∀ s ∈ S, ∃ env1, asgT tg (.p (h s)) env = some env1 ∧ t env1 st = .ok (b s) st ∧ (b s = true → ∃ d, f env1 st = .ok d st ∧ d.keep = some (g s))) → acc.length + S.length ≤ sizeLine →
    compGo f t tg env (S.map h) acc st = .ok (acc ++ (S.filter b).map g) st
  | [], acc, _, _ => by simp [compGo]
  | s :: S, acc, hh, hl => by
    obtain ⟨env1, e1, e2, e3⟩ := hh s List.mem_cons_self
    have hr := fun z hz => hh z (List.mem_cons_of_mem _ hz)
    rw [List.length_cons] at hl
    rw [List.map_cons]
    unfold compGo
    rw [e1]
    simp only [e2, R.nx_ok, R.bind_ok]
    cases hb : b s with
    | false =>
      rw [if_neg Bool.false_ne_true, compGo_list h b g S acc hr (by omega), List.filter_cons_of_neg (by simp [hb])]
    | true =>
      obtain ⟨d, e4, e5⟩ := e3 hb
      rw [if_pos rfl]
      simp only [e4, R.nx_ok, R.bind_ok, e5]
      rw [if_pos (decide_eq_true (by omega)), compGo_list h b g S (acc ++ [g s]) hr (by rw [List.length_append, List.length_singleton]; omega), List.filter_cons_of_pos hb]
      simp
theorem compC_list {α : Type} {c : Cf} {elt : IE} {cond : IO} {tg : Tg} {env : DE.Env} {st : Store} {h : α → P} (b : α → Bool) (g : α → P) {S : List α}
    (hh : ∀ s ∈ S, ∃ env1, asgT tg (.p (h s)) env = some env1 ∧ evC c cond env1 st = .ok (b s) st ∧ (b s = true → ∃ d, DE.ev c elt env1 st = .ok d st ∧ d.keep = some (g s))) (hl : S.length ≤ 16000000) : compC c elt cond tg env (S.map h) st = .ok ((S.filter b).map g) st := by
  have := compGo_list (f := fun env st => DE.ev c elt env st) (t := fun env st => evC c cond env st) (tg := tg) (env := env) (st := st) h b g S [] hh (by rw [sizeLine_lit, List.length_nil]; omega)
  rwa [List.nil_append] at this
theorem compC_listM {α : Type} {c : Cf} {elt : IE} {tg : Tg} {env : DE.Env} {st : Store} {h : α → P} (g : α → P) {S : List α}
    (hh : ∀ s ∈ S, ∃ env1, asgT tg (.p (h s)) env = some env1 ∧ ∃ d, DE.ev c elt env1 st = .ok d st ∧ d.keep = some (g s)) (hl : S.length ≤ 16000000) : compC c elt .non tg env (S.map h) st = .ok (S.map g) st := by
  have := compC_list (c := c) (elt := elt) (cond := .non) (tg := tg) (env := env) (st := st) (h := h) (fun _ => true) g (S := S) (fun s hs => by
    obtain ⟨e1, h1, d, h2, h3⟩ := hh s hs
    exact ⟨e1, h1, by rw [evC], fun _ => ⟨d, h2, h3⟩⟩) hl
  rwa [List.filter_eq_self.mpr (fun _ _ => rfl)] at this
theorem allBl_list {α : Type} (f : α → Bool) (S : List α) : allBl (S.map fun s => .bl (f s)) = some (S.map f) := by
  induction S with
  | nil => rfl
  | cons x xs ih =>
    show (allBl (xs.map fun s => .bl (f s))).map (f x :: ·) = _
    rw [ih]
    rfl
section
open M5
variable {k : Nat} {st : Store}
def far (n : Nat) (s : Nat × Bool) : Bool := decide (2 ^ n ≤ s.1)
def dS : Nat × Bool := (1, true)
noncomputable def qS (n : Nat) (S : List (Nat × Bool)) (i j : Nat) : Bool := pq n (S.getD i dS) (S.getD j dS)
noncomputable def clashR (n : Nat) (S : List (Nat × Bool)) (st : Store) : R D := if S.any (far n) = true then .exc 1003 none st else match fp S.length (qS n S) with
  | some p => .ok (prD p) st
  | none => .ok (.p .non) st
theorem clash {n : Nat} {S : List (Nat × Bool)} (hn : n ≤ 100) (h : SOk S) : callK TT gc (k + 4) 12 [.p (.int n), .p (RS S)] st = clashR n S st := by
  have e1 := need_many_ok (k := k + 1) (st := st) hn
  have e2 := need_RS (k := k) (st := st) h
  have lp := last_place (k := k + 1) (st := st) (n := n) (by omega)
  have rs : RS S = .tup (S.map sgt) := rfl
  have hl8 := h.len
  rw [callK_eq T12 rfl]
  rw [rs] at e2 ⊢
  dsimp? [d12, e1, e2]
  rw [compC_listM (fun s => .bl (far n s))]
  rotate_left
  · intro s hs
    refine ⟨_, rfl, .p (.bl (far n s)), ?_, rfl⟩
    have c : decide (((2 ^ n : Nat) : Int) - 1 < (s.1 : Int)) = far n s := by
      unfold far
      rw [decide_eq_decide]
      omega
    dsimp? [lp, c]
  · omega
  have ha : (S.map (far n)).any id = S.any (far n) := by rw [List.any_map]; rfl
  unfold clashR
  cases hf : S.any (far n) with
  | true =>
    rw [hf] at ha
    dsimp? [allBl_list, ha, List.take_length]
  | false =>
    rw [hf] at ha
    have hlt : ∀ s ∈ S, s.1 < 2 ^ n := fun s hs => by
      have := List.any_eq_false.mp hf s hs
      simp only [far, decide_eq_true_eq] at this
      omega
    dsimp? [allBl_list, ha]
    rw [compC_listM (fun s => .tup [.int (ix n s.1), FP (fx s)])]
    rotate_left
    · intro s hs
      refine ⟨_, rfl, .p (.tup [.int (ix n s.1), FP (fx s)]), ?_, rfl⟩
      have ft := fold_told (k := k + 1) (st := st) (h.pos s hs) (hlt s hs) (by omega)
      dsimp? [ft]
    · omega
    dsimp? [List.length_map, rngOk_any]
    have key := forC_pair (c := ⟨callK TT gc (k + 3), gc, wdT TT⟩) (st := st) (m := S.length) (i0 := 3) (j0 := 4) (qS n S)
      (fun e => ∃ s3 s4 s5 s6 s7, e = [.val (.p (.int n)), .val (.p (.tup (S.map sgt))), .val (.p (.lst (S.map fun s => .tup [.int (ix n s.1), FP (fx s)]))), s3, s4, s5, s6, s7])
      (b := match d12.body with
        | .cons _ (.cons _ (.cons _ (.cons _ (.cons (.for_ _ _ (.cons (.for_ _ _ b) _)) _)))) => b
        | _ => .nil)
      (bo := match d12.body with
        | .cons _ (.cons _ (.cons _ (.cons _ (.cons (.for_ _ _ b) _)))) => b
        | _ => .nil)
      (env := [.val (.p (.int n)), .val (.p (.tup (S.map sgt))), .val (.p (.lst (S.map fun s => .tup [.int (ix n s.1), FP (fx s)]))), .un, .un, .un, .un, .un]) ⟨_, _, _, _, _, rfl⟩ (by
        rintro i hi env ⟨s3, s4, s5, s6, s7, rfl⟩
        refine ⟨_, rfl, ⟨_, _, _, _, _, rfl⟩, fun e => ∃ s4 s5 s6 s7, e = [.val (.p (.int n)), .val (.p (.tup (S.map sgt))), .val (.p (.lst (S.map fun s => .tup [.int (ix n s.1), FP (fx s)]))), .val (.p (.int i)), s4, s5, s6, s7], ⟨_, _, _, _, rfl⟩, (fun e ⟨s4, s5, s6, s7, q⟩ => ⟨_, _, _, _, _, q⟩), ?_, ?_⟩
        · intro env2 r
          dsimp? [d12, List.length_map, rngOk_any]
          constructor
          · intro q
            rw [q]
            rfl
          · intro q
            rw [q]
            rfl
        · rintro j hij hj e ⟨s4, s5, s6, s7, rfl⟩
          refine ⟨_, rfl, ?_⟩
          have gi : S.getD i dS = S[i] := by rw [List.getD_eq_getElem?_getD, List.getElem?_eq_getElem hi]; rfl
          have gj : S.getD j dS = S[j] := by rw [List.getD_eq_getElem?_getD, List.getElem?_eq_getElem hj]; rfl
          have ai : atI (S.map fun s => P.tup [.int (ix n s.1), FP (fx s)]) (i : Int) = some (.tup [.int (ix n S[i].1), FP (fx S[i])]) := by
            rw [atI_natQ (by rw [List.length_map]; exact hi), List.getElem?_map, List.getElem?_eq_getElem hi]
            rfl
          have aj : atI (S.map fun s => P.tup [.int (ix n s.1), FP (fx s)]) (j : Int) = some (.tup [.int (ix n S[j].1), FP (fx S[j])]) := by
            rw [atI_natQ (by rw [List.length_map]; exact hj), List.getElem?_map, List.getElem?_eq_getElem hj]
            rfl
          unfold qS pq
          rw [gi, gj]
          by_cases c1 : ix n S[i].1 = ix n S[j].1
          · cases c2 : (fx S[i] == fx S[j]) with
            | true =>
              have c3 : (fx S[i] != fx S[j]) = false := by unfold bne; rw [c2]; rfl
              dsimp? [d12, ai, aj, c1, eq_FP, c2, c3]
              exact ⟨_, rfl, _, _, _, _, rfl⟩
            | false =>
              have c3 : (fx S[i] != fx S[j]) = true := by unfold bne; rw [c2]; rfl
              dsimp? [d12, ai, aj, c1, eq_FP, c2, c3]
              rfl
          · have cI : (((ix n S[i].1 : Nat) : Int) == ((ix n S[j].1 : Nat) : Int)) = false := by rw [beq_eq_false_iff_ne]; omega
            dsimp? [d12, ai, aj, cI, c1, Bool.false_and]
            exact ⟨_, rfl, _, _, _, _, rfl⟩)
    simp only [d12] at key
    cases q : fp S.length (qS n S) with
    | some p =>
      rw [key.1 p q]
      dsimp? [prD, List.take_length]
      rfl
    | none =>
      obtain ⟨env', e, s3, s4, s5, s6, s7, rfl⟩ := key.2 q
      rw [e]
      dsimp? [List.take_length]
      rfl
end

end LAW
end

section
set_option Elab.async false
set_option linter.all false
set_option maxRecDepth 100000
set_option maxHeartbeats 0
set_option autoImplicit false
namespace LAW
open PySem L2 DE
local macro_rules
  | `(tactic| dsimp? [$xs,*] $[$loc:location]?) => `(tactic| simp only [$xs,*, EVC, EVD, EVS, pow18, pow28, pow30, setS, setO, startE, List.map_cons, List.map_nil, List.getElem?_cons_zero, List.getElem?_cons_succ, List.set_cons_zero, List.set_cons_succ, List.replicate_succ, List.replicate_zero, List.cons_append, List.nil_append, List.append_nil, if_true, if_false, Bool.true_and, Bool.and_true, List.length_cons, List.length_nil, Int.cast_ofNat_Int, BEq.rfl, eq_self, Option.map_some, Bool.not_true, Bool.not_false, decide_true, decide_false, Int.reduceLT, Int.reduceLE, Int.reduceNeg, Nat.reduceAdd, Nat.reduceLeDiff, Int.reduceAdd, Int.reduceSub, Int.reduceMul, Int.reduceEq, Nat.reduceSub, Nat.sub_self, Int.reduceBEq, Int.reduceBNe, Nat.reduceEqDiff, Int.reduceMod, Int.reduceDiv, GC0, GC1, GC2, GC3, GC4, GC5, GC6] $[$loc]?)
  | `(tactic| dsimp? $[$loc:location]?) => `(tactic| simp only [EVC, EVD, EVS, pow18, pow28, pow30, setS, setO, startE, List.map_cons, List.map_nil, List.getElem?_cons_zero, List.getElem?_cons_succ, List.set_cons_zero, List.set_cons_succ, List.replicate_succ, List.replicate_zero, List.cons_append, List.nil_append, List.append_nil, if_true, if_false, Bool.true_and, Bool.and_true, List.length_cons, List.length_nil, Int.cast_ofNat_Int, BEq.rfl, eq_self, Option.map_some, Bool.not_true, Bool.not_false, decide_true, decide_false, Int.reduceLT, Int.reduceLE, Int.reduceNeg, Nat.reduceAdd, Nat.reduceLeDiff, Int.reduceAdd, Int.reduceSub, Int.reduceMul, Int.reduceEq, Nat.reduceSub, Nat.sub_self, Int.reduceBEq, Int.reduceBNe, Nat.reduceEqDiff, Int.reduceMod, Int.reduceDiv, GC0, GC1, GC2, GC3, GC4, GC5, GC6] $[$loc]?)


section
open M5
variable {k : Nat} {st : Store}
theorem need_place {n p : Nat} (hn : n ≤ 1000) (h0 : 0 < p) (h : p < 2 ^ n) : callK TT gc (k + 3) 6 [.p (.int n), .p (.int p)] st = .ok (.p .non) st := by
  have lp := last_place (k := k) (st := st) (n := n) hn
  have ii := is_integer (k := k + 1) (st := st) (x := .int p) (lo := 1) (hi := ((2 ^ n : Nat) : Int) - 1) (by simp [P.okD])
  have c : isInt 1 (((2 ^ n : Nat) : Int) - 1) (.int p) = true := by
    unfold isInt
    rw [Bool.and_eq_true, decide_eq_true_eq, decide_eq_true_eq]
    omega
  rw [c] at ii
  rw [callK_eq T6 rfl]
  dsimp? [d6, lp, ii, List.take_length]
/-- the crease at a place of what is told -/
noncomputable def sureV (n : Nat) (M : List (Option Bool)) (p : Nat) : P := match M[ix n p]? with
  | some (some f) => CP (f == decide ((hvE p).2 % 4 = 1))
  | _ => .non
theorem crease_TO {n p : Nat} {M : List (Option Bool)} {f : Bool} (hM : M.length = n) (hn : n ≤ 1000) (h0 : 0 < p) (h : p < 2 ^ n) (hf : M[ix n p]? = some (some f)) : callK TT gc (k + 2) 5 [.p (TO M), .p (.int p)] st = .ok (.p (CP (f == decide ((hvE p).2 % 4 = 1)))) st := by
  have e1 := halvedE (k := k) (st := st) h0 h (by omega)
  have he := MM.hv_lt (hvE_ok h0) h
  have ei : (M.length : Int) - 1 - ((hvE p).1 : Int) = (ix n p : Int) := by unfold ix; omega
  have hi := ix_lt h0 h
  have g : atI (M.map OP) (ix n p : Int) = some (FP f) := by
    rw [atI_natQ (by rw [List.length_map]; omega), List.getElem?_map, hf]
    rfl
  have ov : opEq (FP f) (.str "over") = some f := by
    have := eq_FP f true
    rw [show FP true = .str "over" from rfl] at this
    rw [this]
    cases f <;> rfl
  rw [callK_eq T5 rfl]
  dsimp? [d5, TO, e1, List.length_map, ei, g, ov, cr4]
  cases (f == decide ((hvE p).2 % 4 = 1)) with
  | true => dsimp? [List.take_length]; rfl
  | false => dsimp? [List.take_length]; rfl
noncomputable def sureR (n : Nat) (S : List (Nat × Bool)) (p : Nat) (st : Store) : R D := match tl n S (L0 n) with
  | some M => .ok (.p (sureV n M p)) st
  | none => .exc 1010 none st
theorem sure {n p : Nat} {S : List (Nat × Bool)} (hn : n ≤ 100) (h : SOk S) (h0 : 0 < p) (hp : p < 2 ^ n) : callK TT gc (k + 4) 13 [.p (.int n), .p (RS S), .p (.int p)] st = sureR n S p st := by
  have e1 := need_many_ok (k := k + 1) (st := st) hn
  have e2 := need_RS (k := k) (st := st) h
  have e3 := told_by (k := k) (st := st) (S := S) (n := n) (by omega) h.pos
  have e4 := need_place (k := k) (st := st) (n := n) (p := p) (by omega) h0 hp
  have e5 := halvedE (k := k + 2) (st := st) h0 hp (by omega)
  have he := MM.hv_lt (hvE_ok h0) hp
  have hi := ix_lt h0 hp
  have ei : (n : Int) - 1 - ((hvE p).1 : Int) = (ix n p : Int) := by unfold ix; omega
  rw [callK_eq T13 rfl]
  unfold sureR
  unfold toldR at e3
  cases q : tl n S (L0 n) with
  | none =>
    rw [q] at e3
    dsimp? [d13, e1, e2, e3, e4, List.take_length]
  | some M =>
    rw [q] at e3
    have hM := (tl_some (L0_len n) h.pos q).1
    obtain ⟨o, ho⟩ : ∃ o, M[ix n p]? = some o := ⟨_, List.getElem?_eq_getElem (by omega)⟩
    have g : opIdx (TO M) (.int (ix n p : Nat)) = some (OP o) := by
      show atI (M.map OP) (ix n p : Int) = _
      rw [atI_natQ (by rw [List.length_map]; omega), List.getElem?_map, ho]
      rfl
    have e3 : callK TT gc (k + 3) 10 [.p (.int n), .p (RS S)] st = .ok (.p (TO M)) st := e3
    show _ = (R.ok (D.p (sureV n M p)) st : R D)
    unfold sureV
    rw [ho]
    cases o with
    | none =>
      have nn : P.isNon (OP none) = true := rfl
      dsimp? [d13, e1, e2, e3, e4, e5, ei, g, nn, List.take_length]
    | some f =>
      have nn : P.isNon (OP (some f)) = false := by cases f <;> rfl
      have cb := crease_TO (k := k + 1) (st := st) hM (by omega) h0 hp ho
      dsimp? [d13, e1, e2, e3, e4, e5, ei, g, nn, cb, List.take_length]
end

end LAW
end

section
set_option Elab.async false
set_option linter.all false
set_option maxRecDepth 100000
set_option maxHeartbeats 0
set_option autoImplicit false
namespace LAW
open PySem L2 DE
local macro_rules
  | `(tactic| dsimp? [$xs,*] $[$loc:location]?) => `(tactic| simp only [$xs,*, EVC, EVD, EVS, pow18, pow28, pow30, setS, setO, startE, List.map_cons, List.map_nil, List.getElem?_cons_zero, List.getElem?_cons_succ, List.set_cons_zero, List.set_cons_succ, List.replicate_succ, List.replicate_zero, List.cons_append, List.nil_append, List.append_nil, if_true, if_false, Bool.true_and, Bool.and_true, List.length_cons, List.length_nil, Int.cast_ofNat_Int, BEq.rfl, eq_self, Option.map_some, Bool.not_true, Bool.not_false, decide_true, decide_false, Int.reduceLT, Int.reduceLE, Int.reduceNeg, Nat.reduceAdd, Nat.reduceLeDiff, Int.reduceAdd, Int.reduceSub, Int.reduceMul, Int.reduceEq, Nat.reduceSub, Nat.sub_self, Int.reduceBEq, Int.reduceBNe, Nat.reduceEqDiff, Int.reduceMod, Int.reduceDiv, GC0, GC1, GC2, GC3, GC4, GC5, GC6] $[$loc]?)
  | `(tactic| dsimp? $[$loc:location]?) => `(tactic| simp only [EVC, EVD, EVS, pow18, pow28, pow30, setS, setO, startE, List.map_cons, List.map_nil, List.getElem?_cons_zero, List.getElem?_cons_succ, List.set_cons_zero, List.set_cons_succ, List.replicate_succ, List.replicate_zero, List.cons_append, List.nil_append, List.append_nil, if_true, if_false, Bool.true_and, Bool.and_true, List.length_cons, List.length_nil, Int.cast_ofNat_Int, BEq.rfl, eq_self, Option.map_some, Bool.not_true, Bool.not_false, decide_true, decide_false, Int.reduceLT, Int.reduceLE, Int.reduceNeg, Nat.reduceAdd, Nat.reduceLeDiff, Int.reduceAdd, Int.reduceSub, Int.reduceMul, Int.reduceEq, Nat.reduceSub, Nat.sub_self, Int.reduceBEq, Int.reduceBNe, Nat.reduceEqDiff, Int.reduceMod, Int.reduceDiv, GC0, GC1, GC2, GC3, GC4, GC5, GC6] $[$loc]?)


theorem sT_CP (b : Bool) : P.str (MS.sT [b]) = CP b := by
  cases b
  · show P.str (MS.sT [false]) = .str (Str.ofString "m")
    rw [MS.sT_m]
  · show P.str (MS.sT [true]) = .str (Str.ofString "v")
    rw [MS.sT_v]
theorem okD_le {m n : Nat} {x : P} (h : m ≤ n) (h2 : P.okD m x = true) : P.okD n x = true := P.okD_mono h h2
mutual
theorem eqv_rfl : ∀ {n : Nat} {x : P}, P.okD n x = true → P.eqv x x = true
  | _, .non, _ => by simp [P.eqv]
  | _, .bl b, _ => by simp [P.eqv]
  | _, .int b, _ => by simp [P.eqv]
  | _, .str x, _ => by simp [P.eqv]
  | n + 1, .lst xs, h => by
    unfold P.okD at h
    rw [P.eqv]
    exact eqvs_rfl h
  | n + 1, .tup xs, h => by
    unfold P.okD at h
    rw [P.eqv]
    exact eqvs_rfl h
  | 0, .lst xs, h => by simp [P.okD] at h
  | 0, .tup xs, h => by simp [P.okD] at h
  | _, .fn _, h => by simp [P.okD] at h
  | _, .scr _, h => by simp [P.okD] at h
theorem eqvs_rfl : ∀ {n : Nat} {xs : List P}, P.okDs n xs = true → P.eqvs xs xs = true
  | _, [], _ => by simp [P.eqvs]
  | n, x :: xs, h => by
    unfold P.okDs at h
    rw [Bool.and_eq_true] at h
    rw [P.eqvs, eqv_rfl h.1, eqvs_rfl h.2]
    rfl
end
theorem opEq_rfl {x : P} (h : P.okD 64 x = true) : opEq x x = some true := by rw [opEq_ok h h, eqv_rfl h]
def allB : Nat → List (List Bool)
  | 0 => [[]]
  | n + 1 => (allB n).flatMap fun p => [p ++ [true], p ++ [false]]
theorem mem_allB : ∀ {n : Nat} {fs : List Bool}, fs ∈ allB n ↔ fs.length = n
  | 0, fs => by
    rw [allB, List.mem_singleton]
    exact ⟨fun h => by rw [h]; rfl, fun h => List.length_eq_zero_iff.mp h⟩
  | n + 1, fs => by
    rw [allB, List.mem_flatMap]
    constructor
    · rintro ⟨p, hp, h⟩
      have := mem_allB.mp hp
      simp only [List.mem_cons, List.not_mem_nil, or_false] at h
      rcases h with rfl | rfl <;> simp [this]
    · intro h
      have hne : fs ≠ [] := fun z => by rw [z] at h; simp at h
      refine ⟨fs.dropLast, mem_allB.mpr (by rw [List.length_dropLast]; omega), ?_⟩
      have e := List.dropLast_concat_getLast hne
      cases q : fs.getLast hne with
      | true => rw [q] at e; simp [e]
      | false => rw [q] at e; simp [e]
theorem allB_len {n : Nat} (h : n ≤ 4) : (allB n).length ≤ 16 := by
  match n, h with
  | 0, _ => decide
  | 1, _ => decide
  | 2, _ => decide
  | 3, _ => decide
  | 4, _ => decide
/-- a couple of folds and their strip -/
def evP (fs : List Bool) : P := .tup [TF fs, .str (MS.sT (MM.strip fs))]
section
open M5
variable {k : Nat} {st : Store}
theorem law_all {n : Nat} (h1 : 1 ≤ n) (h : n ≤ 4) : callK TT gc (k + 1) 32 [.p (.int n)] st = .ok (.p (.lst ((allB n).map TF))) st := by
  have e : DE.execs ⟨callK TT gc k, gc, wdT TT⟩ d32.body (startE d32 [.p (.int n)]) st = .ok (.rt (.p (.lst ((allB n).map TF)))) st := by
    match n, h1, h with
    | 1, _, _ => kernel_rfl
    | 2, _, _ => kernel_rfl
    | 3, _, _ => kernel_rfl
    | 4, _, _ => kernel_rfl
  rw [callK_eq T32 rfl, e]
  dsimp? [List.take_length]
theorem mkCP (b : Bool) : mkD (some (CP b)) st = .ok (.p (CP b)) st := by cases b <;> rfl
theorem cut1 {fs : List Bool} {p : Nat} (h0 : 0 < p) (hp : p < 2 ^ fs.length) : cutS (MS.sT (MM.strip fs)) (some ((p : Int) - 1)) (some (p : Int)) = MS.sT [MM.cr fs p] := by
  rw [MS.cut_sT]
  congr 1
  obtain ⟨q, rfl⟩ : ∃ q, p = q + 1 := ⟨p - 1, by omega⟩
  rw [show ((q + 1 : Nat) : Int) - 1 = (q : Int) from by omega]
  have hl := MM.strip_len fs
  unfold cutP
  rw [HT.sIx_nat, HT.sIx_nat, Nat.min_eq_left (by omega), Nat.min_eq_left (by omega), show q + 1 - q = 1 from by omega]
  have g := MM.strip_get (fs := fs) (i := q) hp
  have lt : q < (MM.strip fs).length := by omega
  rw [List.drop_eq_getElem_cons lt, List.take_succ_cons, List.take_zero]
  rw [List.getElem?_eq_getElem lt] at g
  rw [Option.some.inj g]
def goesB : IB := match d33.body with
  | .cons (.for_ _ _ b) _ => b
  | _ => .nil
theorem goes_loop {fs : List Bool} (hl : fs.length ≤ 14) {r1 : Sl} : ∀ (S : List (Nat × Bool)) (s2 s3 : Sl), (∀ s ∈ S, 0 < s.1) →
    (M5.gs fs S = true → ∃ t2 t3, forC ⟨callK TT gc k, gc, wdT TT⟩ (.two (.one 2) (.one 3)) goesB (S.map sgt) [.val (.p (.str (MS.sT (MM.strip fs)))), r1, s2, s3] st = .ok (.nx [.val (.p (.str (MS.sT (MM.strip fs)))), r1, t2, t3]) st) ∧
    (M5.gs fs S = false → forC ⟨callK TT gc k, gc, wdT TT⟩ (.two (.one 2) (.one 3)) goesB (S.map sgt) [.val (.p (.str (MS.sT (MM.strip fs)))), r1, s2, s3] st = .ok (.rt (.p (.bl false))) st)
  | [], s2, s3, _ => ⟨fun _ => ⟨s2, s3, forC_nil⟩, (fun h => nomatch h)⟩
  | s :: S, s2, s3, hp => by
    have h0 := hp s List.mem_cons_self
    have lt : (MM.strip fs).length < 2 ^ 14 := strip_len7 hl
    have ln : (MM.strip fs).length = 2 ^ fs.length - 1 := MM.strip_len fs
    have tp := MM.two_pos fs.length
    have sl : small (MS.sT (MM.strip fs)).length = true := small_lit (by rw [MS.sT_len]; omega)
    have ll : lenS (MS.sT (MM.strip fs)) = some (MM.strip fs).length := by rw [← MS.sT_len]; exact if_pos sl
    have e1 : M5.gs fs (s :: S) = (M5.gd1 fs s && M5.gs fs S) := by unfold M5.gs; rw [List.all_cons]
    rw [e1]
    by_cases hb : s.1 < 2 ^ fs.length
    · have hb' : ¬ (((MM.strip fs).length : Nat) : Int) < (s.1 : Int) := by omega
      have c1 := cut1 h0 hb
      have g1 : M5.gd1 fs s = (MM.cr fs s.1 == s.2) := by unfold M5.gd1; rw [decide_eq_true hb, Bool.true_and]
      rw [g1]
      cases q : (MM.cr fs s.1 == s.2) with
      | true =>
        have ih := goes_loop hl (r1 := r1) S (.val (.p (.int s.1))) (.val (.p (CP s.2))) (fun z hz => hp z (List.mem_cons_of_mem _ hz))
        have stp : forC ⟨callK TT gc k, gc, wdT TT⟩ (.two (.one 2) (.one 3)) goesB ((s :: S).map sgt) [.val (.p (.str (MS.sT (MM.strip fs)))), r1, s2, s3] st = forC ⟨callK TT gc k, gc, wdT TT⟩ (.two (.one 2) (.one 3)) goesB (S.map sgt) [.val (.p (.str (MS.sT (MM.strip fs)))), r1, .val (.p (.int s.1)), .val (.p (CP s.2))] st := by
          refine forC_cons rfl ?_
          dsimp? [goesB, d33, ll, hb', sl, c1, sT_CP, mkCP, eq_CP, q]
        rw [stp, Bool.true_and]
        exact ih
      | false =>
        refine ⟨(fun h => nomatch h), fun _ => forC_stop rfl ?_⟩
        dsimp? [goesB, d33, ll, hb', sl, c1, sT_CP, mkCP, eq_CP, q]
    · have hb' : (((MM.strip fs).length : Nat) : Int) < (s.1 : Int) := by omega
      have g1 : M5.gd1 fs s = false := by unfold M5.gd1; rw [decide_eq_false hb, Bool.false_and]
      rw [g1, Bool.false_and]
      refine ⟨(fun h => nomatch h), fun _ => forC_stop rfl ?_⟩
      dsimp? [goesB, d33, ll, hb']
theorem law_goesL {fs : List Bool} {S : List (Nat × Bool)} {x : P} (hx : itSeq x = some (S.map sgt)) (hp : ∀ s ∈ S, 0 < s.1) (hl : fs.length ≤ 14) : callK TT gc (k + 1) 33 [.p (.str (MS.sT (MM.strip fs))), .p x] st = .ok (.p (.bl (M5.gs fs S))) st := by
  have key := goes_loop (k := k) (st := st) hl (r1 := .val (.p x)) S .un .un hp
  simp only [goesB, d33] at key
  rw [callK_eq T33 rfl]
  dsimp? [d33, hx]
  cases q : M5.gs fs S with
  | true =>
    obtain ⟨t2, t3, e⟩ := key.1 q
    rw [e]
    dsimp? [List.take_length]
  | false =>
    rw [key.2 q]
    dsimp? [List.take_length]
/-- the law's pairs -/
theorem law_clash {n : Nat} {S : List (Nat × Bool)} (hn : n ≤ 4) (h : SOk S) (hlt : ∀ s ∈ S, s.1 < 2 ^ n) : callK TT gc (k + 2) 35 [.p (.lst ((allB n).map fun fs => .str (MS.sT (MM.strip fs)))), .p (RS S)] st = (match fp S.length (qS n S) with
    | some p => .ok (prD p) st
    | none => .ok (.p .non) st : R D) := by
  have rs : RS S = .tup (S.map sgt) := rfl
  have h16 := allB_len hn
  rw [callK_eq T35 rfl, rs]
  dsimp? [d35, List.length_map, rngOk_any]
  have key := forC_pair (c := ⟨callK TT gc (k + 1), gc, wdT TT⟩) (st := st) (m := S.length) (i0 := 2) (j0 := 3) (qS n S)
    (fun e => ∃ s2 s3 s4 s5, e = [.val (.p (.lst ((allB n).map fun fs => .str (MS.sT (MM.strip fs))))), .val (.p (.tup (S.map sgt))), s2, s3, s4, s5])
    (b := match d35.body with
      | .cons (.for_ _ _ (.cons (.for_ _ _ b) _)) _ => b
      | _ => .nil)
    (bo := match d35.body with
      | .cons (.for_ _ _ b) _ => b
      | _ => .nil)
    (env := [.val (.p (.lst ((allB n).map fun fs => .str (MS.sT (MM.strip fs))))), .val (.p (.tup (S.map sgt))), .un, .un, .un, .un]) ⟨_, _, _, _, rfl⟩ (by
      rintro i hi env ⟨s2, s3, s4, s5, rfl⟩
      refine ⟨_, rfl, ⟨_, _, _, _, rfl⟩, fun e => ∃ s3 s4 s5, e = [.val (.p (.lst ((allB n).map fun fs => .str (MS.sT (MM.strip fs))))), .val (.p (.tup (S.map sgt))), .val (.p (.int i)), s3, s4, s5], ⟨_, _, _, rfl⟩, (fun e ⟨s3, s4, s5, q⟩ => ⟨_, _, _, _, q⟩), ?_, ?_⟩
      · intro env2 r
        dsimp? [d35, List.length_map, rngOk_any]
        constructor
        · intro q
          rw [q]
          rfl
        · intro q
          rw [q]
          rfl
      · rintro j hij hj e ⟨s3, s4, s5, rfl⟩
        refine ⟨_, rfl, ?_⟩
        have gi : S.getD i dS = S[i] := by rw [List.getD_eq_getElem?_getD, List.getElem?_eq_getElem hi]; rfl
        have gj : S.getD j dS = S[j] := by rw [List.getD_eq_getElem?_getD, List.getElem?_eq_getElem hj]; rfl
        have ai : atI (S.map sgt) (i : Int) = some (sgt S[i]) := by
          rw [atI_natQ (by rw [List.length_map]; exact hi), List.getElem?_map, List.getElem?_eq_getElem hi]
          rfl
        have aj : atI (S.map sgt) (j : Int) = some (sgt S[j]) := by
          rw [atI_natQ (by rw [List.length_map]; exact hj), List.getElem?_map, List.getElem?_eq_getElem hj]
          rfl
        have mi : S[i] ∈ S := List.getElem_mem hi
        have mj : S[j] ∈ S := List.getElem_mem hj
        have pr := pair_iff (n := n) (h.pos _ mi) (h.pos _ mj) (hlt _ mi) (hlt _ mj)
        have cc : ∀ env : DE.Env, env = [.val (.p (.lst ((allB n).map fun fs => .str (MS.sT (MM.strip fs))))), .val (.p (.tup (S.map sgt))), .val (.p (.int i)), .val (.p (.int j)), .val (.p (.lst [sgt S[i], sgt S[j]])), .un] →
            compC ⟨callK TT gc (k + 1), gc, wdT TT⟩ (.v 5) (.som (.call 33 (.cons (.v 5) (.cons (.v 4) .nil)))) (.one 5) env ((allB n).map fun fs => P.str (MS.sT (MM.strip fs))) st = .ok (((allB n).filter fun fs => M5.gs fs [S[i], S[j]]).map fun fs => P.str (MS.sT (MM.strip fs))) st := by
          rintro env rfl
          refine compC_list (fun fs => M5.gs fs [S[i], S[j]]) (fun fs => P.str (MS.sT (MM.strip fs))) (fun fs hfs => ?_) (by omega)
          have gl := law_goesL (k := k) (st := st) (fs := fs) (S := [S[i], S[j]]) (x := .lst [sgt S[i], sgt S[j]]) rfl (by
            intro s hs
            simp only [List.mem_cons, List.not_mem_nil, or_false] at hs
            rcases hs with rfl | rfl
            · exact h.pos _ mi
            · exact h.pos _ mj) (by have := mem_allB.mp hfs; omega)
          refine ⟨_, rfl, ?_, fun _ => ⟨.p (.str (MS.sT (MM.strip fs))), by dsimp?, rfl⟩⟩
          dsimp? [gl]
        have okS : P.okDs 60 (((allB n).filter fun fs => M5.gs fs [S[i], S[j]]).map fun fs => P.str (MS.sT (MM.strip fs))) = true := P.okDs_iff.mpr fun y hy => by
          obtain ⟨fs, _, rfl⟩ := List.mem_map.mp hy
          simpa [P.okD] using MS.sT_ok (MM.strip fs)
        have e0 := eqL0 (n := 0) okS
        rw [List.isEmpty_map] at e0
        unfold qS
        rw [gi, gj]
        dsimp? [d35, ai, aj]
        rw [cc _ rfl]
        cases hq : pq n S[i] S[j] with
        | true =>
          have he : ((allB n).filter fun fs => M5.gs fs [S[i], S[j]]).isEmpty = true := by
            rw [List.isEmpty_iff, List.filter_eq_nil_iff]
            intro fs hfs
            rw [pr.mpr hq fs (mem_allB.mp hfs)]
            decide
          rw [he] at e0
          dsimp? [e0]
          rfl
        | false =>
          have he : ((allB n).filter fun fs => M5.gs fs [S[i], S[j]]).isEmpty = false := by
            cases z : ((allB n).filter fun fs => M5.gs fs [S[i], S[j]]).isEmpty with
            | false => rfl
            | true =>
              rw [List.isEmpty_iff, List.filter_eq_nil_iff] at z
              have := pr.mp fun fs hl => by
                have := z fs (mem_allB.mpr hl)
                simpa using this
              rw [hq] at this
              cases this
          rw [he] at e0
          dsimp? [e0]
          exact ⟨_, rfl, _, _, _, rfl⟩)
  simp only [d35] at key
  cases q : fp S.length (qS n S) with
  | some p =>
    rw [key.1 p q]
    dsimp? [prD, List.take_length]
  | none =>
    obtain ⟨env', e, s2, s3, s4, s5, rfl⟩ := key.2 q
    rw [e]
    dsimp? [List.take_length]
end

end LAW
end

section
set_option Elab.async false
set_option linter.all false
set_option maxRecDepth 100000
set_option maxHeartbeats 0
set_option autoImplicit false
namespace LAW
open PySem L2 DE
local macro_rules
  | `(tactic| dsimp? [$xs,*] $[$loc:location]?) => `(tactic| simp only [$xs,*, EVC, EVD, EVS, pow18, pow28, pow30, setS, setO, startE, List.map_cons, List.map_nil, List.getElem?_cons_zero, List.getElem?_cons_succ, List.set_cons_zero, List.set_cons_succ, List.replicate_succ, List.replicate_zero, List.cons_append, List.nil_append, List.append_nil, if_true, if_false, Bool.true_and, Bool.and_true, List.length_cons, List.length_nil, Int.cast_ofNat_Int, BEq.rfl, eq_self, Option.map_some, Bool.not_true, Bool.not_false, decide_true, decide_false, Int.reduceLT, Int.reduceLE, Int.reduceNeg, Nat.reduceAdd, Nat.reduceLeDiff, Int.reduceAdd, Int.reduceSub, Int.reduceMul, Int.reduceEq, Nat.reduceSub, Nat.sub_self, Int.reduceBEq, Int.reduceBNe, Nat.reduceEqDiff, Int.reduceMod, Int.reduceDiv, GC0, GC1, GC2, GC3, GC4, GC5, GC6] $[$loc]?)
  | `(tactic| dsimp? $[$loc:location]?) => `(tactic| simp only [EVC, EVD, EVS, pow18, pow28, pow30, setS, setO, startE, List.map_cons, List.map_nil, List.getElem?_cons_zero, List.getElem?_cons_succ, List.set_cons_zero, List.set_cons_succ, List.replicate_succ, List.replicate_zero, List.cons_append, List.nil_append, List.append_nil, if_true, if_false, Bool.true_and, Bool.and_true, List.length_cons, List.length_nil, Int.cast_ofNat_Int, BEq.rfl, eq_self, Option.map_some, Bool.not_true, Bool.not_false, decide_true, decide_false, Int.reduceLT, Int.reduceLE, Int.reduceNeg, Nat.reduceAdd, Nat.reduceLeDiff, Int.reduceAdd, Int.reduceSub, Int.reduceMul, Int.reduceEq, Nat.reduceSub, Nat.sub_self, Int.reduceBEq, Int.reduceBNe, Nat.reduceEqDiff, Int.reduceMod, Int.reduceDiv, GC0, GC1, GC2, GC3, GC4, GC5, GC6] $[$loc]?)


theorem allStr_list {α : Type} (h : α → Str) (S : List α) : allStr (S.map fun s => P.str (h s)) = some (S.map h) := by
  induction S with
  | nil => rfl
  | cons x xs ih =>
    show (allStr (xs.map fun s => P.str (h s))).map (h x :: ·) = _
    rw [ih]
    rfl
theorem sortS_ok {zs : List Str} (h : zs.length ≤ 63) : sortS (some zs) = some (.lst ((SX.srtS zs).map .str)) := by
  have h1 : zs.length ≤ 4000 := by omega
  have h2 : (SX.metS zs).length < 64 := by have := SX.metS_len zs; omega
  show (if (decide (zs.length ≤ 4000) && decide ((SX.metS zs).length < 64)) = true then _ else _) = _
  rw [decide_eq_true h1, decide_eq_true h2]
  rfl
theorem kinds_one {zs : List Str} {x : Str} (hne : zs ≠ []) (h : ∀ z ∈ zs, z = x) : SX.srtS zs = [x] := by
  refine SX.up_ext (SX.srtS_up _) (List.pairwise_singleton _ _) fun y => ?_
  rw [SX.mem_srtS, List.mem_singleton]
  constructor
  · exact h y
  · rintro rfl
    obtain ⟨z, hz⟩ := List.exists_mem_of_ne_nil zs hne
    have := h z hz
    rwa [this] at hz
theorem kinds_two {zs : List Str} {x y : Str} (hlt : SX.ltS x y = true) (hx : x ∈ zs) (hy : y ∈ zs) (h : ∀ z ∈ zs, z = x ∨ z = y) : SX.srtS zs = [x, y] := by
  refine SX.up_ext (SX.srtS_up _) (by simp [hlt]) fun z => ?_
  rw [SX.mem_srtS]
  simp only [List.mem_cons, List.not_mem_nil, or_false]
  constructor
  · exact h z
  · rintro (rfl | rfl)
    · exact hx
    · exact hy
def fS (b : Bool) : Str := bif b then Str.ofString "over" else Str.ofString "under"
theorem FP_fS (b : Bool) : FP b = .str (fS b) := by cases b <;> rfl
def cS (b : Bool) : Str := bif b then Str.ofString "v" else Str.ofString "m"
theorem CP_cS (b : Bool) : CP b = .str (cS b) := by cases b <;> rfl
theorem lt_ou : SX.ltS (fS true) (fS false) = true := by decide +kernel
theorem lt_mv : SX.ltS (cS false) (cS true) = true := by decide +kernel
theorem okTO (n : Nat) (M : List (Option Bool)) : P.okD (n + 1) (TO M) = true := by
  show P.okD (n + 1) (.tup _) = true
  unfold P.okD
  exact P.okDs_iff.mpr fun y hy => by
    obtain ⟨o, _, rfl⟩ := List.mem_map.mp hy
    cases o with
    | none => simp [OP, P.okD]
    | some b => exact ok_FP n b
section
open M5
/-- those that go with sights -/
structure Good (n : Nat) (S : List (Nat × Bool)) (G : List (List Bool)) : Prop where
  mem : ∀ fs, fs ∈ G ↔ fs.length = n ∧ M5.gs fs S = true
  few : G.length ≤ 16
theorem Good.none {n : Nat} {S : List (Nat × Bool)} {G : List (List Bool)} (g : Good n S G) (hp : ∀ s ∈ S, 0 < s.1) (h : tl n S (L0 n) = none) : G = [] := by
  cases G with
  | nil => rfl
  | cons fs r =>
    obtain ⟨h1, h2⟩ := (g.mem fs).mp List.mem_cons_self
    rw [tl_none (L0_len n) hp h fs h1 (ag_L0 n fs)] at h2
    cases h2
section
variable {n : Nat} {S : List (Nat × Bool)} {G : List (List Bool)} {M : List (Option Bool)}
theorem Good.ag (g : Good n S G) (hp : ∀ s ∈ S, 0 < s.1) (h : tl n S (L0 n) = some M) (fs : List Bool) : fs ∈ G ↔ fs.length = n ∧ ag fs M := by
  rw [g.mem fs]
  refine and_congr_right fun hl => ?_
  rw [(tl_some (L0_len n) hp h).2.2 fs hl]
  exact ⟨fun q => ⟨ag_L0 n fs, q⟩, fun q => q.2⟩
theorem Good.fill (g : Good n S G) (hp : ∀ s ∈ S, 0 < s.1) (h : tl n S (L0 n) = some M) (i : Nat) (c : Bool) : fillB M i c ∈ G := by
  rw [g.ag hp h]
  exact ⟨by rw [fillB_len]; exact (tl_some (L0_len n) hp h).1, fillB_ag M i c⟩
/-- the kinds of what stands at a number -/
theorem Good.kinds (g : Good n S G) (hp : ∀ s ∈ S, 0 < s.1) (h : tl n S (L0 n) = some M) {i : Nat} (hi : i < n) (u : Bool → Str) (t0 : Bool) (hu : SX.ltS (u t0) (u (!t0)) = true) (v : List Bool → Bool) (e : Bool → Bool) (he : ∀ b c, e b = e c → b = c) (hv : ∀ fs ∈ G, ∀ b, fs[i]? = some b → v fs = e b) :
    ∃ o, M[i]? = some o ∧ SX.srtS (G.map fun fs => u (v fs)) = match o with
      | some b => [u (e b)]
      | none => [u t0, u (!t0)] := by
  have hM := (tl_some (L0_len n) hp h).1
  obtain ⟨o, ho⟩ : ∃ o, M[i]? = some o := ⟨_, List.getElem?_eq_getElem (by omega)⟩
  refine ⟨o, ho, ?_⟩
  cases o with
  | some b =>
    refine kinds_one (fun z => ?_) fun z hz => ?_
    · have := g.fill hp h i true
      rw [List.map_eq_nil_iff] at z
      rw [z] at this
      cases this
    · obtain ⟨fs, hfs, rfl⟩ := List.mem_map.mp hz
      rw [hv fs hfs b (((g.ag hp h fs).mp hfs).2 i b ho)]
  | none =>
    have hm : ∀ c, u (e c) ∈ G.map fun fs => u (v fs) := fun c => by
      have q := g.fill hp h i c
      refine List.mem_map.mpr ⟨_, q, ?_⟩
      show u (v _) = _
      rw [hv _ q c (fillB_at ho)]
    have sur : ∀ c, ∃ b, e b = c := fun c => by
      cases h1 : e true with
      | true =>
        cases h2 : e false with
        | true =>
          have := he true false (by rw [h1, h2])
          cases this
        | false =>
          cases c
          · exact ⟨_, h2⟩
          · exact ⟨_, h1⟩
      | false =>
        cases h2 : e false with
        | false =>
          have := he true false (by rw [h1, h2])
          cases this
        | true =>
          cases c
          · exact ⟨_, h1⟩
          · exact ⟨_, h2⟩
    have hm2 : ∀ c, u c ∈ G.map fun fs => u (v fs) := fun c => by
      obtain ⟨b, rfl⟩ := sur c
      exact hm b
    refine kinds_two hu (hm2 _) (hm2 _) fun z hz => ?_
    obtain ⟨fs, _, rfl⟩ := List.mem_map.mp hz
    show u (v fs) = _ ∨ u (v fs) = _
    cases v fs <;> cases t0 <;> simp
end
variable {k : Nat} {st : Store}
theorem WDn : wdT TT 34 1010 = some (Str.ofString "none value") := rfl
theorem WDp : wdT TT 34 1003 = some (Str.ofString "place value") := rfl
theorem eqNV : opEq (.str (Str.ofString "none value")) (.str (Str.ofString "none value")) = some true := opEq_rfl (by decide +kernel)
theorem eqPV : opEq (.str (Str.ofString "place value")) (.str (Str.ofString "place value")) = some true := opEq_rfl (by decide +kernel)
theorem eqTO (M : List (Option Bool)) : opEq (TO M) (TO M) = some true := opEq_rfl (okTO 63 M)
theorem eqCC (b : Bool) : opEq (CP b) (CP b) = some true := by rw [eq_CP, beq_self_eq_true]
theorem eqNN : opEq .non .non = some true := opEq_rfl (by simp [P.okD])
theorem eqPr (p : Nat × Nat) : opEq (.tup [.int p.1, .int p.2]) (.tup [.int p.1, .int p.2]) = some true := opEq_rfl (by simp [P.okD, P.okDs])
end

end LAW
end

section
set_option Elab.async false
set_option linter.all false
set_option maxRecDepth 100000
set_option maxHeartbeats 0
set_option autoImplicit false
namespace LAW
open PySem L2 DE
local macro_rules
  | `(tactic| dsimp? [$xs,*] $[$loc:location]?) => `(tactic| simp only [$xs,*, EVC, EVD, EVS, pow18, pow28, pow30, setS, setO, startE, List.map_cons, List.map_nil, List.getElem?_cons_zero, List.getElem?_cons_succ, List.set_cons_zero, List.set_cons_succ, List.replicate_succ, List.replicate_zero, List.cons_append, List.nil_append, List.append_nil, if_true, if_false, Bool.true_and, Bool.and_true, List.length_cons, List.length_nil, Int.cast_ofNat_Int, BEq.rfl, eq_self, Option.map_some, Bool.not_true, Bool.not_false, decide_true, decide_false, Int.reduceLT, Int.reduceLE, Int.reduceNeg, Nat.reduceAdd, Nat.reduceLeDiff, Int.reduceAdd, Int.reduceSub, Int.reduceMul, Int.reduceEq, Nat.reduceSub, Nat.sub_self, Int.reduceBEq, Int.reduceBNe, Nat.reduceEqDiff, Int.reduceMod, Int.reduceDiv, GC0, GC1, GC2, GC3, GC4, GC5, GC6] $[$loc]?)
  | `(tactic| dsimp? $[$loc:location]?) => `(tactic| simp only [EVC, EVD, EVS, pow18, pow28, pow30, setS, setO, startE, List.map_cons, List.map_nil, List.getElem?_cons_zero, List.getElem?_cons_succ, List.set_cons_zero, List.set_cons_succ, List.replicate_succ, List.replicate_zero, List.cons_append, List.nil_append, List.append_nil, if_true, if_false, Bool.true_and, Bool.and_true, List.length_cons, List.length_nil, Int.cast_ofNat_Int, BEq.rfl, eq_self, Option.map_some, Bool.not_true, Bool.not_false, decide_true, decide_false, Int.reduceLT, Int.reduceLE, Int.reduceNeg, Nat.reduceAdd, Nat.reduceLeDiff, Int.reduceAdd, Int.reduceSub, Int.reduceMul, Int.reduceEq, Nat.reduceSub, Nat.sub_self, Int.reduceBEq, Int.reduceBNe, Nat.reduceEqDiff, Int.reduceMod, Int.reduceDiv, GC0, GC1, GC2, GC3, GC4, GC5, GC6] $[$loc]?)


section
open M5
variable {k : Nat} {st : Store}
theorem eqL0' {xs : List P} (h : P.okDs 60 xs = true) : opEq (.lst xs) (.lst []) = some xs.isEmpty := eqL0 (n := 0) h
theorem mkOP (o : Option Bool) : (mkP (some (OP o)) st) = .ok (.p (OP o)) st := rfl
def dueB : IB := match d36.body with
  | .cons _ (.cons _ (.cons (.ife _ (.cons _ (.cons (.for_ _ _ b) _)) _) _)) => b
  | _ => .nil
def placeB : IB := match d36.body with
  | .cons _ (.cons _ (.cons _ (.cons _ (.cons _ (.cons _ (.cons _ (.cons _ (.cons _ (.cons (.for_ _ _ b) _))))))))) => b
  | _ => .nil
theorem due_step {n i : Nat} {S : List (Nat × Bool)} {G : List (List Bool)} {M : List (Option Bool)} (hn : n ≤ 4) (g : Good n S G) (hp : ∀ s ∈ S, 0 < s.1) (h : tl n S (L0 n) = some M) (hi : i < n) {r0 r1 r2 r3 s6 s7 s8 s9 s11 s12 s13 s14 s15 : Sl} :
    ∃ t14, DE.execs ⟨callK TT gc k, gc, wdT TT⟩ dueB [r0, r1, r2, r3, .val (.p (.lst (G.map TF))), .val (.p (.tup ((M.take i).map OP))), s6, s7, s8, s9, .val (.p (.int i)), s11, s12, s13, s14, s15] st =
      .ok (.nx [r0, r1, r2, r3, .val (.p (.lst (G.map TF))), .val (.p (.tup ((M.take (i + 1)).map OP))), s6, s7, s8, s9, .val (.p (.int i)), s11, s12, s13, t14, s15]) st := by
  have hM := (tl_some (L0_len n) hp h).1
  obtain ⟨o, ho, ks⟩ := g.kinds hp h hi fS true lt_ou (fun fs => fs.getD i true) id (fun b c => id) (fun fs hfs b hb => by
    show fs.getD i true = b
    rw [List.getD_eq_getElem?_getD, hb]
    rfl)
  have nx : (M.take (i + 1)).map OP = (M.take i).map OP ++ [OP o] := by rw [List.take_add_one, ho]; simp
  have cc : ∀ env : DE.Env, env = [r0, r1, r2, r3, .val (.p (.lst (G.map TF))), .val (.p (.tup ((M.take i).map OP))), s6, s7, s8, s9, .val (.p (.int i)), s11, .un, s13, s14, s15] →
      compC ⟨callK TT gc k, gc, wdT TT⟩ (.idx (.v 12) (.v 10)) .non (.one 12) env (G.map TF) st = .ok (G.map fun fs => P.str (fS (fs.getD i true))) st := by
    rintro env rfl
    refine compC_listM (fun fs : List Bool => P.str (fS (fs.getD i true))) (fun fs hfs => ?_) (by have := g.few; omega)
    have hl := ((g.mem fs).mp hfs).1
    have a : opIdx (TF fs) (.int (i : Nat)) = some (.str (fS (fs.getD i true))) := by
      show atI (fs.map FP) (i : Int) = _
      rw [atI_natQ (by rw [List.length_map]; omega), List.getElem?_map, ← FP_fS, List.getD_eq_getElem?_getD, List.getElem?_eq_getElem (by omega : i < fs.length)]
      rfl
    refine ⟨_, rfl, .p (.str (fS (fs.getD i true))), ?_, rfl⟩
    dsimp? [a]
  have so : sortS (allStr (G.map fun fs => P.str (fS (fs.getD i true)))) = some (.lst ((SX.srtS (G.map fun fs => fS (fs.getD i true))).map .str)) := by
    rw [allStr_list (fun fs : List Bool => fS (fs.getD i true)) G]
    exact sortS_ok (by rw [List.length_map]; have := g.few; omega)
  rw [ks] at so
  have sm : small (((M.take i).map OP).length + 1) = true := small_lit (by rw [List.length_map, List.length_take]; omega)
  rw [List.length_map] at sm
  rw [nx]
  cases o with
  | some b =>
    have so : sortS (allStr (G.map fun fs => P.str (fS (fs.getD i true)))) = some (.lst [FP b]) := by rw [so, FP_fS]; rfl
    dsimp? [dueB, d36, cc _ rfl, so, List.length_map, sm]
    exact ⟨_, rfl⟩
  | none =>
    have so : sortS (allStr (G.map fun fs => P.str (fS (fs.getD i true)))) = some (.lst [FP true, FP false]) := by rw [so, FP_fS, FP_fS]; rfl
    dsimp? [dueB, d36, cc _ rfl, so, List.length_map, sm]
    exact ⟨_, rfl⟩
theorem due_loop {n : Nat} {S : List (Nat × Bool)} {G : List (List Bool)} {M : List (Option Bool)} (hn : n ≤ 4) (g : Good n S G) (hp : ∀ s ∈ S, 0 < s.1) (h : tl n S (L0 n) = some M) {r0 r1 r2 r3 s6 s7 s8 s9 s10 s11 s12 s13 s14 s15 : Sl} :
    ∃ t10 t14, forC ⟨callK TT gc k, gc, wdT TT⟩ (.one 10) dueB (rngP 0 (n : Int)) [r0, r1, r2, r3, .val (.p (.lst (G.map TF))), .val (.p (.tup [])), s6, s7, s8, s9, s10, s11, s12, s13, s14, s15] st =
      .ok (.nx [r0, r1, r2, r3, .val (.p (.lst (G.map TF))), .val (.p (TO M)), s6, s7, s8, s9, t10, s11, s12, s13, t14, s15]) st := by
  have hM := (tl_some (L0_len n) hp h).1
  have w : Wp (forC ⟨callK TT gc k, gc, wdT TT⟩ (.one 10) dueB (rngP 0 (n : Int)) [r0, r1, r2, r3, .val (.p (.lst (G.map TF))), .val (.p (.tup [])), s6, s7, s8, s9, s10, s11, s12, s13, s14, s15] st) (fun fl st' => st' = st ∧ ∃ t10 t14, fl = .nx [r0, r1, r2, r3, .val (.p (.lst (G.map TF))), .val (.p (TO M)), s6, s7, s8, s9, t10, s11, s12, s13, t14, s15]) := by
    refine forC_wp (fun i env st' => st' = st ∧ ∃ t10 t14, env = [r0, r1, r2, r3, .val (.p (.lst (G.map TF))), .val (.p (.tup ((M.take i).map OP))), s6, s7, s8, s9, t10, s11, s12, s13, t14, s15]) ?_ ?_ ⟨rfl, _, _, rfl⟩
    · rintro i x env st' hx ⟨rfl, t10, t14, rfl⟩
      obtain ⟨rfl, hlt⟩ := rngP_get hx
      have c0 : (0 : Int) + (i : Int) = (i : Int) := Int.zero_add _
      rw [c0]
      obtain ⟨u14, e⟩ := due_step (k := k) (st := st') (r0 := r0) (r1 := r1) (r2 := r2) (r3 := r3) (s6 := s6) (s7 := s7) (s8 := s8) (s9 := s9) (s11 := s11) (s12 := s12) (s13 := s13) (s14 := t14) (s15 := s15) hn g hp h (show i < n by omega)
      exact ⟨_, rfl, Wp.of_eq e ⟨rfl, _, _, rfl⟩⟩
    · rintro env st' ⟨rfl, t10, t14, rfl⟩
      rw [rngP_len, show ((n : Int) - 0).toNat = n from by omega, List.take_of_length_le (by omega)]
      exact ⟨rfl, _, _, rfl⟩
  obtain ⟨fl, st', e, rfl, t10, t14, rfl⟩ := w.ex
  exact ⟨t10, t14, e⟩
/-- a place is told as all strips tell it -/
theorem place_step {n p : Nat} {S : List (Nat × Bool)} {G : List (List Bool)} (hn : n ≤ 4) (g : Good n S G) (hS : SOk S) (h0 : 0 < p) (hlt : p < 2 ^ n) {r0 r2 s5 s6 s7 s8 s10 s11 s12 s13 s14 s15 : Sl} :
    ∃ t5 t11, DE.execs ⟨callK TT gc (k + 4), gc, wdT TT⟩ placeB [r0, .val (.p (.int n)), r2, .val (.p (RS S)), .val (.p (.lst (G.map TF))), s5, s6, s7, s8, .val (.p (.int p)), s10, s11, s12, s13, s14, s15] st =
      .ok (.nx [r0, .val (.p (.int n)), r2, .val (.p (RS S)), .val (.p (.lst (G.map TF))), t5, s6, s7, s8, .val (.p (.int p)), s10, t11, s12, s13, s14, s15]) st := by
  have su := sure (k := k) (st := st) (n := n) (p := p) (by omega) hS h0 hlt
  have hi := ix_lt h0 hlt
  have crv : ∀ fs ∈ G, ∀ b, fs[ix n p]? = some b → MM.cr fs p = (b == decide ((hvE p).2 % 4 = 1)) := fun fs hfs b hb => cr_ix ((g.mem fs).mp hfs).1 h0 hlt hb
  have cc : ∀ env : DE.Env, env = [r0, .val (.p (.int n)), r2, .val (.p (RS S)), .val (.p (.lst (G.map TF))), s5, s6, s7, s8, .val (.p (.int p)), s10, s11, .un, s13, s14, s15] →
      compC ⟨callK TT gc (k + 4), gc, wdT TT⟩ (.slc (.call 21 (.cons (.v 12) .nil)) (.som (.bin .Sub (.v 9) (.int 1))) (.som (.v 9))) .non (.one 12) env (G.map TF) st = .ok (G.map fun fs => P.str (cS (MM.cr fs p))) st := by
    rintro env rfl
    refine compC_listM (fun fs : List Bool => P.str (cS (MM.cr fs p))) (fun fs hfs => ?_) (by have := g.few; omega)
    have hl := ((g.mem fs).mp hfs).1
    have ls := law_strip (k := k + 2) (st := st) (fs := fs) (by omega)
    have lt : (MM.strip fs).length < 2 ^ 14 := strip_len7 (by omega)
    have sl : small (MS.sT (MM.strip fs)).length = true := small_lit (by rw [MS.sT_len]; omega)
    have c1 := cut1 (fs := fs) h0 (by rw [hl]; exact hlt)
    refine ⟨_, rfl, .p (.str (cS (MM.cr fs p))), ?_, rfl⟩
    have sc := sT_CP (MM.cr fs p)
    rw [CP_cS] at sc
    dsimp? [ls, sl, c1, sc]
  have so : sortS (allStr (G.map fun fs => P.str (cS (MM.cr fs p)))) = some (.lst ((SX.srtS (G.map fun fs => cS (MM.cr fs p))).map .str)) := by
    rw [allStr_list (fun fs : List Bool => cS (MM.cr fs p)) G]
    exact sortS_ok (by rw [List.length_map]; have := g.few; omega)
  cases q : tl n S (L0 n) with
  | none =>
    have hG := g.none hS.pos q
    have e : callK TT gc (k + 4) 13 [.p (.int n), .p (RS S), .p (.int p)] st = .exc 1010 none st := by rw [su]; unfold sureR; rw [q]
    have srt0 : SX.srtS ([] : List Str) = [] := rfl
    have el : opEq (.lst []) (.lst []) = some true := eqL0' (by rfl)
    subst hG
    simp only [List.map_nil, srt0] at so cc
    dsimp? [placeB, d36, cc _ rfl, so, el, e, WDn, eqNV]
    exact ⟨_, _, rfl⟩
  | some M =>
    have e : callK TT gc (k + 4) 13 [.p (.int n), .p (RS S), .p (.int p)] st = .ok (.p (sureV n M p)) st := by rw [su]; unfold sureR; rw [q]
    obtain ⟨o, ho, ks⟩ := g.kinds hS.pos q hi cS false lt_mv (fun fs => MM.cr fs p) (fun b => b == decide ((hvE p).2 % 4 = 1)) (fun b c z => by
      revert z
      generalize decide ((hvE p).2 % 4 = 1) = d
      cases b <;> cases c <;> cases d <;> decide) crv
    rw [ks] at so
    cases o with
    | some f =>
      have sv : sureV n M p = CP (f == decide ((hvE p).2 % 4 = 1)) := by unfold sureV; rw [ho]
      rw [sv] at e
      have so : sortS (allStr (G.map fun fs => P.str (cS (MM.cr fs p)))) = some (.lst [CP (f == decide ((hvE p).2 % 4 = 1))]) := by rw [so, CP_cS]; rfl
      have el : opEq (.lst [CP (f == decide ((hvE p).2 % 4 = 1))]) (.lst []) = some false := eqL0' (by simp [P.okDs, ok_CP])
      dsimp? [placeB, d36, cc _ rfl, so, el, e, eqCC]
      exact ⟨_, _, rfl⟩
    | none =>
      have sv : sureV n M p = .non := by unfold sureV; rw [ho]
      rw [sv] at e
      have so : sortS (allStr (G.map fun fs => P.str (cS (MM.cr fs p)))) = some (.lst [CP false, CP true]) := by rw [so, CP_cS, CP_cS]; rfl
      have el : opEq (.lst [CP false, CP true]) (.lst []) = some false := eqL0' (by simp [P.okDs, ok_CP])
      dsimp? [placeB, d36, cc _ rfl, so, el, e, eqNN]
      exact ⟨_, _, rfl⟩
theorem small_right {n : Nat} {S : List (Nat × Bool)} {bx : D} (h1 : 1 ≤ n) (hn : n ≤ 4) (hS : SOk S) : callK TT gc (k + 5) 36 [bx, .p (.int n), .p (.lst ((allB n).map evP)), .p (RS S)] st = .ok (.p (.bl true)) st := by
  have h16 := allB_len hn
  have isq : itSeq (RS S) = some (S.map sgt) := rfl
  have g : Good n S ((allB n).filter fun fs => M5.gs fs S) := ⟨fun fs => by rw [List.mem_filter, mem_allB], Nat.le_trans (List.length_filter_le _ _) h16⟩
  have tw := told (k := k) (st := st) (n := n) (by omega) hS
  have cw := clash (k := k) (st := st) (n := n) (by omega) hS
  have db := doubled (k := k + 3) (st := st) (n := n) (by omega)
  have cc : ∀ env : DE.Env, env = [.val bx, .val (.p (.int n)), .val (.p (.lst ((allB n).map evP))), .val (.p (RS S)), .un, .un, .un, .un, .un, .un, .un, .un, .un, .un, .un, .un] →
      compC ⟨callK TT gc (k + 4), gc, wdT TT⟩ (.v 12) (.som (.call 33 (.cons (.v 13) (.cons (.v 3) .nil)))) (.two (.one 12) (.one 13)) env ((allB n).map evP) st = .ok (((allB n).filter fun fs => M5.gs fs S).map TF) st := by
    rintro env rfl
    refine compC_list (fun fs : List Bool => M5.gs fs S) TF (fun fs hfs => ?_) (by omega)
    have gl := law_goesL (k := k + 3) (st := st) (fs := fs) (S := S) (x := RS S) rfl hS.pos (by have := mem_allB.mp hfs; omega)
    refine ⟨_, rfl, ?_, fun _ => ⟨.p (TF fs), by dsimp?, rfl⟩⟩
    dsimp? [gl]
  have hf : ∀ x4 x5 x7 x8 x9 x10 x11 x12 x13 x14 x15 : Sl,
      compC ⟨callK TT gc (k + 4), gc, wdT TT⟩ (.v 15) (.som (.cmp .Gt (.idx (.v 15) (.int 0)) (.v 6))) (.one 15) [.val bx, .val (.p (.int n)), .val (.p (.lst ((allB n).map evP))), .val (.p (RS S)), x4, x5, .val (.p (.int (((2 ^ n : Nat) : Int) - 1))), x7, x8, x9, x10, x11, x12, x13, x14, x15] (S.map sgt) st = .ok ((S.filter (far n)).map sgt) st := by
    intro x4 x5 x7 x8 x9 x10 x11 x12 x13 x14 x15
    have l8 := hS.len
    refine compC_list (far n) sgt (fun s hs => ?_) (by omega)
    have c : decide (((2 ^ n : Nat) : Int) - 1 < (s.1 : Int)) = far n s := by
      unfold far
      rw [decide_eq_decide]
      omega
    have ix0 : opIdx (sgt s) (.int 0) = some (.int s.1) := atI0
    refine ⟨_, rfl, ?_, fun _ => ⟨.p (sgt s), by dsimp?, rfl⟩⟩
    dsimp? [ix0, c]
  have okS : P.okDs 60 ((S.filter (far n)).map sgt) = true := P.okDs_iff.mpr fun y hy => by
    obtain ⟨s, _, rfl⟩ := List.mem_map.mp hy
    simp [sgt, P.okD, P.okDs, ok_CP]
  have e7 := eqL0' okS
  rw [List.isEmpty_map] at e7
  have ef : (S.filter (far n)).isEmpty = !S.any (far n) := by
    generalize S = Z
    induction Z with
    | nil => rfl
    | cons x xs ih =>
      rw [List.filter_cons, List.any_cons]
      cases far n x with
      | true => rfl
      | false => simpa using ih
  rw [ef] at e7
  have mc : ∀ x4 x5 x6 x7 x8 x9 x10 x11 x12 x13 x14 x15 : Sl, compC ⟨callK TT gc (k + 4), gc, wdT TT⟩ (.v 13) .non (.two (.one 12) (.one 13)) [.val bx, .val (.p (.int n)), .val (.p (.lst ((allB n).map evP))), .val (.p (RS S)), x4, x5, x6, x7, x8, x9, x10, x11, x12, x13, x14, x15] ((allB n).map evP) st = .ok ((allB n).map fun fs => P.str (MS.sT (MM.strip fs))) st := by
    intro x4 x5 x6 x7 x8 x9 x10 x11 x12 x13 x14 x15
    refine compC_listM (fun fs : List Bool => P.str (MS.sT (MM.strip fs))) (fun fs hfs => ?_) (by omega)
    exact ⟨_, rfl, .p (.str (MS.sT (MM.strip fs))), by dsimp?, rfl⟩
  rw [callK_eq T36 rfl]
  generalize hG : ((allB n).filter fun fs => M5.gs fs S) = G at g cc
  have okG : P.okDs 60 (G.map TF) = true := P.okDs_iff.mpr fun y hy => by
    obtain ⟨fs, _, rfl⟩ := List.mem_map.mp hy
    exact ok_TF 59 fs
  have e4 := eqL0' okG
  rw [List.isEmpty_map] at e4
  -- the last part
  have last : ∀ (x5 x7 x8 x10 x12 x13 x14 x15 : Sl), ∃ en, forC ⟨callK TT gc (k + 4), gc, wdT TT⟩ (.one 9) placeB (rngP 1 (((2 ^ n : Nat) : Int) - 1 + 1)) [.val bx, .val (.p (.int n)), .val (.p (.lst ((allB n).map evP))), .val (.p (RS S)), .val (.p (.lst (G.map TF))), x5, .val (.p (.int (((2 ^ n : Nat) : Int) - 1))), x7, x8, .un, x10, .un, x12, x13, x14, x15] st = .ok (.nx en) st := by
    intro x5 x7 x8 x10 x12 x13 x14 x15
    have w : Wp (forC ⟨callK TT gc (k + 4), gc, wdT TT⟩ (.one 9) placeB (rngP 1 (((2 ^ n : Nat) : Int) - 1 + 1)) [.val bx, .val (.p (.int n)), .val (.p (.lst ((allB n).map evP))), .val (.p (RS S)), .val (.p (.lst (G.map TF))), x5, .val (.p (.int (((2 ^ n : Nat) : Int) - 1))), x7, x8, .un, x10, .un, x12, x13, x14, x15] st) (fun fl st' => st' = st ∧ ∃ en, fl = .nx en) := by
      refine forC_wp (fun i env st' => st' = st ∧ ∃ t5 t9 t11, env = [.val bx, .val (.p (.int n)), .val (.p (.lst ((allB n).map evP))), .val (.p (RS S)), .val (.p (.lst (G.map TF))), t5, .val (.p (.int (((2 ^ n : Nat) : Int) - 1))), x7, x8, t9, x10, t11, x12, x13, x14, x15]) ?_ ?_ ⟨rfl, _, _, _, rfl⟩
      · rintro i x env st' hx ⟨rfl, t5, t9, t11, rfl⟩
        obtain ⟨rfl, hlt⟩ := rngP_get hx
        rw [show (1 : Int) + (i : Int) = ((i + 1 : Nat) : Int) from by omega]
        obtain ⟨u5, u11, e⟩ := place_step (k := k) (st := st') (n := n) (p := i + 1) (r0 := .val bx) (r2 := .val (.p (.lst ((allB n).map evP)))) (s5 := t5) (s6 := .val (.p (.int (((2 ^ n : Nat) : Int) - 1)))) (s7 := x7) (s8 := x8) (s10 := x10) (s11 := t11) (s12 := x12) (s13 := x13) (s14 := x14) (s15 := x15) hn g hS (by omega) (by omega)
        exact ⟨_, rfl, Wp.of_eq e ⟨rfl, _, _, _, rfl⟩⟩
      · rintro env st' ⟨rfl, t5, t9, t11, rfl⟩
        exact ⟨rfl, _, rfl⟩
    obtain ⟨fl, st', e, rfl, en, rfl⟩ := w.ex
    exact ⟨en, e⟩
  simp only [placeB, d36] at last
  -- the pair
  have pr : ∀ (x5 x12 x14 : Sl) (x10 : Sl), True := fun _ _ _ _ => trivial
  have lcw : S.any (far n) = false → callK TT gc (k + 4) 35 [.p (.lst ((allB n).map fun fs => .str (MS.sT (MM.strip fs)))), .p (RS S)] st = (match fp S.length (qS n S) with
      | some p => .ok (prD p) st
      | none => .ok (.p .non) st : R D) := fun z => law_clash (k := k + 2) (st := st) hn hS (fun s hs => by
    have := List.any_eq_false.mp z s hs
    simp only [far, decide_eq_true_eq] at this
    omega)
  unfold clashR at cw
  unfold toldR at tw
  cases q : tl n S (L0 n) with
  | none =>
    have hG0 := g.none hS.pos q
    have ie : G.isEmpty = true := by rw [hG0]; rfl
    rw [ie] at e4
    rw [q] at tw
    cases hfar : S.any (far n) with
    | true =>
      rw [hfar] at e7 cw
      rw [if_pos rfl] at cw
      dsimp? [d36, cc _ rfl, e4, tw, WDn, eqNV, db, isq, hf, e7, cw, WDp, eqPV, rngOk_any]
      obtain ⟨en, e⟩ := last _ _ _ _ _ _ _ _
      rw [e]
      dsimp? [List.take_length]
    | false =>
      rw [hfar] at e7 cw
      rw [if_neg Bool.false_ne_true] at cw
      have lc := lcw hfar
      cases hq : fp S.length (qS n S) with
      | some p =>
        rw [hq] at cw lc
        simp only [prD] at cw lc
        dsimp? [d36, cc _ rfl, e4, tw, WDn, eqNV, db, isq, hf, e7, mc, cw, lc, eqPr, rngOk_any]
        obtain ⟨en, e⟩ := last _ _ _ _ _ _ _ _
        rw [e]
        dsimp? [List.take_length]
      | none =>
        rw [hq] at cw lc
        dsimp? [d36, cc _ rfl, e4, tw, WDn, eqNV, db, isq, hf, e7, mc, cw, lc, eqNN, rngOk_any]
        obtain ⟨en, e⟩ := last _ _ _ _ _ _ _ _
        rw [e]
        dsimp? [List.take_length]
  | some M =>
    have hGn : G.isEmpty = false := by
      have := g.fill hS.pos q 0 true
      cases G with
      | nil => cases this
      | cons a b => rfl
    rw [hGn] at e4
    rw [q] at tw
    obtain ⟨t10, t14, el⟩ := due_loop (k := k + 4) (st := st) (r0 := .val bx) (r1 := .val (.p (.int n))) (r2 := .val (.p (.lst ((allB n).map evP)))) (r3 := .val (.p (RS S))) (s6 := .un) (s7 := .un) (s8 := .un) (s9 := .un) (s10 := .un) (s11 := .un) (s12 := .un) (s13 := .un) (s14 := .un) (s15 := .un) hn g hS.pos q
    simp only [dueB, d36] at el
    cases hfar : S.any (far n) with
    | true =>
      rw [hfar] at e7 cw
      rw [if_pos rfl] at cw
      dsimp? [d36, cc _ rfl, e4, rngOk_any, el, tw, eqTO, db, isq, hf, e7, cw, WDp, eqPV]
      obtain ⟨en, e⟩ := last _ _ _ _ _ _ _ _
      rw [e]
      dsimp? [List.take_length]
    | false =>
      rw [hfar] at e7 cw
      rw [if_neg Bool.false_ne_true] at cw
      have lc := lcw hfar
      cases hq : fp S.length (qS n S) with
      | some p =>
        rw [hq] at cw lc
        simp only [prD] at cw lc
        dsimp? [d36, cc _ rfl, e4, rngOk_any, el, tw, eqTO, db, isq, hf, e7, mc, cw, lc, eqPr]
        obtain ⟨en, e⟩ := last _ _ _ _ _ _ _ _
        rw [e]
        dsimp? [List.take_length]
      | none =>
        rw [hq] at cw lc
        dsimp? [d36, cc _ rfl, e4, rngOk_any, el, tw, eqTO, db, isq, hf, e7, mc, cw, lc, eqNN]
        obtain ⟨en, e⟩ := last _ _ _ _ _ _ _ _
        rw [e]
        dsimp? [List.take_length]
end

end LAW
end

section
set_option Elab.async false
set_option linter.all false
set_option maxRecDepth 100000
set_option maxHeartbeats 0
set_option autoImplicit false
namespace LAW
open PySem L2 DE
local macro_rules
  | `(tactic| dsimp? [$xs,*] $[$loc:location]?) => `(tactic| simp only [$xs,*, EVC, EVD, EVS, pow18, pow28, pow30, setS, setO, startE, List.map_cons, List.map_nil, List.getElem?_cons_zero, List.getElem?_cons_succ, List.set_cons_zero, List.set_cons_succ, List.replicate_succ, List.replicate_zero, List.cons_append, List.nil_append, List.append_nil, if_true, if_false, Bool.true_and, Bool.and_true, List.length_cons, List.length_nil, Int.cast_ofNat_Int, BEq.rfl, eq_self, Option.map_some, Bool.not_true, Bool.not_false, decide_true, decide_false, Int.reduceLT, Int.reduceLE, Int.reduceNeg, Nat.reduceAdd, Nat.reduceLeDiff, Int.reduceAdd, Int.reduceSub, Int.reduceMul, Int.reduceEq, Nat.reduceSub, Nat.sub_self, Int.reduceBEq, Int.reduceBNe, Nat.reduceEqDiff, Int.reduceMod, Int.reduceDiv, GC0, GC1, GC2, GC3, GC4, GC5, GC6] $[$loc]?)
  | `(tactic| dsimp? $[$loc:location]?) => `(tactic| simp only [EVC, EVD, EVS, pow18, pow28, pow30, setS, setO, startE, List.map_cons, List.map_nil, List.getElem?_cons_zero, List.getElem?_cons_succ, List.set_cons_zero, List.set_cons_succ, List.replicate_succ, List.replicate_zero, List.cons_append, List.nil_append, List.append_nil, if_true, if_false, Bool.true_and, Bool.and_true, List.length_cons, List.length_nil, Int.cast_ofNat_Int, BEq.rfl, eq_self, Option.map_some, Bool.not_true, Bool.not_false, decide_true, decide_false, Int.reduceLT, Int.reduceLE, Int.reduceNeg, Nat.reduceAdd, Nat.reduceLeDiff, Int.reduceAdd, Int.reduceSub, Int.reduceMul, Int.reduceEq, Nat.reduceSub, Nat.sub_self, Int.reduceBEq, Int.reduceBNe, Nat.reduceEqDiff, Int.reduceMod, Int.reduceDiv, GC0, GC1, GC2, GC3, GC4, GC5, GC6] $[$loc]?)


section
open M5
theorem eqv_OP (a b : Option Bool) : P.eqv (OP a) (OP b) = (a == b) := by
  cases a with
  | none =>
    cases b with
    | none => simp [OP, P.eqv]
    | some b => cases b <;> simp [OP, FP, P.eqv]
  | some a =>
    cases b with
    | none => cases a <;> simp [OP, FP, P.eqv]
    | some b =>
      show P.eqv (FP a) (FP b) = _
      rw [eqv_FP]
      cases a <;> cases b <;> rfl
theorem eqvs_OP : ∀ x y : List (Option Bool), P.eqvs (x.map OP) (y.map OP) = (x == y)
  | [], [] => by simp [P.eqvs]
  | [], b :: y => by simp [P.eqvs]
  | a :: x, [] => by simp [P.eqvs]
  | a :: x, b :: y => by
    rw [List.map_cons, List.map_cons, P.eqvs, eqv_OP, eqvs_OP x y]
    simp
theorem eqTO2 (M N : List (Option Bool)) : opEq (TO M) (TO N) = some (M == N) := by
  rw [opEq_ok (okTO 63 M) (okTO 63 N)]
  show some (P.eqvs _ _) = _
  rw [eqvs_OP]
theorem fp_none {m : Nat} {q : Nat → Nat → Bool} (h : ∀ i j, i < j → j < m → q i j = false) : fp m q = none := by
  unfold fp
  rw [List.findSome?_eq_none_iff]
  intro i hi
  rw [Option.map_eq_none_iff, List.find?_eq_none]
  intro j hj
  have h1 := List.mem_range'_1.mp hj
  rw [h i j (by omega) (by omega)]
  decide
/-- sights of a strip -/
structure Of (n : Nat) (fs : List Bool) (S : List (Nat × Bool)) : Prop where
  one : ∀ s ∈ S, 0 < s.1 ∧ s.1 ≤ 1000000000000000000000000000000 ∧ s.1 < 2 ^ n ∧ s.2 = MM.cr fs s.1
variable {n : Nat} {fs : List Bool} {S : List (Nat × Bool)} {M : List (Option Bool)}
theorem Of.gd (o : Of n fs S) (hl : fs.length = n) : ∀ s ∈ S, M5.gd1 fs s = true := fun s hs => by
  obtain ⟨_, _, h3, h4⟩ := o.one s hs
  unfold M5.gd1
  rw [hl, decide_eq_true h3, h4, Bool.true_and, beq_self_eq_true]
theorem Of.gs (o : Of n fs S) (hl : fs.length = n) : M5.gs fs S = true := List.all_eq_true.mpr (o.gd hl)
theorem Of.pos (o : Of n fs S) : ∀ s ∈ S, 0 < s.1 := fun s hs => (o.one s hs).1
theorem Of.told (o : Of n fs S) (hl : fs.length = n) : ∃ M, tl n S (L0 n) = some M ∧ M.length = n ∧ ag fs M ∧ ∀ s ∈ S, ∃ b, M[ix n s.1]? = some (some b) ∧ MM.cr fs s.1 = (b == decide ((hvE s.1).2 % 4 = 1)) := by
  cases q : tl n S (L0 n) with
  | none =>
    have := tl_none (L0_len n) o.pos q fs hl (ag_L0 n fs)
    rw [o.gs hl] at this
    cases this
  | some M =>
    obtain ⟨h1, h2, h3⟩ := tl_some (L0_len n) o.pos q
    have a : ag fs M := (h3 fs hl).mpr ⟨ag_L0 n fs, o.gs hl⟩
    refine ⟨M, rfl, h1, a, fun s hs => ?_⟩
    have h0 := o.pos s hs
    have hi := ix_lt h0 (h2 s hs)
    obtain ⟨oo, ho⟩ : ∃ oo, M[ix n s.1]? = some oo := ⟨_, List.getElem?_eq_getElem (by omega)⟩
    cases oo with
    | some b => exact ⟨b, ho, cr_ix hl h0 (h2 s hs) (a _ b ho)⟩
    | none =>
      have fl : (fillB M (ix n s.1) (!fx s)).length = n := by rw [fillB_len]; exact h1
      have g := ((h3 _ fl).mp (fillB_ag M _ _)).2
      have g1 := ((gd_iff fl h0).mp (List.all_eq_true.mp g s hs)).2
      rw [fillB_at ho] at g1
      have := Option.some.inj g1
      revert this
      generalize fx s = c
      cases c <;> intro z <;> cases z
theorem Of.ne (o : Of n fs S) (hl : fs.length = n) (hS : S ≠ []) (q : tl n S (L0 n) = some M) : (M == L0 n) = false := by
  rw [beq_eq_false_iff_ne]
  rintro rfl
  obtain ⟨h1, h2, h3⟩ := tl_some (L0_len n) o.pos q
  obtain ⟨s, hs⟩ := List.exists_mem_of_ne_nil S hS
  have h0 := o.pos s hs
  have hi := ix_lt h0 (h2 s hs)
  have fl : (List.replicate n (!fx s)).length = n := List.length_replicate
  have g := ((h3 _ fl).mp (ag_L0 n _)).2
  have g1 := ((gd_iff fl h0).mp (List.all_eq_true.mp g s hs)).2
  rw [List.getElem?_replicate, if_pos hi] at g1
  have := Option.some.inj g1
  revert this
  generalize fx s = c
  cases c <;> intro z <;> cases z
theorem Of.clash (o : Of n fs S) (hl : fs.length = n) : S.any (far n) = false ∧ fp S.length (qS n S) = none := by
  refine ⟨?_, fp_none fun i j hij hj => ?_⟩
  · rw [List.any_eq_false]
    intro s hs
    have := (o.one s hs).2.2.1
    simp only [far, decide_eq_true_eq]
    omega
  · have gi : S.getD i dS = S[i] := by rw [List.getD_eq_getElem?_getD, List.getElem?_eq_getElem (by omega)]; rfl
    have gj : S.getD j dS = S[j] := by rw [List.getD_eq_getElem?_getD, List.getElem?_eq_getElem hj]; rfl
    have mi : S[i] ∈ S := List.getElem_mem (by omega)
    have mj : S[j] ∈ S := List.getElem_mem hj
    unfold qS
    rw [gi, gj]
    cases q : pq n S[i] S[j] with
    | false => rfl
    | true =>
      have := (pair_iff (o.pos _ mi) (o.pos _ mj) (o.one _ mi).2.2.1 (o.one _ mj).2.2.1).mpr q fs hl
      unfold M5.gs at this
      rw [List.all_cons, List.all_cons, o.gd hl _ mi, o.gd hl _ mj] at this
      cases this
end
section
open M5
variable {k : Nat} {st : Store}
theorem law_far {b : Nat} {fs : List Bool} (hs : Sh st b) (hl : 60 ≤ fs.length) (hl2 : fs.length ≤ 100) :
    Wp (callK TT gc (k + 6) 37 [.box b, .p (TF fs)] st) fun d st' => d = .p (.bl true) ∧ Drawn st b st' := by
  have db := doubled (k := k + 4) (st := st) (n := fs.length) (by omega)
  have p60 : 2 ^ 60 ≤ 2 ^ fs.length := Nat.pow_le_pow_right (by decide) hl
  have p60v : (2 : Nat) ^ 60 = 1152921504606846976 := by decide
  have lTF : opBi .len [TF fs] = some (.int fs.length) := by
    show some (P.int ((fs.map FP).length : Nat)) = _
    rw [List.length_map]
  generalize hn : fs.length = n at hl hl2 db p60 lTF
  rw [callK_eq T37 rfl]
  dsimp? [d37, lTF, db, rngOk_any]
  refine Wp.fin (wp_kB (forC_wp (fun i env st' => Drawn st b st' ∧ ∃ S s5 s7 s9, Of n fs S ∧ S.length = i ∧ env = [.val (.box b), .val (.p (TF fs)), .val (.p (.int n)), .val (.p (.int (((2 ^ n : Nat) : Int) - 1))), .val (.p (.tup (S.map sgt))), s5, .un, s7, .un, s9, .un]) ?_ ?_ ⟨.refl hs, [], .un, .un, .un, ⟨fun s h => nomatch h⟩, rfl, rfl⟩))
  · rintro i x env st' hx ⟨D, S, s5, s7, s9, o, hi, rfl⟩
    obtain ⟨rfl, hlt⟩ := rngP_get hx
    refine ⟨_, rfl, ?_⟩
    -- the place
    generalize hm : (if (1000000000000000000000000000000 : Int) < ((2 ^ n : Nat) : Int) - 1 then (1000000000000000000000000000000 : Int) else ((2 ^ n : Nat) : Int) - 1) = m
    have hm1 : 1 ≤ m ∧ m ≤ 1000000000000000000000000000000 ∧ m < ((2 ^ n : Nat) : Int) := by
      rw [← hm]
      split <;> omega
    obtain ⟨_, st1, e1, r1, rfl, r10, r11, D1⟩ := (tear (k := k + 4) (m := m) D.1 (by omega) (log_le (n := n) (by omega) (by omega) (by omega))).ex
    obtain ⟨_, st2, e2, r2, rfl, r20, r21, D2⟩ := (tear (k := k + 4) (m := (n : Int)) D1.1 (by omega) (log_lit (by omega) (by omega))).ex
    obtain ⟨j, rfl⟩ := Int.eq_ofNat_of_zero_le r20
    have hj : j < n := by omega
    have db2 := doubled (k := k + 4) (st := st2) (n := j) (by omega)
    have pj : 2 ^ j < 2 ^ n := Nat.pow_lt_pow_right (by decide) hj
    have pj0 := MM.two_pos j
    generalize hq : (if ((2 ^ j : Nat) : Int) < (1000000000000000000000000000000 : Int) then ((2 ^ j : Nat) : Int) else (1000000000000000000000000000000 : Int)) = q
    have hq1 : 1 ≤ q ∧ q ≤ 1000000000000000000000000000000 ∧ q < ((2 ^ n : Nat) : Int) := by
      rw [← hq]
      split <;> omega
    obtain ⟨_, st3, e3, y, rfl, hy, D3⟩ := (pick (k := k + 3) (xs := [.int (1 + r1), .int q]) D2.1 (by simp) (by simp)).ex
    obtain ⟨p, rfl, hp1, hp2, hp3⟩ : ∃ p : Nat, y = .int p ∧ 0 < p ∧ p ≤ 1000000000000000000000000000000 ∧ p < 2 ^ n := by
      simp only [List.mem_cons, List.not_mem_nil, or_false] at hy
      rcases hy with rfl | rfl
      · exact ⟨(1 + r1).toNat, by rw [Int.toNat_of_nonneg (by omega)], by omega, by omega, by omega⟩
      · exact ⟨q.toNat, by rw [Int.toNat_of_nonneg (by omega)], by omega, by omega, by omega⟩
    have lc := law_crease (k := k + 3) (st := st3) (fs := fs) (p := p) hp1 (by rw [hn]; exact hp3) (by omega)
    have sm : small ((S.map sgt).length + 1) = true := small_lit (by rw [List.length_map]; omega)
    rw [List.length_map] at sm
    dsimp? [pow30, hm, e1, e2, db2, hq, e3, lc, List.length_map, sm]
    refine ⟨((D.trans D1).trans D2).trans D3, S ++ [(p, MM.cr fs p)], _, _, _, ⟨fun s hs => ?_⟩, by rw [List.length_append, hi]; rfl, by rw [List.map_append]; rfl⟩
    rcases List.mem_append.mp hs with hs | hs
    · exact o.one s hs
    · rw [List.mem_singleton.mp hs]
      exact ⟨hp1, hp2, hp3, rfl⟩
  · rintro env st' ⟨D, S, s5, s7, s9, o, hi, rfl⟩
    rw [rngP_len] at hi
    have hS8 : S.length = 8 := hi
    have hSn : S ≠ [] := fun z => by rw [z] at hS8; cases hS8
    have sok : SOk S := ⟨by omega, o.pos, fun s hs => (o.one s hs).2.1⟩
    obtain ⟨M, tM, hM, aM, seen⟩ := o.told hn
    obtain ⟨c1, c2⟩ := o.clash hn
    have rs : RS S = .tup (S.map sgt) := rfl
    have tw : callK TT gc (k + 5) 11 [.p (.int n), .p (RS S)] st' = .ok (.p (TO M)) st' := by rw [told (k := k + 1) hl2 sok]; unfold toldR; rw [tM]
    have cw : callK TT gc (k + 5) 12 [.p (.int n), .p (RS S)] st' = .ok (.p .non) st' := by rw [clash (k := k + 1) hl2 sok]; unfold clashR; rw [c1, if_neg Bool.false_ne_true, c2]
    rw [rs] at tw cw
    have lM : opBi .len [TO M] = some (.int n) := by
      show some (P.int ((M.map OP).length : Nat)) = _
      rw [List.length_map, hM]
    have cc : ∀ x5 x7 x8 x9 x10 : Sl, compC ⟨callK TT gc (k + 5), gc, wdT TT⟩ (.v 10) (.som (.cmp .NotIn (.idx (.v 6) (.v 10)) (.tup (.cons .non (.cons (.idx (.v 1) (.v 10)) .nil))))) (.one 10) [.val (.box b), .val (.p (TF fs)), .val (.p (.int n)), .val (.p (.int (((2 ^ n : Nat) : Int) - 1))), .val (.p (.tup (S.map sgt))), x5, .val (.p (TO M)), x7, x8, x9, x10] (rngP 0 (n : Int)) st' = .ok [] st' := by
      intro x5 x7 x8 x9 x10
      rw [compC_det (b := fun _ => false) (y := fun x => x)]
      · have : ∀ l : List P, (l.filter fun _ => false) = [] := fun l => List.filter_eq_nil_iff.mpr fun _ _ => by decide
        rw [this]
        rfl
      · intro x hx
        obtain ⟨i, hi⟩ := List.mem_iff_getElem?.mp hx
        obtain ⟨rfl, hlt⟩ := rngP_get hi
        have c0 : (0 : Int) + (i : Int) = (i : Int) := Int.zero_add _
        rw [c0]
        obtain ⟨oo, ho⟩ : ∃ oo, M[i]? = some oo := ⟨_, List.getElem?_eq_getElem (by omega)⟩
        obtain ⟨f, hf⟩ : ∃ f, fs[i]? = some f := ⟨_, List.getElem?_eq_getElem (by omega)⟩
        have g1 : opIdx (TO M) (.int (i : Nat)) = some (OP oo) := by
          show atI (M.map OP) (i : Int) = _
          rw [atI_natQ (by rw [List.length_map]; omega), List.getElem?_map, ho]
          rfl
        have g2 : opIdx (TF fs) (.int (i : Nat)) = some (FP f) := by
          show atI (fs.map FP) (i : Int) = _
          rw [atI_natQ (by rw [List.length_map]; omega), List.getElem?_map, hf]
          rfl
        have g3 : (oo == none || oo == some f) = true := by
          cases oo with
          | none => rfl
          | some c =>
            have := aM i c ho
            rw [hf] at this
            cases this
            simp
        refine ⟨_, rfl, ?_, fun z => nomatch z⟩
        dsimp? [g1, g2, in_nf, g3]
      · rw [rngP_len]; omega
    have el : opEq (.lst []) (.lst []) = some true := eqL0' (by rfl)
    have nn : P.isNon .non = true := rfl
    have eN : opEq (TO M) (.tup ((L0 n).map OP)) = some false := by
      have := eqTO2 M (L0 n)
      rw [o.ne hn hSn tM] at this
      exact this
    have i1 : ((n : Int) ≤ 1000) := by omega
    have i2 : ((-1000 : Int) ≤ (n : Int)) := by omega
    dsimp? [tw, lM, BEq.rfl, rngOk_any, cc, el, cw, nn, i1, i2, rep_one, OP_L0, eN]
    refine wp_kB (forC_wp (fun i env st2 => st2 = st' ∧ ∃ s7 s8, env = [.val (.box b), .val (.p (TF fs)), .val (.p (.int n)), .val (.p (.int (((2 ^ n : Nat) : Int) - 1))), .val (.p (.tup (S.map sgt))), s5, .val (.p (TO M)), s7, s8, s9, .un]) ?_ ?_ ⟨rfl, _, _, rfl⟩)
    · rintro i x env st2 hx ⟨rfl, s7, s8, rfl⟩
      obtain ⟨s, hs, rfl⟩ := List.mem_map.mp (List.mem_of_getElem? hx)
      obtain ⟨h1, h2, h3, h4⟩ := o.one s hs
      obtain ⟨bb, hb1, hb2⟩ := seen s hs
      have sw : callK TT gc (k + 5) 13 [.p (.int n), .p (RS S), .p (.int s.1)] st2 = .ok (.p (CP s.2)) st2 := by
        rw [sure (k := k + 1) hl2 sok h1 h3]
        unfold sureR
        rw [tM]
        show (DE.R.ok (DE.D.p (sureV n M s.1)) st2 : DE.R DE.D) = _
        unfold sureV
        rw [hb1, h4, hb2]
      rw [rs] at sw
      refine ⟨_, rfl, ?_⟩
      dsimp? [sw, eqCC]
      exact ⟨trivial, _, _, rfl⟩
    · rintro env st2 ⟨rfl, s7, s8, rfl⟩
      dsimp?
      exact ⟨rfl, D.tk⟩
end

end LAW
end

section
set_option Elab.async false
set_option linter.all false
set_option maxRecDepth 100000
set_option maxHeartbeats 0
set_option autoImplicit false
namespace LAW
open PySem L2 DE
local macro_rules
  | `(tactic| dsimp? [$xs,*] $[$loc:location]?) => `(tactic| simp only [$xs,*, EVC, EVD, EVS, pow18, pow28, pow30, setS, setO, startE, List.map_cons, List.map_nil, List.getElem?_cons_zero, List.getElem?_cons_succ, List.set_cons_zero, List.set_cons_succ, List.replicate_succ, List.replicate_zero, List.cons_append, List.nil_append, List.append_nil, if_true, if_false, Bool.true_and, Bool.and_true, List.length_cons, List.length_nil, Int.cast_ofNat_Int, BEq.rfl, eq_self, Option.map_some, Bool.not_true, Bool.not_false, decide_true, decide_false, Int.reduceLT, Int.reduceLE, Int.reduceNeg, Nat.reduceAdd, Nat.reduceLeDiff, Int.reduceAdd, Int.reduceSub, Int.reduceMul, Int.reduceEq, Nat.reduceSub, Nat.sub_self, Int.reduceBEq, Int.reduceBNe, Nat.reduceEqDiff, Int.reduceMod, Int.reduceDiv, GC0, GC1, GC2, GC3, GC4, GC5, GC6] $[$loc]?)
  | `(tactic| dsimp? $[$loc:location]?) => `(tactic| simp only [EVC, EVD, EVS, pow18, pow28, pow30, setS, setO, startE, List.map_cons, List.map_nil, List.getElem?_cons_zero, List.getElem?_cons_succ, List.set_cons_zero, List.set_cons_succ, List.replicate_succ, List.replicate_zero, List.cons_append, List.nil_append, List.append_nil, if_true, if_false, Bool.true_and, Bool.and_true, List.length_cons, List.length_nil, Int.cast_ofNat_Int, BEq.rfl, eq_self, Option.map_some, Bool.not_true, Bool.not_false, decide_true, decide_false, Int.reduceLT, Int.reduceLE, Int.reduceNeg, Nat.reduceAdd, Nat.reduceLeDiff, Int.reduceAdd, Int.reduceSub, Int.reduceMul, Int.reduceEq, Nat.reduceSub, Nat.sub_self, Int.reduceBEq, Int.reduceBNe, Nat.reduceEqDiff, Int.reduceMod, Int.reduceDiv, GC0, GC1, GC2, GC3, GC4, GC5, GC6] $[$loc]?)


section
open M5
structure SOk' (S : List (Nat × Bool)) : Prop where
  one : ∀ s ∈ S, 0 < s.1 ∧ s.1 ≤ 40
def tailB : IB := match d39.body with
  | .cons _ b => b
  | _ => .nil
def okF (r : R Fl) : Bool := match r with
  | .ok (.rt (.p (.bl true))) _ => true
  | _ => false
theorem okF_ex {r : R Fl} (h : okF r = true) : ∃ st, r = .ok (.rt (.p (.bl true))) st := by
  unfold okF at h
  split at h
  · exact ⟨_, rfl⟩
  · cases h
theorem tail_ok (ns : List Int) (s1 s2 s3 s4 s5 s6 s7 s8 s9 s10 s11 : Sl) (st : Store) : okF (DE.execs ⟨callK TT gc 60, gc, wdT TT⟩ tailB [.val (.p (.scr ns)), s1, s2, s3, s4, s5, s6, s7, s8, s9, s10, s11] st) = true := by kernel_rfl
theorem law_true (ns : List Int) (hl : ns.length ≤ 63) (hb : ∀ z ∈ ns, Builtin.Int.intBits z ≤ 1048576) : ∃ st, callK TT gc 61 39 [.p (.scr ns)] [] = .ok (.p (.bl true)) st := by
  have w : Wp (callK TT gc 61 39 [.p (.scr ns)] []) fun d st => d = .p (.bl true) := by
    rw [callK_eq T39 rfl]
    have tl := tail_ok ns
    dsimp? [d39]
    generalize hm : (if (4 : Int) < if (ns.length : Int) < 8 then (ns.length : Int) else 8 then _ else (4 : Int)) = m
    have hm1 : 4 ≤ m ∧ m ≤ 8 := by
      rw [← hm]
      split
      · split at * <;> omega
      · omega
    dsimp? [rngOk_any]
    refine Wp.fin (wp_kB (forC_wp (fun i env st => ∃ s1 s2 s3 s4 s5 s6 s7 s8 s9 s10 s11, env = [.val (.p (.scr ns)), s1, s2, s3, s4, s5, s6, s7, s8, s9, s10, s11]) ?_ ?_ ⟨_, _, _, _, _, _, _, _, _, _, _, rfl⟩))
    · rintro i x env st hx ⟨s1, s2, s3, s4, s5, s6, s7, s8, s9, s10, s11, rfl⟩
      obtain ⟨rfl, hlt⟩ := rngP_get hx
      refine ⟨_, rfl, ?_⟩
      have c0 : (0 : Int) + (i : Int) = (i : Int) := Int.zero_add _
      dsimp? [c0]
      obtain ⟨_, st1, e1, rfl, S1, hl1⟩ := (sheet (k := 59) (st := st) (ns := ns) (i := i) (by omega)).ex
      simp only [Nat.reduceAdd] at e1
      dsimp? [e1]
      generalize st.length = b at S1 hl1
      obtain ⟨_, st2, e2, r1, rfl, r10, r11, D2⟩ := (tear (k := 59) (m := 4) S1 (by decide) (log_lit (by decide) (by decide))).ex
      simp only [Nat.reduceAdd] at e2
      obtain ⟨j, rfl⟩ := Int.eq_ofNat_of_zero_le r10
      have c1 : (1 : Int) + (j : Int) = ((j + 1 : Nat) : Int) := by omega
      dsimp? [e2, c1]
      generalize hn : j + 1 = n
      have hn1 : 1 ≤ n := by omega
      have hn4 : n ≤ 4 := by omega
      have h16 := allB_len hn4
      have la := law_all (k := 59) (st := st2) hn1 hn4
      simp only [Nat.reduceAdd] at la
      have cc : ∀ x5 x7 x8 x9 x10 x11 x4 : Sl, compC ⟨callK TT gc 60, gc, wdT TT⟩ (.tup (.cons (.v 6) (.cons (.call 21 (.cons (.v 6) .nil)) .nil))) .non (.one 6) [.val (.p (.scr ns)), .val (.p (.int i)), .val (.box b), .val (.p (.int n)), x4, x5, .un, x7, x8, x9, x10, x11] ((allB n).map TF) st2 = .ok ((allB n).map evP) st2 := by
        intro x5 x7 x8 x9 x10 x11 x4
        refine compC_listM evP (fun fs hfs => ?_) (by omega)
        have hl := mem_allB.mp hfs
        have ls := law_strip (k := 58) (st := st2) (fs := fs) (by omega)
        simp only [Nat.reduceAdd] at ls
        refine ⟨_, rfl, .p (evP fs), ?_, rfl⟩
        dsimp? [ls]
        rfl
      have hne : (allB n).map evP ≠ [] := fun z => by
        rw [List.map_eq_nil_iff] at z
        have := mem_allB.mpr (List.length_replicate (n := n) (a := true))
        rw [z] at this
        cases this
      dsimp? [la, cc, rngOk_any]
      refine wp_kB (forC_wp (fun _ env st' => Drawn st1 b st' ∧ ∃ s5 s6 s7 s8 s9 s10 s11, env = [.val (.p (.scr ns)), .val (.p (.int i)), .val (.box b), .val (.p (.int n)), .val (.p (.lst ((allB n).map evP))), s5, s6, s7, s8, s9, s10, s11]) ?_ ?_ ⟨D2, _, _, _, _, _, _, _, rfl⟩)
      · rintro t x env st' hx ⟨D3, s5, s6, s7, s8, s9, s10, s11, rfl⟩
        obtain ⟨rfl, hlt5⟩ := rngP_get hx
        refine ⟨_, rfl, ?_⟩
        obtain ⟨_, st4, e4, y, rfl, hy, D4⟩ := (pick (k := 58) (xs := (allB n).map evP) D3.1 hne (by rw [List.length_map]; omega)).ex
        obtain ⟨fs, hfs, rfl⟩ := List.mem_map.mp hy
        have hl := mem_allB.mp hfs
        have ln : (MM.strip fs).length = 2 ^ n - 1 := by rw [MM.strip_len, hl]
        have tp : 2 ^ n ≤ 16 := by
          have : 2 ^ n ≤ 2 ^ 4 := Nat.pow_le_pow_right (by decide) hn4
          exact this
        have tp2 : 2 ≤ 2 ^ n := by
          have : 2 ^ 1 ≤ 2 ^ n := Nat.pow_le_pow_right (by decide) hn1
          exact this
        have sl : small (MS.sT (MM.strip fs)).length = true := small_lit (by rw [MS.sT_len]; omega)
        have ll : lenS (MS.sT (MM.strip fs)) = some (MM.strip fs).length := by rw [← MS.sT_len]; exact if_pos sl
        simp only [Nat.reduceAdd] at e4
        simp only [evP] at e4
        obtain ⟨_, st5, e5, r5, rfl, r50, r51, D5⟩ := (tear (k := 59) (m := 5) D4.1 (by decide) (log_lit (by decide) (by decide))).ex
        simp only [Nat.reduceAdd] at e5
        dsimp? [evP, e4, e5, rngOk_any]
        refine wp_kB (forC_wp (fun q env st' => Drawn st1 b st' ∧ ∃ S s9 s10 s11, SOk' S ∧ S.length = q ∧ env = [.val (.p (.scr ns)), .val (.p (.int i)), .val (.box b), .val (.p (.int n)), .val (.p (.lst ((allB n).map evP))), .val (.p (.int (0 + (t : Int)))), .val (.p (TF fs)), .val (.p (.str (MS.sT (MM.strip fs)))), .val (.p (.tup (S.map sgt))), s9, s10, s11]) ?_ ?_ ⟨(D3.trans D4).trans D5, [], _, _, _, ⟨fun s h => nomatch h⟩, rfl, rfl⟩)
        · rintro q x env st6 hx ⟨D6, S, s9, s10, s11, so, hq, rfl⟩
          obtain ⟨rfl, hlt6⟩ := rngP_get hx
          refine ⟨_, rfl, ?_⟩
          obtain ⟨_, st7, e7, r7, rfl, r70, r71, D7⟩ := (tear (k := 59) (m := ((MM.strip fs).length : Int)) D6.1 (by omega) (log_lit (by omega) (by omega))).ex
          simp only [Nat.reduceAdd] at e7
          obtain ⟨p0, rfl⟩ := Int.eq_ofNat_of_zero_le r70
          have c2 : (1 : Int) + (p0 : Int) = ((p0 + 1 : Nat) : Int) := by omega
          obtain ⟨_, st8, e8, r8, rfl, r80, r81, D8⟩ := (tear (k := 59) (m := 6) D7.1 (by decide) (log_lit (by decide) (by decide))).ex
          simp only [Nat.reduceAdd] at e8
          have ct := cut1 (fs := fs) (p := p0 + 1) (by omega) (by rw [hl]; omega)
          have sc := sT_CP (MM.cr fs (p0 + 1))
          -- the rest of a turn
          have rest : ∀ (c : Bool) (st9 : Store), Drawn st1 b st9 → ∃ st10 p, callK TT gc 60 15 [.box b, .p (.int 15)] st9 = .ok (.p (.int (p : Nat))) st10 ∧ Drawn st1 b st10 := by
            intro c st9 D9
            obtain ⟨_, st10, e10, r10, rfl, r100, r101, D10⟩ := (tear (k := 59) (m := 15) D9.1 (by decide) (log_lit (by decide) (by decide))).ex
            simp only [Nat.reduceAdd] at e10
            obtain ⟨p, rfl⟩ := Int.eq_ofNat_of_zero_le r100
            exact ⟨st10, p, e10, D9.trans D10⟩
          have sm : small ((S.map sgt).length + 1) = true := small_lit (by rw [List.length_map]; omega)
          rw [List.length_map] at sm
          have done : ∀ (p : Nat) (c : Bool), 0 < p → p ≤ 40 → SOk' (S ++ [(p, c)]) := fun p c h1 h2 => ⟨fun s hs => by
            rcases List.mem_append.mp hs with hs | hs
            · exact so.one s hs
            · rw [List.mem_singleton.mp hs]
              exact ⟨h1, h2⟩⟩
          have c3 : ((p0 + 1 : Nat) : Int) + ((MM.strip fs).length : Int) = ((p0 + 1 + (MM.strip fs).length : Nat) : Int) := by omega
          have c4 : ((p0 + 1 : Nat) : Int) + 0 = ((p0 + 1 : Nat) : Int) := by omega
          cases h8 : (r8 == 0) with
          | false =>
            obtain ⟨st10, z, e10, D10⟩ := rest true st8 ((D6.trans D7).trans D8)
            cases h10 : ((z : Int) == 0) with
            | false =>
              dsimp? [ll, e7, c2, sl, ct, sc, mkCP, e8, h8, e10, h10, c4, List.length_map, sm]
              exact ⟨D10, S ++ [(p0 + 1, MM.cr fs (p0 + 1))], _, _, _, done _ _ (by omega) (by omega), by rw [List.length_append, hq]; rfl, by rw [List.map_append]; rfl⟩
            | true =>
              dsimp? [ll, e7, c2, sl, ct, sc, mkCP, e8, h8, e10, h10, c3, List.length_map, sm]
              exact ⟨D10, S ++ [(p0 + 1 + (MM.strip fs).length, MM.cr fs (p0 + 1))], _, _, _, done _ _ (by omega) (by omega), by rw [List.length_append, hq]; rfl, by rw [List.map_append]; rfl⟩
          | true =>
            obtain ⟨_, st9, e9, y, rfl, hy, D9⟩ := (pick (k := 58) (xs := [.str "v", .str "m"]) D8.1 (by simp) (by simp)).ex
            simp only [Nat.reduceAdd] at e9
            obtain ⟨c, rfl⟩ : ∃ c, y = CP c := by
              simp only [List.mem_cons, List.not_mem_nil, or_false] at hy
              rcases hy with rfl | rfl
              · exact ⟨true, rfl⟩
              · exact ⟨false, rfl⟩
            obtain ⟨st10, z, e10, D10⟩ := rest true st9 (((D6.trans D7).trans D8).trans D9)
            cases h10 : ((z : Int) == 0) with
            | false =>
              dsimp? [ll, e7, c2, sl, ct, sc, mkCP, e8, h8, e9, e10, h10, c4, List.length_map, sm]
              exact ⟨D10, S ++ [(p0 + 1, c)], _, _, _, done _ _ (by omega) (by omega), by rw [List.length_append, hq]; rfl, by rw [List.map_append]; rfl⟩
            | true =>
              dsimp? [ll, e7, c2, sl, ct, sc, mkCP, e8, h8, e9, e10, h10, c3, List.length_map, sm]
              exact ⟨D10, S ++ [(p0 + 1 + (MM.strip fs).length, c)], _, _, _, done _ _ (by omega) (by omega), by rw [List.length_append, hq]; rfl, by rw [List.map_append]; rfl⟩
        · rintro env st6 ⟨D6, S, s9, s10, s11, so, hq, rfl⟩
          rw [rngP_len] at hq
          have sok : SOk S := ⟨by omega, fun s hs => (so.one s hs).1, fun s hs => by have := (so.one s hs).2; omega⟩
          have sr := small_right (k := 55) (st := st6) (bx := .box b) hn1 hn4 sok
          simp only [Nat.reduceAdd] at sr
          rw [show RS S = .tup (S.map sgt) from rfl] at sr
          dsimp? [sr]
          exact ⟨D6, _, _, _, _, _, _, _, rfl⟩
      · rintro env st' ⟨D3, s5, s6, s7, s8, s9, s10, s11, rfl⟩
        obtain ⟨_, st4, e4, r4, rfl, r40, r41, D4⟩ := (tear (k := 59) (m := 41) D3.1 (by decide) (log_lit (by decide) (by decide))).ex
        simp only [Nat.reduceAdd] at e4
        obtain ⟨_, st5, e5, fs, rfl, hfs, D5⟩ := (folds (k := 57) (m := 60 + r4) D4.1 (by omega) (by omega)).ex
        simp only [Nat.reduceAdd] at e5
        obtain ⟨_, st6, e6, rfl, D6⟩ := (law_far (k := 54) (st := st5) (b := b) (fs := fs) D5.1 (by omega) (by omega)).ex
        simp only [Nat.reduceAdd] at e6
        dsimp? [e4, e5, e6]
        exact ⟨_, _, _, _, _, _, _, _, _, _, _, rfl⟩
    · rintro env st ⟨s1, s2, s3, s4, s5, s6, s7, s8, s9, s10, s11, rfl⟩
      obtain ⟨st', ew⟩ := okF_ex (tl s1 s2 s3 s4 s5 s6 s7 s8 s9 s10 s11 st)
      exact ⟨_, _, ew, rfl⟩
  obtain ⟨d, st, e, rfl⟩ := w.ex
  exact ⟨st, e⟩
end

end LAW
end

section
set_option Elab.async false
set_option linter.all false
set_option maxRecDepth 100000
set_option maxHeartbeats 0
namespace LAW
open PySem L2 DE PyProof.Rows
theorem ck0 : DE.chB { nm with l := false } N0 (defScope (top 22)) d0.body (defBody (top 22)) = true := by decide +kernel
theorem ck1 : DE.chB { nm with l := false } N1 (defScope (top 23)) d1.body (defBody (top 23)) = true := by decide +kernel
theorem ck2 : DE.chB { nm with l := false } N2 (defScope (top 24)) d2.body (defBody (top 24)) = true := by decide +kernel
theorem ck3 : DE.chB { nm with l := false } N3 (defScope (top 28)) d3.body (defBody (top 28)) = true := by decide +kernel
theorem ck4 : DE.chB { nm with l := false } N4 (defScope (top 29)) d4.body (defBody (top 29)) = true := by decide +kernel
theorem ck5 : DE.chB { nm with l := false } N5 (defScope (top 30)) d5.body (defBody (top 30)) = true := by decide +kernel
theorem ck6 : DE.chB { nm with l := false } N6 (defScope (top 31)) d6.body (defBody (top 31)) = true := by decide +kernel
theorem ck7 : DE.chB { nm with l := false } N7 (defScope (top 34)) d7.body (defBody (top 34)) = true := by decide +kernel
theorem ck8 : DE.chB { nm with l := false } N8 (defScope (top 35)) d8.body (defBody (top 35)) = true := by decide +kernel
theorem ck9 : DE.chB { nm with l := false } N9 (defScope (top 36)) d9.body (defBody (top 36)) = true := by decide +kernel
theorem ck10 : DE.chB { nm with l := false } N10 (defScope (top 37)) d10.body (defBody (top 37)) = true := by decide +kernel
theorem ck11 : DE.chB { nm with l := false } N11 (defScope (top 38)) d11.body (defBody (top 38)) = true := by decide +kernel
theorem ck12 : DE.chB { nm with l := false } N12 (defScope (top 39)) d12.body (defBody (top 39)) = true := by decide +kernel
theorem ck13 : DE.chB { nm with l := false } N13 (defScope (top 40)) d13.body (defBody (top 40)) = true := by decide +kernel
theorem ck14 : DE.chB { nm with l := false } N14 (defScope (top 42)) d14.body (defBody (top 42)) = true := by decide +kernel
theorem ck15 : DE.chB { nm with l := false } N15 (defScope (top 43)) d15.body (defBody (top 43)) = true := by decide +kernel
theorem ck16 : DE.chB { nm with l := false } N16 (defScope (top 44)) d16.body (defBody (top 44)) = true := by decide +kernel
theorem ck17 : DE.chB { nm with l := false } N17 (defScope (top 45)) d17.body (defBody (top 45)) = true := by decide +kernel
theorem ck19 : DE.chB { nm with l := false } N19 (defScope (top 47)) d19.body (defBody (top 47)) = true := by decide +kernel
theorem ck20 : DE.chB { nm with l := false } N20 (defScope (top 48)) d20.body (defBody (top 48)) = true := by decide +kernel
theorem ck21 : DE.chB { nm with l := false } N21 (defScope (top 49)) d21.body (defBody (top 49)) = true := by decide +kernel
theorem ck22 : DE.chB { nm with l := false } N22 (defScope (top 50)) d22.body (defBody (top 50)) = true := by decide +kernel
theorem ck23 : DE.chB { nm with l := false } N23 (defScope (top 51)) d23.body (defBody (top 51)) = true := by decide +kernel
theorem ck28 : DE.chB { nm with l := false } N28 (defScope (top 56)) d28.body (defBody (top 56)) = true := by decide +kernel
theorem ck29 : DE.chB { nm with l := false } N29 (defScope (top 57)) d29.body (defBody (top 57)) = true := by decide +kernel
theorem ck32 : DE.chB { nm with l := false } N32 (defScope (top 60)) d32.body (defBody (top 60)) = true := by decide +kernel
theorem ck33 : DE.chB { nm with l := false } N33 (defScope (top 61)) d33.body (defBody (top 61)) = true := by decide +kernel
theorem ck35 : DE.chB { nm with l := false } N35 (defScope (top 63)) d35.body (defBody (top 63)) = true := by decide +kernel
theorem ck36 : DE.chB { nm with l := true } N36 (defScope (top 64)) d36.body (defBody (top 64)) = true := by decide +kernel
theorem ck37 : DE.chB { nm with l := false } N37 (defScope (top 65)) d37.body (defBody (top 65)) = true := by decide +kernel
theorem ck38 : DE.chB { nm with l := true } N38 (defScope (top 66)) d38.body (defBody (top 66)) = true := by decide +kernel
theorem ck39 : DE.chB { nm with l := false } N39 (defScope (top 67)) d39.body (defBody (top 67)) = true := by decide +kernel
def fn : List He.DefD := [
⟨("is_integer", none), "is_integer", "is_integer", defArgs (top 22), defBody (top 22), defScope (top 22), [], []⟩,
  ⟨("need_many", none), "need_many", "need_many", defArgs (top 23), defBody (top 23), defScope (top 23), [], []⟩,
  ⟨("power", none), "power", "power", defArgs (top 24), defBody (top 24), defScope (top 24), [], []⟩,
  ⟨("last_place", none), "last_place", "last_place", defArgs (top 28), defBody (top 28), defScope (top 28), [], []⟩,
  ⟨("halved", none), "halved", "halved", defArgs (top 29), defBody (top 29), defScope (top 29), [], []⟩,
  ⟨("crease_by", none), "crease_by", "crease_by", defArgs (top 30), defBody (top 30), defScope (top 30), [], []⟩,
  ⟨("need_place", none), "need_place", "need_place", defArgs (top 31), defBody (top 31), defScope (top 31), [], []⟩,
  ⟨("is_sight", none), "is_sight", "is_sight", defArgs (top 34), defBody (top 34), defScope (top 34), [], []⟩,
  ⟨("need_sights", none), "need_sights", "need_sights", defArgs (top 35), defBody (top 35), defScope (top 35), [], []⟩,
  ⟨("fold_told", none), "fold_told", "fold_told", defArgs (top 36), defBody (top 36), defScope (top 36), [], []⟩,
  ⟨("told_by", none), "told_by", "told_by", defArgs (top 37), defBody (top 37), defScope (top 37), [], []⟩,
  ⟨("told", none), "told", "told", defArgs (top 38), defBody (top 38), defScope (top 38), [], []⟩,
  ⟨("clash", none), "clash", "clash", defArgs (top 39), defBody (top 39), defScope (top 39), [], []⟩,
  ⟨("sure", none), "sure", "sure", defArgs (top 40), defBody (top 40), defScope (top 40), [], []⟩,
  ⟨("_law_sheet", none), "_law_sheet", "_law_sheet", defArgs (top 42), defBody (top 42), defScope (top 42), [], []⟩,
  ⟨("_law_tear", none), "_law_tear", "_law_tear", defArgs (top 43), defBody (top 43), defScope (top 43), [], []⟩,
  ⟨("_law_pick", none), "_law_pick", "_law_pick", defArgs (top 44), defBody (top 44), defScope (top 44), [], []⟩,
  ⟨("_law_folds", none), "_law_folds", "_law_folds", defArgs (top 45), defBody (top 45), defScope (top 45), [], []⟩,
  ⟨("_law_first", none), "_law_first", "_law_first", defArgs (top 47), defBody (top 47), defScope (top 47), [], []⟩,
  ⟨("_law_other", none), "_law_other", "_law_other", defArgs (top 48), defBody (top 48), defScope (top 48), [], []⟩,
  ⟨("_law_strip", none), "_law_strip", "_law_strip", defArgs (top 49), defBody (top 49), defScope (top 49), [], []⟩,
  ⟨("_law_doubled", none), "_law_doubled", "_law_doubled", defArgs (top 50), defBody (top 50), defScope (top 50), [], []⟩,
  ⟨("_law_crease", none), "_law_crease", "_law_crease", defArgs (top 51), defBody (top 51), defScope (top 51), [], []⟩,
  ⟨("_law_any_value", none), "_law_any_value", "_law_any_value", defArgs (top 56), defBody (top 56), defScope (top 56), [], []⟩,
  ⟨("_law_bent", none), "_law_bent", "_law_bent", defArgs (top 57), defBody (top 57), defScope (top 57), [], []⟩,
  ⟨("_law_word", none), "_law_word", "_law_word", defArgs (top 59), defBody (top 59), defScope (top 59), [], []⟩,
  ⟨("_law_all", none), "_law_all", "_law_all", defArgs (top 60), defBody (top 60), defScope (top 60), [], []⟩,
  ⟨("_law_goes", none), "_law_goes", "_law_goes", defArgs (top 61), defBody (top 61), defScope (top 61), [], []⟩,
  ⟨("_law_tried", none), "_law_tried", "_law_tried", defArgs (top 62), defBody (top 62), defScope (top 62), [], []⟩,
  ⟨("_law_clash", none), "_law_clash", "_law_clash", defArgs (top 63), defBody (top 63), defScope (top 63), [], []⟩,
  ⟨("_law_small_right", none), "_law_small_right", "_law_small_right", defArgs (top 64), defBody (top 64), defScope (top 64), [], []⟩,
  ⟨("_law_far_right", none), "_law_far_right", "_law_far_right", defArgs (top 65), defBody (top 65), defScope (top 65), [], []⟩,
  ⟨("_law_refused", none), "_law_refused", "_law_refused", defArgs (top 66), defBody (top 66), defScope (top 66), [], []⟩,
  ⟨("law", none), "law", "law", defArgs (top 67), defBody (top 67), defScope (top 67), [], []⟩,
  ⟨("_law_names", none), "_law_names", "_law_names", defArgs (top 58), defBody (top 58), defScope (top 58), [], []⟩]
def xNames : List Str := ["Impossible", "InvalidNumber", "InvalidPlace", "InvalidSights", "StripError"]
def gNames : List Str := (["is_integer", "need_many", "power", "last_place", "halved", "crease_by", "need_place", "is_sight", "need_sights", "fold_told", "told_by", "told", "clash", "sure", "_law_sheet", "_law_tear", "_law_pick", "_law_folds", "_law_first", "_law_other", "_law_strip", "_law_doubled", "_law_crease", "_law_any_value", "_law_bent", "_law_word", "_law_all", "_law_goes", "_law_tried", "_law_clash"] : List Str) ++ (["_law_small_right", "_law_far_right", "_law_refused", "law", "_law_names"] : List Str)
def cFacts : List He.Fa := [.int "GREAT" 1000000000000000000000000000000, .int "MOST_FOLDS" 100, .str "OVER" "over", .str "UNDER" "under", .str "VALLEY" "v", .str "HILL" "m", .int "MOST_SIGHTS" 8]
def rNames : List Str := ["InvalidNumber", "InvalidPlace", "InvalidSights", "Impossible"]
def mFacts : List He.Fa := rNames.map (fun n => He.Fa.exm n "StripError" true) ++ (DH.nCls.map He.Fa.glo ++ [.free "isinstance", .free "zip", .free "ValueError"])
def faL : List He.Fa := DE.freeNames.map .free ++ (gNames.map .glo ++ (xNames.map .glo ++ (xNames.map .exc ++ (cFacts ++ mFacts))))
def tf : List He.Defn := [("_law_small_right", none), ("_law_refused", none)]
def exB (K : PySem.W.Frag) : Bool := rNames.all (fun x => DH.nkB K x) && decide ((tf.map fun q => (He.cT K q).2).Nodup)
def loose : List PySem.Str := (["StripError", "InvalidRecipe", "InvalidNumber", "InvalidPlace", "InvalidWord", "InvalidSights", "InvalidStep", "InvalidCorner", "InvalidText", "InvalidFold", "Impossible", "Unlike", "Flat", "NothingToUndo", "TooMany", "Failed", "GREAT", "MOST_FOLDS", "OVER", "UNDER", "is_integer", "need_many", "power", "VALLEY", "HILL", "last_place", "halved", "crease_by", "need_place", "MOST_SIGHTS"] : List PySem.Str) ++ (["is_sight", "need_sights", "fold_told", "told_by", "told", "clash", "sure", "_law_sheet", "_law_tear", "_law_pick", "_law_folds", "_law_any_recipe", "_law_first", "_law_other", "_law_strip", "_law_doubled", "_law_crease", "_law_whole", "_law_are_folds", "_law_good_recipe", "_law_good_sights", "_law_any_value", "_law_bent", "_law_names", "_law_word", "_law_all", "_law_goes", "_law_tried", "_law_clash", "_law_small_right"] : List PySem.Str) ++ (["_law_far_right", "_law_refused"] : List PySem.Str)
abbrev RR : PySem.W.OpenRow := PySem.W.OpenLaw.row PySem.Challenge.rw_foldedstrip_k05_whole_what_was_seen
abbrev hk : PySem.W.Hook := He.hookX 4 faL fn [] tf exB
def ob (s : PySem.W.SharedT) : He.AlX := He.obsX 4 faL fn [] tf exB (HandSHeadRun.getT s)
theorem ob_eq (s : PySem.W.SharedT) : ob s = hk.obs s.abs := He.obsX_eq (HandSHeadRun.getT_eq s)
theorem run (w : World) : HandSHeadRun.RunEq RR (PySem.W.view RR.prog [67]) hk ob 8000 loose w := by
  intro os
  kernel_rfl
end LAW
end

section
set_option Elab.async false
set_option linter.all false
set_option maxRecDepth 100000
set_option maxHeartbeats 0
namespace LAW
open PySem L2 DE PyProof.Rows
theorem glo_mem {x : Str} (h : x ∈ gNames) : He.Fa.glo x ∈ faL := List.mem_append_right _ (List.mem_append_left _ (List.mem_map_of_mem h))
theorem xglo_mem {x : Str} (h : x ∈ xNames) : He.Fa.glo x ∈ faL := List.mem_append_right _ (List.mem_append_right _ (List.mem_append_left _ (List.mem_map_of_mem h)))
theorem exc_mem {x : Str} (h : x ∈ xNames) : He.Fa.exc x ∈ faL := List.mem_append_right _ (List.mem_append_right _ (List.mem_append_right _ (List.mem_append_left _ (List.mem_map_of_mem h))))
theorem cf_mem {f : He.Fa} (h : f ∈ cFacts) : f ∈ faL := List.mem_append_right _ (List.mem_append_right _ (List.mem_append_right _ (List.mem_append_right _ (List.mem_append_left _ h))))
theorem mf_mem {f : He.Fa} (h : f ∈ mFacts) : f ∈ faL := List.mem_append_right _ (List.mem_append_right _ (List.mem_append_right _ (List.mem_append_right _ (List.mem_append_right _ h))))
def tfq : List (He.Defn × Str) := [(("_law_small_right", none), (envOfC "_law_small_right" (defScope (top 64)) 0 0 .none).qual ++ "<lambda>"), (("_law_refused", none), (envOfC "_law_refused" (defScope (top 66)) 0 0 .none).qual ++ "<lambda>")]
def tbs (K : PySem.W.Frag) : List (Addr × Str) := tfq.map fun q => ((He.cT K q.1).2, q.2)
theorem tbs_mem {K : PySem.W.Frag} {p : Addr × Str} (h : p ∈ tbs K) : ∃ q ∈ tf, (He.cT K q).2 = p.1 := by
  obtain ⟨q, hq, rfl⟩ := List.mem_map.mp h
  exact ⟨q.1, of_decide_eq_true (List.all_eq_true.mp (show tfq.all (fun q => decide (q.1 ∈ tf)) = true by decide +kernel) q hq), rfl⟩
def faK (K : PySem.W.Frag) : DE.Fa := ⟨fun i => if i < 1000 then He.ga K (dTab.getD i "") else He.ga K (eTab.getD (i - 1000) ""), tbs K⟩
theorem sc0 : FnScope N0 ["value", "low", "high"] (defScope (top 22)) := ⟨rfl, rfl, rfl, by decide +kernel, rfl, by decide +kernel, by decide +kernel⟩
theorem sc1 : FnScope N1 ["value"] (defScope (top 23)) := ⟨rfl, rfl, rfl, by decide +kernel, rfl, by decide +kernel, by decide +kernel⟩
theorem sc2 : FnScope N2 ["many"] (defScope (top 24)) := ⟨rfl, rfl, rfl, by decide +kernel, rfl, by decide +kernel, by decide +kernel⟩
theorem sc3 : FnScope N3 ["many"] (defScope (top 28)) := ⟨rfl, rfl, rfl, by decide +kernel, rfl, by decide +kernel, by decide +kernel⟩
theorem sc4 : FnScope N4 ["place"] (defScope (top 29)) := ⟨rfl, rfl, rfl, by decide +kernel, rfl, by decide +kernel, by decide +kernel⟩
theorem sc5 : FnScope N5 ["folds", "place"] (defScope (top 30)) := ⟨rfl, rfl, rfl, by decide +kernel, rfl, by decide +kernel, by decide +kernel⟩
theorem sc6 : FnScope N6 ["many", "place"] (defScope (top 31)) := ⟨rfl, rfl, rfl, by decide +kernel, rfl, by decide +kernel, by decide +kernel⟩
theorem sc7 : FnScope N7 ["value"] (defScope (top 34)) := ⟨rfl, rfl, rfl, by decide +kernel, rfl, by decide +kernel, by decide +kernel⟩
theorem sc8 : FnScope N8 ["value"] (defScope (top 35)) := ⟨rfl, rfl, rfl, by decide +kernel, rfl, by decide +kernel, by decide +kernel⟩
theorem sc9 : FnScope N9 ["many", "sight"] (defScope (top 36)) := ⟨rfl, rfl, rfl, by decide +kernel, rfl, by decide +kernel, by decide +kernel⟩
theorem sc10 : FnScope N10 ["many", "sights"] (defScope (top 37)) := ⟨rfl, rfl, rfl, by decide +kernel, rfl, by decide +kernel, by decide +kernel⟩
theorem sc11 : FnScope N11 ["many", "sights"] (defScope (top 38)) := ⟨rfl, rfl, rfl, by decide +kernel, rfl, by decide +kernel, by decide +kernel⟩
theorem sc12 : FnScope N12 ["many", "sights"] (defScope (top 39)) := ⟨rfl, rfl, rfl, by decide +kernel, rfl, by decide +kernel, by decide +kernel⟩
theorem sc13 : FnScope N13 ["many", "sights", "place"] (defScope (top 40)) := ⟨rfl, rfl, rfl, by decide +kernel, rfl, by decide +kernel, by decide +kernel⟩
theorem sc14 : FnScope N14 ["_law_script", "_law_k"] (defScope (top 42)) := ⟨rfl, rfl, rfl, by decide +kernel, rfl, by decide +kernel, by decide +kernel⟩
theorem sc15 : FnScope N15 ["_law_sheet_here", "_law_many"] (defScope (top 43)) := ⟨rfl, rfl, rfl, by decide +kernel, rfl, by decide +kernel, by decide +kernel⟩
theorem sc16 : FnScope N16 ["_law_sheet_here", "_law_things"] (defScope (top 44)) := ⟨rfl, rfl, rfl, by decide +kernel, rfl, by decide +kernel, by decide +kernel⟩
theorem sc17 : FnScope N17 ["_law_sheet_here", "_law_many"] (defScope (top 45)) := ⟨rfl, rfl, rfl, by decide +kernel, rfl, by decide +kernel, by decide +kernel⟩
theorem sc19 : FnScope N19 ["_law_recipe", "_law_many"] (defScope (top 47)) := ⟨rfl, rfl, rfl, by decide +kernel, rfl, by decide +kernel, by decide +kernel⟩
theorem sc20 : FnScope N20 ["_law_strand"] (defScope (top 48)) := ⟨rfl, rfl, rfl, by decide +kernel, rfl, by decide +kernel, by decide +kernel⟩
theorem sc21 : FnScope N21 ["_law_folds_here"] (defScope (top 49)) := ⟨rfl, rfl, rfl, by decide +kernel, rfl, by decide +kernel, by decide +kernel⟩
theorem sc22 : FnScope N22 ["_law_many"] (defScope (top 50)) := ⟨rfl, rfl, rfl, by decide +kernel, rfl, by decide +kernel, by decide +kernel⟩
theorem sc23 : FnScope N23 ["_law_folds_here", "_law_place"] (defScope (top 51)) := ⟨rfl, rfl, rfl, by decide +kernel, rfl, by decide +kernel, by decide +kernel⟩
theorem sc28 : FnScope N28 ["_law_sheet_here", "_law_deep"] (defScope (top 56)) := ⟨rfl, rfl, rfl, by decide +kernel, rfl, by decide +kernel, by decide +kernel⟩
theorem sc29 : FnScope N29 ["_law_sheet_here", "_law_value"] (defScope (top 57)) := ⟨rfl, rfl, rfl, by decide +kernel, rfl, by decide +kernel, by decide +kernel⟩
theorem sc32 : FnScope N32 ["_law_many"] (defScope (top 60)) := ⟨rfl, rfl, rfl, by decide +kernel, rfl, by decide +kernel, by decide +kernel⟩
theorem sc33 : FnScope N33 ["_law_strip_here", "_law_sights"] (defScope (top 61)) := ⟨rfl, rfl, rfl, by decide +kernel, rfl, by decide +kernel, by decide +kernel⟩
theorem sc35 : FnScope N35 ["_law_strips", "_law_sights"] (defScope (top 63)) := ⟨rfl, rfl, rfl, by decide +kernel, rfl, by decide +kernel, by decide +kernel⟩
theorem sc36 : FnScope N36 ["_law_sheet_here", "_law_many", "_law_every", "_law_sights"] (defScope (top 64)) := ⟨rfl, rfl, rfl, by decide +kernel, rfl, by decide +kernel, by decide +kernel⟩
theorem sc37 : FnScope N37 ["_law_sheet_here", "_law_folds_here"] (defScope (top 65)) := ⟨rfl, rfl, rfl, by decide +kernel, rfl, by decide +kernel, by decide +kernel⟩
theorem sc38 : FnScope N38 [] (defScope (top 66)) := ⟨rfl, rfl, rfl, by decide +kernel, rfl, by decide +kernel, by decide +kernel⟩
theorem sc39 : FnScope N39 ["_law_script"] (defScope (top 67)) := ⟨rfl, rfl, rfl, by decide +kernel, rfl, by decide +kernel, by decide +kernel⟩
theorem exB1 {K : PySem.W.Frag} (h : exB K = true) : (rNames.all fun x => DH.nkB K x) = true := (Bool.and_eq_true_iff.mp h).1
theorem inj_of {α β : Type} {f : α → β} : ∀ {l : List α}, (l.map f).Nodup → ∀ {a b : α}, a ∈ l → b ∈ l → f a = f b → a = b
  | [], _, _, _, h, _, _ => nomatch h
  | x :: l, d, a, b, ha, hb, e => by
    rw [List.map_cons, List.nodup_cons] at d
    rcases List.mem_cons.mp ha with e1 | h1
    · rcases List.mem_cons.mp hb with e2 | h2
      · rw [e1, e2]
      · exact absurd (by rw [← e1, e]; exact List.mem_map_of_mem h2) d.1
    · rcases List.mem_cons.mp hb with e2 | h2
      · exact absurd (by rw [← e2, ← e]; exact List.mem_map_of_mem h1) d.1
      · exact inj_of d.2 h1 h2 e
theorem tb_one {K : PySem.W.Frag} (h : exB K = true) {p : Addr × Str} {q : He.Defn} {z : Str} (m : q ∈ tf) (hp : p ∈ tbs K) (hq : p.1 = (He.cT K q).2) (u : ∀ r ∈ tfq, r.1 = q → r.2 = z) : p.2 = z := by
  obtain ⟨r, hr, rfl⟩ := List.mem_map.mp hp
  have mr : r.1 ∈ tf := of_decide_eq_true (List.all_eq_true.mp (show tfq.all (fun q => decide (q.1 ∈ tf)) = true by decide +kernel) r hr)
  exact u r hr (inj_of (f := fun q => (He.cT K q).2) (of_decide_eq_true (Bool.and_eq_true_iff.mp h).2) mr m hq)
section
variable {K : PySem.W.Frag} {mg : Str → Option Value} {h : Heap}
theorem at0 {fd : FuncData} (F : FunD K "is_integer" "is_integer" (defArgs (top 22)) (defBody (top 22)) (defScope (top 22)) [] [] (He.fAd K ("is_integer", none)) fd) (c : He.SaysD faL fn K) (X : K.In h) (G : h.Ns mainGlobals mg) : DE.DefAt K mg h nm (faK K) TT 0 "is_integer" ["value", "low", "high"] fd :=
  ⟨_, _, _, N0, d0, false, F, He.glo_ok X G (c.facts (glo_mem (by decide +kernel))), F.bindsN (fun _ _ _ _ _ _ us hl => match us, hl with | [_, _, _], _ => rfl), sc0, rfl, rfl, rfl, by decide, ck0, fun h => by cases h⟩
theorem at1 {fd : FuncData} (F : FunD K "need_many" "need_many" (defArgs (top 23)) (defBody (top 23)) (defScope (top 23)) [] [] (He.fAd K ("need_many", none)) fd) (c : He.SaysD faL fn K) (X : K.In h) (G : h.Ns mainGlobals mg) : DE.DefAt K mg h nm (faK K) TT 1 "need_many" ["value"] fd :=
  ⟨_, _, _, N1, d1, false, F, He.glo_ok X G (c.facts (glo_mem (by decide +kernel))), F.bindsN (fun _ _ _ _ _ _ us hl => match us, hl with | [_], _ => rfl), sc1, rfl, rfl, rfl, by decide, ck1, fun h => by cases h⟩
theorem at2 {fd : FuncData} (F : FunD K "power" "power" (defArgs (top 24)) (defBody (top 24)) (defScope (top 24)) [] [] (He.fAd K ("power", none)) fd) (c : He.SaysD faL fn K) (X : K.In h) (G : h.Ns mainGlobals mg) : DE.DefAt K mg h nm (faK K) TT 2 "power" ["many"] fd :=
  ⟨_, _, _, N2, d2, false, F, He.glo_ok X G (c.facts (glo_mem (by decide +kernel))), F.bindsN (fun _ _ _ _ _ _ us hl => match us, hl with | [_], _ => rfl), sc2, rfl, rfl, rfl, by decide, ck2, fun h => by cases h⟩
theorem at3 {fd : FuncData} (F : FunD K "last_place" "last_place" (defArgs (top 28)) (defBody (top 28)) (defScope (top 28)) [] [] (He.fAd K ("last_place", none)) fd) (c : He.SaysD faL fn K) (X : K.In h) (G : h.Ns mainGlobals mg) : DE.DefAt K mg h nm (faK K) TT 3 "last_place" ["many"] fd :=
  ⟨_, _, _, N3, d3, false, F, He.glo_ok X G (c.facts (glo_mem (by decide +kernel))), F.bindsN (fun _ _ _ _ _ _ us hl => match us, hl with | [_], _ => rfl), sc3, rfl, rfl, rfl, by decide, ck3, fun h => by cases h⟩
theorem at4 {fd : FuncData} (F : FunD K "halved" "halved" (defArgs (top 29)) (defBody (top 29)) (defScope (top 29)) [] [] (He.fAd K ("halved", none)) fd) (c : He.SaysD faL fn K) (X : K.In h) (G : h.Ns mainGlobals mg) : DE.DefAt K mg h nm (faK K) TT 4 "halved" ["place"] fd :=
  ⟨_, _, _, N4, d4, false, F, He.glo_ok X G (c.facts (glo_mem (by decide +kernel))), F.bindsN (fun _ _ _ _ _ _ us hl => match us, hl with | [_], _ => rfl), sc4, rfl, rfl, rfl, by decide, ck4, fun h => by cases h⟩
theorem at5 {fd : FuncData} (F : FunD K "crease_by" "crease_by" (defArgs (top 30)) (defBody (top 30)) (defScope (top 30)) [] [] (He.fAd K ("crease_by", none)) fd) (c : He.SaysD faL fn K) (X : K.In h) (G : h.Ns mainGlobals mg) : DE.DefAt K mg h nm (faK K) TT 5 "crease_by" ["folds", "place"] fd :=
  ⟨_, _, _, N5, d5, false, F, He.glo_ok X G (c.facts (glo_mem (by decide +kernel))), F.bindsN (fun _ _ _ _ _ _ us hl => match us, hl with | [_, _], _ => rfl), sc5, rfl, rfl, rfl, by decide, ck5, fun h => by cases h⟩
theorem at6 {fd : FuncData} (F : FunD K "need_place" "need_place" (defArgs (top 31)) (defBody (top 31)) (defScope (top 31)) [] [] (He.fAd K ("need_place", none)) fd) (c : He.SaysD faL fn K) (X : K.In h) (G : h.Ns mainGlobals mg) : DE.DefAt K mg h nm (faK K) TT 6 "need_place" ["many", "place"] fd :=
  ⟨_, _, _, N6, d6, false, F, He.glo_ok X G (c.facts (glo_mem (by decide +kernel))), F.bindsN (fun _ _ _ _ _ _ us hl => match us, hl with | [_, _], _ => rfl), sc6, rfl, rfl, rfl, by decide, ck6, fun h => by cases h⟩
theorem at7 {fd : FuncData} (F : FunD K "is_sight" "is_sight" (defArgs (top 34)) (defBody (top 34)) (defScope (top 34)) [] [] (He.fAd K ("is_sight", none)) fd) (c : He.SaysD faL fn K) (X : K.In h) (G : h.Ns mainGlobals mg) : DE.DefAt K mg h nm (faK K) TT 7 "is_sight" ["value"] fd :=
  ⟨_, _, _, N7, d7, false, F, He.glo_ok X G (c.facts (glo_mem (by decide +kernel))), F.bindsN (fun _ _ _ _ _ _ us hl => match us, hl with | [_], _ => rfl), sc7, rfl, rfl, rfl, by decide, ck7, fun h => by cases h⟩
theorem at8 {fd : FuncData} (F : FunD K "need_sights" "need_sights" (defArgs (top 35)) (defBody (top 35)) (defScope (top 35)) [] [] (He.fAd K ("need_sights", none)) fd) (c : He.SaysD faL fn K) (X : K.In h) (G : h.Ns mainGlobals mg) : DE.DefAt K mg h nm (faK K) TT 8 "need_sights" ["value"] fd :=
  ⟨_, _, _, N8, d8, false, F, He.glo_ok X G (c.facts (glo_mem (by decide +kernel))), F.bindsN (fun _ _ _ _ _ _ us hl => match us, hl with | [_], _ => rfl), sc8, rfl, rfl, rfl, by decide, ck8, fun h => by cases h⟩
theorem at9 {fd : FuncData} (F : FunD K "fold_told" "fold_told" (defArgs (top 36)) (defBody (top 36)) (defScope (top 36)) [] [] (He.fAd K ("fold_told", none)) fd) (c : He.SaysD faL fn K) (X : K.In h) (G : h.Ns mainGlobals mg) : DE.DefAt K mg h nm (faK K) TT 9 "fold_told" ["many", "sight"] fd :=
  ⟨_, _, _, N9, d9, false, F, He.glo_ok X G (c.facts (glo_mem (by decide +kernel))), F.bindsN (fun _ _ _ _ _ _ us hl => match us, hl with | [_, _], _ => rfl), sc9, rfl, rfl, rfl, by decide, ck9, fun h => by cases h⟩
theorem at10 {fd : FuncData} (F : FunD K "told_by" "told_by" (defArgs (top 37)) (defBody (top 37)) (defScope (top 37)) [] [] (He.fAd K ("told_by", none)) fd) (c : He.SaysD faL fn K) (X : K.In h) (G : h.Ns mainGlobals mg) : DE.DefAt K mg h nm (faK K) TT 10 "told_by" ["many", "sights"] fd :=
  ⟨_, _, _, N10, d10, false, F, He.glo_ok X G (c.facts (glo_mem (by decide +kernel))), F.bindsN (fun _ _ _ _ _ _ us hl => match us, hl with | [_, _], _ => rfl), sc10, rfl, rfl, rfl, by decide, ck10, fun h => by cases h⟩
theorem at11 {fd : FuncData} (F : FunD K "told" "told" (defArgs (top 38)) (defBody (top 38)) (defScope (top 38)) [] [] (He.fAd K ("told", none)) fd) (c : He.SaysD faL fn K) (X : K.In h) (G : h.Ns mainGlobals mg) : DE.DefAt K mg h nm (faK K) TT 11 "told" ["many", "sights"] fd :=
  ⟨_, _, _, N11, d11, false, F, He.glo_ok X G (c.facts (glo_mem (by decide +kernel))), F.bindsN (fun _ _ _ _ _ _ us hl => match us, hl with | [_, _], _ => rfl), sc11, rfl, rfl, rfl, by decide, ck11, fun h => by cases h⟩
theorem at12 {fd : FuncData} (F : FunD K "clash" "clash" (defArgs (top 39)) (defBody (top 39)) (defScope (top 39)) [] [] (He.fAd K ("clash", none)) fd) (c : He.SaysD faL fn K) (X : K.In h) (G : h.Ns mainGlobals mg) : DE.DefAt K mg h nm (faK K) TT 12 "clash" ["many", "sights"] fd :=
  ⟨_, _, _, N12, d12, false, F, He.glo_ok X G (c.facts (glo_mem (by decide +kernel))), F.bindsN (fun _ _ _ _ _ _ us hl => match us, hl with | [_, _], _ => rfl), sc12, rfl, rfl, rfl, by decide, ck12, fun h => by cases h⟩
theorem at13 {fd : FuncData} (F : FunD K "sure" "sure" (defArgs (top 40)) (defBody (top 40)) (defScope (top 40)) [] [] (He.fAd K ("sure", none)) fd) (c : He.SaysD faL fn K) (X : K.In h) (G : h.Ns mainGlobals mg) : DE.DefAt K mg h nm (faK K) TT 13 "sure" ["many", "sights", "place"] fd :=
  ⟨_, _, _, N13, d13, false, F, He.glo_ok X G (c.facts (glo_mem (by decide +kernel))), F.bindsN (fun _ _ _ _ _ _ us hl => match us, hl with | [_, _, _], _ => rfl), sc13, rfl, rfl, rfl, by decide, ck13, fun h => by cases h⟩
theorem at14 {fd : FuncData} (F : FunD K "_law_sheet" "_law_sheet" (defArgs (top 42)) (defBody (top 42)) (defScope (top 42)) [] [] (He.fAd K ("_law_sheet", none)) fd) (c : He.SaysD faL fn K) (X : K.In h) (G : h.Ns mainGlobals mg) : DE.DefAt K mg h nm (faK K) TT 14 "_law_sheet" ["_law_script", "_law_k"] fd :=
  ⟨_, _, _, N14, d14, false, F, He.glo_ok X G (c.facts (glo_mem (by decide +kernel))), F.bindsN (fun _ _ _ _ _ _ us hl => match us, hl with | [_, _], _ => rfl), sc14, rfl, rfl, rfl, by decide, ck14, fun h => by cases h⟩
theorem at15 {fd : FuncData} (F : FunD K "_law_tear" "_law_tear" (defArgs (top 43)) (defBody (top 43)) (defScope (top 43)) [] [] (He.fAd K ("_law_tear", none)) fd) (c : He.SaysD faL fn K) (X : K.In h) (G : h.Ns mainGlobals mg) : DE.DefAt K mg h nm (faK K) TT 15 "_law_tear" ["_law_sheet_here", "_law_many"] fd :=
  ⟨_, _, _, N15, d15, false, F, He.glo_ok X G (c.facts (glo_mem (by decide +kernel))), F.bindsN (fun _ _ _ _ _ _ us hl => match us, hl with | [_, _], _ => rfl), sc15, rfl, rfl, rfl, by decide, ck15, fun h => by cases h⟩
theorem at16 {fd : FuncData} (F : FunD K "_law_pick" "_law_pick" (defArgs (top 44)) (defBody (top 44)) (defScope (top 44)) [] [] (He.fAd K ("_law_pick", none)) fd) (c : He.SaysD faL fn K) (X : K.In h) (G : h.Ns mainGlobals mg) : DE.DefAt K mg h nm (faK K) TT 16 "_law_pick" ["_law_sheet_here", "_law_things"] fd :=
  ⟨_, _, _, N16, d16, false, F, He.glo_ok X G (c.facts (glo_mem (by decide +kernel))), F.bindsN (fun _ _ _ _ _ _ us hl => match us, hl with | [_, _], _ => rfl), sc16, rfl, rfl, rfl, by decide, ck16, fun h => by cases h⟩
theorem at17 {fd : FuncData} (F : FunD K "_law_folds" "_law_folds" (defArgs (top 45)) (defBody (top 45)) (defScope (top 45)) [] [] (He.fAd K ("_law_folds", none)) fd) (c : He.SaysD faL fn K) (X : K.In h) (G : h.Ns mainGlobals mg) : DE.DefAt K mg h nm (faK K) TT 17 "_law_folds" ["_law_sheet_here", "_law_many"] fd :=
  ⟨_, _, _, N17, d17, false, F, He.glo_ok X G (c.facts (glo_mem (by decide +kernel))), F.bindsN (fun _ _ _ _ _ _ us hl => match us, hl with | [_, _], _ => rfl), sc17, rfl, rfl, rfl, by decide, ck17, fun h => by cases h⟩
theorem at19 {fd : FuncData} (F : FunD K "_law_first" "_law_first" (defArgs (top 47)) (defBody (top 47)) (defScope (top 47)) [] [] (He.fAd K ("_law_first", none)) fd) (c : He.SaysD faL fn K) (X : K.In h) (G : h.Ns mainGlobals mg) : DE.DefAt K mg h nm (faK K) TT 19 "_law_first" ["_law_recipe", "_law_many"] fd :=
  ⟨_, _, _, N19, d19, false, F, He.glo_ok X G (c.facts (glo_mem (by decide +kernel))), F.bindsN (fun _ _ _ _ _ _ us hl => match us, hl with | [_, _], _ => rfl), sc19, rfl, rfl, rfl, by decide, ck19, fun h => by cases h⟩
theorem at20 {fd : FuncData} (F : FunD K "_law_other" "_law_other" (defArgs (top 48)) (defBody (top 48)) (defScope (top 48)) [] [] (He.fAd K ("_law_other", none)) fd) (c : He.SaysD faL fn K) (X : K.In h) (G : h.Ns mainGlobals mg) : DE.DefAt K mg h nm (faK K) TT 20 "_law_other" ["_law_strand"] fd :=
  ⟨_, _, _, N20, d20, false, F, He.glo_ok X G (c.facts (glo_mem (by decide +kernel))), F.bindsN (fun _ _ _ _ _ _ us hl => match us, hl with | [_], _ => rfl), sc20, rfl, rfl, rfl, by decide, ck20, fun h => by cases h⟩
theorem at21 {fd : FuncData} (F : FunD K "_law_strip" "_law_strip" (defArgs (top 49)) (defBody (top 49)) (defScope (top 49)) [] [] (He.fAd K ("_law_strip", none)) fd) (c : He.SaysD faL fn K) (X : K.In h) (G : h.Ns mainGlobals mg) : DE.DefAt K mg h nm (faK K) TT 21 "_law_strip" ["_law_folds_here"] fd :=
  ⟨_, _, _, N21, d21, false, F, He.glo_ok X G (c.facts (glo_mem (by decide +kernel))), F.bindsN (fun _ _ _ _ _ _ us hl => match us, hl with | [_], _ => rfl), sc21, rfl, rfl, rfl, by decide, ck21, fun h => by cases h⟩
theorem at22 {fd : FuncData} (F : FunD K "_law_doubled" "_law_doubled" (defArgs (top 50)) (defBody (top 50)) (defScope (top 50)) [] [] (He.fAd K ("_law_doubled", none)) fd) (c : He.SaysD faL fn K) (X : K.In h) (G : h.Ns mainGlobals mg) : DE.DefAt K mg h nm (faK K) TT 22 "_law_doubled" ["_law_many"] fd :=
  ⟨_, _, _, N22, d22, false, F, He.glo_ok X G (c.facts (glo_mem (by decide +kernel))), F.bindsN (fun _ _ _ _ _ _ us hl => match us, hl with | [_], _ => rfl), sc22, rfl, rfl, rfl, by decide, ck22, fun h => by cases h⟩
theorem at23 {fd : FuncData} (F : FunD K "_law_crease" "_law_crease" (defArgs (top 51)) (defBody (top 51)) (defScope (top 51)) [] [] (He.fAd K ("_law_crease", none)) fd) (c : He.SaysD faL fn K) (X : K.In h) (G : h.Ns mainGlobals mg) : DE.DefAt K mg h nm (faK K) TT 23 "_law_crease" ["_law_folds_here", "_law_place"] fd :=
  ⟨_, _, _, N23, d23, false, F, He.glo_ok X G (c.facts (glo_mem (by decide +kernel))), F.bindsN (fun _ _ _ _ _ _ us hl => match us, hl with | [_, _], _ => rfl), sc23, rfl, rfl, rfl, by decide, ck23, fun h => by cases h⟩
theorem at28 {fd : FuncData} (F : FunD K "_law_any_value" "_law_any_value" (defArgs (top 56)) (defBody (top 56)) (defScope (top 56)) [] [] (He.fAd K ("_law_any_value", none)) fd) (c : He.SaysD faL fn K) (X : K.In h) (G : h.Ns mainGlobals mg) : DE.DefAt K mg h nm (faK K) TT 28 "_law_any_value" ["_law_sheet_here", "_law_deep"] fd :=
  ⟨_, _, _, N28, d28, false, F, He.glo_ok X G (c.facts (glo_mem (by decide +kernel))), F.bindsN (fun _ _ _ _ _ _ us hl => match us, hl with | [_, _], _ => rfl), sc28, rfl, rfl, rfl, by decide, ck28, fun h => by cases h⟩
theorem at29 {fd : FuncData} (F : FunD K "_law_bent" "_law_bent" (defArgs (top 57)) (defBody (top 57)) (defScope (top 57)) [] [] (He.fAd K ("_law_bent", none)) fd) (c : He.SaysD faL fn K) (X : K.In h) (G : h.Ns mainGlobals mg) : DE.DefAt K mg h nm (faK K) TT 29 "_law_bent" ["_law_sheet_here", "_law_value"] fd :=
  ⟨_, _, _, N29, d29, false, F, He.glo_ok X G (c.facts (glo_mem (by decide +kernel))), F.bindsN (fun _ _ _ _ _ _ us hl => match us, hl with | [_, _], _ => rfl), sc29, rfl, rfl, rfl, by decide, ck29, fun h => by cases h⟩
theorem at32 {fd : FuncData} (F : FunD K "_law_all" "_law_all" (defArgs (top 60)) (defBody (top 60)) (defScope (top 60)) [] [] (He.fAd K ("_law_all", none)) fd) (c : He.SaysD faL fn K) (X : K.In h) (G : h.Ns mainGlobals mg) : DE.DefAt K mg h nm (faK K) TT 32 "_law_all" ["_law_many"] fd :=
  ⟨_, _, _, N32, d32, false, F, He.glo_ok X G (c.facts (glo_mem (by decide +kernel))), F.bindsN (fun _ _ _ _ _ _ us hl => match us, hl with | [_], _ => rfl), sc32, rfl, rfl, rfl, by decide, ck32, fun h => by cases h⟩
theorem at33 {fd : FuncData} (F : FunD K "_law_goes" "_law_goes" (defArgs (top 61)) (defBody (top 61)) (defScope (top 61)) [] [] (He.fAd K ("_law_goes", none)) fd) (c : He.SaysD faL fn K) (X : K.In h) (G : h.Ns mainGlobals mg) : DE.DefAt K mg h nm (faK K) TT 33 "_law_goes" ["_law_strip_here", "_law_sights"] fd :=
  ⟨_, _, _, N33, d33, false, F, He.glo_ok X G (c.facts (glo_mem (by decide +kernel))), F.bindsN (fun _ _ _ _ _ _ us hl => match us, hl with | [_, _], _ => rfl), sc33, rfl, rfl, rfl, by decide, ck33, fun h => by cases h⟩
theorem at35 {fd : FuncData} (F : FunD K "_law_clash" "_law_clash" (defArgs (top 63)) (defBody (top 63)) (defScope (top 63)) [] [] (He.fAd K ("_law_clash", none)) fd) (c : He.SaysD faL fn K) (X : K.In h) (G : h.Ns mainGlobals mg) : DE.DefAt K mg h nm (faK K) TT 35 "_law_clash" ["_law_strips", "_law_sights"] fd :=
  ⟨_, _, _, N35, d35, false, F, He.glo_ok X G (c.facts (glo_mem (by decide +kernel))), F.bindsN (fun _ _ _ _ _ _ us hl => match us, hl with | [_, _], _ => rfl), sc35, rfl, rfl, rfl, by decide, ck35, fun h => by cases h⟩
theorem at36 {fd : FuncData} (F : FunD K "_law_small_right" "_law_small_right" (defArgs (top 64)) (defBody (top 64)) (defScope (top 64)) [] [] (He.fAd K ("_law_small_right", none)) fd) (c : He.SaysD faL fn K) (X : K.In h) (G : h.Ns mainGlobals mg) (hx : exB K = true) (tb : LamX.TabB h mg (He.cT K ("_law_small_right", none)).1 (He.cT K ("_law_small_right", none)).2) : DE.DefAt K mg h nm (faK K) TT 36 "_law_small_right" ["_law_sheet_here", "_law_many", "_law_every", "_law_sights"] fd :=
  ⟨_, _, _, N36, d36, true, F, He.glo_ok X G (c.facts (glo_mem (by decide +kernel))), F.bindsN (fun _ _ _ _ _ _ us hl => match us, hl with | [_, _, _, _], _ => rfl), sc36, rfl, rfl, rfl, by decide, ck36, fun _ => ⟨_, _, DE.code_of (p := ("_law_small_right", none)) F, tb, fun _ _ _ => ⟨by simp [faK, tbs, tfq, envOfC], fun p hp hq => by exact tb_one hx (q := ("_law_small_right", none)) (by simp [tf]) hp hq (fun r hr hq2 => by simp only [tfq, List.mem_cons, List.not_mem_nil, or_false] at hr; rcases hr with rfl | rfl <;> first | exact absurd hq2 (by decide) | rfl)⟩⟩⟩
theorem at37 {fd : FuncData} (F : FunD K "_law_far_right" "_law_far_right" (defArgs (top 65)) (defBody (top 65)) (defScope (top 65)) [] [] (He.fAd K ("_law_far_right", none)) fd) (c : He.SaysD faL fn K) (X : K.In h) (G : h.Ns mainGlobals mg) : DE.DefAt K mg h nm (faK K) TT 37 "_law_far_right" ["_law_sheet_here", "_law_folds_here"] fd :=
  ⟨_, _, _, N37, d37, false, F, He.glo_ok X G (c.facts (glo_mem (by decide +kernel))), F.bindsN (fun _ _ _ _ _ _ us hl => match us, hl with | [_, _], _ => rfl), sc37, rfl, rfl, rfl, by decide, ck37, fun h => by cases h⟩
theorem at38 {fd : FuncData} (F : FunD K "_law_refused" "_law_refused" (defArgs (top 66)) (defBody (top 66)) (defScope (top 66)) [] [] (He.fAd K ("_law_refused", none)) fd) (c : He.SaysD faL fn K) (X : K.In h) (G : h.Ns mainGlobals mg) (hx : exB K = true) (tb : LamX.TabB h mg (He.cT K ("_law_refused", none)).1 (He.cT K ("_law_refused", none)).2) : DE.DefAt K mg h nm (faK K) TT 38 "_law_refused" [] fd :=
  ⟨_, _, _, N38, d38, true, F, He.glo_ok X G (c.facts (glo_mem (by decide +kernel))), F.bindsN (fun _ _ _ _ _ _ us hl => match us, hl with | [], _ => rfl), sc38, rfl, rfl, rfl, by decide, ck38, fun _ => ⟨_, _, DE.code_of (p := ("_law_refused", none)) F, tb, fun _ _ _ => ⟨by simp [faK, tbs, tfq, envOfC], fun p hp hq => by exact tb_one hx (q := ("_law_refused", none)) (by simp [tf]) hp hq (fun r hr hq2 => by simp only [tfq, List.mem_cons, List.not_mem_nil, or_false] at hr; rcases hr with rfl | rfl <;> first | exact absurd hq2 (by decide) | rfl)⟩⟩⟩
theorem at39 {fd : FuncData} (F : FunD K "law" "law" (defArgs (top 67)) (defBody (top 67)) (defScope (top 67)) [] [] (He.fAd K ("law", none)) fd) (c : He.SaysD faL fn K) (X : K.In h) (G : h.Ns mainGlobals mg) : DE.DefAt K mg h nm (faK K) TT 39 "law" ["_law_script"] fd :=
  ⟨_, _, _, N39, d39, false, F, He.glo_ok X G (c.facts (glo_mem (by decide +kernel))), F.bindsN (fun _ _ _ _ _ _ us hl => match us, hl with | [_], _ => rfl), sc39, rfl, rfl, rfl, by decide, ck39, fun h => by cases h⟩
theorem hd (c : He.SaysD faL fn K) (X : K.In h) (G : h.Ns mainGlobals mg) (hx : exB K = true) (tb : ∀ p ∈ tf.map (He.cT K), LamX.TabB h mg p.1 p.2) : ∀ f x, nm.f f = some x → ∃ ps fd, DE.DefAt K mg h nm (faK K) TT f x ps fd := by
  intro f x hf
  match f, hf with
  | 0, hf =>
    cases (show some (Str.ofString "is_integer") = some x from hf)
    obtain ⟨fd, F⟩ := c.def_ 0 rfl
    exact ⟨_, fd, at0 F c X G⟩
  | 1, hf =>
    cases (show some (Str.ofString "need_many") = some x from hf)
    obtain ⟨fd, F⟩ := c.def_ 1 rfl
    exact ⟨_, fd, at1 F c X G⟩
  | 2, hf =>
    cases (show some (Str.ofString "power") = some x from hf)
    obtain ⟨fd, F⟩ := c.def_ 2 rfl
    exact ⟨_, fd, at2 F c X G⟩
  | 3, hf =>
    cases (show some (Str.ofString "last_place") = some x from hf)
    obtain ⟨fd, F⟩ := c.def_ 3 rfl
    exact ⟨_, fd, at3 F c X G⟩
  | 4, hf =>
    cases (show some (Str.ofString "halved") = some x from hf)
    obtain ⟨fd, F⟩ := c.def_ 4 rfl
    exact ⟨_, fd, at4 F c X G⟩
  | 5, hf =>
    cases (show some (Str.ofString "crease_by") = some x from hf)
    obtain ⟨fd, F⟩ := c.def_ 5 rfl
    exact ⟨_, fd, at5 F c X G⟩
  | 6, hf =>
    cases (show some (Str.ofString "need_place") = some x from hf)
    obtain ⟨fd, F⟩ := c.def_ 6 rfl
    exact ⟨_, fd, at6 F c X G⟩
  | 7, hf =>
    cases (show some (Str.ofString "is_sight") = some x from hf)
    obtain ⟨fd, F⟩ := c.def_ 7 rfl
    exact ⟨_, fd, at7 F c X G⟩
  | 8, hf =>
    cases (show some (Str.ofString "need_sights") = some x from hf)
    obtain ⟨fd, F⟩ := c.def_ 8 rfl
    exact ⟨_, fd, at8 F c X G⟩
  | 9, hf =>
    cases (show some (Str.ofString "fold_told") = some x from hf)
    obtain ⟨fd, F⟩ := c.def_ 9 rfl
    exact ⟨_, fd, at9 F c X G⟩
  | 10, hf =>
    cases (show some (Str.ofString "told_by") = some x from hf)
    obtain ⟨fd, F⟩ := c.def_ 10 rfl
    exact ⟨_, fd, at10 F c X G⟩
  | 11, hf =>
    cases (show some (Str.ofString "told") = some x from hf)
    obtain ⟨fd, F⟩ := c.def_ 11 rfl
    exact ⟨_, fd, at11 F c X G⟩
  | 12, hf =>
    cases (show some (Str.ofString "clash") = some x from hf)
    obtain ⟨fd, F⟩ := c.def_ 12 rfl
    exact ⟨_, fd, at12 F c X G⟩
  | 13, hf =>
    cases (show some (Str.ofString "sure") = some x from hf)
    obtain ⟨fd, F⟩ := c.def_ 13 rfl
    exact ⟨_, fd, at13 F c X G⟩
  | 14, hf =>
    cases (show some (Str.ofString "_law_sheet") = some x from hf)
    obtain ⟨fd, F⟩ := c.def_ 14 rfl
    exact ⟨_, fd, at14 F c X G⟩
  | 15, hf =>
    cases (show some (Str.ofString "_law_tear") = some x from hf)
    obtain ⟨fd, F⟩ := c.def_ 15 rfl
    exact ⟨_, fd, at15 F c X G⟩
  | 16, hf =>
    cases (show some (Str.ofString "_law_pick") = some x from hf)
    obtain ⟨fd, F⟩ := c.def_ 16 rfl
    exact ⟨_, fd, at16 F c X G⟩
  | 17, hf =>
    cases (show some (Str.ofString "_law_folds") = some x from hf)
    obtain ⟨fd, F⟩ := c.def_ 17 rfl
    exact ⟨_, fd, at17 F c X G⟩
  | 18, hf => cases (show (none : Option Str) = some x from hf)
  | 19, hf =>
    cases (show some (Str.ofString "_law_first") = some x from hf)
    obtain ⟨fd, F⟩ := c.def_ 18 rfl
    exact ⟨_, fd, at19 F c X G⟩
  | 20, hf =>
    cases (show some (Str.ofString "_law_other") = some x from hf)
    obtain ⟨fd, F⟩ := c.def_ 19 rfl
    exact ⟨_, fd, at20 F c X G⟩
  | 21, hf =>
    cases (show some (Str.ofString "_law_strip") = some x from hf)
    obtain ⟨fd, F⟩ := c.def_ 20 rfl
    exact ⟨_, fd, at21 F c X G⟩
  | 22, hf =>
    cases (show some (Str.ofString "_law_doubled") = some x from hf)
    obtain ⟨fd, F⟩ := c.def_ 21 rfl
    exact ⟨_, fd, at22 F c X G⟩
  | 23, hf =>
    cases (show some (Str.ofString "_law_crease") = some x from hf)
    obtain ⟨fd, F⟩ := c.def_ 22 rfl
    exact ⟨_, fd, at23 F c X G⟩
  | 24, hf => cases (show (none : Option Str) = some x from hf)
  | 25, hf => cases (show (none : Option Str) = some x from hf)
  | 26, hf => cases (show (none : Option Str) = some x from hf)
  | 27, hf => cases (show (none : Option Str) = some x from hf)
  | 28, hf =>
    cases (show some (Str.ofString "_law_any_value") = some x from hf)
    obtain ⟨fd, F⟩ := c.def_ 23 rfl
    exact ⟨_, fd, at28 F c X G⟩
  | 29, hf =>
    cases (show some (Str.ofString "_law_bent") = some x from hf)
    obtain ⟨fd, F⟩ := c.def_ 24 rfl
    exact ⟨_, fd, at29 F c X G⟩
  | 30, hf => cases (show (none : Option Str) = some x from hf)
  | 31, hf => cases (show (none : Option Str) = some x from hf)
  | 32, hf =>
    cases (show some (Str.ofString "_law_all") = some x from hf)
    obtain ⟨fd, F⟩ := c.def_ 26 rfl
    exact ⟨_, fd, at32 F c X G⟩
  | 33, hf =>
    cases (show some (Str.ofString "_law_goes") = some x from hf)
    obtain ⟨fd, F⟩ := c.def_ 27 rfl
    exact ⟨_, fd, at33 F c X G⟩
  | 34, hf => cases (show (none : Option Str) = some x from hf)
  | 35, hf =>
    cases (show some (Str.ofString "_law_clash") = some x from hf)
    obtain ⟨fd, F⟩ := c.def_ 29 rfl
    exact ⟨_, fd, at35 F c X G⟩
  | 36, hf =>
    cases (show some (Str.ofString "_law_small_right") = some x from hf)
    obtain ⟨fd, F⟩ := c.def_ 30 rfl
    exact ⟨_, fd, at36 F c X G hx (tb _ (by simp [tf]))⟩
  | 37, hf =>
    cases (show some (Str.ofString "_law_far_right") = some x from hf)
    obtain ⟨fd, F⟩ := c.def_ 31 rfl
    exact ⟨_, fd, at37 F c X G⟩
  | 38, hf =>
    cases (show some (Str.ofString "_law_refused") = some x from hf)
    obtain ⟨fd, F⟩ := c.def_ 32 rfl
    exact ⟨_, fd, at38 F c X G hx (tb _ (by simp [tf]))⟩
  | 39, hf =>
    cases (show some (Str.ofString "law") = some x from hf)
    obtain ⟨fd, F⟩ := c.def_ 33 rfl
    exact ⟨_, fd, at39 F c X G⟩
  | i + 40, hf => cases (show (none : Option Str) = some x from hf)
theorem con (c : He.SaysD faL fn K) (X : K.In h) (G : h.Ns mainGlobals mg) : ∀ x p, gc x = some p → ∃ v u, mg (nm.c x) = some u ∧ RelV v u ∧ ∀ F H, DE.VR K (faK K) F H v p := by
  intro i p hp
  unfold gc at hp
  split at hp
  · rename_i hi
    match i, hi, hp with
    | 0, _, hp =>
      cases (show some ((.int 1000000000000000000000000000000) : DE.P) = some p from hp)
      exact DE.con_int c X G (x := "GREAT") (cf_mem (by simp [cFacts]))
    | 1, _, hp =>
      cases (show some ((.int 100) : DE.P) = some p from hp)
      exact DE.con_int c X G (x := "MOST_FOLDS") (cf_mem (by simp [cFacts]))
    | 2, _, hp =>
      cases (show some ((.str "over") : DE.P) = some p from hp)
      exact DE.con_str c X G (x := "OVER") (cf_mem (by simp [cFacts]))
    | 3, _, hp =>
      cases (show some ((.str "under") : DE.P) = some p from hp)
      exact DE.con_str c X G (x := "UNDER") (cf_mem (by simp [cFacts]))
    | 4, _, hp =>
      cases (show some ((.str "v") : DE.P) = some p from hp)
      exact DE.con_str c X G (x := "VALLEY") (cf_mem (by simp [cFacts]))
    | 5, _, hp =>
      cases (show some ((.str "m") : DE.P) = some p from hp)
      exact DE.con_str c X G (x := "HILL") (cf_mem (by simp [cFacts]))
    | 6, _, hp =>
      cases (show some ((.int 8) : DE.P) = some p from hp)
      exact DE.con_int c X G (x := "MOST_SIGHTS") (cf_mem (by simp [cFacts]))
    | j + 7, _, hp => cases (show (none : Option DE.P) = some p from hp)
  · rename_i hi
    split at hp
    · rename_i hc
      cases hp
      have hm : i - 500 ∈ [11, 12] := List.contains_iff_mem.mp hc
      have hx := List.all_eq_true.mp (show [11, 12].all (fun j => decide (j < 1000) && decide (dTab.getD j "" ∈ gNames)) = true by decide +kernel) _ hm
      rw [Bool.and_eq_true] at hx
      have e1 : nm.c i = dTab.getD (i - 500) "" := if_neg hi
      rw [e1]
      exact DE.con_fn c X G (glo_mem (of_decide_eq_true hx.2)) (if_pos (of_decide_eq_true hx.1))
    · cases hp
theorem exc (c : He.SaysD faL fn K) (X : K.In h) (G : h.Ns mainGlobals mg) : ∀ e x, nm.e e = some x → mg x = some (.ref (faK K e)) ∧ PySem.W.keepIn K (.ref (faK K e)) = true ∧ (∃ B newId initId bmB, ExcBaseFacts B newId initId bmB ∧ PySem.W.excIn K (faK K e) bmB newId = true) ∧ ∀ X : Cx, X.K = K → Raises X (.ref (faK K e)) := by
  intro e x he
  have hm : (e, x) ∈ xTab := DE.lookup_memN he
  have hx : (decide (1000 ≤ e) && decide (eTab.getD (e - 1000) "" = x) && decide (x ∈ xNames)) = true := List.all_eq_true.mp (show xTab.all (fun p => decide (1000 ≤ p.1) && decide (eTab.getD (p.1 - 1000) "" = p.2) && decide (p.2 ∈ xNames)) = true by decide +kernel) _ hm
  rw [Bool.and_eq_true, Bool.and_eq_true] at hx
  have h1 := of_decide_eq_true hx.1.1
  have h2 := of_decide_eq_true hx.1.2
  have h3 := of_decide_eq_true hx.2
  have e1 : faK K e = He.ga K x := by
    show (if e < 1000 then He.ga K (dTab.getD e "") else He.ga K (eTab.getD (e - 1000) "")) = He.ga K x
    rw [if_neg (by omega), h2]
  rw [e1]
  exact DE.exc_one c X G (xglo_mem h3) (exc_mem h3)
end
def nqL : List Pos := [⟨206, 4, 206, 13⟩, ⟨206, 17, 206, 27⟩, ⟨206, 28, 206, 38⟩, ⟨206, 40, 206, 53⟩, ⟨206, 17, 206, 54⟩, ⟨206, 56, 206, 66⟩, ⟨206, 67, 206, 77⟩, ⟨206, 79, 206, 92⟩, ⟨206, 56, 206, 93⟩, ⟨206, 95, 206, 105⟩, ⟨206, 106, 206, 116⟩, ⟨206, 118, 206, 130⟩, ⟨206, 95, 206, 131⟩, ⟨206, 16, 206, 132⟩, ⟨206, 4, 206, 132⟩, ⟨207, 4, 207, 13⟩, ⟨207, 16, 207, 25⟩, ⟨207, 29, 207, 39⟩, ⟨207, 40, 207, 50⟩, ⟨207, 52, 207, 63⟩, ⟨207, 29, 207, 64⟩, ⟨207, 66, 207, 76⟩, ⟨207, 77, 207, 87⟩, ⟨207, 89, 207, 102⟩, ⟨207, 66, 207, 103⟩, ⟨207, 105, 207, 115⟩, ⟨207, 116, 207, 126⟩, ⟨207, 128, 207, 139⟩, ⟨207, 105, 207, 140⟩, ⟨207, 28, 207, 141⟩, ⟨207, 16, 207, 141⟩, ⟨207, 4, 207, 141⟩, ⟨208, 4, 208, 13⟩, ⟨208, 16, 208, 25⟩, ⟨208, 29, 208, 39⟩, ⟨208, 40, 208, 50⟩, ⟨208, 52, 208, 65⟩, ⟨208, 29, 208, 66⟩, ⟨208, 68, 208, 78⟩, ⟨208, 79, 208, 89⟩, ⟨208, 91, 208, 102⟩, ⟨208, 68, 208, 103⟩, ⟨208, 105, 208, 115⟩, ⟨208, 116, 208, 126⟩, ⟨208, 128, 208, 139⟩, ⟨208, 105, 208, 140⟩, ⟨208, 28, 208, 141⟩, ⟨208, 16, 208, 141⟩, ⟨208, 4, 208, 141⟩, ⟨209, 4, 209, 13⟩, ⟨209, 16, 209, 25⟩, ⟨209, 29, 209, 39⟩, ⟨209, 40, 209, 50⟩, ⟨209, 52, 209, 62⟩, ⟨209, 29, 209, 63⟩, ⟨209, 65, 209, 75⟩, ⟨209, 76, 209, 86⟩, ⟨209, 88, 209, 94⟩, ⟨209, 65, 209, 95⟩, ⟨209, 97, 209, 107⟩, ⟨209, 108, 209, 118⟩, ⟨209, 120, 209, 124⟩, ⟨209, 97, 209, 125⟩, ⟨209, 28, 209, 126⟩, ⟨209, 16, 209, 126⟩, ⟨209, 4, 209, 126⟩, ⟨210, 4, 210, 13⟩, ⟨210, 16, 210, 25⟩, ⟨210, 29, 210, 39⟩, ⟨210, 40, 210, 50⟩, ⟨210, 52, 210, 65⟩, ⟨210, 29, 210, 66⟩, ⟨210, 68, 210, 78⟩, ⟨210, 79, 210, 89⟩, ⟨210, 91, 210, 98⟩, ⟨210, 68, 210, 99⟩, ⟨210, 101, 210, 111⟩, ⟨210, 112, 210, 122⟩, ⟨210, 124, 210, 130⟩, ⟨210, 101, 210, 131⟩, ⟨210, 28, 210, 132⟩, ⟨210, 16, 210, 132⟩, ⟨210, 4, 210, 132⟩, ⟨211, 4, 211, 13⟩, ⟨211, 4, 211, 20⟩, ⟨211, 21, 211, 31⟩, ⟨211, 32, 211, 42⟩, ⟨211, 44, 211, 54⟩, ⟨211, 21, 211, 55⟩, ⟨211, 4, 211, 56⟩, ⟨211, 4, 211, 56⟩, ⟨212, 4, 212, 15⟩, ⟨212, 18, 212, 113⟩, ⟨212, 4, 212, 113⟩, ⟨213, 11, 213, 14⟩, ⟨213, 11, 213, 19⟩, ⟨213, 21, 213, 31⟩, ⟨213, 36, 213, 46⟩, ⟨213, 48, 213, 57⟩, ⟨213, 36, 213, 57⟩, ⟨213, 61, 213, 64⟩, ⟨213, 65, 213, 76⟩, ⟨213, 65, 213, 82⟩, ⟨213, 83, 213, 86⟩, ⟨213, 65, 213, 87⟩, ⟨213, 89, 213, 98⟩, ⟨213, 61, 213, 99⟩, ⟨213, 103, 213, 112⟩, ⟨213, 20, 213, 113⟩, ⟨213, 11, 213, 114⟩, ⟨213, 4, 213, 114⟩]
def nq (i : Nat) : Pos := nqL.getD i ⟨0, 0, 0, 0⟩
theorem nbE : defBody (top 58) = DH.nBody nq := by rfl
def wqL59 : List Pos := [⟨217, 11, 217, 21⟩, ⟨218, 15, 218, 25⟩, ⟨218, 26, 218, 36⟩, ⟨218, 15, 218, 37⟩, ⟨218, 8, 218, 37⟩, ⟨217, 4, 218, 37⟩, ⟨216, 8, 216, 17⟩, ⟨216, 8, 216, 19⟩, ⟨216, 8, 216, 19⟩, ⟨215, 4, 218, 37⟩, ⟨219, 11, 219, 13⟩, ⟨219, 4, 219, 13⟩]
def wq59 (i : Nat) : Pos := wqL59.getD i ⟨0, 0, 0, 0⟩
theorem wb59 : defBody (top 59) = DH.wBody false wq59 "_law_call" "_law_names" := by rfl
def wqL62 : List Pos := [⟨236, 11, 236, 21⟩, ⟨237, 15, 237, 25⟩, ⟨237, 26, 237, 36⟩, ⟨237, 15, 237, 37⟩, ⟨237, 8, 237, 37⟩, ⟨236, 4, 237, 37⟩, ⟨235, 15, 235, 24⟩, ⟨235, 15, 235, 26⟩, ⟨235, 8, 235, 26⟩, ⟨234, 4, 237, 37⟩]
def wq62 (i : Nat) : Pos := wqL62.getD i ⟨0, 0, 0, 0⟩
theorem wb62 : defBody (top 62) = DH.wBody true wq62 "_law_call" "_law_names" := by rfl
theorem wrd {P : Program} {w : World} {K : PySem.W.Frag} {mg : Str → Option Value} {h : Heap} (c : He.SaysD faL fn K) (X : K.In h) (G : h.Ns mainGlobals mg) (hx : exB K = true) : ∀ f x get, nm.w f = some (x, get) → ∃ pg bg sg dV kV doc pm cdv ct oc an od osl Ng a g, DE.WordOk P w K mg h (faK K) x get (DE.wdT TT f) pg bg sg dV kV doc pm cdv ct oc an od osl Ng a g := by
  intro f x get hf
  have hm : (f, x, get) ∈ wTab := DE.lookup_memN hf
  have hw : ∀ k z, wTabl.lookup k = some z → (∃ b, DH.NK K mg (faK K k) b ∧ z = DH.nZ b) ∧ PySem.W.exmOne K (.ref (faK K k)) (.ref (He.ga K "StripError")) = some true := by
    intro k z hz
    have hm2 : (k, z) ∈ wTabl := DE.lookup_memN hz
    have h1 := List.all_eq_true.mp (show wTabl.all (fun p => decide (1000 ≤ p.1) && rNames.contains (eTab.getD (p.1 - 1000) "") && decide (p.2 = DH.nZ (fun c => eTab.getD (p.1 - 1000) "" == c))) = true by decide +kernel) _ hm2
    rw [Bool.and_eq_true, Bool.and_eq_true] at h1
    have k1 := of_decide_eq_true h1.1.1
    have k2 := List.contains_iff_mem.mp h1.1.2
    have k3 := of_decide_eq_true h1.2
    have e1 : faK K k = He.ga K (eTab.getD (k - 1000) "") := by
      show (if k < 1000 then He.ga K (dTab.getD k "") else He.ga K (eTab.getD (k - 1000) "")) = _
      rw [if_neg (by omega)]
    rw [e1]
    have fr : ∀ x, He.Fa.free x ∈ mFacts → mg x = none := fun x hx => He.free_ok X G (c.facts (mf_mem hx))
    have inF : ∀ x, x ∈ (["isinstance", "zip", "ValueError"] : List Str) → He.Fa.free x ∈ mFacts := fun x hx => List.mem_append_right _ (List.mem_append_right _ (by
      simp only [List.mem_cons, List.not_mem_nil, or_false] at hx ⊢
      rcases hx with rfl | rfl | rfl <;> simp))
    refine ⟨⟨_, DH.nkB_ok (List.all_eq_true.mp (exB1 hx) _ k2) (fr _ (inF _ (by simp))) (fr _ (inF _ (by simp))) (fr _ (inF _ (by simp))) (fun y hy => He.glo_ok X G (c.facts (mf_mem (List.mem_append_right _ (List.mem_append_left _ (List.mem_map_of_mem hy)))))), k3⟩, ?_⟩
    exact of_decide_eq_true (c.facts (mf_mem (List.mem_append_left _ (List.mem_map_of_mem (f := fun n => He.Fa.exm n "StripError" true) k2))))
  obtain ⟨fdn, Fn⟩ := c.def_ 34 rfl
  have Fn' : FunD K "_law_names" "_law_names" (defArgs (top 58)) (DH.nBody nq) (defScope (top 58)) [] [] (He.ga K "_law_names") fdn := nbE ▸ Fn
  have Bn : Binds K fdn ["_law_error"] [] := Fn.bindsN (fun _ _ _ _ _ _ us hl => match us, hl with | [_], _ => rfl)
  have hmn : mg "_law_names" = some (.ref (He.ga K "_law_names")) := He.glo_ok X G (c.facts (glo_mem (by decide +kernel)))
  have hmc : mg "StripError" = some (.ref (He.ga K "StripError")) := He.glo_ok X G (c.facts (xglo_mem (by decide +kernel)))
  simp only [wTab, List.mem_cons, List.not_mem_nil, or_false] at hm
  rcases hm with hm | hm
  · cases hm
    obtain ⟨fdw, Fw⟩ := c.def_ 25 rfl
    have Fw' : FunD K "_law_word" "_law_word" (defArgs (top 59)) (DH.wBody false wq59 "_law_call" "_law_names") (defScope (top 59)) [] [] (He.ga K "_law_word") fdw := wb59 ▸ Fw
    exact DH.word_ok (wd := DE.wdT TT 31) Fw' (He.glo_ok X G (c.facts (glo_mem (by decide +kernel)))) (Fw.bindsN (fun _ _ _ _ _ _ us hl => match us, hl with | [_], _ => rfl)) ⟨rfl, rfl, rfl, by decide +kernel, rfl, by decide +kernel, by decide +kernel⟩
      Fn' hmn Bn ⟨rfl, rfl, rfl, by decide +kernel, rfl, by decide +kernel, by decide +kernel⟩ (by decide +kernel) (by decide +kernel) (by decide +kernel) (by decide +kernel) (by decide +kernel) (by decide +kernel) (by decide +kernel) (by decide +kernel) (by decide +kernel) (by decide +kernel) hmc (fun k z hz => hw k z hz)
  · cases hm
    obtain ⟨fdw, Fw⟩ := c.def_ 28 rfl
    have Fw' : FunD K "_law_tried" "_law_tried" (defArgs (top 62)) (DH.wBody true wq62 "_law_call" "_law_names") (defScope (top 62)) [] [] (He.ga K "_law_tried") fdw := wb62 ▸ Fw
    exact DH.word_ok (wd := DE.wdT TT 34) Fw' (He.glo_ok X G (c.facts (glo_mem (by decide +kernel)))) (Fw.bindsN (fun _ _ _ _ _ _ us hl => match us, hl with | [_], _ => rfl)) ⟨rfl, rfl, rfl, by decide +kernel, rfl, by decide +kernel, by decide +kernel⟩
      Fn' hmn Bn ⟨rfl, rfl, rfl, by decide +kernel, rfl, by decide +kernel, by decide +kernel⟩ (by decide +kernel) (by decide +kernel) (by decide +kernel) (by decide +kernel) (by decide +kernel) (by decide +kernel) (by decide +kernel) (by decide +kernel) (by decide +kernel) (by decide +kernel) hmc (fun k z hz => hw k z hz)
theorem tok {P : Program} {w : World} {K : PySem.W.Frag} {mg : Str → Option Value} {h : Heap} (c : He.SaysD faL fn K) (X : K.In h) (G : h.Ns mainGlobals mg) (hx : exB K = true) : ∀ f x get, nm.w f = some (x, get) → DE.TryOk P w K mg h (faK K) "_law_names" (DE.wdT TT f) := by
  intro f x get hf
  have hm : (f, x, get) ∈ wTab := DE.lookup_memN hf
  have hw : ∀ k z, wTabl.lookup k = some z → (∃ b, DH.NK K mg (faK K k) b ∧ z = DH.nZ b) ∧ PySem.W.exmOne K (.ref (faK K k)) (.ref (He.ga K "StripError")) = some true := by
    intro k z hz
    have hm2 : (k, z) ∈ wTabl := DE.lookup_memN hz
    have h1 := List.all_eq_true.mp (show wTabl.all (fun p => decide (1000 ≤ p.1) && rNames.contains (eTab.getD (p.1 - 1000) "") && decide (p.2 = DH.nZ (fun c => eTab.getD (p.1 - 1000) "" == c))) = true by decide +kernel) _ hm2
    rw [Bool.and_eq_true, Bool.and_eq_true] at h1
    have k1 := of_decide_eq_true h1.1.1
    have k2 := List.contains_iff_mem.mp h1.1.2
    have k3 := of_decide_eq_true h1.2
    have e1 : faK K k = He.ga K (eTab.getD (k - 1000) "") := by
      show (if k < 1000 then He.ga K (dTab.getD k "") else He.ga K (eTab.getD (k - 1000) "")) = _
      rw [if_neg (by omega)]
    rw [e1]
    have fr : ∀ x, He.Fa.free x ∈ mFacts → mg x = none := fun x hx => He.free_ok X G (c.facts (mf_mem hx))
    have inF : ∀ x, x ∈ (["isinstance", "zip", "ValueError"] : List Str) → He.Fa.free x ∈ mFacts := fun x hx => List.mem_append_right _ (List.mem_append_right _ (by
      simp only [List.mem_cons, List.not_mem_nil, or_false] at hx ⊢
      rcases hx with rfl | rfl | rfl <;> simp))
    refine ⟨⟨_, DH.nkB_ok (List.all_eq_true.mp (exB1 hx) _ k2) (fr _ (inF _ (by simp))) (fr _ (inF _ (by simp))) (fr _ (inF _ (by simp))) (fun y hy => He.glo_ok X G (c.facts (mf_mem (List.mem_append_right _ (List.mem_append_left _ (List.mem_map_of_mem hy)))))), k3⟩, ?_⟩
    exact of_decide_eq_true (c.facts (mf_mem (List.mem_append_left _ (List.mem_map_of_mem (f := fun n => He.Fa.exm n "StripError" true) k2))))
  obtain ⟨fdn, Fn⟩ := c.def_ 34 rfl
  have Fn' : FunD K "_law_names" "_law_names" (defArgs (top 58)) (DH.nBody nq) (defScope (top 58)) [] [] (He.ga K "_law_names") fdn := nbE ▸ Fn
  have Bn : Binds K fdn ["_law_error"] [] := Fn.bindsN (fun _ _ _ _ _ _ us hl => match us, hl with | [_], _ => rfl)
  have hmn : mg "_law_names" = some (.ref (He.ga K "_law_names")) := He.glo_ok X G (c.facts (glo_mem (by decide +kernel)))
  have hmc : mg "StripError" = some (.ref (He.ga K "StripError")) := He.glo_ok X G (c.facts (xglo_mem (by decide +kernel)))
  simp only [wTab, List.mem_cons, List.not_mem_nil, or_false] at hm
  rcases hm with hm | hm
  · cases hm
    exact DH.tryOk_of (wd := DE.wdT TT 31) Fn' hmn Bn ⟨rfl, rfl, rfl, by decide +kernel, rfl, by decide +kernel, by decide +kernel⟩ (by decide +kernel) (by decide +kernel) (by decide +kernel) (by decide +kernel) hmc (fun k z hz => hw k z hz)
  · cases hm
    exact DH.tryOk_of (wd := DE.wdT TT 34) Fn' hmn Bn ⟨rfl, rfl, rfl, by decide +kernel, rfl, by decide +kernel, by decide +kernel⟩ (by decide +kernel) (by decide +kernel) (by decide +kernel) (by decide +kernel) hmc (fun k z hz => hw k z hz)
theorem fx {P : Program} {w : World} {K : PySem.W.Frag} {mg : Str → Option Value} {h : Heap} (c : He.SaysD faL fn K) (X : K.In h) (G : h.Ns mainGlobals mg) (tb : ∀ p ∈ tf.map (He.cT K), LamX.TabB h mg p.1 p.2) (hx : exB K = true) : ∀ k, DE.Fx P w K mg h nm (faK K) gc TT k :=
  DE.fx_all (hd c X G hx tb) (con c X G) (DE.free_all c X G fun x hx => List.mem_append_left _ (List.mem_map_of_mem hx)) (exc c X G) (wrd c X G hx) (tok c X G hx)
theorem law_holds : PySem.Challenge.rw_foldedstrip_k05_whole_what_was_seen.Holds := by
  w_on; o_law
  refine HandSHeadRun.head_any (r := PySem.W.OpenLaw.row PySem.Challenge.rw_foldedstrip_k05_whole_what_was_seen) (q := PySem.W.view (PySem.W.OpenLaw.row PySem.Challenge.rw_foldedstrip_k05_whole_what_was_seen).prog [67]) (H := hk) (ob := ob) (M := 8000) (loose := loose) (d := HandSHeadRun.topDef (PySem.W.OpenLaw.row PySem.Challenge.rw_foldedstrip_k05_whole_what_was_seen).prog 67) (kwd := []) ob_eq
    (by kernel_rfl) (fun s => by kernel_rfl) run (by kernel_rfl) (by kernel_rfl) (by kernel_rfl) (by rfl) (by first | assumption | decide +kernel) (by decide +kernel) ⟨rfl, rfl, rfl, rfl, rfl, by decide +kernel⟩ ?hw ?hc
  case hw => w_witness2
  case hc =>
    refine LamX.walk_ofTsE (l := PySem.Challenge.rw_foldedstrip_k05_whole_what_was_seen) (n := 63) (k := 3 * (60 + 1)) (x := "_law_script") (CX := fun w => L2N.CX PySem.Challenge.rw_foldedstrip_k05_whole_what_was_seen.prog w) rfl (by decide) (by kernel_rfl) ⟨rfl, by decide, by decide⟩ ?F (fun w H s e s' ⟨_, _, _, _, _, _, _, _, _, _, _, _, z⟩ => z)
    intro w mg fa h Y G hmg0
    obtain ⟨K, KX, c⟩ := Y
    have hmg : mg ("law" : PySem.Str) = some (.ref fa) := by
      have e : (HandSHeadRun.topDef (PySem.W.OpenLaw.row PySem.Challenge.rw_foldedstrip_k05_whole_what_was_seen).prog 67).name = ("law" : PySem.Str) := by kernel_rfl
      rw [← e]
      exact hmg0
    have cd := c.t.d
    obtain ⟨fd, F⟩ := cd.def_ 33 rfl
    have e := hmg.symm.trans (He.glo_ok KX G (cd.facts (glo_mem (x := "law") (by decide +kernel))))
    cases e
    refine ⟨K, KX, DE.law_at (k := 60) (fL := 39) (xl := "law") (fd := fd) (nm := nm) (fa := faK K) (gc := gc) (T := TT) (cs := tf.map (He.cT K)) ?_ ?_ ?_ ?_ (fun base X G tb => fx cd X G tb c.more _) (fun base X G tb => at39 F cd X G ) rfl (fun s u => FunD.bindsA (ps := ["_law_script"]) F (fun _ _ _ _ _ _ us hl => match us, hl with | [_], _ => rfl) s [u] rfl) (fun ns hl hb => law_true ns hl hb)⟩
    · intro p hp
      obtain ⟨q, hq, rfl⟩ := List.mem_map.mp hp
      exact c.empty q hq
    · intro p hp
      obtain ⟨q, hq, rfl⟩ := List.mem_map.mp hp
      exact c.out q hq
    · intro p hp
      obtain ⟨q, hq, rfl⟩ := List.mem_map.mp hp
      exact PySem.W.codeHd_of_K KX (c.hd q hq)
    · intro p hp
      obtain ⟨q, hq, hq2⟩ := tbs_mem hp
      exact ⟨He.cT K q, List.mem_map_of_mem hq, hq2⟩
end LAW
end

theorem PySem.Challenge.cw_foldedstrip_k05_whole_what_was_seen_holds : PySem.Challenge.rw_foldedstrip_k05_whole_what_was_seen.Holds :=
  LAW.law_holds
