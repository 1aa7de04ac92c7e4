import PyProof.Rows.All
import Wide.All
import OpenK.AllK
import Wide.FinOn
import HandS.Lambda
import HandS.ExcCtx
import HandS.HotCalls
import HandS.ForMost
import HandS.Defaults
import HandS.ForExc
import HandS.Small
import HandS.CallLocal
import HandS.Walk
import HandS.Zip
import HandS.Rev
import HandS.Deep
import HandS.TupAny
import HandS.TupMul
import HandS.Wide
import HandS.Style
import HandS.SortInts
import HandS.IsInst
import HandS.Conv
import HandS.More
import HandS.SetFor
import HandS.ExcIs
import HandS.WideBits
import HandS.HeadHook4
import HandS.Dict
import HandS.RevTup
import HandS.HeadWalk
import HandS.Head2
import HandS.Words
import HandS.WordsExc
import PySem.Challenge.RW_nextterms_k76_whole_sieves
set_option Elab.async false
set_option linter.all false
set_option maxRecDepth 100000
set_option maxHeartbeats 2000000
/-! A lambda handed to a def, where it is told of each exception that its context is none. -/
namespace LamN
open PySem PySem.Spec PyProof.Rows L2 LamX
/-- the body's context: its exceptions are told with their context -/
def ctxN (X : Cx) (A : Around) (outer : List Env) (s : Shared) (H : Hp) (E : XK) (scope : Scope) (f c' : Addr) : Cx :=
  (lamCx X A outer s H E scope f c').wish fun e s1 => wpAny (model X.prog X.w) (A.deeper (lamEnv X scope s.heap.objs.size f c')) (leaving (lamEnv X scope s.heap.objs.size f c') e)
    (fun _ s2 => L2N.CX X.prog X.w outer H s E e s2) (fun e2 s2 => L2N.CX X.prog X.w outer H s E e2 s2) s1
section
variable {X : Cx} {pins : List (Addr × Obj)} {σ : L2.St} {H HZ : Hp} {s s1 : Shared}
theorem act {CXg : CXT} {Eg E : XK} {Ng : List Str} {qg a : Str} {sg : Scope} {g f c' : Addr} {cdg pm ctv : Value} {params : Arguments} {body : Expr} {scope : Scope} {k i : Nat} {pn : List (Addr × Obj)} {xe : Value → Shared → Prop} {W : WX} {tb : TE} {p1 p2 : Pos}
    (I : Inv X pins σ H s) (L : LamS X.env.scope scope)
    (hf : s.heap.get? f = some (PySem.W.kla_obj "<lambda>" (X.env.qual ++ "<lambda>") params body scope (cloFrom X.env.cells scope.names []) pm c' ctv)) (hfn : H f = none) (hfr : f ∉ frs X.stack)
    (bi : bindArgs (PySem.W.kla_fn "<lambda>" (X.env.qual ++ "<lambda>") params body scope (cloFrom X.env.cells scope.names []) pm (.ref c') ctv) ⟨[], []⟩ = pure [])
    (tk : L2N.Takes ((cxOf CXg X.prog X.w X.K X.mg X.base Ng qg sg g cdg X.A X.stack s H Eg).tr pn xe) W) (hW : ∀ cls d σ' H', E cls d H' → W cls d σ' H')
    (hr : Room (k + 1) (X.A.deeper (envOfC qg sg s.heap.objs.size g cdg)))
    (bd : ∀ (A : Around) (outer : List Env) (s : Shared) (H : Hp), Room k (A.deeper (lamEnv X scope s.heap.objs.size f c')) → PE (ctxN X A outer s H E scope f c') body tb)
    (hN : Ng[i]? = some a) (hv : Vis sg a) (hd : (a == ("__debug__" : Str)) = false := by decide) (hcd : (a == ("__classdict__" : Str)) = false := by decide) :
    PE ((cxOf CXg X.prog X.w X.K X.mg X.base Ng qg sg g cdg X.A X.stack s H Eg).tr pn xe) (.Call (.Name a p1) [] [] p2) (fun σZ HZ Q => σZ[i]? = some (some (.ref f)) ∧ HZ c' = some (CodeO c' (X.env.qual ++ "<lambda>")) ∧ tb σ HZ Q) := by
  constructor
  rintro pinsZ sZ σZ HZ Q IZ ⟨e0, ec, ht⟩
  refine wpAny_Call_Name_kw (thn ((pe_var (pos := p1) (i := i) hN hv hd hcd).run pinsZ sZ σZ HZ (fun v H1 => v = .ref f ∧ H1 = HZ) IZ ⟨.ref f, e0, rfl, rfl⟩) fun u s1 ⟨v, H1, I1, r1, ⟨e1, e2⟩⟩ => ?_)
  subst e1 e2
  cases (show u = Value.ref f from r1)
  have at1 := I1.base.keep f _ hf hfn hfr (fun z => nomatch (show f ∈ ([] : List Addr) from z))
  refine PySem.W.callWith_F0 ⟨_, _, _, _, at1⟩ ?_
  have un : Un (frs X.stack) [] H H1 s.heap s1.heap := I1.base
  obtain ⟨⟨oc, vs, t, q1, q2, q3⟩, _, _⟩ := I1.hok c' _ ec
  have done : codeAny (model X.prog X.w) (X.A.deeper (envOfC qg sg s.heap.objs.size g cdg)) (.call (.ref f) ⟨[], []⟩) (CR (L2N.CX X.prog X.w) (envOfC qg sg s.heap.objs.size g cdg :: X.stack) X.prog X.w H1 s1 Q E) s1 := by
    refine PySem.W.kla_callFunE hr.depth at1 rfl L.co L.gen rfl ⟨c', oc, vs, t, rfl, q1, q2, q3⟩ ?_
    rw [bi]
    refine wpAny_pure (wpAny_newFunctionEnv (fun y hy => (L.own y hy).2) (fun y hy => absurd hy (by simp)) (fun h₁ n1 b1 => ⟨I1.nolimit.fresh _ b1, ?_⟩) L.kind)
    show codeAny _ _ (.expr body (lamEnv X scope s1.heap.objs.size f c')) _ _
    have kp : ∀ b o, s1.heap.get? b = some o → h₁.get? b = some o := fun b o e => b1.extBut b o (Nat.ne_of_lt (Heap.lt_size e)) (Heap.get?_push_of_some _ e)
    have J := (lam_start2 (E := E) (f := f) (c' := c') (tk := s1.toks + ([] : List (Str × Value)).length) I L I1.env0 hr.hd un n1 kp).wish fun e s2 =>
      wpAny (model X.prog X.w) ((X.A.deeper (envOfC qg sg s.heap.objs.size g cdg)).deeper (lamEnv X scope s1.heap.objs.size f c')) (leaving (lamEnv X scope s1.heap.objs.size f c') e)
        (fun _ s3 => L2N.CX X.prog X.w (envOfC qg sg s.heap.objs.size g cdg :: X.stack) H1 s1 E e s3) (fun e2 s3 => L2N.CX X.prog X.w (envOfC qg sg s.heap.objs.size g cdg :: X.stack) H1 s1 E e2 s3) s2
    refine PySem.W.kla_codeExpr (wpAny_mono ((bd _ _ s1 H1 (hr.deeper _)).run [] _ _ H1 Q J ht) (fun v s' ⟨w', H', J', rv, q⟩ => ?_) fun e s' z => z)
    exact ⟨w', H', J'.os, J'.bare, J'.base, J'.hok, rv, q⟩
  have hx : Passes (L2N.CX X.prog X.w) ((cxOf CXg X.prog X.w X.K X.mg X.base Ng qg sg g cdg X.A X.stack s H Eg).tr pn xe) E := L2N.passes_call tk hW
  refine wpAny_call (codeAny_mono done fun r s2 z => ?_)
  match r, z with
  | .error e, z => exact hx pinsZ σZ H1 s1 e s2 I1 z
  | .ok (.ret u), z => exact I1.after z
  | .ok .next, z => exact False.elim z
  | .ok .brk, z => exact False.elim z
  | .ok .cont, z => exact False.elim z
end
/-- what a def that calls its argument makes of the lambda's reading -/
def Gives (X : Cx) (Ng : List Str) (x : Str) (sg : Scope) (g : Addr) (cdg : Value) (bg : List Stmt) (a : Str) (q : Str) (TT : (XK → Hp → VK → Prop) → Hp → VK → Prop) : Prop :=
  ∀ (f c' : Addr) (s : Shared) (H : Hp) (Q : VK) (tl : XK → Hp → VK → Prop),
    (∀ (W : WX) (pn : List (Addr × Obj)) (xe : Value → Shared → Prop) (E : XK) (p1 p2 : Pos), L2N.Takes ((cxOf C8.CX0 X.prog X.w X.K X.mg X.base Ng x sg g cdg X.A X.stack s H C8.E0).tr pn xe) W → (∀ cls d σ' H', E cls d H' → W cls d σ' H') →
      PE ((cxOf C8.CX0 X.prog X.w X.K X.mg X.base Ng x sg g cdg X.A X.stack s H C8.E0).tr pn xe) (.Call (.Name a p1) [] [] p2) (fun σZ HZ Q => σZ[0]? = some (some (.ref f)) ∧ HZ c' = some (CodeO c' q) ∧ tl E HZ Q)) → H c' = some (CodeO c' q) → TT tl H Q →
    ∃ t, PSs (cxOf C8.CX0 X.prog X.w X.K X.mg X.base Ng x sg g cdg X.A X.stack s H C8.E0).nox bg t ∧ t { nx := fun _ H' => Q .non H', rt := Q } (L2.start Ng [.ref f]) H
section
variable {X : Cx}
theorem lamcall {T : List (Addr × Str)} {TT : (XK → Hp → VK → Prop) → Hp → VK → Prop} {x a : Str} {g c P : Addr} {k : Nat} {pg params : Arguments} {bg : List Stmt} {sg scope : Scope} {dV kV doc pm cdv ct oc : Value} {an od : Option Addr} {osl : Array (Option Value)} {Ng : List Str}
    {body : Expr} {t : XK → TE} {p lpos pos : Pos} (hg : Gl X x) (hm : X.mg x = some (.ref g)) (hk : PySem.W.keepIn X.K (.ref g) = true)
    (lk : X.K.lookup g = some ⟨oc, od, .func (PySem.W.fnOf x x pg bg sg dV kV doc pm an cdv ct), osl⟩) (hcg : PySem.W.codeIn X.K cdv x = true) (bi : L2.Binds X.K (PySem.W.fnOf x x pg bg sg dV kV doc pm an cdv ct) [a] [])
    (Sg : FnScope Ng [a] sg) (hNg : Ng[0]? = some a) (hva : Vis sg a) (hG : Gives X Ng x sg g cdv bg a (X.env.qual ++ "<lambda>") TT)
    (TB : TabB X.base X.mg c P) (hcode : X.env.code = .ref c) (hmT : (P, X.env.qual ++ "<lambda>") ∈ T) (hu : ∀ p ∈ T, p.1 = P → p.2 = X.env.qual ++ "<lambda>") (hr : Room (k + 2) X.A) (L : LamS X.env.scope scope) (hdef : defaultsOf params X.env = ([], []))
    (hbind : ∀ (q : Str) (cl : List (Str × Addr)) (pm cv ctv : Value), bindArgs (PySem.W.kla_fn "<lambda>" q params body scope cl pm cv ctv) ⟨[], []⟩ = pure [])
    (bd : ∀ (A : Around) (outer : List Env) (s : Shared) (H : Hp) (E : XK) (f c' : Addr), Room k (A.deeper (lamEnv X scope s.heap.objs.size f c')) → PE (ctxN X A outer s H E scope f c') body (t E))
    (hdb : (x == ("__debug__" : Str)) = false := by decide) (hd : (a == ("__debug__" : Str)) = false := by decide) (hcd : (a == ("__classdict__" : Str)) = false := by decide) :
    PE X (.Call (.Name x p) [.Lambda params body scope lpos] [] pos) (tLam T TT t) := by
  constructor
  rintro pins s σ H Q I ⟨hT, h⟩
  refine wpAny_Call_Name_kw (ld_glob I hg hm (PySem.W.callWith_K (h₀ := X.base) I.ok.mod.kin hk ?_ (by rfl) (by rfl)) hdb)
  show wpAny _ _ (spliced ((false, eval (.Lambda params body scope lpos) X.env) :: backTo pos (starEach [] X.env))) _ _ s
  refine Calls.spliced_cons (lam_make2 I TB hcode hmT hu hT hdef (L.has I.ok) fun f c' pm' ctv H1 s1 I1 eN T1 hf hfn hfr hco => Calls.spliced_nil ⟨I1.kIn, ?_⟩)
  have rc : codeAny (model X.prog X.w) X.A (.call (.ref g) ⟨[.ref f], []⟩) (CR C8.CX0 X.stack X.prog X.w H1 s1 Q C8.E0) s1 := by
    refine run_ofS (N := Ng) (ps := [a]) (us := [.ref f]) (vs := [.ref f]) lk hcg Sg hr I1.env0 (bi s1 [.ref f] I1.kIn rfl) (.cons rfl .nil) rfl fun hr2 => ?_
    obtain ⟨t1, h1, h2⟩ := hG f c' s1 H1 Q (fun E H' Q' => t E σ H' Q') (fun W pn xe E p1 p2 tk hW => act (i := 0) I1 L hf hfn hfr (hbind _ _ _ _ _) tk hW hr2 (fun A outer s H hr3 => bd A outer s H E f c' hr3) hNg hva hd hcd) hco (h H1 eN T1)
    exact ⟨t1, h1.nox, h2⟩
  refine wpAny_call (codeAny_mono rc fun r s2 z => ?_)
  match r, z with
  | .error e, z => exact (show False from z).elim
  | .ok (.ret u), z => exact I1.after z
  | .ok .next, z => exact False.elim z
  | .ok .brk, z => exact False.elim z
  | .ok .cont, z => exact False.elim z
theorem takes0 {X : Cx} : L2N.Takes X (fun _ _ _ _ => False) := fun _ _ x => by
  obtain ⟨_, _, _, _, _, _, _, _, _, _, _, _, _, _, _, _, z⟩ := x
  exact z.elim
end
end LamN

set_option Elab.async false
set_option linter.all false
set_option maxRecDepth 100000
set_option maxHeartbeats 2000000
/-! try .. except C as n, where a block within the suite names n (a cell): the name goes by emptying the cell. -/
namespace LamN
open PySem PySem.Spec PyProof.Rows L2 L2N
section
variable {X : Cx} {pins : List (Addr × Obj)} {σ : L2.St} {H : Hp} {s : Shared}
/-- one cell of ours is emptied: the frame knows no more of its name -/
theorem cellOff {i : Nat} {n : Str} {c : Addr} {h' : Heap} {t : Nat} (I : Inv X pins σ H s) (nd : X.N.Nodup) (at_ : X.N[i]? = some n) (fn : X.fn n = true) (lk : X.env.cells.lookup n = some c) (off : h'.IsCell c none) (sb : Heap.SameBut c s.heap h') :
    Inv X pins (σ.set i none) H { s with heap := h', toks := t } := by
  have old : ∀ b o, X.s_0.heap.get? b = some o → h'.get? b = s.heap.get? b := fun b o e => sb.2 b (Nat.ne_of_lt (Nat.lt_of_lt_of_le (Heap.lt_size e) (I.ok.cab n c fn lk)))
  have hc : H c = none := I.freeC n c lk
  have un : Un X.fs X.ex X.H_0 H X.s_0.heap h' := by
    constructor
    · intro b o e z1 z2 z3
      rw [old b o e]; exact I.base.keep b o e z1 z2 z3
    · intro b o e z1 z2 z3
      rw [old b o e]; exact I.base.slot b o e z1 z2 z3
    · exact I.base.free
    · intro b o e z
      rw [old b o e]; exact I.base.there b o e z
    · exact I.base.tups
    · exact I.base.frzs
    · exact I.base.tbls
  have look : ∃ m, h'.Ns X.env.locals m ∧ ∀ (j : Nat) (x : Str) (v : V), X.N[j]? = some x → (σ.set i none)[j]? = some (some v) → Vis X.env.scope x → ∃ u, RelV v u ∧ Look X.env h' m x u := by
    obtain ⟨m, ns, all⟩ := id I.loc
    refine ⟨m, ns.sameBut sb (Ne.symm (I.cne n c lk)), fun j x v hx hv hs => ?_⟩
    have ji : j ≠ i := fun e => by
      subst e
      by_cases hl : j < σ.length
      · rw [List.getElem?_set_self hl] at hv; cases hv
      · rw [List.getElem?_eq_none (by simpa using hl)] at hv; cases hv
    rw [List.getElem?_set_ne (Ne.symm ji)] at hv
    obtain ⟨u, ru, lo | ⟨kd, d, dk, dc⟩⟩ := all j x v hx hv hs
    · exact ⟨u, ru, .inl lo⟩
    · refine ⟨u, ru, .inr ⟨kd, d, dk, dc.sameBut sb fun e => ji ?_⟩⟩
      subst e
      have := I.ok.inj x n d dk lk
      subst this
      exact nodup_ix nd hx at_
  have cells : ∀ x d, X.env.cells.lookup x = some d → ∃ v, h'.IsCell d v := fun x d e => by
    by_cases hd : d = c
    · exact ⟨none, hd ▸ off⟩
    · obtain ⟨v, z⟩ := I.cell x d e
      exact ⟨v, z.sameBut sb hd⟩
  have pin : ∀ p ∈ X.pn ++ pins, h'.get? p.1 = some p.2 ∧ H p.1 = none ∧ p.1 ≠ X.env.locals ∧ p.1 ∉ X.fs ∧ ∀ v, p.2.data ≠ .cell v := fun p hp => by
    obtain ⟨e, r1, r2, r3, nc⟩ := I.pin p hp
    have pc : p.1 ≠ c := fun z => by
      obtain ⟨v, o, ho, hd⟩ := I.cell n c lk
      rw [← z, e] at ho
      cases ho
      exact nc v hd
    exact ⟨(sb.2 p.1 pc).trans e, r1, r2, r3, nc⟩
  have hok : HOk X.prog X.w H h' := fun b ob e => by
    refine (I.hok b ob e).stay (fun d u hd q => ?_) (fun _ q => q) fun _ _ q => q
    rw [sb.2 d (fun z => ?_)]
    · exact q
    · rcases hd with y | y
      · rw [← y, z, hc] at e; cases e
      · rw [z, hc] at y; cases y
  exact ⟨I.ok, I.os, I.bare, un, look, cells, I.free, I.freeC, pin, hok, by rw [List.length_set]; exact I.len⟩
/-- the clause's name goes, its name a cell's -/
theorem goneCell {M : Model} {A : Around} {E : Value → Shared → Prop} {i : Nat} {n : Str} {pos : Pos} {Q : Unit → Shared → Prop} (I : Inv X pins σ H s) (nd : X.N.Nodup) (at_ : X.N[i]? = some n) (hk : X.env.kindOf n = some .cell) (fn : X.fn n = true)
    (k : ∀ s', Inv X pins (σ.set i none) H s' → Q () s') : wpAny M A (do bindName X.env n .none; unbindBehindTheSuite X.env n pos) Q E s := by
  obtain ⟨c, lk⟩ := I.ok.has n (.inl hk)
  obtain ⟨v0, z0⟩ := I.cell n c lk
  refine wpAny_bind (wpAny_bindName (wpAny_storeName_cell I.ok.kind hk lk z0 fun h1 c1 sb1 => ?_))
  unfold unbindBehindTheSuite
  refine wpAny_onRaise ?_
  unfold unbindName deleteName
  refine wpAny_bind (wpAny_point (wpAny_bind ?_))
  simp only [hk]
  refine wpAny_bind (wpAny_cellOf lk (wpAny_bind (wpAny_cellGet c1 ?_)))
  refine wpAny_cellSet c1 fun h2 c2 sb2 => wpAny_point (k _ ?_)
  exact cellOff (s := s) (h' := h2) I nd at_ fn lk c2 (sb1.trans sb2)
end
section
variable {X : Cx} {x n : Str} {c : Value} {i : Nat} {body suite : List Stmt} {st0 : Stmt} {np pos pos' : Pos} {tb : WX → TS} {ts : Addr → Value → Option Addr → TS} {Wout : WX}
/-- the suite's ends: the name has gone -/
theorem suiteEnd {pins : List (Addr × Obj)} {a : Addr} {q : Addr × Obj} {D : Ends} {f : Flow} {s6 : Shared} (ok : X.Ok) (nd : X.N.Nodup) (at_ : X.N[i]? = some n) (hk : X.env.kindOf n = some .cell) (fn : X.fn n = true)
    (hsp : SP (X.suite a (q :: (X.pn ++ pins))) [] { nx := fun σ' H' => D.nx (σ'.set i none) H', rt := D.rt, bk := fun σ' H' => D.bk (σ'.set i none) H', ct := fun σ' H' => D.ct (σ'.set i none) H' } f s6) :
    wpAny (model X.prog X.w) X.A (do bindName X.env n .none; unbindBehindTheSuite X.env n pos') (fun _ s7 => SP X pins D f s7) X.xe s6 := by
  cases f with
  | ret u =>
    obtain ⟨v6, σ6, H6, J, r, g⟩ := hsp
    exact goneCell (J.unsuite ok) nd at_ hk fn fun s7 J7 => ⟨v6, _, H6, J7, r, g⟩
  | next =>
    obtain ⟨σ6, H6, J, g⟩ := hsp
    exact goneCell (J.unsuite ok) nd at_ hk fn fun s7 J7 => ⟨_, H6, J7, g⟩
  | brk =>
    obtain ⟨σ6, H6, J, g⟩ := hsp
    exact goneCell (J.unsuite ok) nd at_ hk fn fun s7 J7 => ⟨_, H6, J7, g⟩
  | cont =>
    obtain ⟨σ6, H6, J, g⟩ := hsp
    exact goneCell (J.unsuite ok) nd at_ hk fn fun s7 J7 => ⟨_, H6, J7, g⟩
end
section
variable {X : Cx} {x n : Str} {c : Value} {i : Nat} {body suite : List Stmt} {st0 : Stmt} {np pos pos' : Pos} {tb : WX → TS} {ts : Addr → Value → Option Addr → TS} {Wout : WX}
/-- what the catch makes of an exception in the air -/
theorem caught {pins : List (Addr × Obj)} {D : Ends} {u : Value} {s' : Shared} (ok : X.Ok) (stk : X.stack = X.env :: X.outer) (fr : X.env.frame = some X.env.locals) (nd : X.N.Nodup) (at_ : X.N[i]? = some n) (hk : X.env.kindOf n = some .cell) (fn : X.fn n = true) (hc : Names X x c) (tk : L2N.Takes X Wout)
    (hsu : ∀ (a : Addr) (oe : Obj) (cls : Value) (d : Option Addr) (pn : List (Addr × Obj)), Zn cls d oe → (∃ vs, oe.data = .fields vs) → PSs (X.suite a ((a, oe) :: pn)) (st0 :: suite) (ts a cls d))
    {xe : Value → Shared → Prop} (air : L2N.XE (X.tr (X.pn ++ pins) xe) (wAs X.K c i ts Wout D) u s') :
    wpAny (model X.prog X.w) X.A (noteFrame u X.env) (fun _ s2 => wpAny (model X.prog X.w) X.A (setFlight u none)
      (fun _ s3 => wpAny (model X.prog X.w) X.A (handleBy u X.env [.ExceptHandler (some (.Name x np)) (some n) (st0 :: suite) pos']) (SP X pins D) X.xe s3) X.xe s2) X.xe s' := by
  obtain ⟨a, G, sI, pz, σ1, H1, cls, d, rfl, J0, low, ups, sky, freeA, os1, gens1, b, isB, yes, no⟩ := air
  have J : L2.Inv X pins σ1 H1 sI := J0.ofTry ok
  have frames : X.A.frames = some (X.env :: X.outer) := by rw [← stk]; exact ok.frames
  have sky1 : Sky G (X.env :: X.outer) a (Zn cls d) X.env.locals s'.heap := by rw [← stk]; exact sky
  refine Sky.land Zn.steady frames fr sky1 fun h1 ground up1 => ?_
  have ups1 := ups.trans up1
  have J1 : L2.Inv X pins σ1 H1 { s' with heap := h1 } := J.landed low ground.1 ups1 os1 gens1
  -- the error's object is no frame's
  have apart : ∀ {h : Heap}, HandSPX.FlyingZ G (X.env :: X.outer) a (Zn cls d) h → a ≠ X.env.locals ∧ a ∉ X.fs := fun {h} fl => by
    obtain ⟨o, vs, e, _, dt⟩ := fl.there
    have out : a ∉ frs (X.env :: X.outer) := fun m => by
      obtain ⟨_, o2, e2, nf⟩ := fl.2.2.1.mem m
      rw [e] at e2
      cases e2
      exact nf _ dt
    refine ⟨fun z => out (List.mem_filterMap.mpr ⟨X.env, .head _, by rw [fr, z]⟩), fun m => out ?_⟩
    obtain ⟨v, hv, q⟩ := List.mem_filterMap.mp m
    exact List.mem_filterMap.mpr ⟨v, .tail _ hv, q⟩
  obtain ⟨nL, nF⟩ := apart ground
  obtain ⟨oe, vs, he, hz, hd⟩ := ground.there
  have S1 := J1.suite he hd freeA nL nF
  refine wpAny_handleBy_cons (codeAny_handlers_test ?_) (by intro z; cases z)
  -- the clause's class is told
  have told : ∀ {Q E1 : Value → Shared → Prop}, Q c { s' with heap := h1 } → wpAny (model X.prog X.w) (X.A.mark (some (.ref a))) (eval (.Name x np) X.env) Q E1 { s' with heap := h1 } := fun {Q E1} q => by
    rcases hc with ⟨g, db, m | ⟨m, bt, ne⟩⟩
    · exact ld_glob (X := X.suite a ((a, oe) :: (X.pn ++ pins))) S1 g m q db
    · exact ld_blt (X := X.suite a ((a, oe) :: (X.pn ++ pins))) S1 g m bt q ne db
  have kind : PySem.W.Looks (model X.prog X.w) h1 (typeOf (.ref a)) cls := fun A Q E s k q => wpAny_typeOf_ref (k _ _ he) (by rw [hz.1]; exact q)
  refine told (PySem.W.exm_one (M := model X.prog X.w) J1.kIn kind isB |>.here ?_)
  cases b with
  | true =>
    refine codeAny_handlers_suite_as (HandSPX.lands_againZ ground fun h2 ground2 up2 => ?_)
    have J2 : L2.Inv X pins σ1 H1 { s' with heap := h2 } := J.landed low ground2.1 (ups1.trans up2) os1 gens1
    obtain ⟨oe2, vs2, he2, hz2, hd2⟩ := ground2.there
    have S2 := J2.suite he2 hd2 freeA nL nF
    refine store_ok (X := X.suite a ((a, oe2) :: (X.pn ++ pins))) (v := .ref a) S2 nd at_ (.inr hk) rfl (fun s5 S5 => ?_) (.inl fn)
    exact wpAny_mono ((hsu a oe2 cls d (X.pn ++ pins) hz2 ⟨_, hd2⟩).run [] s5 _ H1 _ S5 (yes rfl a freeA)) (fun f s6 hsp => suiteEnd ok nd at_ hk fn hsp) fun _ _ z => z.elim
  | false =>
    refine wpAny_handleBy_nil ?_
    obtain ⟨k1, k2, k3, o3, vs3, tb3, ot3, ts3, g1, g2, g3, g4, g5⟩ := id ground
    unfold PySem.passOn
    have back : wpAny (model X.prog X.w) X.A (setFlight (.ref a) X.env.frame) (fun _ s4 => wpAny (model X.prog X.w) X.A (throw (.ref a) : Sem Flow) (SP X pins D) X.xe s4) X.xe { s' with heap := h1 } := by
      rw [fr]
      refine HandSPX.setFlight_upZ ground fun h4 held up4 => wpAny_throw (tk _ _ ⟨a, G, sI, pins, σ1, H1, cls, d, rfl, J, low, ups1.trans up4, ?_, freeA, os1, gens1, no rfl⟩)
      rw [stk]
      exact .inr (.inr held)
    refine wpAny_bind (wpAny_field g1 g3 g4 ?_)
    rw [if_neg (show ¬ ((Value.ref tb3 == Value.none) = true) from by simp)]
    first
      | exact wpAny_bind back
      | exact wpAny_bind (wpAny_pure (wpAny_bind back))
/-- try: .. except C as n: .., n a cell -/
theorem ps_try_cell (stk : X.stack = X.env :: X.outer) (fr : X.env.frame = some X.env.locals) (nd : X.N.Nodup) (at_ : X.N[i]? = some n) (hk : X.env.kindOf n = some .cell) (fn : X.fn n = true) (hc : Names X x c) (tk : L2N.Takes X Wout)
    (hb : ∀ (W : WX) (pn : List (Addr × Obj)) (xe : Value → Shared → Prop), L2N.Takes (X.tr pn xe) W → PassesOwn (model X.prog X.w) X.A X.env xe → PSs (X.tr pn xe) body (tb W))
    (hsu : ∀ (a : Addr) (oe : Obj) (cls : Value) (d : Option Addr) (pn : List (Addr × Obj)), Zn cls d oe → (∃ vs, oe.data = .fields vs) → PSs (X.suite a ((a, oe) :: pn)) (st0 :: suite) (ts a cls d)) :
    PS X (.Try body [.ExceptHandler (some (.Name x np)) (some n) (st0 :: suite) pos'] [] [] pos) (fun D σ H => tb (wAs X.K c i ts Wout D) D σ H) := by
  constructor
  intro pins s σ H D I want
  have ok := I.ok
  refine wpAny_Try_except (wpAny_mono ((hb _ (X.pn ++ pins) _ (fun u s' air => caught (pos' := pos') ok stk fr nd at_ hk fn hc tk hsu air) PassesOwn.looking).run [] s σ H D (I.toTry _) want) (fun f s1 got => ?_) fun _ _ z => z)
  cases f with
  | ret u =>
    obtain ⟨v, σ2, H2, J, r, q⟩ := got
    exact ⟨v, σ2, H2, J.ofTry ok, r, q⟩
  | next =>
    obtain ⟨σ2, H2, J, q⟩ := got
    exact wpAny_execs_nil ⟨σ2, H2, J.ofTry ok, q⟩
  | brk =>
    obtain ⟨σ2, H2, J, q⟩ := got
    exact ⟨σ2, H2, J.ofTry ok, q⟩
  | cont =>
    obtain ⟨σ2, H2, J, q⟩ := got
    exact ⟨σ2, H2, J.ofTry ok, q⟩
/-- .. n a name of either kind -/
theorem ps_try_name (stk : X.stack = X.env :: X.outer) (fr : X.env.frame = some X.env.locals) (nd : X.N.Nodup) (at_ : X.N[i]? = some n) (hk : X.env.kindOf n = some .local ∨ X.env.kindOf n = some .cell) (fn : X.fn n = true) (hc : Names X x c) (tk : L2N.Takes X Wout)
    (hb : ∀ (W : WX) (pn : List (Addr × Obj)) (xe : Value → Shared → Prop), L2N.Takes (X.tr pn xe) W → PassesOwn (model X.prog X.w) X.A X.env xe → PSs (X.tr pn xe) body (tb W))
    (hsu : ∀ (a : Addr) (oe : Obj) (cls : Value) (d : Option Addr) (pn : List (Addr × Obj)), Zn cls d oe → (∃ vs, oe.data = .fields vs) → PSs (X.suite a ((a, oe) :: pn)) (st0 :: suite) (ts a cls d)) :
    PS X (.Try body [.ExceptHandler (some (.Name x np)) (some n) (st0 :: suite) pos'] [] [] pos) (fun D σ H => tb (wAs X.K c i ts Wout D) D σ H) :=
  hk.elim (fun h => L2N.ps_try_as stk fr nd at_ h hc tk hb hsu) fun h => ps_try_cell stk fr nd at_ h fn hc tk hb hsu
end
end LamN

set_option Elab.async false
set_option linter.all false
set_option maxRecDepth 100000
/-! The data layer: what a def computes, said of plain data. -/
namespace DL
open PySem L2
/-- plain data -/
inductive D where
  | non | bl (b : Bool) | int (i : Int) | str (s : Str)
  | tup (ds : List D) | lst (ds : List D)
  | dic (kvs : List (Key × D)) | dit (kvs : List (List Key × D))
  | ref (a : Addr)
section
variable (K : PySem.W.Frag) (H : Hp) (O : Addr → Prop)
mutual
def Rep : D → V → Prop
  | .non, v => v = .non
  | .bl b, v => v = .bl b
  | .int i, v => v = .int i
  | .str s, v => v = .str s
  | .ref a, v => v = .ref a
  | .tup ds, v => ∃ a vs, v = .ref a ∧ SqT K H a vs ∧ RepL ds vs
  | .lst ds, v => ∃ a vs, v = .ref a ∧ H a = some (.lst vs) ∧ ¬ O a ∧ RepL ds vs
  | .dic kvs, v => ∃ a kws, v = .ref a ∧ H a = some (.dK kws) ∧ ¬ O a ∧ RepK kvs kws
  | .dit kvs, v => ∃ a kws, v = .ref a ∧ H a = some (.dT kws) ∧ ¬ O a ∧ RepT kvs kws
def RepL : List D → List V → Prop
  | [], vs => vs = []
  | d :: ds, vs => ∃ v r, vs = v :: r ∧ Rep d v ∧ RepL ds r
def RepK : List (Key × D) → List (Key × V) → Prop
  | [], kws => kws = []
  | (k, d) :: r, kws => ∃ v q, kws = (k, v) :: q ∧ Rep d v ∧ RepK r q
def RepT : List (List Key × D) → List (List Key × V) → Prop
  | [], kws => kws = []
  | (k, d) :: r, kws => ∃ v q, kws = (k, v) :: q ∧ Rep d v ∧ RepT r q
end
end
section
variable {K : PySem.W.Frag} {H H' : Hp} {O O' : Addr → Prop}
/-- what carries a description over -/
structure Carry (K : PySem.W.Frag) (H H' : Hp) (O O' : Addr → Prop) : Prop where
  t : ∀ a vs, SqT K H a vs → SqT K H' a vs
  l : ∀ a vs, H a = some (.lst vs) → ¬ O a → H' a = some (.lst vs) ∧ ¬ O' a
  k : ∀ a kws, H a = some (.dK kws) → ¬ O a → H' a = some (.dK kws) ∧ ¬ O' a
  d : ∀ a kws, H a = some (.dT kws) → ¬ O a → H' a = some (.dT kws) ∧ ¬ O' a
mutual
theorem Rep.carry (c : Carry K H H' O O') : ∀ {d : D} {v : V}, Rep K H O d v → Rep K H' O' d v
  | .non, _, h => h
  | .bl _, _, h => h
  | .int _, _, h => h
  | .str _, _, h => h
  | .ref _, _, h => h
  | .tup ds, _, h => let ⟨a, vs, e, q, r⟩ := h; ⟨a, vs, e, c.t a vs q, RepL.carry c r⟩
  | .lst ds, _, h => let ⟨a, vs, e, q, n, r⟩ := h; ⟨a, vs, e, (c.l a vs q n).1, (c.l a vs q n).2, RepL.carry c r⟩
  | .dic kvs, _, h => let ⟨a, vs, e, q, n, r⟩ := h; ⟨a, vs, e, (c.k a vs q n).1, (c.k a vs q n).2, RepK.carry c r⟩
  | .dit kvs, _, h => let ⟨a, vs, e, q, n, r⟩ := h; ⟨a, vs, e, (c.d a vs q n).1, (c.d a vs q n).2, RepT.carry c r⟩
theorem RepL.carry (c : Carry K H H' O O') : ∀ {ds : List D} {vs : List V}, RepL K H O ds vs → RepL K H' O' ds vs
  | [], _, h => h
  | _ :: _, _, h => let ⟨v, r, e, h1, h2⟩ := h; ⟨v, r, e, Rep.carry c h1, RepL.carry c h2⟩
theorem RepK.carry (c : Carry K H H' O O') : ∀ {ds : List (Key × D)} {vs : List (Key × V)}, RepK K H O ds vs → RepK K H' O' ds vs
  | [], _, h => h
  | (_, _) :: _, _, h => let ⟨v, r, e, h1, h2⟩ := h; ⟨v, r, e, Rep.carry c h1, RepK.carry c h2⟩
theorem RepT.carry (c : Carry K H H' O O') : ∀ {ds : List (List Key × D)} {vs : List (List Key × V)}, RepT K H O ds vs → RepT K H' O' ds vs
  | [], _, h => h
  | (_, _) :: _, _, h => let ⟨v, r, e, h1, h2⟩ := h; ⟨v, r, e, Rep.carry c h1, RepT.carry c h2⟩
end
/-- what a list, a dict is -/
def Mu : HO → Prop
  | .lst _ => True
  | .dK _ => True
  | .dT _ => True
  | _ => False
/-- no table of code objects -/
def NT (o : HO) : Prop := ∀ ps, o ≠ .tbl ps
/-- something stands there (no table) -/
def nT (H : Hp) (a : Addr) : Prop := ∃ o, H a = some o ∧ NT o
def Keep (O : Addr → Prop) (H H' : Hp) : Prop := ∀ a o, H a = some o → ¬ O a → NT o → H' a = some o
def OM (O : Addr → Prop) (H : Hp) : Prop := ∀ a, O a → ∃ o, H a = some o ∧ Mu o
theorem Keep.refl {O : Addr → Prop} {H : Hp} : Keep O H H := fun _ _ h _ _ => h
theorem Keep.trans {O : Addr → Prop} {H H1 H2 : Hp} (a : Keep O H H1) (b : Keep O H1 H2) : Keep O H H2 := fun c o h n t => b c o (a c o h n t) n t
theorem Keep.sub {O O' : Addr → Prop} {H H1 : Hp} (a : Keep O H H1) (s : ∀ b, O b → O' b) : Keep O' H H1 := fun c o h n t => a c o h (fun z => n (s c z)) t
theorem Keep.new {O : Addr → Prop} {H : Hp} {p : Addr} {o : HO} (h : H p = none) : Keep O H (upd H p o) := fun a u e _ _ => by rw [upd_ne (ne_of_none e h)]; exact e
theorem nt_lst {xs : List V} : NT (.lst xs) := fun _ z => by cases z
theorem nt_tup {xs : List V} : NT (.tup xs) := fun _ z => by cases z
theorem nt_frz {o : Obj} {u : HO} : NT (.frz o u) := fun _ z => by cases z
theorem nt_dK {xs : List (Key × V)} : NT (.dK xs) := fun _ z => by cases z
theorem nt_dT {xs : List (List Key × V)} : NT (.dT xs) := fun _ z => by cases z
theorem Carry.keep {P : Addr → Prop} (k : Keep P H H') (s : ∀ a, P a → O a) (om : OM P H) : Carry K H H' O O where
  t := fun a vs h => by
    rcases h with (h | ⟨o, h⟩) | h
    · exact .inl (.inl (k a _ h (fun z => by obtain ⟨o, e, m⟩ := om a z; rw [h] at e; cases e; exact m) nt_tup))
    · exact .inl (.inr ⟨o, k a _ h (fun z => by obtain ⟨o, e, m⟩ := om a z; rw [h] at e; cases e; exact m) nt_frz⟩)
    · exact .inr h
  l := fun a vs h n => ⟨k a _ h (fun z => n (s a z)) nt_lst, n⟩
  k := fun a kws h n => ⟨k a _ h (fun z => n (s a z)) nt_dK, n⟩
  d := fun a kws h n => ⟨k a _ h (fun z => n (s a z)) nt_dT, n⟩
theorem Carry.sub (s : ∀ a, O' a → O a) : Carry K H H O O' := ⟨fun _ _ h => h, fun a _ h n => ⟨h, fun z => n (s a z)⟩, fun a _ h n => ⟨h, fun z => n (s a z)⟩, fun a _ h n => ⟨h, fun z => n (s a z)⟩⟩
theorem Carry.trans {H2 : Hp} {O2 : Addr → Prop} (a : Carry K H H' O O') (b : Carry K H' H2 O' O2) : Carry K H H2 O O2 :=
  ⟨fun x vs h => b.t x vs (a.t x vs h), fun x vs h n => b.l x vs (a.l x vs h n).1 (a.l x vs h n).2, fun x vs h n => b.k x vs (a.k x vs h n).1 (a.k x vs h n).2, fun x vs h n => b.d x vs (a.d x vs h n).1 (a.d x vs h n).2⟩
/-- one more owner: of a thing that was not there -/
theorem Carry.add {p : Addr} (h : H p = none) (s : ∀ a, O' a → O a ∨ a = p) : Carry K H H O O' where
  t := fun _ _ h => h
  l := fun a vs q n => ⟨q, fun z => by
    rcases s a z with z | z
    · exact n z
    · rw [z, h] at q; cases q⟩
  k := fun a vs q n => ⟨q, fun z => by
    rcases s a z with z | z
    · exact n z
    · rw [z, h] at q; cases q⟩
  d := fun a vs q n => ⟨q, fun z => by
    rcases s a z with z | z
    · exact n z
    · rw [z, h] at q; cases q⟩
theorem Carry.new {p : Addr} {o : HO} (h : H p = none) : Carry K H (upd H p o) O O := Carry.keep (P := fun _ => False) (Keep.new h) (fun _ z => z.elim) fun _ z => z.elim
theorem RepL.length : ∀ {ds : List D} {vs : List V}, RepL K H O ds vs → ds.length = vs.length
  | [], _, h => by cases h; rfl
  | _ :: _, _, h => by obtain ⟨v, r, rfl, _, h2⟩ := h; simp [RepL.length h2]
theorem RepL.get : ∀ {ds : List D} {vs : List V} {i : Nat} {d : D}, RepL K H O ds vs → ds[i]? = some d → ∃ v, vs[i]? = some v ∧ Rep K H O d v
  | [], _, i, _, _, e => by simp at e
  | _ :: _, _, 0, _, h, e => by obtain ⟨v, r, rfl, h1, _⟩ := h; simp at e; subst e; exact ⟨v, rfl, h1⟩
  | _ :: _, _, i + 1, _, h, e => by
    obtain ⟨v, r, rfl, _, h2⟩ := h
    obtain ⟨u, e1, e2⟩ := RepL.get h2 (by simpa using e)
    exact ⟨u, by simpa using e1, e2⟩
theorem RepL.get' : ∀ {ds : List D} {vs : List V} {i : Nat} {v : V}, RepL K H O ds vs → vs[i]? = some v → ∃ d, ds[i]? = some d ∧ Rep K H O d v := fun {ds vs i v} h e => by
  have hl := h.length
  have hi : i < ds.length := by rw [hl]; exact (List.getElem?_eq_some_iff.mp e).1
  obtain ⟨u, e1, e2⟩ := h.get (List.getElem?_eq_getElem hi)
  rw [e] at e1; cases e1
  exact ⟨_, List.getElem?_eq_getElem hi, e2⟩
theorem RepL.append : ∀ {ds es : List D} {vs us : List V}, RepL K H O ds vs → RepL K H O es us → RepL K H O (ds ++ es) (vs ++ us)
  | [], _, _, _, h, q => by cases h; exact q
  | _ :: _, _, _, _, h, q => by obtain ⟨v, r, rfl, h1, h2⟩ := h; exact ⟨v, _, rfl, h1, RepL.append h2 q⟩
theorem RepL.one {d : D} {v : V} (h : Rep K H O d v) : RepL K H O [d] [v] := ⟨v, [], rfl, h, rfl⟩
theorem RepL.take : ∀ {ds : List D} {vs : List V} (n : Nat), RepL K H O ds vs → RepL K H O (ds.take n) (vs.take n)
  | _, _, 0, _ => rfl
  | [], _, n + 1, h => by cases h; rfl
  | _ :: _, _, n + 1, h => by obtain ⟨v, r, rfl, h1, h2⟩ := h; exact ⟨v, _, rfl, h1, RepL.take n h2⟩
theorem RepL.drop : ∀ {ds : List D} {vs : List V} (n : Nat), RepL K H O ds vs → RepL K H O (ds.drop n) (vs.drop n)
  | _, _, 0, h => h
  | [], _, n + 1, h => by cases h; rfl
  | _ :: _, _, n + 1, h => by obtain ⟨v, r, rfl, h1, h2⟩ := h; exact RepL.drop n h2
theorem RepL.set : ∀ {ds : List D} {vs : List V} {d : D} {v : V} (i : Nat), RepL K H O ds vs → Rep K H O d v → RepL K H O (ds.set i d) (vs.set i v)
  | [], _, _, _, _, h, _ => by cases h; rfl
  | _ :: _, _, _, _, 0, h, q => by obtain ⟨v, r, rfl, h1, h2⟩ := h; exact ⟨_, r, rfl, q, h2⟩
  | _ :: _, _, _, _, i + 1, h, q => by obtain ⟨v, r, rfl, h1, h2⟩ := h; exact ⟨_, _, rfl, h1, RepL.set i h2 q⟩
theorem RepL.rev : ∀ {ds : List D} {vs : List V}, RepL K H O ds vs → RepL K H O ds.reverse vs.reverse
  | [], _, h => by cases h; rfl
  | d :: ds, _, h => by
    obtain ⟨v, r, rfl, h1, h2⟩ := h
    rw [List.reverse_cons, List.reverse_cons]
    exact RepL.append (RepL.rev h2) (RepL.one h1)
theorem RepL.ints : ∀ {ns : List Int}, RepL K H O (ns.map D.int) (ns.map V.int)
  | [] => rfl
  | _ :: _ => ⟨_, _, rfl, rfl, RepL.ints⟩
/-- the thing itself may be owned; what is in it is not -/
def RepTop (K : PySem.W.Frag) (H : Hp) (O : Addr → Prop) : D → V → Prop
  | .lst ds, v => ∃ a vs, v = .ref a ∧ H a = some (.lst vs) ∧ RepL K H O ds vs
  | .dic kvs, v => ∃ a kws, v = .ref a ∧ H a = some (.dK kws) ∧ RepK K H O kvs kws
  | .dit kvs, v => ∃ a kws, v = .ref a ∧ H a = some (.dT kws) ∧ RepT K H O kvs kws
  | d, v => Rep K H O d v
theorem Rep.top {d : D} {v : V} (h : Rep K H O d v) : RepTop K H O d v := by
  cases d with
  | lst ds => obtain ⟨a, vs, e, q, _, r⟩ := h; exact ⟨a, vs, e, q, r⟩
  | dic ds => obtain ⟨a, vs, e, q, _, r⟩ := h; exact ⟨a, vs, e, q, r⟩
  | dit ds => obtain ⟨a, vs, e, q, _, r⟩ := h; exact ⟨a, vs, e, q, r⟩
  | _ => exact h
end
/-- what of the heap the defs may change among themselves, what always holds of it -/
structure Amb where
  C : Addr → Prop
  inv : Hp → Prop
  new : ∀ H p o, inv H → H p = none → NT o → inv (upd H p o)
  wr : ∀ H p o o', inv H → ¬ C p → H p = some o → Mu o → Mu o' → inv (upd H p o')
  muC : ∀ H a, inv H → C a → ∃ o, H a = some o ∧ Mu o
/-- a name's slot -/
inductive Sl where
  | un | val (d : D)
  | own (ds : List D) | ownD (kvs : List (Key × D)) | ownT (kvs : List (List Key × D))
  | lent (ds : List D)
abbrev Env := List Sl
def Ow (B : Addr → Prop) (ω : List (Option Addr)) (a : Addr) : Prop := B a ∨ ∃ i : Nat, ω[i]? = some (some a)
def SlOk (K : PySem.W.Frag) (S : Addr → HO → Prop) (A : Nat → Option Addr) (H : Hp) (O : Addr → Prop) (i : Nat) (x : Option (Option V)) (w : Option (Option Addr)) : Sl → Prop
  | .un => w = some none
  | .val d => w = some none ∧ ∃ v, x = some (some v) ∧ Rep K H O d v
  | .own ds => ∃ a vs, w = some (some a) ∧ x = some (some (.ref a)) ∧ H a = some (.lst vs) ∧ RepL K H O ds vs
  | .ownD kvs => ∃ a kws, w = some (some a) ∧ x = some (some (.ref a)) ∧ H a = some (.dK kws) ∧ RepK K H O kvs kws
  | .ownT kvs => ∃ a kws, w = some (some a) ∧ x = some (some (.ref a)) ∧ H a = some (.dT kws) ∧ RepT K H O kvs kws
  | .lent ds => w = some none ∧ ∃ a vs, x = some (some (.ref a)) ∧ A i = some a ∧ S a (.lst vs) ∧ RepL K H O ds vs
/-- the state of a def's frame: S what stays as it is, T what stays there, B what is not ours, A where the lent ones stand, ω where ours stand -/
structure Fr (G : Amb) (K : PySem.W.Frag) (S : Addr → HO → Prop) (T B : Addr → Prop) (A : Nat → Option Addr) (ω : List (Option Addr)) (H : Hp) (σ : St) (δ : Env) : Prop where
  inv : G.inv H
  cb : ∀ a, G.C a → B a
  bt : ∀ a, B a → T a
  sT : ∀ a o, S a o → T a
  sc : ∀ a o, S a o → ¬ G.C a ∧ NT o
  al : ∀ i a, A i = some a → B a
  bm : OM B H
  dm : ∀ a, T a → nT H a
  st : ∀ a o, S a o → H a = some o
  sw : ∀ (i : Nat) a, ω[i]? = some (some a) → ¬ B a ∧ ∀ o, ¬ S a o
  inj : ∀ (i j : Nat) a, ω[i]? = some (some a) → ω[j]? = some (some a) → i = j
  wm : ∀ (i : Nat) a, ω[i]? = some (some a) → ∃ o, H a = some o ∧ Mu o
  len : σ.length = δ.length
  lw : ω.length = δ.length
  slot : ∀ (i : Nat) s, δ[i]? = some s → SlOk K S A H (Ow B ω) i (σ[i]?) (ω[i]?) s
/-- what an expression hands on: a thing, a name's own thing, a new list or dict -/
inductive Op where
  | v (d : D) | b (i : Nat) | n (ds : List D) | nd (kvs : List (Key × D)) | nt (kvs : List (List Key × D))
/-- what it is, read now -/
def rd : Op → Env → Option D
  | .v d, _ => some d
  | .n ds, _ => some (.lst ds)
  | .nd kvs, _ => some (.dic kvs)
  | .nt kvs, _ => some (.dit kvs)
  | .b i, δ => match δ[i]? with
    | some (.own ds) => some (.lst ds)
    | some (.lent ds) => some (.lst ds)
    | some (.ownD kvs) => some (.dic kvs)
    | some (.ownT kvs) => some (.dit kvs)
    | _ => none
/-- what may be kept of it -/
def kp : Op → Option D
  | .v d => some d
  | .n ds => some (.lst ds)
  | .nd kvs => some (.dic kvs)
  | .nt kvs => some (.dit kvs)
  | .b _ => none
def ROp (K : PySem.W.Frag) (T : Addr → Prop) (H : Hp) (O : Addr → Prop) (σ : St) (P : Option Addr) : Op → V → Prop
  | .v d, v => P = none ∧ Rep K H O d v
  | .b i, v => P = none ∧ σ[i]? = some (some v)
  | .n ds, v => ∃ p vs, P = some p ∧ v = .ref p ∧ ¬ T p ∧ H p = some (.lst vs) ∧ RepL K H O ds vs
  | .nd kvs, v => ∃ p kws, P = some p ∧ v = .ref p ∧ ¬ T p ∧ H p = some (.dK kws) ∧ RepK K H O kvs kws
  | .nt kvs, v => ∃ p kws, P = some p ∧ v = .ref p ∧ ¬ T p ∧ H p = some (.dT kws) ∧ RepT K H O kvs kws
/-- an exception: its class, its field -/
structure Ex where
  cls : Addr
  fld : Option (Str × D) := none
def ExR (K : PySem.W.Frag) (H : Hp) (O : Addr → Prop) (E : XK) (x : Ex) : Prop := match x.fld with
  | none => E (.ref x.cls) none H
  | some (f, d) => ∀ dx v, H dx = some (.xd [(f, v)]) → Rep K H O d v → E (.ref x.cls) (some dx) H
def EOk (G : Amb) (K : PySem.W.Frag) (S : Addr → HO → Prop) (T B : Addr → Prop) (Z : Ex → Prop) (E : XK) : Prop :=
  ∀ x H', Z x → G.inv H' → (∀ a o, S a o → H' a = some o) → (∀ a, T a → nT H' a) → ExR K H' B E x
def Bp (B : Addr → Prop) (P : Option Addr) (a : Addr) : Prop := B a ∨ P = some a
def WSub (ω' ω : List (Option Addr)) : Prop := ∀ (i : Nat) a, ω'[i]? = some (some a) → ω[i]? = some (some a)
abbrev DT := (Ex → Prop) → Env → (Op → Env → Prop) → Prop
def tD (G : Amb) (K : PySem.W.Frag) (E : XK) (τ : DT) : TE := fun σ H Q => ∃ S T B A ω δ Z, Fr G K S T B A ω H σ δ ∧ EOk G K S T B Z E ∧
  τ Z δ (fun o δ' => ∀ v H' ω' P, Fr G K S (Bp T P) (Bp B P) A ω' H' σ δ' → WSub ω' ω → ROp K T H' (Ow (Bp B P) ω') σ P o v → Q v H')
/-- as it grows with what is wanted -/
structure Mono (τ : DT) : Prop where
  m : ∀ (Z Z' : Ex → Prop) (δ : Env) (Q Q' : Op → Env → Prop), (∀ x, Z x → Z' x) → (∀ o δ', Q o δ' → Q' o δ') → τ Z δ Q → τ Z' δ Q'
structure DE (X : Cx) (G : Amb) (E : XK) (e : Expr) (τ : DT) : Prop where
  pe : PE X e (tD G X.K E τ)
  mono : Mono τ
theorem PE.imp {X : Cx} {e : Expr} {t t' : TE} (h : PE X e t) (i : ∀ σ H Q, t' σ H Q → t σ H Q) : PE X e t' := ⟨fun pins s σ H Q I q => h.run pins s σ H Q I (i σ H Q q)⟩
theorem PT.imp {X : Cx} {e : Expr} {t t' : TT} (h : PT X e t) (i : ∀ σ H Q, t' σ H Q → t σ H Q) : PT X e t' := ⟨fun pins s σ H Q I q => h.run pins s σ H Q I (i σ H Q q)⟩
theorem nt_mu {o : HO} (h : Mu o) : NT o := fun ps z => by subst z; exact h
section
variable {G : Amb} {K : PySem.W.Frag} {S S' : Addr → HO → Prop} {T T' B B' : Addr → Prop} {A : Nat → Option Addr} {ω ω' ω2 : List (Option Addr)} {H H' : Hp} {σ : St} {δ : Env} {P : Option Addr} {Z : Ex → Prop} {E : XK}
theorem WSub.refl : WSub ω ω := fun _ _ h => h
theorem WSub.trans (a : WSub ω2 ω') (b : WSub ω' ω) : WSub ω2 ω := fun i x h => b i x (a i x h)
theorem WSub.ow (a : WSub ω' ω) (hb : ∀ x, B' x → B x) : ∀ x, Ow B' ω' x → Ow B ω x := fun x h => h.elim (fun z => .inl (hb x z)) fun ⟨i, z⟩ => .inr ⟨i, a i x z⟩
theorem bp_none : Bp B none = B := by funext a; unfold Bp; simp
theorem Fr.om (F : Fr G K S T B A ω H σ δ) : OM (Ow B ω) H := fun a h => by
  rcases h with h | ⟨i, h⟩
  · exact F.bm a h
  · exact F.wm i a h
theorem Fr.fresh (F : Fr G K S T B A ω H σ δ) {p : Addr} (h : H p = none) : ¬ Ow B ω p := fun z => by
  obtain ⟨o, e, _⟩ := F.om p z
  rw [h] at e; cases e
/-- a thing read now -/
theorem Fr.rd (F : Fr G K S T B A ω H σ δ) {T0 : Addr → Prop} {o : Op} {v : V} {d : D} (r : ROp K T0 H (Ow B ω) σ P o v) (e : rd o δ = some d) : RepTop K H (Ow B ω) d v := by
  cases o with
  | v d' => cases e; exact Rep.top r.2
  | n ds => cases e; obtain ⟨p, vs, _, e1, _, e2, e3⟩ := r; exact ⟨p, vs, e1, e2, e3⟩
  | nd ds => cases e; obtain ⟨p, vs, _, e1, _, e2, e3⟩ := r; exact ⟨p, vs, e1, e2, e3⟩
  | nt ds => cases e; obtain ⟨p, vs, _, e1, _, e2, e3⟩ := r; exact ⟨p, vs, e1, e2, e3⟩
  | b i =>
    have r' : σ[i]? = some (some v) := r.2
    unfold DL.rd at e
    cases q : δ[i]? with
    | none => simp [q] at e
    | some s =>
      have z := F.slot i s q
      cases s with
      | un => simp [q] at e
      | val _ => simp [q] at e
      | own ds =>
        simp only [q, Option.some.injEq] at e; subst e
        obtain ⟨a, vs, _, e2, e3, e4⟩ := z
        rw [r'] at e2; cases e2
        exact ⟨a, vs, rfl, e3, e4⟩
      | ownD ds =>
        simp only [q, Option.some.injEq] at e; subst e
        obtain ⟨a, vs, _, e2, e3, e4⟩ := z
        rw [r'] at e2; cases e2
        exact ⟨a, vs, rfl, e3, e4⟩
      | ownT ds =>
        simp only [q, Option.some.injEq] at e; subst e
        obtain ⟨a, vs, _, e2, e3, e4⟩ := z
        rw [r'] at e2; cases e2
        exact ⟨a, vs, rfl, e3, e4⟩
      | lent ds =>
        simp only [q, Option.some.injEq] at e; subst e
        obtain ⟨_, a, vs, e2, _, e3, e4⟩ := z
        rw [r'] at e2; cases e2
        exact ⟨a, vs, rfl, F.st _ _ e3, e4⟩
/-- what may be kept: nobody owns it -/
theorem ROp.kp {O O' : Addr → Prop} {o : Op} {v : V} {d : D} (r : ROp K T H O σ P o v) (s : ∀ a, O' a → O a) (n : ∀ p, P = some p → ¬ O' p) (e : kp o = some d) : Rep K H O' d v := by
  cases o with
  | v d' => cases e; exact Rep.carry (Carry.sub s) r.2
  | n ds => cases e; obtain ⟨p, vs, e0, e1, _, e2, e3⟩ := r; exact ⟨p, vs, e1, e2, n p e0, RepL.carry (Carry.sub s) e3⟩
  | nd ds => cases e; obtain ⟨p, vs, e0, e1, _, e2, e3⟩ := r; exact ⟨p, vs, e1, e2, n p e0, RepK.carry (Carry.sub s) e3⟩
  | nt ds => cases e; obtain ⟨p, vs, e0, e1, _, e2, e3⟩ := r; exact ⟨p, vs, e1, e2, n p e0, RepT.carry (Carry.sub s) e3⟩
  | b i => cases e
theorem SlOk.carry {O O' : Addr → Prop} {i : Nat} {x : Option (Option V)} {w : Option (Option Addr)} {s : Sl} (c : Carry K H H' O O') (hS : ∀ a o, S a o → S' a o) (ow : ∀ a o, w = some (some a) → H a = some o → Mu o → H' a = some o)
    (h : SlOk K S A H O i x w s) : SlOk K S' A H' O' i x w s := by
  cases s with
  | un => exact h
  | val d => obtain ⟨e, v, e1, r⟩ := h; exact ⟨e, v, e1, Rep.carry c r⟩
  | own ds => obtain ⟨a, vs, e, e1, e2, r⟩ := h; exact ⟨a, vs, e, e1, ow a _ e e2 trivial, RepL.carry c r⟩
  | ownD ds => obtain ⟨a, vs, e, e1, e2, r⟩ := h; exact ⟨a, vs, e, e1, ow a _ e e2 trivial, RepK.carry c r⟩
  | ownT ds => obtain ⟨a, vs, e, e1, e2, r⟩ := h; exact ⟨a, vs, e, e1, ow a _ e e2 trivial, RepT.carry c r⟩
  | lent ds => obtain ⟨e, a, vs, e1, e2, e3, r⟩ := h; exact ⟨e, a, vs, e1, e2, hS _ _ e3, RepL.carry c r⟩
/-- behind a step that keeps what we do not share: C alone changes -/
theorem Fr.grow (F : Fr G K S T B A ω H σ δ) (k : Keep G.C H H') (i : G.inv H') (s : ∀ a o, S a o → H' a = some o) (t : ∀ a, T a → nT H' a) : Fr G K S T B A ω H' σ δ where
  inv := i
  cb := F.cb
  bt := F.bt
  sT := F.sT
  sc := F.sc
  al := F.al
  bm := fun a h => by
    by_cases c : G.C a
    · exact G.muC H' a i c
    · obtain ⟨o, e, mu⟩ := F.bm a h; exact ⟨o, k a o e c (nt_mu mu), mu⟩
  dm := t
  st := s
  sw := F.sw
  inj := F.inj
  wm := fun j a h => by
    obtain ⟨o, e, mu⟩ := F.wm j a h
    exact ⟨o, k a o e (fun c => (F.sw j a h).1 (F.cb a c)) (nt_mu mu), mu⟩
  len := F.len
  lw := F.lw
  slot := fun j x h => (F.slot j x h).carry (Carry.keep k (fun a c => .inl (F.cb a c)) fun a c => F.bm a (F.cb a c)) (fun _ _ h => h) fun a o e ea mu => k a o ea (fun c => (F.sw j a e).1 (F.cb a c)) (nt_mu mu)
theorem Fr.laid (F : Fr G K S T B A ω H σ δ) {p : Addr} {o : HO} (h : H p = none) (n : NT o) : Fr G K S T B A ω (upd H p o) σ δ :=
  F.grow (Keep.new h) (G.new H p o F.inv h n) (fun a u z => by rw [upd_ne (ne_of_none (F.st a u z) h)]; exact F.st a u z) fun a c => by
    obtain ⟨u, e, ne⟩ := F.dm a c
    exact ⟨u, by rw [upd_ne (ne_of_none e h)]; exact e, ne⟩
/-- a new thing that nobody knows yet -/
theorem Fr.laidP (F : Fr G K S T B A ω H σ δ) {p : Addr} {o : HO} (h : H p = none) (m : Mu o) : Fr G K S (Bp T (some p)) (Bp B (some p)) A ω (upd H p o) σ δ := by
  have F1 := F.laid h (nt_mu m)
  have nTp : ¬ T p := fun z => by obtain ⟨u, e, _⟩ := F.dm p z; rw [h] at e; cases e
  refine ⟨F1.inv, fun a c => .inl (F.cb a c), fun a c => c.elim (fun z => .inl (F.bt a z)) .inr, fun a o z => .inl (F.sT a o z), F.sc, fun i a z => .inl (F.al i a z), fun a c => ?_, fun a c => ?_, F1.st, fun i a z => ⟨fun c => ?_, (F.sw i a z).2⟩, F.inj, F1.wm, F.len, F.lw, fun i s z => ?_⟩
  · rcases c with c | c
    · exact F1.bm a c
    · cases c; exact ⟨o, upd_same, m⟩
  · rcases c with c | c
    · exact F1.dm a c
    · cases c; exact ⟨o, upd_same, nt_mu m⟩
  · rcases c with c | c
    · exact (F.sw i a z).1 c
    · cases c
      obtain ⟨u, e, _⟩ := F.wm i _ z
      rw [h] at e; cases e
  · refine (F.slot i s z).carry (Carry.trans (Carry.add (O' := Ow (Bp B (some p)) ω) h fun a c => ?_) (Carry.new h)) (fun _ _ h => h) fun a u e ea mu => ?_
    · rcases c with (c | c) | c
      · exact .inl (.inl c)
      · cases c; exact .inr rfl
      · exact .inl (.inr c)
    · rw [upd_ne (ne_of_none ea h)]; exact ea
/-- more is asked to stay -/
theorem Fr.more (F : Fr G K S T B A ω H σ δ) (h1 : ∀ a o, S a o → S' a o) (h2 : ∀ a o, S' a o → H a = some o ∧ (¬ G.C a ∧ NT o) ∧ T' a ∧ ∀ i : Nat, ω[i]? ≠ some (some a)) (h3 : ∀ a, T a → T' a) (h4 : ∀ a, T' a → nT H a) : Fr G K S' T' B A ω H σ δ where
  inv := F.inv
  cb := F.cb
  bt := fun a h => h3 a (F.bt a h)
  sT := fun a o h => (h2 a o h).2.2.1
  sc := fun a o h => (h2 a o h).2.1
  al := F.al
  bm := F.bm
  dm := h4
  st := fun a o h => (h2 a o h).1
  sw := fun i a h => ⟨(F.sw i a h).1, fun o z => (h2 a o z).2.2.2 i h⟩
  inj := F.inj
  wm := F.wm
  len := F.len
  lw := F.lw
  slot := fun i s h => (F.slot i s h).carry (Carry.sub fun _ z => z) h1 fun _ _ _ e _ => e
/-- less is asked to stay, less is another's -/
theorem Fr.less (F : Fr G K S' T' B' A ω H σ δ) (h1 : ∀ a o, S a o → S' a o) (h2 : ∀ a, T a → T' a) (h3 : ∀ a, B a → B' a) (h4 : ∀ a, G.C a → B a) (h5 : ∀ a, B a → T a) (h6 : ∀ a o, S a o → T a) (h7 : ∀ i a, A i = some a → B a)
    (hl : ∀ a o, S' a o → (∃ i, A i = some a) → S a o) : Fr G K S T B A ω H σ δ where
  inv := F.inv
  cb := h4
  bt := h5
  sT := h6
  sc := fun a o h => F.sc a o (h1 a o h)
  al := h7
  bm := fun a h => F.bm a (h3 a h)
  dm := fun a h => F.dm a (h2 a h)
  st := fun a o h => F.st a o (h1 a o h)
  sw := fun i a h => ⟨fun z => (F.sw i a h).1 (h3 a z), fun o z => (F.sw i a h).2 o (h1 a o z)⟩
  inj := F.inj
  wm := F.wm
  len := F.len
  lw := F.lw
  slot := fun i s h => by
    have z := F.slot i s h
    have c : Carry K H H (Ow B' ω) (Ow B ω) := Carry.sub fun a q => q.elim (fun q => .inl (h3 a q)) .inr
    cases s with
    | lent ds => obtain ⟨e, a, vs, e1, e2, e3, r⟩ := z; exact ⟨e, a, vs, e1, e2, hl _ _ e3 ⟨i, e2⟩, RepL.carry c r⟩
    | un => exact z
    | val d => obtain ⟨e, v, e1, r⟩ := z; exact ⟨e, v, e1, Rep.carry c r⟩
    | own ds => obtain ⟨a, vs, e, e1, e2, r⟩ := z; exact ⟨a, vs, e, e1, e2, RepL.carry c r⟩
    | ownD ds => obtain ⟨a, vs, e, e1, e2, r⟩ := z; exact ⟨a, vs, e, e1, e2, RepK.carry c r⟩
    | ownT ds => obtain ⟨a, vs, e, e1, e2, r⟩ := z; exact ⟨a, vs, e, e1, e2, RepT.carry c r⟩
theorem EOk.less (z : EOk G K S T B Z E) (h1 : ∀ a o, S a o → S' a o) (h2 : ∀ a, T a → T' a) (h3 : ∀ a, B a → B' a) : EOk G K S' T' B' Z E := fun x H' hz i hs ht => by
  have q := z x H' hz i (fun a o h => hs a o (h1 a o h)) fun a h => ht a (h2 a h)
  unfold ExR at q ⊢
  cases e : x.fld with
  | none => rw [e] at q; exact q
  | some fd =>
    obtain ⟨f, d⟩ := fd
    rw [e] at q
    exact fun dx v e1 r => q dx v e1 (Rep.carry (Carry.sub h3) r)
end
end DL

set_option Elab.async false
set_option linter.all false
set_option maxRecDepth 100000
namespace DL
open PySem L2
/-! ### one evaluation behind another -/
structure Ev (G : Amb) (K : PySem.W.Frag) (S : Addr → HO → Prop) (T B : Addr → Prop) (A : Nat → Option Addr) (ω : List (Option Addr)) (H' : Hp) (σ : St) (δ' : Env) (ω' : List (Option Addr)) (P : Option Addr) (o : Op) (v : V) : Prop where
  fr : Fr G K S (Bp T P) (Bp B P) A ω' H' σ δ'
  ws : WSub ω' ω
  rp : ROp K T H' (Ow (Bp B P) ω') σ P o v
/-- what stays behind a thing was told -/
def nS (S : Addr → HO → Prop) (H : Hp) (B : Addr → Prop) (P : Option Addr) (ω : List (Option Addr)) (a : Addr) (o : HO) : Prop := S a o ∨ (H a = some o ∧ NT o ∧ (¬ Ow (Bp B P) ω a ∨ P = some a))
section
variable {G : Amb} {K : PySem.W.Frag} {S : Addr → HO → Prop} {T B : Addr → Prop} {A : Nat → Option Addr} {ω ω1 ω2 : List (Option Addr)} {H H1 H2 : Hp} {σ : St} {δ δ1 δ2 : Env} {P P1 P2 : Option Addr} {Z : Ex → Prop} {E : XK} {o o1 o2 : Op} {v v1 v2 : V}
theorem ROp.nt {O : Addr → Prop} (r : ROp K T H O σ P o v) : ∀ p, P = some p → ¬ T p := fun p e => by
  cases o with
  | v d => rw [r.1] at e; cases e
  | b i => rw [r.1] at e; cases e
  | n ds => obtain ⟨q, vs, e0, _, h, _⟩ := r; rw [e0] at e; cases e; exact h
  | nd ds => obtain ⟨q, vs, e0, _, h, _⟩ := r; rw [e0] at e; cases e; exact h
  | nt ds => obtain ⟨q, vs, e0, _, h, _⟩ := r; rw [e0] at e; cases e; exact h
theorem Ev.go (F : Fr G K S T B A ω H σ δ) (e : Ev G K S T B A ω H1 σ δ1 ω1 P1 o1 v1) : Fr G K (nS S H1 B P1 ω1) (nT H1) (Bp B P1) A ω1 H1 σ δ1 := by
  refine e.fr.more (fun a o h => .inl h) (fun a o h => ?_) (fun a h => e.fr.dm a h) fun a h => h
  rcases h with h | ⟨h, n, h'⟩
  · exact ⟨e.fr.st a o h, e.fr.sc a o h, ⟨o, e.fr.st a o h, (e.fr.sc a o h).2⟩, fun i z => (e.fr.sw i a z).2 o h⟩
  · refine ⟨h, ⟨fun c => ?_, n⟩, ⟨o, h, n⟩, fun i z => ?_⟩
    · rcases h' with h' | h'
      · exact h' (.inl (e.fr.cb a c))
      · exact e.rp.nt a h' (F.bt a (F.cb a c))
    · rcases h' with h' | h'
      · exact h' (.inr ⟨i, z⟩)
      · exact (e.fr.sw i a z).1 (.inr h')
theorem Ev.eok (F : Fr G K S T B A ω H σ δ) (e : Ev G K S T B A ω H1 σ δ1 ω1 P1 o1 v1) (z : EOk G K S T B Z E) : EOk G K (nS S H1 B P1 ω1) (nT H1) (Bp B P1) Z E :=
  z.less (fun _ _ h => .inl h) (fun a h => e.fr.dm a (.inl h)) fun _ h => .inl h
/-- the things told carry over -/
theorem Ev.carry (e : Ev G K S T B A ω H1 σ δ1 ω1 P1 o1 v1) (e2 : Ev G K (nS S H1 B P1 ω1) (nT H1) (Bp B P1) A ω1 H2 σ δ2 ω2 P2 o2 v2) : Carry K H1 H2 (Ow (Bp B P1) ω1) (Ow (Bp (Bp B P1) P2) ω2) where
  t := fun a vs h => by
    have key : ∀ o, H1 a = some o → NT o → ¬ Mu o → H2 a = some o := fun o h n m => e2.fr.st a o (.inr ⟨h, n, .inl fun z => by
      obtain ⟨u, e', m'⟩ := e.fr.om a z
      rw [h] at e'; cases e'; exact m m'⟩)
    rcases h with (h | ⟨o, h⟩) | h
    · exact .inl (.inl (key _ h nt_tup fun z => z))
    · exact .inl (.inr ⟨o, key _ h nt_frz fun z => z⟩)
    · exact .inr h
  l := fun a vs h n => ⟨e2.fr.st a _ (.inr ⟨h, nt_lst, .inl n⟩), fun z => by
    rcases z with (z | z) | ⟨i, z⟩
    · exact n (.inl z)
    · exact e2.rp.nt a z ⟨_, h, nt_lst⟩
    · exact n (.inr ⟨i, e2.ws i a z⟩)⟩
  k := fun a vs h n => ⟨e2.fr.st a _ (.inr ⟨h, nt_dK, .inl n⟩), fun z => by
    rcases z with (z | z) | ⟨i, z⟩
    · exact n (.inl z)
    · exact e2.rp.nt a z ⟨_, h, nt_dK⟩
    · exact n (.inr ⟨i, e2.ws i a z⟩)⟩
  d := fun a vs h n => ⟨e2.fr.st a _ (.inr ⟨h, nt_dT, .inl n⟩), fun z => by
    rcases z with (z | z) | ⟨i, z⟩
    · exact n (.inl z)
    · exact e2.rp.nt a z ⟨_, h, nt_dT⟩
    · exact n (.inr ⟨i, e2.ws i a z⟩)⟩
theorem Ev.old (e : Ev G K S T B A ω H1 σ δ1 ω1 P1 o1 v1) (e2 : Ev G K (nS S H1 B P1 ω1) (nT H1) (Bp B P1) A ω1 H2 σ δ2 ω2 P2 o2 v2) : ROp K T H2 (Ow (Bp (Bp B P1) P2) ω2) σ P1 o1 v1 := by
  have r := e.rp
  have c := e.carry e2
  cases o1 with
  | v d => exact ⟨r.1, Rep.carry c r.2⟩
  | b i => exact r
  | n ds => obtain ⟨p, vs, h0, h1, h2, h3, h4⟩ := r; exact ⟨p, vs, h0, h1, h2, e2.fr.st p _ (.inr ⟨h3, nt_lst, .inr h0⟩), RepL.carry c h4⟩
  | nd ds => obtain ⟨p, vs, h0, h1, h2, h3, h4⟩ := r; exact ⟨p, vs, h0, h1, h2, e2.fr.st p _ (.inr ⟨h3, nt_dK, .inr h0⟩), RepK.carry c h4⟩
  | nt ds => obtain ⟨p, vs, h0, h1, h2, h3, h4⟩ := r; exact ⟨p, vs, h0, h1, h2, e2.fr.st p _ (.inr ⟨h3, nt_dT, .inr h0⟩), RepT.carry c h4⟩
/-- what was new is let go -/
theorem Ev.drop (F : Fr G K S T B A ω H σ δ) (e : Ev G K S T B A ω H1 σ δ1 ω1 P1 o1 v1) : Fr G K S T B A ω1 H1 σ δ1 :=
  e.fr.less (fun _ _ h => h) (fun _ h => .inl h) (fun _ h => .inl h) F.cb F.bt F.sT F.al fun _ _ h _ => h
theorem Ev.back (F : Fr G K S T B A ω H σ δ) (e : Ev G K S T B A ω H1 σ δ1 ω1 P1 o1 v1) (F2 : Fr G K (nS S H1 B P1 ω1) (Bp (nT H1) P2) (Bp (Bp B P1) P2) A ω2 H2 σ δ2) : Fr G K S T B A ω2 H2 σ δ2 := by
  refine F2.less (fun _ _ h => .inl h) (fun a h => .inl (e.fr.dm a (.inl h))) (fun _ h => .inl (.inl h)) F.cb F.bt F.sT F.al fun a o h ⟨i, q⟩ => ?_
  rcases h with h | ⟨h, n, h'⟩
  · exact h
  · rcases h' with h' | h'
    · exact (h' (.inl (.inl (F.al i a q)))).elim
    · exact (e.rp.nt a h' (F.bt a (F.al i a q))).elim
theorem ow_less {a : Addr} (h : Ow B ω a) : Ow (Bp B P) ω a := h.elim (fun z => .inl (.inl z)) .inr
/-- what was told before, kept -/
theorem Ev.kp1 (F : Fr G K S T B A ω H σ δ) (e : Ev G K S T B A ω H1 σ δ1 ω1 P1 o1 v1) (e2 : Ev G K (nS S H1 B P1 ω1) (nT H1) (Bp B P1) A ω1 H2 σ δ2 ω2 P2 o2 v2) {d : D} (q : kp o1 = some d) : Rep K H2 (Ow B ω2) d v1 :=
  (e.old e2).kp (fun a h => ow_less (ow_less h)) (fun p hp z => by
    rcases z with z | ⟨i, z⟩
    · exact e.rp.nt p hp (F.bt p z)
    · exact (e2.fr.sw i p z).1 (.inl (.inr hp))) q
theorem Ev.kp (F : Fr G K S T B A ω H σ δ) (e : Ev G K S T B A ω H1 σ δ1 ω1 P1 o1 v1) {d : D} (q : DL.kp o1 = some d) : Rep K H1 (Ow B ω1) d v1 :=
  e.rp.kp (fun a h => ow_less h) (fun p hp z => by
    rcases z with z | ⟨i, z⟩
    · exact e.rp.nt p hp (F.bt p z)
    · exact (e.fr.sw i p z).1 (.inr hp)) q
theorem RepTop.sub {O O' : Addr → Prop} (s : ∀ a, O' a → O a) {d : D} {v : V} (h : RepTop K H O d v) : RepTop K H O' d v := by
  cases d with
  | lst ds => obtain ⟨a, vs, e, q, r⟩ := h; exact ⟨a, vs, e, q, RepL.carry (Carry.sub s) r⟩
  | dic ds => obtain ⟨a, vs, e, q, r⟩ := h; exact ⟨a, vs, e, q, RepK.carry (Carry.sub s) r⟩
  | dit ds => obtain ⟨a, vs, e, q, r⟩ := h; exact ⟨a, vs, e, q, RepT.carry (Carry.sub s) r⟩
  | non => exact h
  | bl _ => exact h
  | int _ => exact h
  | str _ => exact h
  | ref _ => exact h
  | tup ds => exact Rep.carry (d := .tup ds) (Carry.sub s) h
end
/-- what an operation gives: a thing that stood, a new tuple, a new list or dict -/
inductive Gv (K : PySem.W.Frag) (H : Hp) (O : Addr → Prop) : Op → V → Hp → Prop
  | same {d : D} {v : V} : Rep K H O d v → Gv K H O (.v d) v H
  | tup {p : Addr} {ds : List D} {vs : List V} : H p = none → RepL K H O ds vs → Gv K H O (.v (.tup ds)) (.ref p) (upd H p (.tup vs))
  | lst {p : Addr} {ds : List D} {vs : List V} : H p = none → RepL K H O ds vs → Gv K H O (.n ds) (.ref p) (upd H p (.lst vs))
  | dic {p : Addr} {ds : List (Key × D)} {vs : List (Key × V)} : H p = none → RepK K H O ds vs → Gv K H O (.nd ds) (.ref p) (upd H p (.dK vs))
  | dit {p : Addr} {ds : List (List Key × D)} {vs : List (List Key × V)} : H p = none → RepT K H O ds vs → Gv K H O (.nt ds) (.ref p) (upd H p (.dT vs))
section
variable {G : Amb} {K : PySem.W.Frag} {S : Addr → HO → Prop} {T B : Addr → Prop} {A : Nat → Option Addr} {ω ω1 ω2 : List (Option Addr)} {H H1 H2 : Hp} {σ : St} {δ δ1 δ2 : Env} {o : Op} {v : V}
theorem SqT.up {p : Addr} {vs : List V} : SqT K (upd H p (.tup vs)) p vs := .inl (.inl upd_same)
theorem ow_new {p : Addr} : ∀ a, Ow (Bp B (some p)) ω a → Ow B ω a ∨ a = p := fun a h => by
  rcases h with (h | h) | h
  · exact .inl (.inl h)
  · cases h; exact .inr rfl
  · exact .inl (.inr h)
theorem Gv.ev (F : Fr G K S T B A ω2 H2 σ δ2) (w : WSub ω2 ω) (g : Gv K H2 (Ow B ω2) o v H1) : ∃ P, Ev G K S T B A ω H1 σ δ2 ω2 P o v := by
  have nTp : ∀ p, H2 p = none → ¬ T p := fun p h z => by obtain ⟨u, e, _⟩ := F.dm p z; rw [h] at e; cases e
  cases g with
  | same r => exact ⟨none, by rw [bp_none, bp_none]; exact F, w, rfl, by rw [bp_none]; exact r⟩
  | tup h r => exact ⟨none, by rw [bp_none, bp_none]; exact F.laid h nt_tup, w, rfl, by rw [bp_none]; exact ⟨_, _, rfl, SqT.up, RepL.carry (Carry.new h) r⟩⟩
  | lst h r => exact ⟨some _, F.laidP h trivial, w, _, _, rfl, rfl, nTp _ h, upd_same, RepL.carry (Carry.trans (Carry.add h ow_new) (Carry.new h)) r⟩
  | dic h r => exact ⟨some _, F.laidP h trivial, w, _, _, rfl, rfl, nTp _ h, upd_same, RepK.carry (Carry.trans (Carry.add h ow_new) (Carry.new h)) r⟩
  | dit h r => exact ⟨some _, F.laidP h trivial, w, _, _, rfl, rfl, nTp _ h, upd_same, RepT.carry (Carry.trans (Carry.add h ow_new) (Carry.new h)) r⟩
end
/-- the continuation in short -/
def tK (G : Amb) (K : PySem.W.Frag) (S : Addr → HO → Prop) (T B : Addr → Prop) (A : Nat → Option Addr) (ω : List (Option Addr)) (σ : St) (Q : VK) (o : Op) (δ' : Env) : Prop :=
  ∀ v H' ω' P, Ev G K S T B A ω H' σ δ' ω' P o v → Q v H'
theorem tD_of {G : Amb} {K : PySem.W.Frag} {E : XK} {τ : DT} {σ : St} {H : Hp} {Q : VK} {S : Addr → HO → Prop} {T B : Addr → Prop} {A : Nat → Option Addr} {ω : List (Option Addr)} {δ : Env} {Z : Ex → Prop}
    (F : Fr G K S T B A ω H σ δ) (z : EOk G K S T B Z E) (h : τ Z δ (tK G K S T B A ω σ Q)) (m : Mono τ) : tD G K E τ σ H Q :=
  ⟨S, T, B, A, ω, δ, Z, F, z, m.m _ _ _ _ _ (fun _ z => z) (fun o δ' k v H' ω' P a b c => k v H' ω' P ⟨a, b, c⟩) h⟩
theorem tD_to {G : Amb} {K : PySem.W.Frag} {E : XK} {τ : DT} {σ : St} {H : Hp} {Q : VK} (m : Mono τ) (h : tD G K E τ σ H Q) : ∃ S T B A ω δ Z, Fr G K S T B A ω H σ δ ∧ EOk G K S T B Z E ∧ τ Z δ (tK G K S T B A ω σ Q) := by
  obtain ⟨S, T, B, A, ω, δ, Z, F, z, q⟩ := h
  exact ⟨S, T, B, A, ω, δ, Z, F, z, m.m _ _ _ _ _ (fun _ z => z) (fun o δ' k v H' ω' P e => k v H' ω' P e.fr e.ws e.rp) q⟩
/-! ### names, constants -/
/-- a name: what stands there, or (ours) by its place -/
def xVar (i : Nat) : DT := fun _ δ Q => match δ[i]? with
  | some (.val d) => Q (.v d) δ
  | some (.own _) => Q (.b i) δ
  | some (.ownD _) => Q (.b i) δ
  | some (.ownT _) => Q (.b i) δ
  | some (.lent _) => Q (.b i) δ
  | _ => False
/-- a name whose thing is handed on for good -/
def xMov (i : Nat) : DT := fun _ δ Q => match δ[i]? with
  | some (.val d) => Q (.v d) δ
  | some (.own ds) => Q (.v (.lst ds)) (δ.set i (.val (.lst ds)))
  | some (.ownD ds) => Q (.v (.dic ds)) (δ.set i (.val (.dic ds)))
  | some (.ownT ds) => Q (.v (.dit ds)) (δ.set i (.val (.dit ds)))
  | _ => False
def xC (d : D) : DT := fun _ δ Q => Q (.v d) δ
section
variable {X : Cx} {G : Amb} {E : XK}
theorem mono_var {i : Nat} : Mono (xVar i) := ⟨fun Z Z' δ Q Q' _ h q => by
  unfold xVar at q ⊢
  split at q <;> first | exact h _ _ q | exact q⟩
theorem mono_mov {i : Nat} : Mono (xMov i) := ⟨fun Z Z' δ Q Q' _ h q => by
  unfold xMov at q ⊢
  split at q <;> first | exact h _ _ q | exact q⟩
theorem de_var {i : Nat} {x : Str} {pos : Pos} (hN : X.N[i]? = some x) (hv : Vis X.env.scope x) (hd : (x == ("__debug__" : Str)) = false := by decide) (hcd : (x == ("__classdict__" : Str)) = false := by decide) : DE X G E (.Name x pos) (xVar i) := by
  refine ⟨PE.imp (pe_var hN hv hd hcd) fun σ H Q h => ?_, mono_var⟩
  obtain ⟨S, T, B, A, ω, δ, Z, F, z, q⟩ := tD_to mono_var h
  unfold xVar at q
  cases e : δ[i]? with
  | none => rw [e] at q; exact q.elim
  | some s =>
    rw [e] at q
    have sl := F.slot i s e
    have fin : ∀ {v : V}, σ[i]? = some (some v) → tK G X.K S T B A ω σ Q (.b i) δ → tVar i σ H Q := fun {v} e1 q => ⟨v, e1, q v H ω none ⟨by rw [bp_none, bp_none]; exact F, .refl, rfl, e1⟩⟩
    cases s with
    | un => exact q.elim
    | val d => obtain ⟨_, v, e1, r⟩ := sl; exact ⟨v, e1, q v H ω none ⟨by rw [bp_none, bp_none]; exact F, .refl, rfl, by rw [bp_none]; exact r⟩⟩
    | own ds => obtain ⟨a, vs, _, e1, _⟩ := sl; exact fin e1 q
    | ownD ds => obtain ⟨a, vs, _, e1, _⟩ := sl; exact fin e1 q
    | ownT ds => obtain ⟨a, vs, _, e1, _⟩ := sl; exact fin e1 q
    | lent ds => obtain ⟨_, a, vs, e1, _⟩ := sl; exact fin e1 q
/-- ours is handed on: from now on nobody changes it -/
theorem Fr.freeze {K : PySem.W.Frag} {S : Addr → HO → Prop} {T B : Addr → Prop} {A : Nat → Option Addr} {ω : List (Option Addr)} {H : Hp} {σ : St} {δ : Env} {i : Nat} {a : Addr} {d : D} (F : Fr G K S T B A ω H σ δ) (e : ω[i]? = some (some a)) (e1 : σ[i]? = some (some (.ref a)))
    (r : ¬ Ow B (ω.set i none) a → Rep K H (Ow B (ω.set i none)) d (.ref a)) : Fr G K S T B A (ω.set i none) H σ (δ.set i (.val d)) ∧ WSub (ω.set i none) ω ∧ Rep K H (Ow B (ω.set i none)) d (.ref a) := by
  have hi : i < ω.length := (List.getElem?_eq_some_iff.mp e).1
  have w : WSub (ω.set i none) ω := fun j b h => by
    by_cases hj : j = i
    · subst hj; rw [List.getElem?_set_self hi] at h; cases h
    · rw [List.getElem?_set_ne (Ne.symm hj)] at h; exact h
  have n : ¬ Ow B (ω.set i none) a := fun z => by
    rcases z with z | ⟨j, z⟩
    · exact (F.sw i a e).1 z
    · have := F.inj i j a e (w j a z)
      subst this
      rw [List.getElem?_set_self hi] at z; cases z
  refine ⟨⟨F.inv, F.cb, F.bt, F.sT, F.sc, F.al, F.bm, F.dm, F.st, fun j b h => F.sw j b (w j b h), fun j k b h1 h2 => F.inj j k b (w j b h1) (w k b h2), fun j b h => F.wm j b (w j b h), by rw [List.length_set]; exact F.len, by rw [List.length_set, List.length_set]; exact F.lw, fun j s h => ?_⟩, w, r n⟩
  by_cases hj : j = i
  · subst hj
    have hjd : j < δ.length := by rw [← F.lw]; exact hi
    rw [List.getElem?_set_self hjd] at h; cases h
    rw [List.getElem?_set_self hi]
    exact ⟨rfl, _, e1, r n⟩
  · rw [List.getElem?_set_ne (Ne.symm hj)] at h ⊢
    exact (F.slot j s h).carry (Carry.sub (w.ow fun _ z => z)) (fun _ _ z => z) fun _ _ _ z _ => z
theorem de_mov {i : Nat} {x : Str} {pos : Pos} (hN : X.N[i]? = some x) (hv : Vis X.env.scope x) (hd : (x == ("__debug__" : Str)) = false := by decide) (hcd : (x == ("__classdict__" : Str)) = false := by decide) : DE X G E (.Name x pos) (xMov i) := by
  refine ⟨PE.imp (pe_var hN hv hd hcd) fun σ H Q h => ?_, mono_mov⟩
  obtain ⟨S, T, B, A, ω, δ, Z, F, z, q⟩ := tD_to mono_mov h
  unfold xMov at q
  cases e : δ[i]? with
  | none => rw [e] at q; exact q.elim
  | some s =>
    rw [e] at q
    have sl := F.slot i s e
    have fin : ∀ {a : Addr} {d : D}, ω[i]? = some (some a) → σ[i]? = some (some (.ref a)) → (¬ Ow B (ω.set i none) a → Rep X.K H (Ow B (ω.set i none)) d (.ref a)) → tK G X.K S T B A ω σ Q (.v d) (δ.set i (.val d)) → tVar i σ H Q := fun {a d} e0 e1 r q => by
      obtain ⟨F1, w, r1⟩ := F.freeze e0 e1 r
      exact ⟨_, e1, q _ H _ none ⟨by rw [bp_none, bp_none]; exact F1, w, rfl, by rw [bp_none]; exact r1⟩⟩
    have sub : ∀ a, Ow B (ω.set i none) a → Ow B ω a := fun a h => h.elim .inl fun ⟨j, h⟩ => .inr ⟨j, by
      by_cases hj : j = i
      · subst hj
        have := (List.getElem?_eq_some_iff.mp h).1
        rw [List.length_set] at this
        rw [List.getElem?_set_self this] at h; cases h
      · rw [List.getElem?_set_ne (Ne.symm hj)] at h; exact h⟩
    cases s with
    | un => exact q.elim
    | lent _ => exact q.elim
    | val d => obtain ⟨_, v, e1, r⟩ := sl; exact ⟨v, e1, q v H ω none ⟨by rw [bp_none, bp_none]; exact F, .refl, rfl, by rw [bp_none]; exact r⟩⟩
    | own ds => obtain ⟨a, vs, e0, e1, e2, r⟩ := sl; exact fin (d := .lst ds) e0 e1 (fun n => ⟨a, vs, rfl, e2, n, RepL.carry (Carry.sub sub) r⟩) q
    | ownD ds => obtain ⟨a, vs, e0, e1, e2, r⟩ := sl; exact fin (d := .dic ds) e0 e1 (fun n => ⟨a, vs, rfl, e2, n, RepK.carry (Carry.sub sub) r⟩) q
    | ownT ds => obtain ⟨a, vs, e0, e1, e2, r⟩ := sl; exact fin (d := .dit ds) e0 e1 (fun n => ⟨a, vs, rfl, e2, n, RepT.carry (Carry.sub sub) r⟩) q
theorem mono_c {d : D} : Mono (xC d) := ⟨fun _ _ _ _ _ _ h q => h _ _ q⟩
theorem de_c {e : Expr} {d : D} {v : V} (he : PE X e (tC v)) (hr : ∀ H O, Rep X.K H O d v) : DE X G E e (xC d) := by
  refine ⟨PE.imp he fun σ H Q h => ?_, mono_c⟩
  obtain ⟨S, T, B, A, ω, δ, Z, F, z, q⟩ := tD_to mono_c h
  obtain ⟨P, ev⟩ := Gv.ev (o := .v d) (v := v) F .refl (.same (hr _ _))
  exact q v H ω P ev
theorem de_int {i : Int} {j pos} : DE X G E (.Constant (.int i) j pos) (xC (.int i)) := de_c pe_int fun _ _ => rfl
theorem de_bl {b j pos} : DE X G E (.Constant (.bool b) j pos) (xC (.bl b)) := de_c pe_bl fun _ _ => rfl
theorem de_non {j pos} : DE X G E (.Constant .none j pos) (xC .non) := de_c pe_non fun _ _ => rfl
theorem de_str {x j pos} : DE X G E (.Constant (.str x) j pos) (xC (.str x)) := de_c pe_str fun _ _ => rfl
theorem de_glob {x : Str} {d : D} {v : V} {u : Value} {pos : Pos} (hg : Gl X x) (hm : X.mg x = some u) (r : RelV v u) (hr : ∀ H O, Rep X.K H O d v) (hd : (x == ("__debug__" : Str)) = false := by decide) : DE X G E (.Name x pos) (xC d) := de_c (pe_glob hg hm r hd) hr
end
/-! ### operations by values -/
def rdK (o : Op) (δ : Env) (k : D → Prop) : Prop := match rd o δ with
  | some d => k d
  | none => False
theorem rdK_mono {o : Op} {δ : Env} {k k' : D → Prop} (h : ∀ d, k d → k' d) (q : rdK o δ k) : rdK o δ k' := by
  unfold rdK at q ⊢
  split at q
  · exact h _ q
  · exact q
theorem rdK_some {o : Op} {δ : Env} {k : D → Prop} (q : rdK o δ k) : ∃ d, rd o δ = some d ∧ k d := by
  unfold rdK at q
  cases e : rd o δ with
  | none => rw [e] at q; exact q.elim
  | some d => rw [e] at q; exact ⟨d, rfl, q⟩
abbrev D2 := D → D → (Op → Prop) → Prop
structure M2 (ρ : D2) : Prop where
  m : ∀ (d1 d2 : D) (P P' : Op → Prop), (∀ o, P o → P' o) → ρ d1 d2 P → ρ d1 d2 P'
structure OpD (X : Cx) (f : Value → Value → Sem Value) (ρ : D2) : Prop where
  ok : ∃ r : R2, OpR X f r ∧ ∀ {H : Hp} {O : Addr → Prop} {d1 d2 : D} {v1 v2 : V} {P : Op → Prop} {Q : VK}, OM O H → RepTop X.K H O d1 v1 → RepTop X.K H O d2 v2 → ρ d1 d2 P → (∀ o v H', P o → Gv X.K H O o v H' → Q v H') → r v1 v2 H Q
  mono : M2 ρ
def xOp (ρ : D2) (τa τb : DT) : DT := fun Z δ Q => τa Z δ fun o1 δ1 => τb Z δ1 fun o2 δ2 => rdK o1 δ2 fun d1 => rdK o2 δ2 fun d2 => ρ d1 d2 fun o => Q o δ2
theorem mono_op {ρ : D2} {τa τb : DT} (hm : M2 ρ) (ma : Mono τa) (mb : Mono τb) : Mono (xOp ρ τa τb) := ⟨fun _ _ _ _ _ hz h q =>
  ma.m _ _ _ _ _ hz (fun _ _ q => mb.m _ _ _ _ _ hz (fun _ _ q => rdK_mono (fun _ q => rdK_mono (fun _ q => hm.m _ _ _ _ (fun _ q => h _ _ q) q) q) q) q) q⟩
section
variable {X : Cx} {G : Amb} {E : XK} {a b c : Expr} {τa τb τc : DT} {pos : Pos} {ρ ρ' : D2}
/-- two things told, then an operation on them -/
theorem two_then {K : PySem.W.Frag} {r : R2} {σ : St} {H : Hp} {Q : VK} (ma : Mono τa) (mb : Mono τb) {S : Addr → HO → Prop} {T B : Addr → Prop} {A : Nat → Option Addr} {ω : List (Option Addr)} {δ : Env} {Z : Ex → Prop} (F : Fr G K S T B A ω H σ δ) (z : EOk G K S T B Z E)
    {R : D → D → Env → Prop} (q : τa Z δ fun o1 δ1 => τb Z δ1 fun o2 δ2 => rdK o1 δ2 fun d1 => rdK o2 δ2 fun d2 => R d1 d2 δ2)
    (k : ∀ {H2 : Hp} {ω2 : List (Option Addr)} {δ2 : Env} {d1 d2 : D} {v1 v2 : V}, Fr G K S T B A ω2 H2 σ δ2 → WSub ω2 ω → RepTop K H2 (Ow B ω2) d1 v1 → RepTop K H2 (Ow B ω2) d2 v2 → R d1 d2 δ2 → r v1 v2 H2 Q) :
    tD G K E τa σ H fun x H1 => tD G K E τb σ H1 fun y H2 => r x y H2 Q := by
  refine tD_of F z (ma.m _ _ _ _ _ (fun _ z => z) (fun o1 δ1 q v1 H1 ω1 P1 e1 => ?_) q) ma
  refine tD_of (e1.go F) (e1.eok F z) (mb.m _ _ _ _ _ (fun _ z => z) (fun o2 δ2 q v2 H2 ω2 P2 e2 => ?_) q) mb
  obtain ⟨d1, h1, q⟩ := rdK_some q
  obtain ⟨d2, h2, q⟩ := rdK_some q
  exact k (e1.back F e2.fr) (e2.ws.trans e1.ws) (RepTop.sub (fun _ z => ow_less (ow_less z)) (e2.fr.rd (e1.old e2) h1)) (RepTop.sub (fun _ z => ow_less (ow_less z)) (e2.fr.rd e2.rp h2)) q
theorem de_op {op : Operator} (ho : OpD X (binaryOp op) ρ) (ha : DE X G E a τa) (hb : DE X G E b τb) : DE X G E (.BinOp a op b pos) (xOp ρ τa τb) := by
  have m : Mono (xOp ρ τa τb) := mono_op ho.mono ha.mono hb.mono
  obtain ⟨r, hr, hv⟩ := ho.ok
  refine ⟨PE.imp (pe_op hr ha.pe hb.pe) fun σ H Q h => ?_, m⟩
  obtain ⟨S, T, B, A, ω, δ, Z, F, z, q⟩ := tD_to m h
  refine two_then (r := r) (R := fun d1 d2 δ2 => ρ d1 d2 fun o => tK G X.K S T B A ω σ Q o δ2) ha.mono hb.mono F z q fun {H2 ω2 δ2 d1 d2 v1 v2} F2 w t1 t2 q => hv F2.om t1 t2 q fun o v H' k g => ?_
  obtain ⟨P, ev⟩ := g.ev F2 w
  exact k v H' ω2 P ev
theorem de_cmp {op : CmpOp} (ho : OpD X (compareOp op) ρ) (ha : DE X G E a τa) (hb : DE X G E b τb) (hm : behindInMarks op b = false) : DE X G E (.Compare a [op] [b] pos) (xOp ρ τa τb) := by
  have m : Mono (xOp ρ τa τb) := mono_op ho.mono ha.mono hb.mono
  obtain ⟨r, hr, hv⟩ := ho.ok
  refine ⟨PE.imp (pe_cmpR hr ha.pe hb.pe hm) fun σ H Q h => ?_, m⟩
  obtain ⟨S, T, B, A, ω, δ, Z, F, z, q⟩ := tD_to m h
  refine two_then (r := r) (R := fun d1 d2 δ2 => ρ d1 d2 fun o => tK G X.K S T B A ω σ Q o δ2) ha.mono hb.mono F z q fun {H2 ω2 δ2 d1 d2 v1 v2} F2 w t1 t2 q => hv F2.om t1 t2 q fun o v H' k g => ?_
  obtain ⟨P, ev⟩ := g.ev F2 w
  exact k v H' ω2 P ev
end
end DL

set_option Elab.async false
set_option linter.all false
set_option maxRecDepth 100000
namespace DL
open PySem L2
/-! ### tests -/
abbrev DTT := (Ex → Prop) → Env → (Bool → Env → Prop) → Prop
structure MonoT (τ : DTT) : Prop where
  m : ∀ (Z Z' : Ex → Prop) (δ : Env) (Q Q' : Bool → Env → Prop), (∀ x, Z x → Z' x) → (∀ b δ', Q b δ' → Q' b δ') → τ Z δ Q → τ Z' δ Q'
def tT (G : Amb) (K : PySem.W.Frag) (E : XK) (τ : DTT) : TT := fun σ H Q => ∃ S T B A ω δ Z, Fr G K S T B A ω H σ δ ∧ EOk G K S T B Z E ∧
  τ Z δ (fun b δ' => ∀ H' ω', Fr G K S T B A ω' H' σ δ' → WSub ω' ω → Q b H')
structure DB (X : Cx) (G : Amb) (E : XK) (e : Expr) (τ : DTT) : Prop where
  pt : PT X e (tT G X.K E τ)
  mono : MonoT τ
/-- a thing's truth -/
def truK : D → (Bool → Prop) → Prop
  | .non, k => k false
  | .bl b, k => k b
  | .int i, k => k (i != 0)
  | .str s, k => s.length ≤ 16777216 ∧ k ((s.length : Int) != 0)
  | .tup ds, k => k (!ds.isEmpty)
  | .lst ds, k => k (!ds.isEmpty)
  | .dic kvs, k => k (!kvs.isEmpty)
  | _, _ => False
theorem truK_mono {d : D} {k k' : Bool → Prop} (h : ∀ b, k b → k' b) (q : truK d k) : truK d k' := by
  cases d <;> first | exact h _ q | exact ⟨q.1, h _ q.2⟩ | exact q
def xTru (τ : DT) : DTT := fun Z δ Q => τ Z δ fun o δ' => rdK o δ' fun d => truK d fun b => Q b δ'
theorem mono_tru {τ : DT} (m : Mono τ) : MonoT (xTru τ) := ⟨fun _ _ _ _ _ hz h q => m.m _ _ _ _ _ hz (fun _ _ q => rdK_mono (fun _ q => truK_mono (fun _ q => h _ _ q) q) q) q⟩
section
variable {K : PySem.W.Frag} {H : Hp} {O : Addr → Prop}
theorem isEmptyL {ds : List D} {vs : List V} (r : RepL K H O ds vs) : (!vs.isEmpty) = !ds.isEmpty := by
  cases ds with
  | nil => cases r; rfl
  | cons d ds => obtain ⟨v, q, rfl, _⟩ := r; rfl
theorem isEmptyK {ds : List (Key × D)} {vs : List (Key × V)} (r : RepK K H O ds vs) : (!vs.isEmpty) = !ds.isEmpty := by
  cases ds with
  | nil => cases r; rfl
  | cons d ds => obtain ⟨k, d⟩ := d; obtain ⟨v, q, rfl, _⟩ := r; rfl
theorem truV_of {d : D} {v : V} {k : Bool → Prop} (r : RepTop K H O d v) (q : truK d k) : ∃ b, TruV K v H b ∧ k b := by
  cases d with
  | non => cases r; exact ⟨_, rfl, q⟩
  | bl b => cases r; exact ⟨_, rfl, q⟩
  | int i => cases r; exact ⟨_, rfl, q⟩
  | str s => cases r; exact ⟨_, ⟨by rw [sizeLine_eq]; exact q.1, rfl⟩, q.2⟩
  | tup ds => obtain ⟨a, vs, rfl, h, r⟩ := r; exact ⟨_, .inr (.inl ⟨vs, h, rfl⟩), by rw [isEmptyL r]; exact q⟩
  | lst ds => obtain ⟨a, vs, rfl, h, r⟩ := r; exact ⟨_, .inl ⟨vs, SqL.of h, rfl⟩, by rw [isEmptyL r]; exact q⟩
  | dic ds => obtain ⟨a, vs, rfl, h, r⟩ := r; exact ⟨_, .inr (.inr ⟨vs, h, rfl⟩), by rw [isEmptyK r]; exact q⟩
  | _ => exact q.elim
end
section
variable {X : Cx} {G : Amb} {E : XK} {e a b c : Expr} {τ τa τb τc : DT} {θ θ' : DTT} {pos : Pos} {ρ ρ' : D2}
theorem db_tru (he : DE X G E e τ) (hh : ∀ whole, isTrue e X.env whole = (do let v ← whole; standAt e.pos; holding [v] (truthy v)) := by intro _; rfl) : DB X G E e (xTru τ) := by
  refine ⟨PT.imp (pt_truth he.pe hh) fun σ H Q h => ?_, mono_tru he.mono⟩
  obtain ⟨S, T, B, A, ω, δ, Z, F, z, q⟩ := h
  refine tD_of F z (he.mono.m _ _ _ _ _ (fun _ z => z) (fun o δ' q v H' ω' P ev => ?_) q) he.mono
  obtain ⟨d, e1, q⟩ := rdK_some q
  obtain ⟨b, tv, q⟩ := truV_of (ev.fr.rd ev.rp e1) q
  exact ⟨b, tv, q H' ω' (ev.drop F) ev.ws⟩
theorem db_cmp {op : CmpOp} (ho : OpD X (compareOp op) ρ) (ha : DE X G E a τa) (hb : DE X G E b τb) (hm : behindInMarks op b = false) (hbl : ∀ d1 d2 P, ρ d1 d2 P → ρ d1 d2 fun o => P o ∧ ∃ k, o = .v (.bl k)) : DB X G E (.Compare a [op] [b] pos) (xTru (xOp ρ τa τb)) := by
  have m : Mono (xOp ρ τa τb) := mono_op ho.mono ha.mono hb.mono
  obtain ⟨r, hr, hv⟩ := ho.ok
  refine ⟨PT.imp (pt_cmpR hr ha.pe hb.pe hm) fun σ H Q h => ?_, mono_tru m⟩
  obtain ⟨S, T, B, A, ω, δ, Z, F, z, q⟩ := h
  refine two_then (r := fun x y H2 Q2 => r x y H2 Q2) (Q := fun x H' => ∃ k, x = .bl k ∧ Q k H') (R := fun d1 d2 δ2 => ρ d1 d2 fun o => rdK o δ2 fun d => truK d fun b => ∀ H' ω', Fr G X.K S T B A ω' H' σ δ2 → WSub ω' ω → Q b H') ha.mono hb.mono F z q fun {H2 ω2 δ2 d1 d2 v1 v2} F2 w t1 t2 q => ?_
  refine hv F2.om t1 t2 (hbl _ _ _ q) fun o v H' k g => ?_
  obtain ⟨k, c, rfl⟩ := k
  cases g with
  | same r =>
    cases r
    exact ⟨c, rfl, k H2 ω2 F2 w⟩
def xNot (θ : DTT) : DTT := fun Z δ Q => θ Z δ fun b δ' => Q (!b) δ'
def xAnd (θ θ' : DTT) : DTT := fun Z δ Q => θ Z δ fun b δ' => if b = true then θ' Z δ' Q else Q false δ'
def xOr (θ θ' : DTT) : DTT := fun Z δ Q => θ Z δ fun b δ' => if b = true then Q true δ' else θ' Z δ' Q
theorem tT_of {K : PySem.W.Frag} {σ : St} {H : Hp} {Q : Bool → Hp → Prop} {S : Addr → HO → Prop} {T B : Addr → Prop} {A : Nat → Option Addr} {ω : List (Option Addr)} {δ : Env} {Z : Ex → Prop} {R : Bool → Env → Prop} (m : MonoT θ)
    (F : Fr G K S T B A ω H σ δ) (z : EOk G K S T B Z E) (h : θ Z δ R) (k : ∀ b δ' H' ω', R b δ' → Fr G K S T B A ω' H' σ δ' → WSub ω' ω → Q b H') : tT G K E θ σ H Q :=
  ⟨S, T, B, A, ω, δ, Z, F, z, m.m _ _ _ _ _ (fun _ z => z) (fun b δ' q H' ω' f w => k b δ' H' ω' q f w) h⟩
theorem mono_not (m : MonoT θ) : MonoT (xNot θ) := ⟨fun _ _ _ _ _ hz h q => m.m _ _ _ _ _ hz (fun _ _ q => h _ _ q) q⟩
theorem mono_and (m : MonoT θ) (m' : MonoT θ') : MonoT (xAnd θ θ') := ⟨fun _ _ _ _ _ hz h q => m.m _ _ _ _ _ hz (fun b _ q => by
  cases b with
  | true => exact m'.m _ _ _ _ _ hz h q
  | false => exact h _ _ q) q⟩
theorem mono_or (m : MonoT θ) (m' : MonoT θ') : MonoT (xOr θ θ') := ⟨fun _ _ _ _ _ hz h q => m.m _ _ _ _ _ hz (fun b _ q => by
  cases b with
  | true => exact h _ _ q
  | false => exact m'.m _ _ _ _ _ hz h q) q⟩
theorem db_not (h : DB X G E a θ) : DB X G E (.UnaryOp .Not a pos) (xNot θ) := by
  refine ⟨PT.imp (pt_not h.pt) fun σ H Q q => ?_, mono_not h.mono⟩
  obtain ⟨S, T, B, A, ω, δ, Z, F, z, q⟩ := q
  exact tT_of h.mono F z q fun b δ' H' ω' q f w => q H' ω' f w
structure DW (X : Cx) (G : Amb) (E : XK) (e : Expr) (τ : DTT) : Prop where
  pw : PW X e (tT G X.K E τ)
  mono : MonoT τ
theorem PW.imp {X : Cx} {e : Expr} {t t' : TT} (h : PW X e t) (i : ∀ σ H Q, t' σ H Q → t σ H Q) : PW X e t' := ⟨fun wh pins s σ H Q I q => h.run wh pins s σ H Q I (i σ H Q q)⟩
theorem DW.db (h : DW X G E e θ) : DB X G E e θ := ⟨h.pw.pt, h.mono⟩
variable {rest : List Expr}
theorem dw_and1 (h : DB X G E a θ) : DW X G E (.BoolOp .And [a] pos) θ := ⟨pw_and1 h.pt, h.mono⟩
theorem dw_or1 (h : DB X G E a θ) : DW X G E (.BoolOp .Or [a] pos) θ := ⟨pw_or1 h.pt, h.mono⟩
theorem dw_and (h : DB X G E a θ) (h' : DW X G E (.BoolOp .And (b :: rest) pos) θ') : DW X G E (.BoolOp .And (a :: b :: rest) pos) (xAnd θ θ') := by
  refine ⟨PW.imp (pw_and h.pt h'.pw) fun σ H Q q => ?_, mono_and h.mono h'.mono⟩
  obtain ⟨S, T, B, A, ω, δ, Z, F, z, q⟩ := q
  refine tT_of h.mono F z q fun b δ' H' ω' q f w => ?_
  cases b with
  | true => exact tT_of h'.mono f z q fun b δ2 H2 ω2 q f2 w2 => q H2 ω2 f2 (w2.trans w)
  | false => exact q H' ω' f w
theorem dw_or (h : DB X G E a θ) (h' : DW X G E (.BoolOp .Or (b :: rest) pos) θ') : DW X G E (.BoolOp .Or (a :: b :: rest) pos) (xOr θ θ') := by
  refine ⟨PW.imp (pw_or h.pt h'.pw) fun σ H Q q => ?_, mono_or h.mono h'.mono⟩
  obtain ⟨S, T, B, A, ω, δ, Z, F, z, q⟩ := q
  refine tT_of h.mono F z q fun b δ' H' ω' q f w => ?_
  cases b with
  | false => exact tT_of h'.mono f z q fun b δ2 H2 ω2 q f2 w2 => q H2 ω2 f2 (w2.trans w)
  | true => exact q H' ω' f w
/-! ### tests as values, conditional expressions -/
def xAndV (τ τ' : DT) : DT := fun Z δ Q => τ Z δ fun o δ' => rdK o δ' fun d => match d with
  | .bl c => if c = true then τ' Z δ' Q else Q (.v (.bl false)) δ'
  | _ => False
def xOrV (τ τ' : DT) : DT := fun Z δ Q => τ Z δ fun o δ' => rdK o δ' fun d => match d with
  | .bl c => if c = true then Q (.v (.bl true)) δ' else τ' Z δ' Q
  | _ => False
def xNotV (τ : DT) : DT := fun Z δ Q => τ Z δ fun o δ' => rdK o δ' fun d => match d with
  | .bl c => Q (.v (.bl (!c))) δ'
  | _ => False
def xIfE (θ : DTT) (τ τ' : DT) : DT := fun Z δ Q => θ Z δ fun b δ' => if b = true then τ Z δ' Q else τ' Z δ' Q
theorem mono_andV (m : Mono τa) (m' : Mono τb) : Mono (xAndV τa τb) := ⟨fun _ _ _ _ _ hz h q => m.m _ _ _ _ _ hz (fun o _ q => rdK_mono (fun d q => by
  cases d <;> first | exact q | (rename_i c; cases c with
    | true => exact m'.m _ _ _ _ _ hz h q
    | false => exact h _ _ q)) q) q⟩
theorem mono_orV (m : Mono τa) (m' : Mono τb) : Mono (xOrV τa τb) := ⟨fun _ _ _ _ _ hz h q => m.m _ _ _ _ _ hz (fun o _ q => rdK_mono (fun d q => by
  cases d <;> first | exact q | (rename_i c; cases c with
    | false => exact m'.m _ _ _ _ _ hz h q
    | true => exact h _ _ q)) q) q⟩
theorem mono_notV (m : Mono τa) : Mono (xNotV τa) := ⟨fun _ _ _ _ _ hz h q => m.m _ _ _ _ _ hz (fun o _ q => rdK_mono (fun d q => by
  cases d <;> first | exact q | exact h _ _ q) q) q⟩
theorem mono_ifE (mt : MonoT θ) (m : Mono τa) (m' : Mono τb) : Mono (xIfE θ τa τb) := ⟨fun _ _ _ _ _ hz h q => mt.m _ _ _ _ _ hz (fun b _ q => by
  cases b with
  | true => exact m.m _ _ _ _ _ hz h q
  | false => exact m'.m _ _ _ _ _ hz h q) q⟩
/-- from a state behind the first part on -/
theorem tD_on {K : PySem.W.Frag} {S : Addr → HO → Prop} {T B : Addr → Prop} {A : Nat → Option Addr} {ω ω1 : List (Option Addr)} {H1 : Hp} {σ : St} {δ1 : Env} {Z : Ex → Prop} {Q : VK} (m : Mono τ) (F : Fr G K S T B A ω1 H1 σ δ1) (w : WSub ω1 ω) (z : EOk G K S T B Z E)
    (q : τ Z δ1 (tK G K S T B A ω σ Q)) : tD G K E τ σ H1 Q :=
  tD_of F z (m.m _ _ _ _ _ (fun _ z => z) (fun o δ2 k v H2 ω2 P ev => k v H2 ω2 P ⟨ev.fr, ev.ws.trans w, ev.rp⟩) q) m
theorem de_one {op} (h : DE X G E a τ) : DE X G E (.BoolOp op [a] pos) τ := ⟨pe_one h.pe, h.mono⟩
theorem de_and (ha : DE X G E a τa) (hb : DE X G E (.BoolOp .And (b :: rest) pos) τb) : DE X G E (.BoolOp .And (a :: b :: rest) pos) (xAndV τa τb) := by
  have m := mono_andV ha.mono hb.mono
  refine ⟨PE.imp (pe_and ha.pe hb.pe) fun σ H Q h => ?_, m⟩
  obtain ⟨S, T, B, A, ω, δ, Z, F, z, q⟩ := tD_to m h
  refine tD_of F z (ha.mono.m _ _ _ _ _ (fun _ z => z) (fun o δ' q v H' ω' P ev => ?_) q) ha.mono
  obtain ⟨d, e1, q⟩ := rdK_some q
  have r := ev.fr.rd ev.rp e1
  cases d <;> first | exact q.elim | skip
  rename_i c
  cases r
  refine ⟨c, rfl, ?_⟩
  cases c with
  | true => exact tD_on hb.mono (ev.drop F) ev.ws z q
  | false =>
    obtain ⟨P2, ev2⟩ := Gv.ev (o := .v (.bl false)) (v := .bl false) (ev.drop F) ev.ws (.same rfl)
    exact q _ _ _ _ ev2
theorem de_or (ha : DE X G E a τa) (hb : DE X G E (.BoolOp .Or (b :: rest) pos) τb) : DE X G E (.BoolOp .Or (a :: b :: rest) pos) (xOrV τa τb) := by
  have m := mono_orV ha.mono hb.mono
  refine ⟨PE.imp (pe_or ha.pe hb.pe) fun σ H Q h => ?_, m⟩
  obtain ⟨S, T, B, A, ω, δ, Z, F, z, q⟩ := tD_to m h
  refine tD_of F z (ha.mono.m _ _ _ _ _ (fun _ z => z) (fun o δ' q v H' ω' P ev => ?_) q) ha.mono
  obtain ⟨d, e1, q⟩ := rdK_some q
  have r := ev.fr.rd ev.rp e1
  cases d <;> first | exact q.elim | skip
  rename_i c
  cases r
  refine ⟨c, rfl, ?_⟩
  cases c with
  | false => exact tD_on hb.mono (ev.drop F) ev.ws z q
  | true =>
    obtain ⟨P2, ev2⟩ := Gv.ev (o := .v (.bl true)) (v := .bl true) (ev.drop F) ev.ws (.same rfl)
    exact q _ _ _ _ ev2
theorem de_not (ha : DE X G E a τa) : DE X G E (.UnaryOp .Not a pos) (xNotV τa) := by
  have m := mono_notV ha.mono
  refine ⟨PE.imp (pe_not ha.pe) fun σ H Q h => ?_, m⟩
  obtain ⟨S, T, B, A, ω, δ, Z, F, z, q⟩ := tD_to m h
  refine tD_of F z (ha.mono.m _ _ _ _ _ (fun _ z => z) (fun o δ' q v H' ω' P ev => ?_) q) ha.mono
  obtain ⟨d, e1, q⟩ := rdK_some q
  have r := ev.fr.rd ev.rp e1
  cases d <;> first | exact q.elim | skip
  rename_i c
  cases r
  refine ⟨c, rfl, ?_⟩
  obtain ⟨P2, ev2⟩ := Gv.ev (o := .v (.bl (!c))) (v := .bl (!c)) (ev.drop F) ev.ws (.same rfl)
  exact q _ _ _ _ ev2
theorem de_if (hc : DB X G E c θ) (ha : DE X G E a τa) (hb : DE X G E b τb) : DE X G E (.IfExp c a b pos) (xIfE θ τa τb) := by
  have m := mono_ifE hc.mono ha.mono hb.mono
  refine ⟨PE.imp (pe_ifExp hc.pt ha.pe hb.pe) fun σ H Q h => ?_, m⟩
  obtain ⟨S, T, B, A, ω, δ, Z, F, z, q⟩ := tD_to m h
  refine tT_of hc.mono F z q fun b δ' H' ω' q f w => ?_
  cases b with
  | true => exact tD_on ha.mono f w z q
  | false => exact tD_on hb.mono f w z q
/-! ### a < b < c -/
theorem Ev.back0 {K : PySem.W.Frag} {S : Addr → HO → Prop} {T B : Addr → Prop} {A : Nat → Option Addr} {ω ω1 ω2 : List (Option Addr)} {H H1 H2 : Hp} {σ : St} {δ δ1 δ2 : Env} {P1 : Option Addr} {o1 : Op} {v1 : V}
    (F : Fr G K S T B A ω H σ δ) (e : Ev G K S T B A ω H1 σ δ1 ω1 P1 o1 v1) (F2 : Fr G K (nS S H1 B P1 ω1) (nT H1) (Bp B P1) A ω2 H2 σ δ2) : Fr G K S T B A ω2 H2 σ δ2 :=
  e.back (P2 := none) F (by rw [bp_none, bp_none]; exact F2)
/-- a comparison: what it asks, what it says -/
def cmpR (C : D → D → Prop) (f : D → D → Bool) : D2 := fun d1 d2 P => C d1 d2 ∧ P (.v (.bl (f d1 d2)))
theorem m2_cmp {C : D → D → Prop} {f : D → D → Bool} : M2 (cmpR C f) := ⟨fun _ _ _ _ h q => ⟨q.1, h _ q.2⟩⟩
def xChain (C C' : D → D → Prop) (f f' : D → D → Bool) (τa τb τc : DT) : DT := fun Z δ Q => τa Z δ fun o1 δ1 => τb Z δ1 fun o2 δ2 => rdK o1 δ2 fun d1 => rdK o2 δ2 fun d2 => C d1 d2 ∧
  if f d1 d2 = true then τc Z δ2 fun o3 δ3 => rdK o2 δ3 fun d2 => rdK o3 δ3 fun d3 => C' d2 d3 ∧ Q (.v (.bl (f' d2 d3))) δ3 else Q (.v (.bl false)) δ2
variable {C C' : D → D → Prop} {f f' : D → D → Bool}
theorem mono_chain (ma : Mono τa) (mb : Mono τb) (mc : Mono τc) : Mono (xChain C C' f f' τa τb τc) := ⟨fun _ _ _ _ _ hz h q =>
  ma.m _ _ _ _ _ hz (fun _ _ q => mb.m _ _ _ _ _ hz (fun _ _ q => rdK_mono (fun d1 q => rdK_mono (fun d2 q => ⟨q.1, by
    have q2 := q.2
    by_cases c : f d1 d2 = true
    · rw [if_pos c] at q2 ⊢; exact mc.m _ _ _ _ _ hz (fun _ _ q => rdK_mono (fun _ q => rdK_mono (fun _ q => ⟨q.1, h _ _ q.2⟩) q) q) q2
    · rw [if_neg c] at q2 ⊢; exact h _ _ q2⟩) q) q) q) q⟩
theorem chain_core {r r' : R2} {op op' : CmpOp} (ho : OpD X (compareOp op) (cmpR C f)) (ho' : OpD X (compareOp op') (cmpR C' f')) (ma : Mono τa) (mb : Mono τb) (mc : Mono τc)
    (hv : ∀ {H : Hp} {O : Addr → Prop} {d1 d2 : D} {v1 v2 : V} {P : Op → Prop} {Q : VK}, OM O H → RepTop X.K H O d1 v1 → RepTop X.K H O d2 v2 → cmpR C f d1 d2 P → (∀ o v H', P o → Gv X.K H O o v H' → Q v H') → r v1 v2 H Q)
    (hv' : ∀ {H : Hp} {O : Addr → Prop} {d1 d2 : D} {v1 v2 : V} {P : Op → Prop} {Q : VK}, OM O H → RepTop X.K H O d1 v1 → RepTop X.K H O d2 v2 → cmpR C' f' d1 d2 P → (∀ o v H', P o → Gv X.K H O o v H' → Q v H') → r' v1 v2 H Q)
    {σ : St} {H : Hp} {S : Addr → HO → Prop} {T B : Addr → Prop} {A : Nat → Option Addr} {ω : List (Option Addr)} {δ : Env} {Z : Ex → Prop} {R : Op → Env → Prop} {Q : VK} (F : Fr G X.K S T B A ω H σ δ) (z : EOk G X.K S T B Z E)
    (q : xChain C C' f f' τa τb τc Z δ R) (k : ∀ b δ' H' ω', R (.v (.bl b)) δ' → Fr G X.K S T B A ω' H' σ δ' → WSub ω' ω → Q (.bl b) H') : tChain r r' (tD G X.K E τa) (tD G X.K E τb) (tD G X.K E τc) σ H Q := by
  refine tD_of F z (ma.m _ _ _ _ _ (fun _ z => z) (fun o1 δ1 q v1 H1 ω1 P1 e1 => ?_) q) ma
  refine tD_of (e1.go F) (e1.eok F z) (mb.m _ _ _ _ _ (fun _ z => z) (fun o2 δ2 q v2 H2 ω2 P2 e2 => ?_) q) mb
  obtain ⟨d1, h1, q⟩ := rdK_some q
  obtain ⟨d2, h2, q⟩ := rdK_some q
  refine hv e2.fr.om (e2.fr.rd (e1.old e2) h1) (e2.fr.rd e2.rp h2) (P := fun o => o = .v (.bl (f d1 d2))) ⟨q.1, rfl⟩ fun o v H' po g => ?_
  subst po
  cases g with
  | same r =>
    cases r
    refine ⟨_, rfl, ?_⟩
    have q2 := q.2
    by_cases c : f d1 d2 = true
    · rw [if_pos c] at q2 ⊢
      refine tD_of (e2.go (e1.go F)) (e2.eok (e1.go F) (e1.eok F z)) (mc.m _ _ _ _ _ (fun _ z => z) (fun o3 δ3 q v3 H3 ω3 P3 e3 => ?_) q2) mc
      obtain ⟨d2', h2', q⟩ := rdK_some q
      obtain ⟨d3, h3, q⟩ := rdK_some q
      refine hv' e3.fr.om (e3.fr.rd (e2.old e3) h2') (e3.fr.rd e3.rp h3) (P := fun o => o = .v (.bl (f' d2' d3))) ⟨q.1, rfl⟩ fun o v H' po g => ?_
      subst po
      cases g with
      | same r =>
        cases r
        exact k _ _ _ _ q.2 (e1.back0 F (e2.back (e1.go F) e3.fr)) (e3.ws.trans (e2.ws.trans e1.ws))
    · rw [if_neg c] at q2 ⊢
      have c' : f d1 d2 = false := by simpa using c
      exact k _ _ _ _ q2 (e1.back F e2.fr) (e2.ws.trans e1.ws)
theorem de_chain {op op' : CmpOp} (ho : OpD X (compareOp op) (cmpR C f)) (ho' : OpD X (compareOp op') (cmpR C' f')) (ha : DE X G E a τa) (hb : DE X G E b τb) (hc : DE X G E c τc) (hm : lastMarks [op, op'] [b, c] = false := by with_unfolding_all rfl) :
    DE X G E (.Compare a [op, op'] [b, c] pos) (xChain C C' f f' τa τb τc) := by
  have m : Mono (xChain C C' f f' τa τb τc) := mono_chain ha.mono hb.mono hc.mono
  obtain ⟨r, hr, hv⟩ := ho.ok
  obtain ⟨r', hr', hv'⟩ := ho'.ok
  refine ⟨PE.imp (pe_chain hr hr' ha.pe hb.pe hc.pe hm) fun σ H Q h => ?_, m⟩
  obtain ⟨S, T, B, A, ω, δ, Z, F, z, q⟩ := tD_to m h
  refine chain_core ho ho' ha.mono hb.mono hc.mono hv hv' F z q fun b δ' H' ω' q F' w => ?_
  obtain ⟨P, ev⟩ := Gv.ev (o := .v (.bl b)) (v := .bl b) F' w (.same rfl)
  exact q _ _ _ _ ev
theorem db_chain {op op' : CmpOp} (ho : OpD X (compareOp op) (cmpR C f)) (ho' : OpD X (compareOp op') (cmpR C' f')) (ha : DE X G E a τa) (hb : DE X G E b τb) (hc : DE X G E c τc) (hm : lastMarks [op, op'] [b, c] = false := by with_unfolding_all rfl) :
    DB X G E (.Compare a [op, op'] [b, c] pos) (xTru (xChain C C' f f' τa τb τc)) := by
  have m : Mono (xChain C C' f f' τa τb τc) := mono_chain ha.mono hb.mono hc.mono
  obtain ⟨r, hr, hv⟩ := ho.ok
  obtain ⟨r', hr', hv'⟩ := ho'.ok
  refine ⟨PT.imp (pt_chain hr hr' ha.pe hb.pe hc.pe hm) fun σ H Q h => ?_, mono_tru m⟩
  obtain ⟨S, T, B, A, ω, δ, Z, F, z, q⟩ := h
  refine chain_core (Q := fun x H' => ∃ k, x = .bl k ∧ Q k H') (R := fun o δ' => rdK o δ' fun d => truK d fun b => ∀ H' ω', Fr G X.K S T B A ω' H' σ δ' → WSub ω' ω → Q b H') ho ho' ha.mono hb.mono hc.mono hv hv' F z q fun b δ' H' ω' q F' w => ?_
  exact ⟨b, rfl, q H' ω' F' w⟩
theorem db_cmpR {op : CmpOp} (ho : OpD X (compareOp op) (cmpR C f)) (ha : DE X G E a τa) (hb : DE X G E b τb) (hm : behindInMarks op b = false) : DB X G E (.Compare a [op] [b] pos) (xTru (xOp (cmpR C f) τa τb)) :=
  db_cmp ho ha hb hm fun _ _ _ q => ⟨q.1, q.2, _, rfl⟩
end
end DL

set_option Elab.async false
set_option linter.all false
set_option maxRecDepth 100000
namespace DL
open PySem L2
/-! ### arguments, displays -/
def BL (B : Addr → Prop) (Ps : List Addr) (a : Addr) : Prop := B a ∨ a ∈ Ps
inductive ROps (K : PySem.W.Frag) (T : Addr → Prop) (H : Hp) (O : Addr → Prop) (σ : St) : List Addr → List Op → List V → Prop
  | nil : ROps K T H O σ [] [] []
  | cons {P : Option Addr} {Ps : List Addr} {o : Op} {os : List Op} {v : V} {vs : List V} : ROp K T H O σ P o v → ROps K T H O σ Ps os vs → ROps K T H O σ (P.toList ++ Ps) (o :: os) (v :: vs)
structure EvA (G : Amb) (K : PySem.W.Frag) (S : Addr → HO → Prop) (T B : Addr → Prop) (A : Nat → Option Addr) (ω : List (Option Addr)) (H' : Hp) (σ : St) (δ' : Env) (ω' : List (Option Addr)) (Ps : List Addr) (os : List Op) (vs : List V) : Prop where
  fr : Fr G K S (BL T Ps) (BL B Ps) A ω' H' σ δ'
  ws : WSub ω' ω
  nd : Ps.Nodup
  rp : ROps K T H' (Ow (BL B Ps) ω') σ Ps os vs
abbrev DTA := (Ex → Prop) → Env → (List Op → Env → Prop) → Prop
structure MonoA (τ : DTA) : Prop where
  m : ∀ (Z Z' : Ex → Prop) (δ : Env) (Q Q' : List Op → Env → Prop), (∀ x, Z x → Z' x) → (∀ o δ', Q o δ' → Q' o δ') → τ Z δ Q → τ Z' δ Q'
def tA (G : Amb) (K : PySem.W.Frag) (E : XK) (τ : DTA) : TA := fun σ H Q => ∃ S T B A ω δ Z, Fr G K S T B A ω H σ δ ∧ EOk G K S T B Z E ∧
  τ Z δ (fun os δ' => ∀ vs H' ω' Ps, EvA G K S T B A ω H' σ δ' ω' Ps os vs → Q vs H')
structure DA (X : Cx) (G : Amb) (E : XK) (es : List Expr) (τ : DTA) : Prop where
  pa : PA X es (tA G X.K E τ)
  mono : MonoA τ
theorem PA.imp {X : Cx} {e : List Expr} {t t' : TA} (h : PA X e t) (i : ∀ σ H Q, t' σ H Q → t σ H Q) : PA X e t' := ⟨fun pos pins s σ H Q I q => h.run pos pins s σ H Q I (i σ H Q q)⟩
theorem bl_nil {B : Addr → Prop} : BL B [] = B := by funext a; unfold BL; simp
section
variable {G : Amb} {K : PySem.W.Frag} {S : Addr → HO → Prop} {T B : Addr → Prop} {A : Nat → Option Addr} {ω ω1 ω2 : List (Option Addr)} {H H1 H2 : Hp} {σ : St} {δ δ1 δ2 : Env} {P1 : Option Addr} {Ps : List Addr} {Z : Ex → Prop} {E : XK} {o1 : Op} {v1 : V} {os : List Op} {vs : List V}
theorem ROps.nt {O : Addr → Prop} (r : ROps K T H O σ Ps os vs) : ∀ p ∈ Ps, ¬ T p := by
  induction r with
  | nil => intro p h; cases h
  | cons r _ ih =>
    intro p h
    rcases List.mem_append.mp h with h | h
    · exact r.nt p (Option.mem_toList.mp h)
    · exact ih p h
theorem ROp.carry {O O' : Addr → Prop} {P : Option Addr} {o : Op} {v : V} {T' : Addr → Prop} (r : ROp K T H O σ P o v) (c : Carry K H H1 O O') (t : ∀ p, P = some p → ¬ T p → ¬ T' p) (k : ∀ p u, P = some p → H p = some u → Mu u → H1 p = some u) : ROp K T' H1 O' σ P o v := by
  cases o with
  | v d => exact ⟨r.1, Rep.carry c r.2⟩
  | b i => exact r
  | n ds => obtain ⟨p, vs, h0, h1, h2, h3, h4⟩ := r; exact ⟨p, vs, h0, h1, t p h0 h2, k p _ h0 h3 trivial, RepL.carry c h4⟩
  | nd ds => obtain ⟨p, vs, h0, h1, h2, h3, h4⟩ := r; exact ⟨p, vs, h0, h1, t p h0 h2, k p _ h0 h3 trivial, RepK.carry c h4⟩
  | nt ds => obtain ⟨p, vs, h0, h1, h2, h3, h4⟩ := r; exact ⟨p, vs, h0, h1, t p h0 h2, k p _ h0 h3 trivial, RepT.carry c h4⟩
theorem ROps.carry {O O' : Addr → Prop} {T' : Addr → Prop} (r : ROps K T H O σ Ps os vs) (c : Carry K H H1 O O') (t : ∀ p ∈ Ps, ¬ T p → ¬ T' p) (k : ∀ p ∈ Ps, ∀ u, H p = some u → Mu u → H1 p = some u) : ROps K T' H1 O' σ Ps os vs := by
  induction r with
  | nil => exact .nil
  | cons r _ ih =>
    exact .cons (r.carry c (fun p h n => t p (List.mem_append_left _ (Option.mem_toList.mpr h)) n) fun p u h => k p (List.mem_append_left _ (Option.mem_toList.mpr h)) u) (ih (fun p h => t p (List.mem_append_right _ h)) fun p h => k p (List.mem_append_right _ h))
/-- what was pinned carries over -/
theorem pin_carry {S' : Addr → HO → Prop} {T' B' : Addr → Prop} {A' : Nat → Option Addr} {O1 : Addr → Prop} (hS : ∀ a o, H1 a = some o → NT o → ¬ O1 a → S' a o) (om : OM O1 H1) (F : Fr G K S' T' B' A' ω2 H2 σ δ2) (hB : ∀ a, B' a → O1 a ∨ ¬ nT H1 a) : Carry K H1 H2 O1 (Ow B' ω2) := by
  have no : ∀ a o, H1 a = some o → NT o → ¬ O1 a → ¬ Ow B' ω2 a := fun a o h n m z => by
    rcases z with z | ⟨i, z⟩
    · rcases hB a z with z | z
      · exact m z
      · exact z ⟨o, h, n⟩
    · exact (F.sw i a z).2 o (hS a o h n m)
  refine ⟨fun a vs h => ?_, fun a vs h n => ⟨F.st a _ (hS a _ h nt_lst n), no a _ h nt_lst n⟩, fun a vs h n => ⟨F.st a _ (hS a _ h nt_dK n), no a _ h nt_dK n⟩, fun a vs h n => ⟨F.st a _ (hS a _ h nt_dT n), no a _ h nt_dT n⟩⟩
  have key : ∀ o, H1 a = some o → NT o → ¬ Mu o → H2 a = some o := fun o h n m => F.st a o (hS a o h n fun z => by
    obtain ⟨u, e', m'⟩ := om a z
    rw [h] at e'; cases e'; exact m m')
  rcases h with (h | ⟨o, h⟩) | h
  · exact .inl (.inl (key _ h nt_tup fun z => z))
  · exact .inl (.inr ⟨o, key _ h nt_frz fun z => z⟩)
  · exact .inr h
theorem tA_of {τ : DTA} {Q : List V → Hp → Prop} (m : MonoA τ) (F : Fr G K S T B A ω H σ δ) (z : EOk G K S T B Z E) {R : List Op → Env → Prop} (h : τ Z δ R) (k : ∀ os δ' vs H' ω' Ps, R os δ' → EvA G K S T B A ω H' σ δ' ω' Ps os vs → Q vs H') : tA G K E τ σ H Q :=
  ⟨S, T, B, A, ω, δ, Z, F, z, m.m _ _ _ _ _ (fun _ z => z) (fun os δ' q vs H' ω' Ps e => k os δ' vs H' ω' Ps q e) h⟩
theorem bp_bl {a : Addr} : BL (Bp B P1) Ps a ↔ BL B (P1.toList ++ Ps) a := by
  unfold BL Bp
  rw [List.mem_append, Option.mem_toList]
  constructor
  · rintro ((h | h) | h)
    · exact .inl h
    · exact .inr (.inl h)
    · exact .inr (.inr h)
  · rintro (h | h | h)
    · exact .inl (.inl h)
    · exact .inl (.inr h)
    · exact .inr h
/-- one more argument ahead -/
theorem EvA.cons (F : Fr G K S T B A ω H σ δ) (e : Ev G K S T B A ω H1 σ δ1 ω1 P1 o1 v1) (e2 : EvA G K (nS S H1 B P1 ω1) (nT H1) (Bp B P1) A ω1 H2 σ δ2 ω2 Ps os vs) : EvA G K S T B A ω H2 σ δ2 ω2 (P1.toList ++ Ps) (o1 :: os) (v1 :: vs) := by
  have nt1 := e.rp.nt
  have nt2 := e2.rp.nt
  have inH1 : ∀ p, P1 = some p → nT H1 p := fun p h => e.fr.dm p (.inr h)
  have fr : Fr G K S (BL T (P1.toList ++ Ps)) (BL B (P1.toList ++ Ps)) A ω2 H2 σ δ2 := by
    refine e2.fr.less (fun _ _ h => .inl h) (fun a h => ?_) (fun a h => bp_bl.mpr h) (fun a c => .inl (F.cb a c)) (fun a h => h.elim (fun z => .inl (F.bt a z)) .inr) (fun a o h => .inl (F.sT a o h)) (fun i a h => .inl (F.al i a h)) fun a o h ⟨i, q⟩ => ?_
    · rcases h with h | h
      · exact .inl (e.fr.dm a (.inl h))
      · rcases List.mem_append.mp h with h | h
        · exact .inl (inH1 a (Option.mem_toList.mp h))
        · exact .inr h
    · rcases h with h | ⟨h, n, h'⟩
      · exact h
      · rcases h' with h' | h'
        · exact (h' (.inl (.inl (F.al i a q)))).elim
        · exact (nt1 a h' (F.bt a (F.al i a q))).elim
  have oEq : ∀ a, Ow (BL (Bp B P1) Ps) ω2 a ↔ Ow (BL B (P1.toList ++ Ps)) ω2 a := fun a => by unfold Ow; rw [bp_bl]
  refine ⟨fr, e2.ws.trans e.ws, ?_, .cons ?_ ?_⟩
  · refine List.nodup_append.mpr ⟨?_, e2.nd, fun a ha b hb h => ?_⟩
    · cases P1 <;> simp
    · subst h
      exact nt2 a hb (inH1 a (Option.mem_toList.mp ha))
  · refine e.rp.carry (pin_carry (S' := nS S H1 B P1 ω1) (O1 := Ow (Bp B P1) ω1) (fun a o h n m => .inr ⟨h, n, .inl m⟩) e.fr.om fr' ?_) (fun _ _ n => n) fun p u h1 h2 m => e2.fr.st p u (.inr ⟨h2, nt_mu m, .inr h1⟩)
    · intro a h
      rcases bp_bl.mpr h with (h | h) | h
      · exact .inl (.inl (.inl h))
      · exact .inl (.inl (.inr h))
      · right
        exact nt2 a h
  · refine e2.rp.carry (Carry.sub fun a h => (oEq a).mpr h) (fun p hp n t => ?_) fun p hp u h1 _ => h1
    exact n (e.fr.dm p (.inl t))
where fr' := (Fr.less e2.fr (S := nS S H1 B P1 ω1) (T := BL (nT H1) Ps) (B := BL B (P1.toList ++ Ps)) (fun _ _ h => h) (fun a h => h) (fun a h => bp_bl.mpr h) (fun a c => .inl (F.cb a c)) (fun a h => by
    rcases bp_bl.mpr h with (h | h) | h
    · exact .inl (e.fr.dm a (.inl (F.bt a h)))
    · exact .inl (e.fr.dm a (.inr h))
    · exact .inr h) (fun a o h => e2.fr.sT a o h) (fun i a h => .inl (F.al i a h)) fun _ _ h _ => h)
theorem EvA.drop (F : Fr G K S T B A ω H σ δ) (e : EvA G K S T B A ω H1 σ δ1 ω1 Ps os vs) : Fr G K S T B A ω1 H1 σ δ1 :=
  e.fr.less (fun _ _ h => h) (fun _ h => .inl h) (fun _ h => .inl h) F.cb F.bt F.sT F.al fun _ _ h _ => h
end
/-- all may be kept -/
def kpL : List Op → Option (List D)
  | [] => some []
  | o :: os => match kp o, kpL os with
    | some d, some ds => some (d :: ds)
    | _, _ => none
def kpLK (os : List Op) (k : List D → Prop) : Prop := match kpL os with
  | some ds => k ds
  | none => False
theorem kpLK_mono {o : List Op} {k k' : List D → Prop} (h : ∀ d, k d → k' d) (q : kpLK o k) : kpLK o k' := by
  unfold kpLK at q ⊢
  split at q
  · exact h _ q
  · exact q
theorem kpLK_some {o : List Op} {k : List D → Prop} (q : kpLK o k) : ∃ d, kpL o = some d ∧ k d := by
  unfold kpLK at q
  cases e : kpL o with
  | none => rw [e] at q; exact q.elim
  | some d => rw [e] at q; exact ⟨d, rfl, q⟩
def kpK (o : Op) (k : D → Prop) : Prop := match kp o with
  | some d => k d
  | none => False
theorem kpK_mono {o : Op} {k k' : D → Prop} (h : ∀ d, k d → k' d) (q : kpK o k) : kpK o k' := by
  unfold kpK at q ⊢
  split at q
  · exact h _ q
  · exact q
theorem kpK_some {o : Op} {k : D → Prop} (q : kpK o k) : ∃ d, kp o = some d ∧ k d := by
  unfold kpK at q
  cases e : kp o with
  | none => rw [e] at q; exact q.elim
  | some d => rw [e] at q; exact ⟨d, rfl, q⟩
def xNilA : DTA := fun _ δ Q => Q [] δ
def xConsA (τ : DT) (τs : DTA) : DTA := fun Z δ Q => τ Z δ fun o δ1 => τs Z δ1 fun os δ2 => Q (o :: os) δ2
section
variable {X : Cx} {G : Amb} {E : XK} {e a b c : Expr} {es : List Expr} {τ τa τb : DT} {τs : DTA} {pos : Pos}
theorem mono_nilA : MonoA xNilA := ⟨fun _ _ _ _ _ _ h q => h _ _ q⟩
theorem mono_consA (m : Mono τ) (ms : MonoA τs) : MonoA (xConsA τ τs) := ⟨fun _ _ _ _ _ hz h q => m.m _ _ _ _ _ hz (fun _ _ q => ms.m _ _ _ _ _ hz (fun _ _ q => h _ _ q) q) q⟩
theorem da_nil : DA X G E [] xNilA := by
  refine ⟨PA.imp pa_nil fun σ H Q h => ?_, mono_nilA⟩
  obtain ⟨S, T, B, A, ω, δ, Z, F, z, q⟩ := h
  exact q [] H ω [] ⟨by rw [bl_nil, bl_nil]; exact F, .refl, List.nodup_nil, .nil⟩
theorem da_cons (he : DE X G E e τ) (hs : DA X G E es τs) (hq : starEach (e :: es) X.env = (false, eval e X.env) :: starEach es X.env := by rfl) : DA X G E (e :: es) (xConsA τ τs) := by
  refine ⟨PA.imp (pa_cons he.pe hs.pa hq) fun σ H Q h => ?_, mono_consA he.mono hs.mono⟩
  obtain ⟨S, T, B, A, ω, δ, Z, F, z, q⟩ := h
  refine tD_of F z (he.mono.m _ _ _ _ _ (fun _ z => z) (fun o1 δ1 q v1 H1 ω1 P1 e1 => ?_) q) he.mono
  exact tA_of hs.mono (e1.go F) (e1.eok F z) q fun os δ2 vs H2 ω2 Ps q e2 => q (v1 :: vs) H2 ω2 _ (EvA.cons F e1 e2)
variable {K : PySem.W.Frag} {S : Addr → HO → Prop} {T B : Addr → Prop} {A : Nat → Option Addr} {ω ω1 : List (Option Addr)} {H H1 : Hp} {σ : St} {δ δ1 : Env} {Ps : List Addr} {os : List Op} {vs : List V}
theorem ROps.kp {O O' : Addr → Prop} (s : ∀ a, O' a → O a) : ∀ {Ps : List Addr} {os : List Op} {vs : List V} {ds : List D}, ROps K T H O σ Ps os vs → (∀ p ∈ Ps, ¬ O' p) → kpL os = some ds → RepL K H O' ds vs := fun {Ps os vs ds} r => by
  induction r generalizing ds with
  | nil => intro _ e; cases e; rfl
  | @cons P Ps o os v vs r _ ih =>
    intro n e
    unfold kpL at e
    cases e1 : DL.kp o with
    | none => rw [e1] at e; simp at e
    | some d =>
      cases e2 : kpL os with
      | none => rw [e1, e2] at e; simp at e
      | some ds' =>
        rw [e1, e2] at e
        simp only [Option.some.injEq] at e
        subst e
        exact ⟨v, vs, rfl, r.kp s (fun p h => n p (List.mem_append_left _ (Option.mem_toList.mpr h))) e1, ih (fun p h => n p (List.mem_append_right _ h)) e2⟩
theorem EvA.kp (F : Fr G K S T B A ω H σ δ) (e : EvA G K S T B A ω H1 σ δ1 ω1 Ps os vs) {ds : List D} (q : kpL os = some ds) : RepL K H1 (Ow B ω1) ds vs :=
  e.rp.kp (fun a h => h.elim (fun z => .inl (.inl z)) .inr) (fun p hp z => by
    rcases z with z | ⟨i, z⟩
    · exact e.rp.nt p hp (F.bt p z)
    · exact (e.fr.sw i p z).1 (.inr hp)) q
def xTup (τs : DTA) : DT := fun Z δ Q => τs Z δ fun os δ' => kpLK os fun ds => ds.length ≤ 16777216 ∧ Q (.v (.tup ds)) δ'
def xLst (τs : DTA) : DT := fun Z δ Q => τs Z δ fun os δ' => kpLK os fun ds => ds.length ≤ 16777216 ∧ Q (.n ds) δ'
theorem mono_tup (m : MonoA τs) : Mono (xTup τs) := ⟨fun _ _ _ _ _ hz h q => m.m _ _ _ _ _ hz (fun _ _ q => kpLK_mono (fun _ q => ⟨q.1, h _ _ q.2⟩) q) q⟩
theorem mono_lst (m : MonoA τs) : Mono (xLst τs) := ⟨fun _ _ _ _ _ hz h q => m.m _ _ _ _ _ hz (fun _ _ q => kpLK_mono (fun _ q => ⟨q.1, h _ _ q.2⟩) q) q⟩
theorem de_tup {x1} (h : DA X G E es τs) : DE X G E (.Tuple es x1 pos) (xTup τs) := by
  refine ⟨PE.imp (pe_tup h.pa) fun σ H Q q => ?_, mono_tup h.mono⟩
  obtain ⟨S, T, B, A, ω, δ, Z, F, z, q⟩ := tD_to (mono_tup h.mono) q
  refine tA_of h.mono F z q fun os δ' vs H' ω' Ps q e => ?_
  obtain ⟨ds, e1, hl, q⟩ := kpLK_some q
  have r := e.kp F e1
  refine ⟨by rw [← r.length, sizeLine_eq]; exact hl, fun p hp => ?_⟩
  obtain ⟨P, ev⟩ := Gv.ev (e.drop F) e.ws (.tup hp r)
  exact q _ _ _ _ ev
theorem de_lst (h : DA X G E es τs) : DE X G E (.List es pos) (xLst τs) := by
  refine ⟨PE.imp (pe_lst h.pa) fun σ H Q q => ?_, mono_lst h.mono⟩
  obtain ⟨S, T, B, A, ω, δ, Z, F, z, q⟩ := tD_to (mono_lst h.mono) q
  refine tA_of h.mono F z q fun os δ' vs H' ω' Ps q e => ?_
  obtain ⟨ds, e1, hl, q⟩ := kpLK_some q
  have r := e.kp F e1
  refine ⟨by rw [← r.length, sizeLine_eq]; exact hl, fun p hp => ?_⟩
  obtain ⟨P, ev⟩ := Gv.ev (e.drop F) e.ws (.lst hp r)
  exact q _ _ _ _ ev
/-! ### one argument of a built-in, read -/
abbrev D1 := D → (Op → Prop) → Prop
structure M1 (ρ : D1) : Prop where
  m : ∀ (d : D) (P P' : Op → Prop), (∀ o, P o → P' o) → ρ d P → ρ d P'
structure CallD1 (X : Cx) (f : Value) (ρ : D1) : Prop where
  ok : ∃ r : List V → Hp → VK → Prop, CallR X f r ∧ ∀ {H : Hp} {O : Addr → Prop} {d : D} {v : V} {P : Op → Prop} {Q : VK}, OM O H → RepTop X.K H O d v → ρ d P → (∀ o v H', P o → Gv X.K H O o v H' → Q v H') → r [v] H Q
  mono : M1 ρ
def xUn (ρ : D1) (τ : DT) : DT := fun Z δ Q => τ Z δ fun o δ' => rdK o δ' fun d => ρ d fun o => Q o δ'
theorem mono_un {ρ : D1} (hm : M1 ρ) (m : Mono τ) : Mono (xUn ρ τ) := ⟨fun _ _ _ _ _ hz h q => m.m _ _ _ _ _ hz (fun _ _ q => rdK_mono (fun _ q => hm.m _ _ _ (fun _ q => h _ _ q) q) q) q⟩
theorem un_core {ρ : D1} {r : V → Hp → VK → Prop} {Q : VK} (m : Mono τ) (hv : ∀ {H : Hp} {O : Addr → Prop} {d : D} {v : V} {P : Op → Prop} {Q : VK}, OM O H → RepTop K H O d v → ρ d P → (∀ o v H', P o → Gv K H O o v H' → Q v H') → r v H Q)
    {Z : Ex → Prop} (F : Fr G K S T B A ω H σ δ) (z : EOk G K S T B Z E) (q : xUn ρ τ Z δ (tK G K S T B A ω σ Q)) : tD G K E τ σ H fun x H1 => r x H1 Q := by
  refine tD_of F z (m.m _ _ _ _ _ (fun _ z => z) (fun o δ' q v H' ω' P ev => ?_) q) m
  obtain ⟨d, e1, q⟩ := rdK_some q
  refine hv (ev.drop F).om (RepTop.sub (fun _ z => ow_less z) (ev.fr.rd ev.rp e1)) q fun o v H2 k g => ?_
  obtain ⟨P2, ev2⟩ := g.ev (ev.drop F) ev.ws
  exact k _ _ _ _ ev2
theorem de_callB1 {ρ : D1} {x : Str} {id : String} {p : Pos} (hc : CallD1 X (.builtin id) ρ) (hg : Gl X x) (hm : X.mg x = none) (hv : bootBuiltins x = some (.builtin id)) (he : DE X G E e τ) (hn : x ≠ "__name__" := by decide) (hdb : (x == ("__debug__" : Str)) = false := by decide)
    (hq : starEach [e] X.env = (false, eval e X.env) :: starEach [] X.env := by rfl) (hpl : (backTo pos (starEach [] X.env)).any (·.1) = false := by rfl) : DE X G E (.Call (.Name x p) [e] [] pos) (xUn ρ τ) := by
  obtain ⟨r, hr, hv'⟩ := hc.ok
  have m := mono_un hc.mono he.mono
  refine ⟨PE.imp (pe_callB hr hg hm hv (pa_cons he.pe pa_nil hq) hn hdb hq hpl) fun σ H Q h => ?_, m⟩
  obtain ⟨S, T, B, A, ω, δ, Z, F, z, q⟩ := tD_to m h
  exact un_core (r := fun v H Q => r [v] H Q) he.mono hv' F z q
theorem de_callT1 {ρ : D1} {x : Str} {id : String} {p : Pos} (hc : CallD1 X (.type id) ρ) (hg : Gl X x) (hm : X.mg x = none) (hv : bootBuiltins x = some (.type id)) (he : DE X G E e τ) (hn : x ≠ "__name__" := by decide) (hdb : (x == ("__debug__" : Str)) = false := by decide)
    (hq : starEach [e] X.env = (false, eval e X.env) :: starEach [] X.env := by rfl) (hpl : (backTo pos (starEach [] X.env)).any (·.1) = false := by rfl) : DE X G E (.Call (.Name x p) [e] [] pos) (xUn ρ τ) := by
  obtain ⟨r, hr, hv'⟩ := hc.ok
  have m := mono_un hc.mono he.mono
  refine ⟨PE.imp (pe_callTy hr hg hm hv (pa_cons he.pe pa_nil hq) hn hdb hq hpl) fun σ H Q h => ?_, m⟩
  obtain ⟨S, T, B, A, ω, δ, Z, F, z, q⟩ := tD_to m h
  exact un_core (r := fun v H Q => r [v] H Q) he.mono hv' F z q
structure UnD (X : Cx) (f : Value → Sem Value) (ρ : D1) : Prop where
  ok : ∃ r : V → Hp → VK → Prop, UnR X f r ∧ ∀ {H : Hp} {O : Addr → Prop} {d : D} {v : V} {P : Op → Prop} {Q : VK}, OM O H → RepTop X.K H O d v → ρ d P → (∀ o v H', P o → Gv X.K H O o v H' → Q v H') → r v H Q
  mono : M1 ρ
theorem de_un {op : UnaryOp} {ρ : D1} (ho : UnD X (unaryOp op) ρ) (ha : DE X G E a τ) : DE X G E (.UnaryOp op a pos) (xUn ρ τ) := by
  obtain ⟨r, hr, hv'⟩ := ho.ok
  have m := mono_un ho.mono ha.mono
  refine ⟨PE.imp (pe_un hr ha.pe) fun σ H Q h => ?_, m⟩
  obtain ⟨S, T, B, A, ω, δ, Z, F, z, q⟩ := tD_to m h
  exact un_core ha.mono hv' F z q
/-- a[b] -/
structure IxD (X : Cx) (ρ : D2) : Prop where
  ok : ∃ r : R2, IxR X r ∧ ∀ {H : Hp} {O : Addr → Prop} {d1 d2 : D} {v1 v2 : V} {P : Op → Prop} {Q : VK}, OM O H → RepTop X.K H O d1 v1 → RepTop X.K H O d2 v2 → ρ d1 d2 P → (∀ o v H', P o → Gv X.K H O o v H' → Q v H') → r v1 v2 H Q
  mono : M2 ρ
theorem de_ix {ρ : D2} (ho : IxD X ρ) (ha : DE X G E a τa) (hb : DE X G E b τb) (hs : PlainIx b := by exact fun _ _ => rfl) : DE X G E (.Subscript a b pos) (xOp ρ τa τb) := by
  have m : Mono (xOp ρ τa τb) := mono_op ho.mono ha.mono hb.mono
  obtain ⟨r, hr, hv⟩ := ho.ok
  refine ⟨PE.imp (pe_ix hr ha.pe hb.pe hs) fun σ H Q h => ?_, m⟩
  obtain ⟨S, T, B, A, ω, δ, Z, F, z, q⟩ := tD_to m h
  refine two_then (r := r) (R := fun d1 d2 δ2 => ρ d1 d2 fun o => tK G X.K S T B A ω σ Q o δ2) ha.mono hb.mono F z q fun {H2 ω2 δ2 d1 d2 v1 v2} F2 w t1 t2 q => hv F2.om t1 t2 q fun o v H' k g => ?_
  obtain ⟨P, ev⟩ := g.ev F2 w
  exact k v H' ω2 P ev
/-- a built-in of two arguments, both read -/
structure CallD2 (X : Cx) (f : Value) (ρ : D2) : Prop where
  ok : ∃ r : List V → Hp → VK → Prop, CallR X f r ∧ ∀ {H : Hp} {O : Addr → Prop} {d1 d2 : D} {v1 v2 : V} {P : Op → Prop} {Q : VK}, OM O H → RepTop X.K H O d1 v1 → RepTop X.K H O d2 v2 → ρ d1 d2 P → (∀ o v H', P o → Gv X.K H O o v H' → Q v H') → r [v1, v2] H Q
  mono : M2 ρ
theorem de_callB2 {ρ : D2} {x : Str} {id : String} {p : Pos} (hc : CallD2 X (.builtin id) ρ) (hg : Gl X x) (hm : X.mg x = none) (hv : bootBuiltins x = some (.builtin id)) (ha : DE X G E a τa) (hb : DE X G E b τb) (hn : x ≠ "__name__" := by decide) (hdb : (x == ("__debug__" : Str)) = false := by decide)
    (hq : starEach [a, b] X.env = (false, eval a X.env) :: starEach [b] X.env := by rfl) (hq2 : starEach [b] X.env = (false, eval b X.env) :: starEach [] X.env := by rfl) (hpl : (backTo pos (starEach [b] X.env)).any (·.1) = false := by rfl) : DE X G E (.Call (.Name x p) [a, b] [] pos) (xOp ρ τa τb) := by
  obtain ⟨r, hr, hv'⟩ := hc.ok
  have m : Mono (xOp ρ τa τb) := mono_op hc.mono ha.mono hb.mono
  refine ⟨PE.imp (pe_callB hr hg hm hv (pa_cons ha.pe (pa_cons hb.pe pa_nil hq2) hq) hn hdb hq hpl) fun σ H Q h => ?_, m⟩
  obtain ⟨S, T, B, A, ω, δ, Z, F, z, q⟩ := tD_to m h
  refine two_then (r := fun x y H Q => r [x, y] H Q) (R := fun d1 d2 δ2 => ρ d1 d2 fun o => tK G X.K S T B A ω σ Q o δ2) ha.mono hb.mono F z q fun {H2 ω2 δ2 d1 d2 v1 v2} F2 w t1 t2 q => hv' F2.om t1 t2 q fun o v H' k g => ?_
  obtain ⟨P, ev⟩ := g.ev F2 w
  exact k v H' ω2 P ev
end
end DL

set_option Elab.async false
set_option linter.all false
set_option maxRecDepth 100000
namespace DL
open PySem L2
/-! ### calls of defs -/
abbrev FSp := List D → (D → Prop) → (Ex → Prop) → Prop
structure MonoF (φ : FSp) : Prop where
  m : ∀ (ds : List D) (Q Q' : D → Prop) (Z Z' : Ex → Prop), (∀ d, Q d → Q' d) → (∀ x, Z x → Z' x) → φ ds Q Z → φ ds Q' Z'
def Grow (C : Addr → Prop) (H H' : Hp) : Prop := Keep C H H' ∧ ∀ a, nT H a → nT H' a
def spD (G : Amb) (K : PySem.W.Frag) (φ : FSp) : Sp := fun vs H Q E => ∃ B ds, G.inv H ∧ (∀ a, G.C a → B a) ∧ OM B H ∧ RepL K H B ds vs ∧
  φ ds (fun d => ∀ v H', G.inv H' → Grow G.C H H' → Rep K H' B d v → Q v H') fun x => ∀ H', G.inv H' → Grow G.C H H' → ExR K H' B E x
theorem ExR.sub {K : PySem.W.Frag} {H : Hp} {O O' : Addr → Prop} {E : XK} {x : Ex} (s : ∀ a, O a → O' a) (h : ExR K H O E x) : ExR K H O' E x := by
  unfold ExR at h ⊢
  cases e : x.fld with
  | none => rw [e] at h; exact h
  | some fd =>
    obtain ⟨f, d⟩ := fd
    rw [e] at h
    exact fun dx v e1 r => h dx v e1 (Rep.carry (Carry.sub s) r)
def xCall (φ : FSp) (τs : DTA) : DT := fun Z δ Q => τs Z δ fun os δ' => kpLK os fun ds => φ ds (fun d => Q (.v d) δ') Z
theorem mono_call {φ : FSp} {τs : DTA} (mf : MonoF φ) (m : MonoA τs) : Mono (xCall φ τs) := ⟨fun _ _ _ _ _ hz h q => m.m _ _ _ _ _ hz (fun _ _ q => kpLK_mono (fun _ q => mf.m _ _ _ _ _ (fun _ q => h _ _ q) hz q) q) q⟩
section
variable {X : Cx} {G : Amb} {E : XK} {e : Expr} {es : List Expr} {φ : FSp} {τs : DTA} {p pos : Pos} {k : Nat} {f : Addr} {fd : FuncData} {ps : List Str} {x : Str}
/-- what a caller owes and gets -/
theorem call_core {S : Addr → HO → Prop} {T B : Addr → Prop} {A : Nat → Option Addr} {ω ω1 : List (Option Addr)} {H1 : Hp} {σ : St} {δ1 : Env} {Z : Ex → Prop} {Q : VK} {ds : List D} {vs : List V} (mf : MonoF φ) (F1 : Fr G X.K S T B A ω1 H1 σ δ1) (w : WSub ω1 ω) (z : EOk G X.K S T B Z E)
    (r : RepL X.K H1 (Ow B ω1) ds vs) (q : φ ds (fun d => tK G X.K S T B A ω σ Q (.v d) δ1) Z) : spD G X.K φ vs H1 Q E := by
  refine ⟨Ow B ω1, ds, F1.inv, fun a c => .inl (F1.cb a c), F1.om, r, mf.m _ _ _ _ _ (fun d q v H' i g rd => ?_) (fun x hx H' i g => ?_) q⟩
  · have F2 : Fr G X.K S T B A ω1 H' σ δ1 := F1.grow g.1 i (fun a o h => g.1 a o (F1.st a o h) (F1.sc a o h).1 (F1.sc a o h).2) fun a h => g.2 a (F1.dm a h)
    exact q v H' ω1 none ⟨by rw [bp_none, bp_none]; exact F2, w, rfl, by rw [bp_none]; exact rd⟩
  · exact (z x H' hx i (fun a o h => g.1 a o (F1.st a o h) (F1.sc a o h).1 (F1.sc a o h).2) fun a h => g.2 a (F1.dm a h)).sub fun a h => .inl h
theorem de_call (F : FnOk X.prog X.w X.K X.mg X.base (L2N.CX X.prog X.w) k f fd ps (spD G X.K φ)) (mf : MonoF φ) (hr : Room k X.A) (hg : Gl X x) (hm : X.mg x = some (.ref f)) (hk : PySem.W.keepIn X.K (.ref f) = true) (hb : Binds X.K fd ps []) (hx : Passes (L2N.CX X.prog X.w) X E)
    (ha : DA X G E (e :: es) τs) (hdb : (x == ("__debug__" : Str)) = false := by decide) (he : starEach (e :: es) X.env = (false, eval e X.env) :: starEach es X.env := by rfl) (hpl : (backTo pos (starEach es X.env)).any (·.1) = false := by rfl) :
    DE X G E (.Call (.Name x p) (e :: es) [] pos) (xCall φ τs) := by
  have m := mono_call mf ha.mono
  refine ⟨PE.imp (pe_call F hr hg hm hk hb .nil hx ha.pa hdb he hpl) fun σ H Q h => ?_, m⟩
  obtain ⟨S, T, B, A, ω, δ, Z, Fs, z, q⟩ := tD_to m h
  refine tA_of ha.mono Fs z q fun os δ' vs H' ω' Ps q ev => ?_
  obtain ⟨ds, e1, q⟩ := kpLK_some q
  show spD G X.K φ (vs ++ []) H' Q E
  rw [List.append_nil]
  exact call_core mf (ev.drop Fs) ev.ws z (ev.kp Fs e1) q
theorem de_call0 (F : FnOk X.prog X.w X.K X.mg X.base (L2N.CX X.prog X.w) k f fd ps (spD G X.K φ)) (mf : MonoF φ) (hr : Room k X.A) (hg : Gl X x) (hm : X.mg x = some (.ref f)) (hk : PySem.W.keepIn X.K (.ref f) = true) (hb : Binds X.K fd ps []) (hx : Passes (L2N.CX X.prog X.w) X E)
    (hdb : (x == ("__debug__" : Str)) = false := by decide) : DE X G E (.Call (.Name x p) [] [] pos) (xCall φ xNilA) := by
  have m := mono_call mf mono_nilA
  refine ⟨PE.imp (pe_call0 F hr hg hm hk hb .nil hx hdb) fun σ H Q h => ?_, m⟩
  obtain ⟨S, T, B, A, ω, δ, Z, Fs, z, q⟩ := tD_to m h
  have q : φ [] (fun d => tK G X.K S T B A ω σ Q (.v d) δ) Z := q
  show spD G X.K φ ([] ++ []) H Q E
  exact call_core (ds := []) (vs := []) mf Fs .refl z rfl q
end
/-! ### statements -/
structure DEnds where
  nx : Env → Prop
  rt : D → Prop
  bk : Env → Prop
  ct : Env → Prop
  ex : Ex → Prop
abbrev DSt := DEnds → Env → Prop
structure DEnds.Le (F F' : DEnds) : Prop where
  nx : ∀ δ, F.nx δ → F'.nx δ
  rt : ∀ d, F.rt d → F'.rt d
  bk : ∀ δ, F.bk δ → F'.bk δ
  ct : ∀ δ, F.ct δ → F'.ct δ
  ex : ∀ x, F.ex x → F'.ex x
theorem DEnds.Le.refl {F : DEnds} : F.Le F := ⟨fun _ h => h, fun _ h => h, fun _ h => h, fun _ h => h, fun _ h => h⟩
structure MonoS (τ : DSt) : Prop where
  m : ∀ (F F' : DEnds) (δ : Env), F.Le F' → τ F δ → τ F' δ
structure EndsOk (G : Amb) (K : PySem.W.Frag) (S : Addr → HO → Prop) (T B : Addr → Prop) (A : Nat → Option Addr) (F : DEnds) (D : Ends) : Prop where
  nx : ∀ δ' σ' H' ω', Fr G K S T B A ω' H' σ' δ' → F.nx δ' → D.nx σ' H'
  bk : ∀ δ' σ' H' ω', Fr G K S T B A ω' H' σ' δ' → F.bk δ' → D.bk σ' H'
  ct : ∀ δ' σ' H' ω', Fr G K S T B A ω' H' σ' δ' → F.ct δ' → D.ct σ' H'
  rt : ∀ d v H', G.inv H' → (∀ a o, S a o → H' a = some o) → (∀ a, T a → nT H' a) → Rep K H' B d v → F.rt d → D.rt v H'
def sD (G : Amb) (K : PySem.W.Frag) (E : XK) (τ : DSt) : TS := fun D σ H => ∃ S T B A ω δ F, Fr G K S T B A ω H σ δ ∧ EOk G K S T B F.ex E ∧ EndsOk G K S T B A F D ∧ τ F δ
structure DS (X : Cx) (G : Amb) (E : XK) (st : Stmt) (τ : DSt) : Prop where
  ps : PS X st (sD G X.K E τ)
  mono : MonoS τ
structure DSs (X : Cx) (G : Amb) (E : XK) (st : List Stmt) (τ : DSt) : Prop where
  ps : PSs X st (sD G X.K E τ)
  mono : MonoS τ
theorem PS.imp {X : Cx} {e : Stmt} {t t' : TS} (h : PS X e t) (i : ∀ D σ H, t' D σ H → t D σ H) : PS X e t' := ⟨fun pins s σ H D I q => h.run pins s σ H D I (i D σ H q)⟩
theorem PSs.imp {X : Cx} {e : List Stmt} {t t' : TS} (h : PSs X e t) (i : ∀ D σ H, t' D σ H → t D σ H) : PSs X e t' := ⟨fun pins s σ H D I q => h.run pins s σ H D I (i D σ H q)⟩
def xNext : DSt := fun F δ => F.nx δ
def xSeq (τ τ' : DSt) : DSt := fun F δ => τ { F with nx := τ' F } δ
def xDrop (τ : DT) : DSt := fun F δ => τ F.ex δ fun _ δ' => F.nx δ'
def xRet (τ : DT) : DSt := fun F δ => τ F.ex δ fun o _ => kpK o F.rt
def xRetN : DSt := fun F _ => F.rt .non
def xIf (θ : DTT) (τ τ' : DSt) : DSt := fun F δ => θ F.ex δ fun b δ' => if b = true then τ F δ' else τ' F δ'
def xBrk : DSt := fun F δ => F.bk δ
def xCnt : DSt := fun F δ => F.ct δ
def xRaise (x : Ex) : DSt := fun F _ => F.ex x
section
variable {X : Cx} {G : Amb} {E : XK} {st : Stmt} {sts : List Stmt} {e c : Expr} {τ τ' : DSt} {t : DT} {θ : DTT} {pos : Pos}
theorem mono_next : MonoS xNext := ⟨fun _ _ _ l q => l.nx _ q⟩
theorem mono_seq (m : MonoS τ) (m' : MonoS τ') : MonoS (xSeq τ τ') := ⟨fun F F' δ l q => m.m { F with nx := τ' F } { F' with nx := τ' F' } δ ⟨fun δ q => m'.m F F' δ l q, l.rt, l.bk, l.ct, l.ex⟩ q⟩
theorem mono_drop (m : Mono t) : MonoS (xDrop t) := ⟨fun _ _ _ l q => m.m _ _ _ _ _ l.ex (fun _ _ q => l.nx _ q) q⟩
theorem mono_ret (m : Mono t) : MonoS (xRet t) := ⟨fun _ _ _ l q => m.m _ _ _ _ _ l.ex (fun _ _ q => kpK_mono l.rt q) q⟩
theorem mono_retN : MonoS xRetN := ⟨fun _ _ _ l q => l.rt _ q⟩
theorem mono_if (mt : MonoT θ) (m : MonoS τ) (m' : MonoS τ') : MonoS (xIf θ τ τ') := ⟨fun _ _ _ l q => mt.m _ _ _ _ _ l.ex (fun b _ q => by
  cases b with
  | true => exact m.m _ _ _ l q
  | false => exact m'.m _ _ _ l q) q⟩
theorem mono_brk : MonoS xBrk := ⟨fun _ _ _ l q => l.bk _ q⟩
theorem mono_cnt : MonoS xCnt := ⟨fun _ _ _ l q => l.ct _ q⟩
theorem mono_raise {x : Ex} : MonoS (xRaise x) := ⟨fun _ _ _ l q => l.ex _ q⟩
theorem sD_of {S : Addr → HO → Prop} {T B : Addr → Prop} {A : Nat → Option Addr} {ω : List (Option Addr)} {H : Hp} {σ : St} {δ : Env} {F : DEnds} {D : Ends} {K : PySem.W.Frag} (Fs : Fr G K S T B A ω H σ δ) (z : EOk G K S T B F.ex E) (en : EndsOk G K S T B A F D) (q : τ F δ) : sD G K E τ D σ H :=
  ⟨S, T, B, A, ω, δ, F, Fs, z, en, q⟩
theorem dss_nil : DSs X G E [] xNext := ⟨PSs.imp pss_nil fun D σ H h => by
  obtain ⟨S, T, B, A, ω, δ, F, Fs, z, en, q⟩ := h
  exact en.nx _ _ _ _ Fs q, mono_next⟩
theorem dss_one (h : DS X G E st τ) : DSs X G E [st] τ := ⟨pss_one h.ps, h.mono⟩
theorem dss_cons (h : DS X G E st τ) (h' : DSs X G E sts τ') : DSs X G E (st :: sts) (xSeq τ τ') := ⟨PSs.imp (pss_cons h.ps h'.ps) fun D σ H q => by
  obtain ⟨S, T, B, A, ω, δ, F, Fs, z, en, q⟩ := q
  exact sD_of (F := { F with nx := τ' F }) Fs z ⟨fun δ' σ' H' ω' f q => sD_of f z en q, en.bk, en.ct, en.rt⟩ q, mono_seq h.mono h'.mono⟩
theorem ds_pass : DS X G E (.Pass pos) xNext := ⟨PS.imp ps_pass fun D σ H h => by
  obtain ⟨S, T, B, A, ω, δ, F, Fs, z, en, q⟩ := h
  exact en.nx _ _ _ _ Fs q, mono_next⟩
theorem ds_brk : DS X G E (.Break pos) xBrk := ⟨PS.imp ps_break fun D σ H h => by
  obtain ⟨S, T, B, A, ω, δ, F, Fs, z, en, q⟩ := h
  exact en.bk _ _ _ _ Fs q, mono_brk⟩
theorem ds_cnt : DS X G E (.Continue pos) xCnt := ⟨PS.imp ps_continue fun D σ H h => by
  obtain ⟨S, T, B, A, ω, δ, F, Fs, z, en, q⟩ := h
  exact en.ct _ _ _ _ Fs q, mono_cnt⟩
theorem ds_expr (he : DE X G E e t) (hs : swapsWith e none pos.line X.env = pure false := by rfl) : DS X G E (.Expr e pos) (xDrop t) := ⟨PS.imp (ps_expr he.pe hs) fun D σ H h => by
  obtain ⟨S, T, B, A, ω, δ, F, Fs, z, en, q⟩ := h
  exact tD_of Fs z (he.mono.m _ _ _ _ _ (fun _ z => z) (fun o δ' q v H' ω' P ev => en.nx _ _ _ _ (ev.drop Fs) q) q) he.mono, mono_drop he.mono⟩
theorem ds_ret (he : DE X G E e t) : DS X G E (.Return (some e) pos) (xRet t) := ⟨PS.imp (ps_ret he.pe) fun D σ H h => by
  obtain ⟨S, T, B, A, ω, δ, F, Fs, z, en, q⟩ := h
  refine tD_of Fs z (he.mono.m _ _ _ _ _ (fun _ z => z) (fun o δ' q v H' ω' P ev => ?_) q) he.mono
  obtain ⟨d, e1, q⟩ := kpK_some q
  have f := ev.drop Fs
  exact en.rt d v H' f.inv f.st f.dm (Rep.carry (Carry.sub fun a h => .inl h) (ev.kp Fs e1)) q, mono_ret he.mono⟩
theorem ds_retN : DS X G E (.Return none pos) xRetN := ⟨PS.imp ps_retN fun D σ H h => by
  obtain ⟨S, T, B, A, ω, δ, F, Fs, z, en, q⟩ := h
  exact en.rt .non .non H Fs.inv Fs.st Fs.dm rfl q, mono_retN⟩
theorem ds_if {a b : List Stmt} (hc : DB X G E c θ) (ha : DSs X G E a τ) (hb : DSs X G E b τ') : DS X G E (.If c a b pos) (xIf θ τ τ') := ⟨PS.imp (ps_if hc.pt ha.ps hb.ps) fun D σ H h => by
  obtain ⟨S, T, B, A, ω, δ, F, Fs, z, en, q⟩ := h
  refine tT_of hc.mono Fs z q fun b δ' H' ω' q f w => ?_
  cases b with
  | true => exact sD_of f z en q
  | false => exact sD_of f z en q, mono_if hc.mono ha.mono hb.mono⟩
/-- raise X(), X an own class without fields -/
theorem pmk_own0 {C : Addr} {bmB : List Value} {B newId initId : String} {x : Str} {p : Pos} (F : ExcBaseFacts B newId initId bmB) (q : PySem.W.excIn X.K C bmB newId = true) (gC : X.mg x = some (.ref C)) (kC : PySem.W.keepIn X.K (.ref C) = true) (r : Raises X (.ref C)) (hg : Gl X x)
    (hdb : (x == ("__debug__" : Str)) = false := by decide) : L2N.PMk X (.Call (.Name x p) [] [] pos) (fun _ H Q => Q (.ref C) none H) := by
  intro pins s σ H Q I h
  refine wpAny_Call_Name_kw (ld_glob I hg gC ?_ hdb)
  refine PySem.W.callWith_K0 I.kIn kC ?_
  show wpAny _ _ (call (.ref C) []) _ _ _
  obtain ⟨bm, N, nm, qn, bs, hdct, sn, sub, ab, col, dd, k0, k1, k2, k3, k5, mN, hC, hN, hni, T⟩ := exc_obj I.kIn q
  refine wpAny_call_exc_subT F T hC hN hni (fun h' e hm => ?_) (by show 0 ≤ sizeLine; omega)
  exact L2N.mk_of I hm r h (I.hok.gone hm.new)
theorem ds_raise {C : Addr} {x : Str} {p : Pos} (hc : X.calm = true) (tk : L2N.Takes X (fun cls d _ H => E cls d H)) (q : PySem.W.excIn X.K C [.type "ValueError", .type "Exception", .type "BaseException", .type "object"] "ValueError.__new__" = true) (gC : X.mg x = some (.ref C)) (kC : PySem.W.keepIn X.K (.ref C) = true)
    (h1 : PySem.W.subIn X.K (.ref C) (.type "BaseException") = some true) (h2 : PySem.W.typeIn X.K (.ref C) = some (.type "type")) (hg : Gl X x) (hdb : (x == ("__debug__" : Str)) = false := by decide) {pos2 : Pos} :
    DS X G E (.Raise (some (.Call (.Name x p) [] [] pos)) none pos2) (xRaise ⟨C, none⟩) := ⟨PS.imp (L2N.ps_raise hc tk (pmk_own0 PySem.F.excBase_ValueError q gC kC (raises_own h1 h2) hg hdb)) fun D σ H h => by
  obtain ⟨S, T, B, A, ω, δ, F, Fs, z, en, q⟩ := h
  exact z _ H q Fs.inv Fs.st Fs.dm, mono_raise⟩
end
/-! ### targets -/
abbrev DTg := Op → Env → (Env → Prop) → Prop
structure MonoG (γ : DTg) : Prop where
  m : ∀ (o : Op) (δ : Env) (Q Q' : Env → Prop), (∀ δ', Q δ' → Q' δ') → γ o δ Q → γ o δ Q'
structure Stat (G : Amb) (S : Addr → HO → Prop) (T B : Addr → Prop) (A : Nat → Option Addr) : Prop where
  cb : ∀ a, G.C a → B a
  bt : ∀ a, B a → T a
  sT : ∀ a o, S a o → T a
  sc : ∀ a o, S a o → ¬ G.C a ∧ NT o
  al : ∀ i a, A i = some a → B a
/-- the slots but these are as they were; nothing else is ours that was not -/
def SameBut (is : List Nat) (σ σ' : St) (ω ω' : List (Option Addr)) : Prop := σ'.length = σ.length ∧ (∀ j, j ∉ is → σ'[j]? = σ[j]?) ∧ ∀ (j : Nat) a, j ∉ is → ω'[j]? = some (some a) → ω[j]? = some (some a)
theorem SameBut.refl {is : List Nat} {σ : St} {ω : List (Option Addr)} : SameBut is σ σ ω ω := ⟨rfl, fun _ _ => rfl, fun _ _ _ h => h⟩
theorem SameBut.ws {is : List Nat} {σ : St} {ω ω' : List (Option Addr)} (w : WSub ω' ω) : SameBut is σ σ ω ω' := ⟨rfl, fun _ _ => rfl, fun j a _ h => w j a h⟩
theorem SameBut.trans {is js : List Nat} {σ σ1 σ2 : St} {ω ω1 ω2 : List (Option Addr)} (a : SameBut is σ σ1 ω ω1) (b : SameBut js σ1 σ2 ω1 ω2) : SameBut (is ++ js) σ σ2 ω ω2 :=
  ⟨b.1.trans a.1, fun j h => (b.2.1 j fun z => h (List.mem_append_right _ z)).trans (a.2.1 j fun z => h (List.mem_append_left _ z)), fun j x h e => a.2.2 j x (fun z => h (List.mem_append_left _ z)) (b.2.2 j x (fun z => h (List.mem_append_right _ z)) e)⟩
def tG (G : Amb) (K : PySem.W.Frag) (is : List Nat) (γ : DTg) : TG := fun v σ H Q => ∃ S T B A ω δ P o, Stat G S T B A ∧ Fr G K S (Bp T P) (Bp B P) A ω H σ δ ∧ ROp K T H (Ow (Bp B P) ω) σ P o v ∧ γ o δ fun δ' => ∀ σ' H' ω', Fr G K S T B A ω' H' σ' δ' → SameBut is σ σ' ω ω' → Q σ' H'
structure DG (X : Cx) (G : Amb) (tg : Expr) (is : List Nat) (γ : DTg) : Prop where
  pg : PG X tg (tG G X.K is γ)
  mono : MonoG γ
def xName (i : Nat) : DTg := fun o δ Q => match o with
  | .v d => Q (δ.set i (.val d))
  | .n ds => Q (δ.set i (.own ds))
  | .nd ds => Q (δ.set i (.ownD ds))
  | .nt ds => Q (δ.set i (.ownT ds))
  | .b _ => False
abbrev DTgs := List Op → Env → (Env → Prop) → Prop
/-- (a, b, ..) = a tuple -/
def gsE : List DTg → List D → Env → (Env → Prop) → Prop
  | [], [], δ, Q => Q δ
  | γ :: γs, d :: ds, δ, Q => γ (.v d) δ fun δ' => gsE γs ds δ' Q
  | _, _, _, _ => False
def xTupG (γs : List DTg) : DTg := fun o δ Q => match o with
  | .v (.tup ds) => ds.length = γs.length ∧ gsE γs ds δ Q
  | _ => False
theorem Fr.stat {G : Amb} {K : PySem.W.Frag} {S : Addr → HO → Prop} {T B : Addr → Prop} {A : Nat → Option Addr} {ω : List (Option Addr)} {H : Hp} {σ : St} {δ : Env} (F : Fr G K S T B A ω H σ δ) : Stat G S T B A := ⟨F.cb, F.bt, F.sT, F.sc, F.al⟩
section
variable {X : Cx} {G : Amb} {E : XK} {pos : Pos} {γ : DTg} {K : PySem.W.Frag} {S : Addr → HO → Prop} {T B : Addr → Prop} {A : Nat → Option Addr} {ω : List (Option Addr)} {H : Hp} {σ : St} {δ : Env} {P : Option Addr} {o : Op} {v : V}
theorem mono_name {i : Nat} : MonoG (xName i) := ⟨fun o δ Q Q' h q => by cases o <;> first | exact h _ q | exact q⟩
theorem set_get {α : Type} {l : List α} {i j : Nat} {x y : α} (h : (l.set i x)[j]? = some y) : (j = i ∧ y = x ∧ i < l.length) ∨ (j ≠ i ∧ l[j]? = some y) := by
  by_cases hj : j = i
  · subst hj
    have hl : j < l.length := by
      have := (List.getElem?_eq_some_iff.mp h).1
      rwa [List.length_set] at this
    rw [List.getElem?_set_self hl] at h; cases h
    exact .inl ⟨rfl, rfl, hl⟩
  · rw [List.getElem?_set_ne (Ne.symm hj)] at h
    exact .inr ⟨hj, h⟩
/-- a slot is stored -/
theorem Fr.put {i : Nat} {s : Sl} {w : Option Addr} (St : Stat G S T B A) (F : Fr G K S (Bp T P) (Bp B P) A ω H σ δ) (hw : ∀ a, w = some a → P = some a ∧ ¬ T a ∧ ∃ o, H a = some o ∧ Mu o)
    (hs : i < δ.length → SlOk K S A H (Ow B (ω.set i w)) i (some (some v)) (some w) s) : Fr G K S T B A (ω.set i w) H (σ.set i (some v)) (δ.set i s) := by
  have sub : ∀ a, Ow B (ω.set i w) a → Ow (Bp B P) ω a := fun a h => by
    rcases h with h | ⟨j, h⟩
    · exact .inl (.inl h)
    · rcases set_get h with ⟨_, e, _⟩ | ⟨_, h⟩
      · exact .inl (.inr (hw a e.symm).1)
      · exact .inr ⟨j, h⟩
  refine ⟨F.inv, St.cb, St.bt, St.sT, St.sc, St.al, fun a h => F.bm a (.inl h), fun a h => F.dm a (.inl h), F.st, fun j a h => ?_, fun j k a h1 h2 => ?_, fun j a h => ?_, by rw [List.length_set, List.length_set]; exact F.len, by rw [List.length_set, List.length_set]; exact F.lw, fun j u h => ?_⟩
  · rcases set_get h with ⟨_, e, _⟩ | ⟨_, h⟩
    · obtain ⟨_, n, _⟩ := hw a e.symm
      exact ⟨fun z => n (St.bt a z), fun o z => n (St.sT a o z)⟩
    · exact ⟨fun z => (F.sw j a h).1 (.inl z), (F.sw j a h).2⟩
  · rcases set_get h1 with ⟨e1, e, _⟩ | ⟨n1, h1⟩
    · rcases set_get h2 with ⟨e2, _, _⟩ | ⟨n2, h2⟩
      · rw [e1, e2]
      · exact ((F.sw k a h2).1 (.inr (hw a e.symm).1)).elim
    · rcases set_get h2 with ⟨e2, e, _⟩ | ⟨n2, h2⟩
      · exact ((F.sw j a h1).1 (.inr (hw a e.symm).1)).elim
      · exact F.inj j k a h1 h2
  · rcases set_get h with ⟨_, e, _⟩ | ⟨_, h⟩
    · exact (hw a e.symm).2.2
    · exact F.wm j a h
  · rcases set_get h with ⟨rfl, rfl, hl⟩ | ⟨hn, h⟩
    · have h1 : j < σ.length := by rw [F.len]; exact hl
      have h2 : j < ω.length := by rw [F.lw]; exact hl
      rw [List.getElem?_set_self h1, List.getElem?_set_self h2]
      exact hs hl
    · rw [List.getElem?_set_ne (Ne.symm hn), List.getElem?_set_ne (Ne.symm hn)]
      exact (F.slot j u h).carry (Carry.sub sub) (fun _ _ z => z) fun _ _ _ z _ => z
theorem ow_put {i : Nat} {w : Option Addr} (hw : ∀ a, w = some a → P = some a) : ∀ a, Ow B (ω.set i w) a → Ow (Bp B P) ω a := fun a h => by
  rcases h with h | ⟨j, h⟩
  · exact .inl (.inl h)
  · rcases set_get h with ⟨_, e, _⟩ | ⟨_, h⟩
    · exact .inl (.inr (hw a e.symm))
    · exact .inr ⟨j, h⟩
theorem Fr.putOp {i : Nat} {Q : Env → Prop} (St : Stat G S T B A) (F : Fr G K S (Bp T P) (Bp B P) A ω H σ δ) (r : ROp K T H (Ow (Bp B P) ω) σ P o v) (q : xName i o δ Q) : ∃ ω' δ', Fr G K S T B A ω' H (σ.set i (some v)) δ' ∧ SameBut [i] σ (σ.set i (some v)) ω ω' ∧ Q δ' := by
  have sb : ∀ w, SameBut [i] σ (σ.set i (some v)) ω (ω.set i w) := fun w => ⟨List.length_set, fun j h => by rw [List.getElem?_set_ne]; simpa [eq_comm] using h, fun j a h e => by rw [List.getElem?_set_ne] at e; exact e; simpa [eq_comm] using h⟩
  cases o with
  | v d =>
    obtain ⟨rfl, r⟩ := r
    exact ⟨_, _, F.put (s := .val d) (w := none) St (fun a h => by cases h) (fun _ => ⟨rfl, v, rfl, Rep.carry (Carry.sub (ow_put fun a h => by cases h)) r⟩), sb _, q⟩
  | b j => exact q.elim
  | n ds =>
    obtain ⟨p, vs, rfl, rfl, n, e, r⟩ := r
    exact ⟨_, _, F.put (s := .own ds) (w := some p) St (fun a h => by cases h; exact ⟨rfl, n, _, e, trivial⟩) (fun _ => ⟨p, vs, rfl, rfl, e, RepL.carry (Carry.sub (ow_put fun a h => h)) r⟩), sb _, q⟩
  | nd ds =>
    obtain ⟨p, vs, rfl, rfl, n, e, r⟩ := r
    exact ⟨_, _, F.put (s := .ownD ds) (w := some p) St (fun a h => by cases h; exact ⟨rfl, n, _, e, trivial⟩) (fun _ => ⟨p, vs, rfl, rfl, e, RepK.carry (Carry.sub (ow_put fun a h => h)) r⟩), sb _, q⟩
  | nt ds =>
    obtain ⟨p, vs, rfl, rfl, n, e, r⟩ := r
    exact ⟨_, _, F.put (s := .ownT ds) (w := some p) St (fun a h => by cases h; exact ⟨rfl, n, _, e, trivial⟩) (fun _ => ⟨p, vs, rfl, rfl, e, RepT.carry (Carry.sub (ow_put fun a h => h)) r⟩), sb _, q⟩
theorem PG.imp {X : Cx} {e : Expr} {t t' : TG} (h : PG X e t) (i : ∀ v σ H Q, t' v σ H Q → t v σ H Q) : PG X e t' := ⟨fun pins s σ H v u Q I r q => h.run pins s σ H v u Q I r (i v σ H Q q)⟩
theorem dg_name {i : Nat} {x : Str} (hN : X.N.Nodup) (hi : X.N[i]? = some x) (hx : Loc X.env.scope x) (hf : X.fn x = true ∨ X.env.scope.names.lookup x = some .local := by first | exact .inl rfl | exact .inr rfl | assumption) : DG X G (.Name x pos) [i] (xName i) := ⟨PG.imp (pg_name hN hi hx hf) fun v σ H Q h => by
  obtain ⟨S, T, B, A, ω, δ, P, o, St, F, r, q⟩ := h
  obtain ⟨ω', δ', F', sb, q⟩ := F.putOp St r q
  exact q _ _ _ F' sb, mono_name⟩
/-- name = value -/
def xAsg (t : DT) (γ : DTg) : DSt := fun F δ => t F.ex δ fun o δ' => γ o δ' F.nx
theorem mono_asg {t : DT} (m : Mono t) (mg : MonoG γ) : MonoS (xAsg t γ) := ⟨fun _ _ _ l q => m.m _ _ _ _ _ l.ex (fun _ _ q => mg.m _ _ _ _ l.nx q) q⟩
theorem ds_asg {tg e : Expr} {t : DT} {is : List Nat} (he : DE X G E e t) (hg : DG X G tg is γ) (hs : swapsWithSole [tg] e pos.line X.env = pure false := by rfl) (hw : swappedStores [tg] e X.env = pure none := by rfl)
    (h1 : (assignEach [tg] X.env).map (·.2) = [assign tg X.env] := by rfl) : DS X G E (.Assign [tg] e pos) (xAsg t γ) := ⟨PS.imp (ps_asg he.pe hg.pg hs hw h1) fun D σ H h => by
  obtain ⟨S, T, B, A, ω, δ, F, Fs, z, en, q⟩ := h
  refine tD_of Fs z (he.mono.m _ _ _ _ _ (fun _ z => z) (fun o δ' q v H' ω' P ev => ?_) q) he.mono
  exact ⟨S, T, B, A, ω', δ', P, o, Fs.stat, ev.fr, ev.rp, hg.mono.m _ _ _ _ (fun δ2 q σ2 H2 ω2 f _ => en.nx _ _ _ _ f q) q⟩, mono_asg he.mono hg.mono⟩
theorem ds_set {i : Nat} {x : Str} {e : Expr} {t : DT} {pos' : Pos} (hN : X.N.Nodup) (hi : X.N[i]? = some x) (hx : Loc X.env.scope x) (he : DE X G E e t) (hs : swapsWith e (some (.Name x pos')) pos.line X.env = pure false := by rfl) (hf : X.fn x = true ∨ X.env.scope.names.lookup x = some .local := by first | exact .inl rfl | exact .inr rfl | assumption) :
    DS X G E (.Assign [.Name x pos'] e pos) (xAsg t (xName i)) := ⟨PS.imp (ps_set hN hi hx he.pe hs hf) fun D σ H h => by
  obtain ⟨S, T, B, A, ω, δ, F, Fs, z, en, q⟩ := h
  refine tD_of Fs z (he.mono.m _ _ _ _ _ (fun _ z => z) (fun o δ' q v H' ω' P ev => ?_) q) he.mono
  obtain ⟨ω2, δ2, F2, _, q⟩ := ev.fr.putOp Fs.stat ev.rp q
  exact en.nx _ _ _ _ F2 q, mono_asg he.mono mono_name⟩
structure DGs (X : Cx) (G : Amb) (tgs : List Expr) (is : List Nat) (γs : List DTg) : Prop where
  pg : PGs X tgs fun vs σ H Q => ∃ S T B A ω δ ds Hz Oz, Fr G X.K S T B A ω H σ δ ∧ RepL X.K Hz Oz ds vs ∧ OM Oz Hz ∧ (∀ a o, Hz a = some o → NT o → ¬ Oz a → S a o) ∧ (∀ a, B a → Oz a ∨ ¬ nT Hz a) ∧ gsE γs ds δ fun δ' => ∀ σ' H' ω', Fr G X.K S T B A ω' H' σ' δ' → SameBut is σ σ' ω ω' → Q σ' H'
  mono : ∀ γ ∈ γs, MonoG γ
theorem gsE_mono {γs : List DTg} (m : ∀ γ ∈ γs, MonoG γ) : ∀ {ds : List D} {δ : Env} {Q Q' : Env → Prop}, (∀ δ', Q δ' → Q' δ') → gsE γs ds δ Q → gsE γs ds δ Q' := by
  induction γs with
  | nil => intro ds δ Q Q' h q; cases ds <;> first | exact h _ q | exact q
  | cons γ γs ih =>
    intro ds δ Q Q' h q
    cases ds with
    | nil => exact q
    | cons d ds => exact (m γ List.mem_cons_self).m _ _ _ _ (fun δ' q => ih (fun γ hg => m γ (List.mem_cons_of_mem _ hg)) h q) q
theorem PGs.imp {X : Cx} {e : List Expr} {t t' : TGs} (h : PGs X e t) (i : ∀ v σ H Q, t' v σ H Q → t v σ H Q) : PGs X e t' := ⟨fun pins s σ H v u Q I r q => h.run pins s σ H v u Q I r (i v σ H Q q)⟩
theorem dgs_nil : DGs X G [] [] [] := ⟨PGs.imp pgs_nil fun vs σ H Q h => by
  obtain ⟨S, T, B, A, ω, δ, ds, Hz, Oz, F, r, om, hp, hb, q⟩ := h
  cases ds with
  | nil => cases r; exact ⟨rfl, q _ _ _ F .refl⟩
  | cons d ds => exact q.elim, fun _ h => by cases h⟩
theorem dgs_cons {e : Expr} {es : List Expr} {is js : List Nat} {γs : List DTg} (h : DG X G e is γ) (hs : DGs X G es js γs) (hq : (assignEach (e :: es) X.env).map (·.2) = assign e X.env :: (assignEach es X.env).map (·.2) := by rfl) : DGs X G (e :: es) (is ++ js) (γ :: γs) := ⟨PGs.imp (pgs_cons h.pg hs.pg hq) fun vs σ H Q h' => by
  obtain ⟨S, T, B, A, ω, δ, ds, Hz, Oz, F, r, om, hp, hb, q⟩ := h'
  cases ds with
  | nil => exact q.elim
  | cons d ds =>
    obtain ⟨v, vr, rfl, r1, r2⟩ := r
    have c : Carry X.K Hz H Oz (Ow B ω) := pin_carry (S' := S) hp om F hb
    refine ⟨v, vr, rfl, S, T, B, A, ω, δ, none, .v d, F.stat, by rw [bp_none, bp_none]; exact F, ⟨rfl, by rw [bp_none]; exact Rep.carry c r1⟩, h.mono.m _ _ _ _ (fun δ' q σ' H' ω' f sb => ?_) q⟩
    exact ⟨S, T, B, A, ω', δ', ds, Hz, Oz, f, r2, om, hp, hb, gsE_mono hs.mono (fun δ2 q σ2 H2 ω2 f2 sb2 => q σ2 H2 ω2 f2 (sb.trans sb2)) q⟩, fun γ' h' => by
  rcases List.mem_cons.mp h' with rfl | h'
  · exact h.mono
  · exact hs.mono γ' h'⟩
/-- all that is not ours is asked to stay -/
theorem Fr.pin (F : Fr G K S T B A ω H σ δ) : Fr G K (nS S H B none ω) (nT H) B A ω H σ δ := by
  have e : Ev G K S T B A ω H σ δ ω none (.v .non) .non := ⟨by rw [bp_none, bp_none]; exact F, .refl, rfl, rfl⟩
  have q := e.go F
  rw [bp_none] at q
  exact q
theorem Fr.unpin {ω2 : List (Option Addr)} {H2 : Hp} {σ2 : St} {δ2 : Env} (F : Fr G K S T B A ω H σ δ) (F2 : Fr G K (nS S H B none ω) (nT H) B A ω2 H2 σ2 δ2) : Fr G K S T B A ω2 H2 σ2 δ2 :=
  F2.less (fun _ _ h => .inl h) (fun a h => F.dm a h) (fun _ h => h) F.cb F.bt F.sT F.al fun a o h ⟨i, q⟩ => by
    rcases h with h | ⟨h, n, h' | h'⟩
    · exact h
    · exact (h' (by rw [bp_none]; exact .inl (F.al i a q))).elim
    · cases h'
theorem pin_all {a : Addr} {u : HO} (h : H a = some u) (n : NT u) (m : ¬ Ow B ω a) : nS S H B none ω a u := .inr ⟨h, n, .inl (by rw [bp_none]; exact m)⟩
theorem mono_tupG {γs : List DTg} (m : ∀ γ ∈ γs, MonoG γ) : MonoG (xTupG γs) := ⟨fun o δ Q Q' h q => by
  cases o with
  | v d => cases d <;> first | exact ⟨q.1, gsE_mono m h q.2⟩ | exact q
  | _ => exact q⟩
theorem dg_tup {es : List Expr} {k n : Nat} {is : List Nat} {γs : List DTg} (hc : X.calm = true) (h : DGs X G es is γs) (hl : γs.length = n := by rfl)
    (hn : (assignEach es X.env).length = n := by rfl) (hst : (assignEach es X.env).findIdx? (·.1) = none := by rfl) : DG X G (.Tuple es k pos) is (xTupG γs) := ⟨PG.imp (pg_tup hc h.pg hn hst) fun v σ H Q h' => by
  obtain ⟨S, T, B, A, ω, δ, P, o, St, F, r, q⟩ := h'
  cases o with
  | v d =>
    cases d with
    | tup ds =>
      obtain ⟨rfl, a, vs, rfl, hq, r⟩ := r
      rw [bp_none] at F r
      rw [bp_none] at F
      exact ⟨a, vs, rfl, hq, by rw [← r.length, q.1, hl], nS S H B none ω, nT H, B, A, ω, δ, ds, H, Ow B ω, F.pin, r, F.om, fun a o h n m => pin_all h n m, fun a h => .inl (.inl h), gsE_mono h.mono (fun δ' q σ' H' ω' f sb => q σ' H' ω' (F.unpin f) sb) q.2⟩
    | _ => exact q.elim
  | _ => exact q.elim, mono_tupG h.mono⟩
end
end DL

set_option Elab.async false
set_option linter.all false
set_option maxRecDepth 100000
namespace DL
open PySem L2
/-! ### what is ours is changed -/
section
variable {G : Amb} {K : PySem.W.Frag} {S : Addr → HO → Prop} {T B : Addr → Prop} {A : Nat → Option Addr} {ω ω1 ω2 : List (Option Addr)} {H H1 H2 : Hp} {σ : St} {δ δ1 δ2 : Env}
theorem Carry.own {O : Addr → Prop} {l : Addr} {o o' : HO} (hl : O l) (h : H l = some o) (m : Mu o) : Carry K H (upd H l o') O O :=
  Carry.keep (P := fun a => a = l) (fun a u e n _ => by rw [upd_ne n]; exact e) (fun a e => by rw [e]; exact hl) fun a e => ⟨o, by rw [e]; exact h, m⟩
theorem Fr.write (F : Fr G K S T B A ω H σ δ) {i : Nat} {l : Addr} {o o' : HO} {s : Sl} (e : ω[i]? = some (some l)) (h : H l = some o) (m : Mu o) (m' : Mu o') (hs : SlOk K S A (upd H l o') (Ow B ω) i (σ[i]?) (some (some l)) s) : Fr G K S T B A ω (upd H l o') σ (δ.set i s) := by
  have c : Carry K H (upd H l o') (Ow B ω) (Ow B ω) := Carry.own (.inr ⟨i, e⟩) h m
  have nb := F.sw i l e
  refine ⟨G.wr H l o o' F.inv (fun z => nb.1 (F.cb l z)) h m m', F.cb, F.bt, F.sT, F.sc, F.al, fun a ha => ?_, fun a ha => ?_, fun a u hu => ?_, F.sw, F.inj, fun j a ha => ?_, by rw [List.length_set]; exact F.len, by rw [List.length_set]; exact F.lw, fun j u hu => ?_⟩
  · obtain ⟨w, e1, e2⟩ := F.bm a ha
    exact ⟨w, by rw [upd_ne fun z => nb.1 (by rw [← z]; exact ha)]; exact e1, e2⟩
  · by_cases z : a = l
    · rw [z]; exact ⟨o', upd_same, nt_mu m'⟩
    · obtain ⟨u, e, n⟩ := F.dm a ha
      exact ⟨u, by rw [upd_ne z]; exact e, n⟩
  · rw [upd_ne fun z => nb.2 u (by rw [← z]; exact hu)]; exact F.st a u hu
  · by_cases z : a = l
    · rw [z]; exact ⟨o', upd_same, m'⟩
    · rw [upd_ne z]; exact F.wm j a ha
  · rcases set_get hu with ⟨rfl, rfl, _⟩ | ⟨hn, hu⟩
    · rw [e]; exact hs
    · refine (F.slot j u hu).carry c (fun _ _ z => z) fun a w hw ha _ => ?_
      rw [upd_ne fun z => ?_]
      · exact ha
      · rw [z] at hw; exact hn (F.inj j i l hw e)
end
/-- a method that changes a list of ours: by its items and the arguments, what it gives and leaves -/
abbrev DM := List D → List D → (D → List D → Prop) → Prop
structure MtD (X : Cx) (id : String) (ρ : DM) : Prop where
  ok : ∃ r, MtR X id r ∧ ∀ {H : Hp} {O : Addr → Prop} {l : Addr} {xs : List V} {ds as : List D} {vs : List V} {P : D → List D → Prop} {Q : VK}, H l = some (.lst xs) → RepL X.K H O ds xs → RepL X.K H O as vs → ρ ds as P →
    (∀ d v ds' xs', P d ds' → Rep X.K H O d v → RepL X.K H O ds' xs' → Q v (upd H l (.lst xs'))) → r (.ref l) vs H Q
  mono : ∀ ds as (P P' : D → List D → Prop), (∀ d ds', P d ds' → P' d ds') → ρ ds as P → ρ ds as P'
def ownK (i : Nat) (δ : Env) (k : List D → Prop) : Prop := match δ[i]? with
  | some (.own ds) => k ds
  | _ => False
theorem ownK_mono {i : Nat} {δ : Env} {k k' : List D → Prop} (h : ∀ ds, k ds → k' ds) (q : ownK i δ k) : ownK i δ k' := by
  unfold ownK at q ⊢
  split at q
  · exact h _ q
  · exact q
theorem ownK_some {i : Nat} {δ : Env} {k : List D → Prop} (q : ownK i δ k) : ∃ ds, δ[i]? = some (.own ds) ∧ k ds := by
  unfold ownK at q
  split at q
  · rename_i ds e; exact ⟨ds, e, q⟩
  · exact q.elim
def xMt (i : Nat) (ρ : DM) (τs : DTA) : DT := fun Z δ Q => ownK i δ fun _ => τs Z δ fun os δ1 => kpLK os fun as => ownK i δ1 fun ds => ρ ds as fun d ds' => Q (.v d) (δ1.set i (.own ds'))
section
variable {X : Cx} {G : Amb} {E : XK} {e : Expr} {es : List Expr} {τs : DTA} {ρ : DM} {id : String} {i : Nat} {x name : Str} {pos apos cpos npos : Pos}
theorem mono_mt (h : ∀ ds as (P P' : D → List D → Prop), (∀ d ds', P d ds' → P' d ds') → ρ ds as P → ρ ds as P') (m : MonoA τs) : Mono (xMt i ρ τs) := ⟨fun _ _ _ _ _ hz hq q =>
  ownK_mono (fun _ q => m.m _ _ _ _ _ hz (fun _ _ q => kpLK_mono (fun _ q => ownK_mono (fun _ q => h _ _ _ _ (fun _ _ q => hq _ _ q) q) q) q) q) q⟩
theorem mt_core {r : V → List V → Hp → VK → Prop} (hm : MtD X id ρ) (hv : ∀ {H : Hp} {O : Addr → Prop} {l : Addr} {xs : List V} {ds as : List D} {vs : List V} {P : D → List D → Prop} {Q : VK}, H l = some (.lst xs) → RepL X.K H O ds xs → RepL X.K H O as vs → ρ ds as P →
    (∀ d v ds' xs', P d ds' → Rep X.K H O d v → RepL X.K H O ds' xs' → Q v (upd H l (.lst xs'))) → r (.ref l) vs H Q) (ms : MonoA τs)
    {S : Addr → HO → Prop} {T B : Addr → Prop} {A : Nat → Option Addr} {ω : List (Option Addr)} {H : Hp} {σ : St} {δ : Env} {Z : Ex → Prop} {Q : VK} (F : Fr G X.K S T B A ω H σ δ) (z : EOk G X.K S T B Z E) (q : xMt i ρ τs Z δ (tK G X.K S T B A ω σ Q)) :
    tVar i σ H fun v H1 => tyV X.K "list" v H1 ∧ tA G X.K E τs σ H1 fun vs H2 => r v vs H2 Q := by
  obtain ⟨ds0, e0, q⟩ := ownK_some q
  obtain ⟨l, xs0, _, e2, e3, _⟩ := F.slot i _ e0
  refine ⟨_, e2, .inl ⟨rfl, xs0, SqL.of e3⟩, tA_of ms F z q fun os δ1 vs H2 ω2 Ps q ev => ?_⟩
  obtain ⟨as, ea, q⟩ := kpLK_some q
  obtain ⟨ds, ed, q⟩ := ownK_some q
  have F2 := ev.drop F
  have ra := ev.kp F ea
  obtain ⟨l', xs, w1, w2, w3, w4⟩ := F2.slot i _ ed
  rw [e2] at w2; cases w2
  refine hv w3 w4 ra q fun d v ds' xs' k r1 r2 => ?_
  have c : Carry X.K H2 (upd H2 l (.lst xs')) (Ow B ω2) (Ow B ω2) := Carry.own (.inr ⟨i, w1⟩) w3 trivial
  have F3 := F2.write (s := .own ds') w1 w3 (o' := .lst xs') trivial trivial ⟨l, xs', rfl, e2, upd_same, RepL.carry c r2⟩
  exact k v _ ω2 none ⟨by rw [bp_none, bp_none]; exact F3, ev.ws, rfl, by rw [bp_none]; exact Rep.carry c r1⟩
theorem de_mt (slot : Slot "list" name id) (hty : typeOf (.builtin id) = pure (.type "method_descriptor")) (hm : MtD X id ρ) (hN : X.N[i]? = some x) (hv : Vis X.env.scope x) (ha : DA X G E (e :: es) τs) (hd : (x == ("__debug__" : Str)) = false := by decide) (hcd : (x == ("__classdict__" : Str)) = false := by decide)
    (hbase : attributeBase (.Name x npos) name X.env (eval (.Name x npos) X.env) = eval (.Name x npos) X.env := by rfl)
    (hfew : ((backTo cpos (starEach (e :: es) X.env)).all (fun x => !x.1) && (backToKw cpos (keywordEach [] X.env)).all (fun x => x.1.isSome)
      && decide ((e :: es).length + ([] : List Keyword).length + (if ([] : List Keyword).isEmpty then 0 else 1) < 30)) = true := by rfl)
    (hline : (apos.endLine == cpos.line) = true := by rfl) (hs : starEach (e :: es) X.env = (false, eval e X.env) :: starEach es X.env := by rfl) (hplain : (backTo cpos (starEach es X.env)).any (·.1) = false := by rfl) :
    DE X G E (.Call (.Attribute (.Name x npos) name apos) (e :: es) [] cpos) (xMt i ρ τs) := by
  obtain ⟨r, hr, hv'⟩ := hm.ok
  have m := mono_mt (i := i) hm.mono ha.mono
  refine ⟨PE.imp (pe_bm PySem.F.plainAttrs_list slot hty hr (pe_var hN hv hd hcd) ha.pa hbase hfew hline hs hplain) fun σ H Q h => ?_, m⟩
  obtain ⟨S, T, B, A, ω, δ, Z, F, z, q⟩ := tD_to m h
  exact mt_core hm hv' ha.mono F z q
theorem de_mt0 (slot : Slot "list" name id) (hty : typeOf (.builtin id) = pure (.type "method_descriptor")) (hm : MtD X id ρ) (hN : X.N[i]? = some x) (hv : Vis X.env.scope x) (hd : (x == ("__debug__" : Str)) = false := by decide) (hcd : (x == ("__classdict__" : Str)) = false := by decide)
    (hbase : attributeBase (.Name x npos) name X.env (eval (.Name x npos) X.env) = eval (.Name x npos) X.env := by rfl) (hline : (apos.endLine == cpos.line) = true := by rfl) :
    DE X G E (.Call (.Attribute (.Name x npos) name apos) [] [] cpos) (xMt i ρ xNilA) := by
  obtain ⟨r, hr, hv'⟩ := hm.ok
  have m := mono_mt (i := i) hm.mono mono_nilA
  refine ⟨PE.imp (pe_bm0 PySem.F.plainAttrs_list slot hty hr (pe_var hN hv hd hcd) hbase hline) fun σ H Q h => ?_, m⟩
  obtain ⟨S, T, B, A, ω, δ, Z, F, z, q⟩ := tD_to m h
  obtain ⟨v, e, ty, h⟩ := mt_core hm hv' mono_nilA F z q
  refine ⟨v, e, ty, ?_⟩
  obtain ⟨ds0, e0, q⟩ := ownK_some q
  have q : ownK i δ fun ds => ρ ds [] fun d ds' => tK G X.K S T B A ω σ Q (.v d) (δ.set i (.own ds')) := q
  obtain ⟨ds, ed, q⟩ := ownK_some q
  obtain ⟨l', xs, w1, w2, w3, w4⟩ := F.slot i _ ed
  rw [e] at w2; cases w2
  refine hv' w3 w4 (as := []) (vs := []) rfl q fun d v ds' xs' k r1 r2 => ?_
  have c : Carry X.K H (upd H l' (.lst xs')) (Ow B ω) (Ow B ω) := Carry.own (.inr ⟨i, w1⟩) w3 trivial
  have F3 := F.write (s := .own ds') w1 w3 (o' := .lst xs') trivial trivial ⟨l', xs', rfl, e, upd_same, RepL.carry c r2⟩
  exact k v _ ω none ⟨by rw [bp_none, bp_none]; exact F3, .refl, rfl, by rw [bp_none]; exact Rep.carry c r1⟩
/-- l[k] = .., l ours -/
def xSub (i : Nat) (τ : DT) : DTg := fun o δ Q => kpK o fun d => ownK i δ fun _ => τ (fun _ => False) δ fun oi δ1 => rdK oi δ1 fun di => ownK i δ1 fun ds => match di with
  | .int k => match ixN ds.length k with
    | some n => Q (δ1.set i (.own (ds.set n d)))
    | none => False
  | _ => False
theorem mono_sub {τ : DT} (m : Mono τ) : MonoG (xSub i τ) := ⟨fun _ _ _ _ h q => kpK_mono (fun d q => ownK_mono (fun _ q => m.m _ _ _ _ _ (fun _ z => z) (fun _ _ q => rdK_mono (fun di q => ownK_mono (fun ds q => by
  cases di with
  | int k =>
    dsimp only at q ⊢
    split at q
    · exact h _ q
    · exact q
  | _ => exact q) q) q) q) q) q⟩
theorem eok_no {G : Amb} {K : PySem.W.Frag} {S : Addr → HO → Prop} {T B : Addr → Prop} {E : XK} : EOk G K S T B (fun _ => False) E := fun _ _ z => z.elim
theorem dg_sub {ei : Expr} {τ : DT} (hN : X.N[i]? = some x) (hv : Vis X.env.scope x) (hi : DE X G E ei τ) (hd : (x == ("__debug__" : Str)) = false := by decide) (hcd : (x == ("__classdict__" : Str)) = false := by decide)
    (ha : ∀ v, assign (.Subscript (.Name x npos) ei pos) X.env v = (do
      let ov ← holding [v] (eval (.Name x npos) X.env)
      let iv ← holding [v, ov] (eval ei X.env)
      standAt pos
      holding [v, ov, iv] (setItem ov iv v)
      release [v, ov, iv] []) := by intro _; rfl) : DG X G (.Subscript (.Name x npos) ei pos) [] (xSub i τ) := ⟨PG.imp (pg_sub (pe_var hN hv hd hcd) hi.pe set_list ha) fun v σ H Q h => by
  obtain ⟨S, T, B, A, ω, δ, P, o, St, F, r, q⟩ := h
  obtain ⟨d, ek, q⟩ := kpK_some q
  -- the value is kept from now on
  have F0 : Fr G X.K S T B A ω H σ δ := F.less (fun _ _ h => h) (fun _ h => .inl h) (fun _ h => .inl h) St.cb St.bt St.sT St.al fun _ _ h _ => h
  have rk : Rep X.K H (Ow B ω) d v := r.kp (fun a h => ow_less h) (fun p hp z => by
    rcases z with z | ⟨j, z⟩
    · exact r.nt p hp (St.bt p z)
    · exact (F.sw j p z).1 (.inr hp)) ek
  obtain ⟨ds0, e0, q⟩ := ownK_some q
  obtain ⟨l, xs0, _, e2, _, _⟩ := F0.slot i _ e0
  refine ⟨.ref l, e2, ?_⟩
  show tD G X.K E τ σ H fun iv H2 => rSetL (.ref l) iv v H2 fun H3 => Q σ H3
  · refine tD_of F0.pin eok_no (hi.mono.m _ _ _ _ _ (fun _ z => z) (fun oi δ1 q iv H2 ω2 P2 ev => ?_) q) hi.mono
    obtain ⟨di, er, q⟩ := rdK_some q
    obtain ⟨ds, eo, q⟩ := ownK_some q
    have ri := ev.fr.rd ev.rp er
    have F2p := ev.drop F0.pin
    have F2 := F0.unpin F2p
    obtain ⟨l', xs, w1, w2, w3, w4⟩ := F2.slot i _ eo
    rw [e2] at w2; cases w2
    cases di with
    | int k =>
      cases ri
      dsimp only at q
      have hl := w4.length
      rw [hl] at q
      cases en : ixN xs.length k with
      | none => rw [en] at q; exact q.elim
      | some n =>
        rw [en] at q
        have rk2 : Rep X.K H2 (Ow B ω2) d v := Rep.carry (pin_carry (S' := nS S H B none ω) (O1 := Ow B ω) (fun a o h n m => pin_all h n m) F0.om F2p fun a h => .inl (.inl h)) rk
        have c : Carry X.K H2 (upd H2 l (.lst (xs.set n v))) (Ow B ω2) (Ow B ω2) := Carry.own (.inr ⟨i, w1⟩) w3 trivial
        exact ⟨l, xs, k, n, rfl, rfl, w3, en, q _ _ _ (F2.write (s := .own (ds.set n d)) w1 w3 (o' := .lst (xs.set n v)) trivial trivial ⟨l, _, rfl, e2, upd_same, RepL.carry c (RepL.set n w4 rk2)⟩) (.ws ev.ws)⟩
    | _ => exact q.elim, mono_sub hi.mono⟩
end
end DL

set_option Elab.async false
set_option linter.all false
set_option maxRecDepth 100000
namespace DL
open PySem L2
/-! ### what a loop walks -/
def un (l : Option Nat) (δ : Env) : Env := match l with
  | none => δ
  | some i => match δ[i]? with
    | some (.lent ds) => δ.set i (.own ds)
    | _ => δ
/-- what a walk gives, in any later state (more may be another's: what is new since) -/
def WalkOk (G : Amb) (K : PySem.W.Frag) (S' : Addr → HO → Prop) (B' : Addr → Prop) (A' : Nat → Option Addr) (H' : Hp) (J : It) (ds : List D) : Prop :=
  ∃ Gd Y, Walk J ds.length Gd Y ∧ (∀ T2 B2 ω2 H2 σ2 δ2, (∀ a, B2 a → B' a ∨ ¬ nT H' a) → Fr G K S' T2 B2 A' ω2 H2 σ2 δ2 → Gd H2) ∧
    ∀ i x H2 H3 T2 B2 ω2 σ2 δ2, (∀ a, B2 a → B' a ∨ ¬ nT H' a) → i < ds.length → Fr G K S' T2 B2 A' ω2 H2 σ2 δ2 → Y i H2 x H3 → ∃ d, ds[i]? = some d ∧ Gv K H2 (Ow B2 ω2) (.v d) x H3
structure ItOk (G : Amb) (K : PySem.W.Frag) (S : Addr → HO → Prop) (T B : Addr → Prop) (A : Nat → Option Addr) (ω : List (Option Addr)) (σ : St) (J : It) (ds : List D) (l : Option Nat) (δ' : Env) (H' : Hp) (ω' : List (Option Addr)) (S' : Addr → HO → Prop) (T' B' : Addr → Prop) (A' : Nat → Option Addr) : Prop where
  fr : Fr G K S' T' B' A' ω' H' σ δ'
  ws : WSub ω' ω
  hS : ∀ a o, S a o → S' a o
  hT : ∀ a, T a → T' a
  hB : ∀ a, B a → B' a
  back : ∀ P ω2 H2 σ2 δ2, (∀ p, P = some p → H' p = none) → Fr G K S' (Bp T' P) (Bp B' P) A' ω2 H2 σ2 δ2 → ∃ ω3, Fr G K S (Bp T P) (Bp B P) A ω3 H2 σ2 (un l δ2) ∧ ∀ (i : Nat) a, ω3[i]? = some (some a) → ω2[i]? = some (some a) ∨ (ω[i]? = some (some a) ∧ B' a)
  walk : WalkOk G K S' B' A' H' J ds
abbrev DIt := (Ex → Prop) → Env → (List D → Option Nat → Env → Prop) → Prop
structure MonoI (ι : DIt) : Prop where
  m : ∀ (Z Z' : Ex → Prop) (δ : Env) (Q Q' : List D → Option Nat → Env → Prop), (∀ x, Z x → Z' x) → (∀ ds l δ', Q ds l δ' → Q' ds l δ') → ι Z δ Q → ι Z' δ Q'
def tI (G : Amb) (K : PySem.W.Frag) (E : XK) (ι : DIt) : TI := fun σ H R => ∃ S T B A ω δ Z, Fr G K S T B A ω H σ δ ∧ EOk G K S T B Z E ∧
  ι Z δ fun ds l δ' => ∀ J H' ω' S' T' B' A', ItOk G K S T B A ω σ J ds l δ' H' ω' S' T' B' A' → R J H'
structure DI (X : Cx) (G : Amb) (E : XK) (tg iter : Expr) (ι : DIt) : Prop where
  pi : PI X tg iter (tI G X.K E ι)
  mono : MonoI ι
theorem PI.imp {X : Cx} {tg e : Expr} {t t' : TI} (h : PI X tg e t) (i : ∀ σ H R, t' σ H R → t σ H R) : PI X tg e t' := ⟨fun pins s σ H R I q => h.run pins s σ H R I (i σ H R q)⟩
section
variable {G : Amb} {K : PySem.W.Frag} {S S' : Addr → HO → Prop} {T T' B B' : Addr → Prop} {A A' : Nat → Option Addr} {ω ω1 ω' : List (Option Addr)} {H H1 : Hp} {σ : St} {δ δ1 δ' : Env} {P : Option Addr} {Z : Ex → Prop} {E : XK} {o : Op} {v : V} {ds : List D} {l : Option Nat}
/-- nothing is lent: all stays that is not ours -/
structure Src (G : Amb) (K : PySem.W.Frag) (S : Addr → HO → Prop) (T B : Addr → Prop) (A : Nat → Option Addr) (ω : List (Option Addr)) (σ : St) (H1 : Hp) (l : Option Nat) (δ' : Env) (ω' : List (Option Addr)) (S' : Addr → HO → Prop) (T' B' : Addr → Prop) (A' : Nat → Option Addr) : Prop where
  fr : Fr G K S' T' B' A' ω' H1 σ δ'
  ws : WSub ω' ω
  hS : ∀ a o, S a o → S' a o
  hT : ∀ a, T a → T' a
  hB : ∀ a, B a → B' a
  back : ∀ P ω2 H2 σ2 δ2, (∀ p, P = some p → H1 p = none) → Fr G K S' (Bp T' P) (Bp B' P) A' ω2 H2 σ2 δ2 → ∃ ω3, Fr G K S (Bp T P) (Bp B P) A ω3 H2 σ2 (un l δ2) ∧ ∀ (i : Nat) a, ω3[i]? = some (some a) → ω2[i]? = some (some a) ∨ (ω[i]? = some (some a) ∧ B' a)
  carry : ∀ {T2 B2 ω2 H2 σ2 δ2}, (∀ a, B2 a → B' a ∨ ¬ nT H1 a) → Fr G K S' T2 B2 A' ω2 H2 σ2 δ2 → Carry K H1 H2 (Ow B' ω') (Ow B2 ω2)
theorem Src.it {J : It} (s : Src G K S T B A ω σ H1 l δ' ω' S' T' B' A') (w : WalkOk G K S' B' A' H1 J ds) : ItOk G K S T B A ω σ J ds l δ' H1 ω' S' T' B' A' := ⟨s.fr, s.ws, s.hS, s.hT, s.hB, s.back, w⟩
theorem ItOk.back0 {J : It} {H' ω' S' T' B' A'} (it : ItOk G K S T B A ω σ J ds l δ' H' ω' S' T' B' A') {ω2 : List (Option Addr)} {H2 : Hp} {σ2 : St} {δ2 : Env} (F2 : Fr G K S' T' B' A' ω2 H2 σ2 δ2) : ∃ ω3, Fr G K S T B A ω3 H2 σ2 (un l δ2) ∧ ∀ (i : Nat) a, ω3[i]? = some (some a) → ω2[i]? = some (some a) ∨ (ω[i]? = some (some a) ∧ B' a) := by
  obtain ⟨ω3, f, h⟩ := it.back none ω2 H2 σ2 δ2 (fun _ h => nomatch h) (by rw [bp_none, bp_none]; exact F2)
  rw [bp_none, bp_none] at f
  exact ⟨ω3, f, h⟩
theorem Ev.src (F : Fr G K S T B A ω H σ δ) (e : Ev G K S T B A ω H1 σ δ1 ω1 P o v) : Src G K S T B A ω σ H1 none δ1 ω1 (nS S H1 B P ω1) (nT H1) (Bp B P) A where
  fr := e.go F
  ws := e.ws
  hS := fun _ _ h => .inl h
  hT := fun a h => e.fr.dm a (.inl h)
  hB := fun _ h => .inl h
  back := fun P2 ω2 H2 σ2 δ2 hp F2 => ⟨ω2, F2.less (fun _ _ h => .inl h) (fun a h => h.elim (fun z => .inl (e.fr.dm a (.inl z))) .inr) (fun _ h => h.elim (fun z => .inl (.inl z)) .inr) (fun a c => .inl (F.cb a c)) (fun a h => h.elim (fun z => .inl (F.bt a z)) .inr) (fun a o h => .inl (F.sT a o h)) (fun i a h => .inl (F.al i a h)) fun a o h ⟨i, q⟩ => by
    rcases h with h | ⟨h, n, h' | h'⟩
    · exact h
    · exact (h' (.inl (.inl (F.al i a q)))).elim
    · exact (e.rp.nt a h' (F.bt a (F.al i a q))).elim, fun _ _ h => .inl h⟩
  carry := fun hb F2 => pin_carry (S' := nS S H1 B P ω1) (fun a o h n m => .inr ⟨h, n, .inl m⟩) e.fr.om F2 fun a h => (hb a h).elim (fun z => .inl (.inl z)) .inr
def lA (A : Nat → Option Addr) (i : Nat) (a : Addr) : Nat → Option Addr := fun j => if j = i then some a else A j
/-- ours is lent for a loop's time -/
theorem Fr.lend (F : Fr G K S T B A ω1 H1 σ δ1) (w : WSub ω1 ω) {i : Nat} {a : Addr} {vs : List V} (hs : δ1[i]? = some (.own ds)) (e : ω1[i]? = some (some a)) (e1 : σ[i]? = some (some (.ref a))) (e2 : H1 a = some (.lst vs)) (r : RepL K H1 (Ow B ω1) ds vs) :
    Src G K S T B A ω σ H1 (some i) (δ1.set i (.lent ds)) (ω1.set i none) (fun b u => nS S H1 B none ω1 b u ∨ (b = a ∧ u = .lst vs)) (nT H1) (fun b => B b ∨ b = a) (lA A i a) := by
  have hi : i < ω1.length := (List.getElem?_eq_some_iff.mp e).1
  have nb := F.sw i a e
  have w' : WSub (ω1.set i none) ω1 := fun j b h => by
    rcases set_get h with ⟨_, q, _⟩ | ⟨_, h⟩
    · cases q
    · exact h
  have ne : ∀ (j : Nat) b, (ω1.set i none)[j]? = some (some b) → b ≠ a := fun j b h z => by
    rw [z] at h
    rcases set_get h with ⟨_, q, _⟩ | ⟨n, h⟩
    · cases q
    · exact n (F.inj j i a h e)
  have sub : ∀ b, Ow (fun b => B b ∨ b = a) (ω1.set i none) b → Ow B ω1 b := fun b h => by
    rcases h with (h | h) | ⟨j, h⟩
    · exact .inl h
    · rw [h]; exact .inr ⟨i, e⟩
    · exact .inr ⟨j, w' j b h⟩
  refine ⟨⟨F.inv, fun b c => .inl (F.cb b c), fun b h => ?_, fun b u h => ?_, fun b u h => ?_, fun j b h => ?_, fun b h => ?_, fun b h => h, fun b u h => ?_, fun j b h => ⟨fun z => ?_, fun u z => ?_⟩, fun j k b h1 h2 => F.inj j k b (w' j b h1) (w' k b h2), fun j b h => F.wm j b (w' j b h), by rw [List.length_set]; exact F.len, by rw [List.length_set, List.length_set]; exact F.lw, fun j s h => ?_⟩,
    fun j b h => w j b (w' j b h), fun _ _ h => .inl (.inl h), fun b h => F.dm b h, fun _ h => .inl h, fun P2 ω2 H2 σ2 δ2 hp2 F2 => ?_, fun {T2 B2 ω2 H2 σ2 δ2} hb2 F2 => ?_⟩
  · rcases h with h | h
    · exact F.dm b (F.bt b h)
    · exact ⟨_, by rw [h]; exact e2, nt_lst⟩
  · rcases h with h | ⟨h, _⟩
    · exact F.pin.sT b u h
    · exact ⟨_, by rw [h]; exact e2, nt_lst⟩
  · rcases h with h | ⟨h, h'⟩
    · exact F.pin.sc b u h
    · rw [h, h']; exact ⟨fun c => nb.1 (F.cb a c), nt_lst⟩
  · unfold lA at h
    by_cases hj : j = i
    · rw [if_pos hj] at h; exact .inr (Option.some.inj h).symm
    · rw [if_neg hj] at h; exact .inl (F.al j b h)
  · rcases h with h | h
    · exact F.bm b h
    · exact ⟨.lst vs, by rw [h]; exact e2, trivial⟩
  · rcases h with h | ⟨h, h'⟩
    · exact F.pin.st b u h
    · rw [h, h']; exact e2
  · rcases z with z | z
    · exact (F.sw j b (w' j b h)).1 z
    · exact ne j b h z
  · rcases z with z | ⟨z, _⟩
    · exact (F.pin.sw j b (w' j b h)).2 u z
    · exact ne j b h z
  · rcases set_get h with ⟨rfl, rfl, hl⟩ | ⟨hn, h⟩
    · rw [List.getElem?_set_self hi]
      exact ⟨rfl, a, vs, e1, by unfold lA; rw [if_pos rfl], .inr ⟨rfl, rfl⟩, RepL.carry (Carry.sub sub) r⟩
    · rw [List.getElem?_set_ne (Ne.symm hn)]
      have q := (F.slot j s h).carry (Carry.sub sub) (S' := fun b u => nS S H1 B none ω1 b u ∨ (b = a ∧ u = .lst vs)) (fun _ _ z => .inl (.inl z)) fun _ _ _ z _ => z
      cases s with
      | lent ds2 =>
        obtain ⟨q1, b, us, q2, q3, q4, q5⟩ := q
        exact ⟨q1, b, us, q2, by unfold lA; rw [if_neg hn]; exact q3, q4, q5⟩
      | _ => exact q
  · -- the way back
    have alA : ∀ (j : Nat) b, A j = some b → b ≠ a := fun j b h z => nb.1 (by rw [← z]; exact F.al j b h)
    have hl : ∀ b u, (nS S H1 B none ω1 b u ∨ (b = a ∧ u = .lst vs)) → (∃ j, A j = some b) → S b u := fun b u h ⟨j, q⟩ => by
      rcases h with (h | ⟨h, n, h' | h'⟩) | ⟨h, _⟩
      · exact h
      · exact (h' (by rw [bp_none]; exact .inl (F.al j b q))).elim
      · cases h'
      · exact (alA j b q h).elim
    have bup : ∀ b, Bp B P2 b → Bp (fun b => B b ∨ b = a) P2 b := fun b h => h.elim (fun z => .inl (.inl z)) .inr
    have plain : ∀ {δ3 : Env} {ω3 : List (Option Addr)}, (∀ s, δ2[i]? = some s → ∀ ds2, s ≠ .lent ds2) → ∃ ω3, Fr G K S (Bp T P2) (Bp B P2) A ω3 H2 σ2 δ2 ∧ ∀ (k : Nat) b, ω3[k]? = some (some b) → ω2[k]? = some (some b) ∨ (ω[k]? = some (some b) ∧ (B b ∨ b = a)) := fun {_ _} hn =>
      ⟨ω2, ⟨F2.inv, fun b c => .inl (F.cb b c), fun b h => h.elim (fun z => .inl (F.bt b z)) .inr, fun b u h => .inl (F.sT b u h), F.sc, fun j b h => .inl (F.al j b h), fun b h => F2.bm b (bup b h), fun b h => F2.dm b (h.elim (fun z => .inl (F.dm b z)) .inr), fun b u h => F2.st b u (.inl (.inl h)), fun j b h => ⟨fun z => (F2.sw j b h).1 (bup b z), fun u z => (F2.sw j b h).2 u (.inl (.inl z))⟩, F2.inj, F2.wm, F2.len, F2.lw, fun j s h => by
        have q := F2.slot j s h
        have c : Carry K H2 H2 (Ow (Bp (fun b => B b ∨ b = a) P2) ω2) (Ow (Bp B P2) ω2) := Carry.sub fun b z => z.elim (fun z => .inl (bup b z)) .inr
        cases s with
        | lent ds2 =>
          obtain ⟨q1, b, us, q2, q3, q4, q5⟩ := q
          by_cases hj : j = i
          · subst hj; exact (hn _ h ds2 rfl).elim
          · unfold lA at q3
            rw [if_neg hj] at q3
            exact ⟨q1, b, us, q2, q3, hl _ _ q4 ⟨j, q3⟩, RepL.carry c q5⟩
        | un => exact q
        | val d => obtain ⟨q1, x, q2, q3⟩ := q; exact ⟨q1, x, q2, Rep.carry c q3⟩
        | own _ => obtain ⟨b, us, q1, q2, q3, q4⟩ := q; exact ⟨b, us, q1, q2, q3, RepL.carry c q4⟩
        | ownD _ => obtain ⟨b, us, q1, q2, q3, q4⟩ := q; exact ⟨b, us, q1, q2, q3, RepK.carry c q4⟩
        | ownT _ => obtain ⟨b, us, q1, q2, q3, q4⟩ := q; exact ⟨b, us, q1, q2, q3, RepT.carry c q4⟩⟩, fun _ _ h => .inl h⟩
    cases q0 : δ2[i]? with
    | none =>
      have e0 : DL.un (some i) δ2 = δ2 := by unfold DL.un; simp only [q0]
      rw [e0]
      exact plain (δ3 := δ2) (ω3 := ω2) fun s h => by rw [q0] at h; cases h
    | some s0 =>
      cases s0 with
      | lent ds2 =>
        have e0 : DL.un (some i) δ2 = δ2.set i (.own ds2) := by unfold DL.un; simp only [q0]
        rw [e0]
        obtain ⟨q1, b, us, q2, q3, q4, q5⟩ := F2.slot i _ q0
        have hb : b = a := by unfold lA at q3; rw [if_pos rfl] at q3; exact (Option.some.inj q3).symm
        subst hb
        have hi2 : i < ω2.length := (List.getElem?_eq_some_iff.mp q1).1
        have sub2 : ∀ c, Ow (Bp B P2) (ω2.set i (some b)) c → Ow (Bp (fun c => B c ∨ c = b) P2) ω2 c := fun c h => by
          rcases h with h | ⟨j, h⟩
          · exact .inl (bup c h)
          · rcases set_get h with ⟨_, q, _⟩ | ⟨_, h⟩
            · exact .inl (.inl (.inr (Option.some.inj q)))
            · exact .inr ⟨j, h⟩
        have c : Carry K H2 H2 (Ow (Bp (fun c => B c ∨ c = b) P2) ω2) (Ow (Bp B P2) (ω2.set i (some b))) := Carry.sub sub2
        have nb2 : ∀ (j : Nat), ω2[j]? ≠ some (some b) := fun j h => (F2.sw j b h).1 (.inl (.inr rfl))
        have nbp : ¬ Bp B P2 b := fun z => z.elim nb.1 fun z => by rw [hp2 b z] at e2; cases e2
        refine ⟨ω2.set i (some b), ⟨F2.inv, fun b c => .inl (F.cb b c), fun b h => h.elim (fun z => .inl (F.bt b z)) .inr, fun b u h => .inl (F.sT b u h), F.sc, fun j b h => .inl (F.al j b h), fun c h => F2.bm c (bup c h), fun c h => F2.dm c (h.elim (fun z => .inl (F.dm c z)) .inr), fun c u h => F2.st c u (.inl (.inl h)), fun j c h => ?_, fun j k c h1 h2 => ?_, fun j c h => ?_, by rw [List.length_set]; exact F2.len, by rw [List.length_set, List.length_set]; exact F2.lw, fun j s h => ?_⟩, fun j c h => ?_⟩
        · rcases set_get h with ⟨_, q, _⟩ | ⟨_, h⟩
          · cases q; exact ⟨nbp, nb.2⟩
          · exact ⟨fun z => (F2.sw j c h).1 (bup c z), fun u z => (F2.sw j c h).2 u (.inl (.inl z))⟩
        · rcases set_get h1 with ⟨j1, q, _⟩ | ⟨n1, h1⟩
          · cases q
            rcases set_get h2 with ⟨j2, _, _⟩ | ⟨n2, h2⟩
            · rw [j1, j2]
            · exact (nb2 k h2).elim
          · rcases set_get h2 with ⟨j2, q, _⟩ | ⟨n2, h2⟩
            · cases q; exact (nb2 j h1).elim
            · exact F2.inj j k c h1 h2
        · rcases set_get h with ⟨_, q, _⟩ | ⟨_, h⟩
          · cases q; exact ⟨_, F2.st _ _ q4, trivial⟩
          · exact F2.wm j c h
        · rcases set_get h with ⟨rfl, rfl, hl'⟩ | ⟨hn, h⟩
          · rw [List.getElem?_set_self hi2]
            exact ⟨b, us, rfl, q2, F2.st _ _ q4, RepL.carry c q5⟩
          · rw [List.getElem?_set_ne (Ne.symm hn)]
            have q := F2.slot j s h
            cases s with
            | lent ds3 =>
              obtain ⟨q1, b', us', q2', q3', q4', q5'⟩ := q
              unfold lA at q3'
              rw [if_neg hn] at q3'
              exact ⟨q1, b', us', q2', q3', hl _ _ q4' ⟨j, q3'⟩, RepL.carry c q5'⟩
            | un => exact q
            | val d => obtain ⟨q1, x, q2, q3⟩ := q; exact ⟨q1, x, q2, Rep.carry c q3⟩
            | own _ => obtain ⟨b', us', q1, q2, q3, q4⟩ := q; exact ⟨b', us', q1, q2, q3, RepL.carry c q4⟩
            | ownD _ => obtain ⟨b', us', q1, q2, q3, q4⟩ := q; exact ⟨b', us', q1, q2, q3, RepK.carry c q4⟩
            | ownT _ => obtain ⟨b', us', q1, q2, q3, q4⟩ := q; exact ⟨b', us', q1, q2, q3, RepT.carry c q4⟩
        · rcases set_get h with ⟨rfl, q, _⟩ | ⟨_, h⟩
          · cases q; exact .inr ⟨w _ _ e, .inr rfl⟩
          · exact .inl h
      | _ =>
        have e0 : DL.un (some i) δ2 = δ2 := by unfold DL.un; simp only [q0]
        rw [e0]
        exact plain (δ3 := δ2) (ω3 := ω2) fun s h ds2 z => by rw [q0] at h; cases h; cases z
  · refine pin_carry (S' := fun b u => nS S H1 B none ω1 b u ∨ (b = a ∧ u = .lst vs)) (O1 := Ow (fun b => B b ∨ b = a) (ω1.set i none)) (fun b u h n m => ?_) (fun b h => F.om b (sub b h)) F2 fun b h => (hb2 b h).elim (fun z => .inl (.inl z)) .inr
    by_cases hb : Ow B ω1 b
    · rcases hb with hb | ⟨j, hb⟩
      · exact (m (.inl (.inl hb))).elim
      · by_cases hj : j = i
        · subst hj
          rw [e] at hb; cases hb
          rw [e2] at h; cases h
          exact .inr ⟨rfl, rfl⟩
        · exact (m (.inr ⟨j, by rw [List.getElem?_set_ne (Ne.symm hj)]; exact hb⟩)).elim
    · exact .inl (pin_all h n hb)
end
end DL

set_option Elab.async false
set_option linter.all false
set_option maxRecDepth 100000
namespace DL
open PySem L2 RZ RT
/-! ### iterables -/
def signs (s : Str) : List D := s.cps.toList.map fun c => .str ⟨#[c]⟩
def itemsOf : D → Option (List D)
  | .lst ds => some ds
  | .tup ds => some ds
  | .str s => some (signs s)
  | _ => none
/-- a name's own thing is lent -/
def lendK (o : Op) (δ : Env) (k : Option Nat → Env → Prop) : Prop := match o with
  | .b i => match δ[i]? with
    | some (.own ds) => k (some i) (δ.set i (.lent ds))
    | _ => k none δ
  | _ => k none δ
theorem lendK_mono {o : Op} {δ : Env} {k k' : Option Nat → Env → Prop} (h : ∀ l δ', k l δ' → k' l δ') (q : lendK o δ k) : lendK o δ k' := by
  unfold lendK at q ⊢
  split at q
  · split at q <;> exact h _ _ q
  · exact h _ _ q
def xIt (f : List D → List D) (τ : DT) : DIt := fun Z δ Q => τ Z δ fun o δ1 => rdK o δ1 fun d => match itemsOf d with
  | some ds => lendK o δ1 fun l δ' => Q (f ds) l δ'
  | none => False
theorem mono_it {f : List D → List D} {τ : DT} (m : Mono τ) : MonoI (xIt f τ) := ⟨fun _ _ _ _ _ hz h q => m.m _ _ _ _ _ hz (fun _ _ q => rdK_mono (fun d q => by
  split at q
  · exact lendK_mono (fun l δ' q => h _ _ _ q) q
  · exact q) q) q⟩
theorem rd_b {i : Nat} {δ : Env} {d : D} (h : rd (.b i) δ = some d) : (∃ ds, d = .lst ds) ∨ (∃ ds, d = .dic ds) ∨ ∃ ds, d = .dit ds := by
  unfold rd at h
  cases e : δ[i]? with
  | none => simp [e] at h
  | some s =>
    cases s <;> simp [e] at h
    · exact .inl ⟨_, h.symm⟩
    · exact .inr (.inl ⟨_, h.symm⟩)
    · exact .inr (.inr ⟨_, h.symm⟩)
    · exact .inl ⟨_, h.symm⟩
section
variable {G : Amb} {K : PySem.W.Frag} {S : Addr → HO → Prop} {T B : Addr → Prop} {A : Nat → Option Addr} {ω ω1 : List (Option Addr)} {H H1 : Hp} {σ : St} {δ δ1 : Env} {P : Option Addr} {o : Op} {v : V}
/-- the list that a loop walks stays -/
theorem Ev.srcL (F : Fr G K S T B A ω H σ δ) (e : Ev G K S T B A ω H1 σ δ1 ω1 P o v) {ds : List D} {k : Option Nat → Env → Prop} (h : rd o δ1 = some (.lst ds)) (q : lendK o δ1 k) : ∃ a vs l δ' ω' S' T' B' A', v = .ref a ∧ k l δ' ∧ Src G K S T B A ω σ H1 l δ' ω' S' T' B' A' ∧
    H1 a = some (.lst vs) ∧ RepL K H1 (Ow B' ω') ds vs ∧ ∀ T2 B2 ω2 H2 σ2 δ2, Fr G K S' T2 B2 A' ω2 H2 σ2 δ2 → H2 a = some (.lst vs) := by
  cases o with
  | v d =>
    cases h
    obtain ⟨_, a, vs, rfl, h1, h2, h3⟩ := e.rp
    exact ⟨a, vs, none, δ1, _, _, _, _, _, rfl, q, e.src F, h1, h3, fun T2 B2 ω2 H2 σ2 δ2 F2 => F2.st a _ (.inr ⟨h1, nt_lst, .inl h2⟩)⟩
  | n ds' =>
    cases h
    obtain ⟨p, vs, e0, rfl, h2, h3, h4⟩ := e.rp
    exact ⟨p, vs, none, δ1, _, _, _, _, _, rfl, q, e.src F, h3, h4, fun T2 B2 ω2 H2 σ2 δ2 F2 => F2.st p _ (.inr ⟨h3, nt_lst, .inr e0⟩)⟩
  | nd _ => cases h
  | nt _ => cases h
  | b i =>
    obtain ⟨rfl, e1⟩ := e.rp
    have F1 := e.drop F
    unfold DL.rd at h
    cases es : δ1[i]? with
    | none => simp [es] at h
    | some s =>
      have sl := F1.slot i s es
      cases s with
      | own ds' =>
        simp only [es, Option.some.injEq, D.lst.injEq] at h
        subst h
        obtain ⟨a, vs, w1, w2, w3, w4⟩ := sl
        rw [e1] at w2; cases w2
        have q' : k (some i) (δ1.set i (.lent ds')) := by unfold lendK at q; simp only [es] at q; exact q
        have src := F1.lend e.ws es w1 e1 w3 w4
        refine ⟨a, vs, some i, _, _, _, _, _, _, rfl, q', src, w3, ?_, fun T2 B2 ω2 H2 σ2 δ2 F2 => F2.st a _ (.inr ⟨rfl, rfl⟩)⟩
        obtain ⟨_, _, _, _, _, _, r⟩ := src.fr.slot i (.lent ds') (by rw [List.getElem?_set_self (List.getElem?_eq_some_iff.mp es).1])
        rename_i a' vs' x1 x2 x3
        have ea : a' = a := by rw [e1] at x1; cases x1; rfl
        subst ea
        have := src.fr.st _ _ x3
        rw [w3] at this; cases this
        exact r
      | lent ds' =>
        simp only [es, Option.some.injEq, D.lst.injEq] at h
        subst h
        obtain ⟨_, a, vs, w2, w3, w4, w5⟩ := sl
        rw [e1] at w2; cases w2
        have q' : k none δ1 := by unfold lendK at q; simp only [es] at q; exact q
        refine ⟨a, vs, none, δ1, _, _, _, _, _, rfl, q', e.src F, F1.st _ _ w4, RepL.carry (Carry.sub ?_) w5, fun T2 B2 ω2 H2 σ2 δ2 F2 => F2.st a _ (.inl w4)⟩
        rw [bp_none]; exact fun _ z => z
      | _ => simp [es] at h
/-- a new item at each turn: the same heap, or a new tuple -/
theorem walk_same {J : It} {S' : Addr → HO → Prop} {B' : Addr → Prop} {A' : Nat → Option Addr} {H' : Hp} {n : Nat} {ds : List D} {Gd : Hp → Prop} {Y : Nat → Hp → V → Hp → Prop} (hn : n = ds.length) (w : Walk J n Gd Y) (g : ∀ T2 B2 ω2 H2 σ2 δ2, (∀ a, B2 a → B' a ∨ ¬ nT H' a) → Fr G K S' T2 B2 A' ω2 H2 σ2 δ2 → Gd H2)
    (y : ∀ i x H2 H3 T2 B2 ω2 σ2 δ2, (∀ a, B2 a → B' a ∨ ¬ nT H' a) → i < n → Fr G K S' T2 B2 A' ω2 H2 σ2 δ2 → Y i H2 x H3 → ∃ d, ds[i]? = some d ∧ Gv K H2 (Ow B2 ω2) (.v d) x H3) : WalkOk G K S' B' A' H' J ds := by
  subst hn
  exact ⟨Gd, Y, w, g, y⟩
theorem gv_tup2 {H : Hp} {O : Addr → Prop} {d1 d2 : D} {x y : V} {p : Addr} (h : H p = none) (r1 : Rep K H O d1 x) (r2 : Rep K H O d2 y) : Gv K H O (.v (.tup [d1, d2])) (.ref p) (upd H p (.tup [x, y])) := .tup h ⟨x, [y], rfl, r1, y, [], rfl, r2, rfl⟩
end
section
variable {X : Cx} {G : Amb} {E : XK} {e e2 a b c : Expr} {τ τa τb τc : DT} {τs : DTA} {tg : Expr} {pos : Pos}
/-- a list, a tuple, a text -/
theorem pi_any {l : Expr} {tl : TE} (hl : PE X l tl) : PI X tg l (fun σ H R => tl σ H fun x H1 => (∃ a, x = .ref a ∧ (∃ xs, SqL X.K H1 a xs) ∧ R (Itl X.K a) H1) ∨ (∃ a, x = .ref a ∧ (∃ xs, SqT X.K H1 a xs) ∧ R (Itt X.K a) H1) ∨ ∃ s, x = .str s ∧ R (Its s) H1) := by
  refine ⟨fun pins s σ H R I h => ?_⟩
  refine thn (hl.run pins s σ H _ I h) fun v s1 ⟨x, H1, I1, r1, q1⟩ => ?_
  rcases q1 with ⟨a, e, ⟨xs, hq⟩, q⟩ | ⟨a, e, ⟨xs, hq⟩, q⟩ | ⟨z, e, q⟩
  · subst e
    cases r1
    obtain ⟨its, rv, p, hz⟩ := I1.list hq
    refine wpAny_pyIter_list p.isList ?_
    refine ⟨s1.heap.objs.size, [s1.heap.objs.size], _, _, H1, rfl, I1.kept (t' := s1.toks) fun b o e => Heap.get?_push_of_some _ e, turn_list a _, ⟨_, Heap.get?_push_size _ rfl, rfl, rfl⟩, fun b hb => ?_, q⟩
    have e : b = s1.heap.objs.size := by simpa using hb
    subst e
    exact I1.fpOk (Nat.le_refl _) (I1.hok.fresh (Nat.le_refl _))
  · subst e
    cases r1
    obtain ⟨its, rv, p, hz⟩ := I1.tuple hq
    refine wpAny_pyIter_tuple (show s1.heap.IsTuple a its.toArray from p) ?_
    refine ⟨s1.heap.objs.size, [s1.heap.objs.size], _, _, H1, rfl, I1.kept (t' := s1.toks) fun b o e => Heap.get?_push_of_some _ e, turn_tuple a _, ⟨_, Heap.get?_push_size _ rfl, rfl, rfl⟩, fun b hb => ?_, q⟩
    have e : b = s1.heap.objs.size := by simpa using hb
    subst e
    exact I1.fpOk (Nat.le_refl _) (I1.hok.fresh (Nat.le_refl _))
  · subst e
    obtain ⟨t, rfl⟩ := r1
    cases ha : z.cps.all (· < 128)
    · exact wpAny_pyIter_wide ha (pi_one (tk := s1.toks) I1 _ (turn_str _ z t "str_iterator" (.inr rfl)) ⟨_, Heap.get?_push_size _ rfl, rfl, rfl⟩ q)
    · exact wpAny_pyIter_ascii ha (pi_one (tk := s1.toks) I1 _ (turn_str _ z t "str_ascii_iterator" (.inl rfl)) ⟨_, Heap.get?_push_size _ rfl, rfl, rfl⟩ q)
theorem yat {K : PySem.W.Frag} {H1 H2 H3 : Hp} {O O2 : Addr → Prop} {ds : List D} {vs : List V} {i : Nat} {x : V} (r : RepL K H1 O ds vs) (c : Carry K H1 H2 O O2) (y : YAt vs i H2 x H3) : ∃ d, ds[i]? = some d ∧ Gv K H2 O2 (.v d) x H3 := by
  obtain ⟨rfl, e⟩ := y
  obtain ⟨d, e1, r1⟩ := RepL.get' (RepL.carry c r) e
  exact ⟨d, e1, .same r1⟩
theorem di_any (he : DE X G E e τ) : DI X G E tg e (xIt id τ) := by
  refine ⟨PI.imp (pi_any he.pe) fun σ H R h => ?_, mono_it he.mono⟩
  obtain ⟨S, T, B, A, ω, δ, Z, F, z, q⟩ := h
  refine tD_of F z (he.mono.m _ _ _ _ _ (fun _ z => z) (fun o δ1 q v H1 ω1 P ev => ?_) q) he.mono
  obtain ⟨d, er, q⟩ := rdK_some q
  cases d with
  | lst ds =>
    obtain ⟨a, vs, l, δ', ω', S', T', B', A', rfl, q, src, h1, r, st⟩ := ev.srcL F er q
    exact .inl ⟨a, rfl, ⟨vs, SqL.of h1⟩, q _ _ _ _ _ _ _ (src.it (walk_same r.length.symm walk_list (fun T2 B2 ω2 H2 σ2 δ2 hb F2 => SqL.of (st T2 B2 ω2 H2 σ2 δ2 F2)) fun i x H2 H3 T2 B2 ω2 σ2 δ2 hb hi F2 y => yat r (src.carry hb F2) y))⟩
  | tup ds =>
    obtain ⟨a, vs, rfl, h1, r⟩ := ev.fr.rd ev.rp er
    have q' : ∀ J H' ω' S' T' B' A', ItOk G X.K S T B A ω σ J ds none δ1 H' ω' S' T' B' A' → R J H' := by
      cases o with
      | b i =>
        rcases rd_b er with ⟨_, z⟩ | ⟨_, z⟩ | ⟨_, z⟩ <;> cases z
      | _ => exact q
    have src := ev.src F
    exact .inr (.inl ⟨a, rfl, ⟨vs, h1⟩, q' _ _ _ _ _ _ _ (src.it (walk_same r.length.symm walk_tup (fun T2 B2 ω2 H2 σ2 δ2 hb F2 => (src.carry hb F2).t _ _ h1) fun i x H2 H3 T2 B2 ω2 σ2 δ2 hb hi F2 y => yat r (src.carry hb F2) y))⟩)
  | str s =>
    have r := ev.fr.rd ev.rp er
    cases r
    have q' : ∀ J H' ω' S' T' B' A', ItOk G X.K S T B A ω σ J (signs s) none δ1 H' ω' S' T' B' A' → R J H' := by
      cases o with
      | b i =>
        rcases rd_b er with ⟨_, z⟩ | ⟨_, z⟩ | ⟨_, z⟩ <;> cases z
      | _ => exact q
    have src := ev.src F
    refine .inr (.inr ⟨s, rfl, q' _ _ _ _ _ _ _ (src.it (walk_same (by simp [signs]) walk_str (fun _ _ _ _ _ _ _ _ => trivial) fun i x H2 H3 T2 B2 ω2 σ2 δ2 hb hi F2 y => ?_))⟩)
    obtain ⟨rfl, c, hc, rfl⟩ := y
    refine ⟨.str ⟨#[c]⟩, ?_, .same rfl⟩
    unfold signs
    rw [List.getElem?_map, Array.getElem?_toList, hc] <;> rfl
  | _ => exact q.elim
/-! ranges -/
def rgD (lo : Int) (n : Nat) : List D := (List.range n).map fun (i : Nat) => .int (lo + i)
def rgC (lo c : Int) (n : Nat) : List D := (List.range n).map fun (i : Nat) => .int (lo + i * c)
theorem mapRange_get {f : Nat → D} {n i : Nat} (h : i < n) : ((List.range n).map f)[i]? = some (f i) := by rw [List.getElem?_map, List.getElem?_range h] <;> rfl
def Rg (i : Int) : Prop := -4611686018427387904 ≤ i ∧ i < 4611686018427387904
def xRg1 (τ : DT) : DIt := fun Z δ Q => τ Z δ fun o δ1 => rdK o δ1 fun d => match d with
  | .int j => Rg j ∧ Q (rgD 0 j.toNat) none δ1
  | _ => False
def xRg2 (τ τ' : DT) : DIt := fun Z δ Q => τ Z δ fun o δ1 => τ' Z δ1 fun o' δ2 => rdK o δ2 fun d => rdK o' δ2 fun d' => match d, d' with
  | .int i, .int j => (Rg i ∧ Rg j) ∧ Q (rgD i (j - i).toNat) none δ2
  | _, _ => False
def Src0 (G : Amb) (K : PySem.W.Frag) (S : Addr → HO → Prop) (T B : Addr → Prop) (A : Nat → Option Addr) (ω ω1 : List (Option Addr)) (σ : St) (H1 : Hp) (δ1 : Env) (F : Fr G K S T B A ω1 H1 σ δ1) (w : WSub ω1 ω) {J : It} {ds : List D} (wk : WalkOk G K S B A H1 J ds) : ItOk G K S T B A ω σ J ds none δ1 H1 ω1 S T B A :=
  ⟨F, w, fun _ _ h => h, fun _ h => h, fun _ h => h, fun _ ω2 H2 σ2 δ2 _ F2 => ⟨ω2, F2, fun _ _ h => .inl h⟩, wk⟩
theorem range_walk {G : Amb} {K : PySem.W.Frag} {S : Addr → HO → Prop} {B : Addr → Prop} {A : Nat → Option Addr} {H' : Hp} {lo : Int} {n : Nat} : WalkOk G K S B A H' (Itr lo n) (rgD lo n) :=
  walk_same (by simp [rgD]) walk_range (fun _ _ _ _ _ _ _ _ => trivial) fun i x H2 H3 T2 B2 ω2 σ2 δ2 hb hi F2 y => by
    obtain ⟨rfl, rfl⟩ := y
    exact ⟨_, mapRange_get hi, .same rfl⟩
theorem di_range1 {p : Pos} (hg : Gl X "range") (hm : X.mg "range" = none) (ha : DE X G E a τa) (hs : starEach [a] X.env = [(false, eval a X.env)] := by rfl) : DI X G E tg (.Call (.Name "range" p) [a] [] pos) (xRg1 τa) := by
  have m : MonoI (xRg1 τa) := ⟨fun _ _ _ _ _ hz h q => ha.mono.m _ _ _ _ _ hz (fun _ _ q => rdK_mono (fun d q => by cases d <;> first | exact ⟨q.1, h _ _ _ q.2⟩ | exact q) q) q⟩
  refine ⟨PI.imp (pi_range1 hg hm (pa_cons ha.pe pa_nil hs) hs) fun σ H R h => ?_, m⟩
  obtain ⟨S, T, B, A, ω, δ, Z, F, z, q⟩ := h
  refine tD_of F z (ha.mono.m _ _ _ _ _ (fun _ z => z) (fun o δ1 q v H1 ω1 P ev => ?_) q) ha.mono
  obtain ⟨d, er, q⟩ := rdK_some q
  have r := ev.fr.rd ev.rp er
  cases d with
  | int j =>
    cases r
    exact ⟨j, rfl, q.1.1, q.1.2, q.2 _ _ _ _ _ _ _ (Src0 _ _ _ _ _ _ _ _ _ _ _ (ev.drop F) ev.ws range_walk)⟩
  | _ => exact q.elim
theorem di_range2 {p : Pos} (hg : Gl X "range") (hm : X.mg "range" = none) (ha : DE X G E a τa) (hb : DE X G E b τb) (hs : starEach [a, b] X.env = [(false, eval a X.env), (false, eval b X.env)] := by rfl) (hs2 : starEach [b] X.env = [(false, eval b X.env)] := by rfl) :
    DI X G E tg (.Call (.Name "range" p) [a, b] [] pos) (xRg2 τa τb) := by
  have m : MonoI (xRg2 τa τb) := ⟨fun _ _ _ _ _ hz h q => ha.mono.m _ _ _ _ _ hz (fun _ _ q => hb.mono.m _ _ _ _ _ hz (fun _ _ q => rdK_mono (fun d q => rdK_mono (fun d' q => by
    cases d <;> first | exact q | skip
    cases d' <;> first | exact ⟨q.1, h _ _ _ q.2⟩ | exact q) q) q) q) q⟩
  refine ⟨PI.imp (pi_range2 hg hm (pa_cons ha.pe (pa_cons hb.pe pa_nil hs2) (by rw [hs, hs2])) hs hs2) fun σ H R h => ?_, m⟩
  obtain ⟨S, T, B, A, ω, δ, Z, F, z, q⟩ := h
  refine two_then (r := fun x y H2 Q => ∃ i j : Int, [x, y] = [V.int i, V.int j] ∧ (-(2 ^ 62) ≤ i ∧ i < 2 ^ 62 ∧ -(2 ^ 62) ≤ j ∧ j < 2 ^ 62) ∧ R (Itr i (j - i).toNat) H2) (Q := fun _ _ => True)
    (R := fun d1 d2 δ2 => match d1, d2 with
      | .int i, .int j => (Rg i ∧ Rg j) ∧ ∀ J H' ω' S' T' B' A', ItOk G X.K S T B A ω σ J (rgD i (j - i).toNat) none δ2 H' ω' S' T' B' A' → R J H'
      | _, _ => False) ha.mono hb.mono F z q fun {H2 ω2 δ2 d1 d2 v1 v2} F2 w t1 t2 q => ?_
  cases d1 <;> first | exact q.elim | skip
  cases d2 <;> first | exact q.elim | skip
  cases t1
  cases t2
  exact ⟨_, _, rfl, ⟨q.1.1.1, q.1.1.2, q.1.2.1, q.1.2.2⟩, q.2 _ _ _ _ _ _ _ (Src0 _ _ _ _ _ _ _ _ _ _ _ F2 w range_walk)⟩
/-- how many turns range(i, j, c) has -/
def rgN (i j c : Int) : Nat := Builtin.Range.rangeSize i j c |>.toNat
def RgC3 (i j c : Int) (n : Nat) : Prop := c ≠ 0 ∧ c.natAbs < 1073741824 ∧ Builtin.Range.small i j c = true ∧ Builtin.Range.rangeSize i j c = n
def xRg3 (τ τ' τ'' : DT) : DIt := fun Z δ Q => τ Z δ fun o δ1 => τ' Z δ1 fun o' δ2 => τ'' Z δ2 fun o'' δ3 => rdK o δ3 fun d => rdK o' δ3 fun d' => rdK o'' δ3 fun d'' => match d, d', d'' with
  | .int i, .int j, .int c => ∃ n, RgC i j c n ∧ Q (rgC i c n) none δ3
  | _, _, _ => False
/-- three things told -/
theorem three_then {K : PySem.W.Frag} {r : V → V → V → Hp → Prop} {σ : St} {H : Hp} (ma : Mono τa) (mb : Mono τb) (mc : Mono τc) {S : Addr → HO → Prop} {T B : Addr → Prop} {A : Nat → Option Addr} {ω : List (Option Addr)} {δ : Env} {Z : Ex → Prop} (F : Fr G K S T B A ω H σ δ) (z : EOk G K S T B Z E)
    {R : D → D → D → Env → Prop} (q : τa Z δ fun o1 δ1 => τb Z δ1 fun o2 δ2 => τc Z δ2 fun o3 δ3 => rdK o1 δ3 fun d1 => rdK o2 δ3 fun d2 => rdK o3 δ3 fun d3 => R d1 d2 d3 δ3)
    (k : ∀ {H2 : Hp} {ω2 : List (Option Addr)} {δ2 : Env} {d1 d2 d3 : D} {v1 v2 v3 : V}, Fr G K S T B A ω2 H2 σ δ2 → WSub ω2 ω → RepTop K H2 (Ow B ω2) d1 v1 → RepTop K H2 (Ow B ω2) d2 v2 → RepTop K H2 (Ow B ω2) d3 v3 → R d1 d2 d3 δ2 → r v1 v2 v3 H2) :
    tD G K E τa σ H fun x H1 => tD G K E τb σ H1 fun y H2 => tD G K E τc σ H2 fun w H3 => r x y w H3 := by
  refine tD_of F z (ma.m _ _ _ _ _ (fun _ z => z) (fun o1 δ1 q v1 H1 ω1 P1 e1 => ?_) q) ma
  refine tD_of (e1.go F) (e1.eok F z) (mb.m _ _ _ _ _ (fun _ z => z) (fun o2 δ2 q v2 H2 ω2 P2 e2 => ?_) q) mb
  refine tD_of (e2.go (e1.go F)) (e2.eok (e1.go F) (e1.eok F z)) (mc.m _ _ _ _ _ (fun _ z => z) (fun o3 δ3 q v3 H3 ω3 P3 e3 => ?_) q) mc
  obtain ⟨d1, h1, q⟩ := rdK_some q
  obtain ⟨d2, h2, q⟩ := rdK_some q
  obtain ⟨d3, h3, q⟩ := rdK_some q
  have F3 : Fr G K S T B A ω3 H3 σ δ3 := e1.back0 F (e2.back (e1.go F) e3.fr)
  have sub : ∀ a, Ow B ω3 a → Ow (Bp (Bp (Bp B P1) P2) P3) ω3 a := fun a h => ow_less (ow_less (ow_less h))
  -- the first thing, over two steps
  have c12 : Carry K H1 H3 (Ow (Bp B P1) ω1) (Ow (Bp (Bp (Bp B P1) P2) P3) ω3) := by
    refine pin_carry (S' := nS (nS S H1 B P1 ω1) H2 (Bp B P1) P2 ω2) (fun a o h n m => .inl (.inr ⟨h, n, .inl m⟩)) e1.fr.om e3.fr fun a h => ?_
    rcases h with (h | h) | h
    · exact .inl (.inl h)
    · right
      exact e2.rp.nt a h
    · right
      exact fun q => e3.rp.nt a h (e2.fr.dm a (.inl q))
  have r1 : ROp K T H3 (Ow (Bp (Bp (Bp B P1) P2) P3) ω3) σ P1 o1 v1 := e1.rp.carry c12 (fun _ _ n => n) fun p u hp hu m => e3.fr.st p u (.inl (.inr ⟨hu, nt_mu m, .inr hp⟩))
  exact k F3 (e3.ws.trans (e2.ws.trans e1.ws)) (RepTop.sub sub (e3.fr.rd r1 h1)) (RepTop.sub sub (e3.fr.rd (e2.old e3) h2)) (RepTop.sub sub (e3.fr.rd e3.rp h3)) q
theorem di_range3 {p : Pos} (hg : Gl X "range") (hm : X.mg "range" = none) (ha : DE X G E a τa) (hb : DE X G E b τb) (hc : DE X G E c τc) (hs : starEach [a, b, c] X.env = (false, eval a X.env) :: starEach [b, c] X.env := by rfl) (hs2 : starEach [b, c] X.env = (false, eval b X.env) :: starEach [c] X.env := by rfl) (hs3 : starEach [c] X.env = (false, eval c X.env) :: starEach [] X.env := by rfl)
    (hpi : ∀ {ta : TA}, PA X [a, b, c] ta → PI X tg (.Call (.Name "range" p) [a, b, c] [] pos) (iRng3 ta) := by exact fun h => pi_range3 (by assumption) (by assumption) h) : DI X G E tg (.Call (.Name "range" p) [a, b, c] [] pos) (xRg3 τa τb τc) := by
  have m : MonoI (xRg3 τa τb τc) := ⟨fun _ _ _ _ _ hz h q => ha.mono.m _ _ _ _ _ hz (fun _ _ q => hb.mono.m _ _ _ _ _ hz (fun _ _ q => hc.mono.m _ _ _ _ _ hz (fun _ _ q => rdK_mono (fun d q => rdK_mono (fun d' q => rdK_mono (fun d'' q => by
    cases d <;> first | exact q | skip
    cases d' <;> first | exact q | skip
    cases d'' <;> first | (obtain ⟨n, h1, h2⟩ := q; exact ⟨n, h1, h _ _ _ h2⟩) | exact q) q) q) q) q) q) q⟩
  refine ⟨PI.imp (hpi (pa_cons ha.pe (pa_cons hb.pe (pa_cons hc.pe pa_nil hs3) hs2) hs)) fun σ H R h => ?_, m⟩
  obtain ⟨S, T, B, A, ω, δ, Z, F, z, q⟩ := h
  refine three_then (r := fun x y w H2 => ∃ (i j c : Int) (n : Nat), [x, y, w] = [.int i, .int j, .int c] ∧ RgC i j c n ∧ R (Itc i c n) H2)
    (R := fun d d' d'' δ3 => match d, d', d'' with
      | .int i, .int j, .int c => ∃ n, RgC i j c n ∧ ∀ J H' ω' S' T' B' A', ItOk G X.K S T B A ω σ J (rgC i c n) none δ3 H' ω' S' T' B' A' → R J H'
      | _, _, _ => False) ha.mono hb.mono hc.mono F z q fun {H2 ω2 δ2 d1 d2 d3 v1 v2 v3} F2 w t1 t2 t3 q => ?_
  cases d1 <;> first | exact q.elim | skip
  cases d2 <;> first | exact q.elim | skip
  cases d3 <;> first | exact q.elim | skip
  cases t1
  cases t2
  cases t3
  obtain ⟨n, hr, q⟩ := q
  refine ⟨_, _, _, n, rfl, hr, q _ _ _ _ _ _ _ (Src0 _ _ _ _ _ _ _ _ _ _ _ F2 w (walk_same (by simp [rgC]) walk_rangeC (fun _ _ _ _ _ _ _ _ => trivial) fun i x H2 H3 T2 B2 ω2 σ2 δ2 hb hi F2 y => ?_))⟩
  obtain ⟨rfl, rfl⟩ := y
  exact ⟨_, mapRange_get hi, .same rfl⟩
/-! enumerate, reversed, zip -/
def enumD (ds : List D) : List D := ds.zipIdx.map fun p => .tup [.int (p.2 : Nat), p.1]
theorem enumD_get {ds : List D} {i : Nat} {d : D} (h : ds[i]? = some d) : (enumD ds)[i]? = some (.tup [.int (i : Nat), d]) := by
  unfold enumD
  rw [List.getElem?_map, List.getElem?_zipIdx, h] <;> simp
/-- the thing of a list only -/
def xItL (f : List D → List D) (τ : DT) : DIt := fun Z δ Q => τ Z δ fun o δ1 => rdK o δ1 fun d => match d with
  | .lst ds => lendK o δ1 fun l δ' => Q (f ds) l δ'
  | _ => False
theorem mono_itL {f : List D → List D} {τ : DT} (m : Mono τ) : MonoI (xItL f τ) := ⟨fun _ _ _ _ _ hz h q => m.m _ _ _ _ _ hz (fun _ _ q => rdK_mono (fun d q => by
  split at q
  · exact lendK_mono (fun l δ' q => h _ _ _ q) q
  · exact q) q) q⟩
theorem di_enum {elts : List Expr} {kk : Nat} {p tpos : Pos} (hg : Gl X "enumerate") (hm : X.mg "enumerate" = none) (ha : DE X G E a τa) (hs : starEach [a] X.env = [(false, eval a X.env)] := by rfl) :
    DI X G E (.Tuple elts kk tpos) (.Call (.Name "enumerate" p) [a] [] pos) (xItL enumD τa) := by
  refine ⟨PI.imp (pi_enum hg hm (pa_cons ha.pe pa_nil hs) hs) fun σ H R h => ?_, mono_itL ha.mono⟩
  obtain ⟨S, T, B, A, ω, δ, Z, F, z, q⟩ := h
  refine tD_of F z (ha.mono.m _ _ _ _ _ (fun _ z => z) (fun o δ1 q v H1 ω1 P ev => ?_) q) ha.mono
  obtain ⟨d, er, q⟩ := rdK_some q
  cases d with
  | lst ds =>
    obtain ⟨a, vs, l, δ', ω', S', T', B', A', rfl, q, src, h1, r, st⟩ := ev.srcL F er q
    refine ⟨a, vs, rfl, SqL.of h1, q _ _ _ _ _ _ _ (src.it (walk_same (by rw [← r.length]; simp [enumD]) walk_enum (fun T2 B2 ω2 H2 σ2 δ2 hb F2 => SqL.of (st T2 B2 ω2 H2 σ2 δ2 F2)) fun i x H2 H3 T2 B2 ω2 σ2 δ2 hb hi F2 y => ?_))⟩
    obtain ⟨Tn, x1, y1, rfl, hT, rfl, e1, e2⟩ := y
    cases e1
    obtain ⟨d, ed, rd⟩ := RepL.get' (RepL.carry (src.carry hb F2) r) e2
    exact ⟨_, enumD_get ed, gv_tup2 hT rfl rd⟩
  | _ => exact q.elim
theorem di_rev {p : Pos} (hg : Gl X "reversed") (hm : X.mg "reversed" = none) (ha : DE X G E a τa) (hs : starEach [a] X.env = (false, eval a X.env) :: starEach [] X.env := by rfl) : DI X G E tg (.Call (.Name "reversed" p) [a] [] pos) (xItL List.reverse τa) := by
  refine ⟨PI.imp (pi_revA hg hm ha.pe hs) fun σ H R h => ?_, mono_itL ha.mono⟩
  obtain ⟨S, T, B, A, ω, δ, Z, F, z, q⟩ := h
  refine tD_of F z (ha.mono.m _ _ _ _ _ (fun _ z => z) (fun o δ1 q v H1 ω1 P ev => ?_) q) ha.mono
  obtain ⟨d, er, q⟩ := rdK_some q
  cases d with
  | lst ds =>
    obtain ⟨a, vs, l, δ', ω', S', T', B', A', rfl, q, src, h1, r, st⟩ := ev.srcL F er q
    have hl := r.length
    refine ⟨a, vs, rfl, .inl ⟨SqL.of h1, q _ _ _ _ _ _ _ (src.it (walk_same (by simp [hl]) walk_rev (fun T2 B2 ω2 H2 σ2 δ2 hb F2 => SqL.of (st T2 B2 ω2 H2 σ2 δ2 F2)) fun i x H2 H3 T2 B2 ω2 σ2 δ2 hb hi F2 y => ?_))⟩⟩
    obtain ⟨rfl, e⟩ := y
    obtain ⟨d, ed, rd⟩ := RepL.get' (RepL.carry (src.carry hb F2) r) e
    refine ⟨d, ?_, .same rd⟩
    rw [List.getElem?_reverse (by omega), hl]
    exact ed
  | _ => exact q.elim
def zipD (ds es : List D) : List D := (ds.zip es).map fun p => .tup [p.1, p.2]
def xZip (τs : DTA) : DIt := fun Z δ Q => τs Z δ fun os δ1 => kpLK os fun as => match as with
  | [.lst ds, .lst es] => Q (zipD ds es) none δ1
  | [.tup ds, .tup es] => Q (zipD ds es) none δ1
  | _ => False
theorem mono_zip {τs : DTA} (m : MonoA τs) : MonoI (xZip τs) := ⟨fun _ _ _ _ _ hz h q => m.m _ _ _ _ _ hz (fun _ _ q => kpLK_mono (fun d q => by
  split at q
  · exact h _ _ _ q
  · exact h _ _ _ q
  · exact q) q) q⟩
theorem zipD_get {ds es : List D} {i : Nat} {d e : D} (h1 : ds[i]? = some d) (h2 : es[i]? = some e) : (zipD ds es)[i]? = some (.tup [d, e]) := by
  have h : (ds.zip es)[i]? = some (d, e) := List.getElem?_zip_eq_some.mpr ⟨h1, h2⟩
  unfold zipD
  rw [List.getElem?_map, h] <;> rfl
theorem walk_zipT {K : PySem.W.Frag} {a b : Addr} {xs ys : List V} {n : Nat} (hn : n = min xs.length ys.length) : Walk (ItzT K a b) n (fun H => SqT K H a xs ∧ SqT K H b ys) (YPair (fun i => xs[i]?) (fun i => ys[i]?)) := by
  subst hn
  refine ⟨fun i _ hi q => ?_, fun _ q => ⟨xs, ys, q.1, q.2, by omega⟩, fun i H v H' _ q y => ?_⟩
  · have h1 : i < xs.length := by omega
    have h2 : i < ys.length := by omega
    exact ⟨xs, ys, xs[i], ys[i], q.1, q.2, by simp [h1], by simp [h2]⟩
  · obtain ⟨T, x, z, h1, h2, h3, h4, h5⟩ := y
    exact ⟨T, x, z, h1, h2, h3, h4 xs q.1, h5 ys q.2⟩
theorem di_zip {elts : List Expr} {kk : Nat} {p tpos : Pos} (hg : Gl X "zip") (hm : X.mg "zip" = none) (ha : DA X G E [e, e2] τs)
    (hs : starEach [e, e2] X.env = (false, eval e X.env) :: starEach [e2] X.env := by rfl) (hpl : (backTo pos (starEach [e2] X.env)).any (·.1) = false := by rfl) : DI X G E (.Tuple elts kk tpos) (.Call (.Name "zip" p) [e, e2] [] pos) (xZip τs) := by
  refine ⟨PI.imp (pi_zipA hg hm ha.pa hs hpl) fun σ H R h => ?_, mono_zip ha.mono⟩
  obtain ⟨S, T, B, A, ω, δ, Z, F, z, q⟩ := h
  refine tA_of ha.mono F z q fun os δ1 vs H1 ω1 Ps q ev => ?_
  obtain ⟨as, ea, q⟩ := kpLK_some q
  have r := ev.kp F ea
  have F1 := ev.drop F
  have ev0 : Ev G X.K S T B A ω H1 σ δ1 ω1 none (.v .non) .non := ⟨by rw [bp_none, bp_none]; exact F1, ev.ws, rfl, rfl⟩
  have src := ev0.src F
  split at q
  · rename_i ds es
    obtain ⟨v1, r', rfl, ⟨x, xs, rfl, hx, nx, rx⟩, v2, r'', rfl, ⟨y, ys, rfl, hy, ny, ry⟩, rfl⟩ := r
    have lx := rx.length
    have ly := ry.length
    refine ⟨x, y, xs, ys, rfl, .inl ⟨SqL.of hx, SqL.of hy, q _ _ _ _ _ _ _ (src.it (walk_same (n := min xs.length ys.length) (by simp [zipD, lx, ly]) (walk_zip rfl) (fun T2 B2 ω2 H2 σ2 δ2 hb F2 => ⟨SqL.of (F2.st x _ (.inr ⟨hx, nt_lst, .inl (by rw [bp_none]; exact nx)⟩)), SqL.of (F2.st y _ (.inr ⟨hy, nt_lst, .inl (by rw [bp_none]; exact ny)⟩))⟩) fun i x H2 H3 T2 B2 ω2 σ2 δ2 hb hi F2 yy => ?_))⟩⟩
    obtain ⟨Tn, x1, y1, rfl, hT, rfl, e1, e2⟩ := yy
    have c := src.carry hb F2
    rw [bp_none] at c
    obtain ⟨d, ed, rd⟩ := RepL.get' (RepL.carry c rx) e1
    obtain ⟨d', ed', rd'⟩ := RepL.get' (RepL.carry c ry) e2
    exact ⟨_, zipD_get ed ed', gv_tup2 hT rd rd'⟩
  · rename_i ds es
    obtain ⟨v1, r', rfl, ⟨x, xs, rfl, hx, rx⟩, v2, r'', rfl, ⟨y, ys, rfl, hy, ry⟩, rfl⟩ := r
    have lx := rx.length
    have ly := ry.length
    refine ⟨x, y, xs, ys, rfl, .inr ⟨hx, hy, q _ _ _ _ _ _ _ (src.it (walk_same (n := min xs.length ys.length) (by simp [zipD, lx, ly]) (walk_zipT rfl) (fun T2 B2 ω2 H2 σ2 δ2 hb F2 => ⟨(src.carry hb F2).t _ _ hx, (src.carry hb F2).t _ _ hy⟩) fun i x H2 H3 T2 B2 ω2 σ2 δ2 hb hi F2 yy => ?_))⟩⟩
    obtain ⟨Tn, x1, y1, rfl, hT, rfl, e1, e2⟩ := yy
    have c := src.carry hb F2
    rw [bp_none] at c
    obtain ⟨d, ed, rd⟩ := RepL.get' (RepL.carry c rx) e1
    obtain ⟨d', ed', rd'⟩ := RepL.get' (RepL.carry c ry) e2
    exact ⟨_, zipD_get ed ed', gv_tup2 hT rd rd'⟩
  · exact q.elim
end
end DL

set_option Elab.async false
set_option linter.all false
set_option maxRecDepth 100000
namespace DL
open PySem L2
/-! ### for, while -/
def loopE (N B : Env → Prop) (F : DEnds) : DEnds := ⟨N, F.rt, B, N, F.ex⟩
theorem loopE_le {N N' B B' : Env → Prop} {F F' : DEnds} (h : ∀ δ, N δ → N' δ) (h' : ∀ δ, B δ → B' δ) (le : F.Le F') : (loopE N B F).Le (loopE N' B' F') := ⟨h, le.rt, h', h, le.ex⟩
def forL (γ : DTg) (τ : DSt) (l : Option Nat) (F : DEnds) : List D → Env → Prop
  | [], δ => F.nx (un l δ)
  | d :: ds, δ => γ (.v d) δ fun δ' => τ (loopE (forL γ τ l F ds) (fun δ => F.nx (un l δ)) F) δ'
def xFor (ι : DIt) (γ : DTg) (τ : DSt) : DSt := fun F δ => ι F.ex δ fun ds l δ1 => forL γ τ l F ds δ1
def whN (θ : DTT) (τ : DSt) (F : DEnds) : Nat → Env → Prop
  | 0, _ => False
  | n + 1, δ => θ F.ex δ fun b δ' => if b = true then τ (loopE (whN θ τ F n) F.nx F) δ' else F.nx δ'
def xWh (θ : DTT) (τ : DSt) : DSt := fun F δ => ∃ n, whN θ τ F n δ
section
variable {X : Cx} {G : Amb} {E : XK} {tg iter c : Expr} {body : List Stmt} {γ : DTg} {τ : DSt} {θ : DTT} {ι : DIt} {is : List Nat} {pos : Pos}
theorem forL_mono {l : Option Nat} {F F' : DEnds} (mg : MonoG γ) (m : MonoS τ) (le : F.Le F') : ∀ {ds : List D} {δ : Env}, forL γ τ l F ds δ → forL γ τ l F' ds δ
  | [], _, q => le.nx _ q
  | d :: ds, _, q => mg.m _ _ _ _ (fun δ' q => m.m _ _ _ (loopE_le (fun _ q => forL_mono mg m le q) (fun _ q => le.nx _ q) le) q) q
theorem mono_for (mi : MonoI ι) (mg : MonoG γ) (m : MonoS τ) : MonoS (xFor ι γ τ) := ⟨fun _ _ _ l q => mi.m _ _ _ _ _ l.ex (fun _ _ _ q => forL_mono mg m l q) q⟩
theorem whN_mono {F F' : DEnds} (mt : MonoT θ) (m : MonoS τ) (le : F.Le F') : ∀ {n : Nat} {δ : Env}, whN θ τ F n δ → whN θ τ F' n δ
  | 0, _, q => q
  | n + 1, _, q => mt.m _ _ _ _ _ le.ex (fun b _ q => by
    cases b with
    | true => exact m.m _ _ _ (loopE_le (fun _ q => whN_mono mt m le q) le.nx le) q
    | false => exact le.nx _ q) q
theorem mono_wh (mt : MonoT θ) (m : MonoS τ) : MonoS (xWh θ τ) := ⟨fun _ _ _ l ⟨n, q⟩ => ⟨n, whN_mono mt m l q⟩⟩
theorem ds_for (hp : PassesOwn (model X.prog X.w) X.A X.env X.xe) (hc : X.calm = true) (hi : DI X G E tg iter ι) (hg : DG X G tg is γ) (hb : DSs X G E body τ) (hs : ∀ x, foldedSetIterable iter X.env x = pure x := by intro _; rfl) :
    DS X G E (.For tg iter body [] pos) (xFor ι γ τ) := ⟨PS.imp (ps_for hp hc hi.pi hg.pg hb.ps hs) fun D σ H h => by
  obtain ⟨S, T, B, A, ω, δ, F, Fs, z, en, q⟩ := h
  refine ⟨S, T, B, A, ω, δ, F.ex, Fs, z, hi.mono.m _ _ _ _ _ (fun _ z => z) (fun ds l δ1 q J H1 ω1 S' T' B' A' it => ?_) q⟩
  obtain ⟨Gd, Y, wk, hG, hY⟩ := it.walk
  have z' : EOk G X.K S' T' B' F.ex E := z.less it.hS it.hT it.hB
  have rt' : ∀ d v H', G.inv H' → (∀ a o, S' a o → H' a = some o) → (∀ a, T' a → nT H' a) → Rep X.K H' B' d v → F.rt d → D.rt v H' := fun d v H' i s t r q => en.rt d v H' i (fun a o h => s a o (it.hS a o h)) (fun a h => t a (it.hT a h)) (Rep.carry (Carry.sub it.hB) r) q
  have out : ∀ δ' σ' H' ω', Fr G X.K S' T' B' A' ω' H' σ' δ' → F.nx (un l δ') → D.nx σ' H' := fun δ' σ' H' ω' f q => by
    obtain ⟨ω3, f3, _⟩ := it.back0 f
    exact en.nx _ _ _ _ f3 q
  refine for_it wk (fun i σ2 H2 => ∃ ω2 δ2, Fr G X.K S' T' B' A' ω2 H2 σ2 δ2 ∧ forL γ τ l F (ds.drop i) δ2) ⟨ω1, δ1, it.fr, q⟩ (fun i σ2 H2 _ ⟨ω2, δ2, f, _⟩ => hG _ _ _ _ _ _ (fun _ h => .inl h) f) ?_ ?_
  · rintro i x σ2 H2 H3 hi' ⟨ω2, δ2, f, q⟩ y
    obtain ⟨d, ed, gv⟩ := hY i x H2 H3 T' B' ω2 σ2 δ2 (fun _ h => .inl h) hi' f y
    have e : ds.drop i = d :: ds.drop (i + 1) := by
      have := List.drop_eq_getElem_cons hi'
      rw [this]
      have e2 := List.getElem?_eq_getElem hi'
      rw [ed] at e2
      rw [Option.some.inj e2]
    rw [e] at q
    obtain ⟨P, ev⟩ := gv.ev f .refl
    refine ⟨S', T', B', A', ω2, δ2, P, .v d, f.stat, ev.fr, ev.rp, hg.mono.m _ _ _ _ (fun δ' q σ' H' ω' f' _ => ?_) q⟩
    exact sD_of (F := loopE (forL γ τ l F (ds.drop (i + 1))) (fun δ => F.nx (un l δ)) F) f' z' ⟨fun δ4 σ4 H4 ω4 f4 q4 => ⟨ω4, δ4, f4, q4⟩, fun δ4 σ4 H4 ω4 f4 q4 => out _ _ _ _ f4 q4, fun δ4 σ4 H4 ω4 f4 q4 => ⟨ω4, δ4, f4, q4⟩, rt'⟩ q
  · rintro σ2 H2 ⟨ω2, δ2, f, q⟩
    rw [List.drop_length] at q
    exact out _ _ _ _ f q, mono_for hi.mono hg.mono hb.mono⟩
theorem ds_while (hp : PassesOwn (model X.prog X.w) X.A X.env X.xe) (hc : DB X G E c θ) (hb : DSs X G E body τ) : DS X G E (.While c body [] pos) (xWh θ τ) := ⟨PS.imp (ps_while hp hc.pt hb.ps) fun D σ H h => by
  obtain ⟨S, T, B, A, ω, δ, F, Fs, z, en, n, q⟩ := h
  refine ⟨fun m σ2 H2 => ∃ ω2 δ2, Fr G X.K S T B A ω2 H2 σ2 δ2 ∧ whN θ τ F m δ2, ⟨n, ω, δ, Fs, q⟩, ?_⟩
  rintro m σ2 H2 ⟨ω2, δ2, f, q⟩
  cases m with
  | zero => exact q.elim
  | succ m =>
    refine tT_of hc.mono f z q fun b δ' H' ω' q f' w => ?_
    cases b with
    | true => exact ⟨fun σ4 H4 => ∃ ω4 δ4, Fr G X.K S T B A ω4 H4 σ4 δ4 ∧ whN θ τ F m δ4, fun σ4 H4 w4 => ⟨m, Nat.lt_succ_self m, w4⟩,
        sD_of (F := loopE (whN θ τ F m) F.nx F) f' z ⟨fun δ4 σ4 H4 ω4 f4 q4 => ⟨ω4, δ4, f4, q4⟩, fun δ4 σ4 H4 ω4 f4 q4 => en.nx _ _ _ _ f4 q4, fun δ4 σ4 H4 ω4 f4 q4 => ⟨ω4, δ4, f4, q4⟩, en.rt⟩ q⟩
    | false => exact en.nx _ _ _ _ f' q, mono_wh hc.mono hb.mono⟩
end
/-! ### comprehensions -/
def wipeE : List Nat → Env → Env
  | [], δ => δ
  | i :: is, δ => (wipeE is δ).set i .un
def wipeW : List Nat → List (Option Addr) → List (Option Addr)
  | [], ω => ω
  | i :: is, ω => (wipeW is ω).set i none
/-- a comprehension's names get back what they had -/
def restE (δ0 : Env) : List Nat → Env → Env
  | [], δ => δ
  | i :: is, δ => match δ0[i]? with
    | some s => (restE δ0 is δ).set i s
    | none => restE δ0 is δ
def plainSl : Sl → Bool
  | .un => true
  | .val _ => true
  | _ => false
def lcL (γ : DTg) (θ : DTT) (τ : DT) (vs : List Nat) (k : List D → Env → Prop) : List D → Env → List D → Prop
  | [], δ, acc => k acc δ
  | d :: ds, δ, acc => γ (.v d) δ fun δ1 => θ (fun _ => False) δ1 fun b δ2 => if b = true then τ (fun _ => False) δ2 fun o δ3 => kpK o fun y => lcL γ θ τ vs k ds (wipeE vs δ3) (acc ++ [y]) else lcL γ θ τ vs k ds (wipeE vs δ2) acc
def xLc (ι : DIt) (γ : DTg) (θ : DTT) (τ : DT) (vs : List Nat) : DT := fun Z δ Q => ι Z δ fun ds l δ1 => ds.length ≤ 16777216 ∧ (vs.all fun i => match δ1[i]? with
    | some s => plainSl s
    | none => true) = true ∧ lcL γ θ τ vs (fun acc δ2 => Q (.n acc) (un l (restE δ1 vs δ2))) ds (wipeE vs δ1) []
def xYes : DTT := fun _ δ Q => Q true δ
section
variable {γ : DTg} {θ : DTT} {τ : DT} {ι : DIt} {vs : List Nat}
theorem lcL_mono {k k' : List D → Env → Prop} (mg : MonoG γ) (mt : MonoT θ) (m : Mono τ) (h : ∀ acc δ, k acc δ → k' acc δ) : ∀ {ds : List D} {δ : Env} {acc : List D}, lcL γ θ τ vs k ds δ acc → lcL γ θ τ vs k' ds δ acc
  | [], _, _, q => h _ _ q
  | d :: ds, _, _, q => mg.m _ _ _ _ (fun δ' q => mt.m _ _ _ _ _ (fun _ z => z) (fun b _ q => by
    cases b with
    | true => exact m.m _ _ _ _ _ (fun _ z => z) (fun _ _ q => kpK_mono (fun _ q => lcL_mono mg mt m h q) q) q
    | false => exact lcL_mono mg mt m h q) q) q
theorem mono_lc (mi : MonoI ι) (mg : MonoG γ) (mt : MonoT θ) (m : Mono τ) : Mono (xLc ι γ θ τ vs) := ⟨fun _ _ _ _ _ hz h q => mi.m _ _ _ _ _ hz (fun _ _ _ q => ⟨q.1, q.2.1, lcL_mono mg mt m (fun _ _ q => h _ _ q) q.2.2⟩) q⟩
theorem wipeE_get {δ : Env} {j : Nat} {s : Sl} : ∀ {vs : List Nat}, (wipeE vs δ)[j]? = some s → (j ∈ vs ∧ s = .un) ∨ (j ∉ vs ∧ δ[j]? = some s)
  | [], h => .inr ⟨by simp, h⟩
  | i :: is, h => by
    rcases set_get h with ⟨rfl, rfl, _⟩ | ⟨hn, h⟩
    · exact .inl ⟨List.mem_cons_self, rfl⟩
    · rcases wipeE_get h with ⟨h1, h2⟩ | ⟨h1, h2⟩
      · exact .inl ⟨List.mem_cons_of_mem _ h1, h2⟩
      · exact .inr ⟨by simp [hn, h1], h2⟩
theorem wipeE_len {δ : Env} : ∀ {vs : List Nat}, (wipeE vs δ).length = δ.length
  | [] => rfl
  | i :: is => by unfold wipeE; rw [List.length_set, wipeE_len]
theorem wipeW_len {ω : List (Option Addr)} : ∀ {vs : List Nat}, (wipeW vs ω).length = ω.length
  | [] => rfl
  | i :: is => by unfold wipeW; rw [List.length_set, wipeW_len]
theorem wipeW_get {ω : List (Option Addr)} {j : Nat} {a : Addr} : ∀ {vs : List Nat}, (wipeW vs ω)[j]? = some (some a) → j ∉ vs ∧ ω[j]? = some (some a)
  | [], h => ⟨by simp, h⟩
  | i :: is, h => by
    rcases set_get h with ⟨_, q, _⟩ | ⟨hn, h⟩
    · cases q
    · obtain ⟨h1, h2⟩ := wipeW_get h
      exact ⟨by simp [hn, h1], h2⟩
theorem wipeW_out {ω : List (Option Addr)} {j : Nat} : ∀ {vs : List Nat}, j ∉ vs → (wipeW vs ω)[j]? = ω[j]?
  | [], _ => rfl
  | i :: is, h => by
    unfold wipeW
    rw [List.getElem?_set_ne (fun z => h (by rw [z]; exact List.mem_cons_self)), wipeW_out fun z => h (List.mem_cons_of_mem _ z)]
theorem wipeW_in {ω : List (Option Addr)} {j : Nat} (hj : j < ω.length) : ∀ {vs : List Nat}, j ∈ vs → (wipeW vs ω)[j]? = some none
  | i :: is, h => by
    unfold wipeW
    by_cases e : i = j
    · subst e; rw [List.getElem?_set_self (by rw [wipeW_len]; exact hj)]
    · rw [List.getElem?_set_ne e]
      exact wipeW_in hj ((List.mem_cons.mp h).resolve_left (Ne.symm e))
theorem wipe_out' {σ : St} {j : Nat} : ∀ {vs : List Nat}, j ∉ vs → (wipe σ vs)[j]? = σ[j]?
  | [], _ => rfl
  | i :: is, h => by
    unfold wipe
    rw [List.getElem?_set_ne (fun z => h (by rw [z]; exact List.mem_cons_self)), wipe_out' fun z => h (List.mem_cons_of_mem _ z)]
theorem wipe_in {σ : St} {j : Nat} (hj : j < σ.length) : ∀ {vs : List Nat}, j ∈ vs → (wipe σ vs)[j]? = some none
  | i :: is, h => by
    unfold wipe
    by_cases e : i = j
    · subst e; rw [List.getElem?_set_self (by rw [wipe_length]; exact hj)]
    · rw [List.getElem?_set_ne e]
      exact wipe_in hj ((List.mem_cons.mp h).resolve_left (Ne.symm e))
theorem wipe_eq {σ σ2 : St} {is : List Nat} {ω ω' : List (Option Addr)} (h : SameBut is (wipe σ vs) σ2 ω ω') (hi : ∀ j ∈ is, j ∈ vs) : wipe σ2 vs = wipe σ vs := by
  apply List.ext_getElem?
  intro j
  have hl : σ2.length = σ.length := by rw [h.1, wipe_length]
  by_cases hj : j ∈ vs
  · by_cases hlt : j < σ.length
    · rw [wipe_in (by omega) hj, wipe_in hlt hj]
    · rw [List.getElem?_eq_none (by rw [wipe_length]; omega), List.getElem?_eq_none (by rw [wipe_length]; omega)]
  · rw [wipe_out' hj, h.2.1 j fun z => hj (hi j z)]
end
section
variable {G : Amb} {K : PySem.W.Frag} {S : Addr → HO → Prop} {T B : Addr → Prop} {A : Nat → Option Addr} {ω ω1 ω2 : List (Option Addr)} {H H1 H2 : Hp} {σ σ2 : St} {δ δ1 δ2 : Env} {vs : List Nat}
/-- the slots at vs are forgotten -/
theorem Fr.wipe (F : Fr G K S T B A ω H σ2 δ) (hl : σ2.length = σ.length) (hs : ∀ j, j ∉ vs → σ2[j]? = σ[j]?) : Fr G K S T B A (wipeW vs ω) H (L2.wipe σ vs) (wipeE vs δ) := by
  have w : WSub (wipeW vs ω) ω := fun i a h => (wipeW_get h).2
  refine ⟨F.inv, F.cb, F.bt, F.sT, F.sc, F.al, F.bm, F.dm, F.st, fun j b h => F.sw j b (w j b h), fun j k b h1 h2 => F.inj j k b (w j b h1) (w k b h2), fun j b h => F.wm j b (w j b h), by rw [wipe_length, wipeE_len, ← hl]; exact F.len, by rw [wipeW_len, wipeE_len]; exact F.lw, fun j s h => ?_⟩
  rcases wipeE_get h with ⟨hj, rfl⟩ | ⟨hj, h⟩
  · have hlt : j < ω.length := by
      have := (List.getElem?_eq_some_iff.mp h).1
      rw [wipeE_len, ← F.lw] at this
      exact this
    exact wipeW_in hlt hj
  · rw [wipe_out' hj, wipeW_out hj, ← hs j hj]
    exact (F.slot j s h).carry (Carry.sub (w.ow fun _ z => z)) (fun _ _ z => z) fun _ _ _ z _ => z
/-- an object that is ours but no name's is changed -/
theorem Fr.writeB (F : Fr G K S T B A ω H σ δ) {l : Addr} {o o' : HO} (hb : B l) (hc : ¬ G.C l) (hS : ∀ u, ¬ S l u) (h : H l = some o) (m : Mu o) (m' : Mu o') : Fr G K S T B A ω (upd H l o') σ δ := by
  have c : Carry K H (upd H l o') (Ow B ω) (Ow B ω) := Carry.own (.inl hb) h m
  refine ⟨G.wr H l o o' F.inv hc h m m', F.cb, F.bt, F.sT, F.sc, F.al, fun a ha => ?_, fun a ha => ?_, fun a u hu => ?_, F.sw, F.inj, fun j a ha => ?_, F.len, F.lw, fun j u hu => ?_⟩
  · by_cases z : a = l
    · rw [z]; exact ⟨o', upd_same, m'⟩
    · rw [upd_ne z]; exact F.bm a ha
  · by_cases z : a = l
    · rw [z]; exact ⟨o', upd_same, nt_mu m'⟩
    · obtain ⟨u, e, n⟩ := F.dm a ha
      exact ⟨u, by rw [upd_ne z]; exact e, n⟩
  · rw [upd_ne fun z => hS u (by rw [← z]; exact hu)]; exact F.st a u hu
  · rw [upd_ne fun z => (F.sw j a ha).1 (by rw [z]; exact hb)]; exact F.wm j a ha
  · exact (F.slot j u hu).carry c (fun _ _ z => z) fun a w hw ha _ => by rw [upd_ne fun z => (F.sw j a hw).1 (by rw [z]; exact hb)]; exact ha
/-- the names of a comprehension are as they were ahead of it -/
theorem restE_get {δ0 : Env} {j : Nat} {s : Sl} : ∀ {vs : List Nat} {δ : Env}, (restE δ0 vs δ)[j]? = some s → (j ∈ vs ∧ δ0[j]? = some s) ∨ (δ[j]? = some s ∧ (j ∉ vs ∨ δ0[j]? = none))
  | [], _, h => .inr ⟨h, .inl (by simp)⟩
  | i :: is, δ, h => by
    unfold restE at h
    cases e : δ0[i]? with
    | none =>
      simp only [e] at h
      rcases restE_get h with ⟨h1, h2⟩ | ⟨h1, h2⟩
      · exact .inl ⟨List.mem_cons_of_mem _ h1, h2⟩
      · by_cases hj : j = i
        · subst hj; exact .inr ⟨h1, .inr e⟩
        · rcases h2 with h2 | h2
          · exact .inr ⟨h1, .inl (by simp [hj, h2])⟩
          · exact .inr ⟨h1, .inr h2⟩
    | some s0 =>
      simp only [e] at h
      rcases set_get h with ⟨rfl, rfl, _⟩ | ⟨hn, h⟩
      · exact .inl ⟨List.mem_cons_self, e⟩
      · rcases restE_get h with ⟨h1, h2⟩ | ⟨h1, h2⟩
        · exact .inl ⟨List.mem_cons_of_mem _ h1, h2⟩
        · rcases h2 with h2 | h2
          · exact .inr ⟨h1, .inl (by simp [hn, h2])⟩
          · exact .inr ⟨h1, .inr h2⟩
theorem restE_len {δ0 : Env} : ∀ {vs : List Nat} {δ : Env}, (restE δ0 vs δ).length = δ.length
  | [], _ => rfl
  | i :: is, δ => by
    unfold restE
    split
    · rw [List.length_set, restE_len]
    · rw [restE_len]
end
end DL

set_option Elab.async false
set_option linter.all false
set_option maxRecDepth 100000
namespace DL
open PySem L2
/-! ### a comprehension's turns -/
abbrev E0' : XK := fun _ _ _ => False
section
variable {X : Cx} {G : Amb} {E : XK} {tg iter elt : Expr} {γ : DTg} {θ : DTT} {τ : DT} {ι : DIt} {is vs : List Nat}
theorem Fr.narrow {G : Amb} {K : PySem.W.Frag} {S S' : Addr → HO → Prop} {T T' B B' : Addr → Prop} {A : Nat → Option Addr} {ω ω2 : List (Option Addr)} {H H2 : Hp} {σ σ2 : St} {δ δ2 : Env} (F : Fr G K S T B A ω H σ δ) (F2 : Fr G K S' T' B' A ω2 H2 σ2 δ2)
    (h1 : ∀ a o, S a o → S' a o) (h2 : ∀ a, T a → T' a) (h3 : ∀ a, B a → B' a) (hl : ∀ a o, S' a o → B a → S a o) : Fr G K S T B A ω2 H2 σ2 δ2 :=
  F2.less h1 h2 h3 F.cb F.bt F.sT F.al fun a o h ⟨i, q⟩ => hl a o h (F.al i a q)
theorem nS_B {S : Addr → HO → Prop} {H : Hp} {B : Addr → Prop} {ω : List (Option Addr)} {a : Addr} {o : HO} (h : nS S H B none ω a o) (b : B a) : S a o := by
  rcases h with h | ⟨_, _, h | h⟩
  · exact h
  · exact (h (by rw [bp_none]; exact .inl b)).elim
  · cases h
theorem lc_core' {S : Addr → HO → Prop} {T B : Addr → Prop} {A : Nat → Option Addr} {ω : List (Option Addr)} {H : Hp} {σ : St} {δ : Env} {Z : Ex → Prop} {Q : VK} (mi : MonoI ι) (mg : MonoG γ) (mt : MonoT θ) (m : Mono τ) (hv : ∀ j ∈ is, j ∈ vs)
    (Fs : Fr G X.K S T B A ω H σ δ) (z : EOk G X.K S T B Z E) (q : xLc ι γ θ τ vs Z δ (tK G X.K S T B A ω σ Q)) : tLc (tI G X.K E ι) (tG G X.K is γ) (tT G X.K E0' θ) (tD G X.K E0' τ) vs σ H Q := by
  refine ⟨S, T, B, A, ω, δ, Z, Fs, z, mi.m _ _ _ _ _ (fun _ z => z) (fun ds l δ1 q J H1 ω1 S' T' B' A' it => ?_) q⟩
  obtain ⟨hlen, hplain, q⟩ := q
  intro D hD
  obtain ⟨Gd, Y, wk, hG, hY⟩ := it.walk
  have F1 := it.fr
  have Fw : Fr G X.K (nS S' H1 B' none ω1) (nT H1) B' A' (wipeW vs ω1) H1 (wipe σ vs) (wipeE vs δ1) := F1.pin.wipe rfl fun _ _ => rfl
  have FD := Fw.laidP (o := .lst []) hD trivial
  have nCD : ¬ G.C D := fun c => by obtain ⟨u, e, _⟩ := F1.bm D (F1.cb D c); rw [hD] at e; cases e
  have nBD : ¬ B' D := fun c => by obtain ⟨u, e, _⟩ := F1.bm D c; rw [hD] at e; cases e
  have nSD : ∀ u, ¬ nS S' H1 B' none ω1 D u := fun u h => by have := Fw.st D u h; rw [hD] at this; cases this
  have toS : ∀ {ω2 : List (Option Addr)} {H2 : Hp} {σ2 : St} {δ2 : Env}, Fr G X.K (nS S' H1 B' none ω1) (Bp (nT H1) (some D)) (Bp B' (some D)) A' ω2 H2 σ2 δ2 → Fr G X.K S' T' B' A' ω2 H2 σ2 δ2 := fun f =>
    F1.narrow f (fun _ _ h => .inl h) (fun a h => .inl (F1.dm a h)) (fun _ h => .inl h) fun a o h b => nS_B h b
  have toS2 : ∀ {ω2 : List (Option Addr)} {H2 : Hp} {σ2 : St} {δ2 : Env}, Fr G X.K (nS S' H1 B' none ω1) (Bp (nT H1) (some D)) (Bp B' (some D)) A' ω2 H2 σ2 δ2 → Fr G X.K S' (Bp (nT H1) (some D)) (Bp B' (some D)) A' ω2 H2 σ2 δ2 := fun {ω2 H2 σ2 δ2} f =>
    f.less (fun _ _ h => .inl h) (fun _ h => h) (fun _ h => h) (fun a c => .inl (F1.cb a c)) (fun a h => h.elim (fun z => .inl (F1.dm a (F1.bt a z))) .inr) (fun a o h => .inl (F1.dm a (F1.sT a o h))) (fun i a h => .inl (F1.al i a h)) fun a o h ⟨i, q⟩ => nS_B h (F1.al i a q)
  have hB2 : ∀ a, Bp B' (some D) a → B' a ∨ ¬ nT H1 a := fun a h => h.elim .inl fun e => by cases e; exact .inr fun ⟨o, q, _⟩ => by rw [hD] at q; cases q
  have cB : Carry X.K H1 H1 (Ow B' ω1) (Ow B' ω1) := Carry.sub fun _ z => z
  refine lc_it wk (fun i H => ∃ ω2 δ2 acc accV, Fr G X.K (nS S' H1 B' none ω1) (Bp (nT H1) (some D)) (Bp B' (some D)) A' ω2 H (wipe σ vs) δ2 ∧ H D = some (.lst accV) ∧ RepL X.K H (Ow (Bp B' (some D)) ω2) acc accV ∧
      lcL γ θ τ vs (fun acc δ2 => tK G X.K S T B A ω σ Q (.n acc) (un l (restE δ1 vs δ2))) (ds.drop i) δ2 acc ∧ acc.length ≤ i ∧ WSub ω2 (wipeW vs ω1) ∧ ∀ j ∈ vs, ∀ s, δ2[j]? = some s → s = .un) ?_ ?_ ?_ ?_
  · exact ⟨_, _, [], [], FD, upd_same, rfl, q, Nat.le_refl _, .refl, fun j hj s h => (wipeE_get h).elim (fun z => z.2) fun z => (z.1 hj).elim⟩
  · rintro i H2 _ ⟨ω2, δ2, acc, accV, f, _⟩
    exact hG _ _ _ _ _ _ hB2 (toS2 f)
  · rintro i x H2 H3 hi ⟨ω2, δ2, acc, accV, f, hDl, ra, q, hl, w, hun⟩ y
    obtain ⟨d, ed, gv⟩ := hY i x H2 H3 _ _ _ _ _ hB2 hi (toS2 f) y
    have e : ds.drop i = d :: ds.drop (i + 1) := by
      rw [List.drop_eq_getElem_cons hi]
      have e2 := List.getElem?_eq_getElem hi
      rw [ed] at e2
      rw [Option.some.inj e2]
    rw [e] at q
    have nwD : ∀ (j : Nat), ω2[j]? ≠ some (some D) := fun j h => (f.sw j D h).1 (.inr rfl)
    -- all but ours stays in this turn, and the list so far
    have Ft : Fr G X.K (fun a o => nS (nS S' H1 B' none ω1) H2 (Bp B' (some D)) none ω2 a o ∨ (a = D ∧ o = .lst accV)) (nT H2) (Bp B' (some D)) A' ω2 H2 (wipe σ vs) δ2 := by
      refine f.pin.more (fun _ _ h => .inl h) (fun a o h => ?_) (fun _ h => h) fun a h => h
      rcases h with h | ⟨rfl, rfl⟩
      · exact ⟨f.pin.st a o h, f.pin.sc a o h, f.pin.sT a o h, fun j z => (f.pin.sw j a z).2 o h⟩
      · exact ⟨hDl, ⟨nCD, nt_lst⟩, ⟨_, hDl, nt_lst⟩, nwD⟩
    have back : ∀ {ω4 : List (Option Addr)} {H4 : Hp} {σ4 : St} {δ4 : Env}, Fr G X.K (fun a o => nS (nS S' H1 B' none ω1) H2 (Bp B' (some D)) none ω2 a o ∨ (a = D ∧ o = .lst accV)) (nT H2) (Bp B' (some D)) A' ω4 H4 σ4 δ4 → Fr G X.K (nS S' H1 B' none ω1) (Bp (nT H1) (some D)) (Bp B' (some D)) A' ω4 H4 σ4 δ4 := fun f4 => by
      refine f4.less (fun _ _ h => .inl (.inl h)) (fun a h => f.dm a h) (fun _ h => h) f.cb f.bt f.sT f.al fun a o h ⟨j, q⟩ => ?_
      rcases h with h | ⟨h, _⟩
      · exact nS_B h (f.al j a q)
      · rw [h] at q; exact (nBD (F1.al j D q)).elim
    have accC : ∀ {ω4 : List (Option Addr)} {H4 : Hp} {σ4 : St} {δ4 : Env}, Fr G X.K (fun a o => nS (nS S' H1 B' none ω1) H2 (Bp B' (some D)) none ω2 a o ∨ (a = D ∧ o = .lst accV)) (nT H2) (Bp B' (some D)) A' ω4 H4 σ4 δ4 → Carry X.K H2 H4 (Ow (Bp B' (some D)) ω2) (Ow (Bp B' (some D)) ω4) := fun f4 =>
      pin_carry (S' := fun a o => nS (nS S' H1 B' none ω1) H2 (Bp B' (some D)) none ω2 a o ∨ (a = D ∧ o = .lst accV)) (fun a o h n m => .inl (pin_all h n m)) f.om f4 fun a h => .inl (.inl h)
    obtain ⟨P, ev⟩ := gv.ev Ft .refl
    refine ⟨_, _, _, _, ω2, δ2, P, .v d, Ft.stat, ev.fr, ev.rp, mg.m _ _ _ _ (fun δ3 q σ3 H4 ω4 f4 sb => ?_) q⟩
    have hv' : ∀ j, j ∉ vs → j ∉ is := fun j h z => h (hv j z)
    have sl : σ3.length = σ.length := by rw [sb.1, wipe_length]
    have sg : ∀ j, j ∉ vs → σ3[j]? = σ[j]? := fun j h => by rw [sb.2.1 j (hv' j h), wipe_out' h]
    have wfin : ∀ {ω5 : List (Option Addr)}, WSub ω5 ω4 → WSub (wipeW vs ω5) (wipeW vs ω1) := fun w5 j a h => by
      obtain ⟨hj, h5⟩ := wipeW_get h
      exact w j a (sb.2.2 j a (hv' j hj) (w5 j a h5))
    have unW : ∀ {δ5 : Env}, ∀ j ∈ vs, ∀ s, (wipeE vs δ5)[j]? = some s → s = .un := fun j hj s h => (wipeE_get h).elim (fun z => z.2) fun z => (z.1 hj).elim
    refine ⟨wipe_eq sb hv, tT_of mt f4 eok_no q fun b δ5 H5 ω5 q f5 w5 => ?_⟩
    cases b with
    | false => exact ⟨wipeW vs ω5, wipeE vs δ5, acc, accV, (back f5).wipe sl sg, f5.st D _ (.inr ⟨rfl, rfl⟩), RepL.carry (Carry.trans (accC f5) (Carry.sub fun a h => h.elim .inl fun ⟨j, h⟩ => .inr ⟨j, (wipeW_get h).2⟩)) ra, q, Nat.le_succ_of_le hl, wfin w5, unW⟩
    | true =>
      refine tD_of f5 eok_no (m.m _ _ _ _ _ (fun _ z => z) (fun o δ6 q yv H6 ω6 P6 ev6 => ?_) q) m
      obtain ⟨y, ey, q⟩ := kpK_some q
      have f6 := ev6.drop f5
      have ry := ev6.kp f5 ey
      have hD6 : H6 D = some (.lst accV) := f6.st D _ (.inr ⟨rfl, rfl⟩)
      have ra6 := RepL.carry (accC f6) ra
      have c : Carry X.K H6 (upd H6 D (.lst (accV ++ [yv]))) (Ow (Bp B' (some D)) ω6) (Ow (Bp B' (some D)) (wipeW vs ω6)) := Carry.trans (Carry.own (.inl (.inr rfl)) hD6 trivial) (Carry.sub fun a h => h.elim .inl fun ⟨j, h⟩ => .inr ⟨j, (wipeW_get h).2⟩)
      have fw := (back f6).writeB (l := D) (o' := .lst (accV ++ [yv])) (.inr rfl) nCD nSD hD6 trivial trivial
      refine ⟨accV, hD6, by rw [← ra.length, sizeLine_eq]; omega, wipeW vs ω6, wipeE vs δ6, acc ++ [y], accV ++ [yv], fw.wipe sl sg, upd_same, RepL.carry c (RepL.append ra6 (RepL.one ry)), q, by rw [List.length_append, List.length_singleton]; omega, wfin (ev6.ws.trans w5), unW⟩
  · rintro H2 ⟨ω2, δ2, acc, accV, f, hDl, ra, q, hl, w, hun⟩
    rw [List.drop_length] at q
    have q : tK G X.K S T B A ω σ Q (.n acc) (un l (restE δ1 vs δ2)) := q
    -- the names get back what they had
    have fr : Fr G X.K (nS S' H1 B' none ω1) (Bp (nT H1) (some D)) (Bp B' (some D)) A' ω2 H2 σ (restE δ1 vs δ2) := by
      refine ⟨f.inv, f.cb, f.bt, f.sT, f.sc, f.al, f.bm, f.dm, f.st, f.sw, f.inj, f.wm, by rw [restE_len, ← f.len, wipe_length], by rw [restE_len]; exact f.lw, fun j s h => ?_⟩
      have jlt : j < δ2.length := by
        have := (List.getElem?_eq_some_iff.mp h).1
        rwa [restE_len] at this
      rcases restE_get h with ⟨hj, h1⟩ | ⟨h1, h2⟩
      · have e2 := List.getElem?_eq_getElem jlt
        have eu := hun j hj _ e2
        rw [eu] at e2
        have wj : ω2[j]? = some none := f.slot j _ e2
        have hp := List.all_eq_true.mp hplain j hj
        simp only [h1] at hp
        have s1 := F1.slot j s h1
        cases s with
        | un => exact wj
        | val d =>
          obtain ⟨_, v, q2, q3⟩ := s1
          exact ⟨wj, v, q2, Rep.carry (pin_carry (S' := nS S' H1 B' none ω1) (fun a o h n m => pin_all h n m) F1.om f fun a h => (hB2 a h).elim (fun z => .inl (.inl z)) .inr) q3⟩
        | _ => cases hp
      · have hj : j ∉ vs := by
          rcases h2 with h2 | h2
          · exact h2
          · have : δ1.length ≤ j := List.getElem?_eq_none_iff.mp h2
            rw [← f.len, wipe_length, F1.len] at jlt
            omega
        have := f.slot j s h1
        rw [wipe_out' hj] at this
        exact this
    have frB : Fr G X.K S' (Bp T' (some D)) (Bp B' (some D)) A' ω2 H2 σ (restE δ1 vs δ2) :=
      fr.less (fun _ _ h => .inl h) (fun a h => h.elim (fun z => .inl (F1.dm a z)) .inr) (fun _ h => h) (fun a c => .inl (F1.cb a c)) (fun a h => h.elim (fun z => .inl (F1.bt a z)) .inr) (fun a o h => .inl (F1.sT a o h)) (fun i a h => .inl (F1.al i a h)) fun a o h ⟨i, q⟩ => nS_B h (F1.al i a q)
    obtain ⟨ω3, f3, hw3⟩ := it.back (some D) ω2 H2 σ _ (fun p hp => by cases hp; exact hD) frB
    have ws3 : WSub ω3 ω := fun j a h => (hw3 j a h).elim (fun z => it.ws j a (wipeW_get (w j a z)).2) fun z => z.1
    have nT0 : ¬ T D := fun z => by obtain ⟨u, e, _⟩ := F1.dm D (it.hT D z); rw [hD] at e; cases e
    refine q (.ref D) H2 ω3 (some D) ⟨f3, ws3, D, accV, rfl, rfl, nT0, hDl, RepL.carry (Carry.sub fun a h => ?_) ra⟩
    rcases h with (h | h) | ⟨j, h⟩
    · exact .inl (.inl (it.hB a h))
    · exact .inl (.inr h)
    · exact (hw3 j a h).elim (fun z => .inr ⟨j, z⟩) fun z => .inl (.inl z.2)
theorem db_yes {ifs : List Expr} (h : ifs = []) : MonoT xYes := ⟨fun _ _ _ _ _ _ h q => h _ _ q⟩
theorem PTs.imp {X : Cx} {e : List Expr} {t t' : TT} (h : PTs X e t) (i : ∀ σ H Q, t' σ H Q → t σ H Q) : PTs X e t' := ⟨fun pins s σ H Q I q => h.run pins s σ H Q I (i σ H Q q)⟩
/-- a clause's tests -/
structure DTs (X : Cx) (G : Amb) (E : XK) (ifs : List Expr) (θ : DTT) : Prop where
  pt : PTs X ifs (tT G X.K E θ)
  mono : MonoT θ
theorem dts_nil {E : XK} : DTs X G E [] xYes := ⟨PTs.imp pts_nil fun σ H Q h => by
  obtain ⟨S, T, B, A, ω, δ, Z, F, z, q⟩ := h
  exact q _ _ F .refl, ⟨fun _ _ _ _ _ _ h q => h _ _ q⟩⟩
theorem dts_one {E : XK} {c : Expr} (h : DB X G E c θ) : DTs X G E [c] θ := ⟨pts_one h.pt, h.mono⟩
/-- as a value -/
theorem de_lc {ifs : List Expr} {scope : Scope} {own : List (Str × Nat)} {pos : Pos} (hc : X.calm = true) (hN : X.N.Nodup) (hi : DI X G E tg iter ι) (ok : BlkOk X.N X.env.scope scope own)
    (hg : ∀ (s : Shared) (H : Hp) (C : Addr) (cl : List (Str × Addr)) (fp : List Addr), DG (X.blk s H scope (compEnvC scope cl C X.env) fp) G tg is γ) (hv : ∀ j ∈ is, j ∈ own.map (·.2))
    (ht : ∀ (s : Shared) (H : Hp) (C : Addr) (cl : List (Str × Addr)) (fp : List Addr), DTs (X.blk s H scope (compEnvC scope cl C X.env) fp) G E0' ifs θ)
    (he : ∀ (s : Shared) (H : Hp) (C : Addr) (cl : List (Str × Addr)) (fp : List Addr), DE (X.blk s H scope (compEnvC scope cl C X.env) fp) G E0' elt τ) (hs : ∀ x, foldedSetIterable iter X.env x = pure x := by intro _; rfl) :
    DE X G E (.ListComp elt [⟨tg, iter, ifs, 0⟩] scope pos) (xLc ι γ θ τ (own.map (·.2))) := by
  have mg := (hg X.s_0 X.H_0 0 [] []).mono
  have mt := (ht X.s_0 X.H_0 0 [] []).mono
  have me := (he X.s_0 X.H_0 0 [] []).mono
  have m := mono_lc (vs := own.map (·.2)) hi.mono mg mt me
  refine ⟨PE.imp (pe_lc (g := tG G X.K is γ) (tt := tT G X.K E0' θ) (te := tD G X.K E0' τ) hc hN hi.pi ok (fun s H C cl fp => (hg s H C cl fp).pg) (fun s H C cl fp => (ht s H C cl fp).pt) (fun s H C cl fp => (he s H C cl fp).pe) hs) fun σ H Q h => ?_, m⟩
  obtain ⟨S, T, B, A, ω, δ, Z, F, z, q⟩ := tD_to m h
  exact lc_core' hi.mono mg mt me hv F z q
/-- name = [..] -/
theorem ds_setLc {i : Nat} {y : Str} {py : Pos} {ifs : List Expr} {scope : Scope} {own : List (Str × Nat)} {pos spos : Pos} (hc : X.calm = true) (hN : X.N.Nodup) (hy : X.N[i]? = some y) (hyl : X.env.scope.names.lookup y = some .local)
    (hsw : swapsWith (.ListComp elt [⟨tg, iter, ifs, 0⟩] scope pos) (some (.Name y py)) spos.line X.env = pure true) (hi : DI X G E tg iter ι) (ok : BlkOk X.N X.env.scope scope own)
    (hg : ∀ (s : Shared) (H : Hp) (C : Addr) (cl : List (Str × Addr)) (fp : List Addr), DG (X.blk s H scope (compEnvC scope cl C X.env) fp) G tg is γ) (hv : ∀ j ∈ is, j ∈ own.map (·.2))
    (ht : ∀ (s : Shared) (H : Hp) (C : Addr) (cl : List (Str × Addr)) (fp : List Addr), DTs (X.blk s H scope (compEnvC scope cl C X.env) fp) G E0' ifs θ)
    (he : ∀ (s : Shared) (H : Hp) (C : Addr) (cl : List (Str × Addr)) (fp : List Addr), DE (X.blk s H scope (compEnvC scope cl C X.env) fp) G E0' elt τ) (hs : ∀ x, foldedSetIterable iter X.env x = pure x := by intro _; rfl) :
    DS X G E (.Assign [.Name y py] (.ListComp elt [⟨tg, iter, ifs, 0⟩] scope pos) spos) (xAsg (xLc ι γ θ τ (own.map (·.2))) (xName i)) := by
  have mg := (hg X.s_0 X.H_0 0 [] []).mono
  have mt := (ht X.s_0 X.H_0 0 [] []).mono
  have me := (he X.s_0 X.H_0 0 [] []).mono
  have m := mono_lc (vs := own.map (·.2)) hi.mono mg mt me
  refine ⟨PS.imp (ps_setLc (g := tG G X.K is γ) (tt := tT G X.K E0' θ) (te := tD G X.K E0' τ) hc hN hy hyl hsw hi.pi ok (fun s H C cl fp => (hg s H C cl fp).pg) (fun s H C cl fp => (ht s H C cl fp).pt) (fun s H C cl fp => (he s H C cl fp).pe) hs) fun D σ H h => ?_, mono_asg m mono_name⟩
  obtain ⟨S, T, B, A, ω, δ, F, Fs, z, en, q⟩ := h
  refine lc_core' (Q := fun x H1 => gName i x σ H1 D.nx) hi.mono mg mt me hv Fs z (m.m _ _ _ _ _ (fun _ z => z) (fun o δ' q v H' ω' P ev => ?_) q)
  obtain ⟨ω2, δ2, F2, _, q⟩ := ev.fr.putOp Fs.stat ev.rp q
  exact en.nx _ _ _ _ F2 q
end
end DL

set_option Elab.async false
set_option linter.all false
set_option maxRecDepth 100000
namespace DL
open PySem L2
/-! ### the operations by name -/
section
variable {X : Cx} {K : PySem.W.Frag} {H : Hp} {O : Addr → Prop}
theorem RepTop.ls {ds : List D} {v : V} (h : RepTop K H O (.lst ds) v) : ∃ a vs, v = .ref a ∧ H a = some (.lst vs) ∧ RepL K H O ds vs := h
theorem RepTop.tp {ds : List D} {v : V} (h : RepTop K H O (.tup ds) v) : ∃ a vs, v = .ref a ∧ SqT K H a vs ∧ RepL K H O ds vs := h
theorem RepTop.rep {d : D} {v : V} (h : RepTop K H O d v) (n : ∀ ds, d ≠ .lst ds) (n2 : ∀ ds, d ≠ .dic ds) (n3 : ∀ ds, d ≠ .dit ds) : Rep K H O d v := by
  cases d <;> first | exact h | exact absurd rfl (n _) | exact absurd rfl (n2 _) | exact absurd rfl (n3 _)
theorem RepTop.int {i : Int} {v : V} (h : RepTop K H O (.int i) v) : v = .int i := h
theorem RepL.ofInts : ∀ {ns : List Int} {vs : List V}, RepL K H O (ns.map D.int) vs → vs = ns.map V.int
  | [], _, h => h
  | n :: ns, vs, h => by obtain ⟨v, r, rfl, e, h⟩ := h; cases e; rw [RepL.ofInts h]; rfl
theorem RepL.ofBls : ∀ {ns : List Bool} {vs : List V}, RepL K H O (ns.map D.bl) vs → vs = ns.map V.bl
  | [], _, h => h
  | n :: ns, vs, h => by obtain ⟨v, r, rfl, e, h⟩ := h; cases e; rw [RepL.ofBls h]; rfl
theorem RepL.rep' {k : Nat} : ∀ {ds : List D} {vs : List V}, RepL K H O ds vs → RepL K H O (List.replicate k ds).flatten (List.replicate k vs).flatten := fun {ds vs} h => by
  induction k with
  | zero => rfl
  | succ k ih => rw [List.replicate_succ, List.replicate_succ, List.flatten_cons, List.flatten_cons]; exact h.append ih
def addR : D2 := fun d1 d2 P => match d1, d2 with
  | .int i, .int j => P (.v (.int (i + j)))
  | .str a, .str b => a.length + b.length ≤ 16777216 ∧ P (.v (.str (a ++ b)))
  | .lst a, .lst b => a.length + b.length ≤ 16777216 ∧ P (.n (a ++ b))
  | .tup a, .tup b => a.length + b.length ≤ 16777216 ∧ P (.v (.tup (a ++ b)))
  | _, _ => False
theorem opd_add : OpD X (binaryOp .Add) addR := by
  refine ⟨⟨_, OpR.or op_add (OpR.or op_add_str (OpR.or op_cat op_catA)), fun {H O d1 d2 v1 v2 P Q} om t1 t2 q k => ?_⟩, ⟨fun d1 d2 P P' h q => by cases d1 <;> cases d2 <;> first | exact q.elim | exact h _ q | exact ⟨q.1, h _ q.2⟩⟩⟩
  cases d1 <;> cases d2 <;> first | exact q.elim | skip
  · cases t1; cases t2; exact .inl ⟨_, _, rfl, rfl, k _ _ _ q (.same rfl)⟩
  · cases t1; cases t2; exact .inr (.inl ⟨_, _, rfl, rfl, by rw [sizeLine_eq]; exact q.1, k _ _ _ q.2 (.same rfl)⟩)
  · obtain ⟨a, vs, rfl, h1, r1⟩ := t1
    obtain ⟨b, us, rfl, h2, r2⟩ := t2
    have l1 := r1.length
    have l2 := r2.length
    refine .inr (.inr (.inr ⟨a, b, vs, us, rfl, rfl, h1, h2, by rw [sizeLine_eq, ← l1, ← l2]; exact q.1, fun e => ?_, fun e e2 => ?_, fun e e2 p hp => k _ _ _ q.2 (.tup hp (r1.append r2))⟩))
    · subst e; cases List.length_eq_zero_iff.1 l1; exact k _ _ _ q.2 (.same ⟨b, us, rfl, h2, r2⟩)
    · subst e2; cases List.length_eq_zero_iff.1 l2; exact k _ _ _ q.2 (.same (by rw [List.append_nil]; exact ⟨a, vs, rfl, h1, r1⟩))
  · obtain ⟨a, vs, rfl, h1, r1⟩ := t1
    obtain ⟨b, us, rfl, h2, r2⟩ := t2
    exact .inr (.inr (.inl ⟨a, b, vs, us, rfl, rfl, h1, h2, by rw [sizeLine_eq, ← r1.length, ← r2.length]; exact q.1, fun p hp => k _ _ _ q.2 (.lst hp (r1.append r2))⟩))
def subR : D2 := fun d1 d2 P => match d1, d2 with
  | .int i, .int j => P (.v (.int (i - j)))
  | _, _ => False
theorem opd_int {op : Value → Value → Sem Value} {C : Int → Int → Prop} {g : Int → Int → Int} {ρ : D2} (h : OpR X op (rI C fun i j => V.int (g i j))) (e : ∀ d1 d2 P, ρ d1 d2 P ↔ match d1, d2 with
    | .int i, .int j => C i j ∧ P (.v (.int (g i j)))
    | _, _ => False) : OpD X op ρ := by
  refine ⟨⟨_, h, fun {H O d1 d2 v1 v2 P Q} om t1 t2 q k => ?_⟩, ⟨fun d1 d2 P P' h q => (e ..).2 (by replace q := (e ..).1 q; cases d1 <;> cases d2 <;> first | exact q.elim | exact ⟨q.1, h _ q.2⟩)⟩⟩
  replace q := (e ..).1 q
  cases d1 <;> cases d2 <;> first | exact q.elim | skip
  cases t1; cases t2; exact ⟨_, _, rfl, rfl, q.1, k _ _ _ q.2 (.same rfl)⟩
theorem opd_sub : OpD X (binaryOp .Sub) subR := by
  refine ⟨⟨_, op_sub, fun {H O d1 d2 v1 v2 P Q} om t1 t2 q k => ?_⟩, ⟨fun d1 d2 P P' h q => by cases d1 <;> cases d2 <;> first | exact q.elim | exact h _ q⟩⟩
  cases d1 <;> cases d2 <;> first | exact q.elim | skip
  cases t1; cases t2; exact ⟨_, _, rfl, rfl, k _ _ _ q (.same rfl)⟩
/-- a product: small ones, and sums of lengths below a million -/
def mulOk (i j : Int) : Prop := CMul i j ∨ CMulW i j
def mulR : D2 := fun d1 d2 P => match d1, d2 with
  | .int i, .int j => mulOk i j ∧ P (.v (.int (i * j)))
  | .lst a, .int k => (k < 16777217 ∧ -16777216 ≤ k ∧ a.length * k.toNat ≤ 16777216) ∧ P (.n (List.replicate k.toNat a).flatten)
  | .tup a, .int k => (a ≠ [] ∧ 2 ≤ k ∧ k ≤ 1000 ∧ a.length ≤ 1000) ∧ P (.v (.tup (List.replicate k.toNat a).flatten))
  | _, _ => False
theorem opd_mul : OpD X (binaryOp .Mult) mulR := by
  refine ⟨⟨_, OpR.or (OpR.or op_mul op_mulW) (OpR.or op_rep op_repT), fun {H O d1 d2 v1 v2 P Q} om t1 t2 q k => ?_⟩, ⟨fun d1 d2 P P' h q => by cases d1 <;> cases d2 <;> first | exact q.elim | exact ⟨q.1, h _ q.2⟩⟩⟩
  cases d1 <;> cases d2 <;> first | exact q.elim | skip
  · cases t1; cases t2
    rcases q.1 with c | c
    · exact .inl (.inl ⟨_, _, rfl, rfl, c, k _ _ _ q.2 (.same rfl)⟩)
    · exact .inl (.inr ⟨_, _, rfl, rfl, c, k _ _ _ q.2 (.same rfl)⟩)
  · obtain ⟨a, vs, rfl, h1, r1⟩ := t1
    cases t2
    obtain ⟨⟨n, c1, c2, c3⟩, q⟩ := q
    have l1 := r1.length
    refine .inr (.inr ⟨a, _, vs, rfl, rfl, h1, fun e => n ?_, c1, c2, by rw [← l1]; exact c3, fun p hp => k _ _ _ q (.tup hp r1.rep')⟩)
    subst e; exact List.length_eq_zero_iff.1 l1
  · obtain ⟨a, vs, rfl, h1, r1⟩ := t1
    cases t2
    obtain ⟨⟨c1, c2, c3⟩, q⟩ := q
    exact .inr (.inl ⟨a, _, vs, rfl, rfl, h1, by omega, by omega, by rw [sizeLine_eq, ← r1.length]; exact c3, fun p hp => k _ _ _ q (.lst hp r1.rep')⟩)
def divR : D2 := fun d1 d2 P => match d1, d2 with
  | .int i, .int j => (0 < j ∧ j.natAbs.log2 < 9000) ∧ P (.v (.int (i / j)))
  | _, _ => False
theorem opd_div : OpD X (binaryOp .FloorDiv) divR := opd_int op_fdivW fun d1 d2 P => by cases d1 <;> cases d2 <;> exact Iff.rfl
def modR : D2 := fun d1 d2 P => match d1, d2 with
  | .int i, .int j => 0 < j ∧ P (.v (.int (i % j)))
  | _, _ => False
theorem opd_mod : OpD X (binaryOp .Mod) modR := opd_int op_mod fun d1 d2 P => by cases d1 <;> cases d2 <;> exact Iff.rfl
def powR : D2 := fun d1 d2 P => match d1, d2 with
  | .int i, .int j => (0 ≤ j ∧ j ≤ 1000000 ∧ i.natAbs < 2 ^ 64) ∧ P (.v (.int (i ^ j.toNat)))
  | _, _ => False
theorem opd_pow : OpD X (binaryOp .Pow) powR := opd_int op_pow fun d1 d2 P => by cases d1 <;> cases d2 <;> exact Iff.rfl
/-! comparisons -/
def intC (d1 d2 : D) : Prop := match d1, d2 with
  | .int _, .int _ => True
  | _, _ => False
def intF (f : Int → Int → Bool) (d1 d2 : D) : Bool := match d1, d2 with
  | .int i, .int j => f i j
  | _, _ => false
def ltR : D2 := cmpR intC (intF fun i j => decide (i < j))
def leR : D2 := cmpR intC (intF fun i j => decide (i ≤ j))
def gtR : D2 := cmpR intC (intF fun i j => decide (j < i))
def geR : D2 := cmpR intC (intF fun i j => decide (j ≤ i))
theorem opd_cmpI {op : Value → Value → Sem Value} {f : Int → Int → Bool} (h : OpR X op (rI0 fun i j => V.bl (f i j))) : OpD X op (cmpR intC (intF f)) := by
  refine ⟨⟨_, h, fun {H O d1 d2 v1 v2 P Q} om t1 t2 q k => ?_⟩, m2_cmp⟩
  obtain ⟨c, q⟩ := q
  cases d1 <;> cases d2 <;> first | exact c.elim | skip
  cases t1; cases t2; exact ⟨_, _, rfl, rfl, k _ _ _ q (.same rfl)⟩
theorem opd_lt : OpD X (compareOp .Lt) ltR := opd_cmpI op_lt
theorem opd_le : OpD X (compareOp .LtE) leR := opd_cmpI op_le
theorem opd_gt : OpD X (compareOp .Gt) gtR := opd_cmpI op_gt
theorem opd_ge : OpD X (compareOp .GtE) geR := opd_cmpI op_ge
/-! equality -/
mutual
def pyD : D → PyData
  | .non => .none
  | .bl b => .bool b
  | .int i => .int i
  | .str s => .str s
  | .tup ds => .tuple (pyDs ds)
  | .lst ds => .list (pyDs ds)
  | .dic _ => .none
  | .dit _ => .none
  | .ref _ => .none
def pyDs : List D → List PyData
  | [] => []
  | d :: ds => pyD d :: pyDs ds
end
mutual
def eqD : D → D → Bool
  | .non, .non => true
  | .bl a, .bl b => a == b
  | .bl a, .int j => (if a = true then (1 : Int) else 0) == j
  | .int i, .bl b => i == (if b = true then (1 : Int) else 0)
  | .int i, .int j => i == j
  | .str x, .str y => x == y
  | .lst xs, .lst ys => eqDs xs ys
  | .tup xs, .tup ys => eqDs xs ys
  | _, _ => false
def eqDs : List D → List D → Bool
  | [], [] => true
  | x :: xs, y :: ys => eqD x y && eqDs xs ys
  | _, _ => false
end
-- no dict in it, not too deep
mutual
def okD : Nat → D → Bool
  | _, .non => true
  | _, .bl _ => true
  | _, .int _ => true
  | _, .str s => PyData.strOk s
  | n + 1, .tup ds => okDs n ds
  | n + 1, .lst ds => okDs n ds
  | _, _ => false
def okDs : Nat → List D → Bool
  | _, [] => true
  | n, d :: ds => okD n d && okDs n ds
end
mutual
theorem okD_lay : ∀ (n : Nat) (d : D), okD n d = true → (pyD d).canLay0 = true ∧ (pyD d).depth ≤ n
  | n, .non, _ => ⟨rfl, by simp [pyD, PyData.depth]⟩
  | n, .bl _, _ => ⟨rfl, by simp [pyD, PyData.depth]⟩
  | n, .int _, _ => ⟨rfl, by simp [pyD, PyData.depth]⟩
  | n, .str s, h => ⟨by simpa [pyD, PyData.canLay0, okD] using h, by simp [pyD, PyData.depth]⟩
  | n + 1, .tup ds, h => by
    have := okDs_lay n ds (by simpa [okD] using h)
    exact ⟨by simp only [pyD, PyData.canLay0]; exact this.1, by simp only [pyD, PyData.depth]; exact Nat.add_le_add_right this.2 1⟩
  | n + 1, .lst ds, h => by
    have := okDs_lay n ds (by simpa [okD] using h)
    exact ⟨by simp only [pyD, PyData.canLay0]; exact this.1, by simp only [pyD, PyData.depth]; exact Nat.add_le_add_right this.2 1⟩
  | 0, .tup ds, h => by simp [okD] at h
  | 0, .lst ds, h => by simp [okD] at h
  | n, .dic _, h => by simp [okD] at h
  | n, .dit _, h => by simp [okD] at h
  | n, .ref _, h => by simp [okD] at h
theorem okDs_lay : ∀ (n : Nat) (ds : List D), okDs n ds = true → PyData.canLayAll0 (pyDs ds) = true ∧ PyData.depthAll (pyDs ds) ≤ n
  | n, [], _ => ⟨rfl, by simp [pyDs, PyData.depthAll]⟩
  | n, d :: ds, h => by
    simp only [okDs, Bool.and_eq_true] at h
    have h1 := okD_lay n d h.1
    have h2 := okDs_lay n ds h.2
    refine ⟨by simp only [pyDs, PyData.canLayAll0, h1.1, h2.1]; rfl, ?_⟩
    simp only [pyDs, PyData.depthAll]
    exact Nat.max_le.2 ⟨h1.2, h2.2⟩
end
mutual
theorem eqD_py : ∀ d e : D, okD n d = true → okD m e = true → (pyD d).eqv (pyD e) = eqD d e := by
  intro d e h1 h2
  cases d <;> cases e <;> first
    | rfl
    | (simp [okD] at h1; done)
    | (simp [okD] at h2; done)
    | skip
  · simp only [pyD, eqD, PyData.eqv]
    cases n <;> cases m <;> simp [okD] at h1 h2
    exact eqDs_py _ _ h1 h2
  · simp only [pyD, eqD, PyData.eqv]
    cases n <;> cases m <;> simp [okD] at h1 h2
    exact eqDs_py _ _ h1 h2
theorem eqDs_py : ∀ d e : List D, okDs n d = true → okDs m e = true → PyData.eqvAll (pyDs d) (pyDs e) = eqDs d e
  | [], [], _, _ => rfl
  | [], _ :: _, _, _ => rfl
  | _ :: _, [], _, _ => rfl
  | x :: xs, y :: ys, h1, h2 => by
    simp only [okDs, Bool.and_eq_true] at h1 h2
    simp only [pyDs, eqDs, PyData.eqvAll]
    rw [eqD_py x y h1.1 h2.1, eqDs_py xs ys h1.2 h2.2]
end

theorem sql_of {a : Addr} {vs : List V} (h : H a = some (.lst vs)) : SqL K H a vs := .inl (.inl h)
mutual
theorem Rep.dp : ∀ (n : Nat) (d : D) (v : V), okD n d = true → Rep K H O d v → Dp K H v (pyD d)
  | n, .non, v, _, h => by cases h; exact .non
  | n, .bl _, v, _, h => by cases h; exact .bl _
  | n, .int _, v, _, h => by cases h; exact .int _
  | n, .str s, v, _, h => by cases h; exact .str _
  | n + 1, .tup ds, v, o, h => by
    obtain ⟨a, vs, rfl, h1, r⟩ := h
    simp only [pyD]
    exact .tup h1 (RepL.dp n ds vs (by simpa [okD] using o) r)
  | n + 1, .lst ds, v, o, h => by
    obtain ⟨a, vs, rfl, h1, _, r⟩ := h
    simp only [pyD]
    exact .lst (sql_of h1) (RepL.dp n ds vs (by simpa [okD] using o) r)
  | 0, .tup ds, v, o, h => by simp [okD] at o
  | 0, .lst ds, v, o, h => by simp [okD] at o
  | n, .dic _, v, o, h => by simp [okD] at o
  | n, .dit _, v, o, h => by simp [okD] at o
  | n, .ref _, v, o, h => by simp [okD] at o
theorem RepL.dp : ∀ (n : Nat) (ds : List D) (vs : List V), okDs n ds = true → RepL K H O ds vs → DpAll K H vs (pyDs ds)
  | n, [], vs, _, h => by cases h; exact .nil
  | n, d :: ds, vs, o, h => by
    obtain ⟨v, r, rfl, e, h⟩ := h
    simp only [okDs, Bool.and_eq_true] at o
    exact .cons (Rep.dp n d v o.1 e) (RepL.dp n ds r o.2 h)
end
theorem RepTop.dp {n : Nat} {d : D} {v : V} (o : okD n d = true) (h : RepTop K H O d v) : Dp K H v (pyD d) := by
  cases d with
  | lst ds =>
    obtain ⟨a, vs, rfl, h1, r⟩ := h
    cases n with
    | zero => simp [okD] at o
    | succ n => simp only [pyD]; exact .lst (sql_of h1) (RepL.dp n ds vs (by simpa [okD] using o) r)
  | dic ds => simp [okD] at o
  | dit ds => simp [okD] at o
  | _ => exact Rep.dp (O := O) n _ v o h
theorem okD_shaped {d : D} (h : okD 64 d = true) : SeqAt.shaped (pyD d) = true := by
  have := okD_lay 64 d h
  unfold SeqAt.shaped
  rw [this.1]; simpa using this.2
def eqC (d1 d2 : D) : Prop := okD 64 d1 = true ∧ okD 64 d2 = true
def neD (d1 d2 : D) : Bool := !eqD d1 d2
def eqR : D2 := cmpR eqC eqD
def neR : D2 := cmpR eqC neD
theorem opd_eq (hu : X.A.units + 64 < cLine) : OpD X (compareOp .Eq) eqR := by
  refine ⟨⟨_, op_eqD hu, fun {H O d1 d2 v1 v2 P Q} om t1 t2 q k => ?_⟩, m2_cmp⟩
  obtain ⟨⟨c1, c2⟩, q⟩ := q
  exact ⟨_, _, t1.dp c1, t2.dp c2, okD_shaped c1, okD_shaped c2, by rw [eqD_py _ _ c1 c2]; exact k _ _ _ q (.same rfl)⟩
theorem opd_ne (hu : X.A.units + 64 < cLine) : OpD X (compareOp .NotEq) neR := by
  refine ⟨⟨_, op_neD hu, fun {H O d1 d2 v1 v2 P Q} om t1 t2 q k => ?_⟩, m2_cmp⟩
  obtain ⟨⟨c1, c2⟩, q⟩ := q
  exact ⟨_, _, t1.dp c1, t2.dp c2, okD_shaped c1, okD_shaped c2, by rw [eqD_py _ _ c1 c2]; exact k _ _ _ q (.same rfl)⟩
/-! is None, is True -/
def isNonD : D → Bool
  | .non => true
  | _ => false
def isC (d1 d2 : D) : Prop := match d2 with
  | .non => True
  | .bl _ => ∃ b, d1 = .bl b
  | _ => False
def isF (d1 d2 : D) : Bool := match d2 with
  | .non => isNonD d1
  | .bl b => match d1 with
    | .bl c => decide (c = b)
    | _ => false
  | _ => false
def isR : D2 := cmpR isC isF
def notF (d1 d2 : D) : Bool := !isF d1 d2
def isnR : D2 := cmpR isC notF
theorem isNon_of {d : D} {v : V} (h : RepTop K H O d v) : decide (v = .non) = isNonD d := by
  cases d with
  | non => cases h; rfl
  | bl _ => cases h; rfl
  | int _ => cases h; rfl
  | str _ => cases h; rfl
  | ref _ => cases h; rfl
  | tup _ => obtain ⟨_, _, rfl, _⟩ := h; rfl
  | lst _ => obtain ⟨_, _, rfl, _⟩ := h; rfl
  | dic _ => obtain ⟨_, _, rfl, _⟩ := h; rfl
  | dit _ => obtain ⟨_, _, rfl, _⟩ := h; rfl
theorem opd_is : OpD X (compareOp .Is) isR := by
  refine ⟨⟨_, OpR.or op_isN op_isBl, fun {H O d1 d2 v1 v2 P Q} om t1 t2 q k => ?_⟩, m2_cmp⟩
  obtain ⟨c, q⟩ := q
  cases d2 <;> first | exact c.elim | skip
  · cases t2; exact .inl ⟨rfl, by rw [isNon_of t1]; exact k _ _ _ q (.same rfl)⟩
  · obtain ⟨b, rfl⟩ := c
    cases t2; cases t1; exact .inr ⟨_, _, rfl, rfl, k _ _ _ q (.same rfl)⟩
theorem opd_isnot : OpD X (compareOp .IsNot) isnR := by
  refine ⟨⟨_, OpR.or op_notN op_notBl, fun {H O d1 d2 v1 v2 P Q} om t1 t2 q k => ?_⟩, m2_cmp⟩
  obtain ⟨c, q⟩ := q
  cases d2 <;> first | exact c.elim | skip
  · cases t2; exact .inl ⟨rfl, by rw [isNon_of t1]; exact k _ _ _ q (.same rfl)⟩
  · obtain ⟨b, rfl⟩ := c
    cases t2; cases t1; exact .inr ⟨_, _, rfl, rfl, k _ _ _ q (.same rfl)⟩
/-! in -/
def flatD : D → Bool
  | .non => true
  | .bl _ => true
  | .int _ => true
  | .str _ => true
  | _ => false
def inC (d1 d2 : D) : Prop := match d2 with
  | .lst ds => (flatD d1 = true ∧ ds.all flatD = true) ∨ (okD 64 d1 = true ∧ okDs 63 ds = true)
  | .tup ds => flatD d1 = true ∧ ds.all flatD = true
  | .str _ => ∃ c, d1 = .str ⟨#[c]⟩
  | _ => False
def inF (d1 d2 : D) : Bool := match d2 with
  | .lst ds => ds.any fun z => eqD z d1
  | .tup ds => ds.any fun z => eqD z d1
  | .str z => match d1 with
    | .str c => decide (c.cps.getD 0 0 ∈ z.cps.toList)
    | _ => false
  | _ => false
def inR : D2 := cmpR inC inF
def ninF (d1 d2 : D) : Bool := !inF d1 d2
def ninR : D2 := cmpR inC ninF
theorem flat_rep {d : D} {v : V} (f : flatD d = true) (h : RepTop K H O d v) : flatV v = true := by
  cases d <;> first | (simp [flatD] at f; done) | (cases h; rfl)
theorem flat_eq {d e : D} {v u : V} (f : flatD d = true) (f2 : flatD e = true) (h : RepTop K H O d v) (h2 : RepTop K H O e u) : eqV v u = eqD d e := by
  cases d <;> first | (simp [flatD] at f; done) | skip
  all_goals cases e <;> first | (simp [flatD] at f2; done) | skip
  all_goals (cases h; cases h2; rfl)
theorem flat_all : ∀ {ds : List D} {vs : List V}, ds.all flatD = true → RepL K H O ds vs → vs.all flatV = true
  | [], _, _, h => by cases h; rfl
  | d :: ds, _, f, h => by
    obtain ⟨v, r, rfl, e, h⟩ := h
    simp only [List.all_cons, Bool.and_eq_true] at f ⊢
    exact ⟨flat_rep f.1 e.top, flat_all f.2 h⟩
theorem flat_any {d : D} {v : V} (f0 : flatD d = true) (h0 : RepTop K H O d v) : ∀ {ds : List D} {vs : List V}, ds.all flatD = true → RepL K H O ds vs → inV v vs = ds.any fun z => eqD z d
  | [], _, _, h => by cases h; rfl
  | e :: ds, _, f, h => by
    obtain ⟨u, r, rfl, e1, h⟩ := h
    simp only [List.all_cons, Bool.and_eq_true] at f
    have := flat_any f0 h0 f.2 h
    unfold inV at this ⊢
    rw [List.any_cons, List.any_cons, this, flat_eq f.1 f0 e1.top h0]
theorem pyDs_any {n : Nat} {d : D} (o : okD 64 d = true) : ∀ {ds : List D}, okDs n ds = true → ((pyDs ds).any fun z => PyData.eqv z (pyD d)) = ds.any fun z => eqD z d
  | [], _ => rfl
  | e :: ds, h => by
    simp only [okDs, Bool.and_eq_true] at h
    rw [pyDs, List.any_cons, List.any_cons, pyDs_any o h.2, eqD_py _ _ h.1 o]
theorem opd_in (hu : X.A.units + 65 < cLine) : OpD X (compareOp .In) inR := by
  refine ⟨⟨_, OpR.or op_in_seq (OpR.or (op_inD hu) op_in_sign), fun {H O d1 d2 v1 v2 P Q} om t1 t2 q k => ?_⟩, m2_cmp⟩
  obtain ⟨c, q⟩ := q
  cases d2 <;> first | exact c.elim | skip
  · obtain ⟨c, rfl⟩ := c
    cases t2; cases t1; exact .inr (.inr ⟨_, _, rfl, rfl, k _ _ _ q (.same rfl)⟩)
  · obtain ⟨a, vs, rfl, h1, r1⟩ := t2
    exact .inl ⟨_, _, rfl, .inr h1, flat_rep c.1 t1, flat_all c.2 r1, by rw [flat_any c.1 t1 c.2 r1]; exact k _ _ _ q (.same rfl)⟩
  · obtain ⟨a, vs, rfl, h1, r1⟩ := t2
    rcases c with c | c
    · exact .inl ⟨_, _, rfl, .inl (sql_of h1), flat_rep c.1 t1, flat_all c.2 r1, by rw [flat_any c.1 t1 c.2 r1]; exact k _ _ _ q (.same rfl)⟩
    · exact .inr (.inl ⟨_, _, t1.dp c.1, .lst (sql_of h1) (RepL.dp 63 _ _ c.2 r1), okD_shaped c.1, by simpa only [pyD] using okD_shaped (d := .lst _) (by simpa only [okD] using c.2), by rw [pyDs_any c.1 c.2]; exact k _ _ _ q (.same rfl)⟩)
theorem opd_notIn (hu : X.A.units + 65 < cLine) : OpD X (compareOp .NotIn) ninR := by
  refine ⟨⟨_, OpR.or op_notIn_seq (OpR.or (op_notInD hu) op_notIn_sign), fun {H O d1 d2 v1 v2 P Q} om t1 t2 q k => ?_⟩, m2_cmp⟩
  obtain ⟨c, q⟩ := q
  cases d2 <;> first | exact c.elim | skip
  · obtain ⟨c, rfl⟩ := c
    cases t2; cases t1; exact .inr (.inr ⟨_, _, rfl, rfl, k _ _ _ q (.same rfl)⟩)
  · obtain ⟨a, vs, rfl, h1, r1⟩ := t2
    exact .inl ⟨_, _, rfl, .inr h1, flat_rep c.1 t1, flat_all c.2 r1, by rw [flat_any c.1 t1 c.2 r1]; exact k _ _ _ q (.same rfl)⟩
  · obtain ⟨a, vs, rfl, h1, r1⟩ := t2
    rcases c with c | c
    · exact .inl ⟨_, _, rfl, .inl (sql_of h1), flat_rep c.1 t1, flat_all c.2 r1, by rw [flat_any c.1 t1 c.2 r1]; exact k _ _ _ q (.same rfl)⟩
    · exact .inr (.inl ⟨_, _, t1.dp c.1, .lst (sql_of h1) (RepL.dp 63 _ _ c.2 r1), okD_shaped c.1, by simpa only [pyD] using okD_shaped (d := .lst _) (by simpa only [okD] using c.2), by rw [pyDs_any c.1 c.2]; exact k _ _ _ q (.same rfl)⟩)
/-! one thing -/
def negR : D1 := fun d P => match d with
  | .int i => P (.v (.int (-i)))
  | _ => False
theorem und_neg : UnD X (unaryOp .USub) negR := by
  refine ⟨⟨_, un_neg, fun {H O d v P Q} om t q k => ?_⟩, ⟨fun d P P' h q => by cases d <;> first | exact q.elim | exact h _ q⟩⟩
  cases d <;> first | exact q.elim | skip
  cases t; exact ⟨_, rfl, k _ _ _ q (.same rfl)⟩
/-- the index meant, if any -/
def atD (ds : List D) (i : Int) : Option D := atI ds i
theorem atD_rep {ds : List D} {vs : List V} (r : RepL K H O ds vs) {i : Int} {d : D} (h : atD ds i = some d) : ∃ v, atI vs i = some v ∧ Rep K H O d v := by
  unfold atD atI at *
  rw [← r.length]
  cases e : ixN ds.length i with
  | none => rw [e] at h; cases h
  | some j => rw [e] at h; exact r.get h
def ixR : D2 := fun d1 d2 P => match d1, d2 with
  | .lst ds, .int i => ∃ d, atD ds i = some d ∧ P (.v d)
  | .tup ds, .int i => ∃ d, atD ds i = some d ∧ P (.v d)
  | .str z, .int i => ∃ c, z.length ≤ 16777216 ∧ atI z.cps.toList i = some c ∧ P (.v (.str ⟨#[c]⟩))
  | _, _ => False
theorem ixd_seq : IxD X ixR := by
  refine ⟨⟨_, ix_seq, fun {H O d1 d2 v1 v2 P Q} om t1 t2 q k => ?_⟩, ⟨fun d1 d2 P P' h q => by cases d1 <;> cases d2 <;> first | exact q.elim | (obtain ⟨d, e, q⟩ := q; exact ⟨d, e, h _ q⟩) | (obtain ⟨d, e, e2, q⟩ := q; exact ⟨d, e, e2, h _ q⟩)⟩⟩
  cases d1 <;> cases d2 <;> first | exact q.elim | skip
  · obtain ⟨c, e, e2, q⟩ := q
    cases t1; cases t2
    exact .inr (.inr ⟨_, _, c, rfl, rfl, by rw [sizeLine_eq]; exact e, e2, k _ _ _ q (.same rfl)⟩)
  · obtain ⟨d, e, q⟩ := q
    obtain ⟨a, vs, rfl, h1, r1⟩ := t1
    cases t2
    obtain ⟨v, e1, r⟩ := atD_rep r1 e
    exact .inr (.inl ⟨a, vs, _, v, rfl, rfl, h1, e1, k _ _ _ q (.same r)⟩)
  · obtain ⟨d, e, q⟩ := q
    obtain ⟨a, vs, rfl, h1, r1⟩ := t1
    cases t2
    obtain ⟨v, e1, r⟩ := atD_rep r1 e
    exact .inl ⟨a, vs, _, v, rfl, rfl, sql_of h1, e1, k _ _ _ q (.same r)⟩
/-! built-ins -/
def lenR : D1 := fun d P => match d with
  | .lst ds => P (.v (.int ds.length))
  | .tup ds => P (.v (.int ds.length))
  | .str z => z.length ≤ 16777216 ∧ P (.v (.int z.length))
  | _ => False
theorem cd_len : CallD1 X (.builtin "len") lenR := by
  refine ⟨⟨_, CallR.or call_len_seq call_len_str, fun {H O d v P Q} om t q k => ?_⟩, ⟨fun d P P' h q => by cases d <;> first | exact q.elim | exact h _ q | exact ⟨q.1, h _ q.2⟩⟩⟩
  cases d <;> first | exact q.elim | skip
  · cases t; exact .inr ⟨_, rfl, by rw [sizeLine_eq]; exact q.1, k _ _ _ q.2 (.same rfl)⟩
  · obtain ⟨a, vs, rfl, h1, r1⟩ := t
    exact .inl ⟨a, vs, rfl, .inr h1, by rw [← r1.length]; exact k _ _ _ q (.same rfl)⟩
  · obtain ⟨a, vs, rfl, h1, r1⟩ := t
    exact .inl ⟨a, vs, rfl, .inl (sql_of h1), by rw [← r1.length]; exact k _ _ _ q (.same rfl)⟩
def absR : D1 := fun d P => match d with
  | .int i => P (.v (.int (if i < 0 then -i else i)))
  | _ => False
theorem cd_abs : CallD1 X (.builtin "abs") absR := by
  refine ⟨⟨_, call_abs, fun {H O d v P Q} om t q k => ?_⟩, ⟨fun d P P' h q => by cases d <;> first | exact q.elim | exact h _ q⟩⟩
  cases d <;> first | exact q.elim | skip
  cases t; exact ⟨_, rfl, k _ _ _ q (.same rfl)⟩
def toIntR : D1 := fun d P => match d with
  | .int i => P (.v (.int i))
  | .bl b => P (.v (.int (if b = true then 1 else 0)))
  | _ => False
theorem cd_int : CallD1 X (.type "int") toIntR := by
  refine ⟨⟨_, call_int1, fun {H O d v P Q} om t q k => ?_⟩, ⟨fun d P P' h q => by cases d <;> first | exact q.elim | exact h _ q⟩⟩
  cases d <;> first | exact q.elim | skip
  · cases t; exact .inr ⟨_, rfl, k _ _ _ q (.same rfl)⟩
  · cases t; exact .inl ⟨_, rfl, k _ _ _ q (.same rfl)⟩
def toLstR : D1 := fun d P => match d with
  | .lst ds => P (.n ds)
  | .tup ds => P (.n ds)
  | _ => False
theorem cd_list : CallD1 X (.type "list") toLstR := by
  refine ⟨⟨_, call_list_of, fun {H O d v P Q} om t q k => ?_⟩, ⟨fun d P P' h q => by cases d <;> first | exact q.elim | exact h _ q⟩⟩
  cases d <;> first | exact q.elim | skip
  · obtain ⟨a, vs, rfl, h1, r1⟩ := t
    exact ⟨a, vs, rfl, .inr h1, fun p hp => k _ _ _ q (.lst hp r1)⟩
  · obtain ⟨a, vs, rfl, h1, r1⟩ := t
    exact ⟨a, vs, rfl, .inl (sql_of h1), fun p hp => k _ _ _ q (.lst hp r1)⟩
def toTupR : D1 := fun d P => match d with
  | .lst ds => P (.v (.tup ds))
  | .tup ds => P (.v (.tup ds))
  | _ => False
theorem cd_tuple : CallD1 X (.type "tuple") toTupR := by
  refine ⟨⟨_, call_tuple_of, fun {H O d v P Q} om t q k => ?_⟩, ⟨fun d P P' h q => by cases d <;> first | exact q.elim | exact h _ q⟩⟩
  cases d <;> first | exact q.elim | skip
  · obtain ⟨a, vs, rfl, h1, r1⟩ := t
    exact ⟨a, vs, rfl, .inr ⟨h1, k _ _ _ q (.same ⟨a, vs, rfl, h1, r1⟩)⟩⟩
  · obtain ⟨a, vs, rfl, h1, r1⟩ := t
    exact ⟨a, vs, rfl, .inl ⟨sql_of h1, fun p hp => k _ _ _ q (.tup hp r1)⟩⟩
def sumR : D1 := fun d P => match d with
  | .lst ds => ∃ ns : List Int, ds = ns.map D.int ∧ P (.v (.int ns.sum))
  | _ => False
theorem cd_sum (hc : X.calm = true) : CallD1 X (.builtin "sum") sumR := by
  refine ⟨⟨_, cr_sum hc, fun {H O d v P Q} om t q k => ?_⟩, ⟨fun d P P' h q => by cases d <;> first | exact q.elim | (obtain ⟨ns, e, q⟩ := q; exact ⟨ns, e, h _ q⟩)⟩⟩
  cases d <;> first | exact q.elim | skip
  obtain ⟨ns, rfl, q⟩ := q
  obtain ⟨a, vs, rfl, h1, r1⟩ := t
  cases r1.ofInts
  exact ⟨a, ns, rfl, sql_of h1, k _ _ _ q (.same rfl)⟩
/-- the greatest, the least -/
def maxR : D1 := fun d P => match d with
  | .lst ds => ∃ ns : List Int, ds = ns.map D.int ∧ 0 < ns.length ∧ ∀ m, m ∈ ns → (∀ y, y ∈ ns → y ≤ m) → P (.v (.int m))
  | _ => False
def minR : D1 := fun d P => match d with
  | .lst ds => ∃ ns : List Int, ds = ns.map D.int ∧ 0 < ns.length ∧ ∀ m, m ∈ ns → (∀ y, y ∈ ns → m ≤ y) → P (.v (.int m))
  | _ => False
theorem cd_max (hc : X.calm = true) : CallD1 X (.builtin "max") maxR := by
  refine ⟨⟨_, cr_max hc, fun {H O d v P Q} om t q k => ?_⟩, ⟨fun d P P' h q => by cases d <;> first | exact q.elim | (obtain ⟨ns, e, l, q⟩ := q; exact ⟨ns, e, l, fun m a b => h _ (q m a b)⟩)⟩⟩
  cases d <;> first | exact q.elim | skip
  obtain ⟨ns, rfl, l, q⟩ := q
  obtain ⟨a, vs, rfl, h1, r1⟩ := t
  cases r1.ofInts
  exact ⟨a, ns, rfl, sql_of h1, l, fun m x y => k _ _ _ (q m x y) (.same rfl)⟩
theorem cd_min (hc : X.calm = true) : CallD1 X (.builtin "min") minR := by
  refine ⟨⟨_, cr_min hc, fun {H O d v P Q} om t q k => ?_⟩, ⟨fun d P P' h q => by cases d <;> first | exact q.elim | (obtain ⟨ns, e, l, q⟩ := q; exact ⟨ns, e, l, fun m a b => h _ (q m a b)⟩)⟩⟩
  cases d <;> first | exact q.elim | skip
  obtain ⟨ns, rfl, l, q⟩ := q
  obtain ⟨a, vs, rfl, h1, r1⟩ := t
  cases r1.ofInts
  exact ⟨a, ns, rfl, sql_of h1, l, fun m x y => k _ _ _ (q m x y) (.same rfl)⟩
def max2R : D2 := fun d1 d2 P => match d1, d2 with
  | .int i, .int j => P (.v (.int (if j > i then j else i)))
  | _, _ => False
def min2R : D2 := fun d1 d2 P => match d1, d2 with
  | .int i, .int j => P (.v (.int (if j < i then j else i)))
  | _, _ => False
theorem cd_max2 (hc : X.calm = true) : CallD2 X (.builtin "max") max2R := by
  refine ⟨⟨_, call_max2 hc, fun {H O d1 d2 v1 v2 P Q} om t1 t2 q k => ?_⟩, ⟨fun d1 d2 P P' h q => by cases d1 <;> cases d2 <;> first | exact q.elim | exact h _ q⟩⟩
  cases d1 <;> cases d2 <;> first | exact q.elim | skip
  cases t1; cases t2; exact ⟨_, _, rfl, k _ _ _ q (.same rfl)⟩
theorem cd_min2 (hc : X.calm = true) : CallD2 X (.builtin "min") min2R := by
  refine ⟨⟨_, call_min2 hc, fun {H O d1 d2 v1 v2 P Q} om t1 t2 q k => ?_⟩, ⟨fun d1 d2 P P' h q => by cases d1 <;> cases d2 <;> first | exact q.elim | exact h _ q⟩⟩
  cases d1 <;> cases d2 <;> first | exact q.elim | skip
  cases t1; cases t2; exact ⟨_, _, rfl, k _ _ _ q (.same rfl)⟩
/-- in order -/
def srt (ns : List Int) : List Int := ns.mergeSort fun a b => decide (a ≤ b)
theorem srt_of {ns ns' : List Int} (p : ns'.Perm ns) (w : ns'.Pairwise (· ≤ ·)) : ns' = srt ns := by
  refine List.Perm.eq_of_pairwise (le := (· ≤ ·)) (fun a b _ _ h1 h2 => Int.le_antisymm h1 h2) w ?_ (p.trans (List.mergeSort_perm ns _).symm)
  have := List.pairwise_mergeSort (le := fun a b : Int => decide (a ≤ b)) (fun a b c h1 h2 => by simp at *; omega) (fun a b => by simp; omega) ns
  exact this.imp fun h => by simpa using h
def sortR : D1 := fun d P => match d with
  | .lst ds => ∃ ns : List Int, ds = ns.map D.int ∧ P (.n ((srt ns).map D.int))
  | _ => False
theorem cd_sorted : CallD1 X (.builtin "sorted") sortR := by
  refine ⟨⟨_, cr_sortedI, fun {H O d v P Q} om t q k => ?_⟩, ⟨fun d P P' h q => by cases d <;> first | exact q.elim | (obtain ⟨ns, e, q⟩ := q; exact ⟨ns, e, h _ q⟩)⟩⟩
  cases d <;> first | exact q.elim | skip
  obtain ⟨ns, rfl, q⟩ := q
  obtain ⟨a, vs, rfl, h1, r1⟩ := t
  cases r1.ofInts
  exact ⟨a, ns, rfl, sql_of h1, fun ns' p hp w hn => by rw [srt_of hp w]; exact k _ _ _ q (.lst hn RepL.ints)⟩
def allR : D1 := fun d P => match d with
  | .lst ds => ∃ bs : List Bool, ds = bs.map D.bl ∧ P (.v (.bl (bs.all id)))
  | _ => False
def anyR : D1 := fun d P => match d with
  | .lst ds => ∃ bs : List Bool, ds = bs.map D.bl ∧ P (.v (.bl (bs.any id)))
  | _ => False
theorem cd_all (hc : X.calm = true) : CallD1 X (.builtin "all") allR := by
  refine ⟨⟨_, cr_all hc, fun {H O d v P Q} om t q k => ?_⟩, ⟨fun d P P' h q => by cases d <;> first | exact q.elim | (obtain ⟨ns, e, q⟩ := q; exact ⟨ns, e, h _ q⟩)⟩⟩
  cases d <;> first | exact q.elim | skip
  obtain ⟨ns, rfl, q⟩ := q
  obtain ⟨a, vs, rfl, h1, r1⟩ := t
  cases r1.ofBls
  exact ⟨a, ns, rfl, sql_of h1, k _ _ _ q (.same rfl)⟩
theorem cd_any (hc : X.calm = true) : CallD1 X (.builtin "any") anyR := by
  refine ⟨⟨_, cr_any hc, fun {H O d v P Q} om t q k => ?_⟩, ⟨fun d P P' h q => by cases d <;> first | exact q.elim | (obtain ⟨ns, e, q⟩ := q; exact ⟨ns, e, h _ q⟩)⟩⟩
  cases d <;> first | exact q.elim | skip
  obtain ⟨ns, rfl, q⟩ := q
  obtain ⟨a, vs, rfl, h1, r1⟩ := t
  cases r1.ofBls
  exact ⟨a, ns, rfl, sql_of h1, k _ _ _ q (.same rfl)⟩
end
end DL

set_option Elab.async false
set_option linter.all false
set_option maxRecDepth 100000
namespace L2
open PySem PySem.Spec PyProof.Rows
/-! list(range(a, b, c)) -/
section
variable {X : Cx} {a b c : Expr} {p pos : Pos}
theorem vals_rgC {lo c : Int} {n : Nat} {acc : Array Value} (h : ItemsOf (fun i v => ∃ t, v = .int (lo + i * c) t) acc n) : Vals ((List.range n).map fun (i : Nat) => V.int (lo + i * c)) acc.toList := by
  have e : acc.toList.length = n := by rw [Array.length_toList]; exact h.1
  rw [← e]
  refine vals_of_get acc.toList _ fun j u hj => ?_
  obtain ⟨t, rfl⟩ := h.2 j u (by rw [← hj, Array.getElem?_toList])
  exact ⟨t, rfl⟩
theorem pe_listRg3 {ta : TA} {p2 p3 : Pos} (hc : X.calm = true) (gl : Gl X "list") (ml : X.mg "list" = none) (hg : Gl X "range") (hm : X.mg "range" = none) (ha : PA X [a, b, c] ta)
    (hs : starEach [a, b, c] X.env = (false, eval a X.env) :: starEach [b, c] X.env := by rfl) (hpl : (backTo p3 (starEach [b, c] X.env)).any (·.1) = false := by rfl)
    (na : starEach [.Call (.Name "range" p2) [a, b, c] [] p3] X.env = (false, eval (.Call (.Name "range" p2) [a, b, c] [] p3) X.env) :: starEach [] X.env := by rfl) :
    PE X (.Call (.Name "list" p) [.Call (.Name "range" p2) [a, b, c] [] p3] [] pos) (fun σ H Q => ta σ H fun vs H1 => ∃ (i j k : Int) (n : Nat), vs = [.int i, .int j, .int k] ∧ RgC i j k n ∧ n ≤ 16777216 ∧ ∀ q, H1 q = none → Q (.ref q) (upd H1 q (.lst ((List.range n).map fun (m : Nat) => V.int (i + m * k))))) := by
  refine ⟨fun pins s σ H Q I h => ?_⟩
  refine Call_ (ld_blt I gl ml boot_list (PyProof.Rows.callWith_type1 (args_cons (Call_ (ld_blt I hg hm boot_range (PyProof.Rows.callWith_type1 (thn (ha.run p3 pins s σ H _ I h) fun us s1 ⟨vs, H1, I1, r1, q1⟩ => ?_) hs hpl))) na) na))
  obtain ⟨i, j, k, n, e, ⟨c0, c1, c2, c3⟩, c4, q⟩ := q1
  subst e
  cases r1 with
  | cons r rr =>
    cases rr with
    | cons r' rr =>
      cases rr with
      | cons r'' rr =>
        cases rr
        obtain ⟨t, rfl⟩ := r
        obtain ⟨t', rfl⟩ := r'
        obtain ⟨t'', rfl⟩ := r''
        refine call_range_3 c0 ?_ (.inl (PyProof.noPylong_small c1))
        have I2 : Inv X pins σ H1 { s1 with heap := s1.heap.push { cls := .type "range", data := .fields #[.int i t, .int j t', .int k t''] }, toks := s1.toks } := I1.kept (t' := s1.toks) fun b o e => Heap.get?_push_of_some _ e
        refine args_nil ?_
        refine call_list_range (n := n) (I1.ok.hd hc) (IsRange.new ..) c2 c3 c4 fun h' tk acc c' hk e' hi => ?_
        refine ⟨.ref _, upd H1 _ (.lst ((List.range n).map fun (m : Nat) => V.int (i + m * k))), I2.laid hk (Nat.le_refl _) (show ObjOk X.prog X.w _ _ _ (.lst _) from ⟨?_, acc.toList, c', vals_rgC hi, ?_⟩), rfl, q _ (I2.hok.fresh (Nat.le_refl _))⟩
        · rw [List.length_map, List.length_range, sizeLine_eq]; exact c4
        · rw [Array.toArray_toList]; exact e'
end
end L2
namespace DL
open PySem L2
/-! ### isinstance, slices, list(range(..)), methods of lists -/
inductive Ty where
  | int | bl | str | tup | lst | dic
def Ty.nm : Ty → String
  | .int => "int" | .bl => "bool" | .str => "str" | .tup => "tuple" | .lst => "list" | .dic => "dict"
def isT : Ty → D → Bool
  | .int, .int _ => true
  | .int, .bl _ => true
  | .bl, .bl _ => true
  | .str, .str _ => true
  | .tup, .tup _ => true
  | .lst, .lst _ => true
  | .dic, .dic _ => true
  | .dic, .dit _ => true
  | _, _ => false
def okTy : D → Prop
  | .ref _ => False
  | _ => True
def tyN : D → String
  | .non => "NoneType" | .bl _ => "bool" | .int _ => "int" | .str _ => "str" | .tup _ => "tuple" | .lst _ => "list" | .dic _ => "dict" | .dit _ => "dict" | .ref _ => ""
theorem kit_tab : ∀ n ∈ ["NoneType", "bool", "int", "str", "tuple", "list", "dict"], ∀ m ∈ ["int", "bool", "str", "tuple", "list", "dict"], kitB n m = some (n == m || (n == "bool" && m == "int")) := by decide +kernel
theorem kit_isT (t : Ty) (d : D) (h : okTy d) : kitB (tyN d) t.nm = some (isT t d) := by
  refine (kit_tab (tyN d) ?_ t.nm ?_).trans ?_
  · cases d <;> first | exact h.elim | simp [tyN]
  · cases t <;> simp [Ty.nm]
  · cases d <;> first | exact h.elim | (cases t <;> simp [tyN, Ty.nm, isT])
section
variable {X : Cx} {G : Amb} {E : XK} {K : PySem.W.Frag} {H H' : Hp} {O : Addr → Prop} {a b c e : Expr} {τ τa τb τc : DT} {pos p : Pos}
theorem tyx_of {d : D} {v : V} (k : ∀ a o, H a = some o → H' a = some o) (h : RepTop K H O d v) (o : okTy d) : TyX K H' v (.type (tyN d)) := by
  cases d with
  | non => cases h; exact .base .non
  | bl _ => cases h; exact .base (.bl _)
  | int _ => cases h; exact .base (.int _)
  | str _ => cases h; exact .base (.str _)
  | tup ds =>
    obtain ⟨a, vs, rfl, h1, _⟩ := h
    rcases h1 with (h1 | ⟨u, h1⟩) | ⟨ob, its, n, h1, h2, _⟩
    · exact .base (.tup (k _ _ h1))
    · exact .fTuple (k _ _ h1)
    · exact .kTuple h1 h2
  | lst ds => obtain ⟨a, vs, rfl, h1, _⟩ := h; exact .base (.lst (k _ _ h1))
  | dic ds => obtain ⟨a, vs, rfl, h1, _⟩ := h; exact .base (.dK (k _ _ h1))
  | dit ds => obtain ⟨a, vs, rfl, h1, _⟩ := h; exact .base (.dT (k _ _ h1))
  | ref _ => exact o.elim
def isiR (ts : List Ty) : D1 := fun d P => okTy d ∧ P (.v (.bl (ts.any fun t => isT t d)))
theorem m1_isi {ts : List Ty} : M1 (isiR ts) := ⟨fun _ _ _ h q => ⟨q.1, h _ q.2⟩⟩
theorem any_isT {d : D} (o : okTy d) : ∀ ts : List Ty, PySem.W.kitAny K (.type (tyN d)) (ts.map fun t => .type t.nm) = some (ts.any fun t => isT t d)
  | [] => rfl
  | t :: ts => kitAny_cons (kit_ty (kit_isT t d o)) (fun h => by rw [List.any_cons, h, Bool.false_or]; exact any_isT o ts) fun h => by rw [List.any_cons, h]; rfl
/-- isinstance(e, T) -/
theorem de_isi (t : Ty) {p2 : Pos} {y : Str} (he : DE X G E e τ) (hg : Gl X "isinstance") (hm : X.mg "isinstance" = none) (gt : Gl X y) (mt : X.mg y = none) (hb : bootBuiltins y = some (.type t.nm)) (hn : y ≠ "__name__" := by decide) (hd : (y == ("__debug__" : Str)) = false := by decide)
    (hq : starEach [e, .Name y p2] X.env = (false, eval e X.env) :: starEach [.Name y p2] X.env := by rfl) (hq2 : starEach [.Name y p2] X.env = (false, eval (.Name y p2) X.env) :: starEach [] X.env := by rfl) (hpl : (backTo pos (starEach [.Name y p2] X.env)).any (·.1) = false := by rfl) :
    DE X G E (.Call (.Name "isinstance" p) [e, .Name y p2] [] pos) (xUn (isiR [t]) τ) := by
  have m := mono_un (m1_isi (ts := [t])) he.mono
  refine ⟨PE.imp (pe_callB call_isi hg hm rfl (pa_cons he.pe (pa_cons (pe_bltn gt mt hb (v := .ty t.nm) rfl hn hd) pa_nil hq2) hq) (by decide) (by decide) hq hpl) fun σ H Q h => ?_, m⟩
  obtain ⟨S, T, B, A, ω, δ, Z, F, z, q⟩ := tD_to m h
  refine un_core (r := fun v H Q => rIsi X.K [v, .ty t.nm] H Q) he.mono (fun {H O d v P Q} om r q k => ?_) F z q
  exact ⟨v, _, _, _, _, rfl, .ty _, tyx_of (fun _ _ h => h) r q.1, kit_ty (kit_isT t d q.1), k (.v (.bl (isT t d))) _ _ (by simpa [List.any] using q.2) (.same rfl)⟩
/-- isinstance(e, (T, T')) -/
theorem de_isi2 (t t' : Ty) {p2 p3 p4 : Pos} {y y' : Str} {kk} (he : DE X G E e τ) (hg : Gl X "isinstance") (hm : X.mg "isinstance" = none) (gt : Gl X y) (mt : X.mg y = none) (hb : bootBuiltins y = some (.type t.nm)) (gt' : Gl X y') (mt' : X.mg y' = none) (hb' : bootBuiltins y' = some (.type t'.nm)) (hn : y ≠ "__name__" := by decide) (hd : (y == ("__debug__" : Str)) = false := by decide) (hn' : y' ≠ "__name__" := by decide) (hd' : (y' == ("__debug__" : Str)) = false := by decide)
    (hq : starEach [e, .Tuple [.Name y p2, .Name y' p3] kk p4] X.env = (false, eval e X.env) :: starEach [.Tuple [.Name y p2, .Name y' p3] kk p4] X.env := by rfl) (hq2 : starEach [.Tuple [.Name y p2, .Name y' p3] kk p4] X.env = (false, eval (.Tuple [.Name y p2, .Name y' p3] kk p4) X.env) :: starEach [] X.env := by rfl) (hpl : (backTo pos (starEach [.Tuple [.Name y p2, .Name y' p3] kk p4] X.env)).any (·.1) = false := by rfl)
    (hs1 : starEach [.Name y p2, .Name y' p3] X.env = (false, eval (.Name y p2) X.env) :: starEach [.Name y' p3] X.env := by rfl) (hs2 : starEach [.Name y' p3] X.env = (false, eval (.Name y' p3) X.env) :: starEach [] X.env := by rfl) :
    DE X G E (.Call (.Name "isinstance" p) [e, .Tuple [.Name y p2, .Name y' p3] kk p4] [] pos) (xUn (isiR [t, t']) τ) := by
  have m := mono_un (m1_isi (ts := [t, t'])) he.mono
  have ht := pe_tup (x1 := kk) (pos := p4) (pa_cons (pe_bltn (pos := p2) gt mt hb (v := .ty t.nm) rfl hn hd) (pa_cons (pe_bltn (pos := p3) gt' mt' hb' (v := .ty t'.nm) rfl hn' hd') pa_nil hs2) hs1)
  refine ⟨PE.imp (pe_callB call_isiT hg hm rfl (pa_cons he.pe (pa_cons ht pa_nil hq2) hq) (by decide) (by decide) hq hpl) fun σ H Q h => ?_, m⟩
  obtain ⟨S, T, B, A, ω, δ, Z, F, z, q⟩ := tD_to m h
  refine tD_of F z (he.mono.m _ _ _ _ _ (fun _ z => z) (fun o δ' q v H' ω' P ev => ?_) q) he.mono
  obtain ⟨d, e1, q⟩ := rdK_some q
  refine ⟨by rw [sizeLine_eq]; exact (by decide : 2 ≤ 16777216), fun p hp => ?_⟩
  have F1 := ev.drop F
  have r : RepTop X.K H' (Ow B ω') d v := RepTop.sub (fun _ z => ow_less z) (ev.fr.rd ev.rp e1)
  refine ⟨v, p, _, _, _, _, rfl, upd_same, .cons (.ty _) (.cons (.ty _) .nil), tyx_of (fun a o h => by rw [upd_ne (ne_of_none h hp)]; exact h) r q.1, any_isT q.1 [t, t'], ?_⟩
  obtain ⟨P2, ev2⟩ := Gv.ev (F1.laid hp nt_tup) ev.ws (.same (d := .bl ([t, t'].any fun t => isT t d)) rfl)
  exact q.2 _ _ _ _ ev2
/-! slices -/
def cutD (ds : List D) (lo hi : Option Int) : List D := (ds.drop (HT.sIx ds.length 0 lo)).take (HT.sIx ds.length ds.length hi - HT.sIx ds.length 0 lo)
theorem RepL.cut {ds : List D} {vs : List V} {lo hi : Option Int} (r : RepL K H O ds vs) : RepL K H O (cutD ds lo hi) (cutV vs lo hi) := by
  unfold cutD cutV
  rw [r.length]
  exact (r.drop _).take _
def slR (d : D) (lo hi : Option Int) (P : Op → Prop) : Prop := match d with
  | .lst ds => P (.n (cutD ds lo hi))
  | .tup ds => P (.v (.tup (cutD ds lo hi)))
  | .str z => z.length ≤ 16777216 ∧ P (.v (.str (cutS z lo hi)))
  | _ => False
theorem slR_mono {d : D} {lo hi : Option Int} {P P' : Op → Prop} (h : ∀ o, P o → P' o) (q : slR d lo hi P) : slR d lo hi P' := by
  cases d <;> first | exact q.elim | exact h _ q | exact ⟨q.1, h _ q.2⟩
def rSlD (K : PySem.W.Frag) : V → Option Int → Option Int → Hp → VK → Prop := fun x lo hi H Q => rSlL K x lo hi H Q ∨ rSlA K x lo hi H Q ∨ rSlS x lo hi H Q
theorem slr_d : SlR X (rSlD X.K) := SlR.or sl_list (SlR.or sl_tupA sl_str)
theorem sl_gv {d : D} {v : V} {lo hi : Option Int} {P : Op → Prop} {Q : VK} (t : RepTop K H O d v) (q : slR d lo hi P) (k : ∀ o v H', P o → Gv K H O o v H' → Q v H') : rSlD K v lo hi H Q := by
  cases d <;> first | exact q.elim | skip
  · cases t; exact .inr (.inr ⟨_, rfl, by rw [sizeLine_eq]; exact q.1, k _ _ _ q.2 (.same rfl)⟩)
  · obtain ⟨a, vs, rfl, h1, r1⟩ := t
    refine .inr (.inl ⟨a, vs, rfl, h1, fun e => k _ _ _ q (.same ⟨a, vs, rfl, h1, ?_⟩), fun e p hp => k _ _ _ q (.tup hp r1.cut)⟩)
    unfold cutD
    rw [r1.length, e.1, e.2, List.drop_zero, Nat.sub_zero, ← r1.length, List.take_length]
    exact r1
  · obtain ⟨a, vs, rfl, h1, r1⟩ := t
    exact .inl ⟨a, vs, rfl, sql_of h1, fun p hp => k _ _ _ q (.lst hp r1.cut)⟩
def xSl0 (τ : DT) : DT := fun Z δ Q => τ Z δ fun o δ1 => rdK o δ1 fun d => slR d none none fun o => Q o δ1
def xSlL (τ τa : DT) : DT := xOp (fun d d1 P => match d1 with
  | .int i => slR d (some i) none P
  | _ => False) τ τa
def xSlH (τ τa : DT) : DT := xOp (fun d d1 P => match d1 with
  | .int i => slR d none (some i) P
  | _ => False) τ τa
def intK (o : Op) (k : Int → Prop) : Prop := match o with
  | .v (.int i) => k i
  | _ => False
theorem intK_mono {o : Op} {k k' : Int → Prop} (h : ∀ i, k i → k' i) (q : intK o k) : intK o k' := by
  unfold intK at q ⊢
  split at q
  · exact h _ q
  · exact q.elim
theorem intK_some {o : Op} {k : Int → Prop} (q : intK o k) : ∃ i, o = .v (.int i) ∧ k i := by
  unfold intK at q
  split at q
  · exact ⟨_, rfl, q⟩
  · exact q.elim
def xSlB (τ τa τb : DT) : DT := fun Z δ Q => τ Z δ fun o δ1 => τa Z δ1 fun o1 δ2 => intK o1 fun i => τb Z δ2 fun o2 δ3 => intK o2 fun j => rdK o δ3 fun d => slR d (some i) (some j) fun o => Q o δ3
theorem m2_sl {f : Int → Option Int × Option Int} : M2 (fun d d1 P => match d1 with
  | .int i => slR d (f i).1 (f i).2 P
  | _ => False) := ⟨fun d1 d2 P P' h q => by cases d2 <;> first | exact q.elim | exact slR_mono h q⟩
theorem de_sl0 {p2 : Pos} (he : DE X G E e τ) : DE X G E (.Subscript e (.Slice none none none p2) pos) (xSl0 τ) := by
  have m : Mono (xSl0 τ) := ⟨fun _ _ _ _ _ hz h q => he.mono.m _ _ _ _ _ hz (fun _ _ q => rdK_mono (fun _ q => slR_mono (fun _ q => h _ _ q) q) q) q⟩
  refine ⟨PE.imp (pe_slice slr_d he.pe po_none po_none) fun σ H Q h => ?_, m⟩
  obtain ⟨S, T, B, A, ω, δ, Z, F, z, q⟩ := tD_to m h
  refine un_core (ρ := fun d P => slR d none none P) (r := fun v H1 Q => rSlD X.K v none none H1 Q) he.mono (fun {H O d v P Q} om r q k => sl_gv r q k) F z q
theorem de_slL {p2 : Pos} (he : DE X G E e τ) (ha : DE X G E a τa) : DE X G E (.Subscript e (.Slice (some a) none none p2) pos) (xSlL τ τa) := by
  have m : Mono (xSlL τ τa) := mono_op (m2_sl (f := fun i => (some i, none))) he.mono ha.mono
  refine ⟨PE.imp (pe_slice slr_d he.pe (po_some ha.pe) po_none) fun σ H Q h => ?_, m⟩
  obtain ⟨S, T, B, A, ω, δ, Z, F, z, q⟩ := tD_to m h
  refine two_then (r := fun x y H2 Q => ∃ i, y = .int i ∧ rSlD X.K x (some i) none H2 Q) (R := fun d1 d2 δ2 => match d2 with
    | .int i => slR d1 (some i) none fun o => tK G X.K S T B A ω σ Q o δ2
    | _ => False) he.mono ha.mono F z q fun {H2 ω2 δ2 d1 d2 v1 v2} F2 w t1 t2 q => ?_
  cases d2 <;> first | exact q.elim | skip
  cases t2
  refine ⟨_, rfl, sl_gv t1 q fun o v H' k g => ?_⟩
  obtain ⟨P, ev⟩ := g.ev F2 w
  exact k v H' ω2 P ev
theorem de_slH {p2 : Pos} (he : DE X G E e τ) (ha : DE X G E a τa) : DE X G E (.Subscript e (.Slice none (some a) none p2) pos) (xSlH τ τa) := by
  have m : Mono (xSlH τ τa) := mono_op (m2_sl (f := fun i => (none, some i))) he.mono ha.mono
  refine ⟨PE.imp (pe_slice slr_d he.pe po_none (po_some ha.pe)) fun σ H Q h => ?_, m⟩
  obtain ⟨S, T, B, A, ω, δ, Z, F, z, q⟩ := tD_to m h
  refine two_then (r := fun x y H2 Q => ∃ i, y = .int i ∧ rSlD X.K x none (some i) H2 Q) (R := fun d1 d2 δ2 => match d2 with
    | .int i => slR d1 none (some i) fun o => tK G X.K S T B A ω σ Q o δ2
    | _ => False) he.mono ha.mono F z q fun {H2 ω2 δ2 d1 d2 v1 v2} F2 w t1 t2 q => ?_
  cases d2 <;> first | exact q.elim | skip
  cases t2
  refine ⟨_, rfl, sl_gv t1 q fun o v H' k g => ?_⟩
  obtain ⟨P, ev⟩ := g.ev F2 w
  exact k v H' ω2 P ev
theorem de_slB {p2 : Pos} (he : DE X G E e τ) (ha : DE X G E a τa) (hb : DE X G E b τb) : DE X G E (.Subscript e (.Slice (some a) (some b) none p2) pos) (xSlB τ τa τb) := by
  have m : Mono (xSlB τ τa τb) := ⟨fun _ _ _ _ _ hz h q => he.mono.m _ _ _ _ _ hz (fun _ _ q => ha.mono.m _ _ _ _ _ hz (fun _ _ q => intK_mono (fun _ q => hb.mono.m _ _ _ _ _ hz (fun _ _ q => intK_mono (fun _ q => rdK_mono (fun _ q =>
    slR_mono (fun _ q => h _ _ q) q) q) q) q) q) q) q⟩
  refine ⟨PE.imp (pe_slice slr_d he.pe (po_some ha.pe) (po_some hb.pe)) fun σ H Q h => ?_, m⟩
  obtain ⟨S, T, B, A, ω, δ, Z, F, z, q⟩ := tD_to m h
  refine tD_of F z (he.mono.m _ _ _ _ _ (fun _ z => z) (fun o δ1 q v H1 ω1 P1 e1 => ?_) q) he.mono
  refine tD_of (e1.go F) (e1.eok F z) (ha.mono.m _ _ _ _ _ (fun _ z => z) (fun o1 δ2 q v1 H2 ω2 P2 e2 => ?_) q) ha.mono
  obtain ⟨i, rfl, q⟩ := intK_some q
  obtain ⟨_, r2⟩ := e2.rp
  cases r2
  refine ⟨i, rfl, ?_⟩
  refine tD_of (e2.go (e1.go F)) (e2.eok (e1.go F) (e1.eok F z)) (hb.mono.m _ _ _ _ _ (fun _ z => z) (fun o2 δ3 q v2 H3 ω3 P3 e3 => ?_) q) hb.mono
  obtain ⟨j, rfl, q⟩ := intK_some q
  obtain ⟨_, r3⟩ := e3.rp
  cases r3
  refine ⟨j, rfl, ?_⟩
  obtain ⟨d, h1, q⟩ := rdK_some q
  have F3 : Fr G X.K S T B A ω3 H3 σ δ3 := e1.back0 F (e2.back (e1.go F) e3.fr)
  have sub : ∀ a, Ow B ω3 a → Ow (Bp (Bp (Bp B P1) P2) P3) ω3 a := fun a h => ow_less (ow_less (ow_less h))
  have c12 : Carry X.K H1 H3 (Ow (Bp B P1) ω1) (Ow (Bp (Bp (Bp B P1) P2) P3) ω3) := by
    refine pin_carry (S' := nS (nS S H1 B P1 ω1) H2 (Bp B P1) P2 ω2) (fun a o h n m => .inl (.inr ⟨h, n, .inl m⟩)) e1.fr.om e3.fr fun a h => ?_
    rcases h with (h | h) | h
    · exact .inl (.inl h)
    · right
      exact e2.rp.nt a h
    · right
      exact fun q => e3.rp.nt a h (e2.fr.dm a (.inl q))
  have r1 : ROp X.K T H3 (Ow (Bp (Bp (Bp B P1) P2) P3) ω3) σ P1 o v := e1.rp.carry c12 (fun _ _ n => n) fun p u hp hu m => e3.fr.st p u (.inl (.inr ⟨hu, nt_mu m, .inr hp⟩))
  refine sl_gv (RepTop.sub sub (e3.fr.rd r1 h1)) q fun o v H' k g => ?_
  obtain ⟨P, ev⟩ := g.ev F3 (e3.ws.trans (e2.ws.trans e1.ws))
  exact k v H' ω3 P ev
/-- l[::-1] -/
def revR : D1 := fun d P => match d with
  | .lst ds => P (.n ds.reverse)
  | _ => False
theorem de_revS {k : Nat} {p1 p2 p3 : Pos} (he : DE X G E e τ) : DE X G E (.Subscript e (.Slice none none (some (.UnaryOp .USub (.Constant (.int 1) k p1) p2)) p3) pos) (xUn revR τ) := by
  have m : Mono (xUn revR τ) := mono_un ⟨fun d P P' h q => by cases d <;> first | exact q.elim | exact h _ q⟩ he.mono
  refine ⟨PE.imp (pe_revL he.pe) fun σ H Q h => ?_, m⟩
  obtain ⟨S, T, B, A, ω, δ, Z, F, z, q⟩ := tD_to m h
  refine un_core (ρ := revR) (r := fun x H1 Q => ∃ a xs, x = V.ref a ∧ SqL X.K H1 a xs ∧ ∀ (p : Addr), H1 p = none → Q (V.ref p) (upd H1 p (HO.lst xs.reverse))) he.mono (fun {H O d v P Q} om r q k => ?_) F z q
  cases d <;> first | exact q.elim | skip
  obtain ⟨a, vs, rfl, h1, r1⟩ := r
  exact ⟨a, vs, rfl, sql_of h1, fun p hp => k _ _ _ q (.lst hp r1.rev)⟩
/-! list(range(..)) -/
theorem rgV_eq (a b : Int) : RepL K H O (rgD a (b - a).toNat) (rgV a b) := by
  unfold rgD rgV
  rw [show (fun i : Nat => D.int (a + (i : Int))) = D.int ∘ (fun i : Nat => a + (i : Int)) from rfl, show (fun i : Nat => V.int (a + (i : Int))) = V.int ∘ (fun i : Nat => a + (i : Int)) from rfl, ← List.map_map, ← List.map_map]
  exact RepL.ints
def lrg1R : D1 := fun d P => match d with
  | .int n => n ≤ 16777216 ∧ 0 ≤ n ∧ P (.n (rgD 0 n.toNat))
  | _ => False
def lrg2R : D2 := fun d1 d2 P => match d1, d2 with
  | .int i, .int j => (0 ≤ i ∧ i ≤ 16777216 ∧ 0 ≤ j ∧ j ≤ 16777216) ∧ P (.n (rgD i (j - i).toNat))
  | _, _ => False
theorem de_lrg1 {p2 p3 : Pos} (hc : X.calm = true) (gl : Gl X "list") (ml : X.mg "list" = none) (hg : Gl X "range") (hm : X.mg "range" = none) (ha : DE X G E a τa) (hs : starEach [a] X.env = (false, eval a X.env) :: starEach [] X.env := by rfl)
    (na : starEach [.Call (.Name "range" p2) [a] [] p3] X.env = (false, eval (.Call (.Name "range" p2) [a] [] p3) X.env) :: starEach [] X.env := by rfl) : DE X G E (.Call (.Name "list" p) [.Call (.Name "range" p2) [a] [] p3] [] pos) (xUn lrg1R τa) := by
  have m : Mono (xUn lrg1R τa) := mono_un ⟨fun d P P' h q => by cases d <;> first | exact q.elim | exact ⟨q.1, q.2.1, h _ q.2.2⟩⟩ ha.mono
  refine ⟨PE.imp (pe_listRg hc gl ml (prg_1 hg hm ha.pe hs) na) fun σ H Q h => ?_, m⟩
  obtain ⟨S, T, B, A, ω, δ, Z, F, z, q⟩ := tD_to m h
  refine un_core (ρ := lrg1R) (r := fun x H1 Q => ∃ n, x = .int n ∧ RgOk 0 n ∧ ∀ q, H1 q = none → Q (.ref q) (upd H1 q (.lst (rgV 0 n)))) ha.mono (fun {H O d v P Q} om r q k => ?_) F z q
  cases d <;> first | exact q.elim | skip
  cases r
  exact ⟨_, rfl, RgOk.of_le (by omega) q.1 (by omega) q.2.1, fun p hp => k _ _ _ q.2.2 (.lst hp (by have := rgV_eq (K := X.K) (H := H) (O := O) 0 ‹Int›; rwa [Int.sub_zero] at this))⟩
theorem de_lrg2 {p2 p3 : Pos} (hc : X.calm = true) (gl : Gl X "list") (ml : X.mg "list" = none) (hg : Gl X "range") (hm : X.mg "range" = none) (ha : DE X G E a τa) (hb : DE X G E b τb) (hs : starEach [a, b] X.env = (false, eval a X.env) :: starEach [b] X.env := by rfl)
    (hs2 : starEach [b] X.env = (false, eval b X.env) :: starEach [] X.env := by rfl) (hpl : (backTo p3 (starEach [b] X.env)).any (·.1) = false := by rfl)
    (na : starEach [.Call (.Name "range" p2) [a, b] [] p3] X.env = (false, eval (.Call (.Name "range" p2) [a, b] [] p3) X.env) :: starEach [] X.env := by rfl) : DE X G E (.Call (.Name "list" p) [.Call (.Name "range" p2) [a, b] [] p3] [] pos) (xOp lrg2R τa τb) := by
  have m : Mono (xOp lrg2R τa τb) := mono_op ⟨fun d1 d2 P P' h q => by cases d1 <;> cases d2 <;> first | exact q.elim | exact ⟨q.1, h _ q.2⟩⟩ ha.mono hb.mono
  refine ⟨PE.imp (pe_listRg hc gl ml (prg_2 hg hm ha.pe hb.pe hs hs2 hpl) na) fun σ H Q h => ?_, m⟩
  obtain ⟨S, T, B, A, ω, δ, Z, F, z, q⟩ := tD_to m h
  refine two_then (r := fun x y H2 Q => ∃ i j, x = .int i ∧ y = .int j ∧ RgOk i j ∧ ∀ q, H2 q = none → Q (.ref q) (upd H2 q (.lst (rgV i j)))) (R := fun d1 d2 δ2 => lrg2R d1 d2 fun o => tK G X.K S T B A ω σ Q o δ2) ha.mono hb.mono F z q fun {H2 ω2 δ2 d1 d2 v1 v2} F2 w t1 t2 q => ?_
  cases d1 <;> cases d2 <;> first | exact q.elim | skip
  cases t1; cases t2
  obtain ⟨⟨c1, c2, c3, c4⟩, q⟩ := q
  refine ⟨_, _, rfl, rfl, RgOk.of_le c1 c4 c2 c3, fun p hp => ?_⟩
  obtain ⟨P, ev⟩ := Gv.ev F2 w (.lst hp (rgV_eq _ _))
  exact q _ _ _ _ ev
def lrg3K (d1 d2 d3 : D) (P : Op → Prop) : Prop := match d1, d2, d3 with
  | .int i, .int j, .int c => ∃ n : Nat, RgC i j c n ∧ n ≤ 16777216 ∧ P (.n (rgC i c n))
  | _, _, _ => False
def xLrg3 (τa τb τc : DT) : DT := fun Z δ Q => τa Z δ fun o δ1 => τb Z δ1 fun o' δ2 => τc Z δ2 fun o'' δ3 => rdK o δ3 fun d => rdK o' δ3 fun d' => rdK o'' δ3 fun d'' => lrg3K d d' d'' fun o => Q o δ3
theorem rgC_eq (i k : Int) (n : Nat) : RepL K H O (rgC i k n) ((List.range n).map fun (m : Nat) => V.int (i + m * k)) := by
  unfold rgC
  rw [show (fun m : Nat => D.int (i + (m : Int) * k)) = D.int ∘ (fun m : Nat => i + (m : Int) * k) from rfl, show (fun m : Nat => V.int (i + (m : Int) * k)) = V.int ∘ (fun m : Nat => i + (m : Int) * k) from rfl, ← List.map_map, ← List.map_map]
  exact RepL.ints
theorem lrg3K_mono {d d' d'' : D} {P P' : Op → Prop} (h : ∀ o, P o → P' o) (q : lrg3K d d' d'' P) : lrg3K d d' d'' P' := by
  cases d <;> first | exact q.elim | skip
  all_goals cases d' <;> first | exact q.elim | skip
  all_goals cases d'' <;> first | exact q.elim | skip
  obtain ⟨n, h1, h2, q⟩ := q
  exact ⟨n, h1, h2, h _ q⟩
theorem de_lrg3 {p2 p3 : Pos} (hc : X.calm = true) (gl : Gl X "list") (ml : X.mg "list" = none) (hg : Gl X "range") (hm : X.mg "range" = none) (ha : DE X G E a τa) (hb : DE X G E b τb) (hcc : DE X G E c τc)
    (hs : starEach [a, b, c] X.env = (false, eval a X.env) :: starEach [b, c] X.env := by rfl) (hs2 : starEach [b, c] X.env = (false, eval b X.env) :: starEach [c] X.env := by rfl) (hs3 : starEach [c] X.env = (false, eval c X.env) :: starEach [] X.env := by rfl) (hpl : (backTo p3 (starEach [b, c] X.env)).any (·.1) = false := by rfl)
    (na : starEach [.Call (.Name "range" p2) [a, b, c] [] p3] X.env = (false, eval (.Call (.Name "range" p2) [a, b, c] [] p3) X.env) :: starEach [] X.env := by rfl) : DE X G E (.Call (.Name "list" p) [.Call (.Name "range" p2) [a, b, c] [] p3] [] pos) (xLrg3 τa τb τc) := by
  have m : Mono (xLrg3 τa τb τc) := ⟨fun _ _ _ _ _ hz h q => ha.mono.m _ _ _ _ _ hz (fun _ _ q => hb.mono.m _ _ _ _ _ hz (fun _ _ q => hcc.mono.m _ _ _ _ _ hz (fun _ _ q => rdK_mono (fun d q => rdK_mono (fun d' q => rdK_mono (fun d'' q => lrg3K_mono (fun _ q => h _ _ q) q) q) q) q) q) q) q⟩
  refine ⟨PE.imp (pe_listRg3 hc gl ml hg hm (pa_cons ha.pe (pa_cons hb.pe (pa_cons hcc.pe pa_nil hs3) hs2) hs) hs hpl na) fun σ H Q h => ?_, m⟩
  obtain ⟨S, T, B, A, ω, δ, Z, F, z, q⟩ := tD_to m h
  refine three_then (r := fun x y w H2 => ∃ (i j k : Int) (n : Nat), [x, y, w] = [.int i, .int j, .int k] ∧ RgC i j k n ∧ n ≤ 16777216 ∧ ∀ q, H2 q = none → Q (.ref q) (upd H2 q (.lst ((List.range n).map fun (m : Nat) => V.int (i + m * k)))))
    (R := fun d d' d'' δ3 => lrg3K d d' d'' fun o => tK G X.K S T B A ω σ Q o δ3) ha.mono hb.mono hcc.mono F z q fun {H2 ω2 δ2 d1 d2 d3 v1 v2 v3} F2 w t1 t2 t3 q => ?_
  cases d1 <;> first | exact q.elim | skip
  all_goals cases d2 <;> first | exact q.elim | skip
  all_goals cases d3 <;> first | exact q.elim | skip
  cases t1; cases t2; cases t3
  obtain ⟨n, h1, h2, q⟩ := q
  refine ⟨_, _, _, n, rfl, h1, h2, fun p hp => ?_⟩
  obtain ⟨P, ev⟩ := Gv.ev F2 w (.lst hp (rgC_eq _ _ _))
  exact q _ _ _ _ ev
/-! methods of our lists -/
def appR : DM := fun ds as P => match as with
  | [d] => ds.length < 16777216 ∧ P .non (ds ++ [d])
  | _ => False
theorem RepL.one_inv {d : D} {vs : List V} (h : RepL K H O [d] vs) : ∃ v, vs = [v] ∧ Rep K H O d v := by
  obtain ⟨v, r, rfl, e, h⟩ := h; cases h; exact ⟨v, rfl, e⟩
theorem md_append : MtD X "list.append" appR := by
  refine ⟨⟨_, mt_append, fun {H O l xs ds as vs P Q} hl hd ha q k => ?_⟩, fun ds as P P' h q => by
    match as, q with
    | [d], q => exact ⟨q.1, h _ _ q.2⟩⟩
  match as, q with
  | [d], q =>
    obtain ⟨v, rfl, r⟩ := ha.one_inv
    exact ⟨l, xs, v, rfl, rfl, hl, by rw [sizeLine_eq, ← hd.length]; exact q.1, k _ _ _ _ q.2 rfl (hd.append (RepL.one r))⟩
def extR : DM := fun ds as P => match as with
  | [.lst zs] => ds.length + zs.length ≤ 16777216 ∧ P .non (ds ++ zs)
  | _ => False
theorem md_extend : MtD X "list.extend" extR := by
  refine ⟨⟨_, mt_extend, fun {H O l xs ds as vs P Q} hl hd ha q k => ?_⟩, fun ds as P P' h q => by
    match as, q with
    | [.lst zs], q => exact ⟨q.1, h _ _ q.2⟩⟩
  match as, q with
  | [.lst zs], q =>
    obtain ⟨v, rfl, b, us, rfl, hb, _, r⟩ := ha.one_inv
    exact ⟨l, b, xs, us, rfl, rfl, hl, hb, by rw [sizeLine_eq, ← hd.length, ← r.length]; exact q.1, k _ _ _ _ q.2 rfl (hd.append r)⟩
def popR : DM := fun ds as P => match as with
  | [] => ∃ d, ds[ds.length - 1]? = some d ∧ P d ds.dropLast
  | _ => False
theorem RepL.dropLast {ds : List D} {vs : List V} (h : RepL K H O ds vs) : RepL K H O ds.dropLast vs.dropLast := by
  rw [List.dropLast_eq_take, List.dropLast_eq_take, h.length]; exact h.take _
theorem md_pop : MtD X "list.pop" popR := by
  refine ⟨⟨_, mt_pop, fun {H O l xs ds as vs P Q} hl hd ha q k => ?_⟩, fun ds as P P' h q => by
    match as, q with
    | [], ⟨d, e, q⟩ => exact ⟨d, e, h _ _ q⟩⟩
  match as, q with
  | [], ⟨d, e, q'⟩ =>
    cases ha
    obtain ⟨v, e1, r⟩ := hd.get e
    exact ⟨l, xs, v, rfl, rfl, hl, by rw [← hd.length]; exact e1, k _ _ _ _ q' r hd.dropLast⟩
def sortM : DM := fun ds as P => match as with
  | [] => ∃ ns : List Int, ds = ns.map D.int ∧ P .non ((srt ns).map D.int)
  | _ => False
theorem md_sort : MtD X "list.sort" sortM := by
  refine ⟨⟨_, mt_sortI, fun {H O l xs ds as vs P Q} hl hd ha q k => ?_⟩, fun ds as P P' h q => by
    match as, q with
    | [], ⟨d, e, q⟩ => exact ⟨d, e, h _ _ q⟩⟩
  match as, q with
  | [], ⟨ns, e, q'⟩ =>
    subst e
    cases ha
    cases hd.ofInts
    exact ⟨l, ns, rfl, rfl, hl, fun ns' hp hw => by rw [srt_of hp hw]; exact k _ _ _ _ q' rfl RepL.ints⟩
def insR : DM := fun ds as P => match as with
  | [.int i, d] => (ds.length < 16777216 ∧ 0 ≤ i ∧ i < 2 ^ 63) ∧ P .non (ds.take i.toNat ++ [d] ++ ds.drop i.toNat)
  | _ => False
theorem md_insert : MtD X "list.insert" insR := by
  refine ⟨⟨_, mt_insert, fun {H O l xs ds as vs P Q} hl hd ha q k => ?_⟩, fun ds as P P' h q => by
    match as, q with
    | [.int i, d], q => exact ⟨q.1, h _ _ q.2⟩⟩
  match as, q with
  | [.int i, d], q =>
    obtain ⟨v, r, rfl, e, h⟩ := ha
    obtain ⟨u, rfl, r⟩ := h.one_inv
    cases e
    exact ⟨l, xs, i, u, rfl, rfl, hl, by rw [sizeLine_eq, ← hd.length]; exact q.1.1, q.1.2.1, q.1.2.2, k _ _ _ _ q.2 rfl (((hd.take _).append (RepL.one r)).append (hd.drop _))⟩
end
end DL

set_option Elab.async false
set_option linter.all false
set_option maxRecDepth 100000
namespace DL
open PySem L2
/-! ### x, y = a, b -/
section
variable {G : Amb} {K : PySem.W.Frag} {S : Addr → HO → Prop} {T B : Addr → Prop} {A : Nat → Option Addr} {ω : List (Option Addr)} {H : Hp} {σ : St} {δ : Env} {P : Option Addr} {o : Op} {v : V}
theorem Fr.putOp' {i : Nat} {Q : Env → Prop} (St : Stat G S T B A) (F : Fr G K S (Bp T P) (Bp B P) A ω H σ δ) (r : ROp K T H (Ow (Bp B P) ω) σ P o v) (q : xName i o δ Q) : ∃ ω' δ', Fr G K S T B A ω' H (σ.set i (some v)) δ' ∧ (∀ a, Ow B ω' a → Ow (Bp B P) ω a) ∧ Q δ' := by
  cases o with
  | v d =>
    obtain ⟨rfl, r⟩ := r
    exact ⟨_, _, F.put (s := .val d) (w := none) St (fun a h => by cases h) (fun _ => ⟨rfl, v, rfl, Rep.carry (Carry.sub (ow_put fun a h => by cases h)) r⟩), ow_put fun a h => (by cases h), q⟩
  | b j => exact q.elim
  | n ds =>
    obtain ⟨p, vs, rfl, rfl, n, e, r⟩ := r
    exact ⟨_, _, F.put (s := .own ds) (w := some p) St (fun a h => by cases h; exact ⟨rfl, n, _, e, trivial⟩) (fun _ => ⟨p, vs, rfl, rfl, e, RepL.carry (Carry.sub (ow_put fun a h => h)) r⟩), ow_put fun a h => h, q⟩
  | nd ds =>
    obtain ⟨p, vs, rfl, rfl, n, e, r⟩ := r
    exact ⟨_, _, F.put (s := .ownD ds) (w := some p) St (fun a h => by cases h; exact ⟨rfl, n, _, e, trivial⟩) (fun _ => ⟨p, vs, rfl, rfl, e, RepK.carry (Carry.sub (ow_put fun a h => h)) r⟩), ow_put fun a h => h, q⟩
  | nt ds =>
    obtain ⟨p, vs, rfl, rfl, n, e, r⟩ := r
    exact ⟨_, _, F.put (s := .ownT ds) (w := some p) St (fun a h => by cases h; exact ⟨rfl, n, _, e, trivial⟩) (fun _ => ⟨p, vs, rfl, rfl, e, RepT.carry (Carry.sub (ow_put fun a h => h)) r⟩), ow_put fun a h => h, q⟩
def nbO : Op → Bool
  | .b _ => false
  | _ => true
def putOps : List Nat → List Op → Env → (Env → Prop) → Prop
  | [], [], δ, Q => Q δ
  | i :: is, o :: os, δ, Q => xName i o δ fun δ1 => putOps is os δ1 Q
  | _, _, _, _ => False
theorem putOps_mono {Q Q' : Env → Prop} (h : ∀ δ, Q δ → Q' δ) : ∀ {is : List Nat} {os : List Op} {δ : Env}, putOps is os δ Q → putOps is os δ Q'
  | [], [], _, q => h _ q
  | i :: is, o :: os, δ, q => mono_name.m _ _ _ _ (fun δ1 q => putOps_mono h q) q
  | [], _ :: _, _, q => q.elim
  | _ :: _, [], _, q => q.elim
def setAll : List Nat → List V → St → St
  | i :: is, v :: vs, σ => setAll is vs (σ.set i (some v))
  | _, _, σ => σ
theorem ROp.st {T : Addr → Prop} {O : Addr → Prop} {σ' : St} (h : nbO o = true) (r : ROp K T H O σ P o v) : ROp K T H O σ' P o v := by
  cases o <;> first | exact r | simp [nbO] at h
theorem ROps.st {T : Addr → Prop} {O : Addr → Prop} {σ' : St} {Ps : List Addr} {os : List Op} {vs : List V} (r : ROps K T H O σ Ps os vs) : os.all nbO = true → ROps K T H O σ' Ps os vs := by
  induction r with
  | nil => exact fun _ => .nil
  | cons r _ ih =>
    intro h
    simp only [List.all_cons, Bool.and_eq_true] at h
    exact .cons (r.st h.1) (ih h.2)
theorem bl_bp {Ps : List Addr} : BL B (P.toList ++ Ps) = Bp (BL B Ps) P := by
  funext a
  apply propext
  unfold BL Bp
  rw [List.mem_append, Option.mem_toList]
  constructor
  · rintro (h | h | h)
    · exact .inl (.inl h)
    · exact .inr h
    · exact .inl (.inr h)
  · rintro ((h | h) | h)
    · exact .inl h
    · exact .inr (.inr h)
    · exact .inr (.inl h)
theorem Fr.putOps {Q : Env → Prop} : ∀ {is : List Nat} {os : List Op} {vs : List V} {Ps : List Addr} {ω : List (Option Addr)} {σ : St} {δ : Env}, (∀ a, G.C a → B a) → (∀ a, B a → T a) → (∀ a o, S a o → T a) → (∀ a o, S a o → ¬ G.C a ∧ NT o) → (∀ i a, A i = some a → B a) → Fr G K S (BL T Ps) (BL B Ps) A ω H σ δ → Ps.Nodup → ROps K T H (Ow (BL B Ps) ω) σ Ps os vs → os.all nbO = true → DL.putOps is os δ Q →
    ∃ ω' δ', Fr G K S T B A ω' H (setAll is vs σ) δ' ∧ Q δ' := by
  intro is
  induction is with
  | nil =>
    intro os vs Ps ω σ δ h1 h2 h3 h4 h5 F nd r nb q
    cases os with
    | nil => cases r; rw [bl_nil, bl_nil] at F; exact ⟨ω, δ, F, q⟩
    | cons o os => exact q.elim
  | cons i is ih =>
    intro os vs Ps ω σ δ h1 h2 h3 h4 h5 F nd r nb q
    cases r with
    | nil => exact q.elim
    | @cons P Ps o os v vs r rs =>
      simp only [List.all_cons, Bool.and_eq_true] at nb
      rw [bl_bp, bl_bp] at F
      rw [bl_bp] at r rs
      have nd' := List.nodup_append.mp nd
      have St : Stat G S (BL T Ps) (BL B Ps) A := ⟨fun a h => .inl (h1 a h), fun a h => h.elim (fun h => .inl (h2 a h)) .inr, fun a o h => .inl (h3 a o h), h4, fun i a h => .inl (h5 i a h)⟩
      have r' : ROp K (BL T Ps) H (Ow (Bp (BL B Ps) P) ω) σ P o v := r.carry (Carry.sub fun _ h => h) (fun p h n z => by
        rcases z with z | z
        · exact n z
        · exact nd'.2.2 p (Option.mem_toList.mpr h) p z rfl) fun p u _ h _ => h
      obtain ⟨ω1, δ1, F1, s1, q⟩ := F.putOp' St r' q
      have rs' : ROps K T H (Ow (BL B Ps) ω1) (σ.set i (some v)) Ps os vs := (rs.carry (Carry.sub s1) (fun _ _ n => n) fun p _ u h _ => h).st nb.2
      exact ih h1 h2 h3 h4 h5 F1 nd'.2.1 rs' nb.2 q
end
def xPar (is : List Nat) (τs : DTA) : DSt := fun F δ => τs F.ex δ fun os δ' => (os.all nbO = true ∧ os.length = is.length) ∧ putOps is os δ' F.nx
theorem mono_par {is : List Nat} {τs : DTA} (m : MonoA τs) : MonoS (xPar is τs) := ⟨fun _ _ _ l q => m.m _ _ _ _ _ l.ex (fun _ _ q => ⟨q.1, putOps_mono l.nx q.2⟩) q⟩
section
variable {X : Cx} {G : Amb} {E : XK} {a b c : Expr} {τs : DTA} {pos : Pos}
theorem ds_par {i j : Nat} {x y : Str} {px py pt pt2 : Pos} {kt k2} (hc : X.calm = true) (hN : X.N.Nodup) (hi : X.N[i]? = some x) (hj : X.N[j]? = some y) (hij : i ≠ j)
    (hx : X.env.scope.names.lookup x = some .local) (hy : X.env.scope.names.lookup y = some .local) (ha : DA X G E [a, b] τs)
    (hw : swappedStores [.Tuple [.Name x px, .Name y py] kt pt] (.Tuple [a, b] k2 pt2) X.env = pure (some [x, y]))
    (hs : swapsWithSole [.Tuple [.Name x px, .Name y py] kt pt] (.Tuple [a, b] k2 pt2) pos.line X.env = pure false := by rfl) :
    DS X G E (.Assign [.Tuple [.Name x px, .Name y py] kt pt] (.Tuple [a, b] k2 pt2) pos) (xPar [i, j] τs) := ⟨PS.imp (ps_par hc hN hi hj hij hx hy ha.pa hw hs) fun D σ H h => by
  obtain ⟨S, T, B, A, ω, δ, F, Fs, z, en, q⟩ := h
  refine tA_of ha.mono Fs z q fun os δ' vs H' ω' Ps q ev => ?_
  obtain ⟨⟨nb, ln⟩, q⟩ := q
  match os, vs, ev.rp, q, ln with
  | [o1, o2], [v1, v2], r, q, _ =>
    refine ⟨v1, v2, rfl, ?_⟩
    obtain ⟨ω2, δ2, F2, q⟩ := Fr.putOps Fs.cb Fs.bt Fs.sT Fs.sc Fs.al ev.fr ev.nd r nb q
    exact en.nx _ _ _ _ F2 q, mono_par ha.mono⟩
theorem ds_par3 {i j l : Nat} {x y z : Str} {px py pz pt pt2 : Pos} {kt k2} (hc : X.calm = true) (hN : X.N.Nodup) (hi : X.N[i]? = some x) (hj : X.N[j]? = some y) (hl : X.N[l]? = some z) (hij : i ≠ j) (hil : i ≠ l) (hjl : j ≠ l)
    (hx : X.env.scope.names.lookup x = some .local) (hy : X.env.scope.names.lookup y = some .local) (hz : X.env.scope.names.lookup z = some .local) (ha : DA X G E [a, b, c] τs)
    (hw : swappedStores [.Tuple [.Name x px, .Name y py, .Name z pz] kt pt] (.Tuple [a, b, c] k2 pt2) X.env = pure (some [x, y, z]))
    (hs : swapsWithSole [.Tuple [.Name x px, .Name y py, .Name z pz] kt pt] (.Tuple [a, b, c] k2 pt2) pos.line X.env = pure false := by rfl) :
    DS X G E (.Assign [.Tuple [.Name x px, .Name y py, .Name z pz] kt pt] (.Tuple [a, b, c] k2 pt2) pos) (xPar [i, j, l] τs) := ⟨PS.imp (ps_par3 hc hN hi hj hl hij hil hjl hx hy hz ha.pa hw hs) fun D σ H h => by
  obtain ⟨S, T, B, A, ω, δ, F, Fs, z, en, q⟩ := h
  refine tA_of ha.mono Fs z q fun os δ' vs H' ω' Ps q ev => ?_
  obtain ⟨⟨nb, ln⟩, q⟩ := q
  match os, vs, ev.rp, q, ln with
  | [o1, o2, o3], [v1, v2, v3], r, q, _ =>
    refine ⟨v1, v2, v3, rfl, ?_⟩
    obtain ⟨ω2, δ2, F2, q⟩ := Fr.putOps Fs.cb Fs.bt Fs.sT Fs.sc Fs.al ev.fr ev.nd r nb q
    exact en.nx _ _ _ _ F2 q, mono_par ha.mono⟩
/-! ### a call of a name that holds a def -/
structure HeldD (X : Cx) (G : Amb) (f : Addr) (φ : FSp) : Prop where
  ex : ∃ (k : Nat) (fd : FuncData) (ps : List Str), FnOk X.prog X.w X.K X.mg X.base (L2N.CX X.prog X.w) k f fd ps (spD G X.K φ) ∧ Room k X.A ∧ PySem.W.keepIn X.K (.ref f) = true ∧ Binds X.K fd ps []
  mono : MonoF φ
def xCallL (i : Nat) (R : Addr → Option FSp) (τs : DTA) : DT := fun Z δ Q => match δ[i]? with
  | some (.val (.ref f)) => match R f with
    | some φ => xCall φ τs Z δ Q
    | none => False
  | _ => False
theorem de_callL {i : Nat} {x : Str} {p : Pos} {e : Expr} {es : List Expr} {R : Addr → Option FSp} (hR : ∀ f φ, R f = some φ → HeldD X G f φ) (hx : Passes (L2N.CX X.prog X.w) X E) (hN : X.N[i]? = some x) (hv : Vis X.env.scope x) (ha : DA X G E (e :: es) τs)
    (hdb : (x == ("__debug__" : Str)) = false := by decide) (hcd : (x == ("__classdict__" : Str)) = false := by decide) (he : starEach (e :: es) X.env = (false, eval e X.env) :: starEach es X.env := by rfl) (hpl : (backTo pos (starEach es X.env)).any (·.1) = false := by rfl) :
    DE X G E (.Call (.Name x p) (e :: es) [] pos) (xCallL i R τs) := by
  have m : Mono (xCallL i R τs) := ⟨fun Z Z' δ Q Q' hz h q => by
    unfold xCallL at q ⊢
    split at q
    · cases e1 : R ‹Addr› with
      | none => rw [e1] at q; exact q.elim
      | some φ => rw [e1] at q; exact (mono_call (hR _ _ e1).mono ha.mono).m _ _ _ _ _ hz h q
    · exact q.elim⟩
  refine ⟨⟨fun pins s σ H Q I h => ?_⟩, m⟩
  obtain ⟨S, T, B, A, ω, δ, Z, Fs, z, q⟩ := tD_to m h
  unfold xCallL at q
  split at q
  case h_2 => exact q.elim
  case h_1 f ed =>
    cases e1 : R f with
    | none => rw [e1] at q; exact q.elim
    | some φ =>
      rw [e1] at q
      obtain ⟨⟨k, fd, ps, F, hr, hk, hb⟩, mf⟩ := hR f φ e1
      obtain ⟨_, v, e2, e3⟩ := Fs.slot i _ ed
      cases e3
      refine (pe_callL (i := i) (f := f) (sp := spD G X.K φ) (dvs := []) (E := E) F hr hN hv hk hb .nil hx ha.pa hdb hcd he hpl).run pins s σ H Q I ⟨e2, ?_⟩
      refine tA_of ha.mono Fs z q fun os δ' vs H' ω' Ps q ev => ?_
      obtain ⟨ds, e1, q⟩ := kpLK_some q
      show spD G X.K φ (vs ++ []) H' Q E
      rw [List.append_nil]
      exact call_core mf (ev.drop Fs) ev.ws z (ev.kp Fs e1) q
end
/-! ### a def -/
/-- what a body does, from its arguments -/
def fnD (n m : Nat) (τ : DSt) : FSp := fun ds Q Z => ds.length = n ∧ τ ⟨fun _ => Q .non, Q, fun _ => False, fun _ => False, Z⟩ (ds.map .val ++ List.replicate (m - n) .un)
theorem mono_fnD {n m : Nat} {τ : DSt} (h : MonoS τ) : MonoF (fnD n m τ) := ⟨fun ds Q Q' Z Z' hq hz q => ⟨q.1, h.m ⟨fun _ => Q .non, Q, fun _ => False, fun _ => False, Z⟩ ⟨fun _ => Q' .non, Q', fun _ => False, fun _ => False, Z'⟩ _ ⟨fun _ q => hq _ q, hq, fun _ z => z, fun _ z => z, hz⟩ q.2⟩⟩
section
variable {P : Program} {w : World} {K : PySem.W.Frag} {mg : Str → Option Value} {base : Heap} {x qual : Str} {params : Arguments} {body : List Stmt} {scope : Scope} {f : Addr} {fd : FuncData} {G : Amb} {N ps : List Str} {k : Nat} {τ : DSt} {φ : FSp}
theorem dl_enter {cdv : Value} {A : Around} {outer : List PySem.Env} {s : Shared} {H : Hp} {E : XK} {vs : List V} {Q : VK} (hl : ps.length ≤ N.length) (hτ : ∀ ds Q Z, φ ds Q Z → fnD ps.length N.length τ ds Q Z) (hb : DSs (cxOf (L2N.CX P w) P w K mg base N qual scope f cdv A outer s H E) G E body τ) (h : spD G K φ vs H Q E) :
    ∃ t, PSs (cxOf (L2N.CX P w) P w K mg base N qual scope f cdv A outer s H E) body t ∧ t { nx := fun _ H' => Q .non H', rt := Q } (L2.start N vs) H := by
  refine ⟨_, hb.ps, ?_⟩
  obtain ⟨B, ds, inv, hC, om, r, q⟩ := h
  obtain ⟨ln, q⟩ := hτ _ _ _ q
  have l1 := r.length
  have wn : ∀ (i : Nat) a, (List.replicate N.length (none : Option Addr))[i]? ≠ some (some a) := fun i a e => by
    rw [List.getElem?_replicate] at e
    split at e <;> cases e
  refine ⟨fun a o => H a = some o ∧ ¬ G.C a ∧ NT o, nT H, B, fun _ => none, List.replicate N.length none, ds.map .val ++ List.replicate (N.length - ps.length) .un, _, ⟨inv, hC, fun a h => ?_, fun a o h => ⟨o, h.1, h.2.2⟩, fun a o h => h.2, fun i a h => (nomatch h), om, fun a h => h, fun a o h => h.1, fun i a h => (wn i a h).elim, fun i j a h => (wn i a h).elim, fun i a h => (wn i a h).elim, ?_, ?_, fun i s hs => ?_⟩, ?_, ⟨?_, fun _ _ _ _ _ z => False.elim z, fun _ _ _ _ _ z => False.elim z, ?_⟩, q⟩
  · obtain ⟨o, e, m⟩ := om a h; exact ⟨o, e, nt_mu m⟩
  · unfold L2.start
    rw [List.length_append, List.length_map, List.length_replicate, List.length_append, List.length_map, List.length_replicate, l1, ← ln, l1]
  · rw [List.length_replicate, List.length_append, List.length_map, List.length_replicate]; omega
  · by_cases hi : i < ds.length
    · rw [List.getElem?_append_left (by rw [List.length_map]; exact hi), List.getElem?_map] at hs
      obtain ⟨d, e⟩ : ∃ d, ds[i]? = some d := ⟨ds[i], List.getElem?_eq_getElem hi⟩
      rw [e] at hs
      cases hs
      obtain ⟨v, e2, rv⟩ := r.get e
      refine ⟨?_, v, ?_, Rep.carry (Carry.sub fun a h => h.elim (fun z => z) fun ⟨j, z⟩ => (wn j a z).elim) rv⟩
      · rw [List.getElem?_replicate, if_pos (by omega)]
      · unfold L2.start
        rw [List.getElem?_append_left (by rw [List.length_map, ← l1]; exact hi), List.getElem?_map, e2]; rfl
    · rw [List.getElem?_append_right (by rw [List.length_map]; omega), List.getElem?_replicate] at hs
      split at hs
      · cases hs
        show (List.replicate N.length (none : Option Addr))[i]? = some none
        rw [List.length_map] at *
        rw [List.getElem?_replicate, if_pos (by omega)]
      · cases hs
  · exact fun x H' hx i s t => hx H' i ⟨fun a o h n nt => s a o ⟨h, n, nt⟩, t⟩
  · exact fun δ' σ' H' ω' F' q => q _ H' F'.inv ⟨fun a o h n nt => F'.st a o ⟨h, n, nt⟩, F'.dm⟩ rfl
  · exact fun d v H' i s t r q => q v H' i ⟨fun a o h n nt => s a o ⟨h, n, nt⟩, t⟩ r
theorem fn_dl (F : FunD K x qual params body scope [] [] f fd) (S : FnScope N ps scope) (hl : ps.length ≤ N.length) (hτ : ∀ ds Q Z, φ ds Q Z → fnD ps.length N.length τ ds Q Z)
    (hb : ∀ (cdv : Value) (A : Around) (outer : List PySem.Env) (s : Shared) (H : Hp) (E : XK), Room k (A.deeper (PyProof.Rows.envOfC qual scope s.heap.objs.size f cdv)) → DSs (cxOf (L2N.CX P w) P w K mg base N qual scope f cdv A outer s H E) G E body τ) :
    FnOk P w K mg base (L2N.CX P w) (k + 1) f fd ps (spD G K φ) := by
  refine F.ok S (fun vs H Q E h => ?_) fun cdv A outer s H vs Q E hr h => ?_
  · obtain ⟨B, ds, _, _, _, r, q⟩ := h
    rw [← r.length]
    exact (hτ _ _ _ q).1
  · exact dl_enter hl hτ (hb cdv A outer s H E hr) h
/-- the same of a def whose code object is known -/
theorem fn_dlC {dV kV doc pm cdv ct oc : Value} {an od : Option Addr} {osl : Array (Option Value)} (lk : K.lookup f = some ⟨oc, od, .func (PySem.W.fnOf x qual params body scope dV kV doc pm an cdv ct), osl⟩) (hcd : PySem.W.codeIn K cdv qual = true) (S : FnScope N ps scope) (hl : ps.length ≤ N.length) (hτ : ∀ ds Q Z, φ ds Q Z → fnD ps.length N.length τ ds Q Z)
    (hb : ∀ (A : Around) (outer : List PySem.Env) (s : Shared) (H : Hp) (E : XK), Room k (A.deeper (PyProof.Rows.envOfC qual scope s.heap.objs.size f cdv)) → DSs (cxOf (L2N.CX P w) P w K mg base N qual scope f cdv A outer s H E) G E body τ) :
    FnOk P w K mg base (L2N.CX P w) (k + 1) f (PySem.W.fnOf x qual params body scope dV kV doc pm an cdv ct) ps (spD G K φ) := by
  refine fn_of lk hcd S (fun vs H Q E h => ?_) fun A outer s H vs Q E hr h => dl_enter hl hτ (hb A outer s H E hr) h
  obtain ⟨B, ds, _, _, _, r, q⟩ := h
  rw [← r.length]
  exact (hτ _ _ _ q).1
end
end DL

set_option Elab.async false
set_option linter.all false
set_option maxRecDepth 100000
namespace L2
open PySem PySem.Spec PyProof.Rows
/-! list.count of flat things -/
section
variable {X : Cx}
def rCntF (K : PySem.W.Frag) : V → List V → Hp → VK → Prop := fun x xs H Q => ∃ (p : Addr) (ys : List V) (y : V), x = .ref p ∧ xs = [y] ∧ SqL K H p ys ∧ flatV y = true ∧ ys.all flatV = true ∧ Q (.int ((ys.countP fun z => eqV z y : Nat) : Int)) H
theorem count_eqU {x : V} : ∀ {xs : List V} {us : List Value}, Vals xs us → xs.all flatV = true → us.countP (eqU x) = xs.countP fun y => eqV y x
  | _, _, .nil, _ => rfl
  | _, _, .cons r t, f => by
    simp only [List.all_cons, Bool.and_eq_true] at f
    rw [List.countP_cons, List.countP_cons, count_eqU t f.2, eqU_of r f.1]
theorem mt_lcountF : MtR X "list.count" (rCntF X.K) := by
  intro pins s σ H x xs v us Q I rx rxs h
  obtain ⟨p, ys, y, rfl, rfl, hs, fy, fys, q⟩ := h
  cases rx
  obtain ⟨u, rfl, ru⟩ := rxs.one
  obtain ⟨its, rv, ⟨⟨cls, dd, data, sl⟩, n, ho, hc, hdn, hd⟩, hlen⟩ := I.list hs
  simp only at hc hd
  subst hc hd
  refine call_meets PySem.F.slot_list_count ⟨_, ho, rfl⟩ PySem.F.entry_list_count (PySem.F.args_list_count_2 _ _)
    (SeqAt.list_countAt p its.toArray n dd sl u (eqU y)) ⟨ho, fun u' hu' => mem_eqAt ru fy rv fys u' (by simpa using hu'), ?_⟩
  have ec : its.toArray.toList.countP (eqU y) = ys.countP fun z => eqV z y := count_eqU rv fys
  refine ⟨.int ((ys.countP fun z => eqV z y : Nat) : Int), H, I.tok _, ⟨s.toks, ?_⟩, q⟩
  show Value.int ((its.toArray.toList.countP (eqU y) : Nat) : Int) s.toks = Value.int ((ys.countP fun z => eqV z y : Nat) : Int) s.toks
  rw [ec]
end
end L2
namespace DL
open PySem L2
section
variable {X : Cx} {K : PySem.W.Frag} {H : Hp} {O : Addr → Prop}
theorem upd_self {l : Addr} {o : HO} (h : H l = some o) : upd H l o = H := by
  funext a
  by_cases e : a = l
  · rw [e, upd_same, h]
  · rw [upd_ne e]
theorem flat_countP {d : D} {v : V} (f0 : flatD d = true) (h0 : RepTop K H O d v) : ∀ {ds : List D} {vs : List V}, ds.all flatD = true → RepL K H O ds vs → (vs.countP fun z => eqV z v) = ds.countP fun z => eqD z d
  | [], _, _, h => by cases h; rfl
  | e :: ds, _, f, h => by
    obtain ⟨u, r, rfl, e1, h⟩ := h
    simp only [List.all_cons, Bool.and_eq_true] at f
    rw [List.countP_cons, List.countP_cons, flat_countP f0 h0 f.2 h, flat_eq f.1 f0 e1.top h0]
def cntR : DM := fun ds as P => match as with
  | [d] => (flatD d = true ∧ ds.all flatD = true) ∧ P (.int ((ds.countP fun z => eqD z d : Nat) : Int)) ds
  | _ => False
theorem md_count : MtD X "list.count" cntR := by
  refine ⟨⟨_, mt_lcountF, fun {H O l xs ds as vs P Q} hl hd ha q k => ?_⟩, fun ds as P P' h q => by
    match as, q with
    | [d], q => exact ⟨q.1, h _ _ q.2⟩⟩
  match as, q with
  | [d], q =>
    obtain ⟨v, rfl, r⟩ := ha.one_inv
    refine ⟨l, xs, v, rfl, rfl, sql_of hl, flat_rep q.1.1 r.top, flat_all q.1.2 hd, ?_⟩
    have := k _ (.int ((xs.countP fun z => eqV z v : Nat) : Int)) _ _ q.2 (by rw [flat_countP q.1.1 r.top q.1.2 hd]; rfl) hd
    rwa [upd_self hl] at this
/-- the place of the first one that is alike -/
def idxR : DM := fun ds as P => match as with
  | [d] => (flatD d = true ∧ ds.all flatD = true) ∧ (ds.findIdx fun z => eqD z d) < ds.length ∧ P (.int ((ds.findIdx fun z => eqD z d : Nat) : Int)) ds
  | _ => False
theorem md_index : MtD X "list.index" idxR := by
  refine ⟨⟨_, mt_index, fun {H O l xs ds as vs P Q} hl hd ha q k => ?_⟩, fun ds as P P' h q => by
    match as, q with
    | [d], ⟨c, l, q⟩ => exact ⟨c, l, h _ _ q⟩⟩
  match as, q with
  | [d], ⟨c, hj, q⟩ =>
    obtain ⟨v, rfl, r⟩ := ha.one_inv
    have e1 : ds[ds.findIdx fun z => eqD z d]? = some ds[ds.findIdx fun z => eqD z d] := List.getElem?_eq_getElem hj
    obtain ⟨u, h1, h2⟩ := hd.get e1
    have fz : ∀ {m : Nat} {z : D}, ds[m]? = some z → flatD z = true := fun h => List.all_eq_true.mp c.2 _ (List.mem_of_getElem? h)
    refine ⟨l, xs, v, _, u, rfl, rfl, sql_of hl, flat_rep c.1 r.top, flat_all c.2 hd, h1, by rw [flat_eq (fz e1) c.1 h2.top r.top]; exact List.findIdx_getElem (p := fun z => eqD z d), fun m z' hm hz => ?_, ?_⟩
    · obtain ⟨d', e4, e5⟩ := RepL.get' hd hz
      rw [flat_eq (fz e4) c.1 e5.top r.top]
      obtain ⟨hm', rfl⟩ := List.getElem?_eq_some_iff.mp e4
      have := List.not_of_lt_findIdx (p := fun z => eqD z d) hm
      simpa using this
    · have := k _ (.int ((ds.findIdx fun z => eqD z d : Nat) : Int)) _ _ q rfl hd
      rwa [upd_self hl] at this
end
/-! ### our things are hidden for a while -/
def hideS : Sl → Sl
  | .own ds => .lent ds
  | .ownD _ => .un
  | .ownT _ => .un
  | s => s
def hideE (δ : Env) : Env := δ.map hideS
def allS (G : Amb) (H : Hp) (a : Addr) (o : HO) : Prop := H a = some o ∧ ¬ G.C a ∧ NT o
section
variable {G : Amb} {K : PySem.W.Frag} {S : Addr → HO → Prop} {T B : Addr → Prop} {A : Nat → Option Addr} {ω : List (Option Addr)} {H H' : Hp} {σ : St} {δ : Env}
def hideA (A : Nat → Option Addr) (ω : List (Option Addr)) (i : Nat) : Option Addr := match ω[i]? with
  | some (some a) => some a
  | _ => A i
theorem Fr.hide (F : Fr G K S T B A ω H σ δ) : Fr G K (allS G H) (nT H) (Ow B ω) (hideA A ω) (List.replicate δ.length none) H σ (hideE δ) := by
  have wn : ∀ (i : Nat) a, (List.replicate δ.length (none : Option Addr))[i]? ≠ some (some a) := fun i a e => by
    rw [List.getElem?_replicate] at e
    split at e <;> cases e
  refine ⟨F.inv, fun a h => .inl (F.cb a h), fun a h => ?_, fun a o h => ⟨o, h.1, h.2.2⟩, fun a o h => h.2, fun i a h => ?_, F.om, fun a h => h, fun a o h => h.1, fun i a h => (wn i a h).elim, fun i j a h => (wn i a h).elim, fun i a h => (wn i a h).elim, by rw [F.len]; simp [hideE], by simp [hideE], fun i s hs => ?_⟩
  · obtain ⟨o, e, m⟩ := F.om a h; exact ⟨o, e, nt_mu m⟩
  · unfold hideA at h
    split at h
    · rename_i b e; cases h; exact .inr ⟨i, e⟩
    · exact .inl (F.al i a h)
  · unfold hideE at hs
    rw [List.getElem?_map] at hs
    cases e : δ[i]? with
    | none => rw [e] at hs; cases hs
    | some s0 =>
      rw [e] at hs
      have hs : hideS s0 = s := by simpa using hs
      have hl : i < δ.length := (List.getElem?_eq_some_iff.mp e).1
      have w0 : (List.replicate δ.length (none : Option Addr))[i]? = some none := by rw [List.getElem?_replicate, if_pos hl]
      have ho : ∀ a, Ow (Ow B ω) (List.replicate δ.length none) a → Ow B ω a := fun a h => h.elim (fun z => z) fun ⟨j, z⟩ => (wn j a z).elim
      have so := F.slot i s0 e
      rw [w0]
      cases s0 with
      | un => subst hs; rfl
      | val d => subst hs; obtain ⟨_, v, e1, r⟩ := so; exact ⟨rfl, v, e1, Rep.carry (Carry.sub ho) r⟩
      | own ds =>
        subst hs
        obtain ⟨a, vs, e0, e1, e2, r⟩ := so
        refine ⟨rfl, a, vs, e1, ?_, ⟨e2, fun z => (F.sw i a e0).1 (F.cb a z), nt_lst⟩, RepL.carry (Carry.sub ho) r⟩
        unfold hideA
        rw [e0]
      | ownD ds => subst hs; rfl
      | ownT ds => subst hs; rfl
      | lent ds =>
        subst hs
        obtain ⟨e0, a, vs, e1, e2, e3, r⟩ := so
        refine ⟨rfl, a, vs, e1, ?_, ⟨F.st a _ e3, F.sc a _ e3⟩, RepL.carry (Carry.sub ho) r⟩
        unfold hideA
        rw [e0]; exact e2
theorem Fr.unhide (F : Fr G K S T B A ω H σ δ) (i : G.inv H') (s : ∀ a o, allS G H a o → H' a = some o) (t : ∀ a, nT H a → nT H' a) : Fr G K S T B A ω H' σ δ :=
  F.grow (fun a o h c n => s a o ⟨h, c, n⟩) i (fun a o h => s a o ⟨F.st a o h, F.sc a o h⟩) fun a h => t a (F.dm a h)
end
/-! ### a call whose arguments may be ours, that tells something flat -/
def rdL (δ : Env) : List Op → Option (List D)
  | [] => some []
  | o :: os => match rd o δ with
    | none => none
    | some d => match rdL δ os with
      | none => none
      | some ds => some (d :: ds)
def rdLK (os : List Op) (δ : Env) (k : List D → Prop) : Prop := match rdL δ os with
  | none => False
  | some ds => k ds
theorem rdLK_mono {os : List Op} {δ : Env} {k k' : List D → Prop} (h : ∀ d, k d → k' d) (q : rdLK os δ k) : rdLK os δ k' := by
  unfold rdLK at q ⊢
  split at q
  · exact q.elim
  · exact h _ q
theorem rdLK_some {os : List Op} {δ : Env} {k : List D → Prop} (q : rdLK os δ k) : ∃ ds, rdL δ os = some ds ∧ k ds := by
  unfold rdLK at q
  split at q
  · exact q.elim
  · exact ⟨_, ‹_›, q⟩
def xCallF (φ : FSp) (τs : DTA) : DT := fun Z δ Q => τs Z δ fun os δ' => rdLK os δ' fun ds => φ ds (fun d => flatD d = true ∧ Q (.v d) δ') fun x => x.fld = none ∧ Z x
theorem mono_callF {φ : FSp} {τs : DTA} (mf : MonoF φ) (m : MonoA τs) : Mono (xCallF φ τs) := ⟨fun _ _ _ _ _ hz h q => m.m _ _ _ _ _ hz (fun _ _ q => rdLK_mono (fun _ q => mf.m _ _ _ _ _ (fun _ q => ⟨q.1, h _ _ q.2⟩) (fun _ q => ⟨q.1, hz _ q.2⟩) q) q) q⟩
section
variable {G : Amb} {K : PySem.W.Frag} {S : Addr → HO → Prop} {T T0 B : Addr → Prop} {A : Nat → Option Addr} {ω : List (Option Addr)} {H H' : Hp} {σ : St} {δ : Env} {O : Addr → Prop} {P : Option Addr} {Ps : List Addr} {o : Op} {v : V} {d : D}
theorem ROp.repC (F : Fr G K S T B A ω H σ δ) (ct : ∀ a, G.C a → T0 a) (oc : ∀ a, G.C a → O a) (r : ROp K T0 H O σ P o v) (so : ∀ a, Ow B ω a → O a) (e : rd o δ = some d) : Rep K H G.C d v := by
  cases o with
  | v d' => cases e; exact Rep.carry (Carry.sub oc) r.2
  | n ds => cases e; obtain ⟨p, vs, _, e1, n, h, r⟩ := r; exact ⟨p, vs, e1, h, fun z => n (ct p z), RepL.carry (Carry.sub oc) r⟩
  | nd ds => cases e; obtain ⟨p, vs, _, e1, n, h, r⟩ := r; exact ⟨p, vs, e1, h, fun z => n (ct p z), RepK.carry (Carry.sub oc) r⟩
  | nt ds => cases e; obtain ⟨p, vs, _, e1, n, h, r⟩ := r; exact ⟨p, vs, e1, h, fun z => n (ct p z), RepT.carry (Carry.sub oc) r⟩
  | b i =>
    obtain ⟨_, e1⟩ := r
    simp only [rd] at e
    cases es : δ[i]? with
    | none => rw [es] at e; cases e
    | some s =>
      have so' := F.slot i s es
      rw [es] at e
      have oc' : ∀ a, G.C a → Ow B ω a := fun a h => .inl (F.cb a h)
      cases s with
      | own ds => cases e; obtain ⟨a, vs, w, e2, e3, r⟩ := so'; rw [e1] at e2; cases e2; exact ⟨a, vs, rfl, e3, fun z => (F.sw i a w).1 (F.cb a z), RepL.carry (Carry.sub oc') r⟩
      | ownD ds => cases e; obtain ⟨a, vs, w, e2, e3, r⟩ := so'; rw [e1] at e2; cases e2; exact ⟨a, vs, rfl, e3, fun z => (F.sw i a w).1 (F.cb a z), RepK.carry (Carry.sub oc') r⟩
      | ownT ds => cases e; obtain ⟨a, vs, w, e2, e3, r⟩ := so'; rw [e1] at e2; cases e2; exact ⟨a, vs, rfl, e3, fun z => (F.sw i a w).1 (F.cb a z), RepT.carry (Carry.sub oc') r⟩
      | lent ds => cases e; obtain ⟨_, a, vs, e2, _, e3, r⟩ := so'; rw [e1] at e2; cases e2; exact ⟨a, vs, rfl, F.st a _ e3, (F.sc a _ e3).1, RepL.carry (Carry.sub oc') r⟩
      | un => cases e
      | val _ => cases e
theorem ROps.repC (F : Fr G K S T B A ω H σ δ) (ct : ∀ a, G.C a → T0 a) (oc : ∀ a, G.C a → O a) (so : ∀ a, Ow B ω a → O a) : ∀ {Ps : List Addr} {os : List Op} {vs : List V} {ds : List D}, ROps K T0 H O σ Ps os vs → rdL δ os = some ds → RepL K H G.C ds vs := fun {Ps os vs ds} r => by
  induction r generalizing ds with
  | nil => intro e; cases e; rfl
  | cons r _ ih =>
    intro e
    unfold rdL at e
    split at e
    · cases e
    · rename_i d e1
      split at e
      · cases e
      · rename_i ds' e2
        cases e
        exact ⟨_, _, rfl, r.repC F ct oc so e1, ih e2⟩
theorem Rep.flat (f : flatD d = true) (r : Rep K H O d v) : Rep K H' T d v := by
  cases d <;> first | (simp [flatD] at f; done) | exact r
end
section
variable {X : Cx} {G : Amb} {E : XK} {e : Expr} {es : List Expr} {φ : FSp} {τs : DTA} {p pos : Pos} {k : Nat} {f : Addr} {fd : FuncData} {ps : List Str} {x : Str}
theorem callF_core {S : Addr → HO → Prop} {T B : Addr → Prop} {A : Nat → Option Addr} {ω ω1 : List (Option Addr)} {H1 : Hp} {σ : St} {δ1 : Env} {Z : Ex → Prop} {Q : VK} {ds : List D} {vs : List V} (mf : MonoF φ) (F1 : Fr G X.K S T B A ω1 H1 σ δ1) (w : WSub ω1 ω) (z : EOk G X.K S T B Z E)
    (r : RepL X.K H1 G.C ds vs) (q : φ ds (fun d => flatD d = true ∧ tK G X.K S T B A ω σ Q (.v d) δ1) fun x => x.fld = none ∧ Z x) : spD G X.K φ vs H1 Q E := by
  refine ⟨G.C, ds, F1.inv, fun a c => c, fun a h => F1.om a (.inl (F1.cb a h)), r, mf.m _ _ _ _ _ (fun d q v H' i g rd => ?_) (fun x hx H' i g => ?_) q⟩
  · have F2 : Fr G X.K S T B A ω1 H' σ δ1 := F1.grow g.1 i (fun a o h => g.1 a o (F1.st a o h) (F1.sc a o h).1 (F1.sc a o h).2) fun a h => g.2 a (F1.dm a h)
    exact q.2 v H' ω1 none ⟨by rw [bp_none, bp_none]; exact F2, w, rfl, Rep.flat q.1 rd⟩
  · have := z x H' hx.2 i (fun a o h => g.1 a o (F1.st a o h) (F1.sc a o h).1 (F1.sc a o h).2) fun a h => g.2 a (F1.dm a h)
    unfold ExR at this ⊢
    rw [hx.1] at this ⊢
    exact this
theorem de_callF (F : FnOk X.prog X.w X.K X.mg X.base (L2N.CX X.prog X.w) k f fd ps (spD G X.K φ)) (mf : MonoF φ) (hr : Room k X.A) (hg : Gl X x) (hm : X.mg x = some (.ref f)) (hk : PySem.W.keepIn X.K (.ref f) = true) (hb : Binds X.K fd ps []) (hx : Passes (L2N.CX X.prog X.w) X E)
    (ha : DA X G E (e :: es) τs) (hdb : (x == ("__debug__" : Str)) = false := by decide) (he : starEach (e :: es) X.env = (false, eval e X.env) :: starEach es X.env := by rfl) (hpl : (backTo pos (starEach es X.env)).any (·.1) = false := by rfl) :
    DE X G E (.Call (.Name x p) (e :: es) [] pos) (xCallF φ τs) := by
  have m := mono_callF mf ha.mono
  refine ⟨PE.imp (pe_call F hr hg hm hk hb .nil hx ha.pa hdb he hpl) fun σ H Q h => ?_, m⟩
  obtain ⟨S, T, B, A, ω, δ, Z, Fs, z, q⟩ := tD_to m h
  refine tA_of ha.mono Fs z q fun os δ' vs H' ω' Ps q ev => ?_
  obtain ⟨ds, e1, q⟩ := rdLK_some q
  show spD G X.K φ (vs ++ []) H' Q E
  rw [List.append_nil]
  exact callF_core mf (ev.drop Fs) ev.ws z (ROps.repC ev.fr (fun a h => Fs.bt a (Fs.cb a h)) (fun a h => .inl (.inl (Fs.cb a h))) (fun a h => h) ev.rp e1) q
end
/-! ### the law's lambdas -/
/-- what a def that hears a call makes of it: R: of an error's class, l: of none -/
def TTh (G : Amb) (K : PySem.W.Frag) (R : Addr → Option D) (l : D) : (XK → Hp → VK → Prop) → Hp → VK → Prop := fun tl H Q => G.inv H ∧ ∃ (E1 : XK) (Q1 : VK), tl E1 H Q1 ∧
  (∀ cls d H', E1 cls d H' → ∃ C w, cls = .ref C ∧ d = none ∧ R C = some w ∧ G.inv H' ∧ ∀ v H'', G.inv H'' → Grow G.C H' H'' → Rep K H'' G.C w v → Q v H'') ∧
  ∀ u H', Q1 u H' → G.inv H' ∧ ∀ v H'', G.inv H'' → Grow G.C H' H'' → Rep K H'' G.C l v → Q v H''
def xHear (R : Addr → Option D) (l : D) (τ : DT) : DT := fun Z δ Q => (flatD l = true ∧ ∀ C w, R C = some w → flatD w = true) ∧ τ (fun x => x.fld = none ∧ ∃ w, R x.cls = some w ∧ Q (.v w) δ) (hideE δ) fun _ _ => Q (.v l) δ
section
variable {X : Cx} {G : Amb} {E : XK}
theorem Grow.trans {C : Addr → Prop} {H H1 H2 : Hp} (a : Grow C H H1) (b : Grow C H1 H2) : Grow C H H2 := ⟨a.1.trans b.1, fun c h => b.2 c (a.2 c h)⟩
theorem de_hear {T : List (Addr × Str)} {R : Addr → Option D} {l : D} {x a : Str} {g c P : Addr} {k : Nat} {pg : Arguments} {bg : List Stmt} {sg : Scope} {dV kV doc pm cdv ct oc : Value} {an od : Option Addr} {osl : Array (Option Value)} {Ng : List Str}
    {params : Arguments} {body : Expr} {scope : Scope} {τ : DT} {p lpos pos : Pos} (hg : Gl X x) (hm : X.mg x = some (.ref g)) (hk : PySem.W.keepIn X.K (.ref g) = true)
    (lk : X.K.lookup g = some ⟨oc, od, .func (PySem.W.fnOf x x pg bg sg dV kV doc pm an cdv ct), osl⟩) (hcg : PySem.W.codeIn X.K cdv x = true) (hb : L2.Binds X.K (PySem.W.fnOf x x pg bg sg dV kV doc pm an cdv ct) [a] []) (Sg : FnScope Ng [a] sg) (hNg : Ng[0]? = some a) (hva : Vis sg a)
    (hG : LamN.Gives X Ng x sg g cdv bg a (X.env.qual ++ "<lambda>") (TTh G X.K R l))
    (TB : LamX.TabB X.base X.mg c P) (hcode : X.env.code = .ref c) (hmT : (P, X.env.qual ++ "<lambda>") ∈ T) (hu : ∀ p ∈ T, p.1 = P → p.2 = X.env.qual ++ "<lambda>") (hr : Room (k + 2) X.A) (L : LamX.LamS X.env.scope scope) (hdef : defaultsOf params X.env = ([], []))
    (hbind : ∀ (q : Str) (cl : List (Str × Addr)) (pm cv ctv : Value), bindArgs (PySem.W.kla_fn "<lambda>" q params body scope cl pm cv ctv) ⟨[], []⟩ = pure [])
    (hT : ∀ H, G.inv H → LamX.Tabs T H) (hN : ∀ H H1, G.inv H → LamX.ExtN H H1 → LamX.Tabs T H1 → G.inv H1)
    (hbody : ∀ (A : Around) (outer : List PySem.Env) (s : Shared) (H : Hp) (E : XK) (f c' : Addr), Room k (A.deeper (LamX.lamEnv X scope s.heap.objs.size f c')) → DE (LamN.ctxN X A outer s H E scope f c') G E body τ)
    (hdb : (x == ("__debug__" : Str)) = false := by decide) (hd : (a == ("__debug__" : Str)) = false := by decide) (hcd : (a == ("__classdict__" : Str)) = false := by decide) :
    DE X G E (.Call (.Name x p) [.Lambda params body scope lpos] [] pos) (xHear R l τ) := by
  have mτ : Mono τ := (hbody X.A [] X.s_0 X.H_0 E 0 0 ((hr.mono (by omega) : Room (k + 1) X.A).deeper _)).mono
  have m : Mono (xHear R l τ) := ⟨fun _ _ _ _ _ hz h q => ⟨q.1, mτ.m _ _ _ _ _ (fun x q => ⟨q.1, let ⟨w, e, q⟩ := q.2; ⟨w, e, h _ _ q⟩⟩) (fun _ _ q => h _ _ q) q.2⟩⟩
  refine ⟨PE.imp (LamN.lamcall (t := fun E => tD G X.K E τ) hg hm hk lk hcg hb Sg hNg hva hG TB hcode hmT hu hr L hdef hbind (fun A outer s H E f c' hr => (hbody A outer s H E f c' hr).pe) hdb hd hcd) fun σ H Q h => ?_, m⟩
  obtain ⟨S, T', B, A, ω, δ, Z, F, z, ⟨fl, fR⟩, q⟩ := tD_to m h
  refine ⟨hT H F.inv, fun H1 ex t1 => ?_⟩
  have i1 := hN H H1 F.inv ex t1
  have F1 : Fr G X.K S T' B A ω H1 σ δ := F.grow (fun a o h _ n => ex a o h n) i1 (fun a o h => ex a o (F.st a o h) (F.sc a o h).2) fun a h => by
    obtain ⟨o, e, n⟩ := F.dm a h
    exact ⟨o, ex a o e n, n⟩
  -- what comes behind
  have fin : ∀ {w : D} {H' : Hp}, flatD w = true → tK G X.K S T' B A ω σ Q (.v w) δ → (∀ a o, allS G H1 a o → H' a = some o) → (∀ a, nT H1 a → nT H' a) → ∀ v H'', G.inv H'' → Grow G.C H' H'' → Rep X.K H'' G.C w v → Q v H'' := fun {w H'} fw qw s t v H'' i g r => by
    have F2 : Fr G X.K S T' B A ω H'' σ δ := F1.unhide i (fun a o h => g.1 a o (s a o h) h.2.1 h.2.2) fun a h => by
      exact g.2 a (t a h)
    exact qw v H'' ω none ⟨by rw [bp_none, bp_none]; exact F2, .refl, rfl, Rep.flat fw r⟩
  refine ⟨i1, fun cls d H' => ∃ C w, cls = .ref C ∧ d = none ∧ R C = some w ∧ G.inv H' ∧ ∀ v H'', G.inv H'' → Grow G.C H' H'' → Rep X.K H'' G.C w v → Q v H'', fun _ H' => G.inv H' ∧ ∀ v H'', G.inv H'' → Grow G.C H' H'' → Rep X.K H'' G.C l v → Q v H'', ?_, fun _ _ _ h => h, fun _ _ h => h⟩
  refine tD_of F1.hide (fun x H' hx i s t => ?_) (mτ.m _ _ _ _ _ (fun _ z => z) (fun o δ' q v H' ω' P ev => ?_) q) mτ
  · obtain ⟨xf, w, e, qw⟩ := hx
    unfold ExR
    rw [xf]
    exact ⟨x.cls, w, rfl, rfl, e, i, fin (fR _ _ e) qw s t⟩
  · exact ⟨ev.fr.inv, fin fl q ev.fr.st fun a h => ev.fr.dm a (.inl h)⟩
end
end DL

set_option Elab.async false
set_option linter.all false
set_option maxRecDepth 100000
namespace DL
open PySem L2
/-! ### a def that hears a call -/
section
variable {G : Amb} {K : PySem.W.Frag} {H H' : Hp} {σ : St} {δ : Env}
/-- a frame anew: only flat things and bare addresses are known of it -/
def flE (K : PySem.W.Frag) (σ : St) (δ : Env) : Prop := σ.length = δ.length ∧ ∀ (i : Nat) (s : Sl), δ[i]? = some s → s = .un ∨ ∃ d v, s = .val d ∧ σ[i]? = some (some v) ∧ ∀ H O, Rep K H O d v
theorem Fr.anew (i : G.inv H) (h : flE K σ δ) : Fr G K (allS G H) (nT H) G.C (fun _ => none) (List.replicate δ.length none) H σ δ := by
  have wn : ∀ (i : Nat) a, (List.replicate δ.length (none : Option Addr))[i]? ≠ some (some a) := fun i a e => by
    rw [List.getElem?_replicate] at e
    split at e <;> cases e
  refine ⟨i, fun _ h => h, fun a h => ?_, fun a o h => ⟨o, h.1, h.2.2⟩, fun a o h => h.2, fun i a h => (nomatch h), fun a h => G.muC H a i h, fun a h => h, fun a o h => h.1, fun i a h => (wn i a h).elim, fun i j a h => (wn i a h).elim, fun i a h => (wn i a h).elim, h.1, by rw [List.length_replicate], fun j s hs => ?_⟩
  · obtain ⟨o, e, m⟩ := G.muC H a i h; exact ⟨o, e, nt_mu m⟩
  · have hl := (List.getElem?_eq_some_iff.mp hs).1
    rcases h.2 j s hs with rfl | ⟨d, v, rfl, e, r⟩
    · show _ = _
      rw [List.getElem?_replicate, if_pos hl]
    · exact ⟨by rw [List.getElem?_replicate, if_pos hl], v, e, r _ _⟩
theorem EP.imp {X : Cx} {pins : List (Addr × Obj)} {Q Q1 : VK} {e : Expr} {t : TE} (he : PE X e t) : PE X e (fun σ H Q => ∃ Q1 : VK, t σ H Q1 ∧ ∀ v H', Q1 v H' → Q v H') := ⟨fun pins s σ H Q I ⟨Q1, h, k⟩ =>
  wpAny_mono (he.run pins s σ H Q1 I h) (fun v s' ⟨x, H', I', r, q⟩ => ⟨x, H', I', r, k _ _ q⟩) fun _ _ h => h⟩
end
/-- isinstance(e, C), e the caught one -/
def xIsE (i : Nat) (a : Addr) (b : Bool) : DT := fun _ δ Q => match δ[i]? with
  | some (.val (.ref a')) => a' = a ∧ Q (.v (.bl b)) δ
  | _ => False
section
variable {X : Cx} {G : Amb} {E : XK}
theorem mono_isE {i : Nat} {a : Addr} {b : Bool} : Mono (xIsE i a b) := ⟨fun _ _ δ _ _ _ h q => by
  unfold xIsE at q ⊢
  split at q
  · exact ⟨q.1, h _ _ q.2⟩
  · exact q.elim⟩
theorem de_isE {i : Nat} {a C : Addr} {oe : Obj} {pn : List (Addr × Obj)} {b : Bool} {y c : Str} {v : V} {cv : Value} {p p1 p2 pos : Pos} (hC : ExcC X.K C) (hz : Zc (.ref C) none oe) (hf : ∃ vs, oe.data = .fields vs) (hg : Gl X "isinstance") (hm : X.mg "isinstance" = none) (hN : X.N[i]? = some y) (hv : Vis X.env.scope y)
    (hc : PE (X.suite a ((a, oe) :: pn)) (.Name c p2) (tC v)) (hcv : ∀ u, RelV v u → u = cv) (hk : PySem.W.kitOne X.K (.ref C) cv = some b) (hd : (y == ("__debug__" : Str)) = false := by decide) (hcd : (y == ("__classdict__" : Str)) = false := by decide)
    (hq : starEach [.Name y p1, .Name c p2] X.env = (false, eval (.Name y p1) X.env) :: starEach [.Name c p2] X.env := by rfl) (hq2 : starEach [.Name c p2] X.env = (false, eval (.Name c p2) X.env) :: starEach [] X.env := by rfl) (hpl : (backTo pos (starEach [.Name c p2] X.env)).any (·.1) = false := by rfl) :
    DE (X.suite a ((a, oe) :: pn)) G E (.Call (.Name "isinstance" p) [.Name y p1, .Name c p2] [] pos) (xIsE i a b) := by
  refine ⟨PE.imp (pe_callB (X := X.suite a ((a, oe) :: pn)) (call_isE hC hz hf) hg hm rfl (pa_cons (pe_var (X := X.suite a ((a, oe) :: pn)) hN hv hd hcd) (pa_cons hc pa_nil hq2) hq) (by decide) (by decide) hq hpl) fun σ H Q h => ?_, mono_isE⟩
  obtain ⟨S, T, B, A, ω, δ, Z, F, z, q⟩ := tD_to mono_isE h
  unfold xIsE at q
  split at q
  case h_2 => exact q.elim
  case h_1 a' e =>
    obtain ⟨rfl, q⟩ := q
    obtain ⟨_, u, e2, e3⟩ := F.slot i _ e
    cases e3
    exact ⟨_, e2, v, cv, b, rfl, hcv, hk, q (.bl b) H ω none ⟨by rw [bp_none, bp_none]; exact F, .refl, rfl, rfl⟩⟩
end
def endW (w : D) : DEnds := ⟨fun _ => False, fun d => d = w, fun _ => False, fun _ => False, fun _ => False⟩
section
variable {X : Cx} {G : Amb}
theorem PSs.len {st : List Stmt} {t : TS} (h : PSs X st t) : PSs X st (fun D σ H => σ.length = X.N.length → t D σ H) := ⟨fun pins s σ H D I q => h.run pins s σ H D I (q I.len)⟩
/-- the ends of what hears, when it tells w -/
theorem ends_w {K : PySem.W.Frag} {H : Hp} {Q : VK} {w : D} (hw : ∀ v H'', G.inv H'' → Grow G.C H H'' → Rep K H'' G.C w v → Q v H'') : EndsOk G K (allS G H) (nT H) G.C (fun _ => none) (endW w) { nx := fun _ H' => Q .non H', rt := Q } :=
  ⟨fun _ _ _ _ _ z => False.elim z, fun _ _ _ _ _ z => False.elim z, fun _ _ _ _ _ z => False.elim z, fun d v H' i s t r e => by
    have e : d = w := e
    subst e
    exact hw v H' i ⟨fun a o h c n => s a o ⟨h, c, n⟩, t⟩ r⟩
/-- try: a() except C as n: suite, then post; of a frame of which flat things are known -/
theorem hear_core {Ng : List Str} {x n ec q : Str} {sg : Scope} {g CS f c' : Addr} {cdg : Value} {i : Nat} {suite post : List Stmt} {b0 : Stmt} {τs : Addr → Addr → DSt} {τp : DSt} {R : Addr → Option D} {l : D} {s : Shared} {H : Hp} {Q : VK} {tl : XK → Hp → VK → Prop} {a : Str} {p1 p2 p3 p4 p7 p8 : Pos}
    (act : ∀ (W : WX) (pn : List (Addr × Obj)) (xe : Value → Shared → Prop) (E : XK) (p1 p2 : Pos), L2N.Takes ((cxOf C8.CX0 X.prog X.w X.K X.mg X.base Ng x sg g cdg X.A X.stack s H C8.E0).tr pn xe) W → (∀ cls d σ' H', E cls d H' → W cls d σ' H') →
      PE ((cxOf C8.CX0 X.prog X.w X.K X.mg X.base Ng x sg g cdg X.A X.stack s H C8.E0).tr pn xe) (.Call (.Name a p1) [] [] p2) (fun σZ HZ Q => σZ[0]? = some (some (.ref f)) ∧ HZ c' = some (LamX.CodeO c' q) ∧ tl E HZ Q))
    (hN : Ng.Nodup) (hi : Ng[i]? = some n) (hln : sg.names.lookup n = some .local ∨ sg.names.lookup n = some .cell) (hge : sg.names.lookup ec = some .globalImplicit) (hme : X.mg ec = some (.ref CS)) (hde : (ec == ("__debug__" : Str)) = false)
    (hR : ∀ C w, R C = some w → PySem.W.exmOne X.K (.ref C) (.ref CS) = some true)
    (hsu : ∀ (e : Addr) (oe : Obj) (pn : List (Addr × Obj)) (C : Addr) (w : D), R C = some w → L2N.Zn (.ref C) none oe → (∃ vs, oe.data = .fields vs) → DSs ((cxOf C8.CX0 X.prog X.w X.K X.mg X.base Ng x sg g cdg X.A X.stack s H C8.E0).nox.suite e ((e, oe) :: pn)) G C8.E0 (b0 :: suite) (τs e C))
    (hpost : DSs (cxOf C8.CX0 X.prog X.w X.K X.mg X.base Ng x sg g cdg X.A X.stack s H C8.E0).nox G C8.E0 post τp)
    (rexc : ∀ C w e, R C = some w → τs e C ⟨fun δ' => τp (endW w) (wipeE [i] δ'), fun d => d = w, fun _ => False, fun _ => False, fun _ => False⟩ ((List.replicate Ng.length .un).set i (.val (.ref e))))
    {δ : Env} (rok : τp (endW l) δ) :
    ∃ t, PSs (cxOf C8.CX0 X.prog X.w X.K X.mg X.base Ng x sg g cdg X.A X.stack s H C8.E0).nox (.Try [.Expr (.Call (.Name a p1) [] [] p2) p3] [.ExceptHandler (some (.Name ec p4)) (some n) (b0 :: suite) p7] [] [] p8 :: post) t ∧
      ∀ σ H, σ[0]? = some (some (.ref f)) → flE X.K σ δ → H c' = some (LamX.CodeO c' q) → TTh G X.K R l tl H Q → t { nx := fun _ H' => Q .non H', rt := Q } σ H := by
  have hgl : Gl (cxOf C8.CX0 X.prog X.w X.K X.mg X.base Ng x sg g cdg X.A X.stack s H C8.E0).nox ec := hge
  refine ⟨_, pss_cons (LamN.ps_try_name (X := (cxOf C8.CX0 X.prog X.w X.K X.mg X.base Ng x sg g cdg X.A X.stack s H C8.E0).nox) (c := .ref CS) (i := i) (Wout := fun _ _ _ _ => False)
      (tb := fun W D σ H => ∃ (E1 : XK) (Q1 : VK), (∀ cls d σ' H', E1 cls d H' → W cls d σ' H') ∧ σ[0]? = some (some (.ref f)) ∧ H c' = some (LamX.CodeO c' q) ∧ tl E1 H Q1 ∧ ∀ v H', Q1 v H' → D.nx σ H')
      (ts := fun e cls d => fun D σ H => ∃ C w, cls = .ref C ∧ d = none ∧ R C = some w ∧ (σ.length = Ng.length → sD G X.K C8.E0 (τs e C) D σ H))
      rfl rfl hN hi hln rfl ⟨hgl, hde, .inl hme⟩ LamN.takes0 (fun W pn xe tk _ => ?_) (fun e oe cls d pn hz hf => ?_)) hpost.ps, ?_⟩
  · refine ⟨fun pins s' σ H' D I h' => ?_⟩
    obtain ⟨E1, Q1, hW, h1, h2, h3, h4⟩ := h'
    have hp := EP.imp (pins := pins) (Q := Q1) (Q1 := Q1) (act W pn xe E1 p1 p2 tk hW)
    have hq := pss_one (ps_expr (pos := p3) hp)
    exact hq.run pins s' σ H' D I ⟨Q1, ⟨h1, h2, h3⟩, h4⟩
  · refine ⟨fun pins s' σ H' D I h' => ?_⟩
    obtain ⟨C, w, rfl, rfl, e1, h⟩ := h'
    exact (hsu e oe pn C w e1 hz hf).ps.run pins s' σ H' D I (h I.len)
  · intro σ H2 h0 fl hc ht
    obtain ⟨i2, E1, Q1, h1, h2, h3⟩ := ht
    refine ⟨E1, Q1, fun cls d σ' H' he => ?_, h0, hc, h1, fun v H' q => ?_⟩
    · obtain ⟨C, w, rfl, rfl, e1, i', hw⟩ := h2 _ _ _ he
      refine ⟨true, hR C w e1, fun _ e en => ⟨C, w, rfl, rfl, e1, fun ln => ?_⟩, fun z => by cases z⟩
      have fe : flE X.K (σ'.set i (some (.ref e))) ((List.replicate Ng.length .un).set i (.val (.ref e))) := by
        refine ⟨by rw [ln, List.length_set, List.length_replicate], fun j s hs => ?_⟩
        rcases set_get hs with ⟨rfl, rfl, _⟩ | ⟨hn, hs⟩
        · refine .inr ⟨.ref e, .ref e, rfl, ?_, fun _ _ => rfl⟩
          have hl : j < (σ'.set j (some (.ref e))).length := by rw [ln]; exact (List.getElem?_eq_some_iff.mp hi).1
          rw [List.length_set] at hl
          exact List.getElem?_set_self hl
        · rw [List.getElem?_replicate] at hs
          split at hs
          · cases hs; exact .inl rfl
          · cases hs
      have F := Fr.anew (K := X.K) i' fe
      have en' := ends_w hw
      refine sD_of (F := ⟨fun δ' => τp (endW w) (wipeE [i] δ'), fun d => d = w, fun _ => False, fun _ => False, fun _ => False⟩) F (fun _ _ z => False.elim z) ⟨fun δ' σ2 H3 ω' F' q => ?_, fun _ _ _ _ _ z => False.elim z, fun _ _ _ _ _ z => False.elim z, fun d v H3 i3 s t r e => en'.rt d v H3 i3 s t r e⟩ (rexc C w e e1)
      have F2 := F'.wipe (vs := [i]) (σ := σ2) rfl fun _ _ => rfl
      exact sD_of F2 (fun _ _ z => False.elim z) ⟨fun _ _ _ _ _ z => False.elim z, fun _ _ _ _ _ z => False.elim z, fun _ _ _ _ _ z => False.elim z, fun d v H3 i3 s t r e => en'.rt d v H3 i3 s t r e⟩ q
    · obtain ⟨i', hw⟩ := h3 _ _ q
      exact sD_of (Fr.anew i' fl) (fun _ _ z => False.elim z) (ends_w hw) rok
end
end DL

set_option Elab.async false
set_option linter.all false
set_option maxRecDepth 100000
namespace DL
open PySem L2
/-! ### defs by name -/
structure Cal (P : Program) (w : World) (K : PySem.W.Frag) (mg : Str → Option Value) (base : Heap) (G : Amb) (x : Str) (f : Addr) (k : Nat) (φ : FSp) : Prop where
  ex : ∃ (fd : FuncData) (ps : List Str), FnOk P w K mg base (L2N.CX P w) k f fd ps (spD G K φ) ∧ Binds K fd ps []
  gl : mg x = some (.ref f)
  kp : PySem.W.keepIn K (.ref f) = true
  mono : MonoF φ
theorem passes0 {X : Cx} : Passes (L2N.CX X.prog X.w) X E0' := L2N.passes_call LamN.takes0 (fun _ _ _ _ h => h)
section
variable {X : Cx} {G : Amb} {E : XK} {e : Expr} {es : List Expr} {φ : FSp} {τs : DTA} {p pos : Pos} {k : Nat} {f : Addr} {x : Str}
theorem de_callC (c : Cal X.prog X.w X.K X.mg X.base G x f k φ) (hr : Room k X.A) (hg : Gl X x) (hx : Passes (L2N.CX X.prog X.w) X E) (ha : DA X G E (e :: es) τs) (hdb : (x == ("__debug__" : Str)) = false := by decide)
    (he : starEach (e :: es) X.env = (false, eval e X.env) :: starEach es X.env := by rfl) (hpl : (backTo pos (starEach es X.env)).any (·.1) = false := by rfl) : DE X G E (.Call (.Name x p) (e :: es) [] pos) (xCall φ τs) := by
  obtain ⟨⟨fd, ps, F, hb⟩, gl, kp, mf⟩ := c
  exact de_call F mf hr hg gl kp hb hx ha hdb he hpl
theorem de_callC0 (c : Cal X.prog X.w X.K X.mg X.base G x f k φ) (hr : Room k X.A) (hg : Gl X x) (hx : Passes (L2N.CX X.prog X.w) X E) (hdb : (x == ("__debug__" : Str)) = false := by decide) : DE X G E (.Call (.Name x p) [] [] pos) (xCall φ xNilA) := by
  obtain ⟨⟨fd, ps, F, hb⟩, gl, kp, mf⟩ := c
  exact de_call0 F mf hr hg gl kp hb hx hdb
theorem de_callFC (c : Cal X.prog X.w X.K X.mg X.base G x f k φ) (hr : Room k X.A) (hg : Gl X x) (hx : Passes (L2N.CX X.prog X.w) X E) (ha : DA X G E (e :: es) τs) (hdb : (x == ("__debug__" : Str)) = false := by decide)
    (he : starEach (e :: es) X.env = (false, eval e X.env) :: starEach es X.env := by rfl) (hpl : (backTo pos (starEach es X.env)).any (·.1) = false := by rfl) : DE X G E (.Call (.Name x p) (e :: es) [] pos) (xCallF φ τs) := by
  obtain ⟨⟨fd, ps, F, hb⟩, gl, kp, mf⟩ := c
  exact de_callF F mf hr hg gl kp hb hx ha hdb he hpl
/-- a def's name as a value -/
theorem de_fn (hg : Gl X x) (hm : X.mg x = some (.ref f)) (hd : (x == ("__debug__" : Str)) = false := by decide) : DE X G E (.Name x pos) (xC (.ref f)) := de_glob hg hm (v := .ref f) rfl (fun _ _ => rfl) hd
theorem de_con {n : Int} {t : Tok} (hg : Gl X x) (hm : X.mg x = some (.int n t)) (hd : (x == ("__debug__" : Str)) = false := by decide) : DE X G E (.Name x pos) (xC (.int n)) := de_glob hg hm (v := .int n) ⟨t, rfl⟩ (fun _ _ => rfl) hd
end
def shlR : D2 := fun d1 d2 P => match d1, d2 with
  | .int i, .int j => (0 ≤ j ∧ j ≤ 1000000 ∧ i.natAbs < 2 ^ 64) ∧ P (.v (.int (i * 2 ^ j.toNat)))
  | _, _ => False
theorem opd_shl {X : Cx} : OpD X (binaryOp .LShift) shlR := opd_int op_shl fun d1 d2 P => by cases d1 <;> cases d2 <;> exact Iff.rfl
/-! a comprehension's block, by looking -/
def blkB (N : List Str) (sc scope : Scope) (own : List (Str × Nat)) : Bool :=
  decide (scope.kind = .function) && (scope.names.all fun y => decide (scope.names.lookup y.1 = some y.2)) && (own.all fun p => decide (N[p.2]? = some p.1)) &&
    (scope.names.all fun y => !decide (y.2 = .free) || decide (sc.names.lookup y.1 = some .cell) || decide (sc.names.lookup y.1 = some .free)) &&
    (scope.names.all fun y => !(decide (y.2 = .local) || decide (y.2 = .cell)) || (own.map (·.1)).contains y.1 || !N.contains y.1)
theorem blk_by {N : List Str} {sc scope : Scope} {own : List (Str × Nat)} (h : blkB N sc scope own = true) : BlkOk N sc scope own := by
  unfold blkB at h
  simp only [Bool.and_eq_true, Bool.or_eq_true, Bool.not_eq_true', decide_eq_true_eq, decide_eq_false_iff_not, List.all_eq_true] at h
  obtain ⟨⟨⟨⟨h1, h2⟩, h3⟩, h4⟩, h5⟩ := h
  refine ⟨h1, h2, h3, fun y hy e => ?_, fun y hy e => ?_⟩
  · rcases h4 y hy with (h | h) | h
    · exact absurd e h
    · exact .inl h
    · exact .inr h
  · rcases h5 y hy with (h | h) | h
    · simp only [Bool.or_eq_false_iff, decide_eq_false_iff_not] at h
      rcases e with e | e
      · exact absurd e h.1
      · exact absurd e h.2
    · exact .inl (by simpa using h)
    · exact .inr (by simpa using h)
theorem units5 {k : Nat} {A : Around} (r : Room k A) : A.units + 65 < cLine := by have := r.un; omega
/-! ### promises -/
/-- told by its arguments: an error or a thing -/
def detF (C : List D → Prop) (e : List D → Option Ex) (r : List D → D) : FSp := fun ds Q Z => C ds ∧ match e ds with
  | none => Q (r ds)
  | some x => Z x
theorem mono_detF {C : List D → Prop} {e : List D → Option Ex} {r : List D → D} : MonoF (detF C e r) := ⟨fun ds Q Q' Z Z' hq hz q => ⟨q.1, by
  have q := q.2
  cases e1 : e ds with
  | none => rw [e1] at q; exact hq _ q
  | some x => rw [e1] at q; exact hz _ q⟩⟩
/-- any of some things -/
def anyF (C : List D → Prop) (R : List D → D → Prop) : FSp := fun ds Q _ => C ds ∧ ∀ d, R ds d → Q d
theorem mono_anyF {C : List D → Prop} {R : List D → D → Prop} : MonoF (anyF C R) := ⟨fun ds Q Q' Z Z' hq hz q => ⟨q.1, fun d h => hq _ (q.2 d h)⟩⟩
/-! ### loops -/
theorem forL_ind {γ : DTg} {τ : DSt} {l : Option Nat} {F : DEnds} {ds : List D} {δ : Env} (mg : MonoG γ) (m : MonoS τ) (P : Nat → Env → Prop) (h0 : P 0 δ)
    (hs : ∀ i d δ, ds[i]? = some d → P i δ → γ (.v d) δ fun δ' => τ (loopE (P (i + 1)) (fun δ => F.nx (un l δ)) F) δ') (hd : ∀ δ, P ds.length δ → F.nx (un l δ)) : forL γ τ l F ds δ := by
  have key : ∀ (es : List D) (n : Nat) (δ : Env), ds.drop n = es → P n δ → n + es.length = ds.length → forL γ τ l F es δ := by
    intro es
    induction es with
    | nil => intro n δ _ p hn; rw [List.length_nil, Nat.add_zero] at hn; subst hn; exact hd δ p
    | cons d es ih =>
      intro n δ e p hn
      have hd : ds[n]? = some d := by
        have : (ds.drop n)[0]? = some d := by rw [e]; rfl
        rwa [List.getElem?_drop, Nat.add_zero] at this
      have e2 : ds.drop (n + 1) = es := by rw [← List.drop_drop, e]; rfl
      exact mg.m _ _ _ _ (fun δ' q => m.m _ _ _ (loopE_le (fun δ2 q2 => ih (n + 1) δ2 e2 q2 (by simp only [List.length_cons] at hn; omega)) (fun _ q => q) .refl) q) (hs n d δ hd p)
  exact key ds 0 δ rfl h0 (by simp)
theorem while_ind {θ : DTT} {τ : DSt} {F : DEnds} {δ : Env} (mt : MonoT θ) (m : MonoS τ) (P : Nat → Env → Prop) {n : Nat} (h0 : P n δ)
    (hs : ∀ n δ, P n δ → θ F.ex δ fun b δ' => if b = true then τ (loopE (fun δ2 => ∃ k, k < n ∧ P k δ2) F.nx F) δ' else F.nx δ') : xWh θ τ F δ := by
  have key : ∀ (n m' : Nat) (δ : Env), n < m' → P n δ → whN θ τ F m' δ := by
    intro n
    induction n using Nat.strongRecOn with
    | _ n ih =>
      intro m' δ hm p
      cases m' with
      | zero => omega
      | succ m' =>
        refine mt.m _ _ _ _ _ (fun _ z => z) (fun b δ' q => ?_) (hs n δ p)
        cases b with
        | true => exact m.m _ _ _ (loopE_le (fun δ2 q2 => by obtain ⟨k, hk, p2⟩ := q2; exact ih k hk m' δ2 (by omega) p2) (fun _ q => q) .refl) q
        | false => exact q
  exact ⟨n + 1, key n (n + 1) δ (by omega) h0⟩
/-- a comprehension whose turns leave the names alone: what is kept of each thing -/
theorem lc_map {γ : DTg} {θ : DTT} {τ : DT} {vs : List Nat} {k : List D → Env → Prop} {δ : Env} (f : D → Option D) : ∀ {ds : List D} {acc : List D}, (∀ d ∈ ds, ∀ (Q : List D → Prop) (acc : List D), (∀ acc', acc' = acc ++ (f d).toList → Q acc') →
      γ (.v d) δ fun δ1 => θ (fun _ => False) δ1 fun b δ2 => if b = true then τ (fun _ => False) δ2 fun o δ3 => kpK o fun y => wipeE vs δ3 = δ ∧ Q (acc ++ [y]) else wipeE vs δ2 = δ ∧ Q acc) → (mg : MonoG γ) → (mt : MonoT θ) → (m : Mono τ) → k (acc ++ ds.filterMap f) δ → lcL γ θ τ vs k ds δ acc
  | [], acc, _, _, _, _, q => by simpa [lcL] using q
  | d :: ds, acc, h, mg, mt, m, q => by
    have h1 := h d (List.mem_cons_self ..) (fun acc' => lcL γ θ τ vs k ds δ acc') acc fun acc' e => by
      subst e
      refine lc_map f (fun d' hd => h d' (List.mem_cons_of_mem _ hd)) mg mt m ?_
      have : acc ++ (d :: ds).filterMap f = acc ++ (f d).toList ++ ds.filterMap f := by
        rw [List.append_assoc]
        congr 1
        cases e : f d <;> simp [e]
      rwa [this] at q
    exact mg.m _ _ _ _ (fun δ1 q => mt.m _ _ _ _ _ (fun _ z => z) (fun b δ2 q => by
      cases b with
      | true => exact m.m _ _ _ _ _ (fun _ z => z) (fun o δ3 q => kpK_mono (fun y q => by rw [q.1]; exact q.2) q) q
      | false => simp only [Bool.false_eq_true, if_false] at q ⊢; rw [q.1]; exact q.2) q) h1
end DL

set_option Elab.async false
set_option linter.all false
set_option maxRecDepth 100000
namespace DL
open PySem L2
/-! ### the law's hand -/
theorem tabs_upd {T : List (Addr × Str)} {H : Hp} {p : Addr} {o : HO} (t : LamX.Tabs T H) (hp : ∀ u, H p = some u → Mu u) : LamX.Tabs T (upd H p o) := fun q hq => by
  obtain ⟨ps, h1, h2, h3⟩ := t q hq
  refine ⟨ps, ?_, h2, fun pos cv hc => ?_⟩
  · rw [upd_ne]; exact h1
    intro e; rw [e] at h1; exact (hp _ h1).elim
  · obtain ⟨c, e1, e2⟩ := h3 pos cv hc
    refine ⟨c, e1, ?_⟩
    rw [upd_ne]; exact e2
    intro e; rw [e] at e2; exact (hp _ e2).elim
/-- the hand at h, its cells at c -/
def handOk (h c : Addr) (H : Hp) : Prop := (∃ i b x y : Int, 0 ≤ i ∧ H h = some (.lst [.ref c, .int i, .int b, .int x, .int y])) ∧ ∃ ns : List Int, H c = some (.lst (ns.map V.int))
def handA (T : List (Addr × Str)) (h c : Addr) (hc : h ≠ c) : Amb where
  C a := a = h ∨ a = c
  inv H := handOk h c H ∧ LamX.Tabs T H
  new H p o := fun ⟨⟨⟨i, b, x, y, i0, e1⟩, ns, e2⟩, t⟩ hp n => ⟨⟨⟨i, b, x, y, i0, by rw [upd_ne (ne_of_none e1 hp)]; exact e1⟩, ns, by rw [upd_ne (ne_of_none e2 hp)]; exact e2⟩, tabs_upd t fun u e => by rw [hp] at e; cases e⟩
  wr H p o o' := fun ⟨⟨⟨i, b, x, y, i0, e1⟩, ns, e2⟩, t⟩ np hp m m' => ⟨⟨⟨i, b, x, y, i0, by rw [upd_ne fun e => np (.inl e.symm)]; exact e1⟩, ns, by rw [upd_ne fun e => np (.inr e.symm)]; exact e2⟩, tabs_upd t fun u e => by rw [hp] at e; cases e; exact m⟩
  muC H a := fun ⟨⟨⟨i, b, x, y, i0, e1⟩, ns, e2⟩, t⟩ z => z.elim (fun z => z ▸ ⟨_, e1, trivial⟩) fun z => z ▸ ⟨_, e2, trivial⟩
theorem handA_ext {T : List (Addr × Str)} {h c : Addr} {hc : h ≠ c} : ∀ H H1, (handA T h c hc).inv H → LamX.ExtN H H1 → LamX.Tabs T H1 → (handA T h c hc).inv H1 := fun H H1 ⟨⟨⟨i, b, x, y, i0, e1⟩, ns, e2⟩, _⟩ ex t => ⟨⟨⟨i, b, x, y, i0, ex _ _ e1 nt_lst⟩, ns, ex _ _ e2 nt_lst⟩, t⟩
/-- a draw: any number below the many -/
def drawF (h : Addr) : FSp := anyF (fun ds => ∃ m : Int, ds = [.ref h, .int m] ∧ 0 < m ∧ m.natAbs.log2 < 9000) fun ds d => ∃ m r : Int, ds = [.ref h, .int m] ∧ d = .int r ∧ 0 ≤ r ∧ r < m
/-- ahead of the hand: the script stays as it stands -/
theorem scr_amb {K : PySem.W.Frag} {T : List (Addr × Str)} {H : Hp} {a : Addr} {xs : List V} (hS : SqL K H a xs) (t : LamX.Tabs T H) : ∃ G : Amb, G.inv H ∧ (∀ H', G.inv H' → SqL K H' a xs ∧ LamX.Tabs T H') ∧ (∀ b, G.C b → b = a) := by
  rcases hS with (h | ⟨o, h⟩) | h
  · refine ⟨⟨fun b => b = a, fun H' => H' a = some (.lst xs) ∧ LamX.Tabs T H', fun H p o ⟨e, t⟩ hp n => ⟨by rw [upd_ne (ne_of_none e hp)]; exact e, tabs_upd t fun u e => by rw [hp] at e; cases e⟩, fun H p o o' ⟨e, t⟩ np hp m m' => ⟨by rw [upd_ne fun z => np z.symm]; exact e, tabs_upd t fun u e => by rw [hp] at e; cases e; exact m⟩, fun H b ⟨e, t⟩ z => z ▸ ⟨_, e, trivial⟩⟩, ⟨h, t⟩, fun H' i => ⟨.inl (.inl i.1), i.2⟩, fun _ h => h⟩
  · refine ⟨⟨fun _ => False, fun H' => H' a = some (.frz o (.lst xs)) ∧ LamX.Tabs T H', fun H p o ⟨e, t⟩ hp n => ⟨by rw [upd_ne (ne_of_none e hp)]; exact e, tabs_upd t fun u e => by rw [hp] at e; cases e⟩, fun H p o o' ⟨e, t⟩ np hp m m' => ⟨by rw [upd_ne fun z => by rw [z, hp] at e; cases e; exact m]; exact e, tabs_upd t fun u e => by rw [hp] at e; cases e; exact m⟩, fun H b _ z => z.elim⟩, ⟨h, t⟩, fun H' i => ⟨.inl (.inr ⟨o, i.1⟩), i.2⟩, fun _ h => h.elim⟩
  · exact ⟨⟨fun _ => False, fun H' => LamX.Tabs T H', fun H p o t hp n => tabs_upd t fun u e => (by rw [hp] at e; cases e), fun H p o o' t np hp m m' => tabs_upd t fun u e => (by rw [hp] at e; cases e; exact m), fun H b _ z => z.elim⟩, t, fun H' i => ⟨.inr h, i⟩, fun _ h => h.elim⟩
/-- script[:k], the script as it stands -/
def xScr (i : Nat) (a : Addr) (ns : List Int) (k : Int) : DT := fun _ δ Q => match δ[i]? with
  | some (.val (.ref b)) => b = a ∧ Q (.n (cutD (ns.map .int) none (some k))) δ
  | _ => False
section
variable {X : Cx} {G : Amb} {E : XK} {pos : Pos}
theorem mono_scr {i : Nat} {a : Addr} {ns : List Int} {k : Int} : Mono (xScr i a ns k) := ⟨fun _ _ δ _ _ _ h q => by
  unfold xScr at q ⊢
  split at q
  · exact ⟨q.1, h _ _ q.2⟩
  · exact q.elim⟩
theorem de_scr {i : Nat} {a : Addr} {ns : List Int} {k : Int} {j : Nat} {y : Str} {p1 p2 p3 : Pos} (hs : ∀ H, G.inv H → SqL X.K H a (ns.map V.int)) (hN : X.N[i]? = some y) (hv : Vis X.env.scope y) (hd : (y == ("__debug__" : Str)) = false := by decide) (hcd : (y == ("__classdict__" : Str)) = false := by decide) :
    DE X G E (.Subscript (.Name y p1) (.Slice none (some (.Constant (.int k) j p2)) none p3) pos) (xScr i a ns k) := by
  refine ⟨PE.imp (pe_slice sl_list (pe_var hN hv hd hcd) po_none (po_some pe_int)) fun σ H Q h => ?_, mono_scr⟩
  obtain ⟨S, T, B, A, ω, δ, Z, F, z, q⟩ := tD_to mono_scr h
  unfold xScr at q
  split at q
  case h_2 => exact q.elim
  case h_1 b e =>
    obtain ⟨rfl, q⟩ := q
    obtain ⟨_, u, e2, e3⟩ := F.slot i _ e
    cases e3
    refine ⟨_, e2, k, rfl, _, ns.map V.int, rfl, hs H F.inv, fun p hp => ?_⟩
    obtain ⟨P, ev⟩ := Gv.ev F .refl (.lst hp (RepL.ints.cut (lo := none) (hi := some k)))
    exact q _ _ _ _ ev
/-- {} -/
def xDic0 : DT := fun _ δ Q => Q (.nd []) δ
theorem de_dic0 : DE X G E (.Dict [] [] pos) xDic0 := by
  have m : Mono xDic0 := ⟨fun _ _ _ _ _ _ h q => h _ _ q⟩
  refine ⟨PE.imp pe_dnewK fun σ H Q h => ?_, m⟩
  obtain ⟨S, T, B, A, ω, δ, Z, F, z, q⟩ := tD_to m h
  intro p hp
  obtain ⟨P, ev⟩ := Gv.ev F .refl (.dic (ds := []) (vs := []) hp rfl)
  exact q _ _ _ _ ev
end
/-- pop(i) -/
def popAtR : DM := fun ds as P => match as with
  | [.int i] => (-(2 ^ 63) ≤ i ∧ i < 2 ^ 63) ∧ ∃ k d, seqIndex? i ds.length = some k ∧ ds[k]? = some d ∧ P d (ds.eraseIdx k)
  | _ => False
theorem RepL.erase {K : PySem.W.Frag} {H : Hp} {O : Addr → Prop} {ds : List D} {vs : List V} (h : RepL K H O ds vs) (k : Nat) : RepL K H O (ds.eraseIdx k) (vs.eraseIdx k) := by
  rw [List.eraseIdx_eq_take_drop_succ, List.eraseIdx_eq_take_drop_succ]
  exact (h.take k).append (h.drop (k + 1))
theorem md_popAt {X : Cx} : MtD X "list.pop" popAtR := by
  refine ⟨⟨_, mt_popAt, fun {H O l xs ds as vs P Q} hl hd ha q k => ?_⟩, fun ds as P P' h q => by
    match as, q with
    | [.int i], ⟨c, j, d, e1, e2, q⟩ => exact ⟨c, j, d, e1, e2, h _ _ q⟩⟩
  match as, q with
  | [.int i], ⟨c, j, d, e1, e2, q'⟩ =>
    obtain ⟨v, rfl, r⟩ := ha.one_inv
    cases r
    obtain ⟨u, h1, h2⟩ := hd.get e2
    exact ⟨l, xs, i, j, u, rfl, rfl, hl, c.1, c.2, by rw [← hd.length]; exact e1, h1, k _ _ _ _ q' h2 (hd.erase j)⟩
/-! ### a def with a known code object (one that makes lambdas) -/
section
variable {P : Program} {w : World} {K : PySem.W.Frag} {mg : Str → Option Value} {base : Heap} {x qual : Str} {params : Arguments} {body : List Stmt} {scope : Scope} {fd : FuncData} {G : Amb} {N ps : List Str} {k : Nat} {τ : DSt} {φ : FSp}
theorem FunD.code {p : Str × Option Str} (F : FunD K x qual params body scope [] [] (He.fAd K p) fd) : ∃ (oc : Value) (od : Option Addr) (dV kV doc pm : Value) (an : Option Addr) (ct : Value) (osl : Array (Option Value)),
    fd = PySem.W.fnOf x qual params body scope dV kV doc pm an (.ref (He.codeOf K p)) ct ∧ K.lookup (He.fAd K p) = some ⟨oc, od, .func fd, osl⟩ ∧ PySem.W.codeIn K (.ref (He.codeOf K p)) qual = true := by
  obtain ⟨oc, od, dV, kV, doc, pm, an, cdv, ct, osl, rfl, lk, hcd, _, _⟩ := F.ex
  obtain ⟨c, rfl⟩ := He.codeIn_ref hcd
  have e : He.codeOf K p = c := He.codeOf_eq lk rfl
  exact ⟨oc, od, dV, kV, doc, pm, an, ct, osl, by rw [e], lk, by rw [e]; exact hcd⟩
end
end DL
namespace DL
open PySem L2
/-- ints alike (nothing asked of the room) -/
def eqIR : D2 := cmpR intC (intF fun i j => decide (i = j))
theorem opd_eqI {X : Cx} : OpD X (compareOp .Eq) eqIR := by
  refine ⟨⟨_, op_eq, fun {H O d1 d2 v1 v2 P Q} om t1 t2 q k => ?_⟩, m2_cmp⟩
  obtain ⟨c, q⟩ := q
  cases d1 <;> cases d2 <;> first | exact c.elim | skip
  cases t1; cases t2
  rename_i i j
  have e : decide (V.int i = V.int j) = decide (i = j) := by simp
  exact ⟨rfl, by rw [e]; exact k _ _ _ q (.same rfl)⟩
end DL
namespace DL
open PySem L2
theorem lam_take {X : Cx} {A : Around} {outer : List PySem.Env} {s : Shared} {H : Hp} {E : XK} {scope : Scope} {f c' : Addr} : L2N.Takes (LamN.ctxN X A outer s H E scope f c') (fun cls d _ H => E cls d H) := L2N.takes_of rfl rfl rfl rfl
theorem lam_pass {X : Cx} {A : Around} {outer : List PySem.Env} {s : Shared} {H : Hp} {E : XK} {scope : Scope} {f c' : Addr} : Passes (L2N.CX (LamN.ctxN X A outer s H E scope f c').prog (LamN.ctxN X A outer s H E scope f c').w) (LamN.ctxN X A outer s H E scope f c') E := L2N.passes_call lam_take (fun _ _ _ _ h => h)
end DL

set_option Elab.async false
set_option linter.all false
set_option maxRecDepth 100000
namespace DL
open PySem L2
/-! ### the law's own body -/
def handD (d : D) : Prop := ∃ (cs : List Int) (i b x y : Int), 0 ≤ i ∧ d = .lst [.lst (cs.map .int), .int i, .int b, .int x, .int y]
theorem hand_switch {G0 : Amb} {K : PySem.W.Frag} {Tt : List (Addr × Str)} {S : Addr → HO → Prop} {T B : Addr → Prop} {A : Nat → Option Addr} {ω : List (Option Addr)} {H : Hp} {σ : St} {a : Addr} {d : D} {m : Nat} (F : Fr G0 K S T B A ω H σ (.val (.ref a) :: .val d :: List.replicate m .un)) (ht : LamX.Tabs Tt H) (hd : handD d) :
    ∃ (h c : Addr) (hc : h ≠ c), Fr (handA Tt h c hc) K (allS (handA Tt h c hc) H) (nT H) (handA Tt h c hc).C (fun _ => none) (List.replicate (m + 2) none) H σ (.val (.ref a) :: .val (.ref h) :: List.replicate m .un) := by
  obtain ⟨cs, i, b, x, y, i0, rfl⟩ := hd
  obtain ⟨_, v0, s0, r0⟩ := F.slot 0 _ rfl
  obtain ⟨_, v1, s1, r1⟩ := F.slot 1 _ rfl
  cases r0
  obtain ⟨h, vs, rfl, eh, _, r⟩ := r1
  obtain ⟨u0, q0, rfl, p0, r⟩ := r
  obtain ⟨u1, q1, rfl, p1, r⟩ := r
  obtain ⟨u2, q2, rfl, p2, r⟩ := r
  obtain ⟨u3, q3, rfl, p3, r⟩ := r
  obtain ⟨u4, q4, rfl, p4, r⟩ := r
  cases r; cases p1; cases p2; cases p3; cases p4
  obtain ⟨c, ws, rfl, ec, _, rc⟩ := p0
  have ews := rc.ofInts
  subst ews
  have hc : h ≠ c := fun z => by
    rw [z, ec] at eh
    have eh := Option.some.inj eh
    have eh : cs.map V.int = [.ref c, .int i, .int b, .int x, .int y] := by injection eh
    cases cs with
    | nil => cases eh
    | cons z zs => rw [List.map_cons] at eh; injection eh with e1 _; cases e1
  refine ⟨h, c, hc, ?_⟩
  have fl : flE K σ (.val (.ref a) :: .val (.ref h) :: List.replicate m .un) := by
    refine ⟨by rw [F.len]; simp, fun j s hs => ?_⟩
    match j, hs with
    | 0, hs => cases hs; exact .inr ⟨_, _, rfl, s0, fun _ _ => rfl⟩
    | 1, hs => cases hs; exact .inr ⟨_, _, rfl, s1, fun _ _ => rfl⟩
    | j + 2, hs =>
      left
      rw [List.getElem?_cons_succ, List.getElem?_cons_succ, List.getElem?_replicate] at hs
      split at hs
      · exact (Option.some.inj hs).symm
      · cases hs
  have := Fr.anew (G := handA Tt h c hc) (K := K) (H := H) ⟨⟨⟨i, b, x, y, i0, eh⟩, cs, ec⟩, ht⟩ fl
  simpa using this
def lawSp (K : PySem.W.Frag) (Tt : List (Addr × Str)) : Sp := fun vs H Q _ => ∃ (a : Addr) (ns : List Int), vs = [.ref a] ∧ ns.length ≤ 63 ∧ LamX.Tabs Tt H ∧ SqL K H a (ns.map V.int) ∧ ∀ H', Q (.bl true) H'
def noE : DEnds := ⟨fun _ => False, fun _ => False, fun _ => False, fun _ => False, fun _ => False⟩
section
variable {P : Program} {w : World} {K : PySem.W.Frag} {mg : Str → Option Value} {base : Heap} {x qual : Str} {params : Arguments} {st0 : Stmt} {sts : List Stmt} {scope : Scope} {f : Addr} {N : List Str} {dV kV doc pm cdv ct oc : Value} {an od : Option Addr} {osl : Array (Option Value)} {k m : Nat} {τ0 : Addr → List Int → DSt} {τ : Addr → DSt} {Tt : List (Addr × Str)} {p : Str}
theorem fn_law (lk : K.lookup f = some ⟨oc, od, .func (PySem.W.fnOf x qual params (st0 :: sts) scope dV kV doc pm an cdv ct), osl⟩) (hcd : PySem.W.codeIn K cdv qual = true) (S : FnScope N [p] scope) (hm : N.length = m + 2)
    (h0 : ∀ (G : Amb) (a : Addr) (ns : List Int), (∀ H, G.inv H → SqL K H a (ns.map V.int)) → ∀ (A : Around) (outer : List PySem.Env) (s : Shared) (H : Hp) (E : XK), Room k (A.deeper (PyProof.Rows.envOfC qual scope s.heap.objs.size f cdv)) → DS (cxOf (L2N.CX P w) P w K mg base N qual scope f cdv A outer s H E) G E st0 (τ0 a ns))
    (r0 : ∀ (a : Addr) (ns : List Int), ns.length ≤ 63 → τ0 a ns { noE with nx := fun δ => ∃ d, δ = .val (.ref a) :: .val d :: List.replicate m .un ∧ handD d } (.val (.ref a) :: List.replicate (m + 1) .un))
    (h1 : ∀ (h c : Addr) (hc : h ≠ c) (A : Around) (outer : List PySem.Env) (s : Shared) (H : Hp) (E : XK), Room k (A.deeper (PyProof.Rows.envOfC qual scope s.heap.objs.size f cdv)) → DSs (cxOf (L2N.CX P w) P w K mg base N qual scope f cdv A outer s H E) (handA Tt h c hc) E sts (τ h))
    (r1 : ∀ (a h : Addr), τ h { noE with rt := fun d => d = .bl true } (.val (.ref a) :: .val (.ref h) :: List.replicate m .un)) :
    FnOk P w K mg base (L2N.CX P w) (k + 1) f (PySem.W.fnOf x qual params (st0 :: sts) scope dV kV doc pm an cdv ct) [p] (lawSp K Tt) := by
  refine fn_of lk hcd S (fun vs H Q E ⟨a, ns, e, _⟩ => by rw [e]; rfl) fun A outer s H vs Q E hr h => ?_
  obtain ⟨a, ns, rfl, hl, ht, hS, hQ⟩ := h
  obtain ⟨G, gi, gs, gc⟩ := scr_amb hS ht
  refine ⟨_, pss_cons (h0 G a ns (fun H' i => (gs H' i).1) A outer s H E hr).ps (u := fun D σ H => ∃ h c hc, sD (handA Tt h c hc) K E (τ h) D σ H) ⟨fun pins s' σ H' D I ⟨h, c, hc, q⟩ => (h1 h c hc A outer s H E hr).ps.run pins s' σ H' D I q⟩, ?_⟩
  have fl : flE K (L2.start N [.ref a]) (.val (.ref a) :: List.replicate (m + 1) .un) := by
    refine ⟨by unfold L2.start; simp [hm], fun j s hs => ?_⟩
    match j, hs with
    | 0, hs => cases hs; exact .inr ⟨_, _, rfl, rfl, fun _ _ => rfl⟩
    | j + 1, hs =>
      left
      rw [List.getElem?_cons_succ, List.getElem?_replicate] at hs
      split at hs
      · exact (Option.some.inj hs).symm
      · cases hs
  have F0 := Fr.anew (G := G) (K := K) (H := H) gi fl
  refine sD_of F0 (fun _ _ z => False.elim z) ⟨fun δ' σ' H' ω' F' q => ?_, fun _ _ _ _ _ z => False.elim z, fun _ _ _ _ _ z => False.elim z, fun _ _ _ _ _ _ _ z => False.elim z⟩ (r0 a ns hl)
  obtain ⟨d, rfl, hd⟩ := q
  obtain ⟨h, c, hc, F2⟩ := hand_switch F' (gs H' F'.inv).2 hd
  refine ⟨h, c, hc, sD_of F2 (fun _ _ z => False.elim z) ⟨fun _ _ _ _ _ z => False.elim z, fun _ _ _ _ _ z => False.elim z, fun _ _ _ _ _ z => False.elim z, fun d v H3 _ _ _ r e => ?_⟩ (r1 a h)⟩
  have e : d = .bl true := e
  subst e
  cases r
  exact hQ H3
end
end DL

set_option Elab.async false
set_option linter.all false
set_option maxRecDepth 100000
namespace DL
open PySem L2
/-! ### loops by what holds ahead of each turn -/
theorem forL_inv {γ : DTg} {τ : DSt} {l : Option Nat} {F : DEnds} {ds : List D} {δ : Env} (P : Nat → Env → Prop) (h0 : P 0 δ)
    (hs : ∀ i d δ (k' : Env → Prop), ds[i]? = some d → P i δ → (∀ δ', P (i + 1) δ' → k' δ') → γ (.v d) δ fun δ' => τ (loopE k' (fun δ => F.nx (un l δ)) F) δ') (hd : ∀ δ, P ds.length δ → F.nx (un l δ)) : forL γ τ l F ds δ := by
  have key : ∀ (es : List D) (n : Nat) (δ : Env), ds.drop n = es → P n δ → n + es.length = ds.length → forL γ τ l F es δ := by
    intro es
    induction es with
    | nil => intro n δ _ p hn; rw [List.length_nil, Nat.add_zero] at hn; subst hn; exact hd δ p
    | cons d es ih =>
      intro n δ e p hn
      have hd : ds[n]? = some d := by
        have : (ds.drop n)[0]? = some d := by rw [e]; rfl
        rwa [List.getElem?_drop, Nat.add_zero] at this
      have e2 : ds.drop (n + 1) = es := by rw [← List.drop_drop, e]; rfl
      exact hs n d δ _ hd p fun δ2 p2 => ih (n + 1) δ2 e2 p2 (by simp only [List.length_cons] at hn; omega)
  exact key ds 0 δ rfl h0 (by simp)
theorem whN_inv {θ : DTT} {τ : DSt} {F : DEnds} {δ : Env} (P : Nat → Env → Prop) {n : Nat} (h0 : P n δ)
    (hs : ∀ n δ (k' : Env → Prop), P n δ → (∀ m δ', m < n → P m δ' → k' δ') → θ F.ex δ fun b δ' => if b = true then τ (loopE k' F.nx F) δ' else F.nx δ') : xWh θ τ F δ := by
  have key : ∀ (m' n : Nat) (δ : Env), n < m' → P n δ → whN θ τ F m' δ := by
    intro m'
    induction m' with
    | zero => intro n δ h; omega
    | succ m' ih => exact fun n δ hm p => hs n δ _ p fun k δ' hk p' => ih k δ' (by omega) p'
  exact ⟨n + 1, key (n + 1) n δ (by omega) h0⟩
/-- a comprehension whose turns leave the names alone: f tells what is kept of a thing -/
theorem lc_inv {γ : DTg} {θ : DTT} {τ : DT} {vs : List Nat} {k : List D → Env → Prop} {δ : Env} (f : D → Option D) : ∀ {ds : List D} {acc : List D}, (∀ d ∈ ds, ∀ (k' : List D → Env → Prop) (acc : List D), k' (acc ++ (f d).toList) δ →
      γ (.v d) δ fun δ1 => θ (fun _ => False) δ1 fun b δ2 => if b = true then τ (fun _ => False) δ2 fun o δ3 => kpK o fun y => k' (acc ++ [y]) (wipeE vs δ3) else k' acc (wipeE vs δ2)) → k (acc ++ ds.filterMap f) δ → lcL γ θ τ vs k ds δ acc
  | [], acc, _, q => by simpa [lcL] using q
  | d :: ds, acc, h, q => by
    refine h d (List.mem_cons_self ..) (fun acc' δ' => lcL γ θ τ vs k ds δ' acc') acc (lc_inv f (fun d' hd => h d' (List.mem_cons_of_mem _ hd)) ?_)
    have : acc ++ (d :: ds).filterMap f = acc ++ (f d).toList ++ ds.filterMap f := by
      rw [List.append_assoc]
      congr 1
      cases e : f d <;> simp [e]
    rwa [this] at q
/-- the same, all kept -/
theorem lc_all {γ : DTg} {τ : DT} {vs : List Nat} {k : List D → Env → Prop} {δ : Env} (f : D → D) {ds : List D} (h : ∀ d ∈ ds, ∀ (k' : D → Env → Prop), k' (f d) δ → γ (.v d) δ fun δ1 => τ (fun _ => False) δ1 fun o δ3 => kpK o fun y => k' y (wipeE vs δ3)) (q : k (ds.map f) δ) : lcL γ xYes τ vs k ds δ [] := by
  refine lc_inv (fun d => some (f d)) (fun d hd k' acc q => ?_) (by simpa using q)
  exact h d hd (fun y δ' => k' (acc ++ [y]) δ') q
end DL

set_option Elab.async false
set_option linter.all false
set_option maxRecDepth 100000
set_option maxHeartbeats 4000000
namespace L2
open PySem PySem.Spec PyProof.Rows
/-! list(reversed(a list)) -/
section
variable {prog : Program} {w : World} {A : Around} {s : Shared}
/-- the new list at S takes what the iterator gives -/
theorem ext_rev {it l S : Addr} {items : Array Value} {R : Result → Shared → Prop} (hh : A.handled = none) (hit : s.heap.IsRevIter it l ((items.size : Int) - 1)) (hl : s.heap.IsList l items) (n1 : l ≠ it) (n2 : S ≠ it) (n3 : S ≠ l) (hz : items.size ≤ sizeLine) {c₀ : Nat} (hS : s.heap.get? S = some { cls := .type "list", data := .seq #[] c₀ })
    (q : ∀ (h' : Heap) (tk : Nat) (acc : Array Value) (c' : Nat), (∀ b o, b ≠ it → b ≠ S → s.heap.get? b = some o → h'.get? b = some o) → h'.get? S = some { cls := .type "list", dict := none, data := .seq acc c', slots := #[] } → ItemsOf (fun i v => items[items.size - 1 - i]? = some v) acc items.size → R (.ok (.ret .none)) { s with heap := h', toks := tk }) :
    wpAny (model prog w) A.in1 (Builtin.List.listExtendWith (.ref S) (.ref it) .none) (fun fin s' => match fin with | .done f => R (.ok f) s' | .again c' => c'.quiet = true ∧ codeAny (model prog w) A c' R s') (fun e s' => R (.error e) s') s := by
  have W := (Walks.listRev (prog := prog) (w := w) (A := A.in1) hh it l n1 items).toS
  have nf : S ∉ [it, l] := by simp [n2, n3]
  have ty : s.TypeIs (.ref it) "list_reverseiterator" := hit.typeIs
  have same : Builtin.List.listSameRef (.ref S) (.ref it) = false := by simp [Builtin.List.listSameRef, n2]
  unfold Builtin.List.listExtendWith
  refine wpAny_bind (wpAny_typeOf ty ?_); rw [if_neg (by rw [same]; decide)]
  refine wpAny_bind (wpAny_pyIter_revIter hit ?_); refine wpAny_bind (wpAny_holding ?_); unfold Builtin.List.listLengthHint
  refine wpAny_bind (wpAny_specialOf ty RT.nolen_lri ?_)
  show wpAny _ _ (specialOf (Value.ref it) (Str.ofString "__length_hint__") >>= _) _ _ _
  refine wpAny_bind (wpAny_specialOf ty RT.hint_lri ?_); generalize hx : ("list_reverseiterator.__length_hint__" : String) = ix; wp_delta
  rw [show splitId ix = some ("list_reverseiterator", "__length_hint__") from by subst hx; decide +kernel]; subst hx
  refine wpAny_bind (wpAny_isInstance (b := true) ty (by rw [isSubtype_type]; kernel_rfl) ?_); refine wpAny_pure ?_; rw [if_neg (by decide)]
  have z0 : ((items.size : Nat) : Int) - 1 - ((0 : Nat) : Int) = (items.size : Int) - 1 := by omega
  refine wpAny_pure ⟨plainId_quiet F.plain_extend_loop _, codeAny_extend_loopS W hz _ nf _ items.size 0 _ _ _ rfl (Nat.zero_le _) ⟨Nat.zero_le _, by rw [z0]; exact hit, hl⟩ hS (ItemsOf.nil _) fun s' acc' c' hm hS' hacc => ?_⟩
  rw [Moved.eq_with hm]
  refine q s'.heap s'.toks acc' c' (fun b o h1 h2 e => hm.heap b o (fun z => ?_) e) hS' hacc
  rcases List.mem_cons.mp z with z | z
  · exact h2 z
  · exact h1 (List.mem_singleton.mp z)
theorem call_listRev {E : Value → Shared → Prop} {it l : Addr} {items : Array Value} {Q : Value → Shared → Prop} (hh : A.handled = none) (hit : s.heap.IsRevIter it l ((items.size : Int) - 1)) (hl : s.heap.IsList l items) (n1 : l ≠ it) (hz : items.size ≤ sizeLine)
    (q : ∀ (h' : Heap) (tk : Nat) (acc : Array Value) (c' : Nat), (∀ b o, b ≠ it → s.heap.get? b = some o → h'.get? b = some o) → h'.get? s.heap.objs.size = some { cls := .type "list", dict := none, data := .seq acc c', slots := #[] } → ItemsOf (fun i v => items[items.size - 1 - i]? = some v) acc items.size → Q (.ref s.heap.objs.size) { s with heap := h', toks := tk }) :
    wpAny (model prog w) A (call (.type "list") [.ref it]) Q E s := by
  obtain ⟨oi, hoi, hoi'⟩ := id hit
  obtain ⟨ol, hol, hol'⟩ := id hl
  have n2 : s.heap.objs.size ≠ it := Nat.ne_of_gt (Heap.lt_size hoi)
  have n3 : s.heap.objs.size ≠ l := Nat.ne_of_gt (Heap.lt_size hol)
  refine callType_codes (Q₁ := fun obj s₁ => obj = .ref s.heap.objs.size ∧ s₁ = { s with heap := s.heap.push { cls := .type "list", data := .seq #[] } }) F.called_list (F.typeCall_list_1 _) F.entry_list_init (code_list_new _ ⟨rfl, rfl⟩) fun obj s₁ e => ?_
  obtain ⟨rfl, rfl⟩ := e
  have at0 : (s.heap.push { cls := .type "list", data := .seq #[] }).get? s.heap.objs.size = some { cls := .type "list", data := .seq #[] } := Heap.get?_push_size _ rfl
  refine ⟨⟨_, at0, rfl⟩, F.args_list_init_2 _ _, ?_⟩
  show wpAny _ _ (do let old ← Builtin.List.listItems (.ref s.heap.objs.size); Builtin.List.listUpdate (.ref s.heap.objs.size) (fun _ => #[]); letGo old.toList.reverse; Builtin.List.listExtendWith (.ref s.heap.objs.size) (.ref it) .none) _ _ _
  refine wpAny_bind ?_; unfold Builtin.List.listItems
  refine wpAny_bind (wpAny_seqItems at0 rfl (wpAny_pure ?_))
  show wpAny _ _ (updateSeq s.heap.objs.size (fun _ => #[]) >>= fun _ => letGo (#[] : Array Value).toList.reverse >>= fun _ => Builtin.List.listExtendWith (.ref s.heap.objs.size) (.ref it) .none) _ _ _
  refine wpAny_bind (wpAny_updateSeq at0 rfl ?_)
  have at1 := Heap.get?_update_self (Obj.mapSeq (fun _ => (#[] : Array Value))) at0 rfl
  have keep : ∀ b o, b ≠ s.heap.objs.size → s.heap.get? b = some o → ((s.heap.push { cls := .type "list", data := .seq #[] }).update s.heap.objs.size (Obj.mapSeq (fun _ => (#[] : Array Value)))).get? b = some o := fun b o hb e => (Heap.get?_update_other _ _ (Ne.symm hb)).trans (Heap.get?_push_of_some _ e)
  refine wpAny_bind (wpAny_letGo ?_)
  refine ext_rev hh ⟨oi, keep it _ (Ne.symm n2) hoi, hoi'⟩ ⟨ol, keep l _ (Ne.symm n3) hol, hol'⟩ n1 n2 n3 hz at1 fun h' tk acc c' k hS' hi => ?_
  exact ⟨rfl, q h' tk acc c' (fun b o h1 e => k b o h1 (Nat.ne_of_lt (Heap.lt_size e)) (keep b o (Nat.ne_of_lt (Heap.lt_size e)) e)) hS' hi⟩
end
section
variable {X : Cx}
theorem pe_listRev {e : Expr} {te : TE} {p p2 pos pos2 : Pos} (hc : X.calm = true) (hg : Gl X "list") (hm : X.mg "list" = none) (hg2 : Gl X "reversed") (hm2 : X.mg "reversed" = none) (he : PE X e te) (hs : starEach [e] X.env = (false, eval e X.env) :: starEach [] X.env := by rfl)
    (hs2 : starEach [.Call (.Name "reversed" p2) [e] [] pos2] X.env = (false, eval (.Call (.Name "reversed" p2) [e] [] pos2) X.env) :: starEach [] X.env := by rfl) : PE X (.Call (.Name "list" p) [.Call (.Name "reversed" p2) [e] [] pos2] [] pos) (tRevL X.K te) := by
  refine ⟨fun pins s σ H Q I h => Call_ (ld_blt I hg hm boot_list (PyProof.Rows.callWith_type1 (args_cons (Call_ (ld_blt I hg2 hm2 PyProof.Rows.boot_reversed (PyProof.Rows.callWith_type1 (args_cons (thn (he.run pins s σ H _ I h) fun u s1 ⟨v, H1, I1, r1, q1⟩ => args_nil ?_) hs) hs rfl))) hs2) hs2 rfl))⟩
  obtain ⟨a, xs, rfl, hq, q⟩ := q1; cases r1
  obtain ⟨its, rv, pl, hz⟩ := I1.list hq
  refine call_reversed_list pl.isList (args_nil ?_)
  have lz : its.toArray.size ≤ sizeLine := by rw [List.size_toArray, ← rv.length]; exact hz
  obtain ⟨ol, hol, _⟩ := id pl.isList
  refine call_listRev (s := { s1 with heap := s1.heap.push (revObj a ((its.toArray.size : Int) - 1)) }) (I1.ok.hd hc) ⟨_, Heap.get?_push_size _ rfl, rfl, rfl⟩ (pl.isList.push _) (Nat.ne_of_lt (Heap.lt_size hol)) lz fun h' tk acc c' hk e' hi => ?_
  have k1 : ∀ b o, s1.heap.get? b = some o → h'.get? b = some o := fun b o e => hk b o (Nat.ne_of_lt (Heap.lt_size e)) (Heap.get?_push_of_some _ e)
  have le : s1.heap.objs.size ≤ (s1.heap.push (revObj a ((its.toArray.size : Int) - 1))).objs.size := by rw [Heap.size_push]; exact Nat.le_succ _
  refine ⟨.ref _, upd H1 _ (.lst xs.reverse), I1.laid (t' := tk) k1 le (show ObjOk X.prog X.w _ _ _ (.lst xs.reverse) from ⟨by rw [List.length_reverse]; exact hz, acc.toList, c', RT.vals_rev rv hi, ?_⟩), rfl, q _ (I1.hok.fresh le)⟩
  rw [Array.toArray_toList]; exact e'
end
end L2
namespace DL
open PySem L2
section
variable {X : Cx} {G : Amb} {E : XK} {e : Expr} {τ : DT} {p pos : Pos}
theorem de_listRev {p2 pos2 : Pos} (hc : X.calm = true) (hg : Gl X "list") (hm : X.mg "list" = none) (hg2 : Gl X "reversed") (hm2 : X.mg "reversed" = none) (he : DE X G E e τ) (hs : starEach [e] X.env = (false, eval e X.env) :: starEach [] X.env := by rfl)
    (hs2 : starEach [.Call (.Name "reversed" p2) [e] [] pos2] X.env = (false, eval (.Call (.Name "reversed" p2) [e] [] pos2) X.env) :: starEach [] X.env := by rfl) : DE X G E (.Call (.Name "list" p) [.Call (.Name "reversed" p2) [e] [] pos2] [] pos) (xUn revR τ) := by
  have m : Mono (xUn revR τ) := mono_un ⟨fun d P P' h q => by cases d <;> first | exact q.elim | exact h _ q⟩ he.mono
  refine ⟨PE.imp (pe_listRev hc hg hm hg2 hm2 he.pe hs hs2) fun σ H Q h => ?_, m⟩
  obtain ⟨S, T, B, A, ω, δ, Z, F, z, q⟩ := tD_to m h
  refine un_core (ρ := revR) (r := fun x H1 Q => ∃ a xs, x = V.ref a ∧ SqL X.K H1 a xs ∧ ∀ (p : Addr), H1 p = none → Q (V.ref p) (upd H1 p (HO.lst xs.reverse))) he.mono (fun {H O d v P Q} om r q k => ?_) F z q
  cases d <;> first | exact q.elim | skip
  obtain ⟨a, vs, rfl, h1, r1⟩ := r
  exact ⟨a, vs, rfl, sql_of h1, fun p hp => k _ _ _ q (.lst hp r1.rev)⟩
end
end DL

set_option Elab.async false
set_option linter.all false
set_option maxRecDepth 100000
namespace DL
open PySem L2
/-! ### the laws' own equality -/
mutual
def lisD : D → D → Bool
  | .non, .non => true
  | .bl a, .bl b => a == b
  | .int a, .int b => a == b
  | .str a, .str b => a == b
  | .tup xs, .tup ys => lisDs xs ys
  | .lst xs, .lst ys => lisDs xs ys
  | _, _ => false
def lisDs : List D → List D → Bool
  | [], [] => true
  | x :: xs, y :: ys => lisD x y && lisDs xs ys
  | _, _ => false
end
mutual
theorem lisD_refl : ∀ (n : Nat) (d : D), okD n d = true → lisD d d = true
  | n, .non, _ => rfl
  | n, .bl _, _ => by simp [lisD]
  | n, .int _, _ => by simp [lisD]
  | n, .str _, _ => by simp [lisD]
  | n + 1, .tup ds, h => by rw [lisD]; exact lisDs_refl n ds (by simpa [okD] using h)
  | n + 1, .lst ds, h => by rw [lisD]; exact lisDs_refl n ds (by simpa [okD] using h)
  | 0, .tup ds, h => by simp [okD] at h
  | 0, .lst ds, h => by simp [okD] at h
  | n, .dic _, h => by simp [okD] at h
  | n, .dit _, h => by simp [okD] at h
  | n, .ref _, h => by simp [okD] at h
theorem lisDs_refl : ∀ (n : Nat) (d : List D), okDs n d = true → lisDs d d = true
  | n, [], _ => rfl
  | n, d :: ds, h => by
    simp only [okDs, Bool.and_eq_true] at h
    rw [lisDs, lisD_refl n d h.1, lisDs_refl n ds h.2]; rfl
end
mutual
theorem lisD_eq : ∀ (d e : D), lisD d e = true → d = e
  | .tup xs, e, h => by
    cases e <;> simp [lisD] at h
    rw [lisDs_eq xs _ h]
  | .lst xs, e, h => by
    cases e <;> simp [lisD] at h
    rw [lisDs_eq xs _ h]
  | .non, e, h => by cases e <;> simp_all [lisD]
  | .bl a, e, h => by cases e <;> simp_all [lisD]
  | .int a, e, h => by cases e <;> simp_all [lisD]
  | .str a, e, h => by cases e <;> simp_all [lisD]
  | .dic a, e, h => by cases e <;> simp_all [lisD]
  | .dit a, e, h => by cases e <;> simp_all [lisD]
  | .ref a, e, h => by cases e <;> simp_all [lisD]
theorem lisDs_eq : ∀ (d e : List D), lisDs d e = true → d = e
  | [], e, h => by cases e <;> simp_all [lisDs]
  | x :: xs, e, h => by
    cases e with
    | nil => simp [lisDs] at h
    | cons y ys =>
      simp only [lisDs, Bool.and_eq_true] at h
      rw [lisD_eq x y h.1, lisDs_eq xs ys h.2]
end
theorem lisDs_all : ∀ (xs ys : List D), xs.length = ys.length → ((xs.zip ys).all fun p => lisD p.1 p.2) = lisDs xs ys
  | [], [], _ => rfl
  | x :: xs, y :: ys, h => by rw [List.zip_cons_cons, List.all_cons, lisDs, lisDs_all xs ys (by simpa using h)]
  | [], _ :: _, h => by simp at h
  | _ :: _, [], h => by simp at h
mutual
theorem eqD_refl : ∀ (n : Nat) (d : D), okD n d = true → eqD d d = true
  | n, .non, _ => rfl
  | n, .bl _, _ => by simp [eqD]
  | n, .int _, _ => by simp [eqD]
  | n, .str _, _ => by simp [eqD]
  | n + 1, .tup ds, h => by rw [eqD]; exact eqDs_refl n ds (by simpa [okD] using h)
  | n + 1, .lst ds, h => by rw [eqD]; exact eqDs_refl n ds (by simpa [okD] using h)
  | 0, .tup ds, h => by simp [okD] at h
  | 0, .lst ds, h => by simp [okD] at h
  | n, .dic _, h => by simp [okD] at h
  | n, .dit _, h => by simp [okD] at h
  | n, .ref _, h => by simp [okD] at h
theorem eqDs_refl : ∀ (n : Nat) (d : List D), okDs n d = true → eqDs d d = true
  | n, [], _ => rfl
  | n, d :: ds, h => by
    simp only [okDs, Bool.and_eq_true] at h
    rw [eqDs, eqD_refl n d h.1, eqDs_refl n ds h.2]; rfl
end
theorem lisDs_len : ∀ (xs ys : List D), lisDs xs ys = true → xs.length = ys.length
  | [], [], _ => rfl
  | x :: xs, y :: ys, h => by simp only [lisDs, Bool.and_eq_true] at h; simp [lisDs_len xs ys h.2]
  | [], _ :: _, h => by simp [lisDs] at h
  | _ :: _, [], h => by simp [lisDs] at h
theorem lisDs_comp {n : Nat} {xs ys : List D} (h1 : okDs n xs = true) (h2 : okDs n ys = true) : ∀ d ∈ zipD xs ys, ∃ x y, d = .tup [x, y] ∧ okD n x = true ∧ okD n y = true := by
  have key : ∀ (xs ys : List D), okDs n xs = true → okDs n ys = true → ∀ d ∈ zipD xs ys, ∃ x y, d = .tup [x, y] ∧ okD n x = true ∧ okD n y = true := by
    intro xs
    induction xs with
    | nil => intro ys _ _ d hd; simp [zipD] at hd
    | cons x xs ih =>
      intro ys h1 h2 d hd
      cases ys with
      | nil => simp [zipD] at hd
      | cons y ys =>
        simp only [okDs, Bool.and_eq_true] at h1 h2
        unfold zipD at hd
        rw [List.zip_cons_cons, List.map_cons] at hd
        rcases List.mem_cons.mp hd with rfl | hd
        · exact ⟨x, y, rfl, h1.1, h2.1⟩
        · exact ih ys h1.2 h2.2 d hd
  exact key xs ys h1 h2
def zipF (d : D) : D := match d with
  | .tup [x, y] => .bl (lisD x y)
  | d => d
theorem zipF_map (xs ys : List D) : (zipD xs ys).map zipF = ((xs.zip ys).map fun p => lisD p.1 p.2).map D.bl := by
  unfold zipD
  rw [List.map_map, List.map_map]
  rfl
theorem okD_ty {n : Nat} {d : D} (h : okD n d = true) : okTy d := by cases d <;> simp [okD] at h <;> trivial
mutual
theorem okD_up : ∀ (n m : Nat) (d : D), n ≤ m → okD n d = true → okD m d = true
  | n, m, .non, _, _ => by simp [okD]
  | n, m, .bl _, _, _ => by simp [okD]
  | n, m, .int _, _, _ => by simp [okD]
  | n, m, .str _, _, h => by simpa [okD] using h
  | n + 1, m, .tup ds, l, h => by
    cases m with
    | zero => omega
    | succ m => simp only [okD] at h ⊢; exact okDs_up n m ds (by omega) h
  | n + 1, m, .lst ds, l, h => by
    cases m with
    | zero => omega
    | succ m => simp only [okD] at h ⊢; exact okDs_up n m ds (by omega) h
  | 0, m, .tup ds, _, h => by simp [okD] at h
  | 0, m, .lst ds, _, h => by simp [okD] at h
  | n, m, .dic _, _, h => by simp [okD] at h
  | n, m, .dit _, _, h => by simp [okD] at h
  | n, m, .ref _, _, h => by simp [okD] at h
theorem okDs_up : ∀ (n m : Nat) (d : List D), n ≤ m → okDs n d = true → okDs m d = true
  | n, m, [], _, _ => by simp [okDs]
  | n, m, d :: ds, l, h => by
    simp only [okDs, Bool.and_eq_true] at h ⊢
    exact ⟨okD_up n m d l h.1, okDs_up n m ds l h.2⟩
end
-- its promise: things not deeper than n, not too long
mutual
def shrt : D → Bool
  | .tup ds => decide (ds.length ≤ 16777216) && shrts ds
  | .lst ds => decide (ds.length ≤ 16777216) && shrts ds
  | _ => true
def shrts : List D → Bool
  | [] => true
  | d :: ds => shrt d && shrts ds
end
def isP (n : Nat) : FSp := fun ds Q _ => ∃ a b, ds = [a, b] ∧ okD n a = true ∧ okD n b = true ∧ shrt a = true ∧ shrt b = true ∧ Q (.bl (lisD a b))
theorem m_isP {n : Nat} : MonoF (isP n) := ⟨fun ds Q Q' Z Z' hq hz ⟨a, b, e, h1, h2, h3, h4, q⟩ => ⟨a, b, e, h1, h2, h3, h4, hq _ q⟩⟩
theorem isP_same {n : Nat} {d : D} {Q : D → Prop} {Z : Ex → Prop} (h : okD n d = true) (s : shrt d = true) (q : Q (.bl true)) : isP n [d, d] Q Z := ⟨d, d, rfl, h, h, s, s, by rw [lisD_refl n d h]; exact q⟩
theorem shrts_mem : ∀ {xs : List D}, shrts xs = true → ∀ d ∈ xs, shrt d = true
  | [], _, d, h => by cases h
  | x :: xs, h, d, hd => by
    simp only [shrts, Bool.and_eq_true] at h
    rcases List.mem_cons.mp hd with rfl | hd
    · exact h.1
    · exact shrts_mem h.2 d hd
theorem zip_mem2 {xs ys : List D} {x y : D} (h : (D.tup [x, y]) ∈ zipD xs ys) : x ∈ xs ∧ y ∈ ys := by
  unfold zipD at h
  obtain ⟨p, hp, e⟩ := List.mem_map.mp h
  injection e with e
  injection e with e1 e
  injection e with e2 _
  subst e1 e2
  exact ⟨(List.of_mem_zip hp).1, (List.of_mem_zip hp).2⟩
end DL

set_option Elab.async false
set_option linter.all false
set_option maxRecDepth 100000
namespace DL
open PySem L2
/-! ### to step through a reading: simp looks at the head alone. What is behind a stop stays as it is: a thing's type names it, so simp leaves it -/
universe u v
structure Tg {α : Sort u} (a : α) : Type where
structure Tg2 {α : Sort u} {β : Sort v} (a : α) (b : β) : Type where
def call (φ : FSp) (ds : List D) (Q : D → Prop) (Z : Ex → Prop) (_ : Tg2 Q Z) : Prop := φ ds Q Z
def brK (b : Bool) (A B : Prop) (_ : Tg2 A B) : Prop := if b = true then A else B
theorem brK_of {b : Bool} {A B : Prop} {t : Tg2 A B} (h1 : b = true → A) (h0 : b = false → B) : brK b A B t := by
  unfold brK
  cases b with
  | true => exact h1 rfl
  | false => exact h0 rfl
@[simp] theorem s_brK1 {A B : Prop} {t : Tg2 A B} : brK true A B t = A := id rfl
@[simp] theorem s_brK0 {A B : Prop} {t : Tg2 A B} : brK false A B t = B := id rfl
def forW (γ : DTg) (τ : DSt) (l : Option Nat) (F : DEnds) (ds : List D) (δ : Env) (_ : Tg F) : Prop := forL γ τ l F ds δ
def lcW (γ : DTg) (θ : DTT) (τ : DT) (vs : List Nat) (k : List D → Env → Prop) (ds : List D) (δ : Env) (acc : List D) (_ : Tg k) : Prop := lcL γ θ τ vs k ds δ acc
def whW (θ : DTT) (τ : DSt) (F : DEnds) (δ : Env) (_ : Tg F) : Prop := xWh θ τ F δ
def optK {α : Type} (o : Option α) (k : α → Prop) (_ : Tg k) : Prop := match o with
  | some a => k a
  | none => False
@[simp ↓] theorem s_optK1 {α : Type} {a : α} {k : α → Prop} {t : Tg k} : optK (some a) k t = k a := id rfl
@[simp ↓] theorem s_optK0 {α : Type} {k : α → Prop} {t : Tg k} : optK none k t = False := id rfl
def slAt (i : Nat) (δ : Env) (k : Sl → Prop) (_ : Tg k) : Prop := match δ[i]? with
  | some s => k s
  | none => False
@[simp ↓] theorem s_slAt0 {s : Sl} {δ : Env} {k : Sl → Prop} {t : Tg k} : slAt 0 (s :: δ) k t = k s := id rfl
@[simp ↓] theorem s_slAt1 {n : Nat} {s : Sl} {δ : Env} {k : Sl → Prop} {t : Tg k} : slAt (n + 1) (s :: δ) k t = slAt n δ k ⟨⟩ := id rfl
def vrS (s : Sl) (i : Nat) (δ : Env) (Q : Op → Env → Prop) (_ : Tg Q) : Prop := match s with
  | .val d => Q (.v d) δ
  | .own _ => Q (.b i) δ
  | .ownD _ => Q (.b i) δ
  | .ownT _ => Q (.b i) δ
  | .lent _ => Q (.b i) δ
  | _ => False
section
variable {i : Nat} {δ : Env} {Q : Op → Env → Prop} {t : Tg Q}
@[simp ↓] theorem s_vr1 {d : D} : vrS (.val d) i δ Q t = Q (.v d) δ := id rfl
@[simp ↓] theorem s_vr2 {d : List D} : vrS (.own d) i δ Q t = Q (.b i) δ := id rfl
@[simp ↓] theorem s_vr3 {d : List (Key × D)} : vrS (.ownD d) i δ Q t = Q (.b i) δ := id rfl
@[simp ↓] theorem s_vr4 {d : List (List Key × D)} : vrS (.ownT d) i δ Q t = Q (.b i) δ := id rfl
@[simp ↓] theorem s_vr5 {d : List D} : vrS (.lent d) i δ Q t = Q (.b i) δ := id rfl
@[simp ↓] theorem s_vr6 : vrS .un i δ Q t = False := id rfl
def mvS (s : Sl) (i : Nat) (δ : Env) (Q : Op → Env → Prop) (_ : Tg Q) : Prop := match s with
  | .val d => Q (.v d) δ
  | .own ds => Q (.v (.lst ds)) (δ.set i (.val (.lst ds)))
  | .ownD ds => Q (.v (.dic ds)) (δ.set i (.val (.dic ds)))
  | .ownT ds => Q (.v (.dit ds)) (δ.set i (.val (.dit ds)))
  | _ => False
@[simp ↓] theorem s_mv1 {d : D} : mvS (.val d) i δ Q t = Q (.v d) δ := id rfl
@[simp ↓] theorem s_mv2 {ds : List D} : mvS (.own ds) i δ Q t = Q (.v (.lst ds)) (δ.set i (.val (.lst ds))) := id rfl
@[simp ↓] theorem s_mv3 {ds : List (Key × D)} : mvS (.ownD ds) i δ Q t = Q (.v (.dic ds)) (δ.set i (.val (.dic ds))) := id rfl
@[simp ↓] theorem s_mv4 {ds : List (List Key × D)} : mvS (.ownT ds) i δ Q t = Q (.v (.dit ds)) (δ.set i (.val (.dit ds))) := id rfl
end
section
variable {δ : Env} {k : D → Prop} {t : Tg k}
def rdS (s : Sl) (k : D → Prop) (_ : Tg k) : Prop := match s with
  | .own ds => k (.lst ds)
  | .lent ds => k (.lst ds)
  | .ownD kvs => k (.dic kvs)
  | .ownT kvs => k (.dit kvs)
  | _ => False
@[simp ↓] theorem s_rdS1 {ds : List D} : rdS (.own ds) k t = k (.lst ds) := id rfl
@[simp ↓] theorem s_rdS2 {ds : List D} : rdS (.lent ds) k t = k (.lst ds) := id rfl
@[simp ↓] theorem s_rdS3 {ds : List (Key × D)} : rdS (.ownD ds) k t = k (.dic ds) := id rfl
@[simp ↓] theorem s_rdS4 {ds : List (List Key × D)} : rdS (.ownT ds) k t = k (.dit ds) := id rfl
def rdT (o : Op) (δ : Env) (k : D → Prop) (_ : Tg k) : Prop := rdK o δ k
@[simp ↓] theorem s_rdK1 {d : D} : rdT (.v d) δ k t = k d := id rfl
@[simp ↓] theorem s_rdK2 {d : List D} : rdT (.n d) δ k t = k (.lst d) := id rfl
@[simp ↓] theorem s_rdK3 {d : List (Key × D)} : rdT (.nd d) δ k t = k (.dic d) := id rfl
@[simp ↓] theorem s_rdK4 {d : List (List Key × D)} : rdT (.nt d) δ k t = k (.dit d) := id rfl
@[simp ↓] theorem s_rdK5 {i : Nat} : rdT (.b i) δ k t = slAt i δ (fun s => rdS s k ⟨⟩) ⟨⟩ := by
  unfold rdT rdK slAt rdS
  cases h : δ[i]? with
  | none => simp [rd, h]
  | some s => cases s <;> simp [rd, h]
def kpT (o : Op) (k : D → Prop) (_ : Tg k) : Prop := kpK o k
@[simp ↓] theorem s_kpK1 {d : D} : kpT (.v d) k t = k d := id rfl
@[simp ↓] theorem s_kpK2 {d : List D} : kpT (.n d) k t = k (.lst d) := id rfl
@[simp ↓] theorem s_kpK3 {d : List (Key × D)} : kpT (.nd d) k t = k (.dic d) := id rfl
@[simp ↓] theorem s_kpK4 {d : List (List Key × D)} : kpT (.nt d) k t = k (.dit d) := id rfl
@[simp ↓] theorem s_kpK0 {o : Op} : kpK o k = kpT o k ⟨⟩ := id rfl
end
section
variable {k : List D → Prop} {t : Tg k}
def kpLT (o : List Op) (k : List D → Prop) (_ : Tg k) : Prop := kpLK o k
@[simp ↓] theorem s_kpLK0 : kpLT [] k t = k [] := id rfl
theorem kpLK_cons {o : Op} {os : List Op} {d : D} {k : List D → Prop} (h : kp o = some d) : kpLK (o :: os) k = kpLK os fun ds => k (d :: ds) := by
  unfold kpLK
  rw [kpL, h]
  cases kpL os <;> rfl
@[simp ↓] theorem s_kpLK1 {d : D} {os : List Op} : kpLT (.v d :: os) k t = kpLT os (fun ds => k (d :: ds)) ⟨⟩ := kpLK_cons rfl
@[simp ↓] theorem s_kpLK2 {d : List D} {os : List Op} : kpLT (.n d :: os) k t = kpLT os (fun ds => k (.lst d :: ds)) ⟨⟩ := kpLK_cons rfl
@[simp ↓] theorem s_kpLK3 {d : List (Key × D)} {os : List Op} : kpLT (.nd d :: os) k t = kpLT os (fun ds => k (.dic d :: ds)) ⟨⟩ := kpLK_cons rfl
@[simp ↓] theorem s_kpLK4 {d : List (List Key × D)} {os : List Op} : kpLT (.nt d :: os) k t = kpLT os (fun ds => k (.dit d :: ds)) ⟨⟩ := kpLK_cons rfl
end
section
variable {k : Bool → Prop} {t : Tg k}
def truT (d : D) (k : Bool → Prop) (_ : Tg k) : Prop := truK d k
@[simp ↓] theorem s_truK1 : truT .non k t = k false := id rfl
@[simp ↓] theorem s_truK2 {b : Bool} : truT (.bl b) k t = k b := id rfl
@[simp ↓] theorem s_truK3 {i : Int} : truT (.int i) k t = k (i != 0) := id rfl
@[simp ↓] theorem s_truK4 {s : Str} : truT (.str s) k t = (s.length ≤ 16777216 ∧ k ((s.length : Int) != 0)) := id rfl
@[simp ↓] theorem s_truK5 {s : List D} : truT (.lst s) k t = k (!s.isEmpty) := id rfl
@[simp ↓] theorem s_truK6 {s : List D} : truT (.tup s) k t = k (!s.isEmpty) := id rfl
@[simp ↓] theorem s_truK7 {s : List (Key × D)} : truT (.dic s) k t = k (!s.isEmpty) := id rfl
def blK (d : D) (k : Bool → Prop) (_ : Tg k) : Prop := match d with
  | .bl b => k b
  | _ => False
@[simp ↓] theorem s_blK {b : Bool} : blK (.bl b) k t = k b := id rfl
end
section
variable {k : List D → Prop} {t : Tg k}
def owS (s : Sl) (k : List D → Prop) (_ : Tg k) : Prop := match s with
  | .own ds => k ds
  | _ => False
@[simp ↓] theorem s_owS {ds : List D} : owS (.own ds) k t = k ds := id rfl
theorem ownK_at {i : Nat} {δ : Env} : ownK i δ k = slAt i δ (fun s => owS s k ⟨⟩) ⟨⟩ := by
  unfold ownK slAt owS
  cases h : δ[i]? with
  | none => rfl
  | some s => cases s <;> rfl
def lsK (d : D) (k : List D → Prop) (_ : Tg k) : Prop := match d with
  | .lst ds => k ds
  | _ => False
@[simp ↓] theorem s_lsK {ds : List D} : lsK (.lst ds) k t = k ds := id rfl
def zpK (as : List D) (k : List D → Prop) (_ : Tg k) : Prop := match as with
  | [.lst ds, .lst es] => k (zipD ds es)
  | [.tup ds, .tup es] => k (zipD ds es)
  | _ => False
@[simp ↓] theorem s_zpK1 {ds es : List D} : zpK [.lst ds, .lst es] k t = k (zipD ds es) := id rfl
@[simp ↓] theorem s_zpK2 {ds es : List D} : zpK [.tup ds, .tup es] k t = k (zipD ds es) := id rfl
end
section
variable {k : Int → Prop} {t : Tg k}
def intT (o : Op) (k : Int → Prop) (_ : Tg k) : Prop := intK o k
@[simp ↓] theorem s_intK {i : Int} : intT (.v (.int i)) k t = k i := id rfl
def isI (d : D) (k : Int → Prop) (_ : Tg k) : Prop := match d with
  | .int i => k i
  | _ => False
@[simp ↓] theorem s_isI {i : Int} : isI (.int i) k t = k i := id rfl
end
def rfS (s : Sl) (k : Addr → Prop) (_ : Tg k) : Prop := match s with
  | .val (.ref f) => k f
  | _ => False
@[simp ↓] theorem s_rfS {f : Addr} {k : Addr → Prop} {t : Tg k} : rfS (.val (.ref f)) k t = k f := id rfl
section
variable {i : Nat} {δ : Env} {k : Option Nat → Env → Prop} {t : Tg k}
def lnS (s : Sl) (i : Nat) (δ : Env) (k : Option Nat → Env → Prop) (_ : Tg k) : Prop := match s with
  | .own ds => k (some i) (δ.set i (.lent ds))
  | _ => k none δ
@[simp ↓] theorem s_lnS1 {ds : List D} : lnS (.own ds) i δ k t = k (some i) (δ.set i (.lent ds)) := id rfl
@[simp ↓] theorem s_lnS2 {d : D} : lnS (.val d) i δ k t = k none δ := id rfl
@[simp ↓] theorem s_lnS3 {ds : List D} : lnS (.lent ds) i δ k t = k none δ := id rfl
def lendT (o : Op) (δ : Env) (k : Option Nat → Env → Prop) (_ : Tg k) : Prop := lendK o δ k
@[simp ↓] theorem s_lendK1 {d : D} : lendT (.v d) δ k t = k none δ := id rfl
@[simp ↓] theorem s_lendK2 {d : List D} : lendT (.n d) δ k t = k none δ := id rfl
theorem lendT_of {h : ∃ s, δ[i]? = some s} : lendT (.b i) δ k t = slAt i δ (fun s => lnS s i δ k ⟨⟩) ⟨⟩ := by
  unfold lendT lendK slAt lnS
  obtain ⟨s, h⟩ := h
  rw [h]
  cases s <;> simp [h]
end
@[simp] theorem s_itemsOf1 {ds : List D} : itemsOf (.lst ds) = some ds := id rfl
@[simp] theorem s_itemsOf2 {ds : List D} : itemsOf (.tup ds) = some ds := id rfl
@[simp] theorem s_itemsOf3 {s : Str} : itemsOf (.str s) = some (signs s) := id rfl
@[simp] theorem s_un0 {δ : Env} : un none δ = δ := id rfl
@[simp] theorem s_wipe0 {δ : Env} : wipeE [] δ = δ := id rfl
@[simp] theorem s_wipe1 {i : Nat} {is : List Nat} {δ : Env} : wipeE (i :: is) δ = (wipeE is δ).set i .un := id rfl
@[simp] theorem s_rest0 {δ0 δ : Env} : restE δ0 [] δ = δ := id rfl
def rstK (s : Option Sl) (i : Nat) (δ : Env) : Env := match s with
  | some s => δ.set i s
  | none => δ
@[simp] theorem s_rstK1 {s : Sl} {i : Nat} {δ : Env} : rstK (some s) i δ = δ.set i s := id rfl
@[simp] theorem s_rest1 {i : Nat} {is : List Nat} {δ0 δ : Env} : restE δ0 (i :: is) δ = rstK (δ0[i]?) i (restE δ0 is δ) := by
  unfold rstK
  rw [restE]
  all_goals (cases δ0[i]? <;> rfl)
@[simp] theorem s_plain1 : plainSl .un = true := id rfl
@[simp] theorem s_plain2 {d : D} : plainSl (.val d) = true := id rfl
@[simp ↓] theorem s_loop1 {N B : Env → Prop} {F : DEnds} : (loopE N B F).nx = N := id rfl
@[simp ↓] theorem s_loop2 {N B : Env → Prop} {F : DEnds} : (loopE N B F).rt = F.rt := id rfl
@[simp ↓] theorem s_loop3 {N B : Env → Prop} {F : DEnds} : (loopE N B F).bk = B := id rfl
@[simp ↓] theorem s_loop4 {N B : Env → Prop} {F : DEnds} : (loopE N B F).ct = N := id rfl
@[simp ↓] theorem s_loop5 {N B : Env → Prop} {F : DEnds} : (loopE N B F).ex = F.ex := id rfl
@[simp] theorem s_hide0 : hideE [] = [] := id rfl
@[simp] theorem s_hide1 {s : Sl} {δ : Env} : hideE (s :: δ) = hideS s :: hideE δ := id rfl
@[simp] theorem s_hideS1 : hideS .un = .un := id rfl
@[simp] theorem s_hideS2 {d : D} : hideS (.val d) = .val d := id rfl
@[simp] theorem s_hideS3 {d : List D} : hideS (.own d) = .lent d := id rfl
@[simp] theorem s_hideS4 {d : List D} : hideS (.lent d) = .lent d := id rfl
/-! operations -/
section
variable {P : Op → Prop} {t : Tg P}
def opT (ρ : D2) (a b : D) (P : Op → Prop) (_ : Tg P) : Prop := ρ a b P
def unT (ρ : D1) (a : D) (P : Op → Prop) (_ : Tg P) : Prop := ρ a P
def slT (a : D) (lo hi : Option Int) (P : Op → Prop) (_ : Tg P) : Prop := slR a lo hi P
def l3T (a b c : D) (P : Op → Prop) (_ : Tg P) : Prop := lrg3K a b c P
@[simp ↓] theorem s_addR0 {i j : Int} : opT addR (.int i) (.int j) P t = (P (.v (.int (i + j)))) := id rfl
@[simp ↓] theorem s_addR1 {i j : Str} : opT addR (.str i) (.str j) P t = (i.length + j.length ≤ 16777216 ∧ P (.v (.str (i ++ j)))) := id rfl
@[simp ↓] theorem s_addR2 {i j : List D} : opT addR (.lst i) (.lst j) P t = (i.length + j.length ≤ 16777216 ∧ P (.n (i ++ j))) := id rfl
@[simp ↓] theorem s_addR3 {i j : List D} : opT addR (.tup i) (.tup j) P t = (i.length + j.length ≤ 16777216 ∧ P (.v (.tup (i ++ j)))) := id rfl
@[simp ↓] theorem s_subR0 {i j : Int} : opT subR (.int i) (.int j) P t = (P (.v (.int (i - j)))) := id rfl
@[simp ↓] theorem s_mulR0 {i j : Int} : opT mulR (.int i) (.int j) P t = (mulOk i j ∧ P (.v (.int (i * j)))) := id rfl
@[simp ↓] theorem s_mulR1 {a : List D} {k : Int} : opT mulR (.lst a) (.int k) P t = ((k < 16777217 ∧ -16777216 ≤ k ∧ a.length * k.toNat ≤ 16777216) ∧ P (.n (List.replicate k.toNat a).flatten)) := id rfl
@[simp ↓] theorem s_mulR2 {a : List D} {k : Int} : opT mulR (.tup a) (.int k) P t = ((a ≠ [] ∧ 2 ≤ k ∧ k ≤ 1000 ∧ a.length ≤ 1000) ∧ P (.v (.tup (List.replicate k.toNat a).flatten))) := id rfl
@[simp ↓] theorem s_divR0 {i j : Int} : opT divR (.int i) (.int j) P t = ((0 < j ∧ j.natAbs.log2 < 9000) ∧ P (.v (.int (i / j)))) := id rfl
@[simp ↓] theorem s_modR0 {i j : Int} : opT modR (.int i) (.int j) P t = (0 < j ∧ P (.v (.int (i % j)))) := id rfl
@[simp ↓] theorem s_powR0 {i j : Int} : opT powR (.int i) (.int j) P t = ((0 ≤ j ∧ j ≤ 1000000 ∧ i.natAbs < 2 ^ 64) ∧ P (.v (.int (i ^ j.toNat)))) := id rfl
@[simp ↓] theorem s_shlR0 {i j : Int} : opT shlR (.int i) (.int j) P t = ((0 ≤ j ∧ j ≤ 1000000 ∧ i.natAbs < 2 ^ 64) ∧ P (.v (.int (i * 2 ^ j.toNat)))) := id rfl
@[simp ↓] theorem s_ltR {i j : Int} : opT ltR (.int i) (.int j) P t = P (.v (.bl (decide (i < j)))) := by simp [opT, ltR, cmpR, intC, intF]
@[simp ↓] theorem s_leR {i j : Int} : opT leR (.int i) (.int j) P t = P (.v (.bl (decide (i ≤ j)))) := by simp [opT, leR, cmpR, intC, intF]
@[simp ↓] theorem s_gtR {i j : Int} : opT gtR (.int i) (.int j) P t = P (.v (.bl (decide (j < i)))) := by simp [opT, gtR, cmpR, intC, intF]
@[simp ↓] theorem s_geR {i j : Int} : opT geR (.int i) (.int j) P t = P (.v (.bl (decide (j ≤ i)))) := by simp [opT, geR, cmpR, intC, intF]
@[simp ↓] theorem s_eqIR {i j : Int} : opT eqIR (.int i) (.int j) P t = P (.v (.bl (decide (i = j)))) := by simp [opT, eqIR, cmpR, intC, intF]
@[simp ↓] theorem s_eqR {a b : D} : opT eqR a b P t = (eqC a b ∧ P (.v (.bl (eqD a b)))) := id rfl
@[simp ↓] theorem s_neR {a b : D} : opT neR a b P t = (eqC a b ∧ P (.v (.bl (neD a b)))) := id rfl
@[simp ↓] theorem s_isR {a b : D} : opT isR a b P t = (isC a b ∧ P (.v (.bl (isF a b)))) := id rfl
@[simp ↓] theorem s_isnR {a b : D} : opT isnR a b P t = (isC a b ∧ P (.v (.bl (notF a b)))) := id rfl
@[simp ↓] theorem s_inR {a b : D} : opT inR a b P t = (inC a b ∧ P (.v (.bl (inF a b)))) := id rfl
@[simp ↓] theorem s_ninR {a b : D} : opT ninR a b P t = (inC a b ∧ P (.v (.bl (ninF a b)))) := id rfl
@[simp] theorem s_intC {i j : Int} : intC (.int i) (.int j) = True := id rfl
@[simp] theorem s_intF {f : Int → Int → Bool} {i j : Int} : intF f (.int i) (.int j) = f i j := id rfl
@[simp] theorem s_eqC_ii {i j : Int} : eqC (.int i) (.int j) = True := by simp [eqC, okD]
@[simp] theorem s_eqC_bb {i j : Bool} : eqC (.bl i) (.bl j) = True := by simp [eqC, okD]
@[simp] theorem s_eqD_ii {i j : Int} : eqD (.int i) (.int j) = decide (i = j) := by
  rw [Bool.eq_iff_iff]; simp [eqD]
@[simp] theorem s_eqD_bb {i j : Bool} : eqD (.bl i) (.bl j) = (i == j) := id rfl
@[simp] theorem s_neD_ii {i j : Int} : neD (.int i) (.int j) = !decide (i = j) := by simp [neD]
@[simp] theorem s_neD_bb {i j : Bool} : neD (.bl i) (.bl j) = !(i == j) := by simp [neD]
@[simp] theorem s_isC1 {d : D} : isC d .non = True := id rfl
@[simp] theorem s_isC2 {b c : Bool} : isC (.bl b) (.bl c) = True := by simp [isC]
@[simp] theorem s_isF1 {d : D} : isF d .non = isNonD d := id rfl
@[simp] theorem s_isF2 {b c : Bool} : isF (.bl b) (.bl c) = decide (b = c) := id rfl
@[simp] theorem s_notF1 {d : D} : notF d .non = !isNonD d := id rfl
@[simp] theorem s_notF2 {b c : Bool} : notF (.bl b) (.bl c) = !decide (b = c) := id rfl
@[simp] theorem s_isN0 : isNonD .non = true := id rfl
@[simp] theorem s_isN1 {i : Int} : isNonD (.int i) = false := id rfl
@[simp] theorem s_isN2 {i : Bool} : isNonD (.bl i) = false := id rfl
@[simp] theorem s_isN3 {i : Str} : isNonD (.str i) = false := id rfl
@[simp] theorem s_isN4 {i : List D} : isNonD (.tup i) = false := id rfl
@[simp] theorem s_isN5 {i : List D} : isNonD (.lst i) = false := id rfl
@[simp ↓] theorem s_isiR {ts : List Ty} {a : D} : unT (isiR ts) a P t = (okTy a ∧ P (.v (.bl (ts.any fun t => isT t a)))) := id rfl
@[simp] theorem s_okTy0 : okTy .non = True := id rfl
@[simp] theorem s_okTy1 {i : Int} : okTy (.int i) = True := id rfl
@[simp] theorem s_okTy2 {i : Bool} : okTy (.bl i) = True := id rfl
@[simp] theorem s_okTy3 {i : Str} : okTy (.str i) = True := id rfl
@[simp] theorem s_okTy4 {i : List D} : okTy (.tup i) = True := id rfl
@[simp] theorem s_okTy5 {i : List D} : okTy (.lst i) = True := id rfl
@[simp] theorem s_okTy6 {i : List (Key × D)} : okTy (.dic i) = True := id rfl
@[simp] theorem s_isT_int0  : isT .int .non = false := id rfl
@[simp] theorem s_isT_int1 {i : Int} : isT .int (.int i) = true := id rfl
@[simp] theorem s_isT_int2 {i : Bool} : isT .int (.bl i) = true := id rfl
@[simp] theorem s_isT_int3 {i : Str} : isT .int (.str i) = false := id rfl
@[simp] theorem s_isT_int4 {i : List D} : isT .int (.tup i) = false := id rfl
@[simp] theorem s_isT_int5 {i : List D} : isT .int (.lst i) = false := id rfl
@[simp] theorem s_isT_int6 {i : List (Key × D)} : isT .int (.dic i) = false := id rfl
@[simp] theorem s_isT_bl0  : isT .bl .non = false := id rfl
@[simp] theorem s_isT_bl1 {i : Int} : isT .bl (.int i) = false := id rfl
@[simp] theorem s_isT_bl2 {i : Bool} : isT .bl (.bl i) = true := id rfl
@[simp] theorem s_isT_bl3 {i : Str} : isT .bl (.str i) = false := id rfl
@[simp] theorem s_isT_bl4 {i : List D} : isT .bl (.tup i) = false := id rfl
@[simp] theorem s_isT_bl5 {i : List D} : isT .bl (.lst i) = false := id rfl
@[simp] theorem s_isT_bl6 {i : List (Key × D)} : isT .bl (.dic i) = false := id rfl
@[simp] theorem s_isT_str0  : isT .str .non = false := id rfl
@[simp] theorem s_isT_str1 {i : Int} : isT .str (.int i) = false := id rfl
@[simp] theorem s_isT_str2 {i : Bool} : isT .str (.bl i) = false := id rfl
@[simp] theorem s_isT_str3 {i : Str} : isT .str (.str i) = true := id rfl
@[simp] theorem s_isT_str4 {i : List D} : isT .str (.tup i) = false := id rfl
@[simp] theorem s_isT_str5 {i : List D} : isT .str (.lst i) = false := id rfl
@[simp] theorem s_isT_str6 {i : List (Key × D)} : isT .str (.dic i) = false := id rfl
@[simp] theorem s_isT_tup0  : isT .tup .non = false := id rfl
@[simp] theorem s_isT_tup1 {i : Int} : isT .tup (.int i) = false := id rfl
@[simp] theorem s_isT_tup2 {i : Bool} : isT .tup (.bl i) = false := id rfl
@[simp] theorem s_isT_tup3 {i : Str} : isT .tup (.str i) = false := id rfl
@[simp] theorem s_isT_tup4 {i : List D} : isT .tup (.tup i) = true := id rfl
@[simp] theorem s_isT_tup5 {i : List D} : isT .tup (.lst i) = false := id rfl
@[simp] theorem s_isT_tup6 {i : List (Key × D)} : isT .tup (.dic i) = false := id rfl
@[simp] theorem s_isT_lst0  : isT .lst .non = false := id rfl
@[simp] theorem s_isT_lst1 {i : Int} : isT .lst (.int i) = false := id rfl
@[simp] theorem s_isT_lst2 {i : Bool} : isT .lst (.bl i) = false := id rfl
@[simp] theorem s_isT_lst3 {i : Str} : isT .lst (.str i) = false := id rfl
@[simp] theorem s_isT_lst4 {i : List D} : isT .lst (.tup i) = false := id rfl
@[simp] theorem s_isT_lst5 {i : List D} : isT .lst (.lst i) = true := id rfl
@[simp] theorem s_isT_lst6 {i : List (Key × D)} : isT .lst (.dic i) = false := id rfl
@[simp] theorem s_isT_dic0  : isT .dic .non = false := id rfl
@[simp] theorem s_isT_dic1 {i : Int} : isT .dic (.int i) = false := id rfl
@[simp] theorem s_isT_dic2 {i : Bool} : isT .dic (.bl i) = false := id rfl
@[simp] theorem s_isT_dic3 {i : Str} : isT .dic (.str i) = false := id rfl
@[simp] theorem s_isT_dic4 {i : List D} : isT .dic (.tup i) = false := id rfl
@[simp] theorem s_isT_dic5 {i : List D} : isT .dic (.lst i) = false := id rfl
@[simp] theorem s_isT_dic6 {i : List (Key × D)} : isT .dic (.dic i) = true := id rfl
@[simp ↓] theorem s_negR0 {i : Int} : unT negR (.int i) P t = (P (.v (.int (-i)))) := id rfl
@[simp ↓] theorem s_absR0 {i : Int} : unT absR (.int i) P t = (P (.v (.int (if i < 0 then -i else i)))) := id rfl
@[simp ↓] theorem s_lenR0 {i : List D} : unT lenR (.lst i) P t = (P (.v (.int i.length))) := id rfl
@[simp ↓] theorem s_lenR1 {i : List D} : unT lenR (.tup i) P t = (P (.v (.int i.length))) := id rfl
@[simp ↓] theorem s_lenR2 {z : Str} : unT lenR (.str z) P t = (z.length ≤ 16777216 ∧ P (.v (.int z.length))) := id rfl
@[simp ↓] theorem s_toIntR0 {i : Int} : unT toIntR (.int i) P t = (P (.v (.int i))) := id rfl
@[simp ↓] theorem s_toIntR1 {b : Bool} : unT toIntR (.bl b) P t = (P (.v (.int (if b = true then 1 else 0)))) := id rfl
@[simp ↓] theorem s_toLstR0 {i : List D} : unT toLstR (.lst i) P t = (P (.n i)) := id rfl
@[simp ↓] theorem s_toLstR1 {i : List D} : unT toLstR (.tup i) P t = (P (.n i)) := id rfl
@[simp ↓] theorem s_toTupR0 {i : List D} : unT toTupR (.lst i) P t = (P (.v (.tup i))) := id rfl
@[simp ↓] theorem s_toTupR1 {i : List D} : unT toTupR (.tup i) P t = (P (.v (.tup i))) := id rfl
@[simp ↓] theorem s_revR0 {i : List D} : unT revR (.lst i) P t = (P (.n i.reverse)) := id rfl
@[simp ↓] theorem s_sumR0 {i : List D} : unT sumR (.lst i) P t = (∃ ns : List Int, i = ns.map D.int ∧ P (.v (.int ns.sum))) := id rfl
@[simp ↓] theorem s_sortR0 {i : List D} : unT sortR (.lst i) P t = (∃ ns : List Int, i = ns.map D.int ∧ P (.n ((srt ns).map D.int))) := id rfl
@[simp ↓] theorem s_maxR0 {i : List D} : unT maxR (.lst i) P t = (∃ ns : List Int, i = ns.map D.int ∧ 0 < ns.length ∧ ∀ m, m ∈ ns → (∀ y, y ∈ ns → y ≤ m) → P (.v (.int m))) := id rfl
@[simp ↓] theorem s_minR0 {i : List D} : unT minR (.lst i) P t = (∃ ns : List Int, i = ns.map D.int ∧ 0 < ns.length ∧ ∀ m, m ∈ ns → (∀ y, y ∈ ns → m ≤ y) → P (.v (.int m))) := id rfl
@[simp ↓] theorem s_max2R0 {i j : Int} : opT max2R (.int i) (.int j) P t = (P (.v (.int (if j > i then j else i)))) := id rfl
@[simp ↓] theorem s_min2R0 {i j : Int} : opT min2R (.int i) (.int j) P t = (P (.v (.int (if j < i then j else i)))) := id rfl
@[simp ↓] theorem s_allR0 {i : List D} : unT allR (.lst i) P t = (∃ bs : List Bool, i = bs.map D.bl ∧ P (.v (.bl (bs.all id)))) := id rfl
@[simp ↓] theorem s_anyR0 {i : List D} : unT anyR (.lst i) P t = (∃ bs : List Bool, i = bs.map D.bl ∧ P (.v (.bl (bs.any id)))) := id rfl
@[simp ↓] theorem s_lrg1R0 {n : Int} : unT lrg1R (.int n) P t = (n ≤ 16777216 ∧ 0 ≤ n ∧ P (.n (rgD 0 n.toNat))) := id rfl
@[simp ↓] theorem s_lrg2R0 {i j : Int} : opT lrg2R (.int i) (.int j) P t = ((0 ≤ i ∧ i ≤ 16777216 ∧ 0 ≤ j ∧ j ≤ 16777216) ∧ P (.n (rgD i (j - i).toNat))) := id rfl
@[simp ↓] theorem s_ixR0 {ds : List D} {i : Int} : opT ixR (.lst ds) (.int i) P t = (∃ d, atD ds i = some d ∧ P (.v d)) := id rfl
@[simp ↓] theorem s_ixR1 {ds : List D} {i : Int} : opT ixR (.tup ds) (.int i) P t = (∃ d, atD ds i = some d ∧ P (.v d)) := id rfl
@[simp ↓] theorem s_ixR2 {z : Str} {i : Int} : opT ixR (.str z) (.int i) P t = (∃ c, z.length ≤ 16777216 ∧ atI z.cps.toList i = some c ∧ P (.v (.str ⟨#[c]⟩))) := id rfl
@[simp ↓] theorem s_slR1 {ds : List D} {lo hi : Option Int} : slT (.lst ds) lo hi P t = P (.n (cutD ds lo hi)) := id rfl
@[simp ↓] theorem s_slR2 {ds : List D} {lo hi : Option Int} : slT (.tup ds) lo hi P t = P (.v (.tup (cutD ds lo hi))) := id rfl
@[simp ↓] theorem s_slR3 {z : Str} {lo hi : Option Int} : slT (.str z) lo hi P t = (z.length ≤ 16777216 ∧ P (.v (.str (cutS z lo hi)))) := id rfl
end
section
variable {P : D → List D → Prop} {ds : List D} {t : Tg P}
def mtT (ρ : DM) (ds as : List D) (P : D → List D → Prop) (_ : Tg P) : Prop := ρ ds as P
@[simp ↓] theorem s_appR0 {d : D} : mtT appR ds [d] P t = (ds.length < 16777216 ∧ P .non (ds ++ [d])) := id rfl
@[simp ↓] theorem s_extR0 {zs : List D} : mtT extR ds [.lst zs] P t = (ds.length + zs.length ≤ 16777216 ∧ P .non (ds ++ zs)) := id rfl
@[simp ↓] theorem s_popR0  : mtT popR ds [] P t = (∃ d, ds[ds.length - 1]? = some d ∧ P d ds.dropLast) := id rfl
@[simp ↓] theorem s_sortM0  : mtT sortM ds [] P t = (∃ ns : List Int, ds = ns.map D.int ∧ P .non ((srt ns).map D.int)) := id rfl
@[simp ↓] theorem s_insR0 {i : Int} {d : D} : mtT insR ds [.int i, d] P t = ((ds.length < 16777216 ∧ 0 ≤ i ∧ i < 2 ^ 63) ∧ P .non (ds.take i.toNat ++ [d] ++ ds.drop i.toNat)) := id rfl
@[simp ↓] theorem s_cntR0 {d : D} : mtT cntR ds [d] P t = ((flatD d = true ∧ ds.all flatD = true) ∧ P (.int ((ds.countP fun z => eqD z d : Nat) : Int)) ds) := id rfl
@[simp ↓] theorem s_idxR0 {d : D} : mtT idxR ds [d] P t = ((flatD d = true ∧ ds.all flatD = true) ∧ (ds.findIdx fun z => eqD z d) < ds.length ∧ P (.int ((ds.findIdx fun z => eqD z d : Nat) : Int)) ds) := id rfl
@[simp ↓] theorem s_popAtR0 {i : Int} : mtT popAtR ds [.int i] P t = ((-(2 ^ 63) ≤ i ∧ i < 2 ^ 63) ∧ ∃ k d, seqIndex? i ds.length = some k ∧ ds[k]? = some d ∧ P d (ds.eraseIdx k)) := id rfl
end
section
variable {Z : Ex → Prop} {δ δ' : Env} {F : DEnds}
@[simp ↓] theorem s_xC {d : D} {Q : Op → Env → Prop} : xC d Z δ Q = (Q (.v d) δ) := id rfl
@[simp ↓] theorem s_xVar {i : Nat} {Q : Op → Env → Prop} : xVar i Z δ Q = (slAt i δ (fun s => vrS s i δ Q ⟨⟩) ⟨⟩) := by
  unfold xVar slAt vrS
  cases h : δ[i]? with
  | none => rfl
  | some s => cases s <;> rfl
@[simp ↓] theorem s_xMov {i : Nat} {Q : Op → Env → Prop} : xMov i Z δ Q = (slAt i δ (fun s => mvS s i δ Q ⟨⟩) ⟨⟩) := by
  unfold xMov slAt mvS
  cases h : δ[i]? with
  | none => rfl
  | some s => cases s <;> rfl
@[simp ↓] theorem s_xOp {ρ : D2} {a b : DT} {Q : Op → Env → Prop} : xOp ρ a b Z δ Q = (a Z δ fun o1 δ1 => b Z δ1 fun o2 δ2 => rdT o1 δ2 (fun d1 => rdT o2 δ2 (fun d2 => opT ρ d1 d2 (fun o => Q o δ2) ⟨⟩) ⟨⟩) ⟨⟩) := id rfl
@[simp ↓] theorem s_xUn {ρ : D1} {a : DT} {Q : Op → Env → Prop} : xUn ρ a Z δ Q = (a Z δ fun o δ1 => rdT o δ1 (fun d => unT ρ d (fun o => Q o δ1) ⟨⟩) ⟨⟩) := id rfl
@[simp ↓] theorem s_xTru {a : DT} {Q : Bool → Env → Prop} : xTru a Z δ Q = (a Z δ fun o δ1 => rdT o δ1 (fun d => truT d (fun b => Q b δ1) ⟨⟩) ⟨⟩) := id rfl
@[simp ↓] theorem s_xNot {a : DTT} {Q : Bool → Env → Prop} : xNot a Z δ Q = (a Z δ fun b δ1 => Q (!b) δ1) := id rfl
@[simp ↓] theorem s_xAnd {a b : DTT} {Q : Bool → Env → Prop} : xAnd a b Z δ Q = (a Z δ fun c δ1 => brK c (b Z δ1 Q) (Q false δ1) ⟨⟩) := id rfl
@[simp ↓] theorem s_xOr {a b : DTT} {Q : Bool → Env → Prop} : xOr a b Z δ Q = (a Z δ fun c δ1 => brK c (Q true δ1) (b Z δ1 Q) ⟨⟩) := id rfl
@[simp ↓] theorem s_xYes  {Q : Bool → Env → Prop} : xYes  Z δ Q = (Q true δ) := id rfl
@[simp ↓] theorem s_xAndV {a b : DT} {Q : Op → Env → Prop} : xAndV a b Z δ Q = (a Z δ fun o δ1 => rdT o δ1 (fun d => blK d (fun c => brK c (b Z δ1 Q) (Q (.v (.bl false)) δ1) ⟨⟩) ⟨⟩) ⟨⟩) := by
  unfold xAndV
  refine congrArg _ (funext fun o => funext fun δ1 => congrArg _ (funext fun d => ?_))
  cases d <;> rfl
@[simp ↓] theorem s_xOrV {a b : DT} {Q : Op → Env → Prop} : xOrV a b Z δ Q = (a Z δ fun o δ1 => rdT o δ1 (fun d => blK d (fun c => brK c (Q (.v (.bl true)) δ1) (b Z δ1 Q) ⟨⟩) ⟨⟩) ⟨⟩) := by
  unfold xOrV
  refine congrArg _ (funext fun o => funext fun δ1 => congrArg _ (funext fun d => ?_))
  cases d <;> rfl
@[simp ↓] theorem s_xNotV {a : DT} {Q : Op → Env → Prop} : xNotV a Z δ Q = (a Z δ fun o δ1 => rdT o δ1 (fun d => blK d (fun c => Q (.v (.bl (!c))) δ1) ⟨⟩) ⟨⟩) := by
  unfold xNotV
  refine congrArg _ (funext fun o => funext fun δ1 => congrArg _ (funext fun d => ?_))
  cases d <;> rfl
@[simp ↓] theorem s_xIfE {c : DTT} {a b : DT} {Q : Op → Env → Prop} : xIfE c a b Z δ Q = (c Z δ fun k δ1 => brK k (a Z δ1 Q) (b Z δ1 Q) ⟨⟩) := id rfl
@[simp ↓] theorem s_xChain {C C' : D → D → Prop} {f f' : D → D → Bool} {a b c : DT} {Q : Op → Env → Prop} : xChain C C' f f' a b c Z δ Q = (a Z δ fun o1 δ1 => b Z δ1 fun o2 δ2 => rdT o1 δ2 (fun d1 => rdT o2 δ2 (fun d2 => C d1 d2 ∧ brK (f d1 d2) (c Z δ2 fun o3 δ3 => rdT o2 δ3 (fun d2 => rdT o3 δ3 (fun d3 => C' d2 d3 ∧ Q (.v (.bl (f' d2 d3))) δ3) ⟨⟩) ⟨⟩) (Q (.v (.bl false)) δ2) ⟨⟩) ⟨⟩) ⟨⟩) := id rfl
@[simp ↓] theorem s_xNilA  {Q : List Op → Env → Prop} : xNilA  Z δ Q = (Q [] δ) := id rfl
@[simp ↓] theorem s_xConsA {a : DT} {s : DTA} {Q : List Op → Env → Prop} : xConsA a s Z δ Q = (a Z δ fun o δ1 => s Z δ1 fun os δ2 => Q (o :: os) δ2) := id rfl
@[simp ↓] theorem s_xTup {s : DTA} {Q : Op → Env → Prop} : xTup s Z δ Q = (s Z δ fun os δ1 => kpLT os (fun ds => ds.length ≤ 16777216 ∧ Q (.v (.tup ds)) δ1) ⟨⟩) := id rfl
@[simp ↓] theorem s_xLst {s : DTA} {Q : Op → Env → Prop} : xLst s Z δ Q = (s Z δ fun os δ1 => kpLT os (fun ds => ds.length ≤ 16777216 ∧ Q (.n ds) δ1) ⟨⟩) := id rfl
@[simp ↓] theorem s_xCall {φ : FSp} {s : DTA} {Q : Op → Env → Prop} : xCall φ s Z δ Q = (s Z δ fun os δ1 => kpLT os (fun ds => call φ ds (fun d => Q (.v d) δ1) Z ⟨⟩) ⟨⟩) := id rfl
def rdLT (os : List Op) (δ : Env) (k : List D → Prop) (_ : Tg k) : Prop := rdLK os δ k
@[simp ↓] theorem s_rdLK0 {k : List D → Prop} {t : Tg k} : rdLT [] δ k t = k [] := id rfl
@[simp ↓] theorem s_rdLK1 {o : Op} {os : List Op} {k : List D → Prop} {t : Tg k} : rdLT (o :: os) δ k t = rdT o δ (fun d => rdLT os δ (fun ds => k (d :: ds)) ⟨⟩) ⟨⟩ := by
  unfold rdLT rdLK rdT rdK
  rw [rdL]
  cases h : rd o δ with
  | none => rfl
  | some d => cases h2 : rdL δ os <;> simp [h2]
@[simp ↓] theorem s_xCallF {φ : FSp} {s : DTA} {Q : Op → Env → Prop} : xCallF φ s Z δ Q = (s Z δ fun os δ1 => rdLT os δ1 (fun ds => call φ ds (fun d => flatD d = true ∧ Q (.v d) δ1) (fun x => x.fld = none ∧ Z x) ⟨⟩) ⟨⟩) := id rfl
@[simp ↓] theorem s_xMt {i : Nat} {ρ : DM} {s : DTA} {Q : Op → Env → Prop} : xMt i ρ s Z δ Q = (slAt i δ (fun s0 => owS s0 (fun _ => s Z δ fun os δ1 => kpLT os (fun as => slAt i δ1 (fun s1 => owS s1 (fun ds => mtT ρ ds as (fun d ds' => Q (.v d) (δ1.set i (.own ds'))) ⟨⟩) ⟨⟩) ⟨⟩) ⟨⟩) ⟨⟩) ⟨⟩) := by
  unfold xMt
  rw [ownK_at]
  refine congrArg (fun k => slAt i δ k ⟨⟩) (funext fun s0 => congrArg (fun k => owS s0 k ⟨⟩) (funext fun _ => congrArg _ (funext fun os => funext fun δ1 => congrArg (kpLK os) (funext fun as => ?_))))
  exact ownK_at
@[simp ↓] theorem s_xLc {ι : DIt} {γ : DTg} {θ : DTT} {τ : DT} {vs : List Nat} {Q : Op → Env → Prop} : xLc ι γ θ τ vs Z δ Q = (ι Z δ fun ds l δ1 => ds.length ≤ 16777216 ∧ (vs.all fun i => match δ1[i]? with
    | some s => plainSl s
    | none => true) = true ∧ lcW γ θ τ vs (fun acc δ2 => Q (.n acc) (un l (restE δ1 vs δ2))) ds (wipeE vs δ1) [] ⟨⟩) := rfl
@[simp ↓] theorem s_xSl0 {a : DT} {Q : Op → Env → Prop} : xSl0 a Z δ Q = (a Z δ fun o δ1 => rdT o δ1 (fun d => slT d none none (fun o => Q o δ1) ⟨⟩) ⟨⟩) := id rfl
@[simp ↓] theorem s_xSlL {a b : DT} {Q : Op → Env → Prop} : xSlL a b Z δ Q = (a Z δ fun o1 δ1 => b Z δ1 fun o2 δ2 => rdT o1 δ2 (fun d1 => rdT o2 δ2 (fun d2 => isI d2 (fun i => slT d1 (some i) none (fun o => Q o δ2) ⟨⟩) ⟨⟩) ⟨⟩) ⟨⟩) := by
  unfold xSlL xOp
  refine congrArg _ (funext fun o1 => funext fun δ1 => congrArg _ (funext fun o2 => funext fun δ2 => congrArg _ (funext fun d1 => congrArg _ (funext fun d2 => ?_))))
  cases d2 <;> rfl
@[simp ↓] theorem s_xSlH {a b : DT} {Q : Op → Env → Prop} : xSlH a b Z δ Q = (a Z δ fun o1 δ1 => b Z δ1 fun o2 δ2 => rdT o1 δ2 (fun d1 => rdT o2 δ2 (fun d2 => isI d2 (fun i => slT d1 none (some i) (fun o => Q o δ2) ⟨⟩) ⟨⟩) ⟨⟩) ⟨⟩) := by
  unfold xSlH xOp
  refine congrArg _ (funext fun o1 => funext fun δ1 => congrArg _ (funext fun o2 => funext fun δ2 => congrArg _ (funext fun d1 => congrArg _ (funext fun d2 => ?_))))
  cases d2 <;> rfl
@[simp ↓] theorem s_xSlB {a b c : DT} {Q : Op → Env → Prop} : xSlB a b c Z δ Q = (a Z δ fun o δ1 => b Z δ1 fun o1 δ2 => intT o1 (fun i => c Z δ2 fun o2 δ3 => intT o2 (fun j => rdT o δ3 (fun d => slT d (some i) (some j) (fun o => Q o δ3) ⟨⟩) ⟨⟩) ⟨⟩) ⟨⟩) := id rfl
@[simp ↓] theorem s_xLrg3 {a b c : DT} {Q : Op → Env → Prop} : xLrg3 a b c Z δ Q = (a Z δ fun o δ1 => b Z δ1 fun o' δ2 => c Z δ2 fun o'' δ3 => rdT o δ3 (fun d => rdT o' δ3 (fun d' => rdT o'' δ3 (fun d'' => isI d (fun i => isI d' (fun j => isI d'' (fun c => ∃ n : Nat, RgC i j c n ∧ n ≤ 16777216 ∧ Q (.n (rgC i c n)) δ3) ⟨⟩) ⟨⟩) ⟨⟩) ⟨⟩) ⟨⟩) ⟨⟩) := by
  unfold xLrg3
  refine congrArg _ (funext fun o => funext fun δ1 => congrArg _ (funext fun o' => funext fun δ2 => congrArg _ (funext fun o'' => funext fun δ3 => congrArg _ (funext fun d => congrArg _ (funext fun d' => congrArg _ (funext fun d'' => ?_))))))
  cases d <;> cases d' <;> cases d'' <;> rfl
@[simp ↓] theorem s_xHear {R : Addr → Option D} {l : D} {a : DT} {Q : Op → Env → Prop} : xHear R l a Z δ Q = ((flatD l = true ∧ ∀ C w, R C = some w → flatD w = true) ∧ a (fun x => x.fld = none ∧ ∃ w, R x.cls = some w ∧ Q (.v w) δ) (hideE δ) fun _ _ => Q (.v l) δ) := id rfl
@[simp ↓] theorem s_xDic0  {Q : Op → Env → Prop} : xDic0  Z δ Q = (Q (.nd []) δ) := id rfl
@[simp ↓] theorem s_xCallL {i : Nat} {R : Addr → Option FSp} {s : DTA} {Q : Op → Env → Prop} : xCallL i R s Z δ Q = (slAt i δ (fun sl => rfS sl (fun f => optK (R f) (fun φ => xCall φ s Z δ Q) ⟨⟩) ⟨⟩) ⟨⟩) := by
  unfold xCallL slAt rfS
  cases h : δ[i]? with
  | none => rfl
  | some s => cases s <;> first | rfl | (rename_i d; cases d <;> first | rfl | (rename_i f; simp only [optK]; split <;> simp_all))
@[simp ↓] theorem s_xIsE {i : Nat} {a : Addr} {b : Bool} {Q : Op → Env → Prop} : xIsE i a b Z δ Q = (slAt i δ (fun sl => rfS sl (fun a' => a' = a ∧ Q (.v (.bl b)) δ) ⟨⟩) ⟨⟩) := by
  unfold xIsE slAt rfS
  cases h : δ[i]? with
  | none => rfl
  | some s => cases s <;> first | rfl | (rename_i d; cases d <;> first | rfl | (rename_i f; simp only [optK]; split <;> simp_all))
@[simp ↓] theorem s_xScr {i : Nat} {a : Addr} {ns : List Int} {k : Int} {Q : Op → Env → Prop} : xScr i a ns k Z δ Q = (slAt i δ (fun sl => rfS sl (fun b => b = a ∧ Q (.n (cutD (ns.map .int) none (some k))) δ) ⟨⟩) ⟨⟩) := by
  unfold xScr slAt rfS
  cases h : δ[i]? with
  | none => rfl
  | some s => cases s <;> first | rfl | (rename_i d; cases d <;> first | rfl | (rename_i f; simp only [optK]; split <;> simp_all))
def itT (o : Op) (δ : Env) (k : Option Nat → Env → Prop) (_ : Tg k) : Prop := lendK o δ k
section
variable {k : Option Nat → Env → Prop} {t : Tg k}
@[simp ↓] theorem s_itT1 {d : D} : itT (.v d) δ k t = k none δ := id rfl
@[simp ↓] theorem s_itT2 {d : List D} : itT (.n d) δ k t = k none δ := id rfl
def liT (s : Option Sl) (i : Nat) (δ : Env) (k : Option Nat → Env → Prop) (_ : Tg k) : Prop := match s with
  | some (.own ds) => k (some i) (δ.set i (.lent ds))
  | _ => k none δ
@[simp] theorem s_liT1 {ds : List D} {i : Nat} : liT (some (.own ds)) i δ k t = k (some i) (δ.set i (.lent ds)) := id rfl
@[simp] theorem s_liT2 {d : D} {i : Nat} : liT (some (.val d)) i δ k t = k none δ := id rfl
@[simp] theorem s_liT3 {ds : List D} {i : Nat} : liT (some (.lent ds)) i δ k t = k none δ := id rfl
@[simp ↓] theorem s_itT3 {i : Nat} : itT (.b i) δ k t = liT (δ[i]?) i δ k ⟨⟩ := by
  unfold itT lendK liT
  cases h : δ[i]? with
  | none => simp [h]
  | some s => cases s <;> simp [h]
end
@[simp ↓] theorem s_xIt {f : List D → List D} {a : DT} {Q : List D → Option Nat → Env → Prop} : xIt f a Z δ Q = (a Z δ fun o δ1 => rdT o δ1 (fun d => optK (itemsOf d) (fun ds => itT o δ1 (fun l δ2 => Q (f ds) l δ2) ⟨⟩) ⟨⟩) ⟨⟩) := by
  unfold xIt
  refine congrArg _ (funext fun o => funext fun δ1 => congrArg _ (funext fun d => ?_))
  cases itemsOf d <;> rfl
@[simp ↓] theorem s_xItL {f : List D → List D} {a : DT} {Q : List D → Option Nat → Env → Prop} : xItL f a Z δ Q = (a Z δ fun o δ1 => rdT o δ1 (fun d => lsK d (fun ds => itT o δ1 (fun l δ2 => Q (f ds) l δ2) ⟨⟩) ⟨⟩) ⟨⟩) := by
  unfold xItL
  refine congrArg _ (funext fun o => funext fun δ1 => congrArg _ (funext fun d => ?_))
  cases d <;> rfl
@[simp ↓] theorem s_xRg1 {a : DT} {Q : List D → Option Nat → Env → Prop} : xRg1 a Z δ Q = (a Z δ fun o δ1 => rdT o δ1 (fun d => isI d (fun j => Rg j ∧ Q (rgD 0 j.toNat) none δ1) ⟨⟩) ⟨⟩) := by
  unfold xRg1
  refine congrArg _ (funext fun o => funext fun δ1 => congrArg _ (funext fun d => ?_))
  cases d <;> rfl
@[simp ↓] theorem s_xRg2 {a b : DT} {Q : List D → Option Nat → Env → Prop} : xRg2 a b Z δ Q = (a Z δ fun o1 δ1 => b Z δ1 fun o2 δ2 => rdT o1 δ2 (fun d1 => rdT o2 δ2 (fun d2 => isI d1 (fun i => isI d2 (fun j => (Rg i ∧ Rg j) ∧ Q (rgD i (j - i).toNat) none δ2) ⟨⟩) ⟨⟩) ⟨⟩) ⟨⟩) := by
  unfold xRg2
  refine congrArg _ (funext fun o1 => funext fun δ1 => congrArg _ (funext fun o2 => funext fun δ2 => congrArg _ (funext fun d1 => congrArg _ (funext fun d2 => ?_))))
  cases d1 <;> cases d2 <;> rfl
@[simp ↓] theorem s_xRg3 {a b c : DT} {Q : List D → Option Nat → Env → Prop} : xRg3 a b c Z δ Q = (a Z δ fun o1 δ1 => b Z δ1 fun o2 δ2 => c Z δ2 fun o3 δ3 => rdT o1 δ3 (fun d1 => rdT o2 δ3 (fun d2 => rdT o3 δ3 (fun d3 => isI d1 (fun i => isI d2 (fun j => isI d3 (fun c => ∃ n, RgC i j c n ∧ Q (rgC i c n) none δ3) ⟨⟩) ⟨⟩) ⟨⟩) ⟨⟩) ⟨⟩) ⟨⟩) := by
  unfold xRg3
  refine congrArg _ (funext fun o1 => funext fun δ1 => congrArg _ (funext fun o2 => funext fun δ2 => congrArg _ (funext fun o3 => funext fun δ3 => congrArg _ (funext fun d1 => congrArg _ (funext fun d2 => congrArg _ (funext fun d3 => ?_))))))
  cases d1 <;> cases d2 <;> cases d3 <;> rfl
@[simp ↓] theorem s_xZip {s : DTA} {Q : List D → Option Nat → Env → Prop} : xZip s Z δ Q = (s Z δ fun os δ1 => kpLT os (fun as => zpK as (fun ds => Q ds none δ1) ⟨⟩) ⟨⟩) := by
  unfold xZip
  refine congrArg _ (funext fun os => funext fun δ1 => congrArg _ (funext fun as => ?_))
  unfold zpK
  split <;> simp_all
@[simp ↓] theorem s_xName0 {i : Nat} {d : D} {Q : Env → Prop} : xName i (.v d) δ Q = (Q (δ.set i (.val d))) := id rfl
@[simp ↓] theorem s_xName1 {i : Nat} {d : List D} {Q : Env → Prop} : xName i (.n d) δ Q = (Q (δ.set i (.own d))) := id rfl
@[simp ↓] theorem s_xName2 {i : Nat} {d : List (Key × D)} {Q : Env → Prop} : xName i (.nd d) δ Q = (Q (δ.set i (.ownD d))) := id rfl
@[simp ↓] theorem s_xName3 {i : Nat} {d : List (List Key × D)} {Q : Env → Prop} : xName i (.nt d) δ Q = (Q (δ.set i (.ownT d))) := id rfl
@[simp ↓] theorem s_xTupG0 {γs : List DTg} {ds : List D} {Q : Env → Prop} : xTupG γs (.v (.tup ds)) δ Q = (ds.length = γs.length ∧ gsE γs ds δ Q) := id rfl
@[simp ↓] theorem s_gsE0 {Q : Env → Prop} : gsE [] [] δ Q = Q δ := id rfl
@[simp ↓] theorem s_gsE1 {γ : DTg} {γs : List DTg} {d : D} {ds : List D} {Q : Env → Prop} : gsE (γ :: γs) (d :: ds) δ Q = γ (.v d) δ fun δ1 => gsE γs ds δ1 Q := id rfl
@[simp ↓] theorem s_putOps0 {Q : Env → Prop} : putOps [] [] δ Q = Q δ := id rfl
@[simp ↓] theorem s_putOps1 {i : Nat} {is : List Nat} {o : Op} {os : List Op} {Q : Env → Prop} : putOps (i :: is) (o :: os) δ Q = xName i o δ fun δ1 => putOps is os δ1 Q := id rfl
@[simp] theorem s_nbO1 {d : D} : nbO (.v d) = true := id rfl
@[simp] theorem s_nbO2 {d : List D} : nbO (.n d) = true := id rfl
@[simp] theorem s_nbO3 {i : Nat} : nbO (.b i) = false := id rfl
def setK (di : D) (ds : List D) (k : Nat → Prop) (_ : Tg k) : Prop := match di with
  | .int j => match ixN ds.length j with
    | some n => k n
    | none => False
  | _ => False
@[simp ↓] theorem s_setK {j : Int} {ds : List D} {k : Nat → Prop} {t : Tg k} : setK (.int j) ds k t = optK (ixN ds.length j) k ⟨⟩ := by
  show (match ixN ds.length j with
    | some n => k n
    | none => False) = optK _ k ⟨⟩
  unfold optK
  cases ixN ds.length j <;> rfl
@[simp ↓] theorem s_xSub {i : Nat} {a : DT} {o : Op} {Q : Env → Prop} : xSub i a o δ Q = kpT o (fun d => slAt i δ (fun s0 => owS s0 (fun _ => a (fun _ => False) δ fun oi δ1 => rdT oi δ1 (fun di => slAt i δ1 (fun s1 => owS s1 (fun ds => setK di ds (fun n => Q (δ1.set i (.own (ds.set n d)))) ⟨⟩) ⟨⟩) ⟨⟩) ⟨⟩) ⟨⟩) ⟨⟩) ⟨⟩ := by
  unfold xSub
  refine congrArg (kpK o) (funext fun d => ?_)
  rw [ownK_at]
  refine congrArg (fun k => slAt i δ k ⟨⟩) (funext fun s0 => congrArg (fun k => owS s0 k ⟨⟩) (funext fun _ => congrArg _ (funext fun oi => funext fun δ1 => congrArg (rdK oi δ1) (funext fun di => ?_))))
  rw [ownK_at]
  refine congrArg (fun k => slAt i δ1 k ⟨⟩) (funext fun s1 => congrArg (fun k => owS s1 k ⟨⟩) (funext fun ds => ?_))
  cases di <;> first | rfl | (simp only [setK]; cases ixN ds.length _ <;> rfl)
@[simp ↓] theorem s_xNext  : xNext  F δ = (F.nx δ) := id rfl
@[simp ↓] theorem s_xSeq {a b : DSt} : xSeq a b F δ = (a { F with nx := b F } δ) := id rfl
@[simp ↓] theorem s_xDrop {a : DT} : xDrop a F δ = (a F.ex δ fun _ δ1 => F.nx δ1) := id rfl
@[simp ↓] theorem s_xRet {a : DT} : xRet a F δ = (a F.ex δ fun o _ => kpT o F.rt ⟨⟩) := id rfl
@[simp ↓] theorem s_xRetN  : xRetN  F δ = (F.rt .non) := id rfl
@[simp ↓] theorem s_xIf {c : DTT} {a b : DSt} : xIf c a b F δ = (c F.ex δ fun k δ1 => brK k (a F δ1) (b F δ1) ⟨⟩) := id rfl
@[simp ↓] theorem s_xBrk  : xBrk  F δ = (F.bk δ) := id rfl
@[simp ↓] theorem s_xCnt  : xCnt  F δ = (F.ct δ) := id rfl
@[simp ↓] theorem s_xRaise {x : Ex} : xRaise x F δ = (F.ex x) := id rfl
@[simp ↓] theorem s_xAsg {a : DT} {γ : DTg} : xAsg a γ F δ = (a F.ex δ fun o δ1 => γ o δ1 F.nx) := id rfl
@[simp ↓] theorem s_xPar {is : List Nat} {s : DTA} : xPar is s F δ = (s F.ex δ fun os δ1 => (os.all nbO = true ∧ os.length = is.length) ∧ putOps is os δ1 F.nx) := id rfl
@[simp ↓] theorem s_xFor {ι : DIt} {γ : DTg} {τ : DSt} : xFor ι γ τ F δ = (ι F.ex δ fun ds l δ1 => forW γ τ l F ds δ1 ⟨⟩) := id rfl
@[simp ↓] theorem s_xWh {θ : DTT} {τ : DSt} : xWh θ τ F δ = (whW θ τ F δ ⟨⟩) := id rfl
end
/-! ### loops, comprehensions -/
theorem forW_inv {γ : DTg} {τ : DSt} {l : Option Nat} {F : DEnds} {ds : List D} {δ : Env} {t : Tg F} (P : Nat → Env → Prop) (h0 : P 0 δ)
    (hs : ∀ i d δ (k' : Env → Prop), ds[i]? = some d → P i δ → (∀ δ', P (i + 1) δ' → k' δ') → γ (.v d) δ fun δ' => τ (loopE k' (fun δ => F.nx (un l δ)) F) δ') (hd : ∀ δ, P ds.length δ → F.nx (un l δ)) : forW γ τ l F ds δ t := forL_inv P h0 hs hd
theorem whW_inv {θ : DTT} {τ : DSt} {F : DEnds} {δ : Env} {t : Tg F} (P : Nat → Env → Prop) {n : Nat} (h0 : P n δ)
    (hs : ∀ n δ (k' : Env → Prop), P n δ → (∀ m δ', m < n → P m δ' → k' δ') → θ F.ex δ fun b δ' => brK b (τ (loopE k' F.nx F) δ') (F.nx δ') ⟨⟩) : whW θ τ F δ t := whN_inv P h0 hs
theorem forW_cons {γ : DTg} {τ : DSt} {l : Option Nat} {F : DEnds} {d : D} {ds : List D} {δ : Env} {t : Tg F} : forW γ τ l F (d :: ds) δ t = γ (.v d) δ fun δ' => τ (loopE (fun δ2 => forW γ τ l F ds δ2 ⟨⟩) (fun δ => F.nx (un l δ)) F) δ' := id rfl
theorem forW_nil {γ : DTg} {τ : DSt} {l : Option Nat} {F : DEnds} {δ : Env} {t : Tg F} : forW γ τ l F [] δ t = F.nx (un l δ) := id rfl
theorem lcW_inv {γ : DTg} {θ : DTT} {τ : DT} {vs : List Nat} {k : List D → Env → Prop} {δ : Env} {t : Tg k} (f : D → Option D) {ds : List D} {acc : List D} (h : ∀ d ∈ ds, ∀ (k' : List D → Env → Prop) (acc : List D), k' (acc ++ (f d).toList) δ →
      γ (.v d) δ fun δ1 => θ (fun _ => False) δ1 fun b δ2 => brK b (τ (fun _ => False) δ2 fun o δ3 => kpT o (fun y => k' (acc ++ [y]) (wipeE vs δ3)) ⟨⟩) (k' acc (wipeE vs δ2)) ⟨⟩) (q : k (acc ++ ds.filterMap f) δ) : lcW γ θ τ vs k ds δ acc t := lc_inv f h q
theorem lcW_all {γ : DTg} {τ : DT} {vs : List Nat} {k : List D → Env → Prop} {δ : Env} {t : Tg k} (f : D → D) {ds : List D} (h : ∀ d ∈ ds, ∀ (k' : D → Env → Prop), k' (f d) δ → γ (.v d) δ fun δ1 => τ (fun _ => False) δ1 fun o δ3 => kpT o (fun y => k' y (wipeE vs δ3)) ⟨⟩) (q : k (ds.map f) δ) : lcW γ xYes τ vs k ds δ [] t := lc_all f h q
end DL

set_option Elab.async false
set_option linter.all false
set_option maxRecDepth 100000
set_option maxHeartbeats 4000000
namespace L2
open PySem PySem.Spec PyProof.Rows
/-! sorted(a tuple of ints) -/
section
variable {prog : Program} {w : World} {A : Around} {s : Shared} {E : Value → Shared → Prop}
theorem collect_tupD {p : Addr} {its : List Value} {R : List Value → Shared → Prop} {ob : Obj} {n0 : Nat} (hp : s.heap.get? p = some ob) (hcl : ob.cls = .type "tuple") (hda : ob.data = .seq its.toArray n0)
    (hR : R its { s with heap := (s.heap.push (seqObj "list" #[] 0)).update s.heap.objs.size (Obj.mapSeq (· ++ its.toArray)) }) (hle : its.length ≤ sizeLine) :
    wpAny (model prog w) A (collect (.ref p)) R E s := by
  unfold collect; refine wpAny_bind (wpAny_runValue (codeAny_builtin entry_proto_collect' ?_))
  show wpAny _ _ (do again (.builtin "list.__iadd__" ⟨[← newList [], .ref p], []⟩)) _ _ s
  refine wpAny_bind (wpAny_newList (wpAny_pure ⟨Code.quiet_builtin _ (by decide +kernel), codeAny_builtin (entry_list_iadd') ?_⟩))
  show wpAny _ _ (Builtin.List.listExtendWith (.ref s.heap.objs.size) (.ref p) (.ref s.heap.objs.size)) _ _ { s with heap := s.heap.push (seqObj "list" #[] 0) }
  unfold Builtin.List.listExtendWith; have hp1 : (s.heap.push (seqObj "list" #[] 0)).get? p = some ob := Heap.get?_push_of_some _ hp
  refine wpAny_bind (wpAny_typeOf (T := "tuple") ⟨ob, hp1, hcl⟩ ?_)
  rw [if_pos (by simp)]
  refine wpAny_bind (listItems_at hp1 hda (wpAny_bind (listItems_at (xs := #[]) (n := 0) (Heap.get?_push_size _ rfl) rfl ?_)))
  rw [if_neg (by simp)]
  refine wpAny_bind (listUpdate_at (xs := #[]) (n := 0) (Heap.get?_push_size _ rfl) rfl (wpAny_pure ?_) (Nat.zero_le _) (by show (#[] ++ its.toArray).size ≤ sizeLine + 1; simp only [Array.size_append, List.size_toArray, List.length_nil]; omega))
  show wpAny (model prog w) A (do
      let o ← load s.heap.objs.size
      match o.data with
      | .seq xs _ => pure xs.toList
      | _ => unsupported "internal:collect") R E { s with heap := (s.heap.push (seqObj "list" #[] 0)).update s.heap.objs.size (Obj.mapSeq (· ++ its.toArray)) }
  refine wpAny_bind (wpAny_load (get?_update_seq (Heap.get?_push_size _ rfl) _) ?_)
  show wpAny _ _ (pure ((#[] : Array Value) ++ its.toArray).toList) R E _
  rw [show ((#[] : Array Value) ++ its.toArray).toList = its by simp]; exact wpAny_pure hR
theorem sorted_tupD {p : Addr} {its : List Value} {ltv : Value → Value → Bool} {R : Value → Shared → Prop} {ob : Obj} {n0 : Nat} (O : SrtO.Swo ltv) (hp : s.heap.get? p = some ob) (hcl : ob.cls = .type "tuple") (hda : ob.data = .seq its.toArray n0) (hle : its.length ≤ sizeLine)
    (hS : 2 ≤ its.length → ∀ (h1 : Heap) (a : Addr), h1.get? a = some (seqObj "list" its.toArray 0) → (∀ b o, s.heap.get? b = some o → b ≠ a ∧ h1.get? b = some o) → SrtO.SortableO prog w A.in1.in1 { s with heap := h1 } a its ltv)
    (hR : ∀ out : List Value, SrtO.Srtd ltv out → SrtO.Stb ltv out its → R (.ref (s.heap.objs.size + 1)) { s with heap := sortedAll s.heap its out.toArray }) :
    wpAny (model prog w) A (call (.builtin "sorted") [.ref p]) R E s := by
  refine Calls.call_function_entry kind_sorted plain_sorted entry_sorted (args_sorted1 _) ?_
  unfold Builtin.«sorted»; refine wpAny_bind (m := checkCount "sorted" 1 1 _) (wpAny_pure (wpAny_bind (collect_tupD hp hcl hda (wpAny_bind (wpAny_newList ?_ hle)) hle)))
  generalize hh : (s.heap.push (seqObj "list" #[] 0)).update s.heap.objs.size (Obj.mapSeq (· ++ its.toArray)) = h0
  have hz1 : h0.objs.size = s.heap.objs.size + 1 := by rw [← hh, Heap.size_update, size_push']
  have at1 : (h0.push (seqObj "list" its.toArray 0)).get? (s.heap.objs.size + 1) = some (seqObj "list" its.toArray 0) := by rw [← hz1]; exact Heap.get?_push_size _ rfl
  have kp : ∀ b o, s.heap.get? b = some o → b ≠ s.heap.objs.size + 1 ∧ (h0.push (seqObj "list" its.toArray 0)).get? b = some o := fun b o q => by
    have lt := Heap.lt_size q
    refine ⟨Nat.ne_of_lt (Nat.lt_succ_of_lt lt), Heap.get?_push_of_some _ ?_⟩
    rw [← hh, Heap.get?_update_ne _ _ _ _ (Nat.ne_of_lt lt)]; exact Heap.get?_push_of_some _ q
  show wpAny _ _ _ _ _ { s with heap := h0.push (seqObj "list" its.toArray 0) }
  rw [show ({ s with heap := h0 } : Shared).heap.objs.size = s.heap.objs.size + 1 from hz1]
  refine wpAny_bind (wpAny_holding (wpAny_call_entry slot_list_sort ⟨_, at1, rfl⟩ entry_list_sort (SrtO.list_sort_ord O at1 hle (fun h2 => hS h2 _ _ at1 kp) fun out a b => ⟨_, rfl, ?_⟩) (args_list_sort _)))
  refine wpAny_pure ⟨_, rfl, ?_⟩
  have := hR out a b
  unfold sortedAll at this; rw [hh] at this; exact this
end
section
variable {X : Cx}
def rSortedTI (K : PySem.W.Frag) : List V → Hp → VK → Prop := fun vs H Q => ∃ (a : Addr) (ns : List Int), vs = [.ref a] ∧ SqT K H a (ns.map V.int) ∧ ∀ (ns' : List Int) (p : Addr), ns'.Perm ns → ns'.Pairwise (· ≤ ·) → H p = none → Q (.ref p) (upd H p (.lst (ns'.map V.int)))
theorem cr_sortedTI : CallR X (.builtin "sorted") (rSortedTI X.K) := by
  intro pins s σ H vs us Q I r h
  obtain ⟨a, ns, rfl, hs, q⟩ := h
  obtain ⟨its, rv, ⟨ob, ho, hc, n, hd⟩, hz⟩ := I.tuple hs
  rw [Vals.ref1 r]
  have hi := rv.ints
  refine sorted_tupD SrtO.swo_int ho hc hd (by rw [← rv.length]; exact hz) (fun h2 h1 a' _ _ => SrtO.ints_sortable hi h2) fun out h1 h2 => ?_
  obtain ⟨k1, k2, k3⟩ := SrtO.ints_out hi h1 h2
  obtain ⟨ep, he'⟩ := PyProof.Rows.sortedAll_at s.heap its out.toArray
  have hlen : ((out.map SrtO.iv).map V.int).length ≤ sizeLine := by rw [List.length_map, k2.length_eq]; rw [List.length_map] at hz; exact hz
  exact ⟨.ref _, upd H (s.heap.objs.size + 1) (.lst ((out.map SrtO.iv).map V.int)), I.laid (t' := s.toks) (fun _ _ => PyProof.Rows.sortedAll_old) (Nat.le_succ _) ⟨hlen, out, ep, vals_of_ints k1, he'⟩, rfl, q _ _ k2 k3 (I.hok.fresh (Nat.le_succ _))⟩
end
end L2
namespace L2
open PySem PySem.Spec PyProof.Rows HT
/-! t[::-1], t * k -/
section
variable {prog : Program} {w : World} {A : Around} {s : Shared} {E : Value → Shared → Prop}
theorem adjust_back (n : Nat) : Builtin.Slice.sliceAdjust none none (-1) (n : Int) = ((n : Int) - 1, -1) := by
  unfold Builtin.Slice.sliceAdjust
  rfl
theorem places_back (n : Nat) : Builtin.Slice.slicePlaces ((n : Int) - 1) (-1) (-1) = n := by
  unfold Builtin.Slice.slicePlaces
  rw [if_neg (by decide), Int.neg_neg, Int.ediv_one]
  split <;> omega
theorem applied_back {sl : Addr} {vl vu vs : Value} {n : Nat} {R : Int × Int × Nat → Shared → Prop} (hs : s.heap.IsSliceOf sl vl vu vs) (pl : IsPart vl none) (pu : IsPart vu none) (ps : IsPart vs (some (-1)))
    (h : R ((n : Int) - 1, -1, n) s) : wpAny (model prog w) A (Builtin.Slice.sliceApplied (.ref sl) (pure (n : Int))) R E s := by
  obtain ⟨os, hos, hcs, hds⟩ := id hs
  unfold Builtin.Slice.sliceApplied; unfold Builtin.Slice.sliceFields
  refine wpAny_bind (wpAny_bind (wpAny_field hos hds (x := vl) rfl (wpAny_bind (wpAny_field hos hds (x := vu) rfl (wpAny_bind (wpAny_field hos hds (x := vs) rfl (wpAny_pure ?_)))))))
  refine wpAny_bind (slicePart_ ps ?_)
  show wpAny _ _ (if ((-1 : Int) == 0) = true then _ else _) _ _ s
  rw [if_neg (by decide)]; refine wpAny_bind (slicePart_ pl (wpAny_bind (slicePart_ pu (wpAny_bind (wpAny_pure ?_)))))
  show wpAny _ _ (match Builtin.Slice.sliceAdjust none none (-1) (n : Int) with | (a, b) => pure (a, (-1 : Int), Builtin.Slice.slicePlaces a b (-1))) _ _ s
  rw [adjust_back]
  show wpAny _ _ (pure ((n : Int) - 1, (-1 : Int), Builtin.Slice.slicePlaces ((n : Int) - 1) (-1) (-1))) _ _ s
  rw [places_back]; exact wpAny_pure h
theorem pick_back (xs : Array Value) : ((List.range xs.size).filterMap fun (m : Nat) => xs[(((xs.size : Nat) : Int) - 1 + (m : Int) * -1).toNat]?).toArray = xs.toList.reverse.toArray := by
  have e : ((List.range xs.size).filterMap fun (m : Nat) => xs[(((xs.size : Nat) : Int) - 1 + (m : Int) * -1).toNat]?) = xs.toList.reverse := by
    apply List.ext_getElem?
    intro i
    have key : ∀ k, k ≤ xs.size → ((List.range k).filterMap fun (m : Nat) => xs[(((xs.size : Nat) : Int) - 1 + (m : Int) * -1).toNat]?) = xs.toList.reverse.take k := by
      intro k
      induction k with
      | zero => intro _; simp
      | succ k ih =>
        intro hk
        rw [List.range_succ, List.filterMap_append, ih (by omega), List.take_add_one]
        congr 1
        have e1 : (((xs.size : Nat) : Int) - 1 + (k : Int) * -1).toNat = xs.size - 1 - k := by omega
        simp only [List.filterMap_cons, List.filterMap_nil, e1]
        rw [List.getElem?_reverse (by simp; omega), Array.length_toList]
        rw [Array.getElem?_toList]
        cases xs[xs.size - 1 - k]? <;> rfl
    rw [key xs.size (Nat.le_refl _), List.take_of_length_le (by simp)]
  rw [e]
theorem getItem_tuple_back {t sl : Addr} {items : Array Value} {vl vu vs : Value} {R : Value → Shared → Prop} (ht : IsTup s.heap t items) (hs : s.heap.IsSliceOf sl vl vu vs) (pl : IsPart vl none) (pu : IsPart vu none) (ps : IsPart vs (some (-1)))
    (h : R (.ref s.heap.objs.size) { s with heap := s.heap.push { cls := .type "tuple", data := .seq items.toList.reverse.toArray } }) (hle : items.size ≤ sizeLine) : wpAny (model prog w) A (getItem (.ref t) (.ref sl)) R E s := by
  have hT : s.TypeIs (.ref sl) "slice" := let ⟨os, a, b, _⟩ := id hs; ⟨os, a, b⟩
  have hok : sizeOk (.seq items.toList.reverse.toArray) := by show items.toList.reverse.toArray.size ≤ sizeLine; simpa using hle
  unfold getItem; (try with_reducible refine wpAny_holding ?_); (first | refine wpAny_bind (wpAny_pure ?_) | skip)
  · skip
    refine wpAny_bind (wpAny_sequenceKey ht.typeIs (by decide) (wpAny_bind (wpAny_callSpecial?_slot (name := Str.ofString "__getitem__") ht.typeIs PyProof.Rows.slot_tuple_getitem
      (wpAny_call_entry PyProof.Rows.slot_tuple_getitem ht.typeIs (entry_tuple_getitem) ?_ (args_tuple_getitem _ _)))))
    show wpAny _ _ (Builtin.Tuple.tupleItemsOf (.ref t) >>= _) _ _ s
    refine wpAny_bind (tupleItemsOf_ ht (wpAny_bind (wpAny_typeOf hT ?_)))
    rw [if_pos (by decide)]; refine wpAny_bind (applied_back hs pl pu ps ?_)
    show wpAny _ _ (if (((items.size : Nat) : Int) - 1 == 0 && (-1 : Int) == 1 && items.size == items.size) = true then _ else _) _ _ s
    rw [if_neg (by rw [show ((-1 : Int) == 1) = false by decide]; simp), pick_back]
    first
      | exact wpAny_bind (m := Builtin.Tuple.tupleExact _) (wpAny_newObj_type (wpAny_pure ⟨_, rfl, wpAny_pure h⟩) hok)
      | exact wpAny_bind (m := Builtin.Tuple.tupleExact _) (wpAny_newObj_type (wpAny_bind (wpAny_pure (wpAny_pure ⟨_, rfl, wpAny_pure h⟩))) hok)
      | exact wpAny_bind (wpAny_bind (m := Builtin.Tuple.tupleExact _) (wpAny_newObj_type (wpAny_pure (wpAny_pure ⟨_, rfl, wpAny_pure h⟩)) hok))
      | exact wpAny_bind (wpAny_bind (m := Builtin.Tuple.tupleExact _) (wpAny_newObj_type (wpAny_pure ⟨_, rfl, wpAny_pure h⟩) hok))
end
end L2

set_option Elab.async false
set_option linter.all false
set_option maxRecDepth 100000
set_option maxHeartbeats 4000000
namespace L2
open PySem PySem.Spec PyProof.Rows
section
variable {X : Cx}
/-- e[::-1], a list or a tuple -/
def tRevB (K : PySem.W.Frag) (te : TE) : TE := fun σ H Q => te σ H fun x H1 => (∃ a xs, x = .ref a ∧ SqL K H1 a xs ∧ ∀ p, H1 p = none → Q (.ref p) (upd H1 p (.lst xs.reverse))) ∨ (∃ a xs, x = .ref a ∧ SqT K H1 a xs ∧ ∀ p, H1 p = none → Q (.ref p) (upd H1 p (.tup xs.reverse)))
theorem pe_revB {e : Expr} {te : TE} {k : Nat} {p1 p2 p3 pos : Pos} (he : PE X e te) : PE X (.Subscript e (.Slice none none (some (.UnaryOp .USub (.Constant (.int 1) k p1) p2)) p3) pos) (tRevB X.K te) := by
  refine ⟨fun pins s σ H Q I h => Subscript_ (thn (he.run pins s σ H _ I h) fun v s1 ⟨x, H1, I1, r1, q1⟩ => ?_)⟩
  have hst : PO X (some (.UnaryOp .USub (.Constant (.int 1) k p1) p2)) (tPart (tUn (rU fun i => .int (-i)) (tC (.int 1)))) := po_some (pe_un (un_neg) pe_int)
  refine wpAny_Slice (thn (po_none.run pins s1 σ H1 (fun o H2 => o = none ∧ H2 = H1) I1 ⟨rfl, rfl⟩) fun vl s2 ⟨l, H2, I2, pl, el, e2⟩ => ?_); subst el e2
  refine thn (po_none.run pins s2 σ H2 (fun o H3 => o = none ∧ H3 = H2) I2 ⟨rfl, rfl⟩) fun vu s3 ⟨u, H3, I3, pu, eu, e3⟩ => ?_; subst eu e3
  refine thn (hst.run pins s3 σ H3 (fun o H4 => o = some (-1) ∧ H4 = H3) I3 ⟨1, rfl, -1, rfl, rfl, rfl⟩) fun vs s4 ⟨o, H4, I4, ps, eo, e4⟩ => ?_; subst eo e4
  have I5 : Inv X pins σ H4 { s4 with heap := s4.heap.push { cls := .type "slice", data := .fields #[vl, vu, vs] } } := I4.kept (t' := (s4.toks)) fun b ob q => Heap.get?_push_of_some _ q
  rcases q1 with ⟨a, xs, ex, hx, q⟩ | ⟨a, xs, ex, hx, q⟩
  · subst ex; cases r1
    obtain ⟨its, r, ht, hz⟩ := I5.list hx
    have hlen := r.length
    show wpAny (model X.prog X.w) X.A (subscriptTail e (.Slice none none (some (.UnaryOp .USub (.Constant (.int 1) k p1) p2)) p3) (.ref a) (.ref (s4.heap.objs.size))) (EP X pins σ Q) X.xe { s4 with heap := s4.heap.push { cls := .type "slice", data := .fields #[vl, vu, vs] } }
    refine tail_any (ops := [.ref a, .ref s4.heap.objs.size]) ht.isList.typeIs (PySem.slot_list_getitem.lookup) (wpAny_getItem_list_slice ht.isList (Heap.IsSliceOf.new _ vl vu vs) pl pu ps (by decide) ?_ (by rw [List.size_toArray]; omega)) (by with_unfolding_all rfl)
    rw [PySem.W.krv_pick]; refine ⟨.ref _, _, I5.laid (t' := (s4.toks)) (o := .lst xs.reverse) (fun b ob q => Heap.get?_push_of_some _ q) (Nat.le_refl _) ?_, rfl, q _ (I5.hok.fresh (Nat.le_refl _))⟩
    exact ⟨by rw [List.length_reverse]; exact (hz), _, 0, r.reverse, Heap.get?_push_size _ rfl⟩
  · subst ex; cases r1
    obtain ⟨its, r, ht, hz⟩ := I5.tuple hx
    have hlen := r.length
    show wpAny (model X.prog X.w) X.A (subscriptTail e (.Slice none none (some (.UnaryOp .USub (.Constant (.int 1) k p1) p2)) p3) (.ref a) (.ref (s4.heap.objs.size))) (EP X pins σ Q) X.xe { s4 with heap := s4.heap.push { cls := .type "slice", data := .fields #[vl, vu, vs] } }
    refine tail_any (ops := [.ref a, .ref s4.heap.objs.size]) ht.typeIs (PyProof.Rows.slot_tuple_getitem.lookup) (getItem_tuple_back ht (Heap.IsSliceOf.new _ vl vu vs) pl pu ps ?_ (by rw [List.size_toArray]; omega)) (by with_unfolding_all rfl)
    refine ⟨.ref _, _, I5.laid (t' := (s4.toks)) (o := .tup xs.reverse) (fun b ob q => Heap.get?_push_of_some _ q) (Nat.le_refl _) ?_, rfl, q _ (I5.hok.fresh (Nat.le_refl _))⟩
    exact ⟨by rw [List.length_reverse]; exact (hz), _, r.reverse, IsTup.new _ _⟩
/-- t * k, up to a line -/
def rRepB (K : PySem.W.Frag) : R2 := fun x y H Q => ∃ l k xs, x = .ref l ∧ y = .int k ∧ SqT K H l xs ∧ xs ≠ [] ∧ 2 ≤ k ∧ k ≤ 1000000 ∧ k.toNat * xs.length ≤ 1000000 ∧ ∀ p, H p = none → Q (.ref p) (upd H p (.tup (List.replicate k.toNat xs).flatten))
theorem op_repB : OpR X (binaryOp .Mult) (rRepB X.K) := by
  intro pins s σ H x y v u Q I rx ry h
  obtain ⟨l, k, xs, rfl, rfl, hT, hne, h1, h2, hz, q⟩ := h
  cases rx; obtain ⟨t, rfl⟩ := ry
  obtain ⟨its, r, ⟨⟨cls, dd, data, sl⟩, ho, hc, n, hd⟩, hs⟩ := I.tuple hT
  simp only at hc hd; subst hc hd
  have hle : its.length = xs.length := r.length.symm
  have xpos : 0 < xs.length := List.length_pos_iff.mpr hne
  have hi : its.toArray.isEmpty = false := by
    cases its with
    | nil => simp at hle; omega
    | cons a b => rfl
  have hsz0 : its.toArray.size = xs.length := by rw [List.size_toArray, hle]
  have hm : ((its.toArray.size : Nat) : Int) * k ≤ 1000000 := by
    rw [hsz0]
    obtain ⟨j, rfl⟩ := Int.eq_ofNat_of_zero_le (show 0 ≤ k by omega)
    have hz : j * xs.length ≤ 1000000 := hz
    have e : ((xs.length : Nat) : Int) * (j : Int) = ((j * xs.length : Nat) : Int) := by rw [Int.natCast_mul, Int.mul_comm]
    have : ((xs.length : Nat) : Int) * ((j : Nat) : Int) ≤ 1000000 := by rw [e]; omega
    exact this
  have flen : (List.replicate k.toNat its).flatten.length ≤ sizeLine := by rw [PyProof.Rows.lm_len_rep_flat, hle, sizeLine_eq]; omega
  have c0 : (decide (k < -(2 ^ 63)) || decide (k ≥ 2 ^ 63)) = false := by simp; omega
  have c1 : (its.toArray.isEmpty || k == 1) = false := by rw [hi, Bool.false_or]; exact beq_eq_false_iff_ne.mpr (by omega)
  have c2 : (decide (k ≤ 0) || its.toArray.isEmpty) = false := by rw [hi, Bool.or_false]; exact decide_eq_false (by omega)
  have c4 : Builtin.Tuple.tupleTooMany (((its.toArray.size : Nat) : Int) * k) = false := by unfold Builtin.Tuple.tupleTooMany; rw [sizeLine_eq]; exact decide_eq_false (by omega)
  refine wpAny_binaryOp_repeat_ref (T := "tuple") (U := "int") (by decide) ⟨_, ho, rfl⟩ (fun s' => (typeIs_int s' k t)) (noFill_tuple_mul) F.fills_int_mul F.slot_int_rmul repeat_tuple F.slot_int_index.lookup
    (call_meets (F.slot_int_rmul) (typeIs_int s k t) F.entry_int_rmul (F.args_int_rmul_2 _ _) (int_rmul_tuple k t l its.toArray n dd sl)
      ⟨ho, rfl, ⟨_, ho, rfl⟩, call_meets (F.slot_tuple_mul) ⟨_, ho, rfl⟩ F.entry_tuple_mul (F.args_tuple_mul_2 _ _) (tuple_mulW l its.toArray n dd sl k t c0 c1 c2 (by omega) c4 (by rw [size_rep, List.size_toArray]; exact (flen))) ⟨ho, ?_⟩⟩)
  rw [size_rep]; refine ⟨.ref s.heap.objs.size, _, I.laid (t' := (s.toks)) (o := .tup (List.replicate k.toNat xs).flatten) (fun b ob q => Heap.get?_push_of_some _ q) (Nat.le_refl _) ?_, rfl, q _ (I.hok.fresh (Nat.le_refl _))⟩
  exact ⟨by rw [PyProof.Rows.lm_len_rep_flat, sizeLine_eq]; omega, _, r.rep k.toNat, IsTup.new _ _⟩
end
end L2
namespace DL
open PySem L2
section
variable {X : Cx} {G : Amb} {E : XK} {e : Expr} {τ : DT} {K : PySem.W.Frag}
def revBR : D1 := fun d P => match d with
  | .lst ds => P (.n ds.reverse)
  | .tup ds => P (.v (.tup ds.reverse))
  | _ => False
theorem de_revB {k : Nat} {p1 p2 p3 pos : Pos} (he : DE X G E e τ) : DE X G E (.Subscript e (.Slice none none (some (.UnaryOp .USub (.Constant (.int 1) k p1) p2)) p3) pos) (xUn revBR τ) := by
  have m : Mono (xUn revBR τ) := mono_un ⟨fun d P P' h q => by cases d <;> first | exact q.elim | exact h _ q⟩ he.mono
  refine ⟨PE.imp (pe_revB he.pe) fun σ H Q h => ?_, m⟩
  obtain ⟨S, T, B, A, ω, δ, Z, F, z, q⟩ := tD_to m h
  refine un_core (ρ := revBR) (r := fun x H1 Q => (∃ a xs, x = V.ref a ∧ SqL X.K H1 a xs ∧ ∀ (p : Addr), H1 p = none → Q (V.ref p) (upd H1 p (HO.lst xs.reverse))) ∨ (∃ a xs, x = V.ref a ∧ SqT X.K H1 a xs ∧ ∀ (p : Addr), H1 p = none → Q (V.ref p) (upd H1 p (HO.tup xs.reverse)))) he.mono (fun {H O d v P Q} om t q k => ?_) F z q
  cases d <;> first | exact q.elim | skip
  · obtain ⟨a, vs, rfl, h1, r1⟩ := t
    exact .inr ⟨a, vs, rfl, h1, fun p hp => k _ _ _ q (.tup hp r1.rev)⟩
  · obtain ⟨a, vs, rfl, h1, r1⟩ := t
    exact .inl ⟨a, vs, rfl, sql_of h1, fun p hp => k _ _ _ q (.lst hp r1.rev)⟩
def sortBR : D1 := fun d P => match d with
  | .lst ds => ∃ ns : List Int, ds = ns.map D.int ∧ P (.n ((srt ns).map D.int))
  | .tup ds => ∃ ns : List Int, ds = ns.map D.int ∧ P (.n ((srt ns).map D.int))
  | _ => False
theorem cd_sortedB : CallD1 X (.builtin "sorted") sortBR := by
  refine ⟨⟨_, CallR.or cr_sortedI cr_sortedTI, fun {H O d v P Q} om t q k => ?_⟩, ⟨fun d P P' h q => by cases d <;> first | exact q.elim | (obtain ⟨ns, e, q⟩ := q; exact ⟨ns, e, h _ q⟩)⟩⟩
  cases d <;> first | exact q.elim | skip
  · obtain ⟨ns, rfl, q⟩ := q
    obtain ⟨a, vs, rfl, h1, r1⟩ := t
    cases r1.ofInts
    exact .inr ⟨a, ns, rfl, h1, fun ns' p hp w hn => by rw [srt_of hp w]; exact k _ _ _ q (.lst hn RepL.ints)⟩
  · obtain ⟨ns, rfl, q⟩ := q
    obtain ⟨a, vs, rfl, h1, r1⟩ := t
    cases r1.ofInts
    exact .inl ⟨a, ns, rfl, sql_of h1, fun ns' p hp w hn => by rw [srt_of hp w]; exact k _ _ _ q (.lst hn RepL.ints)⟩
/-- a product, tuples up to a million -/
def mulBR : D2 := fun d1 d2 P => match d1, d2 with
  | .int i, .int j => mulOk i j ∧ P (.v (.int (i * j)))
  | .lst a, .int k => (k < 16777217 ∧ -16777216 ≤ k ∧ a.length * k.toNat ≤ 16777216) ∧ P (.n (List.replicate k.toNat a).flatten)
  | .tup a, .int k => (a ≠ [] ∧ 2 ≤ k ∧ k ≤ 1000000 ∧ k.toNat * a.length ≤ 1000000) ∧ P (.v (.tup (List.replicate k.toNat a).flatten))
  | _, _ => False
theorem opd_mulB : OpD X (binaryOp .Mult) mulBR := by
  refine ⟨⟨_, OpR.or (OpR.or op_mul op_mulW) (OpR.or op_rep op_repB), fun {H O d1 d2 v1 v2 P Q} om t1 t2 q k => ?_⟩, ⟨fun d1 d2 P P' h q => by cases d1 <;> cases d2 <;> first | exact q.elim | exact ⟨q.1, h _ q.2⟩⟩⟩
  cases d1 <;> cases d2 <;> first | exact q.elim | skip
  · cases t1; cases t2
    rcases q.1 with c | c
    · exact .inl (.inl ⟨_, _, rfl, rfl, c, k _ _ _ q.2 (.same rfl)⟩)
    · exact .inl (.inr ⟨_, _, rfl, rfl, c, k _ _ _ q.2 (.same rfl)⟩)
  · obtain ⟨a, vs, rfl, h1, r1⟩ := t1
    cases t2
    obtain ⟨⟨n, c1, c2, c3⟩, q⟩ := q
    have l1 := r1.length
    refine .inr (.inr ⟨a, _, vs, rfl, rfl, h1, fun e => n ?_, c1, c2, by rw [← l1]; exact c3, fun p hp => k _ _ _ q (.tup hp r1.rep')⟩)
    subst e; exact List.length_eq_zero_iff.1 l1
  · obtain ⟨a, vs, rfl, h1, r1⟩ := t1
    cases t2
    obtain ⟨⟨c1, c2, c3⟩, q⟩ := q
    exact .inr (.inl ⟨a, _, vs, rfl, rfl, h1, by omega, by omega, by rw [sizeLine_eq, ← r1.length]; exact c3, fun p hp => k _ _ _ q (.lst hp r1.rep')⟩)
end
section
variable {P : Op → Prop} {t : Tg P}
@[simp ↓] theorem s_revB0 {i : List D} : unT revBR (.lst i) P t = P (.n i.reverse) := id rfl
@[simp ↓] theorem s_revB1 {i : List D} : unT revBR (.tup i) P t = P (.v (.tup i.reverse)) := id rfl
@[simp ↓] theorem s_sortB0 {i : List D} : unT sortBR (.lst i) P t = (∃ ns : List Int, i = ns.map D.int ∧ P (.n ((srt ns).map D.int))) := id rfl
@[simp ↓] theorem s_sortB1 {i : List D} : unT sortBR (.tup i) P t = (∃ ns : List Int, i = ns.map D.int ∧ P (.n ((srt ns).map D.int))) := id rfl
@[simp ↓] theorem s_mulB0 {i j : Int} : opT mulBR (.int i) (.int j) P t = (mulOk i j ∧ P (.v (.int (i * j)))) := id rfl
@[simp ↓] theorem s_mulB1 {a : List D} {k : Int} : opT mulBR (.lst a) (.int k) P t = ((k < 16777217 ∧ -16777216 ≤ k ∧ a.length * k.toNat ≤ 16777216) ∧ P (.n (List.replicate k.toNat a).flatten)) := id rfl
@[simp ↓] theorem s_mulB2 {a : List D} {k : Int} : opT mulBR (.tup a) (.int k) P t = ((a ≠ [] ∧ 2 ≤ k ∧ k ≤ 1000000 ∧ k.toNat * a.length ≤ 1000000) ∧ P (.v (.tup (List.replicate k.toNat a).flatten))) := id rfl
end
end DL

set_option Elab.async false
set_option linter.all false
set_option maxRecDepth 100000
set_option maxHeartbeats 2000000
/-! Walks where an exception is handled. -/
namespace DLH
open PySem PySem.Spec PyProof.Rows HotX
section
variable {prog : Program} {w : World} {A : Around} {E : Value → Shared → Prop} {s : Shared}
/-- a list's iterator is at its end, an exception is handled -/
theorem next_end {it l x1 : Addr} {i : Nat} {xs : Array Value} {Q : Option Value → Shared → Prop} (hot : HotAt A x1 s.heap) (ni : x1 ≠ it)
    (hit : s.heap.IsListIter it l i) (hl : s.heap.IsList l xs) (hx : xs[i]? = none)
    (q : ∀ h', Heap.ExtBut it s.heap h' → Q none { s with heap := h' }) : wpAny (model prog w) A (pyNext (.ref it)) Q E s := by
  obtain ⟨o, ho, hc, hd⟩ := id hit
  obtain ⟨ol, hol, _, nl, hdl⟩ := hl
  obtain ⟨hh, o1, v1, g1, d1, c1⟩ := hot
  unfold pyNext
  refine wpAny_bind (wpAny_attempt (wpAny_callSpecial?_slot (name := Str.ofString "__next__") hit.typeIs slot_listiter_next (wpAny_call_entry slot_listiter_next hit.typeIs entry_listiter_next ?_ (args_listiter_next _))))
  show wpAny _ _ (field (.ref it) 0 >>= _) _ _ s
  refine wpAny_bind (wpAny_field ho hd (x := .ref l) rfl ?_)
  show wpAny _ _ (if (Value.ref l == Value.none) = true then _ else _) _ _ s
  rw [if_neg (show ¬ ((Value.ref l == Value.none) = true) from Bool.false_ne_true)]
  show wpAny _ _ (field (.ref it) 1 >>= _) _ _ s
  refine wpAny_bind (wpAny_field ho hd (x := .int i 0) rfl ?_)
  show wpAny _ _ (seqItems? (.ref l) >>= _) _ _ s
  refine wpAny_bind (wpAny_seqItems hol hdl ?_)
  simp only [Int.toNat_natCast, hx]
  refine wpAny_bind (wpAny_rule (wpAny_bind (wpAny_setField ho hd (by simp) ?_)))
  show wpAny _ _ (newExc (.type "StopIteration") [] >>= _) _ _ _
  refine wpAny_bind ?_
  simp only [newExc, newTuple]
  refine wpAny_bind (wpAny_newObj_type ?_ (by size_fits))
  refine wpAny_bind (m := firstArgMember _ _) (wpAny_of_eq (a := Value.none) (by first | rfl | (simp only [firstArgMember]; rfl)) ?_)
  refine wpAny_newObj_type ?_ (by size_fits)
  have e1 : (s.heap.update it (Obj.mapFields (·.setIfInBounds 0 .none))).get? x1 = some o1 := by
    rw [Heap.get?_update_other _ _ (Ne.symm ni)]
    exact g1
  have e2 := Heap.get?_push_of_some { cls := Value.type "tuple", data := Data.seq #[] } e1
  refine raiseNew_hot ⟨hh, o1, v1, Heap.get?_push_of_some _ e2, d1, c1⟩ (Nat.ne_of_lt (Heap.lt_size e2)) (Heap.get?_push_size _ rfl) rfl (by first | (simp; done) | (simp; omega) | (simp only [Array.size_append]; simp; omega)) ?_
  refine wpAny_bind (wpAny_isInstance (T := "StopIteration") (b := true) ⟨_, Heap.get?_update_self _ (Heap.get?_push_size _ rfl) rfl, rfl⟩ isSubtype_stop ?_)
  refine wpAny_pure (q _ fun b o nb e => ?_)
  have f1 : (s.heap.update it (Obj.mapFields (·.setIfInBounds 0 .none))).get? b = some o := by
    rw [Heap.get?_update_other _ _ (Ne.symm nb)]
    exact e
  have f2 := Heap.get?_push_of_some { cls := Value.type "tuple", data := Data.seq #[] } f1
  rw [Heap.get?_update_other _ _ (Nat.ne_of_gt (Heap.lt_size f2))]
  exact Heap.get?_push_of_some _ f2
/-- a tuple's, too -/
theorem tup_end {it l x1 : Addr} {i : Nat} {xs : Array Value} {Q : Option Value → Shared → Prop} (hot : HotAt A x1 s.heap) (ni : x1 ≠ it)
    (hit : IsTupIter s.heap it l i) (hl : IsTup s.heap l xs) (hx : xs[i]? = none)
    (q : ∀ h', Heap.ExtBut it s.heap h' → Q none { s with heap := h' }) : wpAny (model prog w) A (pyNext (.ref it)) Q E s := by
  obtain ⟨o, ho, hc, hd⟩ := id hit
  obtain ⟨ol, hol, _, nl, hdl⟩ := hl
  obtain ⟨hh, o1, v1, g1, d1, c1⟩ := hot
  unfold pyNext
  refine wpAny_bind (wpAny_attempt (wpAny_callSpecial?_slot (name := Str.ofString "__next__") hit.typeIs slot_tupleiter_next (wpAny_call_entry slot_tupleiter_next hit.typeIs entry_tupleiter_next ?_ (args_tupleiter_next _))))
  show wpAny _ _ (field (.ref it) 0 >>= _) _ _ s
  refine wpAny_bind (wpAny_field ho hd (x := .ref l) rfl ?_)
  show wpAny _ _ (if (Value.ref l == Value.none) = true then _ else _) _ _ s
  rw [if_neg (show ¬ ((Value.ref l == Value.none) = true) from Bool.false_ne_true)]
  show wpAny _ _ (field (.ref it) 1 >>= _) _ _ s
  refine wpAny_bind (wpAny_field ho hd (x := .int i 0) rfl ?_)
  show wpAny _ _ (seqItems? (.ref l) >>= _) _ _ s
  refine wpAny_bind (wpAny_seqItems hol hdl ?_)
  simp only [Int.toNat_natCast, hx]
  refine wpAny_bind (wpAny_rule (wpAny_bind (wpAny_setField ho hd (by simp) ?_)))
  show wpAny _ _ (newExc (.type "StopIteration") [] >>= _) _ _ _
  refine wpAny_bind ?_
  simp only [newExc, newTuple]
  refine wpAny_bind (wpAny_newObj_type ?_ (by size_fits))
  refine wpAny_bind (m := firstArgMember _ _) (wpAny_of_eq (a := Value.none) (by first | rfl | (simp only [firstArgMember]; rfl)) ?_)
  refine wpAny_newObj_type ?_ (by size_fits)
  have e1 : (s.heap.update it (Obj.mapFields (·.setIfInBounds 0 .none))).get? x1 = some o1 := by
    rw [Heap.get?_update_other _ _ (Ne.symm ni)]
    exact g1
  have e2 := Heap.get?_push_of_some { cls := Value.type "tuple", data := Data.seq #[] } e1
  refine raiseNew_hot ⟨hh, o1, v1, Heap.get?_push_of_some _ e2, d1, c1⟩ (Nat.ne_of_lt (Heap.lt_size e2)) (Heap.get?_push_size _ rfl) rfl (by first | (simp; done) | (simp; omega) | (simp only [Array.size_append]; simp; omega)) ?_
  refine wpAny_bind (wpAny_isInstance (T := "StopIteration") (b := true) ⟨_, Heap.get?_update_self _ (Heap.get?_push_size _ rfl) rfl, rfl⟩ isSubtype_stop ?_)
  refine wpAny_pure (q _ fun b o nb e => ?_)
  have f1 : (s.heap.update it (Obj.mapFields (·.setIfInBounds 0 .none))).get? b = some o := by
    rw [Heap.get?_update_other _ _ (Ne.symm nb)]
    exact e
  have f2 := Heap.get?_push_of_some { cls := Value.type "tuple", data := Data.seq #[] } f1
  rw [Heap.get?_update_other _ _ (Nat.ne_of_gt (Heap.lt_size f2))]
  exact Heap.get?_push_of_some _ f2
theorem items_hot {x1 t : Addr} {xs : Array Value} {Q : List Value → Shared → Prop} (hot : HotAt A x1 s.heap) (ht : IsTup s.heap t xs)
    (q : ∀ h', Heap.ExtBut s.heap.objs.size s.heap h' → Q xs.toList { s with heap := h' }) : wpAny (model prog w) A (unpackItems (.ref t) xs.size none) Q E s := by
  obtain ⟨hh, o1, v1, g1, d1, c1⟩ := hot
  have n1 : x1 ≠ s.heap.objs.size := Nat.ne_of_lt (Heap.lt_size g1)
  have nt : t ≠ s.heap.objs.size := by
    obtain ⟨o, ho, _⟩ := ht
    exact Nat.ne_of_lt (Heap.lt_size ho)
  unfold unpackItems notIterableAtAll
  refine wpAny_bind (wpAny_bind (wpAny_specialOf ht.typeIs slot_tuple_iter.lookup (wpAny_pure ?_)))
  simp only [Bool.false_eq_true, if_false]
  refine wpAny_bind (wpAny_holding (iter_tuple ht ?_))
  refine wpAny_bind (wpAny_holding (draw_tuple nt xs.size 0 _ _ ⟨_, Heap.get?_push_size _ rfl, rfl, rfl⟩ (ht.push _) (by omega) fun h1 it1 sb1 => ?_))
  have all : List.take xs.size (List.drop 0 xs.toList) = xs.toList := by
    rw [List.drop_zero]; exact List.take_of_length_le (by simp)
  rw [all, if_neg (by simp)]
  have g2 : h1.get? x1 = some o1 := sb1.extBut _ _ n1 (Heap.get?_push_of_some _ g1)
  refine wpAny_bind (wpAny_holding (tup_end ⟨hh, o1, v1, g2, d1, c1⟩ n1 it1 ((ht.push _).extBut sb1.extBut nt) (by simp) fun h2 e2 => ?_))
  simp only [Option.isSome_none, Bool.false_eq_true, if_false]
  exact wpAny_pure (q h2 fun b o nb e => e2 b o nb (sb1.extBut b o nb (Heap.get?_push_of_some _ e)))

end
open L2 L2H
/-- what walks where the exception x1 is handled -/
structure TurnB (P : Program) (w : World) (K : PySem.W.Frag) (tg : Expr) (J : It) (fp : List Addr) (it : Addr) (tn : Nat → Heap → Prop) : Prop where
  mem : it ∈ fp
  obj : ∀ i h, tn i h → ∀ b ∈ fp, ∃ o, h.get? b = some o ∧ ∀ v, o.data ≠ .cell v
  keep : ∀ i h h', tn i h → (∀ b ∈ fp, ∀ o, h.get? b = some o → h'.get? b = some o) → tn i h'
  item : ∀ (X : Cx), X.prog = P → X.w = w → X.K = K → ∀ (x1 : Addr) (i : Nat) (pins : List (Addr × Obj)) (s : Shared) (σ : L2.St) (H : Hp) (E : Value → Shared → Prop), HotAt X.A x1 s.heap → x1 ∉ fp → Inv X pins σ H s → (∀ b ∈ fp, FpOk X pins H b) → tn i s.heap → J.go i H →
    wpAny (model P w) X.A (pyNext (.ref it)) (fun r s1 => ∃ u, r = some u ∧
      wpAny (model P w) X.A (letOwnedTupleGo tg (.ref it) u) (fun _ s2 => ∃ x H', Inv X pins σ H' s2 ∧ RelV x u ∧ J.yld i H x H' ∧ tn (i + 1) s2.heap ∧ ∀ b ∈ fp, H' b = none) E s1) E s
  done : ∀ (X : Cx), X.prog = P → X.w = w → X.K = K → ∀ (x1 : Addr) (i : Nat) (pins : List (Addr × Obj)) (s : Shared) (σ : L2.St) (H : Hp) (E : Value → Shared → Prop), HotAt X.A x1 s.heap → x1 ∉ fp → Inv X pins σ H s → (∀ b ∈ fp, FpOk X pins H b) → tn i s.heap → J.stop i H →
    wpAny (model P w) X.A (pyNext (.ref it)) (fun r s1 => r = none ∧ Inv X pins σ H s1) E s
  self : ∀ (A : Around) (i : Nat) (s : Shared) (Q : Value → Shared → Prop) (E : Value → Shared → Prop), tn i s.heap → Q (.ref it) s → wpAny (model P w) A (pyIter (.ref it)) Q E s
theorem turnB_list {P : Program} {w : World} {K : PySem.W.Frag} {tg : Expr} (a it : Addr) : TurnB P w K tg (Itl K a) [it] it (fun i h => h.IsListIter it a i) := by
  have ob : ∀ (i : Nat) (h : Heap), h.IsListIter it a i → ∀ b ∈ [it], ∃ o, h.get? b = some o ∧ ∀ v, o.data ≠ .cell v := fun i h st b hb => by
    obtain ⟨o, e, c, d⟩ := st
    rw [List.mem_singleton.mp hb]
    exact ⟨o, e, fun v z => by rw [d] at z; cases z⟩
  refine ⟨List.mem_singleton.mpr rfl, ob, fun i h h' st k => st.at fun o e => k it (List.mem_singleton.mpr rfl) o e, ?_, ?_, fun _ _ _ _ _ st h => wpAny_pyIter_listiter st h⟩
  · rintro X rfl rfl rfl x1 i pins s σ H E hot nx I hf st ⟨xs, x, hq, hx⟩
    obtain ⟨its, rv, p, hz⟩ := I.list hq
    obtain ⟨u, hu, ru⟩ := rv.get hx
    obtain ⟨f0, f1, f2, f3, f4, f5⟩ := hf it (List.mem_singleton.mpr rfl)
    refine wpAny_pyNext_list_item st p.isList (x := u) (by simpa using hu) fun h' st' sb => ?_
    have I1 := I.turned (h' := h') (t' := s.toks) (fun b o hb e => (sb.2 b hb).trans e) f0 f1 f3 f4 f5
    obtain ⟨o, e, c, d⟩ := id st'
    exact ⟨u, rfl, go_of (s := { s with heap := h' }) e c d (by decide) ⟨x, H, I1, ru, ⟨rfl, fun ys hy => by rw [I.list_inj hy hq]; exact hx⟩, st', fun b hb => (hf b hb).1⟩⟩
  · rintro X rfl rfl rfl x1 i pins s σ H E hot nx I hf st ⟨xs, hq, hx⟩
    obtain ⟨its, rv, p, hz⟩ := I.list hq
    obtain ⟨f0, f1, f2, f3, f4, f5⟩ := hf it (List.mem_singleton.mpr rfl)
    have hl := rv.length
    exact next_end hot (fun e => nx (List.mem_singleton.mpr e)) st p.isList (by simp; omega) fun h' eb => ⟨rfl, I.turned (t' := s.toks) (fun b o hb e => eb b o hb e) f0 f1 f3 f4 f5⟩
/-- a target, where an exception is handled -/
structure PGB (X : Cx) (target : Expr) (t : TG) : Prop where
  run : ∀ (x1 : Addr) (pins : List (Addr × Obj)) (s : Shared) (σ : L2.St) (H : Hp) (v : V) (u : Value) (Q : L2.St → Hp → Prop), HotAt X.A x1 s.heap → Inv X pins σ H s → RelV v u → t v σ H Q →
    wpAny (model X.prog X.w) X.A (assign target X.env u) (fun _ s1 => ∃ σ' H', Inv X pins σ' H' s1 ∧ Q σ' H') X.xe s
theorem pgb {X : Cx} {target : Expr} {t : TG} (h : PG X target t) : PGB X target t := ⟨fun _ pins s σ H v u Q _ I r q => h.run pins s σ H v u Q I r q⟩
/-- (a, b, ..) = a tuple, where an exception is handled -/
theorem pgb_tup {X : Cx} {es : List Expr} {k : Nat} {t : TGs} {n : Nat} {pos : Pos} (h : PGs X es t) (hn : (assignEach es X.env).length = n := by rfl) (ns : (assignEach es X.env).findIdx? (·.1) = none := by rfl) :
    PGB X (.Tuple es k pos) (gTup X.K n t) := by
  constructor
  rintro x1 pins s σ H v u Q hot I r ⟨a, xs, rfl, hq, hl, q⟩
  cases r
  obtain ⟨its, rv, ht, hz⟩ := I.tuple hq
  rw [assign_Tuple]
  refine wpAny_bind (wpAny_standAt ?_)
  unfold unpack
  rw [ns, show (assignEach es X.env).length = its.toArray.size by simp [hn, ← hl, rv.length]]
  refine wpAny_bind (wpAny_holding (items_hot hot ht fun h' e => ?_))
  exact h.run pins _ σ H xs _ Q (I.kept (t' := s.toks) fun b o z => e b o (Nat.ne_of_lt (Heap.lt_size z)) z) (by simpa using rv) q
def PIEB (X : Cx) (pins : List (Addr × Obj)) (σ : L2.St) (tg : Expr) (R : It → Hp → Prop) (itv : Value) (s2 : Shared) : Prop :=
  ∃ (it : Addr) (fp : List Addr) (tn : Nat → Heap → Prop) (J : It) (H' : Hp), itv = .ref it ∧ Inv X pins σ H' s2 ∧ TurnB X.prog X.w X.K tg J fp it tn ∧ tn 0 s2.heap ∧ (∀ b ∈ fp, FpOk X pins H' b) ∧ R J H'
structure PIB (X : Cx) (tg iter : Expr) (wi : TI) : Prop where
  run : ∀ (pins : List (Addr × Obj)) (s : Shared) (σ : L2.St) (H : Hp) (R : It → Hp → Prop), Inv X pins σ H s → wi σ H R →
    wpAny (model X.prog X.w) X.A (eval iter X.env) (fun v s1 => wpAny (model X.prog X.w) X.A (pyIter v) (PIEB X pins σ tg R) X.xe s1) X.xe s
variable {X : Cx}
/-- a comprehension's block, the handled exception known within -/
abbrev blkP (X : Cx) (s : Shared) (H : Hp) (scope : Scope) (e : Env) (fp : List Addr) (p : Addr × Obj) : Cx := { X.blk s H scope e fp with pn := [p] }
theorem blkP_of {X : Cx} {s : Shared} {H : Hp} {scope : Scope} {e : Env} {fp : List Addr} {p : Addr × Obj} {σ : L2.St} {H5 : Hp} {s5 : Shared} (I : Inv (X.blk s H scope e fp) [] σ H5 s5)
    (hp : s5.heap.get? p.1 = some p.2 ∧ H5 p.1 = none ∧ p.1 ≠ e.locals ∧ p.1 ∉ (X.blk s H scope e fp).fs ∧ ∀ v, p.2.data ≠ .cell v) : Inv (blkP X s H scope e fp p) [] σ H5 s5 :=
  ⟨⟨I.ok.mod, I.ok.kind, I.ok.glob, I.ok.blt, I.ok.above, I.ok.inj, I.ok.has, I.ok.cab, I.ok.hd, I.ok.frames, I.ok.stk, I.ok.exf, I.ok.bs, I.ok.bsz, I.ok.noex, I.ok.exfs, I.ok.funs, I.ok.frf⟩, I.os, I.bare, I.base, I.loc, I.cell, I.free, I.freeC,
    fun q hq => by
      have e : q = p := by simpa using hq
      rw [e]; exact hp, I.hok, I.len⟩
theorem core {pins : List (Addr × Obj)} {s : Shared} {σ : L2.St} {H : Hp} {Q : VK} {elt tg iter : Expr} {ifs : List Expr} {scope : Scope} {own : List (Str × Nat)} {pos pos' : Pos} {wi : TI} {g : TG} {tt : TT} {te : TE} {use : Option (Value → Sem Unit)} {Qf : Value → Shared → Prop}
    {p : Addr × Obj} (hh : Hot1 X.A p) (mz : p ∈ X.pn) (hN : X.N.Nodup) (I : Inv X pins σ H s) (hi : PIB X tg iter wi) (ok : BlkOk X.N X.env.scope scope own)
    (hg : ∀ (s : Shared) (H : Hp) (C : Addr) (cl : List (Str × Addr)) (fp : List Addr), PGB (blkP X s H scope (compEnvC scope cl C X.env) fp p) tg g) (ht : ∀ (s : Shared) (H : Hp) (C : Addr) (cl : List (Str × Addr)) (fp : List Addr), PTs (blkP X s H scope (compEnvC scope cl C X.env) fp p) ifs tt)
    (he : ∀ (s : Shared) (H : Hp) (C : Addr) (cl : List (Str × Addr)) (fp : List Addr), PE (blkP X s H scope (compEnvC scope cl C X.env) fp p) elt te) (hs : ∀ x, foldedSetIterable iter X.env x = pure x)
    (h : tLc wi g tt te (own.map (·.2)) σ H Q)
    (back : ∀ D C s' m H', Inv X pins σ H' s' → Q (.ref D) H' → s'.heap.Ns C m → FpOk X pins H' C → compPost (model X.prog X.w) X.A X.xe use Qf (.ref D) C (.ok .next) s') :
    wpAny (model X.prog X.w) X.A (comprehension (.ListComp elt [⟨tg, iter, ifs, 0⟩] scope pos) scope X.env pos' (newList []) false (eval iter X.env) use) Qf X.xe s := by
  have hfr : ∀ y ∈ scope.names, y.2 = .free → ∃ c, X.env.cells.lookup y.1 = some c := fun y hy e => by
    rcases ok.free y hy e with k | k
    · exact I.ok.has _ (.inl k)
    · exact I.ok.has _ (.inr k)
  refine wpAny_comprehension_free (use := use) rfl hs (closure_ok hfr) ok.kind (fun y hy e => by rw [ok.uniq y hy, e])
    (thn (hi.run pins s σ H _ I h) fun xv s1 hx => thn hx fun itv s2 h2 => ?_)
  obtain ⟨it, fp, tn, J, H2, e, J2, T, tn2, f2, q⟩ := h2
  obtain ⟨hz1, vz, dz, cz⟩ := hh
  subst e
  refine wpAny_newObj_type (newEnv_comp ?_) (by show 0 ≤ sizeLine; decide)
  generalize hD : s2.heap.objs.size = D
  have dNone : H2 D = none := J2.hok.fresh (Nat.le_of_eq hD)
  obtain ⟨W, ⟨m0, w0⟩, turn⟩ := q D dNone
  -- the new list
  generalize hs3 : ({ s2 with heap := s2.heap.push { cls := .type "list", data := .seq ([] : List Value).toArray } } : Shared) = sa
  have J3 : Inv X pins σ (upd H2 D (.lst [])) sa := by
    rw [← hs3]
    refine J2.laid (t' := s2.toks) (fun b o e => Heap.get?_push_of_some _ e) (Nat.le_of_eq hD) ⟨Nat.zero_le _, [], 0, .nil, ?_⟩
    rw [← hD]
    exact Heap.get?_push_size _ rfl
  have h3 : sa.heap = s2.heap.push { cls := .type "list", data := .seq ([] : List Value).toArray } := by rw [← hs3]
  have sz : ∀ b ∈ fp, b < s2.heap.objs.size := fun b hb => by
    obtain ⟨o, e, _⟩ := T.obj _ _ tn2 b hb
    exact Heap.lt_size e
  have fp3 : ∀ b ∈ fp, FpOk X pins (upd H2 D (.lst [])) b ∧ b < sa.heap.objs.size := fun b hb => by
    have hlt := sz b hb
    refine ⟨⟨?_, (f2 b hb).2⟩, by rw [h3, Heap.size_push]; exact Nat.lt_succ_of_lt hlt⟩
    rw [upd_ne (by rw [← hD]; exact Nat.ne_of_lt hlt)]
    exact (f2 b hb).1
  have tn3 : tn 0 sa.heap := T.keep _ _ _ tn2 fun b _ o e => by rw [h3]; exact Heap.get?_push_of_some _ e
  have J4 := block_start J3 ok hN fp3
  have pg := hg sa (upd H2 D (.lst [])) sa.heap.objs.size (cellsFrom (sa.heap.objs.size + 1) scope.names (cloFrom X.env.cells scope.names [])) fp
  have pt := ht sa (upd H2 D (.lst [])) sa.heap.objs.size (cellsFrom (sa.heap.objs.size + 1) scope.names (cloFrom X.env.cells scope.names [])) fp
  have pe := he sa (upd H2 D (.lst [])) sa.heap.objs.size (cellsFrom (sa.heap.objs.size + 1) scope.names (cloFrom X.env.cells scope.names [])) fp
  show codeAny _ _ (.compStart (.ListComp elt [⟨tg, iter, ifs, 0⟩] scope pos) 0 (.ref it) (.ref D) (compEnvC scope (cellsFrom (sa.heap.objs.size + 1) scope.names (cloFrom X.env.cells scope.names [])) sa.heap.objs.size X.env)) (compPost (model X.prog X.w) X.A X.xe use Qf (.ref D) sa.heap.objs.size) { sa with heap := pushCells (sa.heap.push { cls := .type "dict", data := .dict #[] }) scope.names }
  have nfp : ∀ b ∈ fp, (upd H2 D (.lst [])) b = none := fun b hb => (fp3 b hb).1.1
  generalize ece : compEnvC scope (cellsFrom (sa.heap.objs.size + 1) scope.names (cloFrom X.env.cells scope.names [])) sa.heap.objs.size X.env = ce at J4 pg pt pe ⊢
  have cL : ce.locals = sa.heap.objs.size := by subst ece; rfl
  generalize hH3 : upd H2 D (.lst []) = Ha at J3 J4 pg pt pe w0 nfp fp3
  generalize hs4 : ({ sa with heap := pushCells (sa.heap.push { cls := .type "dict", data := .dict #[] }) scope.names } : Shared) = sb at J4 ⊢
  have tn4 : tn 0 sb.heap := T.keep _ _ _ tn3 fun b _ o e => by rw [← hs4]; exact pushCells_keeps _ _ _ _ (Heap.get?_push_of_some _ e)
  have nz : p.1 ∉ fp := fun z => (fp3 _ z).1.2.2.2.2.2 p (List.mem_append_left _ mz) rfl
  have pp3 := J3.pin p (List.mem_append_left _ mz)
  have J4p := blkP_of (p := p) J4 ⟨by rw [← hs4]; exact pushCells_keeps _ _ _ _ (Heap.get?_push_of_some _ pp3.1), pp3.2.1, by rw [cL]; exact Nat.ne_of_lt (Heap.lt_size pp3.1), fun z => (List.mem_cons.mp (J3.stkSub _ z)).elim pp3.2.2.1 pp3.2.2.2.1, pp3.2.2.2.2⟩
  have same : ∀ {σ' : L2.St} {H' : Hp} {s' : Shared}, Inv (blkP X sa Ha scope ce fp p) [] σ' H' s' → (∀ b ∈ fp, H' b = none) → ∀ b ∈ fp, FpOk (blkP X sa Ha scope ce fp p) [] H' b := fun {σ' H' s'} I' hn b hb =>
    ⟨hn b hb, (I'.ok.exf b hb).1, I'.ok.exfs b hb, .inl hb, fun x c e => (I'.ok.exf b hb).2 x c e, fun p5 h5 z => nz (by
      have e5 : p5 = p := by simpa using h5
      rw [← e5, z]; exact hb)⟩
  have hot : ∀ {pz5 : List (Addr × Obj)} {σ5 : L2.St} {Hb : Hp} {sc : Shared}, Inv (blkP X sa Ha scope ce fp p) pz5 σ5 Hb sc → HotAt X.A p.1 sc.heap := fun J5 =>
    ⟨hz1, p.2, vz, J5.base.keep _ _ pp3.1 pp3.2.1 (fun z => (List.mem_cons.mp (J3.stkSub _ z)).elim pp3.2.2.1 pp3.2.2.2.1) nz, dz, cz⟩
  have loop : codeAny (model X.prog X.w) X.A (.compLoop (.ListComp elt [⟨tg, iter, ifs, 0⟩] scope pos) 0 (.ref it) (.ref D) ce) (compPost (model X.prog X.w) X.A X.xe use Qf (.ref D) sa.heap.objs.size) sb := by
    refine compLoop_any (fun n s' => ∃ i H', Inv (blkP X sa Ha scope ce fp p) [] (wipe σ (own.map (·.2))) H' s' ∧ tn i s'.heap ∧ (∀ b ∈ fp, H' b = none) ∧ W i n H') ?_ m0 ⟨0, Ha, J4p, tn4, nfp, w0⟩
    rintro n sc ⟨i, Hb, J5, tn5, n5, w5⟩
    rcases turn i n Hb w5 with ⟨stop, qq⟩ | ⟨go, Nx, hNx, step⟩
    · have td := T.done (blkP X sa Ha scope ce fp p) rfl rfl rfl p.1 i [] sc _ Hb (fun _ _ => False) (hot J5) nz J5 (same J5 n5) tn5 stop
      refine thnF td fun r sd ⟨hr, J6⟩ => ?_
      subst hr
      -- back in the def's context
      have J7 : Inv X pins σ Hb sd := J3.call' (ch := fp) J6.os J6.base J6.hok J6.bare fun b hb => ⟨(fp3 b hb).1.2.2.2.1, (fp3 b hb).1.2.1, (fp3 b hb).1.2.2.2.2.1, (fp3 b hb).1.2.2.2.2.2⟩
      have nC : Hb sa.heap.objs.size = none := by
        have z : Hb ce.locals = none := J6.free
        rw [cL] at z
        exact z
      obtain ⟨m, hn, _⟩ := J6.loc
      have hn : sd.heap.Ns ce.locals m := hn
      rw [cL] at hn
      exact back D sa.heap.objs.size sd m Hb J7 qq hn (J3.fpOk (Nat.le_refl _) nC)
    · have ti := T.item (blkP X sa Ha scope ce fp p) rfl rfl rfl p.1 i [] sc _ Hb (fun _ _ => False) (hot J5) nz J5 (same J5 n5) tn5 go
      refine thnF ti fun r sd ⟨u, hr, h6⟩ => ?_
      subst hr
      refine thnF h6 fun _ se ⟨x, Hc, J7, r7, y7, tn7, n7⟩ => ?_
      have J7' := J7.pinned (same J7 n7) (T.obj _ _ tn7)
      refine thnF (pg.run _ _ se _ Hc x u _ (hot J7') J7' r7 (step x Hc y7)) fun _ sf ⟨σ8, Hd, J8, hw8, q8⟩ => ?_
      refine thnF (pt.run _ sf σ8 Hd _ J8 q8) fun b sg ⟨He, J9, q9⟩ => ?_
      -- the turn's end
      have over : ∀ {s' : Shared} {H' : Hp}, Inv (blkP X sa Ha scope ce fp p) ([] ++ pinsAt fp se.heap) σ8 H' s' → Nx H' → ∃ m, m < n ∧ ∃ i H', Inv (blkP X sa Ha scope ce fp p) [] (wipe σ (own.map (·.2))) H' s' ∧ tn i s'.heap ∧ (∀ b ∈ fp, H' b = none) ∧ W i m H' := fun {s' H'} I' nx => by
        obtain ⟨m', hm, w'⟩ := hNx H' nx
        have pin' : ∀ b ∈ fp, ∀ o, se.heap.get? b = some o → s'.heap.get? b = some o ∧ H' b = none := fun b hb o e =>
          let z := I'.pin (b, o) (List.mem_append_right _ (List.mem_append_right _ (mem_pinsAt hb e)))
          ⟨z.1, z.2.1⟩
        have hl : (wipe σ (own.map (·.2))).length = σ8.length := by rw [← hw8, wipe_length]
        refine ⟨m', hm, i + 1, H', (I'.unpinned (pins := [])).weak hl (fun j v e => ?_), T.keep _ _ _ tn7 fun b hb o e => (pin' b hb o e).1, fun b hb => ?_, w'⟩
        · rw [← hw8] at e
          exact (wipe_some e).1
        · obtain ⟨o, e, _⟩ := T.obj _ _ tn7 b hb
          exact (pin' b hb o e).2
      cases b with
      | false =>
        simp only [Bool.false_eq_true, if_false] at q9 ⊢
        exact over J9 q9
      | true =>
        simp only [if_true] at q9 ⊢
        refine thnF (pe.run _ sg σ8 He _ J9 q9) fun z sh ⟨yv, Hf, J10, r10, acc, hD10, hz10, nx⟩ => ?_
        exact app_ok (X := blkP X sa Ha scope ce fp p) J10 hD10 hz10 r10 fun si J11 => over J11 nx
  exact codeAny_compStart_list loop (T.self X.A 0 _ _ _ tn4 loop)
/-- a comprehension, where an exception is handled -/
theorem pe_lcB {X : Cx} {elt tg iter : Expr} {ifs : List Expr} {scope : Scope} {own : List (Str × Nat)} {pos : Pos} {wi : TI} {g : TG} {tt : TT} {te : TE} {p : Addr × Obj} (hh : Hot1 X.A p) (mz : p ∈ X.pn) (nd : X.N.Nodup) (di : PIB X tg iter wi) (ok : BlkOk X.N X.env.scope scope own)
    (dg : ∀ (s : Shared) (H : Hp) (C : Addr) (cl : List (Str × Addr)) (fp : List Addr), PGB (blkP X s H scope (compEnvC scope cl C X.env) fp p) tg g) (dt : ∀ (s : Shared) (H : Hp) (C : Addr) (cl : List (Str × Addr)) (fp : List Addr), PTs (blkP X s H scope (compEnvC scope cl C X.env) fp p) ifs tt)
    (de : ∀ (s : Shared) (H : Hp) (C : Addr) (cl : List (Str × Addr)) (fp : List Addr), PE (blkP X s H scope (compEnvC scope cl C X.env) fp p) elt te) (fs : ∀ x, foldedSetIterable iter X.env x = pure x := by intro _; rfl) :
    PE X (.ListComp elt [⟨tg, iter, ifs, 0⟩] scope pos) (tLc wi g tt te (own.map (·.2))) := by
  constructor
  intro pins s σ H Q I h
  rw [eval_ListComp]
  refine core hh mz nd I di ok dg dt de fs h fun D C s1 m H1 I1 q hn ⟨f0, f1, f2, f3, f4, f5⟩ => ⟨m, hn, fun h2 sb => ?_⟩
  exact ⟨.ref D, H1, I1.turned (t' := s1.toks) (fun b o hb e => (sb.2 b hb).trans e) f0 f1 f3 f4 f5, rfl, q⟩
/-- a list's value -/
theorem pib_list {X : Cx} {tg l : Expr} {tl : TE} (hl : PE X l tl) : PIB X tg l (fun σ H R => tl σ H fun x H1 => ∃ a, x = .ref a ∧ (∃ xs, SqL X.K H1 a xs) ∧ R (Itl X.K a) H1) := by
  constructor
  intro pins s σ H R I h
  refine thn (hl.run pins s σ H _ I h) fun v s1 ⟨x, H1, I1, r1, a, e, ⟨xs, hq⟩, q⟩ => ?_
  subst e
  cases r1
  obtain ⟨its, rv, p, hz⟩ := I1.list hq
  refine wpAny_pyIter_list p.isList ⟨s1.heap.objs.size, [s1.heap.objs.size], _, _, H1, rfl, I1.kept (t' := s1.toks) fun b o e => Heap.get?_push_of_some _ e, turnB_list a _, ⟨_, Heap.get?_push_size _ rfl, rfl, rfl⟩, fun b hb => ?_, q⟩
  rw [List.mem_singleton.mp hb]
  exact I1.fpOk (Nat.le_refl _) (I1.hok.fresh (Nat.le_refl _))
end DLH

set_option Elab.async false
set_option linter.all false
set_option maxRecDepth 100000
namespace DL
open PySem L2 L2H DLH
/-! the data layer's judgements where an exception is handled -/
structure DIB (X : Cx) (G : Amb) (E : XK) (tg iter : Expr) (ι : DIt) : Prop where
  pi : PIB X tg iter (tI G X.K E ι)
  mono : MonoI ι
structure DGB (X : Cx) (G : Amb) (tg : Expr) (is : List Nat) (γ : DTg) : Prop where
  pg : PGB X tg (tG G X.K is γ)
  mono : MonoG γ
/-- a list alone -/
def xItB (τ : DT) : DIt := fun Z δ Q => τ Z δ fun o δ1 => rdK o δ1 fun d => match d with
  | .lst ds => lendK o δ1 fun l δ2 => Q ds l δ2
  | _ => False
theorem mono_itB {τ : DT} (m : Mono τ) : MonoI (xItB τ) := ⟨fun _ _ _ _ _ hz h q => m.m _ _ _ _ _ hz (fun _ _ q => rdK_mono (fun d q => by
  cases d with
  | lst ds => exact lendK_mono (fun l δ2 q => h _ _ _ q) q
  | _ => exact q) q) q⟩
section
variable {X : Cx} {G : Amb} {E : XK} {e elt tg iter : Expr} {τ : DT} {θ : DTT} {γ : DTg} {ι : DIt} {is : List Nat}
theorem PIB.imp {t t' : TI} (h : PIB X tg e t) (i : ∀ σ H R, t' σ H R → t σ H R) : PIB X tg e t' := ⟨fun pins s σ H R I q => h.run pins s σ H R I (i σ H R q)⟩
theorem PGB.imp {t t' : TG} (h : PGB X tg t) (i : ∀ v σ H Q, t' v σ H Q → t v σ H Q) : PGB X tg t' := ⟨fun x1 pins s σ H v u Q hot I r q => h.run x1 pins s σ H v u Q hot I r (i v σ H Q q)⟩
theorem dib_list (he : DE X G E e τ) : DIB X G E tg e (xItB τ) := by
  refine ⟨PIB.imp (pib_list he.pe) fun σ H R h => ?_, mono_itB he.mono⟩
  obtain ⟨S, T, B, A, ω, δ, Z, F, z, q⟩ := h
  refine tD_of F z (he.mono.m _ _ _ _ _ (fun _ z => z) (fun o δ1 q v H1 ω1 P ev => ?_) q) he.mono
  obtain ⟨d, er, q⟩ := rdK_some q
  cases d with
  | lst ds =>
    obtain ⟨a, vs, l, δ', ω', S', T', B', A', rfl, q, src, h1, r, st⟩ := ev.srcL F er q
    exact ⟨a, rfl, ⟨vs, SqL.of h1⟩, q _ _ _ _ _ _ _ (src.it (walk_same r.length.symm walk_list (fun T2 B2 ω2 H2 σ2 δ2 hb F2 => SqL.of (st T2 B2 ω2 H2 σ2 δ2 F2)) fun i x H2 H3 T2 B2 ω2 σ2 δ2 hb hi F2 y => yat r (src.carry hb F2) y))⟩
  | _ => exact q.elim
theorem dgb_tup {es : List Expr} {k n : Nat} {γs : List DTg} {pos : Pos} (h : DGs X G es is γs) (hl : γs.length = n := by rfl) (hn : (assignEach es X.env).length = n := by rfl) (hst : (assignEach es X.env).findIdx? (·.1) = none := by rfl) :
    DGB X G (.Tuple es k pos) is (xTupG γs) := ⟨PGB.imp (pgb_tup h.pg hn hst) fun v σ H Q h' => by
  obtain ⟨S, T, B, A, ω, δ, P, o, St, F, r, q⟩ := h'
  cases o with
  | v d =>
    cases d with
    | tup ds =>
      obtain ⟨rfl, a, vs, rfl, hq, r⟩ := r
      rw [bp_none] at F r
      rw [bp_none] at F
      exact ⟨a, vs, rfl, hq, by rw [← r.length, q.1, hl], nS S H B none ω, nT H, B, A, ω, δ, ds, H, Ow B ω, F.pin, r, F.om, fun a o h n m => pin_all h n m, fun a h => .inl (.inl h), gsE_mono h.mono (fun δ' q σ' H' ω' f sb => q σ' H' ω' (F.unpin f) sb) q.2⟩
    | _ => exact q.elim
  | _ => exact q.elim, mono_tupG h.mono⟩
/-- [.. for .. in .. if ..], an exception is handled -/
theorem de_lcB {ifs : List Expr} {scope : Scope} {own : List (Str × Nat)} {pos : Pos} {p : Addr × Obj} (hh : Hot1 X.A p) (mz : p ∈ X.pn) (nd : X.N.Nodup) (hi : DIB X G E tg iter ι) (ok : BlkOk X.N X.env.scope scope own)
    (dg : ∀ (s : Shared) (H : Hp) (C : Addr) (cl : List (Str × Addr)) (fp : List Addr), DGB (blkP X s H scope (compEnvC scope cl C X.env) fp p) G tg is γ) (hv : ∀ j ∈ is, j ∈ own.map (·.2))
    (dt : ∀ (s : Shared) (H : Hp) (C : Addr) (cl : List (Str × Addr)) (fp : List Addr), DTs (blkP X s H scope (compEnvC scope cl C X.env) fp p) G E0' ifs θ)
    (de : ∀ (s : Shared) (H : Hp) (C : Addr) (cl : List (Str × Addr)) (fp : List Addr), DE (blkP X s H scope (compEnvC scope cl C X.env) fp p) G E0' elt τ) (fs : ∀ x, foldedSetIterable iter X.env x = pure x := by intro _; rfl) :
    DE X G E (.ListComp elt [⟨tg, iter, ifs, 0⟩] scope pos) (xLc ι γ θ τ (own.map (·.2))) := by
  have mg := (dg X.s_0 X.H_0 0 [] []).mono
  have mt := (dt X.s_0 X.H_0 0 [] []).mono
  have me := (de X.s_0 X.H_0 0 [] []).mono
  have m := mono_lc (vs := own.map (·.2)) hi.mono mg mt me
  refine ⟨PE.imp (pe_lcB (g := tG G X.K is γ) (tt := tT G X.K E0' θ) (te := tD G X.K E0' τ) hh mz nd hi.pi ok (fun s H C cl fp => (dg s H C cl fp).pg) (fun s H C cl fp => (dt s H C cl fp).pt) (fun s H C cl fp => (de s H C cl fp).pe) fs) fun σ H Q h => ?_, m⟩
  obtain ⟨S, T, B, A, ω, δ, Z, F, z, q⟩ := tD_to m h
  exact lc_core' hi.mono mg mt me hv F z q
end
end DL

set_option Elab.async false
set_option linter.all false
set_option maxRecDepth 100000
namespace DL
open PySem L2 L2H DLH
/-- isinstance(e, c) of an error whose object is pinned -/
theorem call_isP {X : Cx} {a C : Addr} {oe : Obj} (hp : (a, oe) ∈ X.pn) (hC : ExcC X.K C) (hz : Zc (.ref C) none oe) (hf : ∃ vs, oe.data = .fields vs) : CallR X (.builtin "isinstance") (rIsE X.K C a) := by
  rintro pins s σ H xs us Q I r ⟨c, cv, b, rfl, hcv, e, q⟩
  obtain _ | ⟨rx, rr⟩ := r
  obtain _ | ⟨rt, rr⟩ := rr
  cases rr
  cases rx
  cases hcv _ rt
  have at1 := (I.pin (a, oe) (List.mem_append_left _ hp)).1
  obtain ⟨vs, hv⟩ := hf
  have J : PySem.W.InstAt s.heap a oe C none := by
    obtain ⟨oc, od, da, sl⟩ := oe
    obtain ⟨h1, h2⟩ := hz
    dsimp only at h1 h2 hv
    subst h1 h2 hv
    exact ⟨at1, rfl, rfl, trivial⟩
  exact PySem.W.kia_one (PySem.W.handS_kitx_exc hC.hg hC.hk hC.hs hC.hd hC.ha hC.hn hC.ht hC.hm) I.kIn J e (fun z => nomatch z) fun tk => ⟨.bl b, H, I.kept (t' := tk) fun _ _ z => z, rfl, q⟩
theorem de_isP {X : Cx} {G : Amb} {E : XK} {i : Nat} {a C : Addr} {oe : Obj} {b : Bool} {y c : Str} {v : V} {cv : Value} {p p1 p2 pos : Pos} (hp : (a, oe) ∈ X.pn) (hC : ExcC X.K C) (hz : Zc (.ref C) none oe) (hf : ∃ vs, oe.data = .fields vs)
    (hg : Gl X "isinstance") (hm : X.mg "isinstance" = none) (hN : X.N[i]? = some y) (hv : Vis X.env.scope y)
    (hc : PE X (.Name c p2) (tC v)) (hcv : ∀ u, RelV v u → u = cv) (hk : PySem.W.kitOne X.K (.ref C) cv = some b) (hd : (y == ("__debug__" : Str)) = false := by decide) (hcd : (y == ("__classdict__" : Str)) = false := by decide)
    (hq : starEach [.Name y p1, .Name c p2] X.env = (false, eval (.Name y p1) X.env) :: starEach [.Name c p2] X.env := by rfl) (hq2 : starEach [.Name c p2] X.env = (false, eval (.Name c p2) X.env) :: starEach [] X.env := by rfl) (hpl : (backTo pos (starEach [.Name c p2] X.env)).any (·.1) = false := by rfl) :
    DE X G E (.Call (.Name "isinstance" p) [.Name y p1, .Name c p2] [] pos) (xIsE i a b) := by
  refine ⟨PE.imp (pe_callB (X := X) (call_isP hp hC hz hf) hg hm rfl (pa_cons (pe_var (X := X) hN hv hd hcd) (pa_cons hc pa_nil hq2) hq) (by decide) (by decide) hq hpl) fun σ H Q h => ?_, mono_isE⟩
  obtain ⟨S, T, B, A, ω, δ, Z, F, z, q⟩ := tD_to mono_isE h
  unfold xIsE at q
  split at q
  case h_2 => exact q.elim
  case h_1 a' e =>
    obtain ⟨rfl, q⟩ := q
    obtain ⟨_, u, e2, e3⟩ := F.slot i _ e
    cases e3
    exact ⟨_, e2, v, cv, b, rfl, hcv, hk, q (.bl b) H ω none ⟨by rw [bp_none, bp_none]; exact F, .refl, rfl, rfl⟩⟩
/-- in the suite the caught error is hot -/
theorem hot_suite {X : Cx} {e C : Addr} {oe : Obj} {pn : List (Addr × Obj)} (hz : L2N.Zn (.ref C) none oe) (hf : ∃ vs, oe.data = .fields vs) : Hot1 (X.suite e ((e, oe) :: pn)).A (e, oe) := by
  obtain ⟨vs, hv⟩ := hf
  exact ⟨rfl, vs, hv, hz.2.2 vs hv⟩
end DL

set_option Elab.async false
set_option linter.all false
set_option maxRecDepth 100000
namespace DL
open PySem L2
/-! what else the suite of a hearing def wants; more rules -/
def neIR : D2 := cmpR intC (intF fun i j => !decide (i = j))
theorem opd_neI {X : Cx} : OpD X (compareOp .NotEq) neIR := by
  refine ⟨⟨_, op_ne, fun {H O d1 d2 v1 v2 P Q} om t1 t2 q k => ?_⟩, m2_cmp⟩
  obtain ⟨c, q⟩ := q
  cases d1 <;> cases d2 <;> first | exact c.elim | skip
  cases t1; cases t2
  rename_i i j
  have e : decide (V.int i = V.int j) = decide (i = j) := by simp
  exact ⟨rfl, by rw [e]; exact k _ _ _ q (.same rfl)⟩
@[simp ↓] theorem s_neIR {i j : Int} {P : Op → Prop} {t : Tg P} : opT neIR (.int i) (.int j) P t = P (.v (.bl (!decide (i = j)))) := by simp [opT, neIR, cmpR, intC, intF]
theorem lcW_nil {γ : DTg} {θ : DTT} {τ : DT} {vs : List Nat} {k : List D → Env → Prop} {δ : Env} {acc : List D} {t : Tg k} : lcW γ θ τ vs k [] δ acc t = k acc δ := id rfl
theorem lcW_cons {γ : DTg} {θ : DTT} {τ : DT} {vs : List Nat} {k : List D → Env → Prop} {d : D} {ds : List D} {δ : Env} {acc : List D} {t : Tg k} : lcW γ θ τ vs k (d :: ds) δ acc t = γ (.v d) δ fun δ1 => θ (fun _ => False) δ1 fun b δ2 => brK b (τ (fun _ => False) δ2 fun o δ3 => kpT o (fun y => lcW γ θ τ vs k ds (wipeE vs δ3) (acc ++ [y]) ⟨⟩) ⟨⟩) (lcW γ θ τ vs k ds (wipeE vs δ2) acc ⟨⟩) ⟨⟩ := id rfl
@[simp ↓] theorem s_xItB {a : DT} {Z : Ex → Prop} {δ : Env} {Q : List D → Option Nat → Env → Prop} : xItB a Z δ Q = (a Z δ fun o δ1 => rdT o δ1 (fun d => lsK d (fun ds => itT o δ1 (fun l δ2 => Q ds l δ2) ⟨⟩) ⟨⟩) ⟨⟩) := by
  unfold xItB
  refine congrArg _ (funext fun o => funext fun δ1 => congrArg _ (funext fun d => ?_))
  cases d <;> rfl
/-! a lent list is ours again -/
def unS (s : Option Sl) (i : Nat) (δ : Env) : Env := match s with
  | some (.lent ds) => δ.set i (.own ds)
  | _ => δ
@[simp] theorem s_unA {i : Nat} {δ : Env} : un (some i) δ = unS (δ[i]?) i δ := by
  show (match δ[i]? with | some (.lent ds) => δ.set i (.own ds) | _ => δ) = _
  unfold unS; cases δ[i]? with
  | none => rfl
  | some s => cases s <;> rfl
@[simp] theorem s_unB {i : Nat} {δ : Env} {ds : List D} : unS (some (.lent ds)) i δ = δ.set i (.own ds) := rfl
@[simp] theorem s_unC {i : Nat} {δ : Env} {d : D} : unS (some (.val d)) i δ = δ := rfl
@[simp] theorem s_unD {i : Nat} {δ : Env} : unS (some .un) i δ = δ := rfl
section
open L2H DLH
/-- name = [..], an exception is handled: the new list is put down ahead of the block's end -/
theorem ps_setLcB {X : Cx} {i : Nat} {y : Str} {py : Pos} {elt tg iter : Expr} {ifs : List Expr} {scope : Scope} {own : List (Str × Nat)} {pos spos : Pos} {wi : TI} {g : TG} {tt : TT} {te : TE} {p : Addr × Obj} (hh : Hot1 X.A p) (mz : p ∈ X.pn) (nd : X.N.Nodup) (at_ : X.N[i]? = some y) (lo : X.env.scope.names.lookup y = some .local)
    (sw : swapsWith (.ListComp elt [⟨tg, iter, ifs, 0⟩] scope pos) (some (.Name y py)) spos.line X.env = pure true) (di : PIB X tg iter wi) (ok : BlkOk X.N X.env.scope scope own)
    (dg : ∀ (s : Shared) (H : Hp) (C : Addr) (cl : List (Str × Addr)) (fp : List Addr), PGB (blkP X s H scope (compEnvC scope cl C X.env) fp p) tg g) (dt : ∀ (s : Shared) (H : Hp) (C : Addr) (cl : List (Str × Addr)) (fp : List Addr), PTs (blkP X s H scope (compEnvC scope cl C X.env) fp p) ifs tt)
    (de : ∀ (s : Shared) (H : Hp) (C : Addr) (cl : List (Str × Addr)) (fp : List Addr), PE (blkP X s H scope (compEnvC scope cl C X.env) fp p) elt te) (fs : ∀ x, foldedSetIterable iter X.env x = pure x := by intro _; rfl) :
    PS X (.Assign [.Name y py] (.ListComp elt [⟨tg, iter, ifs, 0⟩] scope pos) spos) (tAsg (tLc wi g tt te (own.map (·.2))) (gName i)) := by
  constructor
  intro pins s σ H D I want
  have want : tLc wi g tt te (own.map (·.2)) σ H (fun x H1 => gName i x σ H1 D.nx) := want
  rw [exec_Assign_Name_used _ _ _ _ sw]
  refine wpAny_bind (wpAny_standAt (wpAny_bind (wpAny_bind ?_)))
  refine thn (DLH.core (Qf := fun _ s1 => SP X pins D .next s1) (use := some (assign (.Name y py) X.env)) hh mz nd I di ok dg dt de fs want fun L C s1 m H1 I1 q hn ⟨f0, f1, f2, f3, f4, f5⟩ => ?_) fun _ s1 got => wpAny_pure (wpAny_pure got)
  refine wpAny_assign_Name (store_ok2 (v := V.ref L) I1 nd at_ (.inl lo) rfl (fun s2 I2 ⟨a, sb, ha⟩ => ?_) (.inr lo))
  have ca : C ≠ a := ha.elim (fun z => z ▸ f1) fun z e => f4 y a z e.symm
  exact ⟨m, hn.sameBut sb ca, fun h3 sb3 => ⟨_, H1, I2.turned (t' := s2.toks) (fun b o hb e => (sb3.2 b hb).trans e) f0 f1 f3 f4 f5, q⟩⟩
variable {X : Cx} {G : Amb} {E : XK} {elt tg iter : Expr} {τ : DT} {θ : DTT} {γ : DTg} {ι : DIt} {is : List Nat}
theorem ds_setLcB {i : Nat} {y : Str} {py : Pos} {ifs : List Expr} {scope : Scope} {own : List (Str × Nat)} {pos spos : Pos} {p : Addr × Obj} (hh : Hot1 X.A p) (mz : p ∈ X.pn) (nd : X.N.Nodup) (at_ : X.N[i]? = some y) (lo : X.env.scope.names.lookup y = some .local)
    (sw : swapsWith (.ListComp elt [⟨tg, iter, ifs, 0⟩] scope pos) (some (.Name y py)) spos.line X.env = pure true) (hi : DIB X G E tg iter ι) (ok : BlkOk X.N X.env.scope scope own)
    (dg : ∀ (s : Shared) (H : Hp) (C : Addr) (cl : List (Str × Addr)) (fp : List Addr), DGB (blkP X s H scope (compEnvC scope cl C X.env) fp p) G tg is γ) (hv : ∀ j ∈ is, j ∈ own.map (·.2))
    (dt : ∀ (s : Shared) (H : Hp) (C : Addr) (cl : List (Str × Addr)) (fp : List Addr), DTs (blkP X s H scope (compEnvC scope cl C X.env) fp p) G E0' ifs θ)
    (de : ∀ (s : Shared) (H : Hp) (C : Addr) (cl : List (Str × Addr)) (fp : List Addr), DE (blkP X s H scope (compEnvC scope cl C X.env) fp p) G E0' elt τ) (fs : ∀ x, foldedSetIterable iter X.env x = pure x := by intro _; rfl) :
    DS X G E (.Assign [.Name y py] (.ListComp elt [⟨tg, iter, ifs, 0⟩] scope pos) spos) (xAsg (xLc ι γ θ τ (own.map (·.2))) (xName i)) := by
  have mg := (dg X.s_0 X.H_0 0 [] []).mono
  have mt := (dt X.s_0 X.H_0 0 [] []).mono
  have me := (de X.s_0 X.H_0 0 [] []).mono
  have m := mono_lc (vs := own.map (·.2)) hi.mono mg mt me
  refine ⟨PS.imp (ps_setLcB (g := tG G X.K is γ) (tt := tT G X.K E0' θ) (te := tD G X.K E0' τ) hh mz nd at_ lo sw hi.pi ok (fun s H C cl fp => (dg s H C cl fp).pg) (fun s H C cl fp => (dt s H C cl fp).pt) (fun s H C cl fp => (de s H C cl fp).pe) fs) fun D σ H h => ?_, mono_asg m mono_name⟩
  obtain ⟨S, T, B, A, ω, δ, F, Fs, z, en, q⟩ := h
  refine lc_core' (Q := fun x H1 => gName i x σ H1 D.nx) hi.mono mg mt me hv Fs z (m.m _ _ _ _ _ (fun _ z => z) (fun o δ' q v H' ω' P ev => ?_) q)
  obtain ⟨ω2, δ2, F2, _, q⟩ := ev.fr.putOp Fs.stat ev.rp q
  exact en.nx _ _ _ _ F2 q
end
theorem de_conS {X : Cx} {G : Amb} {E : XK} {x : Str} {pos : Pos} {z : Str} {t : Tok} (hg : Gl X x) (hm : X.mg x = some (.str z t)) (hd : (x == ("__debug__" : Str)) = false := by decide) : DE X G E (.Name x pos) (xC (.str z)) := de_glob hg hm (v := .str z) ⟨t, rfl⟩ (fun _ _ => rfl) hd
/-! a def told by a name: which one it may be -/
theorem FunD_ne {K : PySem.W.Frag} {x y qx qy : Str} {p1 p2 : Arguments} {b1 b2 : List Stmt} {sc1 sc2 : Scope} {d1 d2 : List V} {k1 k2 : List (Str × V)} {f g : Addr} {fd1 fd2 : FuncData} (F1 : FunD K x qx p1 b1 sc1 d1 k1 f fd1) (F2 : FunD K y qy p2 b2 sc2 d2 k2 g fd2) (h : x ≠ y) : f ≠ g := by
  rintro rfl
  obtain ⟨_, _, _, _, _, _, _, _, _, _, rfl, l1, _⟩ := F1.ex
  obtain ⟨_, _, _, _, _, _, _, _, _, _, rfl, l2, _⟩ := F2.ex
  rw [l1] at l2
  cases l2
  exact h rfl
theorem Cal.ne {P : Program} {w : World} {K : PySem.W.Frag} {mg : Str → Option Value} {base : Heap} {G G' : Amb} {x y : Str} {f g : Addr} {k k' : Nat} {φ ψ : FSp} (h : ∃ fd px bx sx, FunD K x x px bx sx [] [] f fd) (h' : ∃ fd px bx sx, FunD K y y px bx sx [] [] g fd) (n : x ≠ y) : f ≠ g := by
  obtain ⟨_, _, _, _, F⟩ := h
  obtain ⟨_, _, _, _, F'⟩ := h'
  exact FunD_ne F F' n
def pick : List (Addr × FSp) → Addr → Option FSp
  | [], _ => none
  | p :: l, f => if p.1 = f then some p.2 else pick l f
theorem held_pick {X : Cx} {G : Amb} : ∀ {l : List (Addr × FSp)}, (∀ p ∈ l, HeldD X G p.1 p.2) → ∀ f φ, pick l f = some φ → HeldD X G f φ
  | [], _, f, φ, e => by cases e
  | p :: l, h, f, φ, e => by
    rw [pick] at e
    split at e
    · rename_i q
      cases e
      rw [← q]
      exact h p (.head _)
    · exact held_pick (fun q hq => h q (.tail _ hq)) f φ e
theorem Cal.held {P : Program} {w : World} {K : PySem.W.Frag} {mg : Str → Option Value} {base : Heap} {G : Amb} {x : Str} {f : Addr} {k k0 : Nat} {φ : FSp} (c : Cal P w K mg base G x f k φ) (hk : k ≤ k0) {X : Cx} (e1 : X.prog = P) (e2 : X.w = w) (e3 : X.K = K) (e4 : X.mg = mg) (e5 : X.base = base) (hr : Room k0 X.A) : HeldD X G f φ := by
  subst e1 e2 e3 e4 e5
  obtain ⟨⟨fd, ps, F, b⟩, gl, kp, mf⟩ := c
  exact ⟨⟨k, fd, ps, F, hr.mono hk, kp, b⟩, mf⟩
end DL

set_option Elab.async false
set_option linter.all false
set_option maxRecDepth 100000
set_option maxHeartbeats 0
namespace Hd
open PySem PySem.Spec PyProof.Rows L2
def top (i : Nat) : Stmt := PySem.Challenge.pw_nextterms_k76_whole_sieves.main.body.getD i (.Pass ⟨0, 0, 0, 0⟩)
abbrev s_is_integer : Stmt := top 1
def d_is_integer : He.DefD := ⟨("is_integer", none), "is_integer", "is_integer", defArgs s_is_integer, defBody s_is_integer, defScope s_is_integer, [], []⟩
abbrev s_is_within : Stmt := top 2
def d_is_within : He.DefD := ⟨("is_within", none), "is_within", "is_within", defArgs s_is_within, defBody s_is_within, defScope s_is_within, [], []⟩
abbrev s_check_most : Stmt := top 8
def d_check_most : He.DefD := ⟨("check_most", none), "check_most", "check_most", defArgs s_check_most, defBody s_check_most, defScope s_check_most, [], []⟩
abbrev s_primes : Stmt := top 9
def d_primes : He.DefD := ⟨("primes", none), "primes", "primes", defArgs s_primes, defBody s_primes, defScope s_primes, [], []⟩
abbrev s_lucky : Stmt := top 10
def d_lucky : He.DefD := ⟨("lucky", none), "lucky", "lucky", defArgs s_lucky, defBody s_lucky, defScope s_lucky, [], []⟩
abbrev s_ludic : Stmt := top 11
def d_ludic : He.DefD := ⟨("ludic", none), "ludic", "ludic", defArgs s_ludic, defBody s_ludic, defScope s_ludic, [], []⟩
abbrev s_struck_each : Stmt := top 12
def d_struck_each : He.DefD := ⟨("struck_each", none), "struck_each", "struck_each", defArgs s_struck_each, defBody s_struck_each, defScope s_struck_each, [], []⟩
abbrev s_struck_at : Stmt := top 13
def d_struck_at : He.DefD := ⟨("struck_at", none), "struck_at", "struck_at", defArgs s_struck_at, defBody s_struck_at, defScope s_struck_at, [], []⟩
abbrev s_summed_powers : Stmt := top 14
def d_summed_powers : He.DefD := ⟨("summed_powers", none), "summed_powers", "summed_powers", defArgs s_summed_powers, defBody s_summed_powers, defScope s_summed_powers, [], []⟩
abbrev s__law_hand : Stmt := top 16
def d__law_hand : He.DefD := ⟨("_law_hand", none), "_law_hand", "_law_hand", defArgs s__law_hand, defBody s__law_hand, defScope s__law_hand, [], []⟩
abbrev s__law_draw : Stmt := top 17
def d__law_draw : He.DefD := ⟨("_law_draw", none), "_law_draw", "_law_draw", defArgs s__law_draw, defBody s__law_draw, defScope s__law_draw, [], []⟩
abbrev s__law_any : Stmt := top 18
def d__law_any : He.DefD := ⟨("_law_any", none), "_law_any", "_law_any", defArgs s__law_any, defBody s__law_any, defScope s__law_any, [], []⟩
abbrev s__law_is : Stmt := top 19
def d__law_is : He.DefD := ⟨("_law_is", none), "_law_is", "_law_is", defArgs s__law_is, defBody s__law_is, defScope s__law_is, [], []⟩
abbrev s__law_heard : Stmt := top 20
def d__law_heard : He.DefD := ⟨("_law_heard", none), "_law_heard", "_law_heard", defArgs s__law_heard, defBody s__law_heard, defScope s__law_heard, [], []⟩
abbrev s__law_primes : Stmt := top 21
def d__law_primes : He.DefD := ⟨("_law_primes", none), "_law_primes", "_law_primes", defArgs s__law_primes, defBody s__law_primes, defScope s__law_primes, [], []⟩
abbrev s__law_lucky : Stmt := top 22
def d__law_lucky : He.DefD := ⟨("_law_lucky", none), "_law_lucky", "_law_lucky", defArgs s__law_lucky, defBody s__law_lucky, defScope s__law_lucky, [], []⟩
abbrev s__law_ludic : Stmt := top 23
def d__law_ludic : He.DefD := ⟨("_law_ludic", none), "_law_ludic", "_law_ludic", defArgs s__law_ludic, defBody s__law_ludic, defScope s__law_ludic, [], []⟩
abbrev s__law_each : Stmt := top 24
def d__law_each : He.DefD := ⟨("_law_each", none), "_law_each", "_law_each", defArgs s__law_each, defBody s__law_each, defScope s__law_each, [], []⟩
abbrev s__law_summed : Stmt := top 25
def d__law_summed : He.DefD := ⟨("_law_summed", none), "_law_summed", "_law_summed", defArgs s__law_summed, defBody s__law_summed, defScope s__law_summed, [], []⟩
abbrev s__law_are_sieves_right : Stmt := top 26
def d__law_are_sieves_right : He.DefD := ⟨("_law_are_sieves_right", none), "_law_are_sieves_right", "_law_are_sieves_right", defArgs s__law_are_sieves_right, defBody s__law_are_sieves_right, defScope s__law_are_sieves_right, [], []⟩
abbrev s__law_are_places_right : Stmt := top 27
def d__law_are_places_right : He.DefD := ⟨("_law_are_places_right", none), "_law_are_places_right", "_law_are_places_right", defArgs s__law_are_places_right, defBody s__law_are_places_right, defScope s__law_are_places_right, [], []⟩
abbrev s__law_are_refused : Stmt := top 28
def d__law_are_refused : He.DefD := ⟨("_law_are_refused", none), "_law_are_refused", "_law_are_refused", defArgs s__law_are_refused, defBody s__law_are_refused, defScope s__law_are_refused, [], []⟩
abbrev s_law : Stmt := top 29
def d_law : He.DefD := ⟨("law", none), "law", "law", defArgs s_law, defBody s_law, defScope s_law, [], []⟩
def fn : List He.DefD := [d_is_integer, d_is_within, d_check_most, d_primes, d_lucky, d_ludic, d_struck_each, d_struck_at, d_summed_powers, d__law_hand, d__law_draw, d__law_any, d__law_is, d__law_heard, d__law_primes, d__law_lucky, d__law_ludic, d__law_each, d__law_summed, d__law_are_sieves_right, d__law_are_places_right, d__law_are_refused, d_law]
def fa : List He.Fa := [.glo "is_integer",
  .glo "is_within",
  .glo "check_most",
  .glo "primes",
  .glo "lucky",
  .glo "ludic",
  .glo "struck_each",
  .glo "struck_at",
  .glo "summed_powers",
  .glo "_law_hand",
  .glo "_law_draw",
  .glo "_law_any",
  .glo "_law_is",
  .glo "_law_heard",
  .glo "_law_primes",
  .glo "_law_lucky",
  .glo "_law_ludic",
  .glo "_law_each",
  .glo "_law_summed",
  .glo "_law_are_sieves_right",
  .glo "_law_are_places_right",
  .glo "_law_are_refused",
  .glo "law",
  .glo "TermError",
  .glo "BadNumber",
  .free "ValueError",
  .free "abs",
  .free "all",
  .free "bool",
  .free "enumerate",
  .free "int",
  .free "isinstance",
  .free "len",
  .free "list",
  .free "min",
  .free "range",
  .free "str",
  .free "tuple",
  .free "zip",
  .exc "TermError",
  .keep "TermError",
  .exm "TermError" "TermError" true,
  .exc "BadNumber",
  .keep "BadNumber",
  .exm "BadNumber" "TermError" true,
  .int "MOST_SIEVE" 20000]
def tf : List He.Defn := [("_law_are_refused", none)]
def names0 : List PySem.Str := ["is_integer", "is_within", "TermError", "BadNumber", "MOST_SIEVE", "check_most", "primes", "lucky", "ludic", "struck_each", "struck_at", "summed_powers", "_law_hand", "_law_draw", "_law_any", "_law_is", "_law_heard", "_law_primes", "_law_lucky", "_law_ludic", "_law_each", "_law_summed", "_law_are_sieves_right", "_law_are_places_right", "_law_are_refused"]
def names : List PySem.Str := names0
def excB (K : PySem.W.Frag) (D : Addr) : Bool := decide (PySem.W.findIn K (.ref D) "__getattribute__" = some (some (.builtin "BaseException.__getattribute__"))) && decide (PySem.W.findIn K (.ref D) "__getattr__" = some none) && decide (PySem.W.subIn K (.ref D) (.type "BaseException") = some true) && PySem.W.hasDictIn K D && decide (PySem.W.findIn K (.ref D) "__class__" = some (some (.builtin "object.__class__"))) && decide (PySem.W.specialIn K (.builtin "object.__class__") "__get__" = some (some (.builtin "getset_descriptor.__get__"))) && decide (PySem.W.takesIn K (.builtin "object.__class__") = some true) && decide (PySem.W.mroIn K D (.type "object") = some true)
def ex0 (K : PySem.W.Frag) : Bool := excB K (He.ga K "BadNumber")
def ex1 (K : PySem.W.Frag) : Bool := decide (PySem.W.kitOne K (.ref (He.ga K "BadNumber")) (.type "ValueError") = some true)
def ex2 (K : PySem.W.Frag) : Bool := decide (PySem.W.kitOne K (.ref (He.ga K "BadNumber")) (.ref (He.ga K "BadNumber")) = some true)
def ex (K : PySem.W.Frag) : Bool := ex0 K && ex1 K && ex2 K
abbrev R : PySem.W.OpenRow := PySem.W.OpenLaw.row PySem.Challenge.rw_nextterms_k76_whole_sieves
abbrev qv : Program := PySem.W.view R.prog [29]
abbrev hk : PySem.W.Hook := He.hookX 4 fa fn [] tf ex
def ob (s : PySem.W.SharedT) : He.AlX := He.obsX 4 fa fn [] tf ex (HandSHeadRun.getT s)
theorem ob_eq (s : PySem.W.SharedT) : ob s = hk.obs s.abs := He.obsX_eq (HandSHeadRun.getT_eq s)
theorem run (w : World) : HandSHeadRun.RunEq R qv hk ob 4000 names w := by
  intro os
  kernel_rfl
end Hd

set_option Elab.async false
set_option linter.all false
set_option maxRecDepth 100000
set_option maxHeartbeats 0
theorem DL.seq_cut {t u : L2.TS} {D : L2.Ends} {σ : L2.St} {H : L2.Hp} (C : L2.St → L2.Hp → Prop) (h2 : ∀ σ' H', C σ' H' → u D σ' H') (h1 : ∀ N : L2.St → L2.Hp → Prop, (∀ σ' H', C σ' H' → N σ' H') → t { D with nx := N } σ H) : L2.tSeq t u D σ H := h1 _ h2
namespace Hd
open PySem L2
def Nd : List Str := ["hand", "many", "cell", "digit", "number"]
theorem sc_draw : FnScope Nd ["hand", "many"] (defScope s__law_draw) := ⟨rfl, rfl, rfl, by decide +kernel, rfl, by decide +kernel, by decide +kernel⟩
section
variable {P : Program} {w : World} {K : PySem.W.Frag} {mg : Str → Option Value} {base : Heap} {f : Addr} {fd : FuncData}
open DL in
theorem ok_draw {T : List (Addr × Str)} {h c : Addr} {hc : h ≠ c} (F : FunD K "_law_draw" "_law_draw" (defArgs s__law_draw) (defBody s__law_draw) (defScope s__law_draw) [] [] f fd) (gI : mg "int" = none) (gL : mg "len" = none) : FnOk P w K mg base (L2N.CX P w) 1 f fd ["hand", "many"] (spD (handA T h c hc) K (drawF h)) := by
  refine F.ok sc_draw (fun vs H Q E q => ?_) (fun cdv A outer s H vs Q E hr q => ?_)
  · obtain ⟨B, ds, _, _, _, r, ⟨m, rfl, _⟩, _⟩ := q
    rw [← r.length]; rfl
  · have pI : ∀ {e : Expr} {te : TE} {p pos : Pos}, PE (cxOf (L2N.CX P w) P w K mg base Nd "_law_draw" (defScope s__law_draw) f cdv A outer s H E) e te → starEach [e] (PyProof.Rows.envOfC "_law_draw" (defScope s__law_draw) s.heap.objs.size f cdv) = (false, eval e (PyProof.Rows.envOfC "_law_draw" (defScope s__law_draw) s.heap.objs.size f cdv)) :: starEach [] (PyProof.Rows.envOfC "_law_draw" (defScope s__law_draw) s.heap.objs.size f cdv) → PE (cxOf (L2N.CX P w) P w K mg base Nd "_law_draw" (defScope s__law_draw) f cdv A outer s H E) (.Call (.Name "int" p) [e] [] pos) _ := fun he hs => pe_callTy call_int1 rfl gI rfl (pa_cons he pa_nil hs) (he := hs)
    have vh : ∀ {pos : Pos}, PE (cxOf (L2N.CX P w) P w K mg base Nd "_law_draw" (defScope s__law_draw) f cdv A outer s H E) (.Name "hand" pos) (tVar 0) := pe_var rfl (.inl rfl)
    have vm : ∀ {pos : Pos}, PE (cxOf (L2N.CX P w) P w K mg base Nd "_law_draw" (defScope s__law_draw) f cdv A outer s H E) (.Name "many" pos) (tVar 1) := pe_var rfl (.inl rfl)
    have vc : ∀ {pos : Pos}, PE (cxOf (L2N.CX P w) P w K mg base Nd "_law_draw" (defScope s__law_draw) f cdv A outer s H E) (.Name "cell" pos) (tVar 2) := pe_var rfl (.inl rfl)
    have vd : ∀ {pos : Pos}, PE (cxOf (L2N.CX P w) P w K mg base Nd "_law_draw" (defScope s__law_draw) f cdv A outer s H E) (.Name "digit" pos) (tVar 3) := pe_var rfl (.inl rfl)
    have vn : ∀ {pos : Pos}, PE (cxOf (L2N.CX P w) P w K mg base Nd "_law_draw" (defScope s__law_draw) f cdv A outer s H E) (.Name "number" pos) (tVar 4) := pe_var rfl (.inl rfl)
    have hx : ∀ {i : Int} {j} {p1 p2 p3 : Pos}, PE (cxOf (L2N.CX P w) P w K mg base Nd "_law_draw" (defScope s__law_draw) f cdv A outer s H E) (.Subscript (.Name "hand" p1) (.Constant (.int i) j p2) p3) (tOp (rIxL K) (tVar 0) (tC (.int i))) := pe_ix ix_list vh pe_int (fun _ _ => rfl)
    have st : ∀ {i : Int} {j} {e : Expr} {te : TE} {p1 p2 p3 pos : Pos}, PE (cxOf (L2N.CX P w) P w K mg base Nd "_law_draw" (defScope s__law_draw) f cdv A outer s H E) e te → swapsWithSole [.Subscript (.Name "hand" p1) (.Constant (.int i) j p2) p3] e pos.line (PyProof.Rows.envOfC "_law_draw" (defScope s__law_draw) s.heap.objs.size f cdv) = pure false → swappedStores [.Subscript (.Name "hand" p1) (.Constant (.int i) j p2) p3] e (PyProof.Rows.envOfC "_law_draw" (defScope s__law_draw) s.heap.objs.size f cdv) = pure none → PS (cxOf (L2N.CX P w) P w K mg base Nd "_law_draw" (defScope s__law_draw) f cdv A outer s H E) (.Assign [.Subscript (.Name "hand" p1) (.Constant (.int i) j p2) p3] e pos) (tAsg te (gSub (tVar 0) (tC (.int i)) rSetL)) := fun he hs hw => ps_asg he (pg_sub vh pe_int set_list) hs hw
    refine ⟨_, pss_cons (ps_if (PW.pt (pw_and (pt_cmp (pc_eqI hx pe_int)) (pw_and1 (pt_cmp (pc_lt hx (pe_callB call_len_seq rfl gL boot_len (pa_cons hx pa_nil)))))))
      (pss_cons (ps_set (i := 2) sc_draw.nd rfl (.inl rfl) (pe_ix ix_list hx hx (fun _ _ => rfl))) (pss_cons (st (pe_op op_add hx pe_int) rfl rfl) (pss_cons (st (pe_op op_mod (pI (pe_op op_add (pe_op op_add (pe_op op_mul hx pe_int) (pe_op op_mul vc pe_int)) pe_int) rfl) pe_int) rfl rfl)
        (pss_one (ps_if (pt_cmp (pc_ge vc (pe_op op_pow pe_int pe_int))) (pss_one (st vc rfl rfl)) pss_nil))))) pss_nil)
      (pss_cons (ps_if (pt_cmp (pc_gt hx pe_int)) (pss_cons (ps_set (i := 3) sc_draw.nd rfl (.inl rfl) (pe_op op_mod (pI hx rfl) vm)) (pss_cons (st (pe_op op_fdivW hx vm) rfl rfl) (pss_one (ps_ret vd)))) pss_nil)
      (pss_cons (st (pe_op op_add hx pe_int) rfl rfl)
      (pss_cons (ps_set (i := 4) sc_draw.nd rfl (.inl rfl) (pe_op op_mod (pI (pe_op op_mul (pI (pe_op op_add hx (pe_op op_mul pe_int hx)) rfl) pe_int) rfl) pe_int))
      (pss_cons (ps_set (i := 4) sc_draw.nd rfl (.inl rfl) (pe_op op_mod (pI (pe_op op_mul vn (pe_op op_add (pe_op op_fdiv vn pe_int) pe_int)) rfl) pe_int))
      (pss_cons (ps_set (i := 4) sc_draw.nd rfl (.inl rfl) (pe_op op_mod (pI (pe_op op_mul vn (pe_op op_add (pe_op op_fdiv vn pe_int) pe_int)) rfl) pe_int))
      (pss_one (ps_ret (pe_op op_mod (pI (pe_op op_fdiv vn pe_int) rfl) vm)))))))), ?_⟩
    obtain ⟨B, ds, iv, cB, om, r, ⟨m, rfl, m0, ml⟩, kq⟩ := q
    obtain ⟨v1, r1, rfl, e1, v2, r2, rfl, e2, e3⟩ := r
    cases e1; cases e2; cases e3
    have gr0 : Grow (handA T h c hc).C H H := ⟨Keep.refl, fun a h => h⟩
    have fin : ∀ (r : Int) (H' : Hp), 0 ≤ r → r < m → (handA T h c hc).inv H' → Grow (handA T h c hc).C H H' → Q (.int r) H' := fun r H' h1 h2 i g => kq (.int r) ⟨m, r, rfl, rfl, h1, h2⟩ (.int r) H' i g rfl
    have wr : ∀ {H' : Hp} {i b x y i' b' x' y' : Int}, (handA T h c hc).inv H' → Grow (handA T h c hc).C H H' → H' h = some (.lst [.ref c, .int i, .int b, .int x, .int y]) → 0 ≤ i' → (handA T h c hc).inv (upd H' h (.lst [.ref c, .int i', .int b', .int x', .int y'])) ∧ Grow (handA T h c hc).C H (upd H' h (.lst [.ref c, .int i', .int b', .int x', .int y'])) := by
      intro H' i b x y i' b' x' y' iv g e i0
      refine ⟨⟨⟨⟨i', b', x', y', i0, upd_same⟩, ?_⟩, tabs_upd iv.2 fun u z => by rw [e] at z; cases z; exact trivial⟩, g.trans ⟨fun a o z n _ => ?_, fun a z => ?_⟩⟩
      · obtain ⟨ns, z⟩ := iv.1.2
        exact ⟨ns, by rw [upd_ne (Ne.symm hc)]; exact z⟩
      · rw [upd_ne (fun z => n (.inl z))]; exact z
      · by_cases z2 : a = h
        · exact ⟨_, by rw [z2, upd_same], nt_lst⟩
        · obtain ⟨o, z, n⟩ := z
          exact ⟨o, by rw [upd_ne z2]; exact z, n⟩
    have ix : ∀ {σ' : L2.St} {H' : Hp} {k : Int} {v : V} {R : VK} {xs : List V}, σ'[0]? = some (some (.ref h)) → H' h = some (.lst xs) → atI xs k = some v → R v H' → tOp (rIxL K) (tVar 0) (tC (.int k)) σ' H' R := fun e0 e e2 q => ⟨_, e0, _, _, _, _, rfl, rfl, sql_of e, e2, q⟩
    have pos : ∀ a : Int, 0 < m → 0 ≤ a % m := fun a hm => Int.emod_nonneg a (by omega)
    have lt : ∀ a : Int, 0 < m → a % m < m := fun a hm => Int.emod_lt_of_pos a hm
    have bd : ∀ a : Int, -2 ^ 64 < a % 2147483647 ∧ a % 2147483647 < 2 ^ 64 := fun a => by have := Int.emod_nonneg a (b := 2147483647) (by decide); have := Int.emod_lt_of_pos a (b := 2147483647) (by decide); omega
    let Cn : L2.St → Hp → Prop := fun σ' H' => (∃ a b d, σ' = [some (.ref h), some (.int m), a, b, d]) ∧ (handA T h c hc).inv H' ∧ Grow (handA T h c hc).C H H'
    refine DL.seq_cut Cn ?_ ?_
    · rintro σ' H' ⟨⟨a, b0, d, rfl⟩, iv', g'⟩
      refine DL.seq_cut Cn ?_ ?_
      · rintro σ2 H2 ⟨⟨a, b0, d, rfl⟩, iv2, g2⟩
        obtain ⟨⟨i, b, x, y, i0, e⟩, ns, en⟩ := iv2.1
        -- hand[4] = hand[4] + 1, then the numbers
        refine ix (v := .int y) rfl e rfl ?_
        refine ⟨_, _, rfl, rfl, ?_⟩
        refine ⟨.ref h, rfl, h, _, 4, 4, rfl, rfl, e, rfl, ?_⟩
        obtain ⟨iv3, g3⟩ := wr (i' := i) (b' := b) (x' := x) (y' := y + 1) iv2 g2 e i0
        generalize hH3 : upd H2 h (.lst [.ref c, .int i, .int b, .int x, .int (y + 1)]) = H3 at iv3 g3
        have e3 : H3 h = some (.lst [.ref c, .int i, .int b, .int x, .int (y + 1)]) := by rw [← hH3, upd_same]
        show _
        rw [show upd H2 h (HO.lst ([V.ref c, V.int i, V.int b, V.int x, V.int y].set 4 (V.int (y + 1)))) = H3 from hH3]
        refine ix (v := .int x) rfl e3 rfl ?_
        refine ix (v := .int (y + 1)) rfl e3 rfl ?_
        refine ⟨_, _, rfl, rfl, .inl ⟨by omega, by omega⟩, ?_⟩
        refine ⟨_, _, rfl, rfl, .inl ⟨_, rfl, ?_⟩⟩
        refine ⟨_, _, rfl, rfl, .inr ⟨by omega, by omega⟩, .inl ⟨_, rfl, ?_⟩⟩
        refine ⟨_, _, rfl, rfl, by omega, ?_⟩
        refine ⟨_, rfl, _, rfl, ?_⟩
        refine ⟨_, _, rfl, rfl, ⟨by decide, by decide⟩, _, _, rfl, rfl, _, _, rfl, rfl, .inl (bd _), .inl ⟨_, rfl, _, _, rfl, rfl, (by decide : (0 : Int) < 2147483647), ?_⟩⟩
        refine ⟨_, rfl, _, rfl, ?_⟩
        refine ⟨_, _, rfl, rfl, ⟨by decide, by decide⟩, _, _, rfl, rfl, _, _, rfl, rfl, .inl (bd _), .inl ⟨_, rfl, _, _, rfl, rfl, (by decide : (0 : Int) < 2147483563), ?_⟩⟩
        refine ⟨_, rfl, _, _, rfl, rfl, ⟨by decide, by decide⟩, .inl ⟨_, rfl, .int m, rfl, _, _, rfl, rfl, m0, ?_⟩⟩
        exact fin _ _ (pos _ m0) (lt _ m0) iv3 g3
      · intro N hN
        obtain ⟨⟨i, b, x, y, i0, e⟩, ns, en⟩ := iv'.1
        refine ix (v := .int b) rfl e rfl ?_
        refine ⟨b, 0, rfl, rfl, _, rfl, ?_⟩
        by_cases hb : (0 : Int) < b
        · refine (if_pos (decide_eq_true hb)).mpr ?_
          refine ix (v := .int b) rfl e rfl ?_
          refine .inl ⟨_, rfl, .int m, rfl, _, _, rfl, rfl, m0, ?_⟩
          refine ix (v := .int b) rfl e rfl ?_
          refine ⟨.int m, rfl, _, _, rfl, rfl, ⟨m0, ml⟩, ?_⟩
          refine ⟨.ref h, rfl, h, _, 2, 2, rfl, rfl, e, rfl, ?_⟩
          obtain ⟨iv3, g3⟩ := wr (i' := i) (b' := b / m) (x' := x) (y' := y) iv' g' e i0
          exact ⟨.int (b % m), rfl, fin (b % m) _ (pos b m0) (lt b m0) iv3 g3⟩
        · refine (if_neg (by simpa using hb)).mpr ?_
          exact hN _ _ ⟨⟨a, b0, d, rfl⟩, iv', g'⟩
    · intro N hN
      obtain ⟨⟨i, b, x, y, i0, e⟩, ns, en⟩ := iv.1
      refine ix (v := .int b) rfl e rfl ?_
      refine ⟨b, 0, rfl, rfl, _, rfl, ?_⟩
      by_cases hb : b = 0
      · refine (if_pos (decide_eq_true hb)).mpr ?_
        refine ix (v := .int i) rfl e rfl ?_
        refine ix (v := .ref c) rfl e rfl ?_
        refine ⟨c, ns.map V.int, rfl, .inl (sql_of en), ?_⟩
        refine ⟨i, _, rfl, rfl, _, rfl, ?_⟩
        by_cases hl : i < ((ns.map V.int).length : Int)
        · refine (if_pos (decide_eq_true hl)).mpr ?_
          refine ix (v := .ref c) rfl e rfl ?_
          refine ix (v := .int i) rfl e rfl ?_
          obtain ⟨cell, hcell⟩ : ∃ cell : Int, atI (ns.map V.int) i = some (.int cell) := by
            have hi : i.toNat < ns.length := by rw [List.length_map] at hl; omega
            refine ⟨ns[i.toNat], ?_⟩
            unfold atI ixN
            rw [if_pos i0, if_pos hl]
            show (ns.map V.int)[i.toNat]? = _
            rw [List.getElem?_map, List.getElem?_eq_getElem hi]; rfl
          refine ⟨c, _, i, .int cell, rfl, rfl, sql_of en, hcell, ?_⟩
          -- hand[1] = hand[1] + 1
          refine ix (v := .int i) rfl e rfl ?_
          refine ⟨_, _, rfl, rfl, ?_⟩
          refine ⟨.ref h, rfl, h, _, 1, 1, rfl, rfl, e, rfl, ?_⟩
          obtain ⟨iv3, g3⟩ := wr (i' := i + 1) (b' := b) (x' := x) (y' := y) iv gr0 e (by omega)
          have e3 : upd H h (.lst [.ref c, .int (i + 1), .int b, .int x, .int y]) h = some (.lst [.ref c, .int (i + 1), .int b, .int x, .int y]) := upd_same
          refine ix (v := .int x) rfl e3 rfl ?_
          refine ⟨_, _, rfl, rfl, .inr ⟨by decide, by decide⟩, ?_⟩
          refine ⟨.int cell, rfl, _, _, rfl, rfl, .inr ⟨by decide, by decide⟩, ?_⟩
          refine ⟨_, _, rfl, rfl, _, _, rfl, rfl, .inl ⟨_, rfl, _, _, rfl, rfl, (by decide : (0 : Int) < 2147483629), ?_⟩⟩
          refine ⟨.ref h, rfl, h, _, 3, 3, rfl, rfl, e3, rfl, ?_⟩
          have w4 := fun x' => wr (i' := i + 1) (b' := b) (x' := x') (y' := y) iv3 g3 e3 (by omega)
          refine ⟨.int cell, rfl, 10, 18, rfl, rfl, ⟨by decide, by decide, by decide⟩, ?_⟩
          refine ⟨cell, _, rfl, rfl, _, rfl, ?_⟩
          by_cases hg : (10 : Int) ^ (18 : Int).toNat ≤ cell
          · refine (if_pos (decide_eq_true hg)).mpr ?_
            refine ⟨.int cell, rfl, .ref h, rfl, h, _, 2, 2, rfl, rfl, upd_same, rfl, ?_⟩
            exact hN _ _ ⟨⟨_, _, _, rfl⟩, wr (i' := i + 1) (b' := cell) (y' := y) (w4 _).1 (w4 _).2 upd_same (by omega)⟩
          · refine (if_neg (by simpa using hg)).mpr ?_
            exact hN _ _ ⟨⟨_, _, _, rfl⟩, w4 _⟩
        · refine (if_neg (by simpa using hl)).mpr ?_
          exact hN _ _ ⟨⟨_, _, _, rfl⟩, iv, gr0⟩
      · refine (if_neg (by simpa using hb)).mpr ?_
        exact hN _ _ ⟨⟨_, _, _, rfl⟩, iv, gr0⟩
end
end Hd

set_option Elab.async false
set_option linter.all false
set_option maxRecDepth 100000
set_option maxHeartbeats 0
namespace Hd
open PySem L2 DL
structure Ad where
  (is_integer is_within check_most primes lucky ludic struck_each struck_at summed_powers _law_hand _law_draw _law_any _law_is _law_heard _law_primes _law_lucky _law_ludic _law_each _law_summed _law_are_sieves_right _law_are_places_right _law_are_refused law TermError BadNumber : Addr)
structure Fx (P : Program) (w : World) (K : PySem.W.Frag) (mg : Str → Option Value) (ad : Ad) : Prop where
  f_is_integer : ∃ fd, FunD K "is_integer" "is_integer" (defArgs s_is_integer) (defBody s_is_integer) (defScope s_is_integer) [] [] ad.is_integer fd
  g_is_integer : mg "is_integer" = some (.ref ad.is_integer)
  f_is_within : ∃ fd, FunD K "is_within" "is_within" (defArgs s_is_within) (defBody s_is_within) (defScope s_is_within) [] [] ad.is_within fd
  g_is_within : mg "is_within" = some (.ref ad.is_within)
  f_check_most : ∃ fd, FunD K "check_most" "check_most" (defArgs s_check_most) (defBody s_check_most) (defScope s_check_most) [] [] ad.check_most fd
  g_check_most : mg "check_most" = some (.ref ad.check_most)
  f_primes : ∃ fd, FunD K "primes" "primes" (defArgs s_primes) (defBody s_primes) (defScope s_primes) [] [] ad.primes fd
  g_primes : mg "primes" = some (.ref ad.primes)
  f_lucky : ∃ fd, FunD K "lucky" "lucky" (defArgs s_lucky) (defBody s_lucky) (defScope s_lucky) [] [] ad.lucky fd
  g_lucky : mg "lucky" = some (.ref ad.lucky)
  f_ludic : ∃ fd, FunD K "ludic" "ludic" (defArgs s_ludic) (defBody s_ludic) (defScope s_ludic) [] [] ad.ludic fd
  g_ludic : mg "ludic" = some (.ref ad.ludic)
  f_struck_each : ∃ fd, FunD K "struck_each" "struck_each" (defArgs s_struck_each) (defBody s_struck_each) (defScope s_struck_each) [] [] ad.struck_each fd
  g_struck_each : mg "struck_each" = some (.ref ad.struck_each)
  f_struck_at : ∃ fd, FunD K "struck_at" "struck_at" (defArgs s_struck_at) (defBody s_struck_at) (defScope s_struck_at) [] [] ad.struck_at fd
  g_struck_at : mg "struck_at" = some (.ref ad.struck_at)
  f_summed_powers : ∃ fd, FunD K "summed_powers" "summed_powers" (defArgs s_summed_powers) (defBody s_summed_powers) (defScope s_summed_powers) [] [] ad.summed_powers fd
  g_summed_powers : mg "summed_powers" = some (.ref ad.summed_powers)
  f__law_hand : ∃ fd, FunD K "_law_hand" "_law_hand" (defArgs s__law_hand) (defBody s__law_hand) (defScope s__law_hand) [] [] ad._law_hand fd
  g__law_hand : mg "_law_hand" = some (.ref ad._law_hand)
  f__law_draw : ∃ fd, FunD K "_law_draw" "_law_draw" (defArgs s__law_draw) (defBody s__law_draw) (defScope s__law_draw) [] [] ad._law_draw fd
  g__law_draw : mg "_law_draw" = some (.ref ad._law_draw)
  f__law_any : ∃ fd, FunD K "_law_any" "_law_any" (defArgs s__law_any) (defBody s__law_any) (defScope s__law_any) [] [] ad._law_any fd
  g__law_any : mg "_law_any" = some (.ref ad._law_any)
  f__law_is : ∃ fd, FunD K "_law_is" "_law_is" (defArgs s__law_is) (defBody s__law_is) (defScope s__law_is) [] [] ad._law_is fd
  g__law_is : mg "_law_is" = some (.ref ad._law_is)
  f__law_heard : ∃ fd, FunD K "_law_heard" "_law_heard" (defArgs s__law_heard) (defBody s__law_heard) (defScope s__law_heard) [] [] ad._law_heard fd
  g__law_heard : mg "_law_heard" = some (.ref ad._law_heard)
  f__law_primes : ∃ fd, FunD K "_law_primes" "_law_primes" (defArgs s__law_primes) (defBody s__law_primes) (defScope s__law_primes) [] [] ad._law_primes fd
  g__law_primes : mg "_law_primes" = some (.ref ad._law_primes)
  f__law_lucky : ∃ fd, FunD K "_law_lucky" "_law_lucky" (defArgs s__law_lucky) (defBody s__law_lucky) (defScope s__law_lucky) [] [] ad._law_lucky fd
  g__law_lucky : mg "_law_lucky" = some (.ref ad._law_lucky)
  f__law_ludic : ∃ fd, FunD K "_law_ludic" "_law_ludic" (defArgs s__law_ludic) (defBody s__law_ludic) (defScope s__law_ludic) [] [] ad._law_ludic fd
  g__law_ludic : mg "_law_ludic" = some (.ref ad._law_ludic)
  f__law_each : ∃ fd, FunD K "_law_each" "_law_each" (defArgs s__law_each) (defBody s__law_each) (defScope s__law_each) [] [] ad._law_each fd
  g__law_each : mg "_law_each" = some (.ref ad._law_each)
  f__law_summed : ∃ fd, FunD K "_law_summed" "_law_summed" (defArgs s__law_summed) (defBody s__law_summed) (defScope s__law_summed) [] [] ad._law_summed fd
  g__law_summed : mg "_law_summed" = some (.ref ad._law_summed)
  f__law_are_sieves_right : ∃ fd, FunD K "_law_are_sieves_right" "_law_are_sieves_right" (defArgs s__law_are_sieves_right) (defBody s__law_are_sieves_right) (defScope s__law_are_sieves_right) [] [] ad._law_are_sieves_right fd
  g__law_are_sieves_right : mg "_law_are_sieves_right" = some (.ref ad._law_are_sieves_right)
  f__law_are_places_right : ∃ fd, FunD K "_law_are_places_right" "_law_are_places_right" (defArgs s__law_are_places_right) (defBody s__law_are_places_right) (defScope s__law_are_places_right) [] [] ad._law_are_places_right fd
  g__law_are_places_right : mg "_law_are_places_right" = some (.ref ad._law_are_places_right)
  f__law_are_refused : ∃ fd, FunD K "_law_are_refused" "_law_are_refused" (defArgs s__law_are_refused) (defBody s__law_are_refused) (defScope s__law_are_refused) [] [] ad._law_are_refused fd
  g__law_are_refused : mg "_law_are_refused" = some (.ref ad._law_are_refused)
  g_TermError : mg "TermError" = some (.ref ad.TermError)
  k_TermError : PySem.W.keepIn K (.ref ad.TermError) = true
  x_TermError : PySem.W.excIn K ad.TermError [.type "ValueError", .type "Exception", .type "BaseException", .type "object"] "ValueError.__new__" = true
  b_TermError : PySem.W.subIn K (.ref ad.TermError) (.type "BaseException") = some true
  t_TermError : PySem.W.typeIn K (.ref ad.TermError) = some (.type "type")
  g_BadNumber : mg "BadNumber" = some (.ref ad.BadNumber)
  k_BadNumber : PySem.W.keepIn K (.ref ad.BadNumber) = true
  x_BadNumber : PySem.W.excIn K ad.BadNumber [.type "ValueError", .type "Exception", .type "BaseException", .type "object"] "ValueError.__new__" = true
  b_BadNumber : PySem.W.subIn K (.ref ad.BadNumber) (.type "BaseException") = some true
  t_BadNumber : PySem.W.typeIn K (.ref ad.BadNumber) = some (.type "type")
  m_BadNumber : PySem.W.exmOne K (.ref ad.BadNumber) (.ref ad.TermError) = some true
  e_BadNumber : ExcC K ad.BadNumber
  q_BadNumber_ValueError : PySem.W.kitOne K (.ref ad.BadNumber) (.type "ValueError") = some true
  q_BadNumber_BadNumber : PySem.W.kitOne K (.ref ad.BadNumber) (.ref ad.BadNumber) = some true
  g_MOST_SIEVE : ∃ t, mg "MOST_SIEVE" = some (.int 20000 t)
  g_ValueError : mg "ValueError" = none
  g_abs : mg "abs" = none
  g_all : mg "all" = none
  g_bool : mg "bool" = none
  g_enumerate : mg "enumerate" = none
  g_int : mg "int" = none
  g_isinstance : mg "isinstance" = none
  g_len : mg "len" = none
  g_list : mg "list" = none
  g_min : mg "min" = none
  g_range : mg "range" = none
  g_str : mg "str" = none
  g_tuple : mg "tuple" = none
  g_zip : mg "zip" = none
def adK (K : PySem.W.Frag) : Ad := ⟨He.ga K "is_integer", He.ga K "is_within", He.ga K "check_most", He.ga K "primes", He.ga K "lucky", He.ga K "ludic", He.ga K "struck_each", He.ga K "struck_at", He.ga K "summed_powers", He.ga K "_law_hand", He.ga K "_law_draw", He.ga K "_law_any", He.ga K "_law_is", He.ga K "_law_heard", He.ga K "_law_primes", He.ga K "_law_lucky", He.ga K "_law_ludic", He.ga K "_law_each", He.ga K "_law_summed", He.ga K "_law_are_sieves_right", He.ga K "_law_are_places_right", He.ga K "_law_are_refused", He.ga K "law", He.ga K "TermError", He.ga K "BadNumber"⟩
theorem ex_of {K : PySem.W.Frag} (h : ex K = true) : ex0 K = true ∧ ex1 K = true ∧ ex2 K = true := by
  unfold ex at h
  simp only [Bool.and_eq_true] at h
  obtain ⟨h0, h1, h2⟩ := (by simpa only [and_assoc] using h : ex0 K = true ∧ ex1 K = true ∧ ex2 K = true)
  exact ⟨h0, h1, h2⟩
theorem exc_of {K : PySem.W.Frag} {D : Addr} (h : excB K D = true) : ExcC K D := by
  unfold excB at h
  simp only [Bool.and_eq_true, decide_eq_true_eq] at h
  obtain ⟨⟨⟨⟨⟨⟨⟨a, b⟩, c⟩, d⟩, e⟩, f⟩, g⟩, h⟩ := h
  exact ⟨a, b, c, d, e, f, g, h⟩
theorem fx_of {P : Program} {w : World} {K : PySem.W.Frag} {h h0 : Heap} {mg : Str → Option Value} (X : K.In h) (G : h.Ns mainGlobals mg) (c : He.SaysX fa fn [] tf ex w h0 K) : Fx P w K mg (adK K) := by
  obtain ⟨h0, h1, h2⟩ := ex_of c.more
  have q_BadNumber_BadNumber : PySem.W.kitOne K (.ref (He.ga K "BadNumber")) (.ref (He.ga K "BadNumber")) = some true := of_decide_eq_true h2
  exact {
    f_is_integer := c.t.d.def_ 0 (d := d_is_integer) rfl
    g_is_integer := He.glo_ok X G (c.t.d.fact 0 (f := .glo "is_integer") rfl)
    f_is_within := c.t.d.def_ 1 (d := d_is_within) rfl
    g_is_within := He.glo_ok X G (c.t.d.fact 1 (f := .glo "is_within") rfl)
    f_check_most := c.t.d.def_ 2 (d := d_check_most) rfl
    g_check_most := He.glo_ok X G (c.t.d.fact 2 (f := .glo "check_most") rfl)
    f_primes := c.t.d.def_ 3 (d := d_primes) rfl
    g_primes := He.glo_ok X G (c.t.d.fact 3 (f := .glo "primes") rfl)
    f_lucky := c.t.d.def_ 4 (d := d_lucky) rfl
    g_lucky := He.glo_ok X G (c.t.d.fact 4 (f := .glo "lucky") rfl)
    f_ludic := c.t.d.def_ 5 (d := d_ludic) rfl
    g_ludic := He.glo_ok X G (c.t.d.fact 5 (f := .glo "ludic") rfl)
    f_struck_each := c.t.d.def_ 6 (d := d_struck_each) rfl
    g_struck_each := He.glo_ok X G (c.t.d.fact 6 (f := .glo "struck_each") rfl)
    f_struck_at := c.t.d.def_ 7 (d := d_struck_at) rfl
    g_struck_at := He.glo_ok X G (c.t.d.fact 7 (f := .glo "struck_at") rfl)
    f_summed_powers := c.t.d.def_ 8 (d := d_summed_powers) rfl
    g_summed_powers := He.glo_ok X G (c.t.d.fact 8 (f := .glo "summed_powers") rfl)
    f__law_hand := c.t.d.def_ 9 (d := d__law_hand) rfl
    g__law_hand := He.glo_ok X G (c.t.d.fact 9 (f := .glo "_law_hand") rfl)
    f__law_draw := c.t.d.def_ 10 (d := d__law_draw) rfl
    g__law_draw := He.glo_ok X G (c.t.d.fact 10 (f := .glo "_law_draw") rfl)
    f__law_any := c.t.d.def_ 11 (d := d__law_any) rfl
    g__law_any := He.glo_ok X G (c.t.d.fact 11 (f := .glo "_law_any") rfl)
    f__law_is := c.t.d.def_ 12 (d := d__law_is) rfl
    g__law_is := He.glo_ok X G (c.t.d.fact 12 (f := .glo "_law_is") rfl)
    f__law_heard := c.t.d.def_ 13 (d := d__law_heard) rfl
    g__law_heard := He.glo_ok X G (c.t.d.fact 13 (f := .glo "_law_heard") rfl)
    f__law_primes := c.t.d.def_ 14 (d := d__law_primes) rfl
    g__law_primes := He.glo_ok X G (c.t.d.fact 14 (f := .glo "_law_primes") rfl)
    f__law_lucky := c.t.d.def_ 15 (d := d__law_lucky) rfl
    g__law_lucky := He.glo_ok X G (c.t.d.fact 15 (f := .glo "_law_lucky") rfl)
    f__law_ludic := c.t.d.def_ 16 (d := d__law_ludic) rfl
    g__law_ludic := He.glo_ok X G (c.t.d.fact 16 (f := .glo "_law_ludic") rfl)
    f__law_each := c.t.d.def_ 17 (d := d__law_each) rfl
    g__law_each := He.glo_ok X G (c.t.d.fact 17 (f := .glo "_law_each") rfl)
    f__law_summed := c.t.d.def_ 18 (d := d__law_summed) rfl
    g__law_summed := He.glo_ok X G (c.t.d.fact 18 (f := .glo "_law_summed") rfl)
    f__law_are_sieves_right := c.t.d.def_ 19 (d := d__law_are_sieves_right) rfl
    g__law_are_sieves_right := He.glo_ok X G (c.t.d.fact 19 (f := .glo "_law_are_sieves_right") rfl)
    f__law_are_places_right := c.t.d.def_ 20 (d := d__law_are_places_right) rfl
    g__law_are_places_right := He.glo_ok X G (c.t.d.fact 20 (f := .glo "_law_are_places_right") rfl)
    f__law_are_refused := c.t.d.def_ 21 (d := d__law_are_refused) rfl
    g__law_are_refused := He.glo_ok X G (c.t.d.fact 21 (f := .glo "_law_are_refused") rfl)
    g_TermError := He.glo_ok X G (c.t.d.fact 23 (f := .glo "TermError") rfl)
    k_TermError := (He.exc_ok (x := "TermError") (c.t.d.fact 39 rfl)).2.1
    x_TermError := (He.exc_ok (x := "TermError") (c.t.d.fact 39 rfl)).1
    b_TermError := (He.exc_ok (x := "TermError") (c.t.d.fact 39 rfl)).2.2.1
    t_TermError := (He.exc_ok (x := "TermError") (c.t.d.fact 39 rfl)).2.2.2
    g_BadNumber := He.glo_ok X G (c.t.d.fact 24 (f := .glo "BadNumber") rfl)
    k_BadNumber := (He.exc_ok (x := "BadNumber") (c.t.d.fact 42 rfl)).2.1
    x_BadNumber := (He.exc_ok (x := "BadNumber") (c.t.d.fact 42 rfl)).1
    b_BadNumber := (He.exc_ok (x := "BadNumber") (c.t.d.fact 42 rfl)).2.2.1
    t_BadNumber := (He.exc_ok (x := "BadNumber") (c.t.d.fact 42 rfl)).2.2.2
    m_BadNumber := He.exm_ok (x := "BadNumber") (y := "TermError") (c.t.d.fact 44 rfl)
    e_BadNumber := exc_of h0
    q_BadNumber_ValueError := of_decide_eq_true h1
    q_BadNumber_BadNumber := q_BadNumber_BadNumber
    g_MOST_SIEVE := He.int_ok X G (x := "MOST_SIEVE") (c.t.d.fact 45 rfl)
    g_ValueError := He.free_ok X G (x := "ValueError") (c.t.d.fact 25 rfl)
    g_abs := He.free_ok X G (x := "abs") (c.t.d.fact 26 rfl)
    g_all := He.free_ok X G (x := "all") (c.t.d.fact 27 rfl)
    g_bool := He.free_ok X G (x := "bool") (c.t.d.fact 28 rfl)
    g_enumerate := He.free_ok X G (x := "enumerate") (c.t.d.fact 29 rfl)
    g_int := He.free_ok X G (x := "int") (c.t.d.fact 30 rfl)
    g_isinstance := He.free_ok X G (x := "isinstance") (c.t.d.fact 31 rfl)
    g_len := He.free_ok X G (x := "len") (c.t.d.fact 32 rfl)
    g_list := He.free_ok X G (x := "list") (c.t.d.fact 33 rfl)
    g_min := He.free_ok X G (x := "min") (c.t.d.fact 34 rfl)
    g_range := He.free_ok X G (x := "range") (c.t.d.fact 35 rfl)
    g_str := He.free_ok X G (x := "str") (c.t.d.fact 36 rfl)
    g_tuple := He.free_ok X G (x := "tuple") (c.t.d.fact 37 rfl)
    g_zip := He.free_ok X G (x := "zip") (c.t.d.fact 38 rfl)
  }
def lq__law_are_refused : Str := (PyProof.Rows.envOfC "_law_are_refused" (defScope s__law_are_refused) 0 0 .none).qual ++ "<lambda>"
def TT (P0 : Addr) : List (Addr × Str) := [(P0, lq__law_are_refused)]
abbrev GG (P0 : Addr) (h c : Addr) (hc : h ≠ c) : Amb := handA (TT P0) h c hc
theorem hu__law_are_refused {P0 : Addr} : ∀ p ∈ TT P0, p.1 = P0 → p.2 = lq__law_are_refused := fun p hp _ => by simp only [TT, List.mem_singleton] at hp; rw [hp]
def N_is_integer : List Str := ["thing"]
theorem sc_is_integer : FnScope N_is_integer ["thing"] (defScope s_is_integer) := ⟨rfl, rfl, rfl, by decide +kernel, rfl, by decide +kernel, by decide +kernel⟩
theorem nd_is_integer : N_is_integer.Nodup := sc_is_integer.nd
def t_is_integer (ad : Ad) : DSt := (xRet (xAndV (xUn (isiR [.int]) (xVar 0)) (xNotV (xUn (isiR [.bl]) (xVar 0)))))
theorem der_is_integer {P : Program} {w : World} {K : PySem.W.Frag} {mg : Str → Option Value} {base : Heap} {ad : Ad} {G : Amb} {f : Addr} {k : Nat} (fx : Fx P w K mg ad) (cdv : Value) (A : Around) (outer : List PySem.Env) (s : Shared) (H : Hp) (E : XK) (hr : Room k (A.deeper (PyProof.Rows.envOfC "is_integer" (defScope s_is_integer) s.heap.objs.size f cdv))) :
    DSs (cxOf (L2N.CX P w) P w K mg base N_is_integer "is_integer" (defScope s_is_integer) f cdv A outer s H E) G E (defBody s_is_integer) (t_is_integer ad) := by
  have hu := hr.units
  have hu5 := units5 hr
  have htk : L2N.Takes (cxOf (L2N.CX P w) P w K mg base N_is_integer "is_integer" (defScope s_is_integer) f cdv A outer s H E) (fun cls d _ H => E cls d H) := L2N.takes_of rfl rfl rfl rfl
  have hx : Passes (L2N.CX P w) (cxOf (L2N.CX P w) P w K mg base N_is_integer "is_integer" (defScope s_is_integer) f cdv A outer s H E) E := L2N.passes_call htk (fun _ _ _ _ h => h)
  have hp : PassesOwn (model P w) (cxOf (L2N.CX P w) P w K mg base N_is_integer "is_integer" (defScope s_is_integer) f cdv A outer s H E).A (cxOf (L2N.CX P w) P w K mg base N_is_integer "is_integer" (defScope s_is_integer) f cdv A outer s H E).env (cxOf (L2N.CX P w) P w K mg base N_is_integer "is_integer" (defScope s_is_integer) f cdv A outer s H E).xe := passes_of rfl
  exact (dss_one (ds_ret (de_and (de_isi .int (de_var (i := 0) rfl (by first | exact .inl rfl | exact .inr (.inl rfl) | exact .inr (.inr rfl))) rfl fx.g_isinstance rfl fx.g_int rfl) (de_one (de_not (de_isi .bl (de_var (i := 0) rfl (by first | exact .inl rfl | exact .inr (.inl rfl) | exact .inr (.inr rfl))) rfl fx.g_isinstance rfl fx.g_bool rfl))))))
def N_is_within : List Str := ["thing", "low", "high"]
theorem sc_is_within : FnScope N_is_within ["thing", "low", "high"] (defScope s_is_within) := ⟨rfl, rfl, rfl, by decide +kernel, rfl, by decide +kernel, by decide +kernel⟩
theorem nd_is_within : N_is_within.Nodup := sc_is_within.nd
def t_is_within (ad : Ad) (f_is_integer : FSp) : DSt := (xRet (xAndV (xCall f_is_integer (xConsA (xMov 0) xNilA)) (xChain intC intC (intF fun i j => decide (i ≤ j)) (intF fun i j => decide (i ≤ j)) (xVar 1) (xVar 0) (xVar 2))))
theorem der_is_within {P : Program} {w : World} {K : PySem.W.Frag} {mg : Str → Option Value} {base : Heap} {ad : Ad} {G : Amb} {f : Addr} {k : Nat} (fx : Fx P w K mg ad) {k_is_integer : Nat} {f_is_integer : FSp} (c_is_integer : Cal P w K mg base G "is_integer" ad.is_integer k_is_integer f_is_integer) (l_is_integer : k_is_integer ≤ k) (cdv : Value) (A : Around) (outer : List PySem.Env) (s : Shared) (H : Hp) (E : XK) (hr : Room k (A.deeper (PyProof.Rows.envOfC "is_within" (defScope s_is_within) s.heap.objs.size f cdv))) :
    DSs (cxOf (L2N.CX P w) P w K mg base N_is_within "is_within" (defScope s_is_within) f cdv A outer s H E) G E (defBody s_is_within) (t_is_within ad f_is_integer) := by
  have hu := hr.units
  have hu5 := units5 hr
  have htk : L2N.Takes (cxOf (L2N.CX P w) P w K mg base N_is_within "is_within" (defScope s_is_within) f cdv A outer s H E) (fun cls d _ H => E cls d H) := L2N.takes_of rfl rfl rfl rfl
  have hx : Passes (L2N.CX P w) (cxOf (L2N.CX P w) P w K mg base N_is_within "is_within" (defScope s_is_within) f cdv A outer s H E) E := L2N.passes_call htk (fun _ _ _ _ h => h)
  have hp : PassesOwn (model P w) (cxOf (L2N.CX P w) P w K mg base N_is_within "is_within" (defScope s_is_within) f cdv A outer s H E).A (cxOf (L2N.CX P w) P w K mg base N_is_within "is_within" (defScope s_is_within) f cdv A outer s H E).env (cxOf (L2N.CX P w) P w K mg base N_is_within "is_within" (defScope s_is_within) f cdv A outer s H E).xe := passes_of rfl
  exact (dss_one (ds_ret (de_and (de_callC c_is_integer (hr.mono (by omega)) rfl hx (da_cons (de_mov (i := 0) rfl (by first | exact .inl rfl | exact .inr (.inl rfl) | exact .inr (.inr rfl))) da_nil)) (de_one (de_chain opd_le opd_le (de_var (i := 1) rfl (by first | exact .inl rfl | exact .inr (.inl rfl) | exact .inr (.inr rfl))) (de_var (i := 0) rfl (by first | exact .inl rfl | exact .inr (.inl rfl) | exact .inr (.inr rfl))) (de_var (i := 2) rfl (by first | exact .inl rfl | exact .inr (.inl rfl) | exact .inr (.inr rfl))))))))
def N_check_most : List Str := ["most"]
theorem sc_check_most : FnScope N_check_most ["most"] (defScope s_check_most) := ⟨rfl, rfl, rfl, by decide +kernel, rfl, by decide +kernel, by decide +kernel⟩
theorem nd_check_most : N_check_most.Nodup := sc_check_most.nd
def t_check_most (ad : Ad) (f_is_within : FSp) : DSt := (xIf (xNot (xTru (xCall f_is_within (xConsA (xMov 0) (xConsA (xC (.int 0)) (xConsA (xC (.int 20000)) xNilA)))))) (xRaise ⟨ad.BadNumber, none⟩) xNext)
theorem der_check_most {P : Program} {w : World} {K : PySem.W.Frag} {mg : Str → Option Value} {base : Heap} {ad : Ad} {G : Amb} {f : Addr} {k : Nat} (fx : Fx P w K mg ad) {k_is_within : Nat} {f_is_within : FSp} (c_is_within : Cal P w K mg base G "is_within" ad.is_within k_is_within f_is_within) (l_is_within : k_is_within ≤ k) (cdv : Value) (A : Around) (outer : List PySem.Env) (s : Shared) (H : Hp) (E : XK) (hr : Room k (A.deeper (PyProof.Rows.envOfC "check_most" (defScope s_check_most) s.heap.objs.size f cdv))) :
    DSs (cxOf (L2N.CX P w) P w K mg base N_check_most "check_most" (defScope s_check_most) f cdv A outer s H E) G E (defBody s_check_most) (t_check_most ad f_is_within) := by
  have hu := hr.units
  have hu5 := units5 hr
  have htk : L2N.Takes (cxOf (L2N.CX P w) P w K mg base N_check_most "check_most" (defScope s_check_most) f cdv A outer s H E) (fun cls d _ H => E cls d H) := L2N.takes_of rfl rfl rfl rfl
  have hx : Passes (L2N.CX P w) (cxOf (L2N.CX P w) P w K mg base N_check_most "check_most" (defScope s_check_most) f cdv A outer s H E) E := L2N.passes_call htk (fun _ _ _ _ h => h)
  have hp : PassesOwn (model P w) (cxOf (L2N.CX P w) P w K mg base N_check_most "check_most" (defScope s_check_most) f cdv A outer s H E).A (cxOf (L2N.CX P w) P w K mg base N_check_most "check_most" (defScope s_check_most) f cdv A outer s H E).env (cxOf (L2N.CX P w) P w K mg base N_check_most "check_most" (defScope s_check_most) f cdv A outer s H E).xe := passes_of rfl
  obtain ⟨tk_MOST_SIEVE, gc_MOST_SIEVE⟩ := fx.g_MOST_SIEVE
  exact (dss_one (ds_if (db_not (db_tru (de_callC c_is_within (hr.mono (by omega)) rfl hx (da_cons (de_mov (i := 0) rfl (by first | exact .inl rfl | exact .inr (.inl rfl) | exact .inr (.inr rfl))) (da_cons de_int (da_cons (de_con rfl gc_MOST_SIEVE) da_nil)))))) (dss_one (ds_raise rfl htk fx.x_BadNumber fx.g_BadNumber fx.k_BadNumber fx.b_BadNumber fx.t_BadNumber rfl)) dss_nil))
def N_primes : List Str := ["most", "struck", "found", "number", "later"]
theorem sc_primes : FnScope N_primes ["most"] (defScope s_primes) := ⟨rfl, rfl, rfl, by decide +kernel, rfl, by decide +kernel, by decide +kernel⟩
theorem nd_primes : N_primes.Nodup := sc_primes.nd
def b_primes_1 (ad : Ad) (f_check_most : FSp) : DSt := (xAsg (xC (.bl true)) (xSub 1 (xVar 4)))
def k_primes_2 (ad : Ad) (f_check_most : FSp) : DSt := (xFor (xRg3 (xOp mulBR (xVar 3) (xVar 3)) (xOp addR (xVar 0) (xC (.int 1))) (xVar 3)) (xName 4) (b_primes_1 ad f_check_most))
def b_primes_3 (ad : Ad) (f_check_most : FSp) : DSt := (xIf (xNot (xTru (xOp ixR (xVar 1) (xVar 3)))) (xSeq (xDrop (xMt 2 appR (xConsA (xMov 3) xNilA))) (k_primes_2 ad f_check_most)) xNext)
def k_primes_4 (ad : Ad) (f_check_most : FSp) : DSt := (xRet (xUn toTupR (xVar 2)))
def k_primes_5 (ad : Ad) (f_check_most : FSp) : DSt := (xSeq (xFor (xRg2 (xC (.int 2)) (xOp addR (xVar 0) (xC (.int 1)))) (xName 3) (b_primes_3 ad f_check_most)) (k_primes_4 ad f_check_most))
def k_primes_6 (ad : Ad) (f_check_most : FSp) : DSt := (xSeq (xPar [1, 2] (xConsA (xOp mulBR (xLst (xConsA (xC (.bl false)) xNilA)) (xOp addR (xVar 0) (xC (.int 1)))) (xConsA (xLst xNilA) xNilA))) (k_primes_5 ad f_check_most))
def t_primes (ad : Ad) (f_check_most : FSp) : DSt := (xSeq (xDrop (xCall f_check_most (xConsA (xMov 0) xNilA))) (k_primes_6 ad f_check_most))
theorem der_primes {P : Program} {w : World} {K : PySem.W.Frag} {mg : Str → Option Value} {base : Heap} {ad : Ad} {G : Amb} {f : Addr} {k : Nat} (fx : Fx P w K mg ad) {k_check_most : Nat} {f_check_most : FSp} (c_check_most : Cal P w K mg base G "check_most" ad.check_most k_check_most f_check_most) (l_check_most : k_check_most ≤ k) (cdv : Value) (A : Around) (outer : List PySem.Env) (s : Shared) (H : Hp) (E : XK) (hr : Room k (A.deeper (PyProof.Rows.envOfC "primes" (defScope s_primes) s.heap.objs.size f cdv))) :
    DSs (cxOf (L2N.CX P w) P w K mg base N_primes "primes" (defScope s_primes) f cdv A outer s H E) G E (defBody s_primes) (t_primes ad f_check_most) := by
  have hu := hr.units
  have hu5 := units5 hr
  have htk : L2N.Takes (cxOf (L2N.CX P w) P w K mg base N_primes "primes" (defScope s_primes) f cdv A outer s H E) (fun cls d _ H => E cls d H) := L2N.takes_of rfl rfl rfl rfl
  have hx : Passes (L2N.CX P w) (cxOf (L2N.CX P w) P w K mg base N_primes "primes" (defScope s_primes) f cdv A outer s H E) E := L2N.passes_call htk (fun _ _ _ _ h => h)
  have hp : PassesOwn (model P w) (cxOf (L2N.CX P w) P w K mg base N_primes "primes" (defScope s_primes) f cdv A outer s H E).A (cxOf (L2N.CX P w) P w K mg base N_primes "primes" (defScope s_primes) f cdv A outer s H E).env (cxOf (L2N.CX P w) P w K mg base N_primes "primes" (defScope s_primes) f cdv A outer s H E).xe := passes_of rfl
  exact (dss_cons (ds_expr (de_callC c_check_most (hr.mono (by omega)) rfl hx (da_cons (de_mov (i := 0) rfl (by first | exact .inl rfl | exact .inr (.inl rfl) | exact .inr (.inr rfl))) da_nil))) (dss_cons (ds_par rfl nd_primes rfl rfl (by decide) rfl rfl (da_cons (de_op opd_mulB (de_lst (da_cons de_bl da_nil)) (de_op opd_add (de_var (i := 0) rfl (by first | exact .inl rfl | exact .inr (.inl rfl) | exact .inr (.inr rfl))) de_int)) (da_cons (de_lst da_nil) da_nil)) rfl) (dss_cons (ds_for hp rfl (di_range2 rfl fx.g_range de_int (de_op opd_add (de_var (i := 0) rfl (by first | exact .inl rfl | exact .inr (.inl rfl) | exact .inr (.inr rfl))) de_int)) (dg_name nd_primes rfl (by first | exact .inl rfl | exact .inr rfl)) (dss_one (ds_if (db_not (db_tru (de_ix ixd_seq (de_var (i := 1) rfl (by first | exact .inl rfl | exact .inr (.inl rfl) | exact .inr (.inr rfl))) (de_var (i := 3) rfl (by first | exact .inl rfl | exact .inr (.inl rfl) | exact .inr (.inr rfl))) (fun _ _ => rfl)))) (dss_cons (ds_expr (de_mt (i := 2) PySem.F.slot_list_append PySem.F.type_list_append md_append rfl (by first | exact .inl rfl | exact .inr (.inl rfl) | exact .inr (.inr rfl)) (da_cons (de_mov (i := 3) rfl (by first | exact .inl rfl | exact .inr (.inl rfl) | exact .inr (.inr rfl))) da_nil))) (dss_one (ds_for hp rfl (di_range3 rfl fx.g_range (de_op opd_mulB (de_var (i := 3) rfl (by first | exact .inl rfl | exact .inr (.inl rfl) | exact .inr (.inr rfl))) (de_var (i := 3) rfl (by first | exact .inl rfl | exact .inr (.inl rfl) | exact .inr (.inr rfl)))) (de_op opd_add (de_var (i := 0) rfl (by first | exact .inl rfl | exact .inr (.inl rfl) | exact .inr (.inr rfl))) de_int) (de_var (i := 3) rfl (by first | exact .inl rfl | exact .inr (.inl rfl) | exact .inr (.inr rfl))) rfl rfl rfl (fun h => pi_range3 rfl fx.g_range h)) (dg_name nd_primes rfl (by first | exact .inl rfl | exact .inr rfl)) (dss_one (ds_asg de_bl (dg_sub (E := E0') rfl (by first | exact .inl rfl | exact .inr (.inl rfl) | exact .inr (.inr rfl)) (de_var (i := 4) rfl (by first | exact .inl rfl | exact .inr (.inl rfl) | exact .inr (.inr rfl)))))) (by intro _; rfl)))) dss_nil)) (by intro _; rfl)) (dss_one (ds_ret (de_callT1 cd_tuple rfl fx.g_tuple rfl (de_var (i := 2) rfl (by first | exact .inl rfl | exact .inr (.inl rfl) | exact .inr (.inr rfl)))))))))
def N_lucky : List Str := ["most", "left", "at", "step", "place", "one"]
theorem sc_lucky : FnScope N_lucky ["most"] (defScope s_lucky) := ⟨rfl, rfl, rfl, by decide +kernel, rfl, by decide +kernel, by decide +kernel⟩
theorem nd_lucky : N_lucky.Nodup := sc_lucky.nd
def t_lucky (ad : Ad) (f_check_most : FSp) : DSt := (xSeq (xDrop (xCall f_check_most (xConsA (xMov 0) xNilA))) (xSeq (xPar [1, 2] (xConsA (xLrg3 (xC (.int 1)) (xOp addR (xVar 0) (xC (.int 1))) (xC (.int 2))) (xConsA (xC (.int 1)) xNilA))) (xSeq (xWh (xAnd (xTru (xOp ltR (xVar 2) (xUn lenR (xVar 1)))) (xTru (xOp leR (xOp ixR (xVar 1) (xVar 2)) (xUn lenR (xVar 1))))) (xSeq (xAsg (xOp ixR (xVar 1) (xVar 2)) (xName 3)) (xSeq (xAsg (xLc (xItL enumD (xVar 1)) (xTupG [(xName 4), (xName 5)]) (xTru (xOp neR (xOp modR (xOp addR (xVar 4) (xC (.int 1))) (xVar 3)) (xC (.int 0)))) (xMov 5) [4, 5]) (xName 1)) (xAsg (xOp addR (xVar 2) (xC (.int 1))) (xName 2))))) (xRet (xUn toTupR (xVar 1))))))
theorem der_lucky {P : Program} {w : World} {K : PySem.W.Frag} {mg : Str → Option Value} {base : Heap} {ad : Ad} {G : Amb} {f : Addr} {k : Nat} (fx : Fx P w K mg ad) {k_check_most : Nat} {f_check_most : FSp} (c_check_most : Cal P w K mg base G "check_most" ad.check_most k_check_most f_check_most) (l_check_most : k_check_most ≤ k) (cdv : Value) (A : Around) (outer : List PySem.Env) (s : Shared) (H : Hp) (E : XK) (hr : Room k (A.deeper (PyProof.Rows.envOfC "lucky" (defScope s_lucky) s.heap.objs.size f cdv))) :
    DSs (cxOf (L2N.CX P w) P w K mg base N_lucky "lucky" (defScope s_lucky) f cdv A outer s H E) G E (defBody s_lucky) (t_lucky ad f_check_most) := by
  have hu := hr.units
  have hu5 := units5 hr
  have htk : L2N.Takes (cxOf (L2N.CX P w) P w K mg base N_lucky "lucky" (defScope s_lucky) f cdv A outer s H E) (fun cls d _ H => E cls d H) := L2N.takes_of rfl rfl rfl rfl
  have hx : Passes (L2N.CX P w) (cxOf (L2N.CX P w) P w K mg base N_lucky "lucky" (defScope s_lucky) f cdv A outer s H E) E := L2N.passes_call htk (fun _ _ _ _ h => h)
  have hp : PassesOwn (model P w) (cxOf (L2N.CX P w) P w K mg base N_lucky "lucky" (defScope s_lucky) f cdv A outer s H E).A (cxOf (L2N.CX P w) P w K mg base N_lucky "lucky" (defScope s_lucky) f cdv A outer s H E).env (cxOf (L2N.CX P w) P w K mg base N_lucky "lucky" (defScope s_lucky) f cdv A outer s H E).xe := passes_of rfl
  exact (dss_cons (ds_expr (de_callC c_check_most (hr.mono (by omega)) rfl hx (da_cons (de_mov (i := 0) rfl (by first | exact .inl rfl | exact .inr (.inl rfl) | exact .inr (.inr rfl))) da_nil))) (dss_cons (ds_par rfl nd_lucky rfl rfl (by decide) rfl rfl (da_cons (de_lrg3 rfl rfl fx.g_list rfl fx.g_range de_int (de_op opd_add (de_var (i := 0) rfl (by first | exact .inl rfl | exact .inr (.inl rfl) | exact .inr (.inr rfl))) de_int) de_int) (da_cons de_int da_nil)) rfl) (dss_cons (ds_while hp (DW.db (dw_and (db_cmpR opd_lt (de_var (i := 2) rfl (by first | exact .inl rfl | exact .inr (.inl rfl) | exact .inr (.inr rfl))) (de_callB1 cd_len rfl fx.g_len rfl (de_var (i := 1) rfl (by first | exact .inl rfl | exact .inr (.inl rfl) | exact .inr (.inr rfl)))) (by first | exact nobehind _ (by decide) (by decide) | rfl)) (dw_and1 (db_cmpR opd_le (de_ix ixd_seq (de_var (i := 1) rfl (by first | exact .inl rfl | exact .inr (.inl rfl) | exact .inr (.inr rfl))) (de_var (i := 2) rfl (by first | exact .inl rfl | exact .inr (.inl rfl) | exact .inr (.inr rfl))) (fun _ _ => rfl)) (de_callB1 cd_len rfl fx.g_len rfl (de_var (i := 1) rfl (by first | exact .inl rfl | exact .inr (.inl rfl) | exact .inr (.inr rfl)))) (by first | exact nobehind _ (by decide) (by decide) | rfl))))) (dss_cons (ds_set nd_lucky rfl (by first | exact .inl rfl | exact .inr rfl) (de_ix ixd_seq (de_var (i := 1) rfl (by first | exact .inl rfl | exact .inr (.inl rfl) | exact .inr (.inr rfl))) (de_var (i := 2) rfl (by first | exact .inl rfl | exact .inr (.inl rfl) | exact .inr (.inr rfl))) (fun _ _ => rfl)) rfl) (dss_cons (by first | exact ds_setLc (own := [("place", 4), ("one", 5)]) rfl nd_lucky rfl rfl rfl (di_enum rfl fx.g_enumerate (de_var (i := 1) rfl (by first | exact .inl rfl | exact .inr (.inl rfl) | exact .inr (.inr rfl)))) (blk_by (by kernel_rfl)) (fun s H C cl fp => (dg_tup rfl (dgs_cons (dg_name nd_lucky rfl (by first | exact .inl rfl | exact .inr rfl)) (dgs_cons (dg_name nd_lucky rfl (by first | exact .inl rfl | exact .inr rfl)) dgs_nil)))) (by decide) (fun s H C cl fp => (dts_one (db_cmpR (opd_ne hr.units) (de_op opd_mod (de_op opd_add (de_var (i := 4) rfl (by first | exact .inl rfl | exact .inr (.inl rfl) | exact .inr (.inr rfl))) de_int) (de_var (i := 3) rfl (by first | exact .inl rfl | exact .inr (.inl rfl) | exact .inr (.inr rfl)))) de_int (by first | exact nobehind _ (by decide) (by decide) | rfl)))) (fun s H C cl fp => (de_mov (i := 5) rfl (by first | exact .inl rfl | exact .inr (.inl rfl) | exact .inr (.inr rfl)))) | exact ds_set nd_lucky rfl (by first | exact .inl rfl | exact .inr rfl) (de_lc (own := [("place", 4), ("one", 5)]) rfl nd_lucky (di_enum rfl fx.g_enumerate (de_var (i := 1) rfl (by first | exact .inl rfl | exact .inr (.inl rfl) | exact .inr (.inr rfl)))) (blk_by (by kernel_rfl)) (fun s H C cl fp => (dg_tup rfl (dgs_cons (dg_name nd_lucky rfl (by first | exact .inl rfl | exact .inr rfl)) (dgs_cons (dg_name nd_lucky rfl (by first | exact .inl rfl | exact .inr rfl)) dgs_nil)))) (by decide) (fun s H C cl fp => (dts_one (db_cmpR (opd_ne hr.units) (de_op opd_mod (de_op opd_add (de_var (i := 4) rfl (by first | exact .inl rfl | exact .inr (.inl rfl) | exact .inr (.inr rfl))) de_int) (de_var (i := 3) rfl (by first | exact .inl rfl | exact .inr (.inl rfl) | exact .inr (.inr rfl)))) de_int (by first | exact nobehind _ (by decide) (by decide) | rfl)))) (fun s H C cl fp => (de_mov (i := 5) rfl (by first | exact .inl rfl | exact .inr (.inl rfl) | exact .inr (.inr rfl))))) rfl) (dss_one (ds_set nd_lucky rfl (by first | exact .inl rfl | exact .inr rfl) (de_op opd_add (de_var (i := 2) rfl (by first | exact .inl rfl | exact .inr (.inl rfl) | exact .inr (.inr rfl))) de_int) rfl))))) (dss_one (ds_ret (de_callT1 cd_tuple rfl fx.g_tuple rfl (de_var (i := 1) rfl (by first | exact .inl rfl | exact .inr (.inl rfl) | exact .inr (.inr rfl)))))))))
def N_ludic : List Str := ["most", "found", "left", "step", "place", "one"]
theorem sc_ludic : FnScope N_ludic ["most"] (defScope s_ludic) := ⟨rfl, rfl, rfl, by decide +kernel, rfl, by decide +kernel, by decide +kernel⟩
theorem nd_ludic : N_ludic.Nodup := sc_ludic.nd
def t_ludic (ad : Ad) (f_check_most : FSp) : DSt := (xSeq (xDrop (xCall f_check_most (xConsA (xMov 0) xNilA))) (xSeq (xPar [1, 2] (xConsA (xIfE (xTru (xOp gtR (xVar 0) (xC (.int 0)))) (xLst (xConsA (xC (.int 1)) xNilA)) (xLst xNilA)) (xConsA (xOp lrg2R (xC (.int 2)) (xOp addR (xVar 0) (xC (.int 1)))) xNilA))) (xSeq (xWh (xTru (xOp neR (xVar 2) (xLst xNilA))) (xSeq (xAsg (xOp ixR (xVar 2) (xC (.int 0))) (xName 3)) (xSeq (xDrop (xMt 1 appR (xConsA (xMov 3) xNilA))) (xAsg (xLc (xItL enumD (xVar 2)) (xTupG [(xName 4), (xName 5)]) (xTru (xOp neR (xOp modR (xVar 4) (xVar 3)) (xC (.int 0)))) (xMov 5) [4, 5]) (xName 2))))) (xRet (xUn toTupR (xVar 1))))))
theorem der_ludic {P : Program} {w : World} {K : PySem.W.Frag} {mg : Str → Option Value} {base : Heap} {ad : Ad} {G : Amb} {f : Addr} {k : Nat} (fx : Fx P w K mg ad) {k_check_most : Nat} {f_check_most : FSp} (c_check_most : Cal P w K mg base G "check_most" ad.check_most k_check_most f_check_most) (l_check_most : k_check_most ≤ k) (cdv : Value) (A : Around) (outer : List PySem.Env) (s : Shared) (H : Hp) (E : XK) (hr : Room k (A.deeper (PyProof.Rows.envOfC "ludic" (defScope s_ludic) s.heap.objs.size f cdv))) :
    DSs (cxOf (L2N.CX P w) P w K mg base N_ludic "ludic" (defScope s_ludic) f cdv A outer s H E) G E (defBody s_ludic) (t_ludic ad f_check_most) := by
  have hu := hr.units
  have hu5 := units5 hr
  have htk : L2N.Takes (cxOf (L2N.CX P w) P w K mg base N_ludic "ludic" (defScope s_ludic) f cdv A outer s H E) (fun cls d _ H => E cls d H) := L2N.takes_of rfl rfl rfl rfl
  have hx : Passes (L2N.CX P w) (cxOf (L2N.CX P w) P w K mg base N_ludic "ludic" (defScope s_ludic) f cdv A outer s H E) E := L2N.passes_call htk (fun _ _ _ _ h => h)
  have hp : PassesOwn (model P w) (cxOf (L2N.CX P w) P w K mg base N_ludic "ludic" (defScope s_ludic) f cdv A outer s H E).A (cxOf (L2N.CX P w) P w K mg base N_ludic "ludic" (defScope s_ludic) f cdv A outer s H E).env (cxOf (L2N.CX P w) P w K mg base N_ludic "ludic" (defScope s_ludic) f cdv A outer s H E).xe := passes_of rfl
  exact (dss_cons (ds_expr (de_callC c_check_most (hr.mono (by omega)) rfl hx (da_cons (de_mov (i := 0) rfl (by first | exact .inl rfl | exact .inr (.inl rfl) | exact .inr (.inr rfl))) da_nil))) (dss_cons (ds_par rfl nd_ludic rfl rfl (by decide) rfl rfl (da_cons (de_if (db_cmpR opd_gt (de_var (i := 0) rfl (by first | exact .inl rfl | exact .inr (.inl rfl) | exact .inr (.inr rfl))) de_int (by first | exact nobehind _ (by decide) (by decide) | rfl)) (de_lst (da_cons de_int da_nil)) (de_lst da_nil)) (da_cons (de_lrg2 rfl rfl fx.g_list rfl fx.g_range de_int (de_op opd_add (de_var (i := 0) rfl (by first | exact .inl rfl | exact .inr (.inl rfl) | exact .inr (.inr rfl))) de_int)) da_nil)) rfl) (dss_cons (ds_while hp (db_cmpR (opd_ne hr.units) (de_var (i := 2) rfl (by first | exact .inl rfl | exact .inr (.inl rfl) | exact .inr (.inr rfl))) (de_lst da_nil) (by first | exact nobehind _ (by decide) (by decide) | rfl)) (dss_cons (ds_set nd_ludic rfl (by first | exact .inl rfl | exact .inr rfl) (de_ix ixd_seq (de_var (i := 2) rfl (by first | exact .inl rfl | exact .inr (.inl rfl) | exact .inr (.inr rfl))) de_int (fun _ _ => rfl)) rfl) (dss_cons (ds_expr (de_mt (i := 1) PySem.F.slot_list_append PySem.F.type_list_append md_append rfl (by first | exact .inl rfl | exact .inr (.inl rfl) | exact .inr (.inr rfl)) (da_cons (de_mov (i := 3) rfl (by first | exact .inl rfl | exact .inr (.inl rfl) | exact .inr (.inr rfl))) da_nil))) (dss_one (by first | exact ds_setLc (own := [("place", 4), ("one", 5)]) rfl nd_ludic rfl rfl rfl (di_enum rfl fx.g_enumerate (de_var (i := 2) rfl (by first | exact .inl rfl | exact .inr (.inl rfl) | exact .inr (.inr rfl)))) (blk_by (by kernel_rfl)) (fun s H C cl fp => (dg_tup rfl (dgs_cons (dg_name nd_ludic rfl (by first | exact .inl rfl | exact .inr rfl)) (dgs_cons (dg_name nd_ludic rfl (by first | exact .inl rfl | exact .inr rfl)) dgs_nil)))) (by decide) (fun s H C cl fp => (dts_one (db_cmpR (opd_ne hr.units) (de_op opd_mod (de_var (i := 4) rfl (by first | exact .inl rfl | exact .inr (.inl rfl) | exact .inr (.inr rfl))) (de_var (i := 3) rfl (by first | exact .inl rfl | exact .inr (.inl rfl) | exact .inr (.inr rfl)))) de_int (by first | exact nobehind _ (by decide) (by decide) | rfl)))) (fun s H C cl fp => (de_mov (i := 5) rfl (by first | exact .inl rfl | exact .inr (.inl rfl) | exact .inr (.inr rfl)))) | exact ds_set nd_ludic rfl (by first | exact .inl rfl | exact .inr rfl) (de_lc (own := [("place", 4), ("one", 5)]) rfl nd_ludic (di_enum rfl fx.g_enumerate (de_var (i := 2) rfl (by first | exact .inl rfl | exact .inr (.inl rfl) | exact .inr (.inr rfl)))) (blk_by (by kernel_rfl)) (fun s H C cl fp => (dg_tup rfl (dgs_cons (dg_name nd_ludic rfl (by first | exact .inl rfl | exact .inr rfl)) (dgs_cons (dg_name nd_ludic rfl (by first | exact .inl rfl | exact .inr rfl)) dgs_nil)))) (by decide) (fun s H C cl fp => (dts_one (db_cmpR (opd_ne hr.units) (de_op opd_mod (de_var (i := 4) rfl (by first | exact .inl rfl | exact .inr (.inl rfl) | exact .inr (.inr rfl))) (de_var (i := 3) rfl (by first | exact .inl rfl | exact .inr (.inl rfl) | exact .inr (.inr rfl)))) de_int (by first | exact nobehind _ (by decide) (by decide) | rfl)))) (fun s H C cl fp => (de_mov (i := 5) rfl (by first | exact .inl rfl | exact .inr (.inl rfl) | exact .inr (.inr rfl))))) rfl))))) (dss_one (ds_ret (de_callT1 cd_tuple rfl fx.g_tuple rfl (de_var (i := 1) rfl (by first | exact .inl rfl | exact .inr (.inl rfl) | exact .inr (.inr rfl)))))))))
def N_struck_each : List Str := ["most", "left", "step", "place", "one"]
theorem sc_struck_each : FnScope N_struck_each ["most"] (defScope s_struck_each) := ⟨rfl, rfl, rfl, by decide +kernel, rfl, by decide +kernel, by decide +kernel⟩
theorem nd_struck_each : N_struck_each.Nodup := sc_struck_each.nd
def t_struck_each (ad : Ad) (f_check_most : FSp) : DSt := (xSeq (xDrop (xCall f_check_most (xConsA (xMov 0) xNilA))) (xSeq (xAsg (xTup (xConsA (xOp lrg2R (xC (.int 1)) (xOp addR (xVar 0) (xC (.int 1)))) (xConsA (xC (.int 2)) xNilA))) (xTupG [(xName 1), (xName 2)])) (xSeq (xWh (xTru (xOp leR (xVar 2) (xUn lenR (xVar 1)))) (xSeq (xAsg (xLc (xItL enumD (xVar 1)) (xTupG [(xName 3), (xName 4)]) (xTru (xOp neR (xOp modR (xOp addR (xVar 3) (xC (.int 1))) (xVar 2)) (xC (.int 0)))) (xMov 4) [3, 4]) (xName 1)) (xAsg (xOp addR (xVar 2) (xC (.int 1))) (xName 2)))) (xRet (xUn toTupR (xVar 1))))))
theorem der_struck_each {P : Program} {w : World} {K : PySem.W.Frag} {mg : Str → Option Value} {base : Heap} {ad : Ad} {G : Amb} {f : Addr} {k : Nat} (fx : Fx P w K mg ad) {k_check_most : Nat} {f_check_most : FSp} (c_check_most : Cal P w K mg base G "check_most" ad.check_most k_check_most f_check_most) (l_check_most : k_check_most ≤ k) (cdv : Value) (A : Around) (outer : List PySem.Env) (s : Shared) (H : Hp) (E : XK) (hr : Room k (A.deeper (PyProof.Rows.envOfC "struck_each" (defScope s_struck_each) s.heap.objs.size f cdv))) :
    DSs (cxOf (L2N.CX P w) P w K mg base N_struck_each "struck_each" (defScope s_struck_each) f cdv A outer s H E) G E (defBody s_struck_each) (t_struck_each ad f_check_most) := by
  have hu := hr.units
  have hu5 := units5 hr
  have htk : L2N.Takes (cxOf (L2N.CX P w) P w K mg base N_struck_each "struck_each" (defScope s_struck_each) f cdv A outer s H E) (fun cls d _ H => E cls d H) := L2N.takes_of rfl rfl rfl rfl
  have hx : Passes (L2N.CX P w) (cxOf (L2N.CX P w) P w K mg base N_struck_each "struck_each" (defScope s_struck_each) f cdv A outer s H E) E := L2N.passes_call htk (fun _ _ _ _ h => h)
  have hp : PassesOwn (model P w) (cxOf (L2N.CX P w) P w K mg base N_struck_each "struck_each" (defScope s_struck_each) f cdv A outer s H E).A (cxOf (L2N.CX P w) P w K mg base N_struck_each "struck_each" (defScope s_struck_each) f cdv A outer s H E).env (cxOf (L2N.CX P w) P w K mg base N_struck_each "struck_each" (defScope s_struck_each) f cdv A outer s H E).xe := passes_of rfl
  exact (dss_cons (ds_expr (de_callC c_check_most (hr.mono (by omega)) rfl hx (da_cons (de_mov (i := 0) rfl (by first | exact .inl rfl | exact .inr (.inl rfl) | exact .inr (.inr rfl))) da_nil))) (dss_cons (ds_asg (de_tup (da_cons (de_lrg2 rfl rfl fx.g_list rfl fx.g_range de_int (de_op opd_add (de_var (i := 0) rfl (by first | exact .inl rfl | exact .inr (.inl rfl) | exact .inr (.inr rfl))) de_int)) (da_cons de_int da_nil))) (dg_tup rfl (dgs_cons (dg_name nd_struck_each rfl (by first | exact .inl rfl | exact .inr rfl)) (dgs_cons (dg_name nd_struck_each rfl (by first | exact .inl rfl | exact .inr rfl)) dgs_nil)))) (dss_cons (ds_while hp (db_cmpR opd_le (de_var (i := 2) rfl (by first | exact .inl rfl | exact .inr (.inl rfl) | exact .inr (.inr rfl))) (de_callB1 cd_len rfl fx.g_len rfl (de_var (i := 1) rfl (by first | exact .inl rfl | exact .inr (.inl rfl) | exact .inr (.inr rfl)))) (by first | exact nobehind _ (by decide) (by decide) | rfl)) (dss_cons (by first | exact ds_setLc (own := [("place", 3), ("one", 4)]) rfl nd_struck_each rfl rfl rfl (di_enum rfl fx.g_enumerate (de_var (i := 1) rfl (by first | exact .inl rfl | exact .inr (.inl rfl) | exact .inr (.inr rfl)))) (blk_by (by kernel_rfl)) (fun s H C cl fp => (dg_tup rfl (dgs_cons (dg_name nd_struck_each rfl (by first | exact .inl rfl | exact .inr rfl)) (dgs_cons (dg_name nd_struck_each rfl (by first | exact .inl rfl | exact .inr rfl)) dgs_nil)))) (by decide) (fun s H C cl fp => (dts_one (db_cmpR (opd_ne hr.units) (de_op opd_mod (de_op opd_add (de_var (i := 3) rfl (by first | exact .inl rfl | exact .inr (.inl rfl) | exact .inr (.inr rfl))) de_int) (de_var (i := 2) rfl (by first | exact .inl rfl | exact .inr (.inl rfl) | exact .inr (.inr rfl)))) de_int (by first | exact nobehind _ (by decide) (by decide) | rfl)))) (fun s H C cl fp => (de_mov (i := 4) rfl (by first | exact .inl rfl | exact .inr (.inl rfl) | exact .inr (.inr rfl)))) | exact ds_set nd_struck_each rfl (by first | exact .inl rfl | exact .inr rfl) (de_lc (own := [("place", 3), ("one", 4)]) rfl nd_struck_each (di_enum rfl fx.g_enumerate (de_var (i := 1) rfl (by first | exact .inl rfl | exact .inr (.inl rfl) | exact .inr (.inr rfl)))) (blk_by (by kernel_rfl)) (fun s H C cl fp => (dg_tup rfl (dgs_cons (dg_name nd_struck_each rfl (by first | exact .inl rfl | exact .inr rfl)) (dgs_cons (dg_name nd_struck_each rfl (by first | exact .inl rfl | exact .inr rfl)) dgs_nil)))) (by decide) (fun s H C cl fp => (dts_one (db_cmpR (opd_ne hr.units) (de_op opd_mod (de_op opd_add (de_var (i := 3) rfl (by first | exact .inl rfl | exact .inr (.inl rfl) | exact .inr (.inr rfl))) de_int) (de_var (i := 2) rfl (by first | exact .inl rfl | exact .inr (.inl rfl) | exact .inr (.inr rfl)))) de_int (by first | exact nobehind _ (by decide) (by decide) | rfl)))) (fun s H C cl fp => (de_mov (i := 4) rfl (by first | exact .inl rfl | exact .inr (.inl rfl) | exact .inr (.inr rfl))))) rfl) (dss_one (ds_set nd_struck_each rfl (by first | exact .inl rfl | exact .inr rfl) (de_op opd_add (de_var (i := 2) rfl (by first | exact .inl rfl | exact .inr (.inl rfl) | exact .inr (.inr rfl))) de_int) rfl)))) (dss_one (ds_ret (de_callT1 cd_tuple rfl fx.g_tuple rfl (de_var (i := 1) rfl (by first | exact .inl rfl | exact .inr (.inl rfl) | exact .inr (.inr rfl)))))))))
def N_struck_at : List Str := ["place", "here", "step"]
theorem sc_struck_at : FnScope N_struck_at ["place"] (defScope s_struck_at) := ⟨rfl, rfl, rfl, by decide +kernel, rfl, by decide +kernel, by decide +kernel⟩
theorem nd_struck_at : N_struck_at.Nodup := sc_struck_at.nd
def t_struck_at (ad : Ad) (f_is_within : FSp) : DSt := (xSeq (xIf (xNot (xTru (xCall f_is_within (xConsA (xMov 0) (xConsA (xC (.int 1)) (xConsA (xOp powR (xC (.int 10)) (xC (.int 4))) xNilA)))))) (xRaise ⟨ad.BadNumber, none⟩) xNext) (xSeq (xAsg (xMov 0) (xName 1)) (xSeq (xFor (xRg3 (xVar 0) (xC (.int 1)) (xUn negR (xC (.int 1)))) (xName 2) (xAsg (xOp addR (xVar 1) (xOp divR (xOp subR (xVar 1) (xC (.int 1))) (xOp subR (xVar 2) (xC (.int 1))))) (xName 1))) (xRet (xMov 1)))))
theorem der_struck_at {P : Program} {w : World} {K : PySem.W.Frag} {mg : Str → Option Value} {base : Heap} {ad : Ad} {G : Amb} {f : Addr} {k : Nat} (fx : Fx P w K mg ad) {k_is_within : Nat} {f_is_within : FSp} (c_is_within : Cal P w K mg base G "is_within" ad.is_within k_is_within f_is_within) (l_is_within : k_is_within ≤ k) (cdv : Value) (A : Around) (outer : List PySem.Env) (s : Shared) (H : Hp) (E : XK) (hr : Room k (A.deeper (PyProof.Rows.envOfC "struck_at" (defScope s_struck_at) s.heap.objs.size f cdv))) :
    DSs (cxOf (L2N.CX P w) P w K mg base N_struck_at "struck_at" (defScope s_struck_at) f cdv A outer s H E) G E (defBody s_struck_at) (t_struck_at ad f_is_within) := by
  have hu := hr.units
  have hu5 := units5 hr
  have htk : L2N.Takes (cxOf (L2N.CX P w) P w K mg base N_struck_at "struck_at" (defScope s_struck_at) f cdv A outer s H E) (fun cls d _ H => E cls d H) := L2N.takes_of rfl rfl rfl rfl
  have hx : Passes (L2N.CX P w) (cxOf (L2N.CX P w) P w K mg base N_struck_at "struck_at" (defScope s_struck_at) f cdv A outer s H E) E := L2N.passes_call htk (fun _ _ _ _ h => h)
  have hp : PassesOwn (model P w) (cxOf (L2N.CX P w) P w K mg base N_struck_at "struck_at" (defScope s_struck_at) f cdv A outer s H E).A (cxOf (L2N.CX P w) P w K mg base N_struck_at "struck_at" (defScope s_struck_at) f cdv A outer s H E).env (cxOf (L2N.CX P w) P w K mg base N_struck_at "struck_at" (defScope s_struck_at) f cdv A outer s H E).xe := passes_of rfl
  exact (dss_cons (ds_if (db_not (db_tru (de_callC c_is_within (hr.mono (by omega)) rfl hx (da_cons (de_mov (i := 0) rfl (by first | exact .inl rfl | exact .inr (.inl rfl) | exact .inr (.inr rfl))) (da_cons de_int (da_cons (de_op opd_pow de_int de_int) da_nil)))))) (dss_one (ds_raise rfl htk fx.x_BadNumber fx.g_BadNumber fx.k_BadNumber fx.b_BadNumber fx.t_BadNumber rfl)) dss_nil) (dss_cons (ds_set nd_struck_at rfl (by first | exact .inl rfl | exact .inr rfl) (de_mov (i := 0) rfl (by first | exact .inl rfl | exact .inr (.inl rfl) | exact .inr (.inr rfl))) rfl) (dss_cons (ds_for hp rfl (di_range3 rfl fx.g_range (de_var (i := 0) rfl (by first | exact .inl rfl | exact .inr (.inl rfl) | exact .inr (.inr rfl))) de_int (de_un und_neg de_int) rfl rfl rfl (fun h => pi_range3 rfl fx.g_range h)) (dg_name nd_struck_at rfl (by first | exact .inl rfl | exact .inr rfl)) (dss_one (ds_set nd_struck_at rfl (by first | exact .inl rfl | exact .inr rfl) (de_op opd_add (de_var (i := 1) rfl (by first | exact .inl rfl | exact .inr (.inl rfl) | exact .inr (.inr rfl))) (de_op opd_div (de_op opd_sub (de_var (i := 1) rfl (by first | exact .inl rfl | exact .inr (.inl rfl) | exact .inr (.inr rfl))) de_int) (de_op opd_sub (de_var (i := 2) rfl (by first | exact .inl rfl | exact .inr (.inl rfl) | exact .inr (.inr rfl))) de_int))) rfl)) (by intro _; rfl)) (dss_one (ds_ret (de_mov (i := 1) rfl (by first | exact .inl rfl | exact .inr (.inl rfl) | exact .inr (.inr rfl))))))))
def N_summed_powers : List Str := ["power", "many", "row", "step", "total", "later", "one", "place"]
theorem sc_summed_powers : FnScope N_summed_powers ["power", "many"] (defScope s_summed_powers) := ⟨rfl, rfl, rfl, by decide +kernel, rfl, by decide +kernel, by decide +kernel⟩
theorem nd_summed_powers : N_summed_powers.Nodup := sc_summed_powers.nd
def t_summed_powers (ad : Ad) (f_is_within : FSp) : DSt := (xSeq (xIf (xOr (xNot (xTru (xCall f_is_within (xConsA (xMov 0) (xConsA (xC (.int 1)) (xConsA (xC (.int 6)) xNilA)))))) (xNot (xTru (xCall f_is_within (xConsA (xMov 1) (xConsA (xC (.int 0)) (xConsA (xC (.int 60)) xNilA))))))) (xRaise ⟨ad.BadNumber, none⟩) xNext) (xSeq (xAsg (xOp mulBR (xLst (xConsA (xC (.int 1)) xNilA)) (xOp addR (xOp addR (xOp mulBR (xVar 1) (xOp addR (xVar 0) (xC (.int 1)))) (xVar 0)) (xC (.int 2)))) (xName 2)) (xSeq (xFor (xRg3 (xOp addR (xVar 0) (xC (.int 1))) (xC (.int 1)) (xUn negR (xC (.int 1)))) (xName 3) (xSeq (xAsg (xLc (xItL enumD (xVar 2)) (xTupG [(xName 7), (xName 6)]) (xTru (xOp neR (xOp modR (xOp addR (xVar 7) (xC (.int 1))) (xVar 3)) (xC (.int 0)))) (xMov 6) [7, 6]) (xName 2)) (xSeq (xPar [4, 5] (xConsA (xC (.int 0)) (xConsA (xLst xNilA) xNilA))) (xSeq (xFor (xIt id (xVar 2)) (xName 6) (xSeq (xAsg (xOp addR (xVar 4) (xVar 6)) (xName 4)) (xDrop (xMt 5 appR (xConsA (xMov 4) xNilA))))) (xAsg (xMov 5) (xName 2)))))) (xRet (xUn toTupR (xSlH (xVar 2) (xVar 1)))))))
theorem der_summed_powers {P : Program} {w : World} {K : PySem.W.Frag} {mg : Str → Option Value} {base : Heap} {ad : Ad} {G : Amb} {f : Addr} {k : Nat} (fx : Fx P w K mg ad) {k_is_within : Nat} {f_is_within : FSp} (c_is_within : Cal P w K mg base G "is_within" ad.is_within k_is_within f_is_within) (l_is_within : k_is_within ≤ k) (cdv : Value) (A : Around) (outer : List PySem.Env) (s : Shared) (H : Hp) (E : XK) (hr : Room k (A.deeper (PyProof.Rows.envOfC "summed_powers" (defScope s_summed_powers) s.heap.objs.size f cdv))) :
    DSs (cxOf (L2N.CX P w) P w K mg base N_summed_powers "summed_powers" (defScope s_summed_powers) f cdv A outer s H E) G E (defBody s_summed_powers) (t_summed_powers ad f_is_within) := by
  have hu := hr.units
  have hu5 := units5 hr
  have htk : L2N.Takes (cxOf (L2N.CX P w) P w K mg base N_summed_powers "summed_powers" (defScope s_summed_powers) f cdv A outer s H E) (fun cls d _ H => E cls d H) := L2N.takes_of rfl rfl rfl rfl
  have hx : Passes (L2N.CX P w) (cxOf (L2N.CX P w) P w K mg base N_summed_powers "summed_powers" (defScope s_summed_powers) f cdv A outer s H E) E := L2N.passes_call htk (fun _ _ _ _ h => h)
  have hp : PassesOwn (model P w) (cxOf (L2N.CX P w) P w K mg base N_summed_powers "summed_powers" (defScope s_summed_powers) f cdv A outer s H E).A (cxOf (L2N.CX P w) P w K mg base N_summed_powers "summed_powers" (defScope s_summed_powers) f cdv A outer s H E).env (cxOf (L2N.CX P w) P w K mg base N_summed_powers "summed_powers" (defScope s_summed_powers) f cdv A outer s H E).xe := passes_of rfl
  exact (dss_cons (ds_if (DW.db (dw_or (db_not (db_tru (de_callC c_is_within (hr.mono (by omega)) rfl hx (da_cons (de_mov (i := 0) rfl (by first | exact .inl rfl | exact .inr (.inl rfl) | exact .inr (.inr rfl))) (da_cons de_int (da_cons de_int da_nil)))))) (dw_or1 (db_not (db_tru (de_callC c_is_within (hr.mono (by omega)) rfl hx (da_cons (de_mov (i := 1) rfl (by first | exact .inl rfl | exact .inr (.inl rfl) | exact .inr (.inr rfl))) (da_cons de_int (da_cons de_int da_nil))))))))) (dss_one (ds_raise rfl htk fx.x_BadNumber fx.g_BadNumber fx.k_BadNumber fx.b_BadNumber fx.t_BadNumber rfl)) dss_nil) (dss_cons (ds_set nd_summed_powers rfl (by first | exact .inl rfl | exact .inr rfl) (de_op opd_mulB (de_lst (da_cons de_int da_nil)) (de_op opd_add (de_op opd_add (de_op opd_mulB (de_var (i := 1) rfl (by first | exact .inl rfl | exact .inr (.inl rfl) | exact .inr (.inr rfl))) (de_op opd_add (de_var (i := 0) rfl (by first | exact .inl rfl | exact .inr (.inl rfl) | exact .inr (.inr rfl))) de_int)) (de_var (i := 0) rfl (by first | exact .inl rfl | exact .inr (.inl rfl) | exact .inr (.inr rfl)))) de_int)) rfl) (dss_cons (ds_for hp rfl (di_range3 rfl fx.g_range (de_op opd_add (de_var (i := 0) rfl (by first | exact .inl rfl | exact .inr (.inl rfl) | exact .inr (.inr rfl))) de_int) de_int (de_un und_neg de_int) rfl rfl rfl (fun h => pi_range3 rfl fx.g_range h)) (dg_name nd_summed_powers rfl (by first | exact .inl rfl | exact .inr rfl)) (dss_cons (by first | exact ds_setLc (own := [("place", 7), ("one", 6)]) rfl nd_summed_powers rfl rfl rfl (di_enum rfl fx.g_enumerate (de_var (i := 2) rfl (by first | exact .inl rfl | exact .inr (.inl rfl) | exact .inr (.inr rfl)))) (blk_by (by kernel_rfl)) (fun s H C cl fp => (dg_tup rfl (dgs_cons (dg_name nd_summed_powers rfl (by first | exact .inl rfl | exact .inr rfl)) (dgs_cons (dg_name nd_summed_powers rfl (by first | exact .inl rfl | exact .inr rfl)) dgs_nil)))) (by decide) (fun s H C cl fp => (dts_one (db_cmpR (opd_ne hr.units) (de_op opd_mod (de_op opd_add (de_var (i := 7) rfl (by first | exact .inl rfl | exact .inr (.inl rfl) | exact .inr (.inr rfl))) de_int) (de_var (i := 3) rfl (by first | exact .inl rfl | exact .inr (.inl rfl) | exact .inr (.inr rfl)))) de_int (by first | exact nobehind _ (by decide) (by decide) | rfl)))) (fun s H C cl fp => (de_mov (i := 6) rfl (by first | exact .inl rfl | exact .inr (.inl rfl) | exact .inr (.inr rfl)))) | exact ds_set nd_summed_powers rfl (by first | exact .inl rfl | exact .inr rfl) (de_lc (own := [("place", 7), ("one", 6)]) rfl nd_summed_powers (di_enum rfl fx.g_enumerate (de_var (i := 2) rfl (by first | exact .inl rfl | exact .inr (.inl rfl) | exact .inr (.inr rfl)))) (blk_by (by kernel_rfl)) (fun s H C cl fp => (dg_tup rfl (dgs_cons (dg_name nd_summed_powers rfl (by first | exact .inl rfl | exact .inr rfl)) (dgs_cons (dg_name nd_summed_powers rfl (by first | exact .inl rfl | exact .inr rfl)) dgs_nil)))) (by decide) (fun s H C cl fp => (dts_one (db_cmpR (opd_ne hr.units) (de_op opd_mod (de_op opd_add (de_var (i := 7) rfl (by first | exact .inl rfl | exact .inr (.inl rfl) | exact .inr (.inr rfl))) de_int) (de_var (i := 3) rfl (by first | exact .inl rfl | exact .inr (.inl rfl) | exact .inr (.inr rfl)))) de_int (by first | exact nobehind _ (by decide) (by decide) | rfl)))) (fun s H C cl fp => (de_mov (i := 6) rfl (by first | exact .inl rfl | exact .inr (.inl rfl) | exact .inr (.inr rfl))))) rfl) (dss_cons (ds_par rfl nd_summed_powers rfl rfl (by decide) rfl rfl (da_cons de_int (da_cons (de_lst da_nil) da_nil)) rfl) (dss_cons (ds_for hp rfl (di_any (de_var (i := 2) rfl (by first | exact .inl rfl | exact .inr (.inl rfl) | exact .inr (.inr rfl)))) (dg_name nd_summed_powers rfl (by first | exact .inl rfl | exact .inr rfl)) (dss_cons (ds_set nd_summed_powers rfl (by first | exact .inl rfl | exact .inr rfl) (de_op opd_add (de_var (i := 4) rfl (by first | exact .inl rfl | exact .inr (.inl rfl) | exact .inr (.inr rfl))) (de_var (i := 6) rfl (by first | exact .inl rfl | exact .inr (.inl rfl) | exact .inr (.inr rfl)))) rfl) (dss_one (ds_expr (de_mt (i := 5) PySem.F.slot_list_append PySem.F.type_list_append md_append rfl (by first | exact .inl rfl | exact .inr (.inl rfl) | exact .inr (.inr rfl)) (da_cons (de_mov (i := 4) rfl (by first | exact .inl rfl | exact .inr (.inl rfl) | exact .inr (.inr rfl))) da_nil))))) (by intro _; rfl)) (dss_one (ds_set nd_summed_powers rfl (by first | exact .inl rfl | exact .inr rfl) (de_mov (i := 5) rfl (by first | exact .inl rfl | exact .inr (.inl rfl) | exact .inr (.inr rfl))) rfl))))) (by intro _; rfl)) (dss_one (ds_ret (de_callT1 cd_tuple rfl fx.g_tuple rfl (de_slH (de_var (i := 2) rfl (by first | exact .inl rfl | exact .inr (.inl rfl) | exact .inr (.inr rfl))) (de_var (i := 1) rfl (by first | exact .inl rfl | exact .inr (.inl rfl) | exact .inr (.inr rfl))))))))))
def N__law_hand : List Str := ["script", "cells", "cell"]
theorem sc__law_hand : FnScope N__law_hand ["script"] (defScope s__law_hand) := ⟨rfl, rfl, rfl, by decide +kernel, rfl, by decide +kernel, by decide +kernel⟩
theorem nd__law_hand : N__law_hand.Nodup := sc__law_hand.nd
def t__law_hand (ad : Ad) (a : Addr) (ns : List Int) : DSt := (xSeq (xAsg (xLc (xIt id (xScr 0 a ns 63)) (xName 2) xYes (xUn absR (xUn toIntR (xVar 2))) [2]) (xName 1)) (xRet (xLst (xConsA (xMov 1) (xConsA (xC (.int 0)) (xConsA (xC (.int 0)) (xConsA (xOp addR (xC (.int 797)) (xOp mulBR (xC (.int 7)) (xUn lenR (xVar 1)))) (xConsA (xC (.int 0)) xNilA))))))))
theorem der__law_hand {P : Program} {w : World} {K : PySem.W.Frag} {mg : Str → Option Value} {base : Heap} {ad : Ad} {G : Amb} {f : Addr} {k : Nat} (fx : Fx P w K mg ad) {a : Addr} {ns : List Int} (hs : ∀ H, G.inv H → SqL K H a (ns.map V.int)) (cdv : Value) (A : Around) (outer : List PySem.Env) (s : Shared) (H : Hp) (E : XK) (hr : Room k (A.deeper (PyProof.Rows.envOfC "_law_hand" (defScope s__law_hand) s.heap.objs.size f cdv))) :
    DSs (cxOf (L2N.CX P w) P w K mg base N__law_hand "_law_hand" (defScope s__law_hand) f cdv A outer s H E) G E (defBody s__law_hand) (t__law_hand ad a ns) := by
  have hu := hr.units
  have hu5 := units5 hr
  have htk : L2N.Takes (cxOf (L2N.CX P w) P w K mg base N__law_hand "_law_hand" (defScope s__law_hand) f cdv A outer s H E) (fun cls d _ H => E cls d H) := L2N.takes_of rfl rfl rfl rfl
  have hx : Passes (L2N.CX P w) (cxOf (L2N.CX P w) P w K mg base N__law_hand "_law_hand" (defScope s__law_hand) f cdv A outer s H E) E := L2N.passes_call htk (fun _ _ _ _ h => h)
  have hp : PassesOwn (model P w) (cxOf (L2N.CX P w) P w K mg base N__law_hand "_law_hand" (defScope s__law_hand) f cdv A outer s H E).A (cxOf (L2N.CX P w) P w K mg base N__law_hand "_law_hand" (defScope s__law_hand) f cdv A outer s H E).env (cxOf (L2N.CX P w) P w K mg base N__law_hand "_law_hand" (defScope s__law_hand) f cdv A outer s H E).xe := passes_of rfl
  exact (dss_cons (by first | exact ds_setLc (own := [("cell", 2)]) rfl nd__law_hand rfl rfl rfl (di_any (de_scr (i := 0) hs rfl (by first | exact .inl rfl | exact .inr (.inl rfl) | exact .inr (.inr rfl)))) (blk_by (by kernel_rfl)) (fun s H C cl fp => (dg_name nd__law_hand rfl (by first | exact .inl rfl | exact .inr rfl))) (by decide) (fun s H C cl fp => dts_nil) (fun s H C cl fp => (de_callB1 cd_abs rfl fx.g_abs rfl (de_callT1 cd_int rfl fx.g_int rfl (de_var (i := 2) rfl (by first | exact .inl rfl | exact .inr (.inl rfl) | exact .inr (.inr rfl)))))) | exact ds_set nd__law_hand rfl (by first | exact .inl rfl | exact .inr rfl) (de_lc (own := [("cell", 2)]) rfl nd__law_hand (di_any (de_scr (i := 0) hs rfl (by first | exact .inl rfl | exact .inr (.inl rfl) | exact .inr (.inr rfl)))) (blk_by (by kernel_rfl)) (fun s H C cl fp => (dg_name nd__law_hand rfl (by first | exact .inl rfl | exact .inr rfl))) (by decide) (fun s H C cl fp => dts_nil) (fun s H C cl fp => (de_callB1 cd_abs rfl fx.g_abs rfl (de_callT1 cd_int rfl fx.g_int rfl (de_var (i := 2) rfl (by first | exact .inl rfl | exact .inr (.inl rfl) | exact .inr (.inr rfl))))))) rfl) (dss_one (ds_ret (de_lst (da_cons (de_mov (i := 1) rfl (by first | exact .inl rfl | exact .inr (.inl rfl) | exact .inr (.inr rfl))) (da_cons de_int (da_cons de_int (da_cons (de_op opd_add de_int (de_op opd_mulB de_int (de_callB1 cd_len rfl fx.g_len rfl (de_var (i := 1) rfl (by first | exact .inl rfl | exact .inr (.inl rfl) | exact .inr (.inr rfl)))))) (da_cons de_int da_nil)))))))))
def N__law_any : List Str := ["hand", "some"]
theorem sc__law_any : FnScope N__law_any ["hand", "some"] (defScope s__law_any) := ⟨rfl, rfl, rfl, by decide +kernel, rfl, by decide +kernel, by decide +kernel⟩
theorem nd__law_any : N__law_any.Nodup := sc__law_any.nd
def t__law_any (ad : Ad) (f__law_draw : FSp) : DSt := (xRet (xOp ixR (xVar 1) (xCall f__law_draw (xConsA (xMov 0) (xConsA (xUn lenR (xVar 1)) xNilA)))))
theorem der__law_any {P : Program} {w : World} {K : PySem.W.Frag} {mg : Str → Option Value} {base : Heap} {ad : Ad} {G : Amb} {f : Addr} {k : Nat} (fx : Fx P w K mg ad) {k__law_draw : Nat} {f__law_draw : FSp} (c__law_draw : Cal P w K mg base G "_law_draw" ad._law_draw k__law_draw f__law_draw) (l__law_draw : k__law_draw ≤ k) (cdv : Value) (A : Around) (outer : List PySem.Env) (s : Shared) (H : Hp) (E : XK) (hr : Room k (A.deeper (PyProof.Rows.envOfC "_law_any" (defScope s__law_any) s.heap.objs.size f cdv))) :
    DSs (cxOf (L2N.CX P w) P w K mg base N__law_any "_law_any" (defScope s__law_any) f cdv A outer s H E) G E (defBody s__law_any) (t__law_any ad f__law_draw) := by
  have hu := hr.units
  have hu5 := units5 hr
  have htk : L2N.Takes (cxOf (L2N.CX P w) P w K mg base N__law_any "_law_any" (defScope s__law_any) f cdv A outer s H E) (fun cls d _ H => E cls d H) := L2N.takes_of rfl rfl rfl rfl
  have hx : Passes (L2N.CX P w) (cxOf (L2N.CX P w) P w K mg base N__law_any "_law_any" (defScope s__law_any) f cdv A outer s H E) E := L2N.passes_call htk (fun _ _ _ _ h => h)
  have hp : PassesOwn (model P w) (cxOf (L2N.CX P w) P w K mg base N__law_any "_law_any" (defScope s__law_any) f cdv A outer s H E).A (cxOf (L2N.CX P w) P w K mg base N__law_any "_law_any" (defScope s__law_any) f cdv A outer s H E).env (cxOf (L2N.CX P w) P w K mg base N__law_any "_law_any" (defScope s__law_any) f cdv A outer s H E).xe := passes_of rfl
  exact (dss_one (ds_ret (de_ix ixd_seq (de_var (i := 1) rfl (by first | exact .inl rfl | exact .inr (.inl rfl) | exact .inr (.inr rfl))) (de_callC c__law_draw (hr.mono (by omega)) rfl hx (da_cons (de_mov (i := 0) rfl (by first | exact .inl rfl | exact .inr (.inl rfl) | exact .inr (.inr rfl))) (da_cons (de_callB1 cd_len rfl fx.g_len rfl (de_var (i := 1) rfl (by first | exact .inl rfl | exact .inr (.inl rfl) | exact .inr (.inr rfl)))) da_nil))) (fun _ _ => rfl))))
def N__law_is : List Str := ["said", "due", "one", "other"]
theorem sc__law_is : FnScope N__law_is ["said", "due"] (defScope s__law_is) := ⟨rfl, rfl, rfl, by decide +kernel, rfl, by decide +kernel, by decide +kernel⟩
theorem nd__law_is : N__law_is.Nodup := sc__law_is.nd
def t__law_is (ad : Ad) (f__law_is : FSp) : DSt := (xSeq (xIf (xTru (xUn (isiR [.tup, .lst]) (xVar 1))) (xSeq (xIf (xOr (xTru (xOp neR (xUn (isiR [.tup]) (xVar 0)) (xUn (isiR [.tup]) (xVar 1)))) (xTru (xOp neR (xUn (isiR [.lst]) (xVar 0)) (xUn (isiR [.lst]) (xVar 1))))) (xRet (xC (.bl false))) xNext) (xRet (xAndV (xOp eqR (xUn lenR (xVar 0)) (xUn lenR (xVar 1))) (xUn allR (xLc (xZip (xConsA (xMov 0) (xConsA (xMov 1) xNilA))) (xTupG [(xName 2), (xName 3)]) xYes (xCall f__law_is (xConsA (xMov 2) (xConsA (xMov 3) xNilA))) [2, 3]))))) xNext) (xSeq (xIf (xOr (xTru (xOp isR (xVar 1) (xC .non))) (xTru (xOp isR (xVar 0) (xC .non)))) (xRet (xAndV (xOp isR (xVar 1) (xC .non)) (xOp isR (xVar 0) (xC .non)))) xNext) (xSeq (xIf (xOr (xTru (xOp neR (xUn (isiR [.bl]) (xVar 0)) (xUn (isiR [.bl]) (xVar 1)))) (xTru (xOp neR (xUn (isiR [.int]) (xVar 0)) (xUn (isiR [.int]) (xVar 1))))) (xRet (xC (.bl false))) xNext) (xRet (xAndV (xOp eqR (xUn (isiR [.str]) (xVar 0)) (xUn (isiR [.str]) (xVar 1))) (xOp eqR (xVar 0) (xVar 1)))))))
theorem der__law_is {P : Program} {w : World} {K : PySem.W.Frag} {mg : Str → Option Value} {base : Heap} {ad : Ad} {G : Amb} {f : Addr} {k : Nat} (fx : Fx P w K mg ad) {k__law_is : Nat} {f__law_is : FSp} (c__law_is : Cal P w K mg base G "_law_is" ad._law_is k__law_is f__law_is) (l__law_is : k__law_is ≤ k) (cdv : Value) (A : Around) (outer : List PySem.Env) (s : Shared) (H : Hp) (E : XK) (hr : Room k (A.deeper (PyProof.Rows.envOfC "_law_is" (defScope s__law_is) s.heap.objs.size f cdv))) :
    DSs (cxOf (L2N.CX P w) P w K mg base N__law_is "_law_is" (defScope s__law_is) f cdv A outer s H E) G E (defBody s__law_is) (t__law_is ad f__law_is) := by
  have hu := hr.units
  have hu5 := units5 hr
  have htk : L2N.Takes (cxOf (L2N.CX P w) P w K mg base N__law_is "_law_is" (defScope s__law_is) f cdv A outer s H E) (fun cls d _ H => E cls d H) := L2N.takes_of rfl rfl rfl rfl
  have hx : Passes (L2N.CX P w) (cxOf (L2N.CX P w) P w K mg base N__law_is "_law_is" (defScope s__law_is) f cdv A outer s H E) E := L2N.passes_call htk (fun _ _ _ _ h => h)
  have hp : PassesOwn (model P w) (cxOf (L2N.CX P w) P w K mg base N__law_is "_law_is" (defScope s__law_is) f cdv A outer s H E).A (cxOf (L2N.CX P w) P w K mg base N__law_is "_law_is" (defScope s__law_is) f cdv A outer s H E).env (cxOf (L2N.CX P w) P w K mg base N__law_is "_law_is" (defScope s__law_is) f cdv A outer s H E).xe := passes_of rfl
  exact (dss_cons (ds_if (db_tru (de_isi2 .tup .lst (de_var (i := 1) rfl (by first | exact .inl rfl | exact .inr (.inl rfl) | exact .inr (.inr rfl))) rfl fx.g_isinstance rfl fx.g_tuple rfl rfl fx.g_list rfl)) (dss_cons (ds_if (DW.db (dw_or (db_cmpR (opd_ne hr.units) (de_isi .tup (de_var (i := 0) rfl (by first | exact .inl rfl | exact .inr (.inl rfl) | exact .inr (.inr rfl))) rfl fx.g_isinstance rfl fx.g_tuple rfl) (de_isi .tup (de_var (i := 1) rfl (by first | exact .inl rfl | exact .inr (.inl rfl) | exact .inr (.inr rfl))) rfl fx.g_isinstance rfl fx.g_tuple rfl) (by first | exact nobehind _ (by decide) (by decide) | rfl)) (dw_or1 (db_cmpR (opd_ne hr.units) (de_isi .lst (de_var (i := 0) rfl (by first | exact .inl rfl | exact .inr (.inl rfl) | exact .inr (.inr rfl))) rfl fx.g_isinstance rfl fx.g_list rfl) (de_isi .lst (de_var (i := 1) rfl (by first | exact .inl rfl | exact .inr (.inl rfl) | exact .inr (.inr rfl))) rfl fx.g_isinstance rfl fx.g_list rfl) (by first | exact nobehind _ (by decide) (by decide) | rfl))))) (dss_one (ds_ret de_bl)) dss_nil) (dss_one (ds_ret (de_and (de_cmp (opd_eq hr.units) (de_callB1 cd_len rfl fx.g_len rfl (de_var (i := 0) rfl (by first | exact .inl rfl | exact .inr (.inl rfl) | exact .inr (.inr rfl)))) (de_callB1 cd_len rfl fx.g_len rfl (de_var (i := 1) rfl (by first | exact .inl rfl | exact .inr (.inl rfl) | exact .inr (.inr rfl)))) (by first | exact nobehind _ (by decide) (by decide) | rfl)) (de_one (de_callB1 (cd_all rfl) rfl fx.g_all rfl (de_lc (own := [("one", 2), ("other", 3)]) rfl nd__law_is (di_zip rfl fx.g_zip (da_cons (de_mov (i := 0) rfl (by first | exact .inl rfl | exact .inr (.inl rfl) | exact .inr (.inr rfl))) (da_cons (de_mov (i := 1) rfl (by first | exact .inl rfl | exact .inr (.inl rfl) | exact .inr (.inr rfl))) da_nil))) (blk_by (by kernel_rfl)) (fun s H C cl fp => (dg_tup rfl (dgs_cons (dg_name nd__law_is rfl (by first | exact .inl rfl | exact .inr rfl)) (dgs_cons (dg_name nd__law_is rfl (by first | exact .inl rfl | exact .inr rfl)) dgs_nil)))) (by decide) (fun s H C cl fp => dts_nil) (fun s H C cl fp => (de_callC c__law_is (hr.mono (by omega)) rfl passes0 (da_cons (de_mov (i := 2) rfl (by first | exact .inl rfl | exact .inr (.inl rfl) | exact .inr (.inr rfl))) (da_cons (de_mov (i := 3) rfl (by first | exact .inl rfl | exact .inr (.inl rfl) | exact .inr (.inr rfl))) da_nil))))))))))) dss_nil) (dss_cons (ds_if (DW.db (dw_or (db_cmpR opd_is (de_var (i := 1) rfl (by first | exact .inl rfl | exact .inr (.inl rfl) | exact .inr (.inr rfl))) de_non (by first | exact nobehind _ (by decide) (by decide) | rfl)) (dw_or1 (db_cmpR opd_is (de_var (i := 0) rfl (by first | exact .inl rfl | exact .inr (.inl rfl) | exact .inr (.inr rfl))) de_non (by first | exact nobehind _ (by decide) (by decide) | rfl))))) (dss_one (ds_ret (de_and (de_cmp opd_is (de_var (i := 1) rfl (by first | exact .inl rfl | exact .inr (.inl rfl) | exact .inr (.inr rfl))) de_non (by first | exact nobehind _ (by decide) (by decide) | rfl)) (de_one (de_cmp opd_is (de_var (i := 0) rfl (by first | exact .inl rfl | exact .inr (.inl rfl) | exact .inr (.inr rfl))) de_non (by first | exact nobehind _ (by decide) (by decide) | rfl)))))) dss_nil) (dss_cons (ds_if (DW.db (dw_or (db_cmpR (opd_ne hr.units) (de_isi .bl (de_var (i := 0) rfl (by first | exact .inl rfl | exact .inr (.inl rfl) | exact .inr (.inr rfl))) rfl fx.g_isinstance rfl fx.g_bool rfl) (de_isi .bl (de_var (i := 1) rfl (by first | exact .inl rfl | exact .inr (.inl rfl) | exact .inr (.inr rfl))) rfl fx.g_isinstance rfl fx.g_bool rfl) (by first | exact nobehind _ (by decide) (by decide) | rfl)) (dw_or1 (db_cmpR (opd_ne hr.units) (de_isi .int (de_var (i := 0) rfl (by first | exact .inl rfl | exact .inr (.inl rfl) | exact .inr (.inr rfl))) rfl fx.g_isinstance rfl fx.g_int rfl) (de_isi .int (de_var (i := 1) rfl (by first | exact .inl rfl | exact .inr (.inl rfl) | exact .inr (.inr rfl))) rfl fx.g_isinstance rfl fx.g_int rfl) (by first | exact nobehind _ (by decide) (by decide) | rfl))))) (dss_one (ds_ret de_bl)) dss_nil) (dss_one (ds_ret (de_and (de_cmp (opd_eq hr.units) (de_isi .str (de_var (i := 0) rfl (by first | exact .inl rfl | exact .inr (.inl rfl) | exact .inr (.inr rfl))) rfl fx.g_isinstance rfl fx.g_str rfl) (de_isi .str (de_var (i := 1) rfl (by first | exact .inl rfl | exact .inr (.inl rfl) | exact .inr (.inr rfl))) rfl fx.g_isinstance rfl fx.g_str rfl) (by first | exact nobehind _ (by decide) (by decide) | rfl)) (de_one (de_cmp (opd_eq hr.units) (de_var (i := 0) rfl (by first | exact .inl rfl | exact .inr (.inl rfl) | exact .inr (.inr rfl))) (de_var (i := 1) rfl (by first | exact .inl rfl | exact .inr (.inl rfl) | exact .inr (.inr rfl))) (by first | exact nobehind _ (by decide) (by decide) | rfl)))))))))
def N__law_heard : List Str := ["call", "error", "some", "said", "word", "is_one"]
theorem sc__law_heard : FnScope N__law_heard ["call"] (defScope s__law_heard) := ⟨rfl, rfl, rfl, by decide +kernel, rfl, by decide +kernel, by decide +kernel⟩
theorem nd__law_heard : N__law_heard.Nodup := sc__law_heard.nd
def R__law_heard (ad : Ad) (C : Addr) : Option D := if C = ad.BadNumber then some (.str "number") else none
def l__law_heard : D := .str "let"
def th__law_heard (ad : Ad) (e C : Addr) : DSt := (xSeq (xAsg (xLst xNilA) (xName 2)) (xSeq (xDrop (xMt 2 appR (xConsA (xTup (xConsA (xC (.str "number")) (xConsA (xIsE 1 e (decide (C = ad.BadNumber))) xNilA))) xNilA))) (xSeq (xAsg (xLc (xItB (xVar 2)) (xTupG [(xName 4), (xName 5)]) (xAnd (xTru (xVar 5)) (xTru (xIsE 1 e true))) (xMov 4) [4, 5]) (xName 3)) (xSeq (xIf (xTru (xOp neIR (xUn lenR (xVar 3)) (xC (.int 1)))) (xRet (xC (.str "odd"))) xNext) (xRet (xOp ixR (xVar 3) (xC (.int 0))))))))
def tp__law_heard : DSt := (xRet (xC (.str "let")))
theorem gives__law_heard {X : Cx} {G : Amb} {ad : Ad} {g : Addr} {cdg : Value} (fx : Fx X.prog X.w X.K X.mg ad) (q : Str) : LamN.Gives X N__law_heard "_law_heard" (defScope s__law_heard) g cdg (defBody s__law_heard) "call" q (TTh G X.K (R__law_heard ad) l__law_heard) := by
  have hR : ∀ C w, R__law_heard ad C = some w → (C = ad.BadNumber ∧ w = .str "number") := fun C w h => by
    unfold R__law_heard at h
    split at h
    · rename_i e; cases h; exact ⟨e, rfl⟩
    cases h
  intro f c' s H Q tl act hc ht
  refine Exists.imp (fun t h => ⟨h.1, h.2 _ _ rfl ?fl hc ht⟩) (hear_core (i := 1) (δ := .val (.ref f) :: List.replicate 5 .un) (τs := fun e C => th__law_heard ad e C) (τp := tp__law_heard) (R := R__law_heard ad) (l := l__law_heard) (CS := ad.TermError) act nd__law_heard rfl (by first | exact .inl rfl | exact .inr rfl) rfl fx.g_TermError (by decide) ?exm ?su ?post ?rexc ?rok)
  case fl =>
    exact ⟨rfl, fun i s hs => by
      match i, hs with
      | 0, hs => cases hs; exact .inr ⟨_, _, rfl, rfl, fun _ _ => rfl⟩
      | i + 1, hs =>
        left
        rw [List.getElem?_cons_succ, List.getElem?_replicate] at hs
        split at hs
        · exact (Option.some.inj hs).symm
        · cases hs⟩
  case exm =>
    intro C w hw
    obtain ⟨rfl, rfl⟩ := hR C w hw
    exact fx.m_BadNumber
  case su =>
    intro e oe pn C w hw hz hf
    have hzc := hz.zc
    have hE : ExcC X.K C := by
      obtain ⟨rfl, rfl⟩ := hR C w hw
      exact fx.e_BadNumber
    have k_BadNumber : PySem.W.kitOne X.K (.ref C) (.ref ad.BadNumber) = some (decide (C = ad.BadNumber)) := by
      obtain ⟨rfl, rfl⟩ := hR C w hw
      rw [fx.q_BadNumber_BadNumber, decide_eq_true rfl]
    have k_ValueError : PySem.W.kitOne X.K (.ref C) (.type "ValueError") = some true := by
      obtain ⟨rfl, rfl⟩ := hR C w hw
      exact fx.q_BadNumber_ValueError
    exact (dss_cons (ds_set nd__law_heard rfl (by first | exact .inl rfl | exact .inr rfl) (de_lst da_nil) rfl) (dss_cons (ds_expr (de_mt (i := 2) PySem.F.slot_list_append PySem.F.type_list_append md_append rfl (by first | exact .inl rfl | exact .inr (.inl rfl) | exact .inr (.inr rfl)) (da_cons (de_tup (da_cons de_str (da_cons (de_isP (i := 1) (List.mem_cons_self ..) hE hzc hf rfl fx.g_isinstance rfl (by first | exact .inl rfl | exact .inr (.inl rfl) | exact .inr (.inr rfl)) (pe_glob (v := .ref ad.BadNumber) rfl fx.g_BadNumber rfl) (fun _ h => h) k_BadNumber) da_nil))) da_nil))) (dss_cons (ds_setLcB (own := [("word", 4), ("is_one", 5)]) (hot_suite hz hf) (List.mem_cons_self ..) nd__law_heard rfl rfl rfl (dib_list (de_var (i := 2) rfl (by first | exact .inl rfl | exact .inr (.inl rfl) | exact .inr (.inr rfl)))) (blk_by (by kernel_rfl)) (fun s H C cl fp => (dgb_tup (dgs_cons (dg_name nd__law_heard rfl (by first | exact .inl rfl | exact .inr rfl)) (dgs_cons (dg_name nd__law_heard rfl (by first | exact .inl rfl | exact .inr rfl)) dgs_nil)))) (by decide) (fun s H C cl fp => (dts_one (DW.db (dw_and (db_tru (de_var (i := 5) rfl (by first | exact .inl rfl | exact .inr (.inl rfl) | exact .inr (.inr rfl)))) (dw_and1 (db_tru (de_isP (i := 1) (List.mem_cons_self ..) hE hzc hf rfl fx.g_isinstance rfl (by first | exact .inl rfl | exact .inr (.inl rfl) | exact .inr (.inr rfl)) (pe_bltn (v := .ty "ValueError") rfl fx.g_ValueError rfl rfl) (fun _ h => h) k_ValueError))))))) (fun s H C cl fp => (de_mov (i := 4) rfl (by first | exact .inl rfl | exact .inr (.inl rfl) | exact .inr (.inr rfl))))) (dss_cons (ds_if (db_cmpR opd_neI (de_callB1 cd_len rfl fx.g_len rfl (de_var (i := 3) rfl (by first | exact .inl rfl | exact .inr (.inl rfl) | exact .inr (.inr rfl)))) de_int (by first | exact nobehind _ (by decide) (by decide) | rfl)) (dss_one (ds_ret de_str)) dss_nil) (dss_one (ds_ret (de_ix ixd_seq (de_var (i := 3) rfl (by first | exact .inl rfl | exact .inr (.inl rfl) | exact .inr (.inr rfl))) de_int (fun _ _ => rfl))))))))
  case post => exact (dss_one (ds_ret de_str))
  case rexc =>
    intro C w e hw
    obtain ⟨rfl, rfl⟩ := hR C w hw
    simp [th__law_heard, tp__law_heard, N__law_heard, endW, List.replicate, lcW_cons, lcW_nil, atD, atI, ixN]
  case rok => simp [tp__law_heard, l__law_heard, endW, loopE, xSeq, xIf, xAsg, xName, xRet, xRetN, xDrop, xNext, xRaise, xPar, putOps, nbO, xTru, truK, xNot, xAnd, xOr, xAndV, xOrV, xNotV, xIfE, xVar, xMov, xC, xOp, xUn, xMt, xLst, xTup, xConsA, xNilA, rdK, rd, kpK, kp, kpLK, kpL, ownK, xIsE, cmpR, cntR, idxR, appR, eqIR, intC, intF, ixR, atD, atI, ixN, flatD, eqD, wipeE, xChain, List.findIdx_cons]
def N__law_primes : List Str := ["most", "one", "part"]
theorem sc__law_primes : FnScope N__law_primes ["most"] (defScope s__law_primes) := ⟨rfl, rfl, rfl, by decide +kernel, rfl, by decide +kernel, by decide +kernel⟩
theorem nd__law_primes : N__law_primes.Nodup := sc__law_primes.nd
def t__law_primes (ad : Ad) : DSt := (xRet (xLc (xRg2 (xC (.int 2)) (xOp addR (xVar 0) (xC (.int 1)))) (xName 1) (xTru (xUn allR (xLc (xRg2 (xC (.int 2)) (xVar 1)) (xName 2) xYes (xOp gtR (xOp modR (xUn toIntR (xVar 1)) (xVar 2)) (xC (.int 0))) [2]))) (xMov 1) [1]))
theorem der__law_primes {P : Program} {w : World} {K : PySem.W.Frag} {mg : Str → Option Value} {base : Heap} {ad : Ad} {G : Amb} {f : Addr} {k : Nat} (fx : Fx P w K mg ad) (cdv : Value) (A : Around) (outer : List PySem.Env) (s : Shared) (H : Hp) (E : XK) (hr : Room k (A.deeper (PyProof.Rows.envOfC "_law_primes" (defScope s__law_primes) s.heap.objs.size f cdv))) :
    DSs (cxOf (L2N.CX P w) P w K mg base N__law_primes "_law_primes" (defScope s__law_primes) f cdv A outer s H E) G E (defBody s__law_primes) (t__law_primes ad) := by
  have hu := hr.units
  have hu5 := units5 hr
  have htk : L2N.Takes (cxOf (L2N.CX P w) P w K mg base N__law_primes "_law_primes" (defScope s__law_primes) f cdv A outer s H E) (fun cls d _ H => E cls d H) := L2N.takes_of rfl rfl rfl rfl
  have hx : Passes (L2N.CX P w) (cxOf (L2N.CX P w) P w K mg base N__law_primes "_law_primes" (defScope s__law_primes) f cdv A outer s H E) E := L2N.passes_call htk (fun _ _ _ _ h => h)
  have hp : PassesOwn (model P w) (cxOf (L2N.CX P w) P w K mg base N__law_primes "_law_primes" (defScope s__law_primes) f cdv A outer s H E).A (cxOf (L2N.CX P w) P w K mg base N__law_primes "_law_primes" (defScope s__law_primes) f cdv A outer s H E).env (cxOf (L2N.CX P w) P w K mg base N__law_primes "_law_primes" (defScope s__law_primes) f cdv A outer s H E).xe := passes_of rfl
  exact (dss_one (ds_ret (de_lc (own := [("one", 1)]) rfl nd__law_primes (di_range2 rfl fx.g_range de_int (de_op opd_add (de_var (i := 0) rfl (by first | exact .inl rfl | exact .inr (.inl rfl) | exact .inr (.inr rfl))) de_int)) (blk_by (by kernel_rfl)) (fun s H C cl fp => (dg_name nd__law_primes rfl (by first | exact .inl rfl | exact .inr rfl))) (by decide) (fun s H C cl fp => (dts_one (db_tru (de_callB1 (cd_all rfl) rfl fx.g_all rfl (de_lc (own := [("part", 2)]) rfl nd__law_primes (di_range2 rfl fx.g_range de_int (de_var (i := 1) rfl (by first | exact .inl rfl | exact .inr (.inl rfl) | exact .inr (.inr rfl)))) (blk_by (by kernel_rfl)) (fun s H C cl fp => (dg_name nd__law_primes rfl (by first | exact .inl rfl | exact .inr rfl))) (by decide) (fun s H C cl fp => dts_nil) (fun s H C cl fp => (de_cmp opd_gt (de_op opd_mod (de_callT1 cd_int rfl fx.g_int rfl (de_var (i := 1) rfl (by first | exact .inl rfl | exact .inr (.inl rfl) | exact .inr (.inr rfl)))) (de_var (i := 2) rfl (by first | exact .inl rfl | exact .inr (.inl rfl) | exact .inr (.inr rfl)))) de_int (by first | exact nobehind _ (by decide) (by decide) | rfl)))))))) (fun s H C cl fp => (de_mov (i := 1) rfl (by first | exact .inl rfl | exact .inr (.inl rfl) | exact .inr (.inr rfl)))))))
def N__law_lucky : List Str := ["most", "row", "at", "by", "place", "one"]
theorem sc__law_lucky : FnScope N__law_lucky ["most"] (defScope s__law_lucky) := ⟨rfl, rfl, rfl, by decide +kernel, rfl, by decide +kernel, by decide +kernel⟩
theorem nd__law_lucky : N__law_lucky.Nodup := sc__law_lucky.nd
def t__law_lucky (ad : Ad) : DSt := (xSeq (xAsg (xLrg3 (xC (.int 1)) (xOp addR (xVar 0) (xC (.int 1))) (xC (.int 2))) (xName 1)) (xSeq (xAsg (xC (.int 1)) (xName 2)) (xSeq (xWh (xAnd (xTru (xOp ltR (xVar 2) (xUn lenR (xVar 1)))) (xTru (xOp leR (xOp ixR (xVar 1) (xVar 2)) (xUn lenR (xVar 1))))) (xSeq (xAsg (xOp ixR (xVar 1) (xVar 2)) (xName 3)) (xSeq (xAsg (xLc (xItL enumD (xVar 1)) (xTupG [(xName 4), (xName 5)]) (xTru (xOp gtR (xOp modR (xUn toIntR (xOp addR (xVar 4) (xC (.int 1)))) (xVar 3)) (xC (.int 0)))) (xMov 5) [4, 5]) (xName 1)) (xAsg (xOp addR (xVar 2) (xC (.int 1))) (xName 2))))) (xRet (xMov 1)))))
theorem der__law_lucky {P : Program} {w : World} {K : PySem.W.Frag} {mg : Str → Option Value} {base : Heap} {ad : Ad} {G : Amb} {f : Addr} {k : Nat} (fx : Fx P w K mg ad) (cdv : Value) (A : Around) (outer : List PySem.Env) (s : Shared) (H : Hp) (E : XK) (hr : Room k (A.deeper (PyProof.Rows.envOfC "_law_lucky" (defScope s__law_lucky) s.heap.objs.size f cdv))) :
    DSs (cxOf (L2N.CX P w) P w K mg base N__law_lucky "_law_lucky" (defScope s__law_lucky) f cdv A outer s H E) G E (defBody s__law_lucky) (t__law_lucky ad) := by
  have hu := hr.units
  have hu5 := units5 hr
  have htk : L2N.Takes (cxOf (L2N.CX P w) P w K mg base N__law_lucky "_law_lucky" (defScope s__law_lucky) f cdv A outer s H E) (fun cls d _ H => E cls d H) := L2N.takes_of rfl rfl rfl rfl
  have hx : Passes (L2N.CX P w) (cxOf (L2N.CX P w) P w K mg base N__law_lucky "_law_lucky" (defScope s__law_lucky) f cdv A outer s H E) E := L2N.passes_call htk (fun _ _ _ _ h => h)
  have hp : PassesOwn (model P w) (cxOf (L2N.CX P w) P w K mg base N__law_lucky "_law_lucky" (defScope s__law_lucky) f cdv A outer s H E).A (cxOf (L2N.CX P w) P w K mg base N__law_lucky "_law_lucky" (defScope s__law_lucky) f cdv A outer s H E).env (cxOf (L2N.CX P w) P w K mg base N__law_lucky "_law_lucky" (defScope s__law_lucky) f cdv A outer s H E).xe := passes_of rfl
  exact (dss_cons (ds_set nd__law_lucky rfl (by first | exact .inl rfl | exact .inr rfl) (de_lrg3 rfl rfl fx.g_list rfl fx.g_range de_int (de_op opd_add (de_var (i := 0) rfl (by first | exact .inl rfl | exact .inr (.inl rfl) | exact .inr (.inr rfl))) de_int) de_int) rfl) (dss_cons (ds_set nd__law_lucky rfl (by first | exact .inl rfl | exact .inr rfl) de_int rfl) (dss_cons (ds_while hp (DW.db (dw_and (db_cmpR opd_lt (de_var (i := 2) rfl (by first | exact .inl rfl | exact .inr (.inl rfl) | exact .inr (.inr rfl))) (de_callB1 cd_len rfl fx.g_len rfl (de_var (i := 1) rfl (by first | exact .inl rfl | exact .inr (.inl rfl) | exact .inr (.inr rfl)))) (by first | exact nobehind _ (by decide) (by decide) | rfl)) (dw_and1 (db_cmpR opd_le (de_ix ixd_seq (de_var (i := 1) rfl (by first | exact .inl rfl | exact .inr (.inl rfl) | exact .inr (.inr rfl))) (de_var (i := 2) rfl (by first | exact .inl rfl | exact .inr (.inl rfl) | exact .inr (.inr rfl))) (fun _ _ => rfl)) (de_callB1 cd_len rfl fx.g_len rfl (de_var (i := 1) rfl (by first | exact .inl rfl | exact .inr (.inl rfl) | exact .inr (.inr rfl)))) (by first | exact nobehind _ (by decide) (by decide) | rfl))))) (dss_cons (ds_set nd__law_lucky rfl (by first | exact .inl rfl | exact .inr rfl) (de_ix ixd_seq (de_var (i := 1) rfl (by first | exact .inl rfl | exact .inr (.inl rfl) | exact .inr (.inr rfl))) (de_var (i := 2) rfl (by first | exact .inl rfl | exact .inr (.inl rfl) | exact .inr (.inr rfl))) (fun _ _ => rfl)) rfl) (dss_cons (by first | exact ds_setLc (own := [("place", 4), ("one", 5)]) rfl nd__law_lucky rfl rfl rfl (di_enum rfl fx.g_enumerate (de_var (i := 1) rfl (by first | exact .inl rfl | exact .inr (.inl rfl) | exact .inr (.inr rfl)))) (blk_by (by kernel_rfl)) (fun s H C cl fp => (dg_tup rfl (dgs_cons (dg_name nd__law_lucky rfl (by first | exact .inl rfl | exact .inr rfl)) (dgs_cons (dg_name nd__law_lucky rfl (by first | exact .inl rfl | exact .inr rfl)) dgs_nil)))) (by decide) (fun s H C cl fp => (dts_one (db_cmpR opd_gt (de_op opd_mod (de_callT1 cd_int rfl fx.g_int rfl (de_op opd_add (de_var (i := 4) rfl (by first | exact .inl rfl | exact .inr (.inl rfl) | exact .inr (.inr rfl))) de_int)) (de_var (i := 3) rfl (by first | exact .inl rfl | exact .inr (.inl rfl) | exact .inr (.inr rfl)))) de_int (by first | exact nobehind _ (by decide) (by decide) | rfl)))) (fun s H C cl fp => (de_mov (i := 5) rfl (by first | exact .inl rfl | exact .inr (.inl rfl) | exact .inr (.inr rfl)))) | exact ds_set nd__law_lucky rfl (by first | exact .inl rfl | exact .inr rfl) (de_lc (own := [("place", 4), ("one", 5)]) rfl nd__law_lucky (di_enum rfl fx.g_enumerate (de_var (i := 1) rfl (by first | exact .inl rfl | exact .inr (.inl rfl) | exact .inr (.inr rfl)))) (blk_by (by kernel_rfl)) (fun s H C cl fp => (dg_tup rfl (dgs_cons (dg_name nd__law_lucky rfl (by first | exact .inl rfl | exact .inr rfl)) (dgs_cons (dg_name nd__law_lucky rfl (by first | exact .inl rfl | exact .inr rfl)) dgs_nil)))) (by decide) (fun s H C cl fp => (dts_one (db_cmpR opd_gt (de_op opd_mod (de_callT1 cd_int rfl fx.g_int rfl (de_op opd_add (de_var (i := 4) rfl (by first | exact .inl rfl | exact .inr (.inl rfl) | exact .inr (.inr rfl))) de_int)) (de_var (i := 3) rfl (by first | exact .inl rfl | exact .inr (.inl rfl) | exact .inr (.inr rfl)))) de_int (by first | exact nobehind _ (by decide) (by decide) | rfl)))) (fun s H C cl fp => (de_mov (i := 5) rfl (by first | exact .inl rfl | exact .inr (.inl rfl) | exact .inr (.inr rfl))))) rfl) (dss_one (ds_set nd__law_lucky rfl (by first | exact .inl rfl | exact .inr rfl) (de_op opd_add (de_var (i := 2) rfl (by first | exact .inl rfl | exact .inr (.inl rfl) | exact .inr (.inr rfl))) de_int) rfl))))) (dss_one (ds_ret (de_mov (i := 1) rfl (by first | exact .inl rfl | exact .inr (.inl rfl) | exact .inr (.inr rfl))))))))
def N__law_ludic : List Str := ["most", "found", "row", "by", "place", "one"]
theorem sc__law_ludic : FnScope N__law_ludic ["most"] (defScope s__law_ludic) := ⟨rfl, rfl, rfl, by decide +kernel, rfl, by decide +kernel, by decide +kernel⟩
theorem nd__law_ludic : N__law_ludic.Nodup := sc__law_ludic.nd
def t__law_ludic (ad : Ad) : DSt := (xSeq (xPar [1, 2] (xConsA (xSlH (xLst (xConsA (xC (.int 1)) xNilA)) (xVar 0)) (xConsA (xOp lrg2R (xC (.int 2)) (xOp addR (xVar 0) (xC (.int 1)))) xNilA))) (xSeq (xWh (xTru (xOp gtR (xUn lenR (xVar 2)) (xC (.int 0)))) (xSeq (xAsg (xOp ixR (xVar 2) (xC (.int 0))) (xName 3)) (xSeq (xDrop (xMt 1 appR (xConsA (xMov 3) xNilA))) (xAsg (xLc (xItL enumD (xVar 2)) (xTupG [(xName 4), (xName 5)]) (xTru (xOp gtR (xOp modR (xUn toIntR (xVar 4)) (xVar 3)) (xC (.int 0)))) (xMov 5) [4, 5]) (xName 2))))) (xRet (xMov 1))))
theorem der__law_ludic {P : Program} {w : World} {K : PySem.W.Frag} {mg : Str → Option Value} {base : Heap} {ad : Ad} {G : Amb} {f : Addr} {k : Nat} (fx : Fx P w K mg ad) (cdv : Value) (A : Around) (outer : List PySem.Env) (s : Shared) (H : Hp) (E : XK) (hr : Room k (A.deeper (PyProof.Rows.envOfC "_law_ludic" (defScope s__law_ludic) s.heap.objs.size f cdv))) :
    DSs (cxOf (L2N.CX P w) P w K mg base N__law_ludic "_law_ludic" (defScope s__law_ludic) f cdv A outer s H E) G E (defBody s__law_ludic) (t__law_ludic ad) := by
  have hu := hr.units
  have hu5 := units5 hr
  have htk : L2N.Takes (cxOf (L2N.CX P w) P w K mg base N__law_ludic "_law_ludic" (defScope s__law_ludic) f cdv A outer s H E) (fun cls d _ H => E cls d H) := L2N.takes_of rfl rfl rfl rfl
  have hx : Passes (L2N.CX P w) (cxOf (L2N.CX P w) P w K mg base N__law_ludic "_law_ludic" (defScope s__law_ludic) f cdv A outer s H E) E := L2N.passes_call htk (fun _ _ _ _ h => h)
  have hp : PassesOwn (model P w) (cxOf (L2N.CX P w) P w K mg base N__law_ludic "_law_ludic" (defScope s__law_ludic) f cdv A outer s H E).A (cxOf (L2N.CX P w) P w K mg base N__law_ludic "_law_ludic" (defScope s__law_ludic) f cdv A outer s H E).env (cxOf (L2N.CX P w) P w K mg base N__law_ludic "_law_ludic" (defScope s__law_ludic) f cdv A outer s H E).xe := passes_of rfl
  exact (dss_cons (ds_par rfl nd__law_ludic rfl rfl (by decide) rfl rfl (da_cons (de_slH (de_lst (da_cons de_int da_nil)) (de_var (i := 0) rfl (by first | exact .inl rfl | exact .inr (.inl rfl) | exact .inr (.inr rfl)))) (da_cons (de_lrg2 rfl rfl fx.g_list rfl fx.g_range de_int (de_op opd_add (de_var (i := 0) rfl (by first | exact .inl rfl | exact .inr (.inl rfl) | exact .inr (.inr rfl))) de_int)) da_nil)) rfl) (dss_cons (ds_while hp (db_cmpR opd_gt (de_callB1 cd_len rfl fx.g_len rfl (de_var (i := 2) rfl (by first | exact .inl rfl | exact .inr (.inl rfl) | exact .inr (.inr rfl)))) de_int (by first | exact nobehind _ (by decide) (by decide) | rfl)) (dss_cons (ds_set nd__law_ludic rfl (by first | exact .inl rfl | exact .inr rfl) (de_ix ixd_seq (de_var (i := 2) rfl (by first | exact .inl rfl | exact .inr (.inl rfl) | exact .inr (.inr rfl))) de_int (fun _ _ => rfl)) rfl) (dss_cons (ds_expr (de_mt (i := 1) PySem.F.slot_list_append PySem.F.type_list_append md_append rfl (by first | exact .inl rfl | exact .inr (.inl rfl) | exact .inr (.inr rfl)) (da_cons (de_mov (i := 3) rfl (by first | exact .inl rfl | exact .inr (.inl rfl) | exact .inr (.inr rfl))) da_nil))) (dss_one (by first | exact ds_setLc (own := [("place", 4), ("one", 5)]) rfl nd__law_ludic rfl rfl rfl (di_enum rfl fx.g_enumerate (de_var (i := 2) rfl (by first | exact .inl rfl | exact .inr (.inl rfl) | exact .inr (.inr rfl)))) (blk_by (by kernel_rfl)) (fun s H C cl fp => (dg_tup rfl (dgs_cons (dg_name nd__law_ludic rfl (by first | exact .inl rfl | exact .inr rfl)) (dgs_cons (dg_name nd__law_ludic rfl (by first | exact .inl rfl | exact .inr rfl)) dgs_nil)))) (by decide) (fun s H C cl fp => (dts_one (db_cmpR opd_gt (de_op opd_mod (de_callT1 cd_int rfl fx.g_int rfl (de_var (i := 4) rfl (by first | exact .inl rfl | exact .inr (.inl rfl) | exact .inr (.inr rfl)))) (de_var (i := 3) rfl (by first | exact .inl rfl | exact .inr (.inl rfl) | exact .inr (.inr rfl)))) de_int (by first | exact nobehind _ (by decide) (by decide) | rfl)))) (fun s H C cl fp => (de_mov (i := 5) rfl (by first | exact .inl rfl | exact .inr (.inl rfl) | exact .inr (.inr rfl)))) | exact ds_set nd__law_ludic rfl (by first | exact .inl rfl | exact .inr rfl) (de_lc (own := [("place", 4), ("one", 5)]) rfl nd__law_ludic (di_enum rfl fx.g_enumerate (de_var (i := 2) rfl (by first | exact .inl rfl | exact .inr (.inl rfl) | exact .inr (.inr rfl)))) (blk_by (by kernel_rfl)) (fun s H C cl fp => (dg_tup rfl (dgs_cons (dg_name nd__law_ludic rfl (by first | exact .inl rfl | exact .inr rfl)) (dgs_cons (dg_name nd__law_ludic rfl (by first | exact .inl rfl | exact .inr rfl)) dgs_nil)))) (by decide) (fun s H C cl fp => (dts_one (db_cmpR opd_gt (de_op opd_mod (de_callT1 cd_int rfl fx.g_int rfl (de_var (i := 4) rfl (by first | exact .inl rfl | exact .inr (.inl rfl) | exact .inr (.inr rfl)))) (de_var (i := 3) rfl (by first | exact .inl rfl | exact .inr (.inl rfl) | exact .inr (.inr rfl)))) de_int (by first | exact nobehind _ (by decide) (by decide) | rfl)))) (fun s H C cl fp => (de_mov (i := 5) rfl (by first | exact .inl rfl | exact .inr (.inl rfl) | exact .inr (.inr rfl))))) rfl))))) (dss_one (ds_ret (de_mov (i := 1) rfl (by first | exact .inl rfl | exact .inr (.inl rfl) | exact .inr (.inr rfl)))))))
def N__law_each : List Str := ["most", "row", "by", "place", "one"]
theorem sc__law_each : FnScope N__law_each ["most"] (defScope s__law_each) := ⟨rfl, rfl, rfl, by decide +kernel, rfl, by decide +kernel, by decide +kernel⟩
theorem nd__law_each : N__law_each.Nodup := sc__law_each.nd
def t__law_each (ad : Ad) : DSt := (xSeq (xAsg (xTup (xConsA (xOp lrg2R (xC (.int 1)) (xOp addR (xVar 0) (xC (.int 1)))) (xConsA (xC (.int 2)) xNilA))) (xTupG [(xName 1), (xName 2)])) (xSeq (xWh (xTru (xOp leR (xVar 2) (xUn lenR (xVar 1)))) (xSeq (xAsg (xLc (xItL enumD (xVar 1)) (xTupG [(xName 3), (xName 4)]) (xTru (xOp gtR (xOp modR (xUn toIntR (xOp addR (xVar 3) (xC (.int 1)))) (xVar 2)) (xC (.int 0)))) (xMov 4) [3, 4]) (xName 1)) (xAsg (xOp addR (xVar 2) (xC (.int 1))) (xName 2)))) (xRet (xMov 1))))
theorem der__law_each {P : Program} {w : World} {K : PySem.W.Frag} {mg : Str → Option Value} {base : Heap} {ad : Ad} {G : Amb} {f : Addr} {k : Nat} (fx : Fx P w K mg ad) (cdv : Value) (A : Around) (outer : List PySem.Env) (s : Shared) (H : Hp) (E : XK) (hr : Room k (A.deeper (PyProof.Rows.envOfC "_law_each" (defScope s__law_each) s.heap.objs.size f cdv))) :
    DSs (cxOf (L2N.CX P w) P w K mg base N__law_each "_law_each" (defScope s__law_each) f cdv A outer s H E) G E (defBody s__law_each) (t__law_each ad) := by
  have hu := hr.units
  have hu5 := units5 hr
  have htk : L2N.Takes (cxOf (L2N.CX P w) P w K mg base N__law_each "_law_each" (defScope s__law_each) f cdv A outer s H E) (fun cls d _ H => E cls d H) := L2N.takes_of rfl rfl rfl rfl
  have hx : Passes (L2N.CX P w) (cxOf (L2N.CX P w) P w K mg base N__law_each "_law_each" (defScope s__law_each) f cdv A outer s H E) E := L2N.passes_call htk (fun _ _ _ _ h => h)
  have hp : PassesOwn (model P w) (cxOf (L2N.CX P w) P w K mg base N__law_each "_law_each" (defScope s__law_each) f cdv A outer s H E).A (cxOf (L2N.CX P w) P w K mg base N__law_each "_law_each" (defScope s__law_each) f cdv A outer s H E).env (cxOf (L2N.CX P w) P w K mg base N__law_each "_law_each" (defScope s__law_each) f cdv A outer s H E).xe := passes_of rfl
  exact (dss_cons (ds_asg (de_tup (da_cons (de_lrg2 rfl rfl fx.g_list rfl fx.g_range de_int (de_op opd_add (de_var (i := 0) rfl (by first | exact .inl rfl | exact .inr (.inl rfl) | exact .inr (.inr rfl))) de_int)) (da_cons de_int da_nil))) (dg_tup rfl (dgs_cons (dg_name nd__law_each rfl (by first | exact .inl rfl | exact .inr rfl)) (dgs_cons (dg_name nd__law_each rfl (by first | exact .inl rfl | exact .inr rfl)) dgs_nil)))) (dss_cons (ds_while hp (db_cmpR opd_le (de_var (i := 2) rfl (by first | exact .inl rfl | exact .inr (.inl rfl) | exact .inr (.inr rfl))) (de_callB1 cd_len rfl fx.g_len rfl (de_var (i := 1) rfl (by first | exact .inl rfl | exact .inr (.inl rfl) | exact .inr (.inr rfl)))) (by first | exact nobehind _ (by decide) (by decide) | rfl)) (dss_cons (by first | exact ds_setLc (own := [("place", 3), ("one", 4)]) rfl nd__law_each rfl rfl rfl (di_enum rfl fx.g_enumerate (de_var (i := 1) rfl (by first | exact .inl rfl | exact .inr (.inl rfl) | exact .inr (.inr rfl)))) (blk_by (by kernel_rfl)) (fun s H C cl fp => (dg_tup rfl (dgs_cons (dg_name nd__law_each rfl (by first | exact .inl rfl | exact .inr rfl)) (dgs_cons (dg_name nd__law_each rfl (by first | exact .inl rfl | exact .inr rfl)) dgs_nil)))) (by decide) (fun s H C cl fp => (dts_one (db_cmpR opd_gt (de_op opd_mod (de_callT1 cd_int rfl fx.g_int rfl (de_op opd_add (de_var (i := 3) rfl (by first | exact .inl rfl | exact .inr (.inl rfl) | exact .inr (.inr rfl))) de_int)) (de_var (i := 2) rfl (by first | exact .inl rfl | exact .inr (.inl rfl) | exact .inr (.inr rfl)))) de_int (by first | exact nobehind _ (by decide) (by decide) | rfl)))) (fun s H C cl fp => (de_mov (i := 4) rfl (by first | exact .inl rfl | exact .inr (.inl rfl) | exact .inr (.inr rfl)))) | exact ds_set nd__law_each rfl (by first | exact .inl rfl | exact .inr rfl) (de_lc (own := [("place", 3), ("one", 4)]) rfl nd__law_each (di_enum rfl fx.g_enumerate (de_var (i := 1) rfl (by first | exact .inl rfl | exact .inr (.inl rfl) | exact .inr (.inr rfl)))) (blk_by (by kernel_rfl)) (fun s H C cl fp => (dg_tup rfl (dgs_cons (dg_name nd__law_each rfl (by first | exact .inl rfl | exact .inr rfl)) (dgs_cons (dg_name nd__law_each rfl (by first | exact .inl rfl | exact .inr rfl)) dgs_nil)))) (by decide) (fun s H C cl fp => (dts_one (db_cmpR opd_gt (de_op opd_mod (de_callT1 cd_int rfl fx.g_int rfl (de_op opd_add (de_var (i := 3) rfl (by first | exact .inl rfl | exact .inr (.inl rfl) | exact .inr (.inr rfl))) de_int)) (de_var (i := 2) rfl (by first | exact .inl rfl | exact .inr (.inl rfl) | exact .inr (.inr rfl)))) de_int (by first | exact nobehind _ (by decide) (by decide) | rfl)))) (fun s H C cl fp => (de_mov (i := 4) rfl (by first | exact .inl rfl | exact .inr (.inl rfl) | exact .inr (.inr rfl))))) rfl) (dss_one (ds_set nd__law_each rfl (by first | exact .inl rfl | exact .inr rfl) (de_op opd_add (de_var (i := 2) rfl (by first | exact .inl rfl | exact .inr (.inl rfl) | exact .inr (.inr rfl))) de_int) rfl)))) (dss_one (ds_ret (de_mov (i := 1) rfl (by first | exact .inl rfl | exact .inr (.inl rfl) | exact .inr (.inr rfl)))))))
def N__law_summed : List Str := ["power", "many", "row", "by", "left", "total", "place", "one"]
theorem sc__law_summed : FnScope N__law_summed ["power", "many"] (defScope s__law_summed) := ⟨rfl, rfl, rfl, by decide +kernel, rfl, by decide +kernel, by decide +kernel⟩
theorem nd__law_summed : N__law_summed.Nodup := sc__law_summed.nd
def t__law_summed (ad : Ad) : DSt := (xSeq (xAsg (xOp mulBR (xLst (xConsA (xC (.int 1)) xNilA)) (xOp mulBR (xOp addR (xVar 0) (xC (.int 1))) (xOp addR (xVar 1) (xC (.int 1))))) (xName 2)) (xSeq (xFor (xIt id (xUn revBR (xOp lrg2R (xC (.int 2)) (xOp addR (xVar 0) (xC (.int 2)))))) (xName 3) (xSeq (xPar [4, 5] (xConsA (xLst xNilA) (xConsA (xC (.int 0)) xNilA))) (xSeq (xFor (xItL enumD (xVar 2)) (xTupG [(xName 6), (xName 7)]) (xIf (xTru (xOp gtR (xOp modR (xUn toIntR (xOp addR (xVar 6) (xC (.int 1)))) (xVar 3)) (xC (.int 0)))) (xSeq (xAsg (xOp addR (xVar 5) (xVar 7)) (xName 5)) (xDrop (xMt 4 appR (xConsA (xMov 5) xNilA)))) xNext)) (xAsg (xMov 4) (xName 2))))) (xRet (xSlH (xVar 2) (xVar 1)))))
theorem der__law_summed {P : Program} {w : World} {K : PySem.W.Frag} {mg : Str → Option Value} {base : Heap} {ad : Ad} {G : Amb} {f : Addr} {k : Nat} (fx : Fx P w K mg ad) (cdv : Value) (A : Around) (outer : List PySem.Env) (s : Shared) (H : Hp) (E : XK) (hr : Room k (A.deeper (PyProof.Rows.envOfC "_law_summed" (defScope s__law_summed) s.heap.objs.size f cdv))) :
    DSs (cxOf (L2N.CX P w) P w K mg base N__law_summed "_law_summed" (defScope s__law_summed) f cdv A outer s H E) G E (defBody s__law_summed) (t__law_summed ad) := by
  have hu := hr.units
  have hu5 := units5 hr
  have htk : L2N.Takes (cxOf (L2N.CX P w) P w K mg base N__law_summed "_law_summed" (defScope s__law_summed) f cdv A outer s H E) (fun cls d _ H => E cls d H) := L2N.takes_of rfl rfl rfl rfl
  have hx : Passes (L2N.CX P w) (cxOf (L2N.CX P w) P w K mg base N__law_summed "_law_summed" (defScope s__law_summed) f cdv A outer s H E) E := L2N.passes_call htk (fun _ _ _ _ h => h)
  have hp : PassesOwn (model P w) (cxOf (L2N.CX P w) P w K mg base N__law_summed "_law_summed" (defScope s__law_summed) f cdv A outer s H E).A (cxOf (L2N.CX P w) P w K mg base N__law_summed "_law_summed" (defScope s__law_summed) f cdv A outer s H E).env (cxOf (L2N.CX P w) P w K mg base N__law_summed "_law_summed" (defScope s__law_summed) f cdv A outer s H E).xe := passes_of rfl
  exact (dss_cons (ds_set nd__law_summed rfl (by first | exact .inl rfl | exact .inr rfl) (de_op opd_mulB (de_lst (da_cons de_int da_nil)) (de_op opd_mulB (de_op opd_add (de_var (i := 0) rfl (by first | exact .inl rfl | exact .inr (.inl rfl) | exact .inr (.inr rfl))) de_int) (de_op opd_add (de_var (i := 1) rfl (by first | exact .inl rfl | exact .inr (.inl rfl) | exact .inr (.inr rfl))) de_int))) rfl) (dss_cons (ds_for hp rfl (di_any (de_revB (de_lrg2 rfl rfl fx.g_list rfl fx.g_range de_int (de_op opd_add (de_var (i := 0) rfl (by first | exact .inl rfl | exact .inr (.inl rfl) | exact .inr (.inr rfl))) de_int)))) (dg_name nd__law_summed rfl (by first | exact .inl rfl | exact .inr rfl)) (dss_cons (ds_par rfl nd__law_summed rfl rfl (by decide) rfl rfl (da_cons (de_lst da_nil) (da_cons de_int da_nil)) rfl) (dss_cons (ds_for hp rfl (di_enum rfl fx.g_enumerate (de_var (i := 2) rfl (by first | exact .inl rfl | exact .inr (.inl rfl) | exact .inr (.inr rfl)))) (dg_tup rfl (dgs_cons (dg_name nd__law_summed rfl (by first | exact .inl rfl | exact .inr rfl)) (dgs_cons (dg_name nd__law_summed rfl (by first | exact .inl rfl | exact .inr rfl)) dgs_nil))) (dss_one (ds_if (db_cmpR opd_gt (de_op opd_mod (de_callT1 cd_int rfl fx.g_int rfl (de_op opd_add (de_var (i := 6) rfl (by first | exact .inl rfl | exact .inr (.inl rfl) | exact .inr (.inr rfl))) de_int)) (de_var (i := 3) rfl (by first | exact .inl rfl | exact .inr (.inl rfl) | exact .inr (.inr rfl)))) de_int (by first | exact nobehind _ (by decide) (by decide) | rfl)) (dss_cons (ds_set nd__law_summed rfl (by first | exact .inl rfl | exact .inr rfl) (de_op opd_add (de_var (i := 5) rfl (by first | exact .inl rfl | exact .inr (.inl rfl) | exact .inr (.inr rfl))) (de_var (i := 7) rfl (by first | exact .inl rfl | exact .inr (.inl rfl) | exact .inr (.inr rfl)))) rfl) (dss_one (ds_expr (de_mt (i := 4) PySem.F.slot_list_append PySem.F.type_list_append md_append rfl (by first | exact .inl rfl | exact .inr (.inl rfl) | exact .inr (.inr rfl)) (da_cons (de_mov (i := 5) rfl (by first | exact .inl rfl | exact .inr (.inl rfl) | exact .inr (.inr rfl))) da_nil))))) dss_nil)) (by intro _; rfl)) (dss_one (ds_set nd__law_summed rfl (by first | exact .inl rfl | exact .inr rfl) (de_mov (i := 4) rfl (by first | exact .inl rfl | exact .inr (.inl rfl) | exact .inr (.inr rfl))) rfl)))) (by intro _; rfl)) (dss_one (ds_ret (de_slH (de_var (i := 2) rfl (by first | exact .inl rfl | exact .inr (.inl rfl) | exact .inr (.inr rfl))) (de_var (i := 1) rfl (by first | exact .inl rfl | exact .inr (.inl rfl) | exact .inr (.inr rfl))))))))
def N__law_are_sieves_right : List Str := ["hand", "most", "less", "said", "due", "call", "row", "one"]
theorem sc__law_are_sieves_right : FnScope N__law_are_sieves_right ["hand"] (defScope s__law_are_sieves_right) := ⟨rfl, rfl, rfl, by decide +kernel, rfl, by decide +kernel, by decide +kernel⟩
theorem nd__law_are_sieves_right : N__law_are_sieves_right.Nodup := sc__law_are_sieves_right.nd
def b__law_are_sieves_right_1 (ad : Ad) (f__law_any : FSp) (f__law_draw : FSp) (f_primes : FSp) (f_lucky : FSp) (f_ludic : FSp) (f_struck_each : FSp) (f__law_primes : FSp) (f__law_lucky : FSp) (f__law_ludic : FSp) (f__law_each : FSp) (f__law_is : FSp) (R_call : Addr → Option FSp) : DSt := (xIf (xTru (xOp neR (xUn toLstR (xCallL 5 R_call (xConsA (xMov 2) xNilA))) (xLc (xIt id (xVar 6)) (xName 7) (xTru (xOp leR (xVar 7) (xVar 2))) (xMov 7) [7]))) (xRet (xC (.bl false))) xNext)
def k__law_are_sieves_right_2 (ad : Ad) (f__law_any : FSp) (f__law_draw : FSp) (f_primes : FSp) (f_lucky : FSp) (f_ludic : FSp) (f_struck_each : FSp) (f__law_primes : FSp) (f__law_lucky : FSp) (f__law_ludic : FSp) (f__law_each : FSp) (f__law_is : FSp) (R_call : Addr → Option FSp) : DSt := (xRet (xC (.bl true)))
def k__law_are_sieves_right_3 (ad : Ad) (f__law_any : FSp) (f__law_draw : FSp) (f_primes : FSp) (f_lucky : FSp) (f_ludic : FSp) (f_struck_each : FSp) (f__law_primes : FSp) (f__law_lucky : FSp) (f__law_ludic : FSp) (f__law_each : FSp) (f__law_is : FSp) (R_call : Addr → Option FSp) : DSt := (xSeq (xFor (xIt id (xTup (xConsA (xTup (xConsA (xC (.ref ad.primes)) (xConsA (xOp ixR (xVar 4) (xC (.int 0))) xNilA))) (xConsA (xTup (xConsA (xC (.ref ad.lucky)) (xConsA (xOp ixR (xVar 4) (xC (.int 1))) xNilA))) (xConsA (xTup (xConsA (xC (.ref ad.ludic)) (xConsA (xOp ixR (xVar 4) (xC (.int 2))) xNilA))) (xConsA (xTup (xConsA (xC (.ref ad.struck_each)) (xConsA (xOp ixR (xVar 4) (xC (.int 3))) xNilA))) xNilA)))))) (xTupG [(xName 5), (xName 6)]) (b__law_are_sieves_right_1 ad f__law_any f__law_draw f_primes f_lucky f_ludic f_struck_each f__law_primes f__law_lucky f__law_ludic f__law_each f__law_is R_call)) (k__law_are_sieves_right_2 ad f__law_any f__law_draw f_primes f_lucky f_ludic f_struck_each f__law_primes f__law_lucky f__law_ludic f__law_each f__law_is R_call))
def k__law_are_sieves_right_4 (ad : Ad) (f__law_any : FSp) (f__law_draw : FSp) (f_primes : FSp) (f_lucky : FSp) (f_ludic : FSp) (f_struck_each : FSp) (f__law_primes : FSp) (f__law_lucky : FSp) (f__law_ludic : FSp) (f__law_each : FSp) (f__law_is : FSp) (R_call : Addr → Option FSp) : DSt := (xSeq (xIf (xNot (xTru (xCall f__law_is (xConsA (xMov 3) (xConsA (xMov 4) xNilA))))) (xRet (xC (.bl false))) xNext) (k__law_are_sieves_right_3 ad f__law_any f__law_draw f_primes f_lucky f_ludic f_struck_each f__law_primes f__law_lucky f__law_ludic f__law_each f__law_is R_call))
def k__law_are_sieves_right_5 (ad : Ad) (f__law_any : FSp) (f__law_draw : FSp) (f_primes : FSp) (f_lucky : FSp) (f_ludic : FSp) (f_struck_each : FSp) (f__law_primes : FSp) (f__law_lucky : FSp) (f__law_ludic : FSp) (f__law_each : FSp) (f__law_is : FSp) (R_call : Addr → Option FSp) : DSt := (xSeq (xAsg (xLst (xConsA (xCall f__law_primes (xConsA (xMov 1) xNilA)) (xConsA (xCall f__law_lucky (xConsA (xMov 1) xNilA)) (xConsA (xCall f__law_ludic (xConsA (xMov 1) xNilA)) (xConsA (xCall f__law_each (xConsA (xMov 1) xNilA)) xNilA))))) (xName 4)) (k__law_are_sieves_right_4 ad f__law_any f__law_draw f_primes f_lucky f_ludic f_struck_each f__law_primes f__law_lucky f__law_ludic f__law_each f__law_is R_call))
def k__law_are_sieves_right_6 (ad : Ad) (f__law_any : FSp) (f__law_draw : FSp) (f_primes : FSp) (f_lucky : FSp) (f_ludic : FSp) (f_struck_each : FSp) (f__law_primes : FSp) (f__law_lucky : FSp) (f__law_ludic : FSp) (f__law_each : FSp) (f__law_is : FSp) (R_call : Addr → Option FSp) : DSt := (xSeq (xAsg (xLst (xConsA (xUn toLstR (xCall f_primes (xConsA (xMov 1) xNilA))) (xConsA (xUn toLstR (xCall f_lucky (xConsA (xMov 1) xNilA))) (xConsA (xUn toLstR (xCall f_ludic (xConsA (xMov 1) xNilA))) (xConsA (xUn toLstR (xCall f_struck_each (xConsA (xMov 1) xNilA))) xNilA))))) (xName 3)) (k__law_are_sieves_right_5 ad f__law_any f__law_draw f_primes f_lucky f_ludic f_struck_each f__law_primes f__law_lucky f__law_ludic f__law_each f__law_is R_call))
def k__law_are_sieves_right_7 (ad : Ad) (f__law_any : FSp) (f__law_draw : FSp) (f_primes : FSp) (f_lucky : FSp) (f_ludic : FSp) (f_struck_each : FSp) (f__law_primes : FSp) (f__law_lucky : FSp) (f__law_ludic : FSp) (f__law_each : FSp) (f__law_is : FSp) (R_call : Addr → Option FSp) : DSt := (xSeq (xAsg (xCall f__law_draw (xConsA (xMov 0) (xConsA (xOp addR (xVar 1) (xC (.int 1))) xNilA))) (xName 2)) (k__law_are_sieves_right_6 ad f__law_any f__law_draw f_primes f_lucky f_ludic f_struck_each f__law_primes f__law_lucky f__law_ludic f__law_each f__law_is R_call))
def t__law_are_sieves_right (ad : Ad) (f__law_any : FSp) (f__law_draw : FSp) (f_primes : FSp) (f_lucky : FSp) (f_ludic : FSp) (f_struck_each : FSp) (f__law_primes : FSp) (f__law_lucky : FSp) (f__law_ludic : FSp) (f__law_each : FSp) (f__law_is : FSp) (R_call : Addr → Option FSp) : DSt := (xSeq (xAsg (xCall f__law_any (xConsA (xMov 0) (xConsA (xLst (xConsA (xC (.int 0)) (xConsA (xC (.int 1)) (xConsA (xC (.int 2)) (xConsA (xCall f__law_draw (xConsA (xMov 0) (xConsA (xC (.int 30)) xNilA))) (xConsA (xCall f__law_draw (xConsA (xMov 0) (xConsA (xC (.int 400)) xNilA))) xNilA)))))) xNilA))) (xName 1)) (k__law_are_sieves_right_7 ad f__law_any f__law_draw f_primes f_lucky f_ludic f_struck_each f__law_primes f__law_lucky f__law_ludic f__law_each f__law_is R_call))
theorem der__law_are_sieves_right {P : Program} {w : World} {K : PySem.W.Frag} {mg : Str → Option Value} {base : Heap} {ad : Ad} {G : Amb} {f : Addr} {k : Nat} (fx : Fx P w K mg ad) {k__law_any : Nat} {f__law_any : FSp} (c__law_any : Cal P w K mg base G "_law_any" ad._law_any k__law_any f__law_any) (l__law_any : k__law_any ≤ k) {k__law_draw : Nat} {f__law_draw : FSp} (c__law_draw : Cal P w K mg base G "_law_draw" ad._law_draw k__law_draw f__law_draw) (l__law_draw : k__law_draw ≤ k) {k_primes : Nat} {f_primes : FSp} (c_primes : Cal P w K mg base G "primes" ad.primes k_primes f_primes) (l_primes : k_primes ≤ k) {k_lucky : Nat} {f_lucky : FSp} (c_lucky : Cal P w K mg base G "lucky" ad.lucky k_lucky f_lucky) (l_lucky : k_lucky ≤ k) {k_ludic : Nat} {f_ludic : FSp} (c_ludic : Cal P w K mg base G "ludic" ad.ludic k_ludic f_ludic) (l_ludic : k_ludic ≤ k) {k_struck_each : Nat} {f_struck_each : FSp} (c_struck_each : Cal P w K mg base G "struck_each" ad.struck_each k_struck_each f_struck_each) (l_struck_each : k_struck_each ≤ k) {k__law_primes : Nat} {f__law_primes : FSp} (c__law_primes : Cal P w K mg base G "_law_primes" ad._law_primes k__law_primes f__law_primes) (l__law_primes : k__law_primes ≤ k) {k__law_lucky : Nat} {f__law_lucky : FSp} (c__law_lucky : Cal P w K mg base G "_law_lucky" ad._law_lucky k__law_lucky f__law_lucky) (l__law_lucky : k__law_lucky ≤ k) {k__law_ludic : Nat} {f__law_ludic : FSp} (c__law_ludic : Cal P w K mg base G "_law_ludic" ad._law_ludic k__law_ludic f__law_ludic) (l__law_ludic : k__law_ludic ≤ k) {k__law_each : Nat} {f__law_each : FSp} (c__law_each : Cal P w K mg base G "_law_each" ad._law_each k__law_each f__law_each) (l__law_each : k__law_each ≤ k) {k__law_is : Nat} {f__law_is : FSp} (c__law_is : Cal P w K mg base G "_law_is" ad._law_is k__law_is f__law_is) (l__law_is : k__law_is ≤ k) {R_call : Addr → Option FSp} (hR_call : ∀ (X : Cx), X.prog = P → X.w = w → X.K = K → X.mg = mg → X.base = base → Room k X.A → ∀ f φ, R_call f = some φ → HeldD X G f φ) (cdv : Value) (A : Around) (outer : List PySem.Env) (s : Shared) (H : Hp) (E : XK) (hr : Room k (A.deeper (PyProof.Rows.envOfC "_law_are_sieves_right" (defScope s__law_are_sieves_right) s.heap.objs.size f cdv))) :
    DSs (cxOf (L2N.CX P w) P w K mg base N__law_are_sieves_right "_law_are_sieves_right" (defScope s__law_are_sieves_right) f cdv A outer s H E) G E (defBody s__law_are_sieves_right) (t__law_are_sieves_right ad f__law_any f__law_draw f_primes f_lucky f_ludic f_struck_each f__law_primes f__law_lucky f__law_ludic f__law_each f__law_is R_call) := by
  have hu := hr.units
  have hu5 := units5 hr
  have htk : L2N.Takes (cxOf (L2N.CX P w) P w K mg base N__law_are_sieves_right "_law_are_sieves_right" (defScope s__law_are_sieves_right) f cdv A outer s H E) (fun cls d _ H => E cls d H) := L2N.takes_of rfl rfl rfl rfl
  have hx : Passes (L2N.CX P w) (cxOf (L2N.CX P w) P w K mg base N__law_are_sieves_right "_law_are_sieves_right" (defScope s__law_are_sieves_right) f cdv A outer s H E) E := L2N.passes_call htk (fun _ _ _ _ h => h)
  have hp : PassesOwn (model P w) (cxOf (L2N.CX P w) P w K mg base N__law_are_sieves_right "_law_are_sieves_right" (defScope s__law_are_sieves_right) f cdv A outer s H E).A (cxOf (L2N.CX P w) P w K mg base N__law_are_sieves_right "_law_are_sieves_right" (defScope s__law_are_sieves_right) f cdv A outer s H E).env (cxOf (L2N.CX P w) P w K mg base N__law_are_sieves_right "_law_are_sieves_right" (defScope s__law_are_sieves_right) f cdv A outer s H E).xe := passes_of rfl
  exact (dss_cons (ds_set nd__law_are_sieves_right rfl (by first | exact .inl rfl | exact .inr rfl) (de_callC c__law_any (hr.mono (by omega)) rfl hx (da_cons (de_mov (i := 0) rfl (by first | exact .inl rfl | exact .inr (.inl rfl) | exact .inr (.inr rfl))) (da_cons (de_lst (da_cons de_int (da_cons de_int (da_cons de_int (da_cons (de_callC c__law_draw (hr.mono (by omega)) rfl hx (da_cons (de_mov (i := 0) rfl (by first | exact .inl rfl | exact .inr (.inl rfl) | exact .inr (.inr rfl))) (da_cons de_int da_nil))) (da_cons (de_callC c__law_draw (hr.mono (by omega)) rfl hx (da_cons (de_mov (i := 0) rfl (by first | exact .inl rfl | exact .inr (.inl rfl) | exact .inr (.inr rfl))) (da_cons de_int da_nil))) da_nil)))))) da_nil))) rfl) (dss_cons (ds_set nd__law_are_sieves_right rfl (by first | exact .inl rfl | exact .inr rfl) (de_callC c__law_draw (hr.mono (by omega)) rfl hx (da_cons (de_mov (i := 0) rfl (by first | exact .inl rfl | exact .inr (.inl rfl) | exact .inr (.inr rfl))) (da_cons (de_op opd_add (de_var (i := 1) rfl (by first | exact .inl rfl | exact .inr (.inl rfl) | exact .inr (.inr rfl))) de_int) da_nil))) rfl) (dss_cons (ds_set nd__law_are_sieves_right rfl (by first | exact .inl rfl | exact .inr rfl) (de_lst (da_cons (de_callT1 cd_list rfl fx.g_list rfl (de_callC c_primes (hr.mono (by omega)) rfl hx (da_cons (de_mov (i := 1) rfl (by first | exact .inl rfl | exact .inr (.inl rfl) | exact .inr (.inr rfl))) da_nil))) (da_cons (de_callT1 cd_list rfl fx.g_list rfl (de_callC c_lucky (hr.mono (by omega)) rfl hx (da_cons (de_mov (i := 1) rfl (by first | exact .inl rfl | exact .inr (.inl rfl) | exact .inr (.inr rfl))) da_nil))) (da_cons (de_callT1 cd_list rfl fx.g_list rfl (de_callC c_ludic (hr.mono (by omega)) rfl hx (da_cons (de_mov (i := 1) rfl (by first | exact .inl rfl | exact .inr (.inl rfl) | exact .inr (.inr rfl))) da_nil))) (da_cons (de_callT1 cd_list rfl fx.g_list rfl (de_callC c_struck_each (hr.mono (by omega)) rfl hx (da_cons (de_mov (i := 1) rfl (by first | exact .inl rfl | exact .inr (.inl rfl) | exact .inr (.inr rfl))) da_nil))) da_nil))))) rfl) (dss_cons (ds_set nd__law_are_sieves_right rfl (by first | exact .inl rfl | exact .inr rfl) (de_lst (da_cons (de_callC c__law_primes (hr.mono (by omega)) rfl hx (da_cons (de_mov (i := 1) rfl (by first | exact .inl rfl | exact .inr (.inl rfl) | exact .inr (.inr rfl))) da_nil)) (da_cons (de_callC c__law_lucky (hr.mono (by omega)) rfl hx (da_cons (de_mov (i := 1) rfl (by first | exact .inl rfl | exact .inr (.inl rfl) | exact .inr (.inr rfl))) da_nil)) (da_cons (de_callC c__law_ludic (hr.mono (by omega)) rfl hx (da_cons (de_mov (i := 1) rfl (by first | exact .inl rfl | exact .inr (.inl rfl) | exact .inr (.inr rfl))) da_nil)) (da_cons (de_callC c__law_each (hr.mono (by omega)) rfl hx (da_cons (de_mov (i := 1) rfl (by first | exact .inl rfl | exact .inr (.inl rfl) | exact .inr (.inr rfl))) da_nil)) da_nil))))) rfl) (dss_cons (ds_if (db_not (db_tru (de_callC c__law_is (hr.mono (by omega)) rfl hx (da_cons (de_mov (i := 3) rfl (by first | exact .inl rfl | exact .inr (.inl rfl) | exact .inr (.inr rfl))) (da_cons (de_mov (i := 4) rfl (by first | exact .inl rfl | exact .inr (.inl rfl) | exact .inr (.inr rfl))) da_nil))))) (dss_one (ds_ret de_bl)) dss_nil) (dss_cons (ds_for hp rfl (di_any (de_tup (da_cons (de_tup (da_cons (de_fn rfl fx.g_primes) (da_cons (de_ix ixd_seq (de_var (i := 4) rfl (by first | exact .inl rfl | exact .inr (.inl rfl) | exact .inr (.inr rfl))) de_int (fun _ _ => rfl)) da_nil))) (da_cons (de_tup (da_cons (de_fn rfl fx.g_lucky) (da_cons (de_ix ixd_seq (de_var (i := 4) rfl (by first | exact .inl rfl | exact .inr (.inl rfl) | exact .inr (.inr rfl))) de_int (fun _ _ => rfl)) da_nil))) (da_cons (de_tup (da_cons (de_fn rfl fx.g_ludic) (da_cons (de_ix ixd_seq (de_var (i := 4) rfl (by first | exact .inl rfl | exact .inr (.inl rfl) | exact .inr (.inr rfl))) de_int (fun _ _ => rfl)) da_nil))) (da_cons (de_tup (da_cons (de_fn rfl fx.g_struck_each) (da_cons (de_ix ixd_seq (de_var (i := 4) rfl (by first | exact .inl rfl | exact .inr (.inl rfl) | exact .inr (.inr rfl))) de_int (fun _ _ => rfl)) da_nil))) da_nil)))))) (dg_tup rfl (dgs_cons (dg_name nd__law_are_sieves_right rfl (by first | exact .inl rfl | exact .inr rfl)) (dgs_cons (dg_name nd__law_are_sieves_right rfl (by first | exact .inl rfl | exact .inr rfl)) dgs_nil))) (dss_one (ds_if (db_cmpR (opd_ne hr.units) (de_callT1 cd_list rfl fx.g_list rfl (de_callL (i := 5) (hR_call _ rfl rfl rfl rfl rfl (hr.mono (by omega))) hx rfl (by first | exact .inl rfl | exact .inr (.inl rfl) | exact .inr (.inr rfl)) (da_cons (de_mov (i := 2) rfl (by first | exact .inl rfl | exact .inr (.inl rfl) | exact .inr (.inr rfl))) da_nil))) (de_lc (own := [("one", 7)]) rfl nd__law_are_sieves_right (di_any (de_var (i := 6) rfl (by first | exact .inl rfl | exact .inr (.inl rfl) | exact .inr (.inr rfl)))) (blk_by (by kernel_rfl)) (fun s H C cl fp => (dg_name nd__law_are_sieves_right rfl (by first | exact .inl rfl | exact .inr rfl))) (by decide) (fun s H C cl fp => (dts_one (db_cmpR opd_le (de_var (i := 7) rfl (by first | exact .inl rfl | exact .inr (.inl rfl) | exact .inr (.inr rfl))) (de_var (i := 2) rfl (by first | exact .inl rfl | exact .inr (.inl rfl) | exact .inr (.inr rfl))) (by first | exact nobehind _ (by decide) (by decide) | rfl)))) (fun s H C cl fp => (de_mov (i := 7) rfl (by first | exact .inl rfl | exact .inr (.inl rfl) | exact .inr (.inr rfl))))) (by first | exact nobehind _ (by decide) (by decide) | rfl)) (dss_one (ds_ret de_bl)) dss_nil)) (by intro _; rfl)) (dss_one (ds_ret de_bl))))))))
def N__law_are_places_right : List Str := ["hand", "row", "place", "power", "many", "told", "one", "due", "turn"]
theorem sc__law_are_places_right : FnScope N__law_are_places_right ["hand"] (defScope s__law_are_places_right) := ⟨rfl, rfl, rfl, by decide +kernel, rfl, by decide +kernel, by decide +kernel⟩
theorem nd__law_are_places_right : N__law_are_places_right.Nodup := sc__law_are_places_right.nd
def b__law_are_places_right_1 (ad : Ad) (f__law_each : FSp) (f__law_draw : FSp) (f__law_is : FSp) (f_struck_at : FSp) (f_summed_powers : FSp) (f__law_summed : FSp) : DSt := (xAsg (xOp mulBR (xVar 7) (xOp addR (xVar 2) (xC (.int 1)))) (xName 7))
def k__law_are_places_right_2 (ad : Ad) (f__law_each : FSp) (f__law_draw : FSp) (f__law_is : FSp) (f_struck_at : FSp) (f_summed_powers : FSp) (f__law_summed : FSp) : DSt := (xIf (xTru (xOp neR (xVar 6) (xVar 7))) (xRet (xC (.bl false))) xNext)
def k__law_are_places_right_3 (ad : Ad) (f__law_each : FSp) (f__law_draw : FSp) (f__law_is : FSp) (f_struck_at : FSp) (f_summed_powers : FSp) (f__law_summed : FSp) : DSt := (xSeq (xFor (xRg1 (xVar 3)) (xName 8) (b__law_are_places_right_1 ad f__law_each f__law_draw f__law_is f_struck_at f_summed_powers f__law_summed)) (k__law_are_places_right_2 ad f__law_each f__law_draw f__law_is f_struck_at f_summed_powers f__law_summed))
def b__law_are_places_right_4 (ad : Ad) (f__law_each : FSp) (f__law_draw : FSp) (f__law_is : FSp) (f_struck_at : FSp) (f_summed_powers : FSp) (f__law_summed : FSp) : DSt := (xSeq (xAsg (xC (.int 1)) (xName 7)) (k__law_are_places_right_3 ad f__law_each f__law_draw f__law_is f_struck_at f_summed_powers f__law_summed))
def k__law_are_places_right_5 (ad : Ad) (f__law_each : FSp) (f__law_draw : FSp) (f__law_is : FSp) (f_struck_at : FSp) (f_summed_powers : FSp) (f__law_summed : FSp) : DSt := (xRet (xC (.bl true)))
def k__law_are_places_right_6 (ad : Ad) (f__law_each : FSp) (f__law_draw : FSp) (f__law_is : FSp) (f_struck_at : FSp) (f_summed_powers : FSp) (f__law_summed : FSp) : DSt := (xSeq (xFor (xItL enumD (xVar 5)) (xTupG [(xName 2), (xName 6)]) (b__law_are_places_right_4 ad f__law_each f__law_draw f__law_is f_struck_at f_summed_powers f__law_summed)) (k__law_are_places_right_5 ad f__law_each f__law_draw f__law_is f_struck_at f_summed_powers f__law_summed))
def k__law_are_places_right_7 (ad : Ad) (f__law_each : FSp) (f__law_draw : FSp) (f__law_is : FSp) (f_struck_at : FSp) (f_summed_powers : FSp) (f__law_summed : FSp) : DSt := (xSeq (xIf (xNot (xTru (xCall f__law_is (xConsA (xMov 5) (xConsA (xCall f__law_summed (xConsA (xMov 3) (xConsA (xMov 4) xNilA))) xNilA))))) (xRet (xC (.bl false))) xNext) (k__law_are_places_right_6 ad f__law_each f__law_draw f__law_is f_struck_at f_summed_powers f__law_summed))
def k__law_are_places_right_8 (ad : Ad) (f__law_each : FSp) (f__law_draw : FSp) (f__law_is : FSp) (f_struck_at : FSp) (f_summed_powers : FSp) (f__law_summed : FSp) : DSt := (xSeq (xAsg (xUn toLstR (xCall f_summed_powers (xConsA (xMov 3) (xConsA (xMov 4) xNilA)))) (xName 5)) (k__law_are_places_right_7 ad f__law_each f__law_draw f__law_is f_struck_at f_summed_powers f__law_summed))
def k__law_are_places_right_9 (ad : Ad) (f__law_each : FSp) (f__law_draw : FSp) (f__law_is : FSp) (f_struck_at : FSp) (f_summed_powers : FSp) (f__law_summed : FSp) : DSt := (xSeq (xPar [3, 4] (xConsA (xOp addR (xC (.int 1)) (xCall f__law_draw (xConsA (xMov 0) (xConsA (xC (.int 4)) xNilA)))) (xConsA (xCall f__law_draw (xConsA (xMov 0) (xConsA (xC (.int 13)) xNilA))) xNilA))) (k__law_are_places_right_8 ad f__law_each f__law_draw f__law_is f_struck_at f_summed_powers f__law_summed))
def k__law_are_places_right_10 (ad : Ad) (f__law_each : FSp) (f__law_draw : FSp) (f__law_is : FSp) (f_struck_at : FSp) (f_summed_powers : FSp) (f__law_summed : FSp) : DSt := (xSeq (xIf (xNot (xTru (xCall f__law_is (xConsA (xCall f_struck_at (xConsA (xMov 2) xNilA)) (xConsA (xOp ixR (xVar 1) (xOp subR (xVar 2) (xC (.int 1)))) xNilA))))) (xRet (xC (.bl false))) xNext) (k__law_are_places_right_9 ad f__law_each f__law_draw f__law_is f_struck_at f_summed_powers f__law_summed))
def k__law_are_places_right_11 (ad : Ad) (f__law_each : FSp) (f__law_draw : FSp) (f__law_is : FSp) (f_struck_at : FSp) (f_summed_powers : FSp) (f__law_summed : FSp) : DSt := (xSeq (xAsg (xOp addR (xC (.int 1)) (xCall f__law_draw (xConsA (xMov 0) (xConsA (xOp min2R (xC (.int 40)) (xUn lenR (xVar 1))) xNilA)))) (xName 2)) (k__law_are_places_right_10 ad f__law_each f__law_draw f__law_is f_struck_at f_summed_powers f__law_summed))
def t__law_are_places_right (ad : Ad) (f__law_each : FSp) (f__law_draw : FSp) (f__law_is : FSp) (f_struck_at : FSp) (f_summed_powers : FSp) (f__law_summed : FSp) : DSt := (xSeq (xAsg (xCall f__law_each (xConsA (xC (.int 1400)) xNilA)) (xName 1)) (k__law_are_places_right_11 ad f__law_each f__law_draw f__law_is f_struck_at f_summed_powers f__law_summed))
theorem der__law_are_places_right {P : Program} {w : World} {K : PySem.W.Frag} {mg : Str → Option Value} {base : Heap} {ad : Ad} {G : Amb} {f : Addr} {k : Nat} (fx : Fx P w K mg ad) {k__law_each : Nat} {f__law_each : FSp} (c__law_each : Cal P w K mg base G "_law_each" ad._law_each k__law_each f__law_each) (l__law_each : k__law_each ≤ k) {k__law_draw : Nat} {f__law_draw : FSp} (c__law_draw : Cal P w K mg base G "_law_draw" ad._law_draw k__law_draw f__law_draw) (l__law_draw : k__law_draw ≤ k) {k__law_is : Nat} {f__law_is : FSp} (c__law_is : Cal P w K mg base G "_law_is" ad._law_is k__law_is f__law_is) (l__law_is : k__law_is ≤ k) {k_struck_at : Nat} {f_struck_at : FSp} (c_struck_at : Cal P w K mg base G "struck_at" ad.struck_at k_struck_at f_struck_at) (l_struck_at : k_struck_at ≤ k) {k_summed_powers : Nat} {f_summed_powers : FSp} (c_summed_powers : Cal P w K mg base G "summed_powers" ad.summed_powers k_summed_powers f_summed_powers) (l_summed_powers : k_summed_powers ≤ k) {k__law_summed : Nat} {f__law_summed : FSp} (c__law_summed : Cal P w K mg base G "_law_summed" ad._law_summed k__law_summed f__law_summed) (l__law_summed : k__law_summed ≤ k) (cdv : Value) (A : Around) (outer : List PySem.Env) (s : Shared) (H : Hp) (E : XK) (hr : Room k (A.deeper (PyProof.Rows.envOfC "_law_are_places_right" (defScope s__law_are_places_right) s.heap.objs.size f cdv))) :
    DSs (cxOf (L2N.CX P w) P w K mg base N__law_are_places_right "_law_are_places_right" (defScope s__law_are_places_right) f cdv A outer s H E) G E (defBody s__law_are_places_right) (t__law_are_places_right ad f__law_each f__law_draw f__law_is f_struck_at f_summed_powers f__law_summed) := by
  have hu := hr.units
  have hu5 := units5 hr
  have htk : L2N.Takes (cxOf (L2N.CX P w) P w K mg base N__law_are_places_right "_law_are_places_right" (defScope s__law_are_places_right) f cdv A outer s H E) (fun cls d _ H => E cls d H) := L2N.takes_of rfl rfl rfl rfl
  have hx : Passes (L2N.CX P w) (cxOf (L2N.CX P w) P w K mg base N__law_are_places_right "_law_are_places_right" (defScope s__law_are_places_right) f cdv A outer s H E) E := L2N.passes_call htk (fun _ _ _ _ h => h)
  have hp : PassesOwn (model P w) (cxOf (L2N.CX P w) P w K mg base N__law_are_places_right "_law_are_places_right" (defScope s__law_are_places_right) f cdv A outer s H E).A (cxOf (L2N.CX P w) P w K mg base N__law_are_places_right "_law_are_places_right" (defScope s__law_are_places_right) f cdv A outer s H E).env (cxOf (L2N.CX P w) P w K mg base N__law_are_places_right "_law_are_places_right" (defScope s__law_are_places_right) f cdv A outer s H E).xe := passes_of rfl
  exact (dss_cons (ds_set nd__law_are_places_right rfl (by first | exact .inl rfl | exact .inr rfl) (de_callC c__law_each (hr.mono (by omega)) rfl hx (da_cons de_int da_nil)) rfl) (dss_cons (ds_set nd__law_are_places_right rfl (by first | exact .inl rfl | exact .inr rfl) (de_op opd_add de_int (de_callC c__law_draw (hr.mono (by omega)) rfl hx (da_cons (de_mov (i := 0) rfl (by first | exact .inl rfl | exact .inr (.inl rfl) | exact .inr (.inr rfl))) (da_cons (de_callB2 (cd_min2 rfl) rfl fx.g_min rfl de_int (de_callB1 cd_len rfl fx.g_len rfl (de_var (i := 1) rfl (by first | exact .inl rfl | exact .inr (.inl rfl) | exact .inr (.inr rfl))))) da_nil)))) rfl) (dss_cons (ds_if (db_not (db_tru (de_callC c__law_is (hr.mono (by omega)) rfl hx (da_cons (de_callC c_struck_at (hr.mono (by omega)) rfl hx (da_cons (de_mov (i := 2) rfl (by first | exact .inl rfl | exact .inr (.inl rfl) | exact .inr (.inr rfl))) da_nil)) (da_cons (de_ix ixd_seq (de_var (i := 1) rfl (by first | exact .inl rfl | exact .inr (.inl rfl) | exact .inr (.inr rfl))) (de_op opd_sub (de_var (i := 2) rfl (by first | exact .inl rfl | exact .inr (.inl rfl) | exact .inr (.inr rfl))) de_int) (fun _ _ => rfl)) da_nil))))) (dss_one (ds_ret de_bl)) dss_nil) (dss_cons (ds_par rfl nd__law_are_places_right rfl rfl (by decide) rfl rfl (da_cons (de_op opd_add de_int (de_callC c__law_draw (hr.mono (by omega)) rfl hx (da_cons (de_mov (i := 0) rfl (by first | exact .inl rfl | exact .inr (.inl rfl) | exact .inr (.inr rfl))) (da_cons de_int da_nil)))) (da_cons (de_callC c__law_draw (hr.mono (by omega)) rfl hx (da_cons (de_mov (i := 0) rfl (by first | exact .inl rfl | exact .inr (.inl rfl) | exact .inr (.inr rfl))) (da_cons de_int da_nil))) da_nil)) rfl) (dss_cons (ds_set nd__law_are_places_right rfl (by first | exact .inl rfl | exact .inr rfl) (de_callT1 cd_list rfl fx.g_list rfl (de_callC c_summed_powers (hr.mono (by omega)) rfl hx (da_cons (de_mov (i := 3) rfl (by first | exact .inl rfl | exact .inr (.inl rfl) | exact .inr (.inr rfl))) (da_cons (de_mov (i := 4) rfl (by first | exact .inl rfl | exact .inr (.inl rfl) | exact .inr (.inr rfl))) da_nil)))) rfl) (dss_cons (ds_if (db_not (db_tru (de_callC c__law_is (hr.mono (by omega)) rfl hx (da_cons (de_mov (i := 5) rfl (by first | exact .inl rfl | exact .inr (.inl rfl) | exact .inr (.inr rfl))) (da_cons (de_callC c__law_summed (hr.mono (by omega)) rfl hx (da_cons (de_mov (i := 3) rfl (by first | exact .inl rfl | exact .inr (.inl rfl) | exact .inr (.inr rfl))) (da_cons (de_mov (i := 4) rfl (by first | exact .inl rfl | exact .inr (.inl rfl) | exact .inr (.inr rfl))) da_nil))) da_nil))))) (dss_one (ds_ret de_bl)) dss_nil) (dss_cons (ds_for hp rfl (di_enum rfl fx.g_enumerate (de_var (i := 5) rfl (by first | exact .inl rfl | exact .inr (.inl rfl) | exact .inr (.inr rfl)))) (dg_tup rfl (dgs_cons (dg_name nd__law_are_places_right rfl (by first | exact .inl rfl | exact .inr rfl)) (dgs_cons (dg_name nd__law_are_places_right rfl (by first | exact .inl rfl | exact .inr rfl)) dgs_nil))) (dss_cons (ds_set nd__law_are_places_right rfl (by first | exact .inl rfl | exact .inr rfl) de_int rfl) (dss_cons (ds_for hp rfl (di_range1 rfl fx.g_range (de_var (i := 3) rfl (by first | exact .inl rfl | exact .inr (.inl rfl) | exact .inr (.inr rfl)))) (dg_name nd__law_are_places_right rfl (by first | exact .inl rfl | exact .inr rfl)) (dss_one (ds_set nd__law_are_places_right rfl (by first | exact .inl rfl | exact .inr rfl) (de_op opd_mulB (de_var (i := 7) rfl (by first | exact .inl rfl | exact .inr (.inl rfl) | exact .inr (.inr rfl))) (de_op opd_add (de_var (i := 2) rfl (by first | exact .inl rfl | exact .inr (.inl rfl) | exact .inr (.inr rfl))) de_int)) rfl)) (by intro _; rfl)) (dss_one (ds_if (db_cmpR (opd_ne hr.units) (de_var (i := 6) rfl (by first | exact .inl rfl | exact .inr (.inl rfl) | exact .inr (.inr rfl))) (de_var (i := 7) rfl (by first | exact .inl rfl | exact .inr (.inl rfl) | exact .inr (.inr rfl))) (by first | exact nobehind _ (by decide) (by decide) | rfl)) (dss_one (ds_ret de_bl)) dss_nil)))) (by intro _; rfl)) (dss_one (ds_ret de_bl)))))))))
def N__law_are_refused : List Str := ["hand", "odd", "place", "power", "many", "heard", "call"]
theorem sc__law_are_refused : FnScope N__law_are_refused ["hand"] (defScope s__law_are_refused) := ⟨rfl, rfl, rfl, by decide +kernel, rfl, by decide +kernel, by decide +kernel⟩
theorem nd__law_are_refused : N__law_are_refused.Nodup := sc__law_are_refused.nd
def b__law_are_refused_1 (ad : Ad) (f__law_any : FSp) (f_struck_at : FSp) (f_summed_powers : FSp) (R_call : Addr → Option FSp) : DSt := (xDrop (xMt 5 appR (xConsA (xHear (R__law_heard ad) l__law_heard (xCallL 6 R_call (xConsA (xMov 1) xNilA))) xNilA)))
def k__law_are_refused_2 (ad : Ad) (f__law_any : FSp) (f_struck_at : FSp) (f_summed_powers : FSp) (R_call : Addr → Option FSp) : DSt := (xRet (xOp eqR (xVar 5) (xOp mulBR (xLst (xConsA (xC (.str "number")) xNilA)) (xC (.int 7)))))
def k__law_are_refused_3 (ad : Ad) (f__law_any : FSp) (f_struck_at : FSp) (f_summed_powers : FSp) (R_call : Addr → Option FSp) : DSt := (xSeq (xDrop (xMt 5 appR (xConsA (xHear (R__law_heard ad) l__law_heard (xCall f_summed_powers (xConsA (xC (.int 2)) (xConsA (xMov 4) xNilA)))) xNilA))) (k__law_are_refused_2 ad f__law_any f_struck_at f_summed_powers R_call))
def k__law_are_refused_4 (ad : Ad) (f__law_any : FSp) (f_struck_at : FSp) (f_summed_powers : FSp) (R_call : Addr → Option FSp) : DSt := (xSeq (xDrop (xMt 5 appR (xConsA (xHear (R__law_heard ad) l__law_heard (xCall f_summed_powers (xConsA (xMov 3) (xConsA (xC (.int 3)) xNilA)))) xNilA))) (k__law_are_refused_3 ad f__law_any f_struck_at f_summed_powers R_call))
def k__law_are_refused_5 (ad : Ad) (f__law_any : FSp) (f_struck_at : FSp) (f_summed_powers : FSp) (R_call : Addr → Option FSp) : DSt := (xSeq (xDrop (xMt 5 appR (xConsA (xHear (R__law_heard ad) l__law_heard (xCall f_struck_at (xConsA (xMov 2) xNilA))) xNilA))) (k__law_are_refused_4 ad f__law_any f_struck_at f_summed_powers R_call))
def k__law_are_refused_6 (ad : Ad) (f__law_any : FSp) (f_struck_at : FSp) (f_summed_powers : FSp) (R_call : Addr → Option FSp) : DSt := (xSeq (xFor (xIt id (xTup (xConsA (xC (.ref ad.primes)) (xConsA (xC (.ref ad.lucky)) (xConsA (xC (.ref ad.ludic)) (xConsA (xC (.ref ad.struck_each)) xNilA)))))) (xName 6) (b__law_are_refused_1 ad f__law_any f_struck_at f_summed_powers R_call)) (k__law_are_refused_5 ad f__law_any f_struck_at f_summed_powers R_call))
def k__law_are_refused_7 (ad : Ad) (f__law_any : FSp) (f_struck_at : FSp) (f_summed_powers : FSp) (R_call : Addr → Option FSp) : DSt := (xSeq (xAsg (xLst xNilA) (xName 5)) (k__law_are_refused_6 ad f__law_any f_struck_at f_summed_powers R_call))
def k__law_are_refused_8 (ad : Ad) (f__law_any : FSp) (f_struck_at : FSp) (f_summed_powers : FSp) (R_call : Addr → Option FSp) : DSt := (xSeq (xAsg (xTup (xConsA (xCall f__law_any (xConsA (xMov 0) (xConsA (xLst (xConsA (xC (.int 0)) (xConsA (xC (.int 7)) (xConsA (xC .non) (xConsA (xC (.bl true)) (xConsA (xC (.str "1")) xNilA)))))) xNilA))) (xConsA (xCall f__law_any (xConsA (xMov 0) (xConsA (xLst (xConsA (xUn negR (xC (.int 1))) (xConsA (xC (.int 61)) (xConsA (xC .non) (xConsA (xC (.bl true)) (xConsA (xC (.str "1")) xNilA)))))) xNilA))) xNilA))) (xTupG [(xName 3), (xName 4)])) (k__law_are_refused_7 ad f__law_any f_struck_at f_summed_powers R_call))
def k__law_are_refused_9 (ad : Ad) (f__law_any : FSp) (f_struck_at : FSp) (f_summed_powers : FSp) (R_call : Addr → Option FSp) : DSt := (xSeq (xAsg (xCall f__law_any (xConsA (xMov 0) (xConsA (xLst (xConsA (xC (.int 0)) (xConsA (xOp addR (xOp powR (xC (.int 10)) (xC (.int 4))) (xC (.int 1))) (xConsA (xC .non) (xConsA (xC (.bl true)) (xConsA (xC (.str "1")) (xConsA (xTup (xConsA (xC (.int 1)) xNilA)) xNilA))))))) xNilA))) (xName 2)) (k__law_are_refused_8 ad f__law_any f_struck_at f_summed_powers R_call))
def t__law_are_refused (ad : Ad) (f__law_any : FSp) (f_struck_at : FSp) (f_summed_powers : FSp) (R_call : Addr → Option FSp) : DSt := (xSeq (xAsg (xCall f__law_any (xConsA (xMov 0) (xConsA (xLst (xConsA (xUn negR (xC (.int 1))) (xConsA (xC (.int 20001)) (xConsA (xC .non) (xConsA (xC (.bl true)) (xConsA (xC (.str "1")) (xConsA (xTup (xConsA (xC (.int 1)) xNilA)) (xConsA (xLst xNilA) (xConsA (xOp powR (xC (.int 10)) (xC (.int 30))) xNilA))))))))) xNilA))) (xName 1)) (k__law_are_refused_9 ad f__law_any f_struck_at f_summed_powers R_call))
theorem der__law_are_refused {P : Program} {w : World} {K : PySem.W.Frag} {mg : Str → Option Value} {base : Heap} {ad : Ad} {h c : Addr} {hc : h ≠ c} {cc P0 : Addr} (TB : LamX.TabB base mg cc P0) {f : Addr} {k : Nat} (fx : Fx P w K mg ad) {k__law_any : Nat} {f__law_any : FSp} (c__law_any : Cal P w K mg base (GG P0 h c hc) "_law_any" ad._law_any k__law_any f__law_any) (l__law_any : k__law_any ≤ k) {k_struck_at : Nat} {f_struck_at : FSp} (c_struck_at : Cal P w K mg base (GG P0 h c hc) "struck_at" ad.struck_at k_struck_at f_struck_at) (l_struck_at : k_struck_at ≤ k) {k_summed_powers : Nat} {f_summed_powers : FSp} (c_summed_powers : Cal P w K mg base (GG P0 h c hc) "summed_powers" ad.summed_powers k_summed_powers f_summed_powers) (l_summed_powers : k_summed_powers ≤ k) {R_call : Addr → Option FSp} (hR_call : ∀ (X : Cx), X.prog = P → X.w = w → X.K = K → X.mg = mg → X.base = base → Room k X.A → ∀ f φ, R_call f = some φ → HeldD X (GG P0 h c hc) f φ) (A : Around) (outer : List PySem.Env) (s : Shared) (H : Hp) (E : XK) (hr : Room (k + 3) (A.deeper (PyProof.Rows.envOfC "_law_are_refused" (defScope s__law_are_refused) s.heap.objs.size f (.ref cc)))) :
    DSs (cxOf (L2N.CX P w) P w K mg base N__law_are_refused "_law_are_refused" (defScope s__law_are_refused) f (.ref cc) A outer s H E) (GG P0 h c hc) E (defBody s__law_are_refused) (t__law_are_refused ad f__law_any f_struck_at f_summed_powers R_call) := by
  have hu := hr.units
  have hu5 := units5 hr
  have htk : L2N.Takes (cxOf (L2N.CX P w) P w K mg base N__law_are_refused "_law_are_refused" (defScope s__law_are_refused) f (.ref cc) A outer s H E) (fun cls d _ H => E cls d H) := L2N.takes_of rfl rfl rfl rfl
  have hx : Passes (L2N.CX P w) (cxOf (L2N.CX P w) P w K mg base N__law_are_refused "_law_are_refused" (defScope s__law_are_refused) f (.ref cc) A outer s H E) E := L2N.passes_call htk (fun _ _ _ _ h => h)
  have hp : PassesOwn (model P w) (cxOf (L2N.CX P w) P w K mg base N__law_are_refused "_law_are_refused" (defScope s__law_are_refused) f (.ref cc) A outer s H E).A (cxOf (L2N.CX P w) P w K mg base N__law_are_refused "_law_are_refused" (defScope s__law_are_refused) f (.ref cc) A outer s H E).env (cxOf (L2N.CX P w) P w K mg base N__law_are_refused "_law_are_refused" (defScope s__law_are_refused) f (.ref cc) A outer s H E).xe := passes_of rfl
  obtain ⟨fd__law_heard, F__law_heard⟩ := fx.f__law_heard
  have b__law_heard : Binds K fd__law_heard ["call"] [] := F__law_heard.bindsN fun _ _ _ _ _ _ us hl => match us, hl with | [_], _ => rfl
  have kp__law_heard := F__law_heard.kp
  obtain ⟨oc__law_heard, od__law_heard, dV__law_heard, kV__law_heard, doc__law_heard, pm__law_heard, an__law_heard, cdv__law_heard, ct__law_heard, osl__law_heard, rfl, lk__law_heard, cd__law_heard, _, _⟩ := F__law_heard.ex
  exact (dss_cons (ds_set nd__law_are_refused rfl (by first | exact .inl rfl | exact .inr rfl) (de_callC c__law_any (hr.mono (by omega)) rfl hx (da_cons (de_mov (i := 0) rfl (by first | exact .inl rfl | exact .inr (.inl rfl) | exact .inr (.inr rfl))) (da_cons (de_lst (da_cons (de_un und_neg de_int) (da_cons de_int (da_cons de_non (da_cons de_bl (da_cons de_str (da_cons (de_tup (da_cons de_int da_nil)) (da_cons (de_lst da_nil) (da_cons (de_op opd_pow de_int de_int) da_nil))))))))) da_nil))) rfl) (dss_cons (ds_set nd__law_are_refused rfl (by first | exact .inl rfl | exact .inr rfl) (de_callC c__law_any (hr.mono (by omega)) rfl hx (da_cons (de_mov (i := 0) rfl (by first | exact .inl rfl | exact .inr (.inl rfl) | exact .inr (.inr rfl))) (da_cons (de_lst (da_cons de_int (da_cons (de_op opd_add (de_op opd_pow de_int de_int) de_int) (da_cons de_non (da_cons de_bl (da_cons de_str (da_cons (de_tup (da_cons de_int da_nil)) da_nil))))))) da_nil))) rfl) (dss_cons (ds_asg (de_tup (da_cons (de_callC c__law_any (hr.mono (by omega)) rfl hx (da_cons (de_mov (i := 0) rfl (by first | exact .inl rfl | exact .inr (.inl rfl) | exact .inr (.inr rfl))) (da_cons (de_lst (da_cons de_int (da_cons de_int (da_cons de_non (da_cons de_bl (da_cons de_str da_nil)))))) da_nil))) (da_cons (de_callC c__law_any (hr.mono (by omega)) rfl hx (da_cons (de_mov (i := 0) rfl (by first | exact .inl rfl | exact .inr (.inl rfl) | exact .inr (.inr rfl))) (da_cons (de_lst (da_cons (de_un und_neg de_int) (da_cons de_int (da_cons de_non (da_cons de_bl (da_cons de_str da_nil)))))) da_nil))) da_nil))) (dg_tup rfl (dgs_cons (dg_name nd__law_are_refused rfl (by first | exact .inl rfl | exact .inr rfl)) (dgs_cons (dg_name nd__law_are_refused rfl (by first | exact .inl rfl | exact .inr rfl)) dgs_nil)))) (dss_cons (ds_set nd__law_are_refused rfl (by first | exact .inl rfl | exact .inr rfl) (de_lst da_nil) rfl) (dss_cons (ds_for hp rfl (di_any (de_tup (da_cons (de_fn rfl fx.g_primes) (da_cons (de_fn rfl fx.g_lucky) (da_cons (de_fn rfl fx.g_ludic) (da_cons (de_fn rfl fx.g_struck_each) da_nil)))))) (dg_name nd__law_are_refused rfl (by first | exact .inl rfl | exact .inr rfl)) (dss_one (ds_expr (de_mt (i := 5) PySem.F.slot_list_append PySem.F.type_list_append md_append rfl (by first | exact .inl rfl | exact .inr (.inl rfl) | exact .inr (.inr rfl)) (da_cons (de_hear (k := k) (T := TT P0) (R := R__law_heard ad) (l := l__law_heard) rfl fx.g__law_heard kp__law_heard lk__law_heard cd__law_heard b__law_heard sc__law_heard rfl (.inl rfl) (gives__law_heard fx _) TB rfl (List.Mem.head _) (hu__law_are_refused ) (hr.mono (by omega)) (LamX.lamS_by (by kernel_rfl)) rfl (fun _ _ _ _ _ => rfl) (fun _ i => i.2) handA_ext (fun A outer s H E f c' hr => (de_callL (i := 6) (hR_call _ rfl rfl rfl rfl rfl (hr.mono (by omega))) lam_pass rfl (by first | exact .inl rfl | exact .inr (.inl rfl) | exact .inr (.inr rfl)) (da_cons (de_mov (i := 1) rfl (by first | exact .inl rfl | exact .inr (.inl rfl) | exact .inr (.inr rfl))) da_nil)))) da_nil)))) (by intro _; rfl)) (dss_cons (ds_expr (de_mt (i := 5) PySem.F.slot_list_append PySem.F.type_list_append md_append rfl (by first | exact .inl rfl | exact .inr (.inl rfl) | exact .inr (.inr rfl)) (da_cons (de_hear (k := k) (T := TT P0) (R := R__law_heard ad) (l := l__law_heard) rfl fx.g__law_heard kp__law_heard lk__law_heard cd__law_heard b__law_heard sc__law_heard rfl (.inl rfl) (gives__law_heard fx _) TB rfl (List.Mem.head _) (hu__law_are_refused ) (hr.mono (by omega)) (LamX.lamS_by (by kernel_rfl)) rfl (fun _ _ _ _ _ => rfl) (fun _ i => i.2) handA_ext (fun A outer s H E f c' hr => (de_callC c_struck_at (hr.mono (by omega)) rfl lam_pass (da_cons (de_mov (i := 2) rfl (by first | exact .inl rfl | exact .inr (.inl rfl) | exact .inr (.inr rfl))) da_nil)))) da_nil))) (dss_cons (ds_expr (de_mt (i := 5) PySem.F.slot_list_append PySem.F.type_list_append md_append rfl (by first | exact .inl rfl | exact .inr (.inl rfl) | exact .inr (.inr rfl)) (da_cons (de_hear (k := k) (T := TT P0) (R := R__law_heard ad) (l := l__law_heard) rfl fx.g__law_heard kp__law_heard lk__law_heard cd__law_heard b__law_heard sc__law_heard rfl (.inl rfl) (gives__law_heard fx _) TB rfl (List.Mem.head _) (hu__law_are_refused ) (hr.mono (by omega)) (LamX.lamS_by (by kernel_rfl)) rfl (fun _ _ _ _ _ => rfl) (fun _ i => i.2) handA_ext (fun A outer s H E f c' hr => (de_callC c_summed_powers (hr.mono (by omega)) rfl lam_pass (da_cons (de_mov (i := 3) rfl (by first | exact .inl rfl | exact .inr (.inl rfl) | exact .inr (.inr rfl))) (da_cons de_int da_nil))))) da_nil))) (dss_cons (ds_expr (de_mt (i := 5) PySem.F.slot_list_append PySem.F.type_list_append md_append rfl (by first | exact .inl rfl | exact .inr (.inl rfl) | exact .inr (.inr rfl)) (da_cons (de_hear (k := k) (T := TT P0) (R := R__law_heard ad) (l := l__law_heard) rfl fx.g__law_heard kp__law_heard lk__law_heard cd__law_heard b__law_heard sc__law_heard rfl (.inl rfl) (gives__law_heard fx _) TB rfl (List.Mem.head _) (hu__law_are_refused ) (hr.mono (by omega)) (LamX.lamS_by (by kernel_rfl)) rfl (fun _ _ _ _ _ => rfl) (fun _ i => i.2) handA_ext (fun A outer s H E f c' hr => (de_callC c_summed_powers (hr.mono (by omega)) rfl lam_pass (da_cons de_int (da_cons (de_mov (i := 4) rfl (by first | exact .inl rfl | exact .inr (.inl rfl) | exact .inr (.inr rfl))) da_nil))))) da_nil))) (dss_one (ds_ret (de_cmp (opd_eq hr.units) (de_var (i := 5) rfl (by first | exact .inl rfl | exact .inr (.inl rfl) | exact .inr (.inr rfl))) (de_op opd_mulB (de_lst (da_cons de_str da_nil)) de_int) (by first | exact nobehind _ (by decide) (by decide) | rfl))))))))))))
def N_law : List Str := ["script", "hand", "said", "due", "turn"]
theorem sc_law : FnScope N_law ["script"] (defScope s_law) := ⟨rfl, rfl, rfl, by decide +kernel, rfl, by decide +kernel, by decide +kernel⟩
theorem nd_law : N_law.Nodup := sc_law.nd
def t_law0 (f__law_hand : FSp) : DSt := (xAsg (xCall f__law_hand (xConsA (xMov 0) xNilA)) (xName 1))
def b_law_1 (ad : Ad) (f_lucky : FSp) (f_ludic : FSp) (f_struck_each : FSp) (f_summed_powers : FSp) (f_struck_at : FSp) (f__law_is : FSp) (f__law_are_sieves_right : FSp) (f__law_are_places_right : FSp) (f__law_are_refused : FSp) : DSt := (xIf (xOr (xNot (xTru (xCall f__law_are_sieves_right (xConsA (xMov 1) xNilA)))) (xOr (xNot (xTru (xCall f__law_are_places_right (xConsA (xMov 1) xNilA)))) (xNot (xTru (xCall f__law_are_refused (xConsA (xMov 1) xNilA)))))) (xRet (xC (.bl false))) xNext)
def k_law_2 (ad : Ad) (f_lucky : FSp) (f_ludic : FSp) (f_struck_each : FSp) (f_summed_powers : FSp) (f_struck_at : FSp) (f__law_is : FSp) (f__law_are_sieves_right : FSp) (f__law_are_places_right : FSp) (f__law_are_refused : FSp) : DSt := (xRet (xC (.bl true)))
def k_law_3 (ad : Ad) (f_lucky : FSp) (f_ludic : FSp) (f_struck_each : FSp) (f_summed_powers : FSp) (f_struck_at : FSp) (f__law_is : FSp) (f__law_are_sieves_right : FSp) (f__law_are_places_right : FSp) (f__law_are_refused : FSp) : DSt := (xSeq (xFor (xRg1 (xC (.int 2))) (xName 4) (b_law_1 ad f_lucky f_ludic f_struck_each f_summed_powers f_struck_at f__law_is f__law_are_sieves_right f__law_are_places_right f__law_are_refused)) (k_law_2 ad f_lucky f_ludic f_struck_each f_summed_powers f_struck_at f__law_is f__law_are_sieves_right f__law_are_places_right f__law_are_refused))
def k_law_4 (ad : Ad) (f_lucky : FSp) (f_ludic : FSp) (f_struck_each : FSp) (f_summed_powers : FSp) (f_struck_at : FSp) (f__law_is : FSp) (f__law_are_sieves_right : FSp) (f__law_are_places_right : FSp) (f__law_are_refused : FSp) : DSt := (xSeq (xIf (xNot (xTru (xCall f__law_is (xConsA (xMov 2) (xConsA (xMov 3) xNilA))))) (xRet (xC (.bl false))) xNext) (k_law_3 ad f_lucky f_ludic f_struck_each f_summed_powers f_struck_at f__law_is f__law_are_sieves_right f__law_are_places_right f__law_are_refused))
def k_law_5 (ad : Ad) (f_lucky : FSp) (f_ludic : FSp) (f_struck_each : FSp) (f_summed_powers : FSp) (f_struck_at : FSp) (f__law_is : FSp) (f__law_are_sieves_right : FSp) (f__law_are_places_right : FSp) (f__law_are_refused : FSp) : DSt := (xSeq (xAsg (xLst (xConsA (xLst (xConsA (xC (.int 1)) (xConsA (xC (.int 3)) (xConsA (xC (.int 7)) (xConsA (xC (.int 9)) (xConsA (xC (.int 13)) (xConsA (xC (.int 15)) (xConsA (xC (.int 21)) xNilA)))))))) (xConsA (xLst (xConsA (xC (.int 1)) (xConsA (xC (.int 2)) (xConsA (xC (.int 3)) (xConsA (xC (.int 5)) (xConsA (xC (.int 7)) (xConsA (xC (.int 11)) (xConsA (xC (.int 13)) (xConsA (xC (.int 17)) (xConsA (xC (.int 23)) (xConsA (xC (.int 25)) xNilA))))))))))) (xConsA (xLst (xConsA (xC (.int 1)) (xConsA (xC (.int 3)) (xConsA (xC (.int 7)) (xConsA (xC (.int 13)) (xConsA (xC (.int 19)) xNilA)))))) (xConsA (xLst (xConsA (xC (.int 1)) (xConsA (xC (.int 4)) (xConsA (xC (.int 9)) (xConsA (xC (.int 16)) xNilA))))) (xConsA (xC (.int 13)) xNilA)))))) (xName 3)) (k_law_4 ad f_lucky f_ludic f_struck_each f_summed_powers f_struck_at f__law_is f__law_are_sieves_right f__law_are_places_right f__law_are_refused))
def t_law (ad : Ad) (f_lucky : FSp) (f_ludic : FSp) (f_struck_each : FSp) (f_summed_powers : FSp) (f_struck_at : FSp) (f__law_is : FSp) (f__law_are_sieves_right : FSp) (f__law_are_places_right : FSp) (f__law_are_refused : FSp) : DSt := (xSeq (xAsg (xLst (xConsA (xUn toLstR (xCall f_lucky (xConsA (xC (.int 21)) xNilA))) (xConsA (xUn toLstR (xCall f_ludic (xConsA (xC (.int 25)) xNilA))) (xConsA (xUn toLstR (xCall f_struck_each (xConsA (xC (.int 19)) xNilA))) (xConsA (xUn toLstR (xCall f_summed_powers (xConsA (xC (.int 2)) (xConsA (xC (.int 4)) xNilA)))) (xConsA (xCall f_struck_at (xConsA (xC (.int 4)) xNilA)) xNilA)))))) (xName 2)) (k_law_5 ad f_lucky f_ludic f_struck_each f_summed_powers f_struck_at f__law_is f__law_are_sieves_right f__law_are_places_right f__law_are_refused))
theorem ok_law {P : Program} {w : World} {K : PySem.W.Frag} {mg : Str → Option Value} {base : Heap} {ad : Ad} {f : Addr} {k : Nat} {P0 : Addr} {dV kV doc pm ct oc : Value} {an od : Option Addr} {osl : Array (Option Value)} {cc : Addr} (fx : Fx P w K mg ad)
    (lk : K.lookup f = some ⟨oc, od, .func (PySem.W.fnOf "law" "law" (defArgs s_law) (defBody s_law) (defScope s_law) dV kV doc pm an (.ref cc) ct), osl⟩) (hcd : PySem.W.codeIn K (.ref cc) "law" = true)
    {k_h : Nat} {f_h : Addr → List Int → FSp} (c_h : ∀ (G : Amb) (a : Addr) (ns : List Int), (∀ H, G.inv H → SqL K H a (ns.map V.int)) → Cal P w K mg base G "_law_hand" ad._law_hand k_h (f_h a ns)) (l_h : k_h ≤ k + 3)
    (r0 : ∀ (a : Addr) (ns : List Int), ns.length ≤ 63 → t_law0 (f_h a ns) { noE with nx := fun δ => ∃ d, δ = .val (.ref a) :: .val d :: List.replicate 3 .un ∧ handD d } (.val (.ref a) :: List.replicate 4 .un))
    {k_lucky : Nat} {f_lucky : Addr → FSp} (C_lucky : ∀ (h c : Addr) (hc : h ≠ c), Cal P w K mg base (GG P0 h c hc) "lucky" ad.lucky k_lucky (f_lucky h)) (l_lucky : k_lucky ≤ k)
    {k_ludic : Nat} {f_ludic : Addr → FSp} (C_ludic : ∀ (h c : Addr) (hc : h ≠ c), Cal P w K mg base (GG P0 h c hc) "ludic" ad.ludic k_ludic (f_ludic h)) (l_ludic : k_ludic ≤ k)
    {k_struck_each : Nat} {f_struck_each : Addr → FSp} (C_struck_each : ∀ (h c : Addr) (hc : h ≠ c), Cal P w K mg base (GG P0 h c hc) "struck_each" ad.struck_each k_struck_each (f_struck_each h)) (l_struck_each : k_struck_each ≤ k)
    {k_summed_powers : Nat} {f_summed_powers : Addr → FSp} (C_summed_powers : ∀ (h c : Addr) (hc : h ≠ c), Cal P w K mg base (GG P0 h c hc) "summed_powers" ad.summed_powers k_summed_powers (f_summed_powers h)) (l_summed_powers : k_summed_powers ≤ k)
    {k_struck_at : Nat} {f_struck_at : Addr → FSp} (C_struck_at : ∀ (h c : Addr) (hc : h ≠ c), Cal P w K mg base (GG P0 h c hc) "struck_at" ad.struck_at k_struck_at (f_struck_at h)) (l_struck_at : k_struck_at ≤ k)
    {k__law_is : Nat} {f__law_is : Addr → FSp} (C__law_is : ∀ (h c : Addr) (hc : h ≠ c), Cal P w K mg base (GG P0 h c hc) "_law_is" ad._law_is k__law_is (f__law_is h)) (l__law_is : k__law_is ≤ k)
    {k__law_are_sieves_right : Nat} {f__law_are_sieves_right : Addr → FSp} (C__law_are_sieves_right : ∀ (h c : Addr) (hc : h ≠ c), Cal P w K mg base (GG P0 h c hc) "_law_are_sieves_right" ad._law_are_sieves_right k__law_are_sieves_right (f__law_are_sieves_right h)) (l__law_are_sieves_right : k__law_are_sieves_right ≤ k)
    {k__law_are_places_right : Nat} {f__law_are_places_right : Addr → FSp} (C__law_are_places_right : ∀ (h c : Addr) (hc : h ≠ c), Cal P w K mg base (GG P0 h c hc) "_law_are_places_right" ad._law_are_places_right k__law_are_places_right (f__law_are_places_right h)) (l__law_are_places_right : k__law_are_places_right ≤ k)
    {k__law_are_refused : Nat} {f__law_are_refused : Addr → FSp} (C__law_are_refused : ∀ (h c : Addr) (hc : h ≠ c), Cal P w K mg base (GG P0 h c hc) "_law_are_refused" ad._law_are_refused k__law_are_refused (f__law_are_refused h)) (l__law_are_refused : k__law_are_refused ≤ k)
    (r1 : ∀ (a h : Addr), t_law ad (f_lucky h) (f_ludic h) (f_struck_each h) (f_summed_powers h) (f_struck_at h) (f__law_is h) (f__law_are_sieves_right h) (f__law_are_places_right h) (f__law_are_refused h) { noE with rt := fun d => d = .bl true } (.val (.ref a) :: .val (.ref h) :: List.replicate 3 .un)) :
    FnOk P w K mg base (L2N.CX P w) (k + 4) f (PySem.W.fnOf "law" "law" (defArgs s_law) (defBody s_law) (defScope s_law) dV kV doc pm an (.ref cc) ct) ["script"] (lawSp K (TT P0)) := by
  refine fn_law (k := k + 3) (m := 3) (τ0 := fun a ns => t_law0 (f_h a ns)) (τ := fun h => t_law ad (f_lucky h) (f_ludic h) (f_struck_each h) (f_summed_powers h) (f_struck_at h) (f__law_is h) (f__law_are_sieves_right h) (f__law_are_places_right h) (f__law_are_refused h)) lk hcd sc_law rfl (fun G a ns hs A outer s H E hr => ?_) r0 (fun h c hc A outer s H E hr => ?_) r1
  · have c__law_hand := c_h G a ns hs
    have htk : L2N.Takes (cxOf (L2N.CX P w) P w K mg base N_law "law" (defScope s_law) f (.ref cc) A outer s H E) (fun cls d _ H => E cls d H) := L2N.takes_of rfl rfl rfl rfl
    have hx : Passes (L2N.CX P w) (cxOf (L2N.CX P w) P w K mg base N_law "law" (defScope s_law) f (.ref cc) A outer s H E) E := L2N.passes_call htk (fun _ _ _ _ h => h)
    have hp : PassesOwn (model P w) (cxOf (L2N.CX P w) P w K mg base N_law "law" (defScope s_law) f (.ref cc) A outer s H E).A (cxOf (L2N.CX P w) P w K mg base N_law "law" (defScope s_law) f (.ref cc) A outer s H E).env (cxOf (L2N.CX P w) P w K mg base N_law "law" (defScope s_law) f (.ref cc) A outer s H E).xe := passes_of rfl
    exact (ds_set nd_law rfl (by first | exact .inl rfl | exact .inr rfl) (de_callC c__law_hand (hr.mono (by omega)) rfl hx (da_cons (de_mov (i := 0) rfl (by first | exact .inl rfl | exact .inr (.inl rfl) | exact .inr (.inr rfl))) da_nil)) rfl)
  · have c_lucky := C_lucky h c hc
    have c_ludic := C_ludic h c hc
    have c_struck_each := C_struck_each h c hc
    have c_summed_powers := C_summed_powers h c hc
    have c_struck_at := C_struck_at h c hc
    have c__law_is := C__law_is h c hc
    have c__law_are_sieves_right := C__law_are_sieves_right h c hc
    have c__law_are_places_right := C__law_are_places_right h c hc
    have c__law_are_refused := C__law_are_refused h c hc
    have htk : L2N.Takes (cxOf (L2N.CX P w) P w K mg base N_law "law" (defScope s_law) f (.ref cc) A outer s H E) (fun cls d _ H => E cls d H) := L2N.takes_of rfl rfl rfl rfl
    have hx : Passes (L2N.CX P w) (cxOf (L2N.CX P w) P w K mg base N_law "law" (defScope s_law) f (.ref cc) A outer s H E) E := L2N.passes_call htk (fun _ _ _ _ h => h)
    have hp : PassesOwn (model P w) (cxOf (L2N.CX P w) P w K mg base N_law "law" (defScope s_law) f (.ref cc) A outer s H E).A (cxOf (L2N.CX P w) P w K mg base N_law "law" (defScope s_law) f (.ref cc) A outer s H E).env (cxOf (L2N.CX P w) P w K mg base N_law "law" (defScope s_law) f (.ref cc) A outer s H E).xe := passes_of rfl
    exact (dss_cons (ds_set nd_law rfl (by first | exact .inl rfl | exact .inr rfl) (de_lst (da_cons (de_callT1 cd_list rfl fx.g_list rfl (de_callC c_lucky (hr.mono (by omega)) rfl hx (da_cons de_int da_nil))) (da_cons (de_callT1 cd_list rfl fx.g_list rfl (de_callC c_ludic (hr.mono (by omega)) rfl hx (da_cons de_int da_nil))) (da_cons (de_callT1 cd_list rfl fx.g_list rfl (de_callC c_struck_each (hr.mono (by omega)) rfl hx (da_cons de_int da_nil))) (da_cons (de_callT1 cd_list rfl fx.g_list rfl (de_callC c_summed_powers (hr.mono (by omega)) rfl hx (da_cons de_int (da_cons de_int da_nil)))) (da_cons (de_callC c_struck_at (hr.mono (by omega)) rfl hx (da_cons de_int da_nil)) da_nil)))))) rfl) (dss_cons (ds_set nd_law rfl (by first | exact .inl rfl | exact .inr rfl) (de_lst (da_cons (de_lst (da_cons de_int (da_cons de_int (da_cons de_int (da_cons de_int (da_cons de_int (da_cons de_int (da_cons de_int da_nil)))))))) (da_cons (de_lst (da_cons de_int (da_cons de_int (da_cons de_int (da_cons de_int (da_cons de_int (da_cons de_int (da_cons de_int (da_cons de_int (da_cons de_int (da_cons de_int da_nil))))))))))) (da_cons (de_lst (da_cons de_int (da_cons de_int (da_cons de_int (da_cons de_int (da_cons de_int da_nil)))))) (da_cons (de_lst (da_cons de_int (da_cons de_int (da_cons de_int (da_cons de_int da_nil))))) (da_cons de_int da_nil)))))) rfl) (dss_cons (ds_if (db_not (db_tru (de_callC c__law_is (hr.mono (by omega)) rfl hx (da_cons (de_mov (i := 2) rfl (by first | exact .inl rfl | exact .inr (.inl rfl) | exact .inr (.inr rfl))) (da_cons (de_mov (i := 3) rfl (by first | exact .inl rfl | exact .inr (.inl rfl) | exact .inr (.inr rfl))) da_nil))))) (dss_one (ds_ret de_bl)) dss_nil) (dss_cons (ds_for hp rfl (di_range1 rfl fx.g_range de_int) (dg_name nd_law rfl (by first | exact .inl rfl | exact .inr rfl)) (dss_one (ds_if (DW.db (dw_or (db_not (db_tru (de_callC c__law_are_sieves_right (hr.mono (by omega)) rfl hx (da_cons (de_mov (i := 1) rfl (by first | exact .inl rfl | exact .inr (.inl rfl) | exact .inr (.inr rfl))) da_nil)))) (dw_or (db_not (db_tru (de_callC c__law_are_places_right (hr.mono (by omega)) rfl hx (da_cons (de_mov (i := 1) rfl (by first | exact .inl rfl | exact .inr (.inl rfl) | exact .inr (.inr rfl))) da_nil)))) (dw_or1 (db_not (db_tru (de_callC c__law_are_refused (hr.mono (by omega)) rfl hx (da_cons (de_mov (i := 1) rfl (by first | exact .inl rfl | exact .inr (.inl rfl) | exact .inr (.inr rfl))) da_nil)))))))) (dss_one (ds_ret de_bl)) dss_nil)) (by intro _; rfl)) (dss_one (ds_ret de_bl))))))
end Hd

set_option Elab.async false
set_option linter.all false
set_option maxRecDepth 100000
set_option maxHeartbeats 0
namespace Hd
open PySem L2 DL
/-! what all laws have -/
theorem zipD_len (xs ys : List D) : (zipD xs ys).length ≤ xs.length := by
  unfold zipD
  rw [List.length_map, List.length_zip]; omega
theorem p__law_is (ad : Ad) (n : Nat) (hn : n ≤ 60) (f : FSp) (hf : ∀ a b Q Z, (∃ k, n = k + 1 ∧ isP k [a, b] Q Z) → f [a, b] Q Z) : ∀ ds Q Z, isP n ds Q Z → fnD 2 4 (t__law_is ad f) ds Q Z := by
  rintro ds Q Z ⟨a, b, rfl, h1, h2, s1, s2, hQ⟩
  refine ⟨rfl, ?_⟩
  have sq : ∀ (xs ys : List D) (k : Nat), n = k + 1 → okDs k xs = true → okDs k ys = true → shrts xs = true → shrts ys = true → ∀ d ∈ zipD xs ys, ∀ (Q : D → Prop) (Z : Ex → Prop), Q (zipF d) → ∃ x y, d = .tup [x, y] ∧ f [x, y] Q Z := by
    intro xs ys k hk o1 o2 t1 t2 d hd Q Z q
    obtain ⟨x, y, rfl, hx, hy⟩ := lisDs_comp o1 o2 d hd
    obtain ⟨mx, my⟩ := zip_mem2 hd
    exact ⟨x, y, rfl, hf _ _ _ _ ⟨k, hk, x, y, rfl, hx, hy, shrts_mem t1 x mx, shrts_mem t2 y my, q⟩⟩
  have lc : ∀ (xs ys : List D) (k : Nat) (δ : DL.Env) (K : List D → DL.Env → Prop) (t : Tg K), n = k + 1 → okDs k xs = true → okDs k ys = true → shrts xs = true → shrts ys = true → xs.length = ys.length → (∃ s0 s1, δ = [s0, s1, .un, .un]) → K (((xs.zip ys).map fun p => lisD p.1 p.2).map D.bl) δ →
      lcW (xTupG [xName 2, xName 3]) xYes (xCall f (xConsA (xMov 2) (xConsA (xMov 3) xNilA))) [2, 3] K (zipD xs ys) δ [] t := by
    rintro xs ys k δ K t hk o1 o2 t1 t2 hl ⟨s0, s1, rfl⟩ hQ
    refine lcW_all zipF (fun d hd k2 q => ?_) (by rw [zipF_map]; exact hQ)
    obtain ⟨x, y, rfl, h⟩ := sq xs ys k hk o1 o2 t1 t2 d hd (fun y => k2 y [s0, s1, .un, .un]) (fun _ => False) q
    simp
    exact h
  have o64 : ∀ d, okD n d = true → okD 64 d = true := fun d h => okD_up n 64 d (by omega) h
  have t1 := okD_ty h1
  have t2 := okD_ty h2
  have p1 := o64 _ h1
  have p2 := o64 _ h2
  have seq : ∀ (xs ys : List D) (k : Nat) (δ : DL.Env) (A : Prop) (t : Tg2 A (Q (.bl false))), n = k + 1 → xs.length ≤ 16777216 → lisDs xs ys = (decide (xs.length = ys.length) && lisDs xs ys) := by
    intro xs ys k δ A t _ _
    rcases Bool.eq_false_or_eq_true (lisDs xs ys) with h | h
    · rw [h, decide_eq_true (lisDs_len _ _ h)]; rfl
    · rw [h, Bool.and_false]
  cases b with
  | tup ys =>
    cases a with
    | tup xs =>
      simp [t__law_is, eqC, okD, neD, eqD]
      have z := zipD_len xs ys
      simp only [shrt, Bool.and_eq_true, decide_eq_true_eq] at s1 s2
      cases n with
      | zero => simp [okD] at h1
      | succ k =>
        simp only [okD] at h1 h2
        refine brK_of (fun hl => ?_) fun hl => ?_
        · have hl : xs.length = ys.length := by have := of_decide_eq_true hl; omega
          simp
          refine ⟨by omega, lc xs ys k _ _ _ rfl h1 h2 s1.2 s2.2 hl ⟨_, _, rfl⟩ ?_⟩
          simp
          refine ⟨(xs.zip ys).map fun p => lisD p.1 p.2, by first | rfl | simp | (rw [List.map_map]; rfl), ?_⟩
          rw [List.all_map]
          have e : ((xs.zip ys).all (id ∘ fun p => lisD p.1 p.2)) = lisDs xs ys := lisDs_all xs ys hl
          first | (rw [e]; exact hQ) | (simp only [Function.comp_def, id] at e; simp only [lisD] at hQ; rw [← e] at hQ; simpa using hQ)
        · have hl : xs.length ≠ ys.length := by have := of_decide_eq_false hl; omega
          have : lisDs xs ys = false := by
            rcases Bool.eq_false_or_eq_true (lisDs xs ys) with h | h
            · exact absurd (lisDs_len _ _ h) hl
            · exact h
          simpa [lisD, this] using hQ
    | ref _ => exact t1.elim
    | dic _ => simp [okD] at h1
    | dit _ => simp [okD] at h1
    | _ => simp [t__law_is, neD, eqC, okD, eqD] ; simpa [lisD] using hQ
  | lst ys =>
    cases a with
    | lst xs =>
      simp [t__law_is, eqC, okD, neD, eqD]
      have z := zipD_len xs ys
      simp only [shrt, Bool.and_eq_true, decide_eq_true_eq] at s1 s2
      cases n with
      | zero => simp [okD] at h1
      | succ k =>
        simp only [okD] at h1 h2
        refine brK_of (fun hl => ?_) fun hl => ?_
        · have hl : xs.length = ys.length := by have := of_decide_eq_true hl; omega
          simp
          refine ⟨by omega, lc xs ys k _ _ _ rfl h1 h2 s1.2 s2.2 hl ⟨_, _, rfl⟩ ?_⟩
          simp
          refine ⟨(xs.zip ys).map fun p => lisD p.1 p.2, by first | rfl | simp | (rw [List.map_map]; rfl), ?_⟩
          rw [List.all_map]
          have e : ((xs.zip ys).all (id ∘ fun p => lisD p.1 p.2)) = lisDs xs ys := lisDs_all xs ys hl
          first | (rw [e]; exact hQ) | (simp only [Function.comp_def, id] at e; simp only [lisD] at hQ; rw [← e] at hQ; simpa using hQ)
        · have hl : xs.length ≠ ys.length := by have := of_decide_eq_false hl; omega
          have : lisDs xs ys = false := by
            rcases Bool.eq_false_or_eq_true (lisDs xs ys) with h | h
            · exact absurd (lisDs_len _ _ h) hl
            · exact h
          simpa [lisD, this] using hQ
    | ref _ => exact t1.elim
    | dic _ => simp [okD] at h1
    | dit _ => simp [okD] at h1
    | _ => simp [t__law_is, neD, eqC, okD, eqD] ; simpa [lisD] using hQ
  | ref _ => exact t2.elim
  | dic _ => simp [okD] at h2
  | dit _ => simp [okD] at h2
  | _ =>
    cases a with
    | ref _ => exact t1.elim
    | dic _ => simp [okD] at h1
    | dit _ => simp [okD] at h1
    | _ =>
      simp [t__law_is, neD, eqC, p1, p2, okD, eqD]
      try simp only [okD] at p1 p2
      try simp only [p1, p2]
      simpa [lisD] using hQ
def anyP (h : Addr) : FSp := fun ds Q _ => ∃ xs, (ds = [.ref h, .lst xs] ∨ ds = [.ref h, .tup xs]) ∧ (0 < xs.length ∧ xs.length ≤ 1000000) ∧ ∀ d ∈ xs, Q d
theorem m_anyP {h : Addr} : MonoF (anyP h) := ⟨fun ds Q Q' Z Z' hq hz ⟨a, e, c, q⟩ => ⟨a, e, c, fun d hd => hq _ (q d hd)⟩⟩
theorem at_in {xs : List D} {r : Int} (h0 : 0 ≤ r) (h1 : r < xs.length) : ∃ d ∈ xs, atD xs r = some d := by
  have h2 : r.toNat < xs.length := by omega
  refine ⟨xs[r.toNat], List.getElem_mem h2, ?_⟩
  unfold atD atI ixN
  rw [if_pos h0, if_pos h1]
  show xs[r.toNat]? = _
  rw [List.getElem?_eq_getElem h2]
theorem lg {x : Int} (h0 : 0 < x) (h1 : x < 2 ^ 62) : x.natAbs.log2 < 9000 := by
  have : x.natAbs < 2 ^ 62 := by omega
  have h2 : x.natAbs ≠ 0 := by omega
  have := (Nat.log2_lt h2).2 this
  omega
theorem lgB {x : Int} (h0 : 0 < x) (h1 : x < 2 ^ 9000) : x.natAbs.log2 < 9000 := by
  have : x.natAbs < 2 ^ 9000 := by
    obtain ⟨n, rfl⟩ := Int.eq_ofNat_of_zero_le (show 0 ≤ x by omega)
    exact_mod_cast h1
  exact (Nat.log2_lt (by omega)).2 this
theorem draw_of {h : Addr} {m : Int} {Q : D → Prop} {Z : Ex → Prop} (l : 0 < m ∧ m < 2 ^ 62) {t : Tg2 Q Z} (q : ∀ r : Int, 0 ≤ r → r < m → Q (.int r)) : DL.call (drawF h) [.ref h, .int m] Q Z t := by
  refine ⟨⟨m, rfl, l.1, lg l.1 l.2⟩, ?_⟩
  rintro d ⟨m', r, e, rfl, r0, r1⟩
  cases e
  exact q r r0 r1
theorem anyP_of {h : Addr} {xs : List D} {Q : D → Prop} {Z : Ex → Prop} (l : 0 < xs.length ∧ xs.length ≤ 1000000) {t : Tg2 Q Z} (q : ∀ d ∈ xs, Q d) : DL.call (anyP h) [.ref h, .lst xs] Q Z t := ⟨xs, .inl rfl, l, q⟩
theorem p__law_any (ad : Ad) (h : Addr) : ∀ ds Q Z, anyP h ds Q Z → fnD 2 2 (t__law_any ad (drawF h)) ds Q Z := by
  rintro ds Q Z ⟨xs, hd, ⟨l0, l1⟩, hQ⟩
  rcases hd with rfl | rfl
  all_goals
    refine ⟨rfl, ?_⟩
    simp [t__law_any]
    refine draw_of ⟨by omega, by omega⟩ fun r r0 r1 => ?_
    simp
    obtain ⟨d, hd, e⟩ := at_in r0 r1
    exact ⟨d, e, by simpa using hQ d hd⟩
def handP (a : Addr) (ns : List Int) : FSp := fun ds Q _ => ds = [.ref a] ∧ ns.length ≤ 63 ∧ ∀ d, handD d → Q d
theorem m_handP {a : Addr} {ns : List Int} : MonoF (handP a ns) := ⟨fun ds Q Q' Z Z' hq hz ⟨e, c, q⟩ => ⟨e, c, fun d hd => hq _ (q d hd)⟩⟩
theorem p__law_hand (ad : Ad) (a : Addr) (ns : List Int) : ∀ ds Q Z, handP a ns ds Q Z → fnD 1 3 (t__law_hand ad a ns) ds Q Z := by
  rintro ds Q Z ⟨rfl, hl, hQ⟩
  refine ⟨rfl, ?_⟩
  have hc : cutD (ns.map .int) none (some 63) = ns.map .int := by
    unfold cutD HT.sIx
    simp
    rw [List.take_of_length_le (by rw [List.length_map]; omega)]
  simp [t__law_hand, hc]
  refine ⟨by omega, ?_⟩
  refine lcW_all (fun d => match d with
    | .int x => .int (if x < 0 then -x else x)
    | d => d) (fun d hd k2 q => ?_) ?_
  · obtain ⟨x, hx, rfl⟩ := List.mem_map.mp hd
    simpa using q
  · rw [List.map_map]
    have e : (ns.map ((fun d => match d with
      | .int x => .int (if x < 0 then -x else x)
      | d => d) ∘ D.int)) = (ns.map fun x => if x < 0 then -x else x).map D.int := by rw [List.map_map]; rfl
    rw [e]
    have mk (c : Int) (hc : -2 ^ 64 < c ∧ c < 2 ^ 64) (x : Int) : mulOk c x := .inl (.inl hc)
    simp [mk]
    exact hQ _ ⟨ns.map fun x => if x < 0 then -x else x, 0, 0, _, 0, by omega, by rw [List.map_map]⟩
def trueP (h : Addr) : FSp := fun ds Q _ => ds = [.ref h] ∧ Q (.bl true)
theorem m_trueP {h : Addr} : MonoF (trueP h) := ⟨fun ds Q Q' Z Z' hq hz ⟨e, q⟩ => ⟨e, hq _ q⟩⟩
end Hd

set_option Elab.async false
set_option linter.all false
set_option maxRecDepth 100000
set_option maxHeartbeats 0
namespace Hd
open PySem L2 DL
/-! kinds, bounds -/
def isIntD : D → Bool
  | .int _ => true
  | _ => false
def withinD (lo hi : Int) : D → Bool
  | .int i => decide (lo ≤ i) && decide (i ≤ hi)
  | _ => false
def phi_is_integer (_ : Ad) : FSp := fun ds Q Z => ∃ d, ds = [d] ∧ okTy d ∧ Q (.bl (isIntD d))
def phi_is_within (_ : Ad) : FSp := fun ds Q Z => ∃ d lo hi, ds = [d, .int lo, .int hi] ∧ okTy d ∧ Q (.bl (withinD lo hi d))
theorem m_is_integer {ad : Ad} : MonoF (phi_is_integer ad) := ⟨fun ds Q Q' Z Z' hq hz ⟨d, e, c, q⟩ => ⟨d, e, c, hq _ q⟩⟩
theorem m_is_within {ad : Ad} : MonoF (phi_is_within ad) := ⟨fun ds Q Q' Z Z' hq hz ⟨d, a, b, e, c, q⟩ => ⟨d, a, b, e, c, hq _ q⟩⟩
theorem call_within {ad : Ad} {d : D} {lo hi : Int} (hd : okTy d) {Q : D → Prop} {Z : Ex → Prop} (k : Q (.bl (withinD lo hi d))) : phi_is_within ad [d, .int lo, .int hi] Q Z := ⟨d, lo, hi, rfl, hd, k⟩
theorem call_integer {ad : Ad} {d : D} (hd : okTy d) {Q : D → Prop} {Z : Ex → Prop} (k : Q (.bl (isIntD d))) : phi_is_integer ad [d] Q Z := ⟨d, rfl, hd, k⟩
theorem p_is_integer (ad : Ad) : ∀ ds Q Z, phi_is_integer ad ds Q Z → fnD 1 1 (t_is_integer ad) ds Q Z := by
  rintro ds Q Z ⟨d, rfl, c, q⟩
  refine ⟨rfl, ?_⟩
  cases d <;> first | exact c.elim | (simp [t_is_integer, okTy, isT]; simpa [isIntD] using q)
theorem p_is_within (ad : Ad) : ∀ ds Q Z, phi_is_within ad ds Q Z → fnD 3 3 (t_is_within ad (phi_is_integer ad)) ds Q Z := by
  rintro ds Q Z ⟨d, lo, hi, rfl, c, q⟩
  refine ⟨rfl, ?_⟩
  cases d with
  | int i =>
    simp [t_is_within]
    refine call_integer (by exact c) ?_
    simp [isIntD]
    refine brK_of (fun h => ?_) fun h => ?_
    · have h := of_decide_eq_true h
      simpa [withinD, h] using q
    · have h := of_decide_eq_false h
      simpa [withinD, h] using q
  | _ =>
    simp [t_is_within]
    refine call_integer (by exact c) ?_
    simpa [isIntD, withinD] using q
end Hd

set_option Elab.async false
set_option linter.all false
set_option maxRecDepth 100000
namespace Sv
/-! the strikings, in plain Lean -/
def strk (o b : Nat) : Nat → List Nat → List Nat
  | _, [] => []
  | p, x :: xs => if (p + o) % b = 0 then strk o b (p + 1) xs else x :: strk o b (p + 1) xs
theorem strk_mem {o b : Nat} : ∀ {l : List Nat} {p x : Nat}, x ∈ strk o b p l → x ∈ l
  | [], _, _, h => by simp [strk] at h
  | y :: l, p, x, h => by
    rw [strk] at h
    split at h
    · exact List.mem_cons_of_mem _ (strk_mem h)
    · rcases List.mem_cons.mp h with rfl | h
      · exact List.mem_cons_self ..
      · exact List.mem_cons_of_mem _ (strk_mem h)
theorem strk_len {o b : Nat} : ∀ {l : List Nat} {p : Nat}, (strk o b p l).length ≤ l.length
  | [], _ => by simp [strk]
  | y :: l, p => by
    have := strk_len (o := o) (b := b) (l := l) (p := p + 1)
    rw [strk]
    split
    · simp; omega
    · simp; omega
theorem strk_lt {b : Nat} {x : Nat} {l : List Nat} : (strk 0 b 0 (x :: l)).length < (x :: l).length := by
  have := strk_len (o := 0) (b := b) (l := l) (p := 1)
  rw [strk]
  simp
  omega
def odds (n : Nat) : List Nat := (List.range ((n + 1) / 2)).map fun i => 2 * i + 1
def from1 (n : Nat) : List Nat := (List.range n).map fun i => i + 1
def from2 (n : Nat) : List Nat := (List.range (n - 1)).map fun i => i + 2
def luckyG : Nat → List Nat → Nat → List Nat
  | 0, row, _ => row
  | f + 1, row, k => match row[k]? with
    | some b => if b ≤ row.length then luckyG f (strk 1 b 0 row) (k + 1) else row
    | none => row
def luckyF (n : Nat) : List Nat := luckyG (odds n).length (odds n) 1
def ludicG : Nat → List Nat → List Nat → List Nat
  | 0, found, _ => found
  | _ + 1, found, [] => found
  | f + 1, found, x :: l => ludicG f (found ++ [x]) (strk 0 x 0 (x :: l))
def ludicF (n : Nat) : List Nat := ludicG (from2 n).length (if 0 < n then [1] else []) (from2 n)
def eachG : Nat → List Nat → Nat → List Nat
  | 0, row, _ => row
  | f + 1, row, b => if b ≤ row.length then eachG f (strk 1 b 0 row) (b + 1) else row
def eachF (n : Nat) : List Nat := eachG n (from1 n) 2
/-! primes -/
def prm (n : Nat) : Bool := (List.range (n - 2)).all fun i => decide (n % (i + 2) ≠ 0)
theorem prm_iff {n : Nat} : prm n = true ↔ ∀ d, 2 ≤ d → d < n → ¬ d ∣ n := by
  unfold prm
  rw [List.all_eq_true]
  constructor
  · intro h d h2 hn hd
    have := h (d - 2) (List.mem_range.mpr (by omega))
    rw [show d - 2 + 2 = d by omega] at this
    have := of_decide_eq_true this
    exact this (Nat.mod_eq_zero_of_dvd hd)
  · intro h i hi
    have hi := List.mem_range.mp hi
    exact decide_eq_true fun e => h (i + 2) (by omega) (by omega) (Nat.dvd_of_mod_eq_zero e)
/-- a number that is none has a prime whose square is not above it -/
theorem least_div {n : Nat} (h2 : 2 ≤ n) (h : prm n = false) : ∃ p, 2 ≤ p ∧ p < n ∧ prm p = true ∧ p * p ≤ n ∧ p ∣ n := by
  have hd : ∃ d, 2 ≤ d ∧ d < n ∧ d ∣ n := by
    refine Classical.byContradiction fun z => ?_
    have : prm n = true := prm_iff.mpr fun d a b c => z ⟨d, a, b, c⟩
    rw [h] at this; cases this
  -- the least one
  have key : ∀ m, (∃ d, d ≤ m ∧ 2 ≤ d ∧ d < n ∧ d ∣ n) → ∃ p, 2 ≤ p ∧ p < n ∧ p ∣ n ∧ ∀ q, 2 ≤ q → q < p → ¬ q ∣ n := by
    intro m
    induction m with
    | zero => rintro ⟨d, a, b, _⟩; omega
    | succ m ih =>
      rintro ⟨d, a, b, c, e⟩
      by_cases hs : ∃ q, 2 ≤ q ∧ q < d ∧ q ∣ n
      · obtain ⟨q, q1, q2, q3⟩ := hs
        exact ih ⟨q, by omega, q1, by omega, q3⟩
      · exact ⟨d, b, c, e, fun q q1 q2 q3 => hs ⟨q, q1, q2, q3⟩⟩
  obtain ⟨d, a, b, c⟩ := hd
  obtain ⟨p, p1, p2, p3, p4⟩ := key d ⟨d, Nat.le_refl _, a, b, c⟩
  refine ⟨p, p1, p2, prm_iff.mpr fun q q1 q2 q3 => p4 q q1 q2 (Nat.dvd_trans q3 p3), ?_, p3⟩
  refine Classical.byContradiction fun z => ?_
  obtain ⟨e, he⟩ := p3
  have e1 : e < p := by
    refine Classical.byContradiction fun y => z ?_
    rw [he]; exact Nat.mul_le_mul_left _ (by omega)
  have e2 : 2 ≤ e := by
    rcases e with _ | _ | e
    · simp at he; omega
    · simp at he; omega
    · omega
  exact p4 e e2 e1 ⟨p, by rw [he, Nat.mul_comm]⟩
def primesF (n : Nat) : List Nat := (from2 n).filter prm
/-- what the sieve has struck ahead of number n -/
def stru (n m : Nat) : Prop := ∃ p, 2 ≤ p ∧ p < n ∧ prm p = true ∧ p * p ≤ m ∧ p ∣ m
theorem stru_self {n : Nat} (h : 2 ≤ n) : stru n n ↔ prm n = false := by
  constructor
  · rintro ⟨p, a, b, _, _, c⟩
    rcases Bool.eq_false_or_eq_true (prm n) with e | e
    · exact absurd c (prm_iff.mp e p a b)
    · exact e
  · intro e
    obtain ⟨p, a, b, c, d, f⟩ := least_div h e
    exact ⟨p, a, b, c, d, f⟩
theorem stru_no {n m : Nat} (h : prm n = false) : stru (n + 1) m ↔ stru n m := by
  constructor
  · rintro ⟨p, a, b, c, d, e⟩
    refine ⟨p, a, ?_, c, d, e⟩
    rcases Nat.lt_succ_iff_lt_or_eq.mp b with b | b
    · exact b
    · rw [b, h] at c; cases c
  · rintro ⟨p, a, b, c, d, e⟩
    exact ⟨p, a, by omega, c, d, e⟩
theorem stru_yes {n m : Nat} (h2 : 2 ≤ n) (h : prm n = true) : stru (n + 1) m ↔ stru n m ∨ (n * n ≤ m ∧ n ∣ m) := by
  constructor
  · rintro ⟨p, a, b, c, d, e⟩
    rcases Nat.lt_succ_iff_lt_or_eq.mp b with b | b
    · exact .inl ⟨p, a, b, c, d, e⟩
    · rw [b] at d e; exact .inr ⟨d, e⟩
  · rintro (⟨p, a, b, c, d, e⟩ | ⟨d, e⟩)
    · exact ⟨p, a, by omega, c, d, e⟩
    · exact ⟨n, h2, by omega, h, d, e⟩
/-- the multiples from the square on -/
theorem mult_iff {n m k most : Nat} (hn : 0 < n) (hm : m ≤ most) (hk : ∀ i, i < k ↔ n * n + i * n ≤ most) : (n * n ≤ m ∧ n ∣ m) ↔ ∃ i, i < k ∧ m = n * n + i * n := by
  constructor
  · rintro ⟨a, c, rfl⟩
    have hc : n ≤ c := Nat.le_of_mul_le_mul_left a hn
    refine ⟨c - n, (hk _).mpr ?_, ?_⟩
    · rw [← Nat.add_mul, show n + (c - n) = c by omega, Nat.mul_comm]; exact hm
    · rw [← Nat.add_mul, show n + (c - n) = c by omega, Nat.mul_comm]
  · rintro ⟨i, _, rfl⟩
    exact ⟨by omega, by rw [← Nat.add_mul]; exact Nat.dvd_mul_left ..⟩
/-! rows to lesser bounds -/
def upTo (n : Nat) (l : List Nat) : List Nat := l.filter fun x => decide (x ≤ n)
theorem upTo_upTo {a b : Nat} (h : a ≤ b) (l : List Nat) : upTo a (upTo b l) = upTo a l := by
  unfold upTo
  rw [List.filter_filter]
  refine List.filter_congr fun x _ => ?_
  by_cases h1 : x ≤ a
  · have : x ≤ b := by omega
    simp [h1, this]
  · simp [h1]
theorem upTo_from2 {a b : Nat} (h : a ≤ b) : from2 a = upTo a (from2 b) := by
  unfold from2 upTo
  obtain ⟨c, hc⟩ : ∃ c, b - 1 = (a - 1) + c := ⟨b - 1 - (a - 1), by omega⟩
  rw [hc, List.range_add, List.map_append, List.filter_append, List.filter_eq_self.mpr, List.filter_eq_nil_iff.mpr, List.append_nil]
  · intro x hx
    simp at hx
    obtain ⟨i, _, rfl⟩ := hx
    simp; omega
  · intro x hx
    simp at hx
    obtain ⟨i, _, rfl⟩ := hx
    simp; omega
theorem primes_less {a b : Nat} (h : a ≤ b) : primesF a = upTo a (primesF b) := by
  unfold primesF upTo
  rw [List.filter_filter, upTo_from2 h]
  unfold upTo
  rw [List.filter_filter]
  refine List.filter_congr fun x _ => Bool.and_comm ..
/-- one check tells of all -/
def all400 (F : Nat → List Nat) : Bool := let l := F 400; (List.range 401).all fun n => F n == upTo n l
theorem less_of {F : Nat → List Nat} (h : all400 F = true) {a b : Nat} (hb : b ≤ 400) (hab : a ≤ b) : F a = upTo a (F b) := by
  unfold all400 at h
  rw [List.all_eq_true] at h
  have e1 : F a = upTo a (F 400) := by simpa using h a (List.mem_range.mpr (by omega))
  have e2 : F b = upTo b (F 400) := by simpa using h b (List.mem_range.mpr (by omega))
  rw [e2, upTo_upTo hab]; exact e1
theorem lucky400 : all400 luckyF = true := by decide +kernel
theorem ludic400 : all400 ludicF = true := by decide +kernel
theorem each400 : all400 eachF = true := by decide +kernel
end Sv

set_option Elab.async false
set_option linter.all false
set_option maxRecDepth 100000
namespace Sv
def struckG : Nat → Nat → Nat
  | 0, here => here
  | k + 1, here => struckG k (here + (here - 1) / (k + 1))
def struckF (p : Nat) : Nat := struckG (p - 1) p
def runs : Nat → List Nat → List Nat
  | _, [] => []
  | t, x :: l => (t + x) :: runs (t + x) l
/-- the steps k + 1, k, .., 2 -/
def sumG : Nat → List Nat → List Nat
  | 0, row => row
  | k + 1, row => sumG k (runs 0 (strk 1 (k + 2) 0 row))
def summedF (p m : Nat) : List Nat := (sumG p (List.replicate (m * (p + 1) + p + 2) 1)).take m
def lsummedF (p m : Nat) : List Nat := (sumG p (List.replicate ((p + 1) * (m + 1)) 1)).take m
def each1400 : List Nat := eachF 1400
theorem each_len : 40 ≤ each1400.length ∧ each1400.length ≤ 2000 := by decide +kernel
theorem each_struck : ∀ p, p < 40 → each1400[p]? = some (struckF (p + 1)) := by decide +kernel
theorem summed_ok : ∀ p, p < 5 → ∀ m, m < 13 → p = 0 ∨ (summedF p m = (List.range m).map (fun i => (i + 1) ^ p) ∧ lsummedF p m = (List.range m).map (fun i => (i + 1) ^ p)) := by decide +kernel
theorem runs_len : ∀ (l : List Nat) (t : Nat), (runs t l).length = l.length
  | [], _ => rfl
  | x :: l, t => by rw [runs, List.length_cons, List.length_cons, runs_len l]
theorem primes_told : primesF 400 = primesF 400 := rfl
end Sv

set_option Elab.async false
set_option linter.all false
set_option maxRecDepth 100000
set_option maxHeartbeats 0
namespace Hd
open PySem L2 DL Sv
def nD (l : List Nat) : List D := l.map fun (n : Nat) => D.int (n : Int)
theorem nD_len (l : List Nat) : (nD l).length = l.length := by simp [nD]
theorem enum_in {l : List Nat} {d : D} (h : d ∈ enumD (nD l)) : ∃ p x : Nat, d = .tup [.int p, .int x] ∧ x ∈ l := by
  unfold enumD at h
  obtain ⟨⟨y, p⟩, hp, rfl⟩ := List.mem_map.mp h
  have hy := (List.mem_zipIdx hp).2.2
  have : y ∈ nD l := by rw [hy]; exact List.getElem_mem _
  obtain ⟨x, hx, rfl⟩ := List.mem_map.mp this
  exact ⟨p, x, rfl, hx⟩
def kF (o b : Nat) (d : D) : Option D := match d with
  | .tup [.int p, x] => if (p + o) % b = 0 then none else some x
  | _ => none
theorem strk_go (o b : Nat) : ∀ (l : List Nat) (p : Nat), (((nD l).zipIdx p).map fun q => D.tup [.int (q.2 : Nat), q.1]).filterMap (kF o b) = nD (strk o b p l)
  | [], p => rfl
  | x :: l, p => by
    have ih := strk_go o b l (p + 1)
    have e : ((p : Int) + (o : Int)) % (b : Int) = (((p + o) % b : Nat) : Int) := by simp
    rw [strk, nD, List.map_cons, List.zipIdx_cons, List.map_cons, List.filterMap_cons]
    by_cases h : (p + o) % b = 0
    · have h1 : ((p : Int) + (o : Int)) % (b : Int) = 0 := by rw [e, h]; rfl
      simp only [kF, h1, h, if_true]
      exact ih
    · have h1 : ¬ ((p : Int) + (o : Int)) % (b : Int) = 0 := by rw [e]; omega
      simp only [kF, h1, h, if_false]
      rw [nD, List.map_cons]
      exact congrArg _ ih
theorem strk_lc (o b : Nat) (l : List Nat) : (enumD (nD l)).filterMap (kF o b) = nD (strk o b 0 l) := strk_go o b l 0
theorem enum_len (l : List Nat) : (enumD (nD l)).length = l.length := by simp [enumD, nD]
/-! a bound -/
def phi_check_most (ad : Ad) : FSp := fun ds Q Z => ∃ d, ds = [d] ∧ okTy d ∧ (withinD 0 20000 d = true → Q .non) ∧ (withinD 0 20000 d = false → Z ⟨ad.BadNumber, none⟩)
theorem m_check_most {ad : Ad} : MonoF (phi_check_most ad) := ⟨fun ds Q Q' Z Z' hq hz ⟨d, e, c, q, z⟩ => ⟨d, e, c, fun h => hq _ (q h), fun h => hz _ (z h)⟩⟩
theorem p_check_most (ad : Ad) : ∀ ds Q Z, phi_check_most ad ds Q Z → fnD 1 1 (t_check_most ad (phi_is_within ad)) ds Q Z := by
  rintro ds Q Z ⟨d, rfl, c, q, z⟩
  refine ⟨rfl, ?_⟩
  simp [t_check_most]
  refine call_within c ?_
  rcases Bool.eq_false_or_eq_true (withinD 0 20000 d) with h | h
  · simpa [h] using q h
  · simpa [h] using z h
def sieveP (F : Nat → List Nat) (ad : Ad) : FSp := fun ds Q Z => (∃ n : Nat, ds = [.int n] ∧ n ≤ 2000 ∧ Q (.tup (nD (F n)))) ∨ (∃ d, ds = [d] ∧ okTy d ∧ withinD 0 20000 d = false ∧ Z ⟨ad.BadNumber, none⟩)
theorem m_sieveP {F : Nat → List Nat} {ad : Ad} : MonoF (sieveP F ad) := ⟨fun ds Q Q' Z Z' hq hz h => by
  rcases h with ⟨n, e, c, h⟩ | ⟨d, e, c, c2, h⟩
  · exact .inl ⟨n, e, c, hq _ h⟩
  · exact .inr ⟨d, e, c, c2, hz _ h⟩⟩
def lawP (F : Nat → List Nat) : FSp := fun ds Q _ => ∃ n : Nat, ds = [.int n] ∧ n ≤ 2000 ∧ Q (.lst (nD (F n)))
theorem m_lawP {F : Nat → List Nat} : MonoF (lawP F) := ⟨fun ds Q Q' Z Z' hq hz ⟨n, e, c, h⟩ => ⟨n, e, c, hq _ h⟩⟩
theorem most_ok {ad : Ad} {n : Nat} (hn : n ≤ 2000) {Q : D → Prop} {Z : Ex → Prop} {t : Tg2 Q Z} (q : Q .non) : DL.call (phi_check_most ad) [.int n] Q Z t := ⟨.int n, rfl, trivial, fun _ => q, fun h => by simp [withinD] at h; omega⟩
theorem most_bad {ad : Ad} {d : D} (hd : okTy d) (h : withinD 0 20000 d = false) {Q : D → Prop} {Z : Ex → Prop} {t : Tg2 Q Z} (q : Z ⟨ad.BadNumber, none⟩) : DL.call (phi_check_most ad) [d] Q Z t := ⟨d, rfl, hd, fun e => (by rw [h] at e; cases e), fun _ => q⟩
/-! lucky -/
theorem odds_ok {n : Nat} (hn : n ≤ 100000) : RgC 1 ((n : Int) + 1) 2 ((n + 1) / 2) ∧ rgC 1 2 ((n + 1) / 2) = nD (odds n) := by
  refine ⟨⟨by decide, by decide, ?_, ?_⟩, ?_⟩
  · unfold Builtin.Range.small Builtin.Range.rangeFitsLong Builtin.Range.rangeSize
    simp
    omega
  · unfold Builtin.Range.rangeSize
    simp
    omega
  · unfold rgC nD odds
    rw [List.map_map]
    refine List.map_congr_left fun i _ => ?_
    simp
    omega
theorem luckyG_stop {row : List Nat} {k : Nat} (h : ∀ b, row[k]? = some b → row.length < b) : ∀ m, luckyG m row k = row
  | 0 => rfl
  | m + 1 => by
    rw [luckyG]
    cases e : row[k]? with
    | none => rfl
    | some b => exact if_neg (by have := h b e; omega)
theorem luckyG_go {row : List Nat} {k b m : Nat} (h : row[k]? = some b) (hb : b ≤ row.length) : luckyG (m + 1) row k = luckyG m (strk 1 b 0 row) (k + 1) := by
  rw [luckyG, h]
  exact if_pos hb
theorem atD_nD {l : List Nat} {k : Nat} {b : Nat} (h : l[k]? = some b) : atD (nD l) (k : Int) = some (.int b) := by
  have hk := (List.getElem?_eq_some_iff.mp h).1
  unfold atD atI ixN
  rw [if_pos (by omega), if_pos (by rw [nD_len]; omega)]
  show (nD l)[(k : Int).toNat]? = _
  rw [Int.toNat_natCast, nD, List.getElem?_map, h]; rfl
theorem mod_ne {p o b : Nat} : decide (¬((p : Int) + o) % b = 0) = decide (¬ (p + o) % b = 0) := by
  have e : ((p : Int) + (o : Int)) % (b : Int) = (((p + o) % b : Nat) : Int) := by simp
  rw [e]; congr 1; simp only [eq_iff_iff]; omega
theorem p_lucky (ad : Ad) : ∀ ds Q Z, sieveP luckyF ad ds Q Z → fnD 1 6 (t_lucky ad (phi_check_most ad)) ds Q Z := by
  rintro ds Q Z (⟨n, rfl, hn, q⟩ | ⟨d, rfl, c, c2, q⟩)
  · refine ⟨rfl, ?_⟩
    simp [t_lucky]
    refine most_ok hn ?_
    simp
    refine ⟨_, (odds_ok (by omega)).1, by omega, ?_⟩
    rw [(odds_ok (by omega)).2]
    refine whW_inv (n := (odds n).length) (fun m δ => ∃ (row : List Nat) (k : Nat) (s3 : Sl), δ = [.val (.int n), .own (nD row), .val (.int k), s3, .un, .un] ∧ luckyG m row k = luckyF n ∧ (∀ x ∈ row, 0 < x) ∧ row.length ≤ m + k ∧ row.length ≤ 2000) ⟨odds n, 1, .un, rfl, rfl, ?_, ?_, ?_⟩ ?_
    · intro x hx; simp [odds] at hx; omega
    · omega
    · simp [odds]; omega
    rintro m δ k' ⟨row, k, s3, rfl, hv, hp, hm, hl⟩ hk
    simp
    refine brK_of (fun h => ?_) fun h => ?_
    · have h : k < row.length := by have := of_decide_eq_true h; simpa [nD] using this
      obtain ⟨b, hb⟩ : ∃ b, row[k]? = some b := ⟨row[k], List.getElem?_eq_getElem h⟩
      simp
      refine ⟨_, atD_nD hb, ?_⟩
      simp
      have hbp := hp b (List.mem_of_getElem? hb)
      refine brK_of (fun h2 => ?_) fun h2 => ?_
      · have h2 : b ≤ row.length := by have := of_decide_eq_true h2; simpa [nD] using this
        obtain ⟨m', rfl⟩ : ∃ m', m = m' + 1 := ⟨m - 1, by omega⟩
        rw [luckyG_go hb h2] at hv
        simp
        refine ⟨_, atD_nD hb, ?_⟩
        refine ⟨by rw [enum_len]; omega, lcW_inv (kF 1 b) (fun d hd k2 acc q2 => ?_) ?_⟩
        · obtain ⟨p, x, rfl, _⟩ := enum_in hd
          simp
          refine ⟨by omega, brK_of (fun h => ?_) fun h => ?_⟩
          · have h : ¬ ((p : Int) + 1) % (b : Int) = 0 := by simpa using h
            simpa [kF, h] using q2
          · have h : ((p : Int) + 1) % (b : Int) = 0 := by simpa using h
            simpa [kF, h] using q2
        · rw [List.nil_append, strk_lc]
          refine hk m' _ (by omega) ⟨strk 1 b 0 row, k + 1, _, rfl, hv, fun x hx => hp x (strk_mem hx), ?_, ?_⟩
          · have := strk_len (o := 1) (b := b) (l := row) (p := 0); omega
          · have := strk_len (o := 1) (b := b) (l := row) (p := 0); omega
      · have h2 : row.length < b := by have := of_decide_eq_false h2; rw [nD_len] at this; omega
        rw [luckyG_stop (fun b' e => by rw [hb] at e; cases e; exact h2)] at hv
        simp
        rw [hv]; exact q
    · have h : ¬ k < row.length := by have := of_decide_eq_false h; simpa [nD] using this
      rw [luckyG_stop (fun b' e => absurd (List.getElem?_eq_some_iff.mp e).1 h)] at hv
      simp
      rw [hv]; exact q
  · refine ⟨rfl, ?_⟩
    simp [t_lucky]
    exact most_bad c c2 q
theorem p__law_lucky (ad : Ad) : ∀ ds Q Z, lawP luckyF ds Q Z → fnD 1 6 (t__law_lucky ad) ds Q Z := by
  rintro ds Q Z ⟨n, rfl, hn, q⟩
  · refine ⟨rfl, ?_⟩
    simp [t__law_lucky]
    refine ⟨_, (odds_ok (by omega)).1, by omega, ?_⟩
    rw [(odds_ok (by omega)).2]
    refine whW_inv (n := (odds n).length) (fun m δ => ∃ (row : List Nat) (k : Nat) (s3 : Sl), δ = [.val (.int n), .own (nD row), .val (.int k), s3, .un, .un] ∧ luckyG m row k = luckyF n ∧ (∀ x ∈ row, 0 < x) ∧ row.length ≤ m + k ∧ row.length ≤ 2000) ⟨odds n, 1, .un, rfl, rfl, ?_, ?_, ?_⟩ ?_
    · intro x hx; simp [odds] at hx; omega
    · omega
    · simp [odds]; omega
    rintro m δ k' ⟨row, k, s3, rfl, hv, hp, hm, hl⟩ hk
    simp
    refine brK_of (fun h => ?_) fun h => ?_
    · have h : k < row.length := by have := of_decide_eq_true h; simpa [nD] using this
      obtain ⟨b, hb⟩ : ∃ b, row[k]? = some b := ⟨row[k], List.getElem?_eq_getElem h⟩
      simp
      refine ⟨_, atD_nD hb, ?_⟩
      simp
      have hbp := hp b (List.mem_of_getElem? hb)
      refine brK_of (fun h2 => ?_) fun h2 => ?_
      · have h2 : b ≤ row.length := by have := of_decide_eq_true h2; simpa [nD] using this
        obtain ⟨m', rfl⟩ : ∃ m', m = m' + 1 := ⟨m - 1, by omega⟩
        rw [luckyG_go hb h2] at hv
        simp
        refine ⟨_, atD_nD hb, ?_⟩
        refine ⟨by rw [enum_len]; omega, lcW_inv (kF 1 b) (fun d hd k2 acc q2 => ?_) ?_⟩
        · obtain ⟨p, x, rfl, _⟩ := enum_in hd
          simp
          refine ⟨by omega, brK_of (fun h => ?_) fun h => ?_⟩
          · have h : ¬ ((p : Int) + 1) % (b : Int) = 0 := by have := of_decide_eq_true h; omega
            simpa [kF, h] using q2
          · have h : ((p : Int) + 1) % (b : Int) = 0 := by have := of_decide_eq_false h; have := Int.emod_nonneg ((p : Int) + 1) (b := (b : Int)) (by omega); omega
            simpa [kF, h] using q2
        · rw [List.nil_append, strk_lc]
          refine hk m' _ (by omega) ⟨strk 1 b 0 row, k + 1, _, rfl, hv, fun x hx => hp x (strk_mem hx), ?_, ?_⟩
          · have := strk_len (o := 1) (b := b) (l := row) (p := 0); omega
          · have := strk_len (o := 1) (b := b) (l := row) (p := 0); omega
      · have h2 : row.length < b := by have := of_decide_eq_false h2; rw [nD_len] at this; omega
        rw [luckyG_stop (fun b' e => by rw [hb] at e; cases e; exact h2)] at hv
        simp
        rw [hv]; exact q
    · have h : ¬ k < row.length := by have := of_decide_eq_false h; simpa [nD] using this
      rw [luckyG_stop (fun b' e => absurd (List.getElem?_eq_some_iff.mp e).1 h)] at hv
      simp
      rw [hv]; exact q
theorem eachG_stop {row : List Nat} {b : Nat} (h : row.length < b) : ∀ m, eachG m row b = row
  | 0 => rfl
  | m + 1 => by rw [eachG, if_neg (by omega)]
theorem from1_ok (n : Nat) : rgD 1 n = nD (from1 n) := by
  unfold rgD nD from1
  rw [List.map_map]
  refine List.map_congr_left fun i _ => ?_
  simp
  omega
theorem from2_ok (n : Nat) : rgD 2 (n - 1) = nD (from2 n) := by
  unfold rgD nD from2
  rw [List.map_map]
  refine List.map_congr_left fun i _ => ?_
  simp
  omega
theorem okDs_nD (k : Nat) : ∀ l : List Nat, okDs k (nD l) = true
  | [] => by simp [okDs, nD]
  | a :: l => by
    have := okDs_nD k l
    unfold nD at this ⊢
    cases k <;> simp [okDs, okD, this]
theorem one_cut (n : Nat) : cutD [D.int 1] none (some (n : Int)) = nD (if 0 < n then [1] else []) := by
  unfold cutD HT.sIx
  by_cases h : 0 < n
  · have e : min (n : Int) 1 = 1 := by omega
    simp [h, nD, e]
    rw [if_neg (by omega)]
    have : min n 1 = 1 := by omega
    simp [this]
  · have : n = 0 := by omega
    subst this
    simp [nD]
theorem p_struck_each (ad : Ad) : ∀ ds Q Z, sieveP eachF ad ds Q Z → fnD 1 5 (t_struck_each ad (phi_check_most ad)) ds Q Z := by
  rintro ds Q Z (⟨n, rfl, hn, q⟩ | ⟨d, rfl, c, c2, q⟩)
  · refine ⟨rfl, ?_⟩
    simp [t_struck_each]
    refine most_ok hn ?_
    simp
    refine ⟨by omega, ?_⟩
    rw [from1_ok]
    refine whW_inv (n := n) (fun m δ => ∃ (row : List Nat) (b : Nat) (s1 : Sl), δ = [.val (.int n), s1, .val (.int b), .un, .un] ∧ (s1 = .own (nD row) ∨ s1 = .val (.lst (nD row))) ∧ eachG m row b = eachF n ∧ 2 ≤ b ∧ row.length + 1 ≤ m + b ∧ row.length ≤ 2000) ⟨from1 n, 2, _, rfl, .inr rfl, rfl, ?_, ?_, ?_⟩ ?_
    · omega
    · simp [from1]
    · simp [from1]; omega
    rintro m δ k' ⟨row, b, s1, rfl, hs, hv, hb, hm, hl⟩ hk
    rcases hs with rfl | rfl
    all_goals
      simp
      refine brK_of (fun h => ?_) fun h => ?_
      · have h : b ≤ row.length := by have := of_decide_eq_true h; simpa [nD] using this
        obtain ⟨m', rfl⟩ : ∃ m', m = m' + 1 := ⟨m - 1, by omega⟩
        rw [eachG, if_pos h] at hv
        simp
        refine ⟨by rw [enum_len]; omega, lcW_inv (kF 1 b) (fun d hd k2 acc q2 => ?_) ?_⟩
        · obtain ⟨p, x, rfl, _⟩ := enum_in hd
          simp
          refine ⟨by omega, brK_of (fun h => ?_) fun h => ?_⟩
          · have h : ¬ ((p : Int) + 1) % (b : Int) = 0 := by simpa using h
            simpa [kF, h] using q2
          · have h : ((p : Int) + 1) % (b : Int) = 0 := by simpa using h
            simpa [kF, h] using q2
        · rw [List.nil_append, strk_lc]
          refine hk m' _ (by omega) ⟨strk 1 b 0 row, b + 1, _, rfl, .inl rfl, hv, by omega, ?_, ?_⟩
          · have := strk_len (o := 1) (b := b) (l := row) (p := 0); omega
          · have := strk_len (o := 1) (b := b) (l := row) (p := 0); omega
      · have h : row.length < b := by have := of_decide_eq_false h; rw [nD_len] at this; omega
        rw [eachG_stop h] at hv
        simp
        rw [hv]; exact q
  · refine ⟨rfl, ?_⟩
    simp [t_struck_each]
    exact most_bad c c2 q
theorem p__law_each (ad : Ad) : ∀ ds Q Z, lawP eachF ds Q Z → fnD 1 5 (t__law_each ad) ds Q Z := by
  rintro ds Q Z ⟨n, rfl, hn, q⟩
  · refine ⟨rfl, ?_⟩
    simp [t__law_each]
    refine ⟨by omega, ?_⟩
    rw [from1_ok]
    refine whW_inv (n := n) (fun m δ => ∃ (row : List Nat) (b : Nat) (s1 : Sl), δ = [.val (.int n), s1, .val (.int b), .un, .un] ∧ (s1 = .own (nD row) ∨ s1 = .val (.lst (nD row))) ∧ eachG m row b = eachF n ∧ 2 ≤ b ∧ row.length + 1 ≤ m + b ∧ row.length ≤ 2000) ⟨from1 n, 2, _, rfl, .inr rfl, rfl, ?_, ?_, ?_⟩ ?_
    · omega
    · simp [from1]
    · simp [from1]; omega
    rintro m δ k' ⟨row, b, s1, rfl, hs, hv, hb, hm, hl⟩ hk
    rcases hs with rfl | rfl
    all_goals
      simp
      refine brK_of (fun h => ?_) fun h => ?_
      · have h : b ≤ row.length := by have := of_decide_eq_true h; simpa [nD] using this
        obtain ⟨m', rfl⟩ : ∃ m', m = m' + 1 := ⟨m - 1, by omega⟩
        rw [eachG, if_pos h] at hv
        simp
        refine ⟨by rw [enum_len]; omega, lcW_inv (kF 1 b) (fun d hd k2 acc q2 => ?_) ?_⟩
        · obtain ⟨p, x, rfl, _⟩ := enum_in hd
          simp
          refine ⟨by omega, brK_of (fun h => ?_) fun h => ?_⟩
          · have h : ¬ ((p : Int) + 1) % (b : Int) = 0 := by have := of_decide_eq_true h; omega
            simpa [kF, h] using q2
          · have h : ((p : Int) + 1) % (b : Int) = 0 := by have := of_decide_eq_false h; have := Int.emod_nonneg ((p : Int) + 1) (b := (b : Int)) (by omega); omega
            simpa [kF, h] using q2
        · rw [List.nil_append, strk_lc]
          refine hk m' _ (by omega) ⟨strk 1 b 0 row, b + 1, _, rfl, .inl rfl, hv, by omega, ?_, ?_⟩
          · have := strk_len (o := 1) (b := b) (l := row) (p := 0); omega
          · have := strk_len (o := 1) (b := b) (l := row) (p := 0); omega
      · have h : row.length < b := by have := of_decide_eq_false h; rw [nD_len] at this; omega
        rw [eachG_stop h] at hv
        simp
        rw [hv]; exact q
theorem p_ludic (ad : Ad) : ∀ ds Q Z, sieveP ludicF ad ds Q Z → fnD 1 6 (t_ludic ad (phi_check_most ad)) ds Q Z := by
  rintro ds Q Z (⟨n, rfl, hn, q⟩ | ⟨d, rfl, c, c2, q⟩)
  · refine ⟨rfl, ?_⟩
    simp [t_ludic]
    refine most_ok hn ?_
    simp
    refine brK_of (fun h => ?_) fun h => ?_
    · have h : 0 < n := by simpa using h
      simp
      refine ⟨by omega, ?_⟩
      have e1 : ((n : Int) + 1 - 2).toNat = n - 1 := by omega
      rw [e1, from2_ok]
      refine whW_inv (n := (from2 n).length) (fun m δ => ∃ (found row : List Nat) (s3 : Sl), δ = [.val (.int n), .own (nD found), .own (nD row), s3, .un, .un] ∧ ludicG m found row = ludicF n ∧ (∀ x ∈ row, 0 < x) ∧ row.length ≤ m ∧ found.length + row.length ≤ 2000) ⟨if 0 < n then [1] else [], from2 n, .un, ?_, rfl, ?_, ?_, ?_⟩ ?_
      · simp [h, nD]
      · intro x hx; simp [from2] at hx; omega
      · omega
      · split
        · simp [from2]; omega
        · simp [from2]; omega
      rintro m δ k' ⟨found, row, s3, rfl, hv, hp, hm, hl⟩ hk
      simp
      refine ⟨⟨?_, rfl⟩, ?_⟩
      · exact okDs_nD _ _
      refine brK_of (fun h => ?_) fun h => ?_
      · obtain ⟨b, l, rfl⟩ : ∃ b l, row = b :: l := by
          cases row with
          | nil => simp [nD, neD, eqD, eqDs] at h
          | cons b l => exact ⟨b, l, rfl⟩
        obtain ⟨m', rfl⟩ : ∃ m', m = m' + 1 := ⟨m - 1, by simp at hm; omega⟩
        have hbp := hp b (List.mem_cons_self ..)
        rw [ludicG] at hv
        simp
        refine ⟨_, atD_nD (l := b :: l) (k := 0) rfl, ?_⟩
        refine ⟨by rw [nD_len]; simp at hl; omega, ?_, lcW_inv (kF 0 b) (fun d hd k2 acc q2 => ?_) ?_⟩
        · rw [enum_len]; simp at hl ⊢; omega
        · obtain ⟨p, x, rfl, _⟩ := enum_in hd
          simp
          refine ⟨by omega, brK_of (fun h => ?_) fun h => ?_⟩
          · have h : ¬ (p : Int) % (b : Int) = 0 := by simpa using h
            simpa [kF, h] using q2
          · have h : (p : Int) % (b : Int) = 0 := by simpa using h
            simpa [kF, h] using q2
        · rw [List.nil_append, strk_lc]
          refine hk m' _ (by omega) ⟨found ++ [b], strk 0 b 0 (b :: l), .val (.int b), ?_, hv, fun x hx => hp x (strk_mem hx), ?_, ?_⟩
          · simp [nD]
          · have := strk_lt (b := b) (x := b) (l := l); simp at hm this ⊢; omega
          · have := strk_lt (b := b) (x := b) (l := l); simp at hl this ⊢; omega
      · have h : row = [] := by
          cases row with
          | nil => rfl
          | cons b l => simp [nD, neD, eqD, eqDs] at h
        subst h
        have hv : found = ludicF n := by cases m <;> exact hv
        simp
        rw [hv]; exact q
    · have h : ¬ 0 < n := by simpa using h
      simp
      refine ⟨by omega, ?_⟩
      have e1 : ((n : Int) + 1 - 2).toNat = n - 1 := by omega
      rw [e1, from2_ok]
      refine whW_inv (n := (from2 n).length) (fun m δ => ∃ (found row : List Nat) (s3 : Sl), δ = [.val (.int n), .own (nD found), .own (nD row), s3, .un, .un] ∧ ludicG m found row = ludicF n ∧ (∀ x ∈ row, 0 < x) ∧ row.length ≤ m ∧ found.length + row.length ≤ 2000) ⟨if 0 < n then [1] else [], from2 n, .un, ?_, rfl, ?_, ?_, ?_⟩ ?_
      · simp [h, nD]
      · intro x hx; simp [from2] at hx; omega
      · omega
      · split
        · simp [from2]; omega
        · simp [from2]; omega
      rintro m δ k' ⟨found, row, s3, rfl, hv, hp, hm, hl⟩ hk
      simp
      refine ⟨⟨?_, rfl⟩, ?_⟩
      · exact okDs_nD _ _
      refine brK_of (fun h => ?_) fun h => ?_
      · obtain ⟨b, l, rfl⟩ : ∃ b l, row = b :: l := by
          cases row with
          | nil => simp [nD, neD, eqD, eqDs] at h
          | cons b l => exact ⟨b, l, rfl⟩
        obtain ⟨m', rfl⟩ : ∃ m', m = m' + 1 := ⟨m - 1, by simp at hm; omega⟩
        have hbp := hp b (List.mem_cons_self ..)
        rw [ludicG] at hv
        simp
        refine ⟨_, atD_nD (l := b :: l) (k := 0) rfl, ?_⟩
        refine ⟨by rw [nD_len]; simp at hl; omega, ?_, lcW_inv (kF 0 b) (fun d hd k2 acc q2 => ?_) ?_⟩
        · rw [enum_len]; simp at hl ⊢; omega
        · obtain ⟨p, x, rfl, _⟩ := enum_in hd
          simp
          refine ⟨by omega, brK_of (fun h => ?_) fun h => ?_⟩
          · have h : ¬ (p : Int) % (b : Int) = 0 := by simpa using h
            simpa [kF, h] using q2
          · have h : (p : Int) % (b : Int) = 0 := by simpa using h
            simpa [kF, h] using q2
        · rw [List.nil_append, strk_lc]
          refine hk m' _ (by omega) ⟨found ++ [b], strk 0 b 0 (b :: l), .val (.int b), ?_, hv, fun x hx => hp x (strk_mem hx), ?_, ?_⟩
          · simp [nD]
          · have := strk_lt (b := b) (x := b) (l := l); simp at hm this ⊢; omega
          · have := strk_lt (b := b) (x := b) (l := l); simp at hl this ⊢; omega
      · have h : row = [] := by
          cases row with
          | nil => rfl
          | cons b l => simp [nD, neD, eqD, eqDs] at h
        subst h
        have hv : found = ludicF n := by cases m <;> exact hv
        simp
        rw [hv]; exact q
  · refine ⟨rfl, ?_⟩
    simp [t_ludic]
    exact most_bad c c2 q
theorem p__law_ludic (ad : Ad) : ∀ ds Q Z, lawP ludicF ds Q Z → fnD 1 6 (t__law_ludic ad) ds Q Z := by
  rintro ds Q Z ⟨n, rfl, hn, q⟩
  · refine ⟨rfl, ?_⟩
    simp [t__law_ludic]
    refine ⟨by omega, ?_⟩
    have e1 : ((n : Int) + 1 - 2).toNat = n - 1 := by omega
    rw [e1, from2_ok]
    rw [one_cut]
    refine whW_inv (n := (from2 n).length) (fun m δ => ∃ (found row : List Nat) (s3 : Sl), δ = [.val (.int n), .own (nD found), .own (nD row), s3, .un, .un] ∧ ludicG m found row = ludicF n ∧ (∀ x ∈ row, 0 < x) ∧ row.length ≤ m ∧ found.length + row.length ≤ 2000) ⟨if 0 < n then [1] else [], from2 n, .un, rfl, rfl, ?_, ?_, ?_⟩ ?_
    · intro x hx; simp [from2] at hx; omega
    · omega
    · split
      · simp [from2]; omega
      · simp [from2]; omega
    rintro m δ k' ⟨found, row, s3, rfl, hv, hp, hm, hl⟩ hk
    simp
    refine brK_of (fun h => ?_) fun h => ?_
    · obtain ⟨b, l, rfl⟩ : ∃ b l, row = b :: l := by
        cases row with
        | nil => simp [nD, neD, eqD, eqDs] at h
        | cons b l => exact ⟨b, l, rfl⟩
      obtain ⟨m', rfl⟩ : ∃ m', m = m' + 1 := ⟨m - 1, by simp at hm; omega⟩
      have hbp := hp b (List.mem_cons_self ..)
      rw [ludicG] at hv
      simp
      refine ⟨_, atD_nD (l := b :: l) (k := 0) rfl, ?_⟩
      refine ⟨by rw [nD_len]; simp at hl; omega, ?_, lcW_inv (kF 0 b) (fun d hd k2 acc q2 => ?_) ?_⟩
      · rw [enum_len]; simp at hl ⊢; omega
      · obtain ⟨p, x, rfl, _⟩ := enum_in hd
        simp
        refine ⟨by omega, brK_of (fun h => ?_) fun h => ?_⟩
        · have h : ¬ (p : Int) % (b : Int) = 0 := by have := of_decide_eq_true h; omega
          simpa [kF, h] using q2
        · have h : (p : Int) % (b : Int) = 0 := by have := of_decide_eq_false h; have := Int.emod_nonneg ((p : Int)) (b := (b : Int)) (by omega); omega
          simpa [kF, h] using q2
      · rw [List.nil_append, strk_lc]
        refine hk m' _ (by omega) ⟨found ++ [b], strk 0 b 0 (b :: l), .val (.int b), ?_, hv, fun x hx => hp x (strk_mem hx), ?_, ?_⟩
        · simp [nD]
        · have := strk_lt (b := b) (x := b) (l := l); simp at hm this ⊢; omega
        · have := strk_lt (b := b) (x := b) (l := l); simp at hl this ⊢; omega
    · have h : row = [] := by
        cases row with
        | nil => rfl
        | cons b l => simp [nD, neD, eqD, eqDs] at h
      subst h
      have hv : found = ludicF n := by cases m <;> exact hv
      simp
      rw [hv]; exact q
end Hd

set_option Elab.async false
set_option linter.all false
set_option maxRecDepth 100000
set_option maxHeartbeats 0
namespace Hd
open PySem L2 DL Sv
/-! primes -/
def fPr (d : D) : Option D := match d with
  | .int x => if prm x.toNat = true then some d else none
  | _ => none
theorem fPr_nD : ∀ l : List Nat, (nD l).filterMap fPr = nD (l.filter prm)
  | [] => rfl
  | a :: l => by
    have ih := fPr_nD l
    unfold nD at ih ⊢
    rw [List.map_cons, List.filterMap_cons, List.filter_cons]
    cases h : prm a with
    | true => simp only [fPr, Int.toNat_natCast, h, if_true, List.map_cons]; rw [ih]
    | false => simpa [fPr, h] using ih
theorem rg_sub {p : Nat} (h : 2 ≤ p) : ((p : Int) - 2).toNat = p - 2 := by omega
theorem p__law_primes (ad : Ad) : ∀ ds Q Z, lawP primesF ds Q Z → fnD 1 3 (t__law_primes ad) ds Q Z := by
  rintro ds Q Z ⟨n, rfl, hn, q⟩
  refine ⟨rfl, ?_⟩
  simp [t__law_primes]
  have e1 : ((n : Int) + 1 - 2).toNat = n - 1 := by omega
  rw [e1, from2_ok]
  refine ⟨⟨by unfold Rg; omega, by unfold Rg; omega⟩, by rw [nD_len]; simp [from2]; omega, lcW_inv fPr (fun d hd k2 acc q2 => ?_) ?_⟩
  · obtain ⟨p, hp, rfl⟩ := List.mem_map.mp hd
    have hp2 : 2 ≤ p := by simp [from2] at hp; omega
    have hpn : p ≤ n := by simp [from2] at hp; omega
    simp
    rw [rg_sub hp2]
    refine ⟨⟨by unfold Rg; omega, by unfold Rg; omega⟩, by simp [rgD]; omega, lcW_all (fun d => match d with
      | .int x => .bl (decide (0 < (p : Int) % x))
      | d => d) (fun d hd k3 q3 => ?_) ?_⟩
    · unfold rgD at hd
      obtain ⟨i, hi, rfl⟩ := List.mem_map.mp hd
      simp
      exact ⟨by omega, q3⟩
    · simp
      refine ⟨(List.range (p - 2)).map fun i => decide (p % (i + 2) ≠ 0), ?_, ?_⟩
      · unfold rgD
        rw [List.map_map, List.map_map]
        refine List.map_congr_left fun i _ => ?_
        have e : ((p : Int)) % (2 + (i : Int)) = ((p % (i + 2) : Nat) : Int) := by simp [Int.add_comm]
        simp only [Function.comp_def, e]
        congr 2
        simp only [eq_iff_iff]
        omega
      · rw [List.all_map]
        have e : ((List.range (p - 2)).all (id ∘ fun i => decide (p % (i + 2) ≠ 0))) = prm p := rfl
        rw [e]
        refine brK_of (fun h => ?_) fun h => ?_
        · simpa [fPr, h] using q2
        · simpa [fPr, h] using q2
  · rw [fPr_nD, List.nil_append]
    simpa [primesF] using q
theorem take_succ_filter {n j : Nat} (h : j < n - 1) : ((from2 n).take (j + 1)).filter prm = ((from2 n).take j).filter prm ++ (if prm (j + 2) = true then [j + 2] else []) := by
  have e : (from2 n)[j]? = some (j + 2) := by unfold from2; rw [List.getElem?_map, List.getElem?_range h]; rfl
  rw [List.take_add_one, e, List.filter_append]
  congr 1
  simp only [Option.toList, List.filter_cons, List.filter_nil]
theorem p_primes (ad : Ad) : ∀ ds Q Z, sieveP primesF ad ds Q Z → fnD 1 5 (t_primes ad (phi_check_most ad)) ds Q Z := by
  rintro ds Q Z (⟨n, rfl, hn, q⟩ | ⟨d, rfl, c, c2, q⟩)
  · refine ⟨rfl, ?_⟩
    simp [t_primes]
    refine most_ok hn ?_
    simp [k_primes_6]
    refine ⟨by omega, ?_⟩
    simp [k_primes_5]
    have e1 : ((n : Int) + 1 - 2).toNat = n - 1 := by omega
    rw [e1]
    refine ⟨⟨by unfold Rg; omega, by unfold Rg; omega⟩, ?_⟩
    refine forW_inv (fun j δ => ∃ (st : List Bool) (s3 s4 : Sl), δ = [.val (.int n), .own (st.map .bl), .own (nD (((from2 n).take j).filter prm)), s3, s4] ∧ st.length = n + 1 ∧ ∀ m, m ≤ n → (st[m]? = some true ↔ stru (j + 2) m)) ⟨List.replicate (n + 1) false, .un, .un, ?_, by simp, fun m hm => ?_⟩ ?_ ?_
    · simp [nD]
    · constructor
      · intro h
        rw [List.getElem?_replicate] at h
        split at h <;> cases h
      · rintro ⟨p, a, b, _⟩; omega
    · rintro j d δ k' hd ⟨st, s3, s4, rfl, hl, hs⟩ hk
      have hj : j < n - 1 := by
        have := (List.getElem?_eq_some_iff.mp hd).1
        simpa [rgD] using this
      have ed : d = .int ((j + 2 : Nat) : Int) := by
        unfold rgD at hd
        rw [List.getElem?_map, List.getElem?_range hj] at hd
        cases hd
        simp
        omega
      subst ed
      simp [b_primes_3, -Int.natCast_add]
      have hjn : j + 2 < st.length := by omega
      have hst : (st.map D.bl)[j + 2]? = some (.bl st[j + 2]) := by rw [List.getElem?_map, List.getElem?_eq_getElem hjn]; rfl
      refine ⟨.bl st[j + 2], ?_, ?_⟩
      · unfold atD atI ixN
        rw [if_pos (by omega), if_pos (by simp; omega)]
        show (st.map D.bl)[((j + 2 : Nat) : Int).toNat]? = _
        rw [Int.toNat_natCast]; exact hst
      simp [-Int.natCast_add]
      have hself := hs (j + 2) (by omega)
      rw [List.getElem?_eq_getElem hjn, stru_self (by omega)] at hself
      refine brK_of (fun h => ?_) fun h => ?_
      · have hp : prm (j + 2) = true := by
          rcases Bool.eq_false_or_eq_true (prm (j + 2)) with e | e
          · exact e
          · have := hself.mpr e
            simp at this h
            rw [this] at h; cases h
        simp [-Int.natCast_add]
        refine ⟨?_, ?_⟩
        · rw [nD_len]
          have := List.length_filter_le prm ((from2 n).take j)
          have : ((from2 n).take j).length ≤ n := by simp [from2]; omega
          omega
        simp [k_primes_2, -Int.natCast_add]
        generalize hg : j + 2 = p at *
        have hpn : p ≤ n := by omega
        have hp2 : 2 ≤ p := by omega
        have kk : mulOk (p : Int) (p : Int) := .inl (.inl ⟨by omega, by omega⟩)
        refine ⟨kk, if p * p ≤ n then (n - p * p) / p + 1 else 0, ?_, ?_⟩
        · refine ⟨by omega, by omega, ?_, ?_⟩
          · have hb : (p : Int) * p ≤ 2000 * 2000 := by exact_mod_cast Nat.mul_le_mul (by omega : p ≤ 2000) (by omega : p ≤ 2000)
            have h0 : 0 ≤ (p : Int) * p := by exact_mod_cast Nat.zero_le _
            have hd1 : ((n : Int) + 1 - p * p - 1) / p ≤ 2000 := Int.le_trans (Int.ediv_le_ediv (by omega) (show ((n : Int) + 1 - p * p - 1) ≤ 2000 by omega)) (Int.le_trans (Int.ediv_le_self _ (by omega)) (by omega))
            unfold Builtin.Range.small Builtin.Range.rangeFitsLong Builtin.Range.rangeSize
            rw [if_pos (by omega)]
            simp
            have hd0 : (p : Int) * p < (n : Int) + 1 → 0 ≤ ((n : Int) + 1 - p * p - 1) / p := fun h => Int.ediv_nonneg (by omega) (by omega)
            generalize (p : Int) * p = pp at *
            generalize ((n : Int) + 1 - pp - 1) / p = dd at *
            refine ⟨⟨⟨⟨by omega, by omega⟩, by omega⟩, ?_⟩, .inr ?_⟩
            · split <;> constructor <;> omega
            · rw [if_pos (by omega)]; constructor <;> omega
          · unfold Builtin.Range.rangeSize
            rw [if_pos (by omega)]
            by_cases h1 : p * p ≤ n
            · rw [if_pos h1, if_pos (by have : ((p * p : Nat) : Int) ≤ n := by exact_mod_cast h1
                                        simp at this; omega)]
              have e : (n : Int) + 1 - (p : Int) * p - 1 = ((n - p * p : Nat) : Int) := by
                rw [Int.ofNat_sub h1]; simp; omega
              rw [e]; simp
            · rw [if_neg h1, if_neg (by have : (n : Int) < ((p * p : Nat) : Int) := by exact_mod_cast (Nat.not_le.mp h1)
                                        simp at this; omega)]
              rfl
        have hcnt : ∀ i, i < (if p * p ≤ n then (n - p * p) / p + 1 else 0) ↔ p * p + i * p ≤ n := by
          intro i
          split
          · rename_i h1
            rw [Nat.lt_succ_iff, Nat.le_div_iff_mul_le (by omega)]
            omega
          · rename_i h1
            constructor
            · intro h; omega
            · intro h; omega
        generalize (if p * p ≤ n then (n - p * p) / p + 1 else 0) = cnt at *
        refine forW_inv (fun i δ => ∃ (st2 : List Bool) (s4 : Sl), δ = [.val (.int n), .own (st2.map .bl), .own (nD (((from2 n).take j).filter prm ++ [p])), .val (.int (p : Nat)), s4] ∧ st2.length = n + 1 ∧ ∀ m, m ≤ n → (st2[m]? = some true ↔ (stru p m ∨ ∃ i', i' < i ∧ m = p * p + i' * p))) ⟨st, s4, ?_, hl, fun m hm => ?_⟩ ?_ ?_
        · simp [nD]
        · rw [hs m hm]
          constructor
          · exact .inl
          · rintro (h | ⟨i', h, _⟩)
            · exact h
            · omega
        · rintro i d δ k2 hd2 ⟨st2, s5, rfl, hl2, hs2⟩ hk2
          have hi : i < cnt := by
            have := (List.getElem?_eq_some_iff.mp hd2).1
            simpa [rgC] using this
          have hle := (hcnt i).mp hi
          have ed : d = .int ((p * p + i * p : Nat) : Int) := by
            unfold rgC at hd2
            rw [List.getElem?_map, List.getElem?_range hi] at hd2
            cases hd2
            simp
          subst ed
          simp [b_primes_1, -Int.natCast_add, -Int.natCast_mul]
          have hix : ixN st2.length ((p * p + i * p : Nat) : Int) = some (p * p + i * p) := by
            unfold ixN
            rw [if_pos (by omega), if_pos (by omega), Int.toNat_natCast]
          rw [hix]
          simp [-Int.natCast_add, -Int.natCast_mul]
          refine hk2 _ ⟨st2.set (p * p + i * p) true, .val (.int (p * p + i * p : Nat)), ?_, by simpa using hl2, fun m hm => ?_⟩
          · rw [List.map_set]
          · by_cases e : m = p * p + i * p
            · subst e
              rw [List.getElem?_set_self (by omega)]
              simp
              exact .inr ⟨i, by omega, rfl⟩
            · rw [List.getElem?_set_ne (Ne.symm e), hs2 m hm]
              constructor
              · rintro (h | ⟨i', h1, h2⟩)
                · exact .inl h
                · exact .inr ⟨i', by omega, h2⟩
              · rintro (h | ⟨i', h1, h2⟩)
                · exact .inl h
                · rcases Nat.lt_succ_iff_lt_or_eq.mp h1 with h1 | h1
                  · exact .inr ⟨i', h1, h2⟩
                  · subst h1; exact absurd h2 e
        · rintro δ ⟨st2, s5, rfl, hl2, hs2⟩
          simp
          refine hk _ ⟨st2, .val (.int p), s5, ?_, hl2, fun m hm => ?_⟩
          · rw [take_succ_filter hj, hg, if_pos hp]
          · have e3 : (rgC (↑p * ↑p) ↑p cnt).length = cnt := by simp [rgC]
            rw [e3] at hs2
            rw [show j + 1 + 2 = p + 1 by omega, stru_yes hp2 hp, hs2 m hm]
            rw [mult_iff (by omega) hm hcnt]
      · have hp : prm (j + 2) = false := by
          refine hself.mp ?_
          simpa using h
        simp [-Int.natCast_add]
        refine hk _ ⟨st, .val (.int (j + 2 : Nat)), s4, ?_, hl, fun m hm => ?_⟩
        · rw [take_succ_filter hj, if_neg (by rw [hp]; decide), List.append_nil]
        · rw [show j + 1 + 2 = (j + 2) + 1 by omega, stru_no hp]; exact hs m hm
    · rintro δ ⟨st, s3, s4, rfl, hl, hs⟩
      simp [k_primes_4]
      have : (from2 n).take (rgD 2 (n - 1)).length = from2 n := by
        rw [List.take_of_length_le]; simp [rgD, from2]
      rw [this]; exact q
  · refine ⟨rfl, ?_⟩
    simp [t_primes]
    exact most_bad c c2 q
end Hd

set_option Elab.async false
set_option linter.all false
set_option maxRecDepth 100000
set_option maxHeartbeats 0
namespace Hd
open PySem L2 DL Sv
/-! the place -/
def phi_struck_at (ad : Ad) : FSp := fun ds Q Z => (∃ p : Nat, ds = [.int p] ∧ (1 ≤ p ∧ p ≤ 40) ∧ Q (.int (struckF p))) ∨ (∃ d, ds = [d] ∧ okTy d ∧ withinD 1 10000 d = false ∧ Z ⟨ad.BadNumber, none⟩)
theorem m_struck_at {ad : Ad} : MonoF (phi_struck_at ad) := ⟨fun ds Q Q' Z Z' hq hz h => by
  rcases h with ⟨n, e, c, h⟩ | ⟨d, e, c, c2, h⟩
  · exact .inl ⟨n, e, c, hq _ h⟩
  · exact .inr ⟨d, e, c, c2, hz _ h⟩⟩
theorem rgC_down {hi : Nat} {n j : Nat} (h : j < n) {d : D} (hd : (rgC (hi : Int) (-1) n)[j]? = some d) (hn : n ≤ hi) : d = .int ((hi - j : Nat) : Int) := by
  unfold rgC at hd
  rw [List.getElem?_map, List.getElem?_range h] at hd
  cases hd
  have : (hi : Int) + (j : Int) * -1 = ((hi - j : Nat) : Int) := by omega
  show D.int ((hi : Int) + (j : Int) * -1) = _
  rw [this]
theorem p_struck_at (ad : Ad) : ∀ ds Q Z, phi_struck_at ad ds Q Z → fnD 1 3 (t_struck_at ad (phi_is_within ad)) ds Q Z := by
  rintro ds Q Z (⟨p, rfl, ⟨h1, h2⟩, q⟩ | ⟨d, rfl, c, c2, q⟩)
  · refine ⟨rfl, ?_⟩
    simp [t_struck_at]
    refine call_within (by exact trivial) ?_
    have w : withinD 1 10000 (.int p) = true := by simp [withinD]; omega
    simp [w]
    refine ⟨_, RgC.neg (by omega) (by omega) (by omega) (by omega), ?_⟩
    have e1 : ((p : Int) - 1).toNat = p - 1 := by omega
    rw [e1]
    refine forW_inv (fun j δ => ∃ (here : Nat) (s2 : Sl), δ = [.val (.int p), .val (.int here), s2] ∧ 1 ≤ here ∧ struckG (p - 1 - j) here = struckF p) ⟨p, .un, rfl, h1, rfl⟩ ?_ ?_
    · rintro j d δ k' hd ⟨here, s2, rfl, hh, hv⟩ hk
      have hj : j < p - 1 := by
        have := (List.getElem?_eq_some_iff.mp hd).1
        simpa [rgC] using this
      have ed := rgC_down hj hd (by omega)
      subst ed
      obtain ⟨k, hkk⟩ : ∃ k, p - 1 - j = k + 1 := ⟨p - 1 - j - 1, by omega⟩
      rw [hkk, struckG] at hv
      have e2 : ((p - j : Nat) : Int) - 1 = ((k + 1 : Nat) : Int) := by omega
      simp
      rw [e2]
      refine ⟨⟨by omega, ?_⟩, hk _ ⟨here + (here - 1) / (k + 1), .val (.int (p - j : Nat)), ?_, Nat.le_trans hh (Nat.le_add_right ..), ?_⟩⟩
      · exact lg (by omega) (by omega)
      · have e3 : ((here : Int) - 1) = ((here - 1 : Nat) : Int) := by omega
        rw [e3]
        simp
      · rw [show p - 1 - (j + 1) = k by omega]; exact hv
    · rintro δ ⟨here, s2, rfl, hh, hv⟩
      have e3 : p - 1 - (rgC (↑p) (-1) (p - 1)).length = 0 := by simp [rgC]
      rw [e3] at hv
      simp
      rw [show here = struckF p from hv]
      exact q
  · refine ⟨rfl, ?_⟩
    simp [t_struck_at]
    refine call_within c ?_
    simpa [c2] using q
/-! powers by sums -/
theorem runs_snoc : ∀ (l : List Nat) (t x : Nat), runs t (l ++ [x]) = runs t l ++ [t + l.sum + x]
  | [], t, x => by simp [runs]
  | y :: l, t, x => by
    rw [List.cons_append, runs, runs, runs_snoc l, List.cons_append, List.sum_cons]
    simp [Nat.add_assoc]
def phi_summed_powers (ad : Ad) : FSp := fun ds Q Z => (∃ p m : Nat, ds = [.int p, .int m] ∧ (1 ≤ p ∧ p ≤ 6 ∧ m ≤ 60) ∧ Q (.tup (nD (summedF p m)))) ∨ (∃ d e, ds = [d, e] ∧ (okTy d ∧ okTy e) ∧ (withinD 1 6 d = false ∨ withinD 0 60 e = false) ∧ Z ⟨ad.BadNumber, none⟩)
theorem m_summed_powers {ad : Ad} : MonoF (phi_summed_powers ad) := ⟨fun ds Q Q' Z Z' hq hz h => by
  rcases h with ⟨n, m, e, c, h⟩ | ⟨d, d2, e, c, c2, h⟩
  · exact .inl ⟨n, m, e, c, hq _ h⟩
  · exact .inr ⟨d, d2, e, c, c2, hz _ h⟩⟩
theorem cut_hi (ds : List D) (m : Nat) : cutD ds none (some (m : Int)) = ds.take m := by
  unfold cutD HT.sIx
  simp
  rw [if_neg (by omega)]
  omega
theorem ones_nD (n : Nat) : List.replicate n (D.int 1) = nD (List.replicate n 1) := by simp [nD]
theorem p_summed_powers (ad : Ad) : ∀ ds Q Z, phi_summed_powers ad ds Q Z → fnD 2 8 (t_summed_powers ad (phi_is_within ad)) ds Q Z := by
  rintro ds Q Z (⟨p, m, rfl, ⟨h1, h2, h3⟩, q⟩ | ⟨d, e, rfl, ⟨c, ce⟩, c2, q⟩)
  · refine ⟨rfl, ?_⟩
    simp [t_summed_powers]
    refine call_within (by exact trivial) ?_
    have w : withinD 1 6 (.int p) = true := by simp [withinD]; omega
    simp [w]
    refine call_within (by exact trivial) ?_
    have w : withinD 0 60 (.int m) = true := by simp [withinD]; omega
    simp [w, -List.reduceReplicate]
    have hmp : m * (p + 1) ≤ 60 * 7 := Nat.mul_le_mul (by omega) (by omega)
    have e0 : (m : Int) * ((p : Int) + 1) + p + 2 = ((m * (p + 1) + p + 2 : Nat) : Int) := by simp
    rw [e0]
    refine ⟨.inl (.inr ⟨by omega, by omega⟩), ⟨by omega, by omega, by omega⟩, _, RgC.neg (by omega) (by omega) (by omega) (by omega), ?_⟩
    rw [Int.toNat_natCast, ones_nD, show ((p : Int) + 1 - 1).toNat = p by omega]
    generalize hrow0 : List.replicate (m * (p + 1) + p + 2) 1 = row0
    have hl0 : row0.length ≤ 1000 := by rw [← hrow0, List.length_replicate]; omega
    refine forW_inv (fun j δ => ∃ (row : List Nat) (s2 s3 s4 s5 s6 s7 : Sl), δ = [.val (.int p), .val (.int m), s2, s3, s4, s5, s6, s7] ∧ (s2 = .own (nD row) ∨ s2 = .val (.lst (nD row))) ∧ (plainSl s6 = true ∧ plainSl s7 = true) ∧ row.length ≤ 1000 ∧ sumG (p - j) row = sumG p row0) ⟨row0, _, .un, .un, .un, .un, .un, rfl, .inl rfl, ⟨rfl, rfl⟩, hl0, rfl⟩ ?_ ?_
    · rintro j d δ k' hd ⟨row, s2, s3, s4, s5, s6, s7, rfl, hs2, ⟨p6, p7⟩, hl, hv⟩ hk
      rcases hs2 with rfl | rfl
      all_goals
        have hj : j < p := by
          have := (List.getElem?_eq_some_iff.mp hd).1
          simpa [rgC] using this
        have ed := rgC_down (hi := p + 1) hj (by simpa using hd) (by omega)
        obtain ⟨k, hkk⟩ : ∃ k, p - j = k + 1 := ⟨p - j - 1, by omega⟩
        rw [hkk, sumG] at hv
        rw [show p + 1 - j = k + 2 by omega] at ed
        subst ed
        simp [-Int.natCast_add]
        refine ⟨by rw [enum_len]; omega, ⟨p7, p6⟩, lcW_inv (kF 1 (k + 2)) (fun d hd k2 acc q2 => ?_) ?_⟩
        · obtain ⟨a, x, rfl, _⟩ := enum_in hd
          simp [-Int.natCast_add]
          refine brK_of (fun h => ?_) fun h => ?_
          · have h : ¬ ((a : Int) + 1) % ((k + 2 : Nat) : Int) = 0 := by simpa using h
            simpa [kF, h, -Int.natCast_add] using q2
          · have h : ((a : Int) + 1) % ((k + 2 : Nat) : Int) = 0 := by simpa using h
            simpa [kF, h, -Int.natCast_add] using q2
        · rw [List.nil_append, strk_lc]
          have hl2 := strk_len (o := 1) (b := k + 2) (l := row) (p := 0)
          generalize strk 1 (k + 2) 0 row = r2 at *
          simp [-Int.natCast_add]
          refine forW_inv (fun i δ => ∃ (tot : Nat) (later : List Nat) (t6 : Sl), δ = [.val (.int p), .val (.int m), .lent (nD r2), .val (.int (k + 2 : Nat)), .val (.int tot), .own (nD later), t6, s7] ∧ plainSl t6 = true ∧ later.length = i ∧ later ++ runs tot (r2.drop i) = runs 0 r2) ⟨0, [], s6, rfl, p6, rfl, rfl⟩ ?_ ?_
          · rintro i d δ k3 hd ⟨tot, later, t6, rfl, q6, hll, hrv⟩ hk3
            have hi : i < r2.length := by
              have := (List.getElem?_eq_some_iff.mp hd).1
              simpa [nD] using this
            have ed : d = .int (r2[i] : Nat) := by
              have hd : (nD r2)[i]? = some d := hd
              unfold nD at hd
              rw [List.getElem?_map, List.getElem?_eq_getElem hi] at hd
              cases hd; rfl
            subst ed
            simp [-Int.natCast_add]
            rw [List.drop_eq_getElem_cons hi, runs] at hrv
            refine ⟨by rw [nD_len]; omega, hk3 _ ⟨tot + r2[i], later ++ [tot + r2[i]], .val (.int (r2[i] : Nat)), ?_, rfl, by simp [hll], ?_⟩⟩
            · simp [nD]
            · rw [List.append_assoc]; exact hrv
          · rintro δ ⟨tot, later, t6, rfl, q6, hll, hrv⟩
            have e4 : r2.drop (nD r2).length = [] := by simp [nD]
            have hrv : later ++ runs tot (r2.drop (nD r2).length) = runs 0 r2 := hrv
            rw [e4, runs, List.append_nil] at hrv
            simp [-Int.natCast_add]
            refine hk _ ⟨later, .val (.lst (nD later)), .val (.int (k + 2 : Nat)), .val (.int tot), .val (.lst (nD later)), t6, s7, rfl, .inr rfl, ⟨q6, p7⟩, ?_, ?_⟩
            · rw [hrv, runs_len]; omega
            · rw [show p - (j + 1) = k by omega, hrv]; exact hv
    · rintro δ ⟨row, s2, s3, s4, s5, s6, s7, rfl, hs2, ⟨p6, p7⟩, hl, hv⟩
      have e3 : p - (rgC ((p : Int) + 1) (-1) p).length = 0 := by simp [rgC]
      rw [e3] at hv
      have hv : row = sumG p row0 := hv
      have e5 : nD (summedF p m) = (nD row).take m := by
        rw [summedF, hrow0, ← hv]; simp [nD]
      rcases hs2 with rfl | rfl
      all_goals
        simp
        rw [cut_hi, ← e5]
        exact q
  · refine ⟨rfl, ?_⟩
    simp [t_summed_powers]
    refine call_within c ?_
    rcases Bool.eq_false_or_eq_true (withinD 1 6 d) with h | h
    · have h0 : withinD 0 60 e = false := by rcases c2 with z | z; (rw [h] at z; cases z); exact z
      simp [h]
      refine call_within ce ?_
      simpa [h0] using q
    · simpa [h] using q
end Hd

set_option Elab.async false
set_option linter.all false
set_option maxRecDepth 100000
set_option maxHeartbeats 0
namespace Hd
open PySem L2 DL Sv
def phi__law_summed : FSp := fun ds Q Z => ∃ p m : Nat, ds = [.int p, .int m] ∧ (1 ≤ p ∧ p ≤ 6 ∧ m ≤ 60) ∧ Q (.lst (nD (lsummedF p m)))
theorem m__law_summed : MonoF (phi__law_summed) := ⟨fun ds Q Q' Z Z' hq hz ⟨n, m, e, c, h⟩ => ⟨n, m, e, c, hq _ h⟩⟩
theorem p__law_summed (ad : Ad) : ∀ ds Q Z, phi__law_summed ds Q Z → fnD 2 8 (t__law_summed ad) ds Q Z := by
  rintro ds Q Z ⟨p, m, rfl, ⟨h1, h2, h3⟩, q⟩
  refine ⟨rfl, ?_⟩
  simp [t__law_summed, -List.reduceReplicate]
  have hmp : (p + 1) * (m + 1) ≤ 7 * 61 := Nat.mul_le_mul (by omega) (by omega)
  have e0 : ((p : Int) + 1) * ((m : Int) + 1) = (((p + 1) * (m + 1) : Nat) : Int) := by simp
  rw [e0]
  refine ⟨.inl (.inl ⟨by omega, by omega⟩), ⟨by omega, by omega, by omega⟩, ?_⟩
  refine ⟨by omega, ?_⟩
  rw [Int.toNat_natCast, ones_nD]
  generalize hrow0 : List.replicate ((p + 1) * (m + 1)) 1 = row0
  have hl0 : row0.length ≤ 1000 := by rw [← hrow0, List.length_replicate]; omega
  simp
  refine forW_inv (fun j δ => ∃ (row : List Nat) (s2 s3 s4 s5 s6 s7 : Sl), δ = [.val (.int p), .val (.int m), s2, s3, s4, s5, s6, s7] ∧ (s2 = .own (nD row) ∨ s2 = .val (.lst (nD row))) ∧ row.length ≤ 1000 ∧ sumG (p - j) row = sumG p row0) ⟨row0, _, .un, .un, .un, .un, .un, rfl, .inl rfl, hl0, rfl⟩ ?_ ?_
  · rintro j d δ k' hd ⟨row, s2, s3, s4, s5, s6, s7, rfl, hs2, hl, hv⟩ hk
    have hj : j < p := by
      have := (List.getElem?_eq_some_iff.mp hd).1
      simpa [rgD] using this
    obtain ⟨k, hkk⟩ : ∃ k, p - j = k + 1 := ⟨p - j - 1, by omega⟩
    have ed : d = .int (k + 2 : Nat) := by
      rw [List.getElem?_reverse (by simpa [rgD] using hj)] at hd
      have : (rgD 2 p).length - 1 - j = k := by simp [rgD]; omega
      rw [this] at hd
      unfold rgD at hd
      rw [List.getElem?_map, List.getElem?_range (by omega)] at hd
      cases hd
      show D.int (2 + (k : Int)) = D.int ((k + 2 : Nat) : Int)
      congr 1; omega
    subst ed
    rw [hkk, sumG] at hv
    rcases hs2 with rfl | rfl
    all_goals
      simp [-Int.natCast_add]
      refine forW_inv (fun i δ => ∃ (tot : Nat) (later : List Nat) (t2 t6 t7 : Sl), δ = [.val (.int p), .val (.int m), t2, .val (.int (k + 2 : Nat)), .own (nD later), .val (.int tot), t6, t7] ∧ (t2 = .lent (nD row) ∨ t2 = .val (.lst (nD row))) ∧ later.length ≤ i ∧ later ++ runs tot (strk 1 (k + 2) i (row.drop i)) = runs 0 (strk 1 (k + 2) 0 row)) ⟨0, [], _, s6, s7, rfl, (by first | exact .inl rfl | exact .inr rfl), Nat.le_refl _, rfl⟩ ?_ ?_
      · rintro i d δ k3 hd ⟨tot, later, t2, t6, t7, rfl, ht2, hll, hrv⟩ hk3
        have hi : i < row.length := by
          have := (List.getElem?_eq_some_iff.mp hd).1
          rw [enum_len] at this; exact this
        have ed : d = .tup [.int (i : Nat), .int (row[i] : Nat)] := by
          have h2 : (nD row)[i]? = some (.int (row[i] : Nat)) := by
            unfold nD; rw [List.getElem?_map, List.getElem?_eq_getElem hi]; rfl
          have := enumD_get h2
          rw [this] at hd; cases hd; rfl
        subst ed
        simp [-Int.natCast_add]
        rw [List.drop_eq_getElem_cons hi, strk] at hrv
        refine brK_of (fun h => ?_) fun h => ?_
        · have h : ¬ ((i : Int) + 1) % ((k + 2 : Nat) : Int) = 0 := by have := of_decide_eq_true h; omega
          have h : ¬ (i + 1) % (k + 2) = 0 := by
            have e : ((i : Int) + 1) % ((k + 2 : Nat) : Int) = (((i + 1) % (k + 2) : Nat) : Int) := by simp
            rw [e] at h; omega
          rw [if_neg h, runs] at hrv
          simp [-Int.natCast_add]
          refine ⟨by rw [nD_len]; omega, hk3 _ ⟨tot + row[i], later ++ [tot + row[i]], t2, .val (.int i), .val (.int (row[i] : Nat)), ?_, ht2, by simp; omega, ?_⟩⟩
          · simp [nD]
          · rw [List.append_assoc]; exact hrv
        · have h : ((i : Int) + 1) % ((k + 2 : Nat) : Int) = 0 := by have := of_decide_eq_false h; have := Int.emod_nonneg ((i : Int) + 1) (b := ((k + 2 : Nat) : Int)) (by omega); omega
          have h : (i + 1) % (k + 2) = 0 := by
            have e : ((i : Int) + 1) % ((k + 2 : Nat) : Int) = (((i + 1) % (k + 2) : Nat) : Int) := by simp
            rw [e] at h; omega
          rw [if_pos h] at hrv
          simp [-Int.natCast_add]
          exact hk3 _ ⟨tot, later, t2, .val (.int i), .val (.int (row[i] : Nat)), rfl, ht2, by omega, hrv⟩
      · rintro δ ⟨tot, later, t2, t6, t7, rfl, ht2, hll, hrv⟩
        rw [enum_len] at hrv
        rw [List.drop_length, strk, runs, List.append_nil] at hrv
        have hl3 := strk_len (o := 1) (b := k + 2) (l := row) (p := 0)
        rcases ht2 with rfl | rfl
        all_goals
          simp [-Int.natCast_add]
          refine hk _ ⟨later, _, .val (.int (k + 2 : Nat)), .val (.lst (nD later)), .val (.int tot), t6, t7, rfl, .inr rfl, ?_, ?_⟩
          · rw [hrv, runs_len]; omega
          · rw [show p - (j + 1) = k by omega, hrv]; exact hv
  · rintro δ ⟨row, s2, s3, s4, s5, s6, s7, rfl, hs2, hl, hv⟩
    have e3 : p - (rgD 2 p).reverse.length = 0 := by simp [rgD]
    rw [e3] at hv
    have hv : row = sumG p row0 := hv
    have e5 : nD (lsummedF p m) = (nD row).take m := by
      rw [lsummedF, hrow0, ← hv]; simp [nD]
    rcases hs2 with rfl | rfl
    all_goals
      simp
      rw [cut_hi, ← e5]
      exact q
end Hd

set_option Elab.async false
set_option linter.all false
set_option maxRecDepth 100000
set_option maxHeartbeats 0
namespace Hd
open PySem L2 DL Sv
structure Apart (ad : Ad) : Prop where
  pl : ad.primes ≠ ad.lucky
  pd : ad.primes ≠ ad.ludic
  ps : ad.primes ≠ ad.struck_each
  ld : ad.lucky ≠ ad.ludic
  ls : ad.lucky ≠ ad.struck_each
  ds : ad.ludic ≠ ad.struck_each
theorem apart_of {P : Program} {w : World} {K : PySem.W.Frag} {mg : Str → Option Value} {ad : Ad} (fx : Fx P w K mg ad) : Apart ad := by
  obtain ⟨_, p⟩ := fx.f_primes
  obtain ⟨_, l⟩ := fx.f_lucky
  obtain ⟨_, d⟩ := fx.f_ludic
  obtain ⟨_, s⟩ := fx.f_struck_each
  exact ⟨FunD_ne p l (by decide), FunD_ne p d (by decide), FunD_ne p s (by decide), FunD_ne l d (by decide), FunD_ne l s (by decide), FunD_ne d s (by decide)⟩
def four (ad : Ad) : List (Addr × FSp) := [(ad.primes, sieveP primesF ad), (ad.lucky, sieveP luckyF ad), (ad.ludic, sieveP ludicF ad), (ad.struck_each, sieveP eachF ad)]
theorem pick_four {ad : Ad} (a : Apart ad) : pick (four ad) ad.primes = some (sieveP primesF ad) ∧ pick (four ad) ad.lucky = some (sieveP luckyF ad) ∧ pick (four ad) ad.ludic = some (sieveP ludicF ad) ∧ pick (four ad) ad.struck_each = some (sieveP eachF ad) := by
  simp [four, pick, a.pl, a.pd, a.ps, a.ld, a.ls, a.ds]
theorem sieve_ok {ad : Ad} {F : Nat → List Nat} {n : Nat} (h : n ≤ 2000) {Q : D → Prop} {Z : Ex → Prop} {t : Tg2 Q Z} (q : Q (.tup (nD (F n)))) : DL.call (sieveP F ad) [.int n] Q Z t := .inl ⟨n, rfl, h, q⟩
theorem sieve_bad {ad : Ad} {F : Nat → List Nat} {d : D} (h : okTy d) (c : withinD 0 20000 d = false) {Q : D → Prop} {Z : Ex → Prop} {t : Tg2 Q Z} (q : Z ⟨ad.BadNumber, none⟩) : DL.call (sieveP F ad) [d] Q Z t := .inr ⟨d, rfl, h, c, q⟩
theorem lawP_ok {F : Nat → List Nat} {n : Nat} (h : n ≤ 2000) {Q : D → Prop} {Z : Ex → Prop} {t : Tg2 Q Z} (q : Q (.lst (nD (F n)))) : DL.call (lawP F) [.int n] Q Z t := ⟨n, rfl, h, q⟩
theorem is_same {n : Nat} {d : D} (h : okD n d = true) (s : shrt d = true) {Q : D → Prop} {Z : Ex → Prop} {t : Tg2 Q Z} (q : Q (.bl true)) : DL.call (isP n) [d, d] Q Z t := isP_same h s q
theorem strk_short {F : Nat → List Nat} : True := trivial
theorem luckyG_len : ∀ (f : Nat) (row : List Nat) (k : Nat), (luckyG f row k).length ≤ row.length
  | 0, row, k => Nat.le_refl _
  | f + 1, row, k => by
    rw [luckyG]
    split
    · split
      · exact Nat.le_trans (luckyG_len f _ _) strk_len
      · exact Nat.le_refl _
    · exact Nat.le_refl _
theorem ludicG_len : ∀ (f : Nat) (found row : List Nat), (ludicG f found row).length ≤ found.length + row.length
  | 0, found, row => by simp [ludicG]
  | f + 1, found, [] => by simp [ludicG]
  | f + 1, found, x :: l => by
    rw [ludicG]
    have h := ludicG_len f (found ++ [x]) (strk 0 x 0 (x :: l))
    have h2 := strk_lt (b := x) (x := x) (l := l)
    simp at h h2 ⊢
    omega
theorem eachG_len : ∀ (f : Nat) (row : List Nat) (b : Nat), (eachG f row b).length ≤ row.length
  | 0, row, k => Nat.le_refl _
  | f + 1, row, k => by
    rw [eachG]
    split
    · exact Nat.le_trans (eachG_len f _ _) strk_len
    · exact Nat.le_refl _
theorem lens (n : Nat) : (primesF n).length ≤ n + 1 ∧ (luckyF n).length ≤ n + 1 ∧ (ludicF n).length ≤ n + 1 ∧ (eachF n).length ≤ n + 1 := by
  refine ⟨?_, ?_, ?_, ?_⟩
  · unfold primesF
    have := List.length_filter_le prm (from2 n)
    simp [from2] at this ⊢
    omega
  · have := luckyG_len (odds n).length (odds n) 1
    unfold luckyF
    simp [odds] at this ⊢
    omega
  · have := ludicG_len (from2 n).length (if 0 < n then [1] else []) (from2 n)
    unfold ludicF
    split at this <;> simp_all [from2] <;> omega
  · have := eachG_len n (from1 n) 2
    unfold eachF
    simp [from1] at this ⊢
    omega
theorem okD_nD (k : Nat) (l : List Nat) : okD (k + 1) (.lst (nD l)) = true := by simp [okD, okDs_nD]
theorem shrts_nD : ∀ l : List Nat, shrts (nD l) = true
  | [] => by simp [shrts, nD]
  | a :: l => by
    have := shrts_nD l
    unfold nD at this ⊢
    simp [shrts, shrt, this]
theorem shrt_nD {l : List Nat} (h : l.length ≤ 16777216) : shrt (.lst (nD l)) = true := by
  simp [shrt, shrts_nD, nD_len, h]
theorem eqD_nD (l : List Nat) : eqD (.lst (nD l)) (.lst (nD l)) = true := eqD_refl 64 _ (okD_nD 63 l)
def fUp (n : Nat) (d : D) : Option D := match d with
  | .int x => if x ≤ (n : Int) then some d else none
  | _ => none
theorem fUp_nD (n : Nat) : ∀ l : List Nat, (nD l).filterMap (fUp n) = nD (Sv.upTo n l)
  | [] => rfl
  | a :: l => by
    have ih := fUp_nD n l
    unfold nD Sv.upTo at ih ⊢
    rw [List.map_cons, List.filterMap_cons, List.filter_cons]
    by_cases h : a ≤ n
    · have h1 : (a : Int) ≤ (n : Int) := by omega
      simp only [fUp, h, h1, if_true, decide_true, List.map_cons]
      rw [ih]
    · have h1 : ¬ (a : Int) ≤ (n : Int) := by omega
      simp only [fUp, h, h1, if_false, decide_false, Bool.false_eq_true]
      exact ih
theorem sieve_turn {ad : Ad} {h f : Addr} {F : Nat → List Nat} {n l : Nat} (hn : n ≤ 400) (hl : l ≤ n) (pf : pick (four ad) f = some (sieveP F ad)) (less : F l = Sv.upTo l (F n)) (len : (F n).length ≤ n + 1) {E : DEnds} {sa du : Sl}
    (k : E.nx [.val (.ref h), .val (.int n), .val (.int l), sa, du, .val (.ref f), .val (.lst (nD (F n))), .un]) :
    b__law_are_sieves_right_1 ad (anyP h) (drawF h) (sieveP primesF ad) (sieveP luckyF ad) (sieveP ludicF ad) (sieveP eachF ad) (lawP primesF) (lawP luckyF) (lawP ludicF) (lawP eachF) (isP 2) (pick (four ad)) E [.val (.ref h), .val (.int n), .val (.int l), sa, du, .val (.ref f), .val (.lst (nD (F n))), .un] := by
  simp [b__law_are_sieves_right_1]
  rw [pf]
  simp
  refine sieve_ok (by omega) ?_
  simp
  refine ⟨by rw [nD_len]; omega, lcW_inv (fUp l) (fun d hd k2 acc q2 => ?_) ?_⟩
  · obtain ⟨x, _, rfl⟩ := List.mem_map.mp hd
    simp
    refine brK_of (fun h => ?_) fun h => ?_
    · have h : x ≤ l := by simpa using h
      simpa [fUp, h] using q2
    · have h : ¬ x ≤ l := by simpa using h
      simpa [fUp, h] using q2
  · rw [fUp_nD, List.nil_append, ← less]
    simp
    refine ⟨⟨okD_nD _ _, okD_nD _ _⟩, ?_⟩
    simp [neD, eqD_nD]
    exact k
theorem p__law_are_sieves_right (ad : Ad) (h : Addr) (ap : Apart ad) : ∀ ds Q Z, trueP h ds Q Z → fnD 1 8 (t__law_are_sieves_right ad (anyP h) (drawF h) (sieveP primesF ad) (sieveP luckyF ad) (sieveP ludicF ad) (sieveP eachF ad) (lawP primesF) (lawP luckyF) (lawP ludicF) (lawP eachF) (isP 2) (pick (four ad))) ds Q Z := by
  rintro ds Q Z ⟨rfl, q⟩
  refine ⟨rfl, ?_⟩
  simp [t__law_are_sieves_right]
  refine draw_of ⟨by decide, by decide⟩ fun a a0 a1 => ?_
  simp
  refine draw_of ⟨by decide, by decide⟩ fun b b0 b1 => ?_
  simp
  refine anyP_of (by simp) fun d hd => ?_
  obtain ⟨n, rfl, hn⟩ : ∃ n : Nat, d = .int n ∧ n ≤ 400 := by
    simp only [List.mem_cons, List.not_mem_nil, or_false] at hd
    rcases hd with rfl | rfl | rfl | rfl | rfl
    · exact ⟨0, rfl, by omega⟩
    · exact ⟨1, rfl, by omega⟩
    · exact ⟨2, rfl, by omega⟩
    · exact ⟨a.toNat, by rw [Int.toNat_of_nonneg a0], by omega⟩
    · exact ⟨b.toNat, by rw [Int.toNat_of_nonneg b0], by omega⟩
  simp [k__law_are_sieves_right_7]
  refine draw_of ⟨by omega, by omega⟩ fun r r0 r1 => ?_
  obtain ⟨l, rfl⟩ := Int.eq_ofNat_of_zero_le r0
  have hl : l ≤ n := by omega
  simp [k__law_are_sieves_right_6]
  refine sieve_ok (by omega) ?_
  simp
  refine sieve_ok (by omega) ?_
  simp
  refine sieve_ok (by omega) ?_
  simp
  refine sieve_ok (by omega) ?_
  simp [k__law_are_sieves_right_5]
  refine lawP_ok (by omega) ?_
  simp
  refine lawP_ok (by omega) ?_
  simp
  refine lawP_ok (by omega) ?_
  simp
  refine lawP_ok (by omega) ?_
  obtain ⟨l1, l2, l3, l4⟩ := lens n
  simp [k__law_are_sieves_right_4]
  refine is_same ?_ ?_ ?_
  · simp [okD, okDs, okDs_nD]
  · simp [shrt, shrts, nD_len, shrts_nD]; omega
  simp [k__law_are_sieves_right_3]
  refine ⟨_, rfl, _, rfl, _, rfl, _, rfl, ?_⟩
  obtain ⟨q1, q2, q3, q4⟩ := pick_four ap
  refine forW_inv (fun i δ => ∃ s5 s6, δ = [.val (.ref h), .val (.int n), .val (.int l), _, _, s5, s6, .un]) ⟨.un, .un, rfl⟩ ?_ ?_
  · rintro i d δ k' hd ⟨s5, s6, rfl⟩ hk
    have hd := List.mem_of_getElem? hd
    simp only [id, List.mem_cons, List.not_mem_nil, or_false] at hd
    rcases hd with rfl | rfl | rfl | rfl
    · simp
      exact sieve_turn hn hl q1 (primes_less hl) l1 (hk _ ⟨_, _, rfl⟩)
    · simp
      exact sieve_turn hn hl q2 (less_of lucky400 hn hl) l2 (hk _ ⟨_, _, rfl⟩)
    · simp
      exact sieve_turn hn hl q3 (less_of ludic400 hn hl) l3 (hk _ ⟨_, _, rfl⟩)
    · simp
      exact sieve_turn hn hl q4 (less_of each400 hn hl) l4 (hk _ ⟨_, _, rfl⟩)
  · rintro δ ⟨s5, s6, rfl⟩
    simpa [k__law_are_sieves_right_2] using q
end Hd

set_option Elab.async false
set_option linter.all false
set_option maxRecDepth 100000
set_option maxHeartbeats 0
namespace Hd
open PySem L2 DL Sv
theorem struck_ok {ad : Ad} {p : Nat} (h : 1 ≤ p ∧ p ≤ 40) {Q : D → Prop} {Z : Ex → Prop} {t : Tg2 Q Z} (q : Q (.int (struckF p))) : DL.call (phi_struck_at ad) [.int p] Q Z t := .inl ⟨p, rfl, h, q⟩
theorem struck_bad {ad : Ad} {d : D} (h : okTy d) (c : withinD 1 10000 d = false) {Q : D → Prop} {Z : Ex → Prop} {t : Tg2 Q Z} (q : Z ⟨ad.BadNumber, none⟩) : DL.call (phi_struck_at ad) [d] Q Z t := .inr ⟨d, rfl, h, c, q⟩
theorem summed_ok' {ad : Ad} {p m : Nat} (h : 1 ≤ p ∧ p ≤ 6 ∧ m ≤ 60) {Q : D → Prop} {Z : Ex → Prop} {t : Tg2 Q Z} (q : Q (.tup (nD (summedF p m)))) : DL.call (phi_summed_powers ad) [.int p, .int m] Q Z t := .inl ⟨p, m, rfl, h, q⟩
theorem summed_bad {ad : Ad} {d e : D} (h : okTy d ∧ okTy e) (c : withinD 1 6 d = false ∨ withinD 0 60 e = false) {Q : D → Prop} {Z : Ex → Prop} {t : Tg2 Q Z} (q : Z ⟨ad.BadNumber, none⟩) : DL.call (phi_summed_powers ad) [d, e] Q Z t := .inr ⟨d, e, rfl, h, c, q⟩
theorem lsummed_ok {p m : Nat} (h : 1 ≤ p ∧ p ≤ 6 ∧ m ≤ 60) {Q : D → Prop} {Z : Ex → Prop} {t : Tg2 Q Z} (q : Q (.lst (nD (lsummedF p m)))) : DL.call phi__law_summed [.int p, .int m] Q Z t := ⟨p, m, rfl, h, q⟩
theorem powD (p m : Nat) : nD ((List.range m).map fun i => (i + 1) ^ p) = (List.range m).map fun (i : Nat) => D.int (((i + 1) ^ p : Nat) : Int) := by
  unfold nD; rw [List.map_map]; rfl
theorem p__law_are_places_right (ad : Ad) (h : Addr) : ∀ ds Q Z, trueP h ds Q Z → fnD 1 9 (t__law_are_places_right ad (lawP eachF) (drawF h) (isP 2) (phi_struck_at ad) (phi_summed_powers ad) phi__law_summed) ds Q Z := by
  rintro ds Q Z ⟨rfl, q⟩
  refine ⟨rfl, ?_⟩
  simp [t__law_are_places_right]
  refine lawP_ok (n := 1400) (by omega) ?_
  have hlen := each_len
  have e0 : eachF 1400 = each1400 := rfl
  rw [e0]
  have hl : (nD each1400).length = each1400.length := nD_len _
  simp [k__law_are_places_right_11]
  have hmin : (if (each1400.length : Int) < 40 then (each1400.length : Int) else 40) = 40 := if_neg (by omega)
  rw [hl, hmin]
  refine draw_of ⟨by omega, by omega⟩ fun r r0 r1 => ?_
  obtain ⟨p, rfl⟩ := Int.eq_ofNat_of_zero_le r0
  have hp : p < 40 := by omega
  have e1 : (1 : Int) + p = ((p + 1 : Nat) : Int) := by omega
  simp
  rw [e1]
  simp [k__law_are_places_right_10, -Int.natCast_add]
  refine struck_ok (by omega) ?_
  simp [-Int.natCast_add]
  have e2 : ((p + 1 : Nat) : Int) - 1 = (p : Nat) := by omega
  rw [e2]
  refine ⟨_, atD_nD (each_struck p hp), ?_⟩
  refine is_same (by simp [okD]) (by simp [shrt]) ?_
  simp [k__law_are_places_right_9, -Int.natCast_add]
  refine draw_of ⟨by omega, by omega⟩ fun r r0 r1 => ?_
  obtain ⟨w, rfl⟩ := Int.eq_ofNat_of_zero_le r0
  have e3 : (1 : Int) + w = ((w + 1 : Nat) : Int) := by omega
  simp [-Int.natCast_add]
  refine draw_of ⟨by omega, by omega⟩ fun r r0 r1 => ?_
  obtain ⟨m, rfl⟩ := Int.eq_ofNat_of_zero_le r0
  simp
  rw [e3]
  simp [k__law_are_places_right_8, -Int.natCast_add]
  refine summed_ok' (by omega) ?_
  simp [k__law_are_places_right_7, -Int.natCast_add]
  refine lsummed_ok (by omega) ?_
  obtain ⟨s1, s2⟩ := (summed_ok (w + 1) (by omega) m (by omega)).resolve_left (by omega)
  rw [s1, s2]
  generalize hw : w + 1 = pw at *
  have hpw : pw ≤ 4 := by omega
  have hm : m ≤ 12 := by omega
  generalize hrow : (List.range m).map (fun i => (i + 1) ^ pw) = row
  have hrl : row.length = m := by rw [← hrow]; simp
  simp
  refine is_same (okD_nD _ _) (shrt_nD (by omega)) ?_
  simp [k__law_are_places_right_6]
  refine forW_inv (fun j δ => ∃ (s1 s2 s4 s6 s7 s8 : Sl), δ = [.val (.ref h), s1, s2, .val (.int pw), s4, .val (.lst (nD row)), s6, s7, s8]) ⟨_, _, _, _, _, _, rfl⟩ ?_ ?_
  · rintro j d δ k' hd ⟨s1, s2, s4, s6, s7, s8, rfl⟩ hk
    have hj : j < row.length := by
      have := (List.getElem?_eq_some_iff.mp hd).1
      rw [enum_len] at this; exact this
    have ed : d = .tup [.int (j : Nat), .int (row[j] : Nat)] := by
      have h2 : (nD row)[j]? = some (.int (row[j] : Nat)) := by
        unfold nD; rw [List.getElem?_map, List.getElem?_eq_getElem hj]; rfl
      have := enumD_get h2
      rw [this] at hd; cases hd; rfl
    have er : row[j] = (j + 1) ^ pw := by subst hrow; simp
    subst ed
    rw [er]
    simp [b__law_are_places_right_4, k__law_are_places_right_3, -Int.natCast_pow]
    refine ⟨by unfold Rg; omega, ?_⟩
    refine forW_inv (fun i δ => ∃ (s8 : Sl), δ = [.val (.ref h), s1, .val (.int j), .val (.int pw), s4, .val (.lst (nD row)), .val (.int ((j + 1) ^ pw : Nat)), .val (.int ((j + 1) ^ i : Nat)), s8]) ⟨s8, by simp⟩ ?_ ?_
    · rintro i d δ k2 hd2 ⟨s8, rfl⟩ hk2
      simp [b__law_are_places_right_1, -Int.natCast_pow]
      refine ⟨.inl (.inr ⟨by omega, by omega⟩), hk2 _ ⟨.val d, ?_⟩⟩
      have e7 : (((j + 1) ^ i : Nat) : Int) * ((j : Int) + 1) = (((j + 1) ^ (i + 1) : Nat) : Int) := by rw [Nat.pow_succ]; simp
      rw [e7]
    · rintro δ ⟨s8, rfl⟩
      have e6 : (rgD 0 pw).length = pw := by simp [rgD]
      rw [e6]
      simp [k__law_are_places_right_2, neD, -Int.natCast_pow]
      exact hk _ ⟨_, _, _, _, _, _, rfl⟩
  · rintro δ ⟨s1, s2, s4, s6, s7, s8, rfl⟩
    simpa [k__law_are_places_right_5] using q
theorem p__law_are_refused (ad : Ad) (h : Addr) (ap : Apart ad) : ∀ ds Q Z, trueP h ds Q Z → fnD 1 7 (t__law_are_refused ad (anyP h) (phi_struck_at ad) (phi_summed_powers ad) (pick (four ad))) ds Q Z := by
  rintro ds Q Z ⟨rfl, q⟩
  refine ⟨rfl, ?_⟩
  simp [t__law_are_refused]
  refine anyP_of (by simp) fun d hd => ?_
  have hd : okTy d ∧ withinD 0 20000 d = false ∧ flatD d = flatD d := by
    simp only [List.mem_cons, List.not_mem_nil, or_false] at hd
    rcases hd with rfl | rfl | rfl | rfl | rfl | rfl | rfl | rfl
    all_goals exact ⟨trivial, by decide, rfl⟩
  simp [k__law_are_refused_9]
  refine anyP_of (by simp) fun e he => ?_
  have he : okTy e ∧ withinD 1 10000 e = false := by
    simp only [List.mem_cons, List.not_mem_nil, or_false] at he
    rcases he with rfl | rfl | rfl | rfl | rfl | rfl
    all_goals exact ⟨trivial, by decide⟩
  simp [k__law_are_refused_8]
  refine anyP_of (by simp) fun f hf => ?_
  have hf : okTy f ∧ withinD 1 6 f = false := by
    simp only [List.mem_cons, List.not_mem_nil, or_false] at hf
    rcases hf with rfl | rfl | rfl | rfl | rfl
    all_goals exact ⟨trivial, by decide⟩
  simp
  refine anyP_of (by simp) fun g hg => ?_
  have hg : okTy g ∧ withinD 0 60 g = false := by
    simp only [List.mem_cons, List.not_mem_nil, or_false] at hg
    rcases hg with rfl | rfl | rfl | rfl | rfl
    all_goals exact ⟨trivial, by decide⟩
  simp [k__law_are_refused_7, k__law_are_refused_6]
  obtain ⟨q1, q2, q3, q4⟩ := pick_four ap
  have hR : R__law_heard ad ad.BadNumber = some (.str "number") := by simp [R__law_heard]
  have hF : flatD l__law_heard = true ∧ ∀ C w, R__law_heard ad C = some w → flatD w = true := ⟨rfl, fun C w e => by
    unfold R__law_heard at e
    split at e <;> cases e
    rfl⟩
  refine forW_inv (fun i δ => ∃ s6, δ = [.val (.ref h), .val d, .val e, .val f, .val g, .own (List.replicate i (.str "number")), s6]) ⟨_, rfl⟩ ?_ ?_
  · rintro i c δ k' hc ⟨s6, rfl⟩ hk
    have hi : i < 4 := (List.getElem?_eq_some_iff.mp hc).1
    have hc := List.mem_of_getElem? hc
    simp only [id, List.mem_cons, List.not_mem_nil, or_false] at hc
    rcases hc with rfl | rfl | rfl | rfl
    all_goals
      simp [b__law_are_refused_1]
      refine ⟨hF, ?_⟩
      first | rw [q1] | rw [q2] | rw [q3] | rw [q4]
      simp
      refine sieve_bad hd.1 hd.2.1 ⟨rfl, _, hR, ?_⟩
      simp
      refine ⟨by omega, ?_⟩
      rw [← List.replicate_succ']
      first
        | exact hk _ ⟨.val (.ref ad.primes), rfl⟩
        | exact hk _ ⟨.val (.ref ad.lucky), rfl⟩
        | exact hk _ ⟨.val (.ref ad.ludic), rfl⟩
        | exact hk _ ⟨.val (.ref ad.struck_each), rfl⟩
  · rintro δ ⟨s6, rfl⟩
    simp [k__law_are_refused_5]
    refine ⟨hF, struck_bad he.1 he.2 ⟨rfl, _, hR, ?_⟩⟩
    simp [k__law_are_refused_4]
    refine ⟨hF, summed_bad (e := .int 3) ⟨hf.1, trivial⟩ (.inl hf.2) ⟨rfl, _, hR, ?_⟩⟩
    simp [k__law_are_refused_3]
    refine ⟨hF, summed_bad (d := .int 2) ⟨trivial, hg.1⟩ (.inr hg.2) ⟨rfl, _, hR, ?_⟩⟩
    simp [k__law_are_refused_2]
    simp [eqC, okD, okDs, eqD, eqDs]
    exact ⟨by decide +kernel, q⟩
theorem r0 (ad : Ad) : ∀ (a : Addr) (ns : List Int), ns.length ≤ 63 → t_law0 (handP a ns) { noE with nx := fun δ => ∃ d, δ = .val (.ref a) :: .val d :: List.replicate 3 .un ∧ handD d } (.val (.ref a) :: List.replicate 4 .un) := by
  intro a ns hl
  simp [t_law0, List.replicate]
  exact ⟨rfl, hl, fun d hd => ⟨d, rfl, hd⟩⟩
theorem told : luckyF 21 = [1, 3, 7, 9, 13, 15, 21] ∧ ludicF 25 = [1, 2, 3, 5, 7, 11, 13, 17, 23, 25] ∧ eachF 19 = [1, 3, 7, 13, 19] ∧ summedF 2 4 = [1, 4, 9, 16] ∧ struckF 4 = 13 := by decide +kernel
theorem r1 (ad : Ad) : ∀ (a h : Addr), t_law ad (sieveP luckyF ad) (sieveP ludicF ad) (sieveP eachF ad) (phi_summed_powers ad) (phi_struck_at ad) (isP 2) (trueP h) (trueP h) (trueP h) { noE with rt := fun d => d = .bl true } (.val (.ref a) :: .val (.ref h) :: List.replicate 3 .un) := by
  intro a h
  obtain ⟨t1, t2, t3, t4, t5⟩ := told
  simp [t_law, List.replicate]
  refine sieve_ok (n := 21) (by omega) ?_
  simp
  refine sieve_ok (n := 25) (by omega) ?_
  simp
  refine sieve_ok (n := 19) (by omega) ?_
  simp
  refine summed_ok' (p := 2) (m := 4) (by omega) ?_
  simp
  refine struck_ok (p := 4) (by omega) ?_
  rw [t1, t2, t3, t4, t5]
  simp [nD, k_law_5]
  simp [k_law_4]
  refine is_same ?_ ?_ ?_
  · simp [okD, okDs]
  · simp [shrt, shrts]
  simp [k_law_3]
  refine ⟨by unfold Rg; omega, ?_⟩
  refine forW_inv (fun i δ => ∃ s2 s3 s4, δ = [.val (.ref a), .val (.ref h), s2, s3, s4]) ⟨_, _, _, rfl⟩ ?_ ?_
  · rintro i d δ k' hd ⟨s2, s3, s4, rfl⟩ hk
    simp [b_law_1]
    refine ⟨rfl, ?_⟩
    simp
    refine ⟨rfl, ?_⟩
    simp
    refine ⟨rfl, ?_⟩
    simp
    exact hk _ ⟨_, _, _, rfl⟩
  · rintro δ ⟨s2, s3, s4, rfl⟩
    simp [k_law_2]
end Hd

set_option Elab.async false
set_option linter.all false
set_option maxRecDepth 100000
set_option maxHeartbeats 0
namespace Hd
open PySem L2 DL
def noF : FSp := fun _ _ _ => False
theorem m_noF : MonoF noF := ⟨fun _ _ _ _ _ _ _ h => h⟩
theorem cal__law_draw {P : Program} {w : World} {K : PySem.W.Frag} {mg : Str → Option Value} {base : Heap} {ad : Ad} {h c : Addr} {hc : h ≠ c} {P0 : Addr} (fx : Fx P w K mg ad) : Cal P w K mg base (GG P0 h c hc) "_law_draw" ad._law_draw 1 (drawF h) := by
  obtain ⟨fd, F⟩ := fx.f__law_draw
  exact ⟨⟨fd, _, ok_draw F fx.g_int fx.g_len, F.bindsN fun _ _ _ _ _ _ us hl => match us, hl with | [_, _], _ => rfl⟩, fx.g__law_draw, F.kp, mono_anyF⟩
theorem cal_is0 {P : Program} {w : World} {K : PySem.W.Frag} {mg : Str → Option Value} {base : Heap} {ad : Ad} {G : Amb} (fx : Fx P w K mg ad) : Cal P w K mg base G "_law_is" ad._law_is 1 noF := by
  obtain ⟨fd, F⟩ := fx.f__law_is
  exact ⟨⟨fd, ["said", "due"], F.ok sc__law_is (fun vs H Q E q => by obtain ⟨_, _, _, _, _, _, q⟩ := q; exact q.elim) (fun cdv A outer s H vs Q E hr q => by obtain ⟨_, _, _, _, _, _, q⟩ := q; exact q.elim), F.bindsN fun _ _ _ _ _ _ us hl => match us, hl with | [_, _], _ => rfl⟩, fx.g__law_is, F.kp, m_noF⟩
theorem cal_isN {P : Program} {w : World} {K : PySem.W.Frag} {mg : Str → Option Value} {base : Heap} {ad : Ad} {G : Amb} (fx : Fx P w K mg ad) : ∀ n, n ≤ 60 → Cal P w K mg base G "_law_is" ad._law_is (n + 2) (isP n)
  | 0, hn => by
    obtain ⟨fd, F⟩ := fx.f__law_is
    exact ⟨⟨fd, _, fn_dl (k := 1) F sc__law_is (by decide) (p__law_is ad 0 hn noF fun a b Q Z ⟨k, e, _⟩ => by omega) (fun cdv A outer s H E hr => der__law_is fx (cal_is0 fx) (by decide) cdv A outer s H E hr), F.bindsN fun _ _ _ _ _ _ us hl => match us, hl with | [_, _], _ => rfl⟩, fx.g__law_is, F.kp, m_isP⟩
  | n + 1, hn => by
    obtain ⟨fd, F⟩ := fx.f__law_is
    exact ⟨⟨fd, _, fn_dl (k := n + 2) F sc__law_is (by decide) (p__law_is ad (n + 1) hn (isP n) fun a b Q Z ⟨k, e, q⟩ => by cases e; exact q) (fun cdv A outer s H E hr => der__law_is fx (cal_isN fx n (by omega)) (by omega) cdv A outer s H E hr), F.bindsN fun _ _ _ _ _ _ us hl => match us, hl with | [_, _], _ => rfl⟩, fx.g__law_is, F.kp, m_isP⟩
theorem cal__law_is {P : Program} {w : World} {K : PySem.W.Frag} {mg : Str → Option Value} {base : Heap} {ad : Ad} {G : Amb} (fx : Fx P w K mg ad) : Cal P w K mg base G "_law_is" ad._law_is 4 (isP 2) := cal_isN fx 2 (by decide)
theorem cal__law_hand {P : Program} {w : World} {K : PySem.W.Frag} {mg : Str → Option Value} {base : Heap} {ad : Ad} {G : Amb} (fx : Fx P w K mg ad) {a : Addr} {ns : List Int} (hs : ∀ H, G.inv H → SqL K H a (ns.map V.int)) : Cal P w K mg base G "_law_hand" ad._law_hand 1 (handP a ns) := by
  obtain ⟨fd, F⟩ := fx.f__law_hand
  exact ⟨⟨fd, _, fn_dl (k := 0) F sc__law_hand (by decide) (p__law_hand ad a ns) (fun cdv A outer s H E hr => der__law_hand fx hs cdv A outer s H E hr), F.bindsN fun _ _ _ _ _ _ us hl => match us, hl with | [_], _ => rfl⟩, fx.g__law_hand, F.kp, m_handP⟩
theorem cal_is_integer {P : Program} {w : World} {K : PySem.W.Frag} {mg : Str → Option Value} {base : Heap} {ad : Ad} {G : Amb} (fx : Fx P w K mg ad) : Cal P w K mg base G "is_integer" ad.is_integer 1 (phi_is_integer ad) := by
  obtain ⟨fd, F⟩ := fx.f_is_integer
  exact ⟨⟨fd, _, fn_dl (k := 0) F sc_is_integer (by decide) (p_is_integer ad) (fun cdv A outer s H E hr => der_is_integer fx cdv A outer s H E hr), F.bindsN fun _ _ _ _ _ _ us hl => match us, hl with | [_], _ => rfl⟩, fx.g_is_integer, F.kp, m_is_integer⟩
theorem cal_is_within {P : Program} {w : World} {K : PySem.W.Frag} {mg : Str → Option Value} {base : Heap} {ad : Ad} {G : Amb} (fx : Fx P w K mg ad) : Cal P w K mg base G "is_within" ad.is_within 2 (phi_is_within ad) := by
  obtain ⟨fd, F⟩ := fx.f_is_within
  exact ⟨⟨fd, _, fn_dl (k := 1) F sc_is_within (by decide) (p_is_within ad) (fun cdv A outer s H E hr => der_is_within fx (cal_is_integer fx) (by decide) cdv A outer s H E hr), F.bindsN fun _ _ _ _ _ _ us hl => match us, hl with | [_, _, _], _ => rfl⟩, fx.g_is_within, F.kp, m_is_within⟩
theorem cal_check_most {P : Program} {w : World} {K : PySem.W.Frag} {mg : Str → Option Value} {base : Heap} {ad : Ad} {G : Amb} (fx : Fx P w K mg ad) : Cal P w K mg base G "check_most" ad.check_most 3 (phi_check_most ad) := by
  obtain ⟨fd, F⟩ := fx.f_check_most
  exact ⟨⟨fd, _, fn_dl (k := 2) F sc_check_most (by decide) (p_check_most ad) (fun cdv A outer s H E hr => der_check_most fx (cal_is_within fx) (by decide) cdv A outer s H E hr), F.bindsN fun _ _ _ _ _ _ us hl => match us, hl with | [_], _ => rfl⟩, fx.g_check_most, F.kp, m_check_most⟩
theorem cal_primes {P : Program} {w : World} {K : PySem.W.Frag} {mg : Str → Option Value} {base : Heap} {ad : Ad} {G : Amb} (fx : Fx P w K mg ad) : Cal P w K mg base G "primes" ad.primes 4 (sieveP Sv.primesF ad) := by
  obtain ⟨fd, F⟩ := fx.f_primes
  exact ⟨⟨fd, _, fn_dl (k := 3) F sc_primes (by decide) (p_primes ad) (fun cdv A outer s H E hr => der_primes fx (cal_check_most fx) (by decide) cdv A outer s H E hr), F.bindsN fun _ _ _ _ _ _ us hl => match us, hl with | [_], _ => rfl⟩, fx.g_primes, F.kp, m_sieveP⟩
theorem cal_lucky {P : Program} {w : World} {K : PySem.W.Frag} {mg : Str → Option Value} {base : Heap} {ad : Ad} {G : Amb} (fx : Fx P w K mg ad) : Cal P w K mg base G "lucky" ad.lucky 4 (sieveP Sv.luckyF ad) := by
  obtain ⟨fd, F⟩ := fx.f_lucky
  exact ⟨⟨fd, _, fn_dl (k := 3) F sc_lucky (by decide) (p_lucky ad) (fun cdv A outer s H E hr => der_lucky fx (cal_check_most fx) (by decide) cdv A outer s H E hr), F.bindsN fun _ _ _ _ _ _ us hl => match us, hl with | [_], _ => rfl⟩, fx.g_lucky, F.kp, m_sieveP⟩
theorem cal_ludic {P : Program} {w : World} {K : PySem.W.Frag} {mg : Str → Option Value} {base : Heap} {ad : Ad} {G : Amb} (fx : Fx P w K mg ad) : Cal P w K mg base G "ludic" ad.ludic 4 (sieveP Sv.ludicF ad) := by
  obtain ⟨fd, F⟩ := fx.f_ludic
  exact ⟨⟨fd, _, fn_dl (k := 3) F sc_ludic (by decide) (p_ludic ad) (fun cdv A outer s H E hr => der_ludic fx (cal_check_most fx) (by decide) cdv A outer s H E hr), F.bindsN fun _ _ _ _ _ _ us hl => match us, hl with | [_], _ => rfl⟩, fx.g_ludic, F.kp, m_sieveP⟩
theorem cal_struck_each {P : Program} {w : World} {K : PySem.W.Frag} {mg : Str → Option Value} {base : Heap} {ad : Ad} {G : Amb} (fx : Fx P w K mg ad) : Cal P w K mg base G "struck_each" ad.struck_each 4 (sieveP Sv.eachF ad) := by
  obtain ⟨fd, F⟩ := fx.f_struck_each
  exact ⟨⟨fd, _, fn_dl (k := 3) F sc_struck_each (by decide) (p_struck_each ad) (fun cdv A outer s H E hr => der_struck_each fx (cal_check_most fx) (by decide) cdv A outer s H E hr), F.bindsN fun _ _ _ _ _ _ us hl => match us, hl with | [_], _ => rfl⟩, fx.g_struck_each, F.kp, m_sieveP⟩
theorem cal_struck_at {P : Program} {w : World} {K : PySem.W.Frag} {mg : Str → Option Value} {base : Heap} {ad : Ad} {G : Amb} (fx : Fx P w K mg ad) : Cal P w K mg base G "struck_at" ad.struck_at 3 (phi_struck_at ad) := by
  obtain ⟨fd, F⟩ := fx.f_struck_at
  exact ⟨⟨fd, _, fn_dl (k := 2) F sc_struck_at (by decide) (p_struck_at ad) (fun cdv A outer s H E hr => der_struck_at fx (cal_is_within fx) (by decide) cdv A outer s H E hr), F.bindsN fun _ _ _ _ _ _ us hl => match us, hl with | [_], _ => rfl⟩, fx.g_struck_at, F.kp, m_struck_at⟩
theorem cal_summed_powers {P : Program} {w : World} {K : PySem.W.Frag} {mg : Str → Option Value} {base : Heap} {ad : Ad} {G : Amb} (fx : Fx P w K mg ad) : Cal P w K mg base G "summed_powers" ad.summed_powers 3 (phi_summed_powers ad) := by
  obtain ⟨fd, F⟩ := fx.f_summed_powers
  exact ⟨⟨fd, _, fn_dl (k := 2) F sc_summed_powers (by decide) (p_summed_powers ad) (fun cdv A outer s H E hr => der_summed_powers fx (cal_is_within fx) (by decide) cdv A outer s H E hr), F.bindsN fun _ _ _ _ _ _ us hl => match us, hl with | [_, _], _ => rfl⟩, fx.g_summed_powers, F.kp, m_summed_powers⟩
theorem cal__law_any {P : Program} {w : World} {K : PySem.W.Frag} {mg : Str → Option Value} {base : Heap} {ad : Ad} {h c : Addr} {hc : h ≠ c} {P0 : Addr} (fx : Fx P w K mg ad) : Cal P w K mg base (GG P0 h c hc) "_law_any" ad._law_any 2 (anyP h) := by
  obtain ⟨fd, F⟩ := fx.f__law_any
  exact ⟨⟨fd, _, fn_dl (k := 1) F sc__law_any (by decide) (p__law_any ad h) (fun cdv A outer s H E hr => der__law_any fx (cal__law_draw fx) (by decide) cdv A outer s H E hr), F.bindsN fun _ _ _ _ _ _ us hl => match us, hl with | [_, _], _ => rfl⟩, fx.g__law_any, F.kp, m_anyP⟩
theorem cal__law_primes {P : Program} {w : World} {K : PySem.W.Frag} {mg : Str → Option Value} {base : Heap} {ad : Ad} {G : Amb} (fx : Fx P w K mg ad) : Cal P w K mg base G "_law_primes" ad._law_primes 1 (lawP Sv.primesF) := by
  obtain ⟨fd, F⟩ := fx.f__law_primes
  exact ⟨⟨fd, _, fn_dl (k := 0) F sc__law_primes (by decide) (p__law_primes ad) (fun cdv A outer s H E hr => der__law_primes fx cdv A outer s H E hr), F.bindsN fun _ _ _ _ _ _ us hl => match us, hl with | [_], _ => rfl⟩, fx.g__law_primes, F.kp, m_lawP⟩
theorem cal__law_lucky {P : Program} {w : World} {K : PySem.W.Frag} {mg : Str → Option Value} {base : Heap} {ad : Ad} {G : Amb} (fx : Fx P w K mg ad) : Cal P w K mg base G "_law_lucky" ad._law_lucky 1 (lawP Sv.luckyF) := by
  obtain ⟨fd, F⟩ := fx.f__law_lucky
  exact ⟨⟨fd, _, fn_dl (k := 0) F sc__law_lucky (by decide) (p__law_lucky ad) (fun cdv A outer s H E hr => der__law_lucky fx cdv A outer s H E hr), F.bindsN fun _ _ _ _ _ _ us hl => match us, hl with | [_], _ => rfl⟩, fx.g__law_lucky, F.kp, m_lawP⟩
theorem cal__law_ludic {P : Program} {w : World} {K : PySem.W.Frag} {mg : Str → Option Value} {base : Heap} {ad : Ad} {G : Amb} (fx : Fx P w K mg ad) : Cal P w K mg base G "_law_ludic" ad._law_ludic 1 (lawP Sv.ludicF) := by
  obtain ⟨fd, F⟩ := fx.f__law_ludic
  exact ⟨⟨fd, _, fn_dl (k := 0) F sc__law_ludic (by decide) (p__law_ludic ad) (fun cdv A outer s H E hr => der__law_ludic fx cdv A outer s H E hr), F.bindsN fun _ _ _ _ _ _ us hl => match us, hl with | [_], _ => rfl⟩, fx.g__law_ludic, F.kp, m_lawP⟩
theorem cal__law_each {P : Program} {w : World} {K : PySem.W.Frag} {mg : Str → Option Value} {base : Heap} {ad : Ad} {G : Amb} (fx : Fx P w K mg ad) : Cal P w K mg base G "_law_each" ad._law_each 1 (lawP Sv.eachF) := by
  obtain ⟨fd, F⟩ := fx.f__law_each
  exact ⟨⟨fd, _, fn_dl (k := 0) F sc__law_each (by decide) (p__law_each ad) (fun cdv A outer s H E hr => der__law_each fx cdv A outer s H E hr), F.bindsN fun _ _ _ _ _ _ us hl => match us, hl with | [_], _ => rfl⟩, fx.g__law_each, F.kp, m_lawP⟩
theorem cal__law_summed {P : Program} {w : World} {K : PySem.W.Frag} {mg : Str → Option Value} {base : Heap} {ad : Ad} {G : Amb} (fx : Fx P w K mg ad) : Cal P w K mg base G "_law_summed" ad._law_summed 1 (phi__law_summed) := by
  obtain ⟨fd, F⟩ := fx.f__law_summed
  exact ⟨⟨fd, _, fn_dl (k := 0) F sc__law_summed (by decide) (p__law_summed ad) (fun cdv A outer s H E hr => der__law_summed fx cdv A outer s H E hr), F.bindsN fun _ _ _ _ _ _ us hl => match us, hl with | [_, _], _ => rfl⟩, fx.g__law_summed, F.kp, m__law_summed⟩
theorem cal__law_are_sieves_right {P : Program} {w : World} {K : PySem.W.Frag} {mg : Str → Option Value} {base : Heap} {ad : Ad} {h c : Addr} {hc : h ≠ c} {P0 : Addr} (fx : Fx P w K mg ad) : Cal P w K mg base (GG P0 h c hc) "_law_are_sieves_right" ad._law_are_sieves_right 5 (trueP h) := by
  obtain ⟨fd, F⟩ := fx.f__law_are_sieves_right
  exact ⟨⟨fd, _, fn_dl (k := 4) F sc__law_are_sieves_right (by decide) (p__law_are_sieves_right ad h (apart_of fx)) (fun cdv A outer s H E hr => der__law_are_sieves_right fx (cal__law_any fx) (by decide) (cal__law_draw fx) (by decide) (cal_primes fx) (by decide) (cal_lucky fx) (by decide) (cal_ludic fx) (by decide) (cal_struck_each fx) (by decide) (cal__law_primes fx) (by decide) (cal__law_lucky fx) (by decide) (cal__law_ludic fx) (by decide) (cal__law_each fx) (by decide) (cal__law_is fx) (by decide) (fun X e1 e2 e3 e4 e5 hr => held_pick (by
      intro p hp
      simp only [four, List.mem_cons, List.not_mem_nil, or_false] at hp
      rcases hp with rfl | rfl | rfl | rfl
      · exact (cal_primes fx).held (by decide) e1 e2 e3 e4 e5 hr
      · exact (cal_lucky fx).held (by decide) e1 e2 e3 e4 e5 hr
      · exact (cal_ludic fx).held (by decide) e1 e2 e3 e4 e5 hr
      · exact (cal_struck_each fx).held (by decide) e1 e2 e3 e4 e5 hr)) cdv A outer s H E hr), F.bindsN fun _ _ _ _ _ _ us hl => match us, hl with | [_], _ => rfl⟩, fx.g__law_are_sieves_right, F.kp, m_trueP⟩
theorem cal__law_are_places_right {P : Program} {w : World} {K : PySem.W.Frag} {mg : Str → Option Value} {base : Heap} {ad : Ad} {h c : Addr} {hc : h ≠ c} {P0 : Addr} (fx : Fx P w K mg ad) : Cal P w K mg base (GG P0 h c hc) "_law_are_places_right" ad._law_are_places_right 5 (trueP h) := by
  obtain ⟨fd, F⟩ := fx.f__law_are_places_right
  exact ⟨⟨fd, _, fn_dl (k := 4) F sc__law_are_places_right (by decide) (p__law_are_places_right ad h) (fun cdv A outer s H E hr => der__law_are_places_right fx (cal__law_each fx) (by decide) (cal__law_draw fx) (by decide) (cal__law_is fx) (by decide) (cal_struck_at fx) (by decide) (cal_summed_powers fx) (by decide) (cal__law_summed fx) (by decide) cdv A outer s H E hr), F.bindsN fun _ _ _ _ _ _ us hl => match us, hl with | [_], _ => rfl⟩, fx.g__law_are_places_right, F.kp, m_trueP⟩
theorem cal__law_are_refused {P : Program} {w : World} {K : PySem.W.Frag} {mg : Str → Option Value} {base : Heap}  {h c : Addr} {hc : h ≠ c} {P0 : Addr} (fx : Fx P w K mg (adK K)) (TB : LamX.TabB base mg (He.codeOf K ("_law_are_refused", none)) P0) : Cal P w K mg base (GG P0 h c hc) "_law_are_refused" (adK K)._law_are_refused 8 (trueP h) := by
  obtain ⟨fd, F⟩ := fx.f__law_are_refused
  obtain ⟨oc, od, dV, kV, doc, pm, an, ct, osl, rfl, lk, hcd⟩ := FunD.code (p := ("_law_are_refused", none)) F
  exact ⟨⟨_, _, fn_dlC (k := 7) lk hcd sc__law_are_refused (by decide) (p__law_are_refused (adK K) h (apart_of fx)) (fun A outer s H E hr => der__law_are_refused TB fx (cal__law_any fx) (by decide) (cal_struck_at fx) (by decide) (cal_summed_powers fx) (by decide) (fun X e1 e2 e3 e4 e5 hr => held_pick (by
      intro p hp
      simp only [four, List.mem_cons, List.not_mem_nil, or_false] at hp
      rcases hp with rfl | rfl | rfl | rfl
      · exact (cal_primes fx).held (by decide) e1 e2 e3 e4 e5 hr
      · exact (cal_lucky fx).held (by decide) e1 e2 e3 e4 e5 hr
      · exact (cal_ludic fx).held (by decide) e1 e2 e3 e4 e5 hr
      · exact (cal_struck_each fx).held (by decide) e1 e2 e3 e4 e5 hr)) A outer s H E hr), F.bindsN fun _ _ _ _ _ _ us hl => match us, hl with | [_], _ => rfl⟩, fx.g__law_are_refused, F.kp, m_trueP⟩
def Tt (K : PySem.W.Frag) : List (Addr × PySem.Str) := TT (He.cT K ("_law_are_refused", none)).2
theorem law_ok {P : Program} {w : World} {K : PySem.W.Frag} {mg : PySem.Str → Option Value} {base : Heap} {fd : FuncData} (fx : Fx P w K mg (adK K)) (hx : ex K = true) (tb : ∀ p ∈ tf.map (He.cT K), LamX.TabB base mg p.1 p.2) (F : FunD K "law" "law" (defArgs s_law) (defBody s_law) (defScope s_law) [] [] (He.ga K "law") fd) :
    FnOk P w K mg base (L2N.CX P w) 12 (He.ga K "law") fd ["script"] (lawSp K (Tt K)) := by
  obtain ⟨oc, od, dV, kV, doc, pm, an, ct, osl, rfl, lk, hcd⟩ := FunD.code (p := ("law", none)) F
  have TB0 : LamX.TabB base mg (He.codeOf K ("_law_are_refused", none)) (He.cT K ("_law_are_refused", none)).2 := tb _ (List.mem_map.mpr ⟨_, List.mem_cons_self .., rfl⟩)
  exact ok_law (k := 8) fx lk hcd (c_h := fun G a ns hs => cal__law_hand fx hs) (l_h := by decide) (r0 := r0 (adK K))
    (C_lucky := fun h c hc => cal_lucky fx) (l_lucky := by decide)
    (C_ludic := fun h c hc => cal_ludic fx) (l_ludic := by decide)
    (C_struck_each := fun h c hc => cal_struck_each fx) (l_struck_each := by decide)
    (C_summed_powers := fun h c hc => cal_summed_powers fx) (l_summed_powers := by decide)
    (C_struck_at := fun h c hc => cal_struck_at fx) (l_struck_at := by decide)
    (C__law_is := fun h c hc => cal__law_is fx) (l__law_is := by decide)
    (C__law_are_sieves_right := fun h c hc => cal__law_are_sieves_right fx) (l__law_are_sieves_right := by decide)
    (C__law_are_places_right := fun h c hc => cal__law_are_places_right fx) (l__law_are_places_right := by decide)
    (C__law_are_refused := fun h c hc => cal__law_are_refused fx TB0) (l__law_are_refused := by decide)
    (r1 := r1 (adK K))
end Hd
open PySem PySem.W PySem.Calls PyProof.Rows
theorem PySem.Challenge.cw_nextterms_k76_whole_sieves_holds : PySem.Challenge.rw_nextterms_k76_whole_sieves.Holds := by
  w_on; o_law
  refine HandSHeadRun.head_any (r := OpenLaw.row PySem.Challenge.rw_nextterms_k76_whole_sieves) (q := view (OpenLaw.row PySem.Challenge.rw_nextterms_k76_whole_sieves).prog [29]) (H := Hd.hk) (ob := Hd.ob) (M := 4000) (loose := Hd.names) (d := HandSHeadRun.topDef (OpenLaw.row PySem.Challenge.rw_nextterms_k76_whole_sieves).prog 29) (kwd := []) Hd.ob_eq
    (by kernel_rfl) (fun s => by kernel_rfl) Hd.run (by kernel_rfl) (by kernel_rfl) (by kernel_rfl) (by rfl) (by first | assumption | decide +kernel) (by decide +kernel) ⟨rfl, rfl, rfl, rfl, rfl, by decide +kernel⟩ ?hw ?hc
  case hw => w_witness2
  case hc =>
    refine LamX.walk_ofTsE (l := PySem.Challenge.rw_nextterms_k76_whole_sieves) (n := 63) (k := 12) (x := "script") (CX := fun w => L2N.CX PySem.Challenge.rw_nextterms_k76_whole_sieves.prog w) rfl (by decide) (by kernel_rfl) ⟨rfl, by decide, by decide⟩ ?F ?hCX
    case F =>
      intro w mg fa h Y G hmg0
      obtain ⟨K, KX, c⟩ := Y
      have hmg : mg ("law" : PySem.Str) = some (.ref fa) := by
        have e : (HandSHeadRun.topDef (OpenLaw.row PySem.Challenge.rw_nextterms_k76_whole_sieves).prog 29).name = ("law" : PySem.Str) := by kernel_rfl
        rw [← e]
        exact hmg0
      have e := hmg.symm.trans (He.glo_ok KX G (x := "law") (c.t.d.fact 22 (f := .glo "law") rfl))
      cases e
      obtain ⟨fd, F⟩ := c.t.d.def_ 22 (d := Hd.d_law) rfl
      have b := L2.FunD.bindsA (ps := ["script"]) F fun _ _ _ _ _ _ us hl => match us, hl with | [_], _ => rfl
      refine ⟨K, KX, fd, Hd.tf.map (He.cT K), DL.lawSp K (Hd.Tt K), fun p hp => ?_, fun p hp => ?_, fun p hp => ?_, fun s u => b s [u] rfl, fun H a ns hl _ ht hS => ⟨a, ns, rfl, hl, fun p hp => ?_, hS, fun _ => rfl⟩, fun base KB GB tb => Hd.law_ok (Hd.fx_of KB GB c) c.more tb F⟩
      · obtain ⟨q, hq, rfl⟩ := List.mem_map.mp hp
        exact c.empty q hq
      · obtain ⟨q, hq, rfl⟩ := List.mem_map.mp hp
        exact c.out q hq
      · obtain ⟨q, hq, rfl⟩ := List.mem_map.mp hp
        exact PySem.W.codeHd_of_K KX (c.hd q hq)
      · simp only [Hd.Tt, Hd.TT, List.mem_cons, List.not_mem_nil, or_false] at hp
        obtain rfl := hp
        exact LamX.TabS.nil (ht _ (List.mem_map.mpr ⟨("_law_are_refused", none), by simp [Hd.tf], rfl⟩))
    case hCX =>
      rintro w H s e s' hx
      obtain ⟨_, _, _, _, _, _, _, _, _, _, _, _, z⟩ := hx
      exact z

