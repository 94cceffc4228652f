import PyProof.Rows.All
import Wide.All
import OpenK.AllK
import Wide.FinOn
import HandS.ForMost
import HandS.ForExc
import HandS.Style
import HandS.Walk
import HandS.IsInst
import HandS.ExcIs
import HandS.Lambda
import HandS.EndTab
import HandS.Flow
import HandS.TupMul
import HandS.TupAny
import HandS.Steps
import PySem.Challenge.RW_firstreads_k05_whole_readings_judged_and
set_option Elab.async false
set_option linter.all false
set_option maxRecDepth 100000
set_option maxHeartbeats 4000000
/-! FRA: short words for calls, operators; exceptions without arguments; repr. -/
namespace FR
open PySem PySem.Spec PyProof.Rows L2

/-! ### a def that can be called, by its name -/
structure Has (P : Program) (w : World) (K : PySem.W.Frag) (mg : Str → Option Value) (base : Heap) (CX : CXT) (x : Str) (k : Nat) (ps : List Str) (sp : Sp) : Prop where
  ex : ∃ f fd, mg x = some (.ref f) ∧ PySem.W.keepIn K (.ref f) = true ∧ Binds K fd ps [] ∧ FnOk P w K mg base CX k f fd ps sp
theorem Has.imp {P : Program} {w : World} {K : PySem.W.Frag} {mg : Str → Option Value} {base : Heap} {CX : CXT} {x : Str} {k : Nat} {ps : List Str} {sp sp' : Sp} (h : Has P w K mg base CX x k ps sp)
    (i : ∀ vs H Q E, sp' vs H Q E → sp vs H Q E) : Has P w K mg base CX x k ps sp' := by
  obtain ⟨f, fd, a, b, c, d⟩ := h.ex
  exact ⟨f, fd, a, b, c, d.imp i⟩
section
variable {X : Cx} {CX : CXT} {k : Nat} {ps : List Str} {sp : Sp} {x : Str} {p pos : Pos} {e : Expr} {es : List Expr} {t : TA}
theorem pc {E : XK} (h : Has X.prog X.w X.K X.mg X.base CX x k ps sp) (hr : Room k X.A) (hg : Gl X x) (hx : Passes CX X E) (ha : PA X (e :: es) t)
    (hdb : (x == ("__debug__" : Str)) = false := by decide) (he : starEach (e :: es) X.env = (false, eval e X.env) :: starEach es X.env := by rfl) (hpl : (backTo pos (starEach es X.env)).any (·.1) = false := by rfl) :
    PE X (.Call (.Name x p) (e :: es) [] pos) (tCall sp [] E t) := by
  obtain ⟨f, fd, a, b, c, d⟩ := h.ex
  exact pe_call d hr hg a b c .nil hx ha hdb he hpl
theorem pc0 {E : XK} (h : Has X.prog X.w X.K X.mg X.base CX x k ps sp) (hr : Room k X.A) (hg : Gl X x) (hx : Passes CX X E)
    (hdb : (x == ("__debug__" : Str)) = false := by decide) : PE X (.Call (.Name x p) [] [] pos) (tCall sp [] E tNil) := by
  obtain ⟨f, fd, a, b, c, d⟩ := h.ex
  exact pe_call0 d hr hg a b c .nil hx hdb
/-- within a try -/
theorem pcS {E : L2.St → XK} (h : Has X.prog X.w X.K X.mg X.base CX x k ps sp) (hr : Room k X.A) (hg : Gl X x) (hx : ∀ σ, PassesAt CX X σ (E σ)) (ha : PA X (e :: es) t)
    (hdb : (x == ("__debug__" : Str)) = false := by decide) (he : starEach (e :: es) X.env = (false, eval e X.env) :: starEach es X.env := by rfl) (hpl : (backTo pos (starEach es X.env)).any (·.1) = false := by rfl) :
    PE X (.Call (.Name x p) (e :: es) [] pos) (tCallS sp E t) := by
  obtain ⟨f, fd, a, b, c, d⟩ := h.ex
  exact pe_callS d hr hg a b c hx ha hdb he hpl
end

/-! ### operators by name -/
abbrev rAddI : R2 := rI0 fun i j => .int (i + j)
abbrev rSubI : R2 := rI0 fun i j => .int (i - j)
abbrev rMulI : R2 := rI CMul fun i j => .int (i * j)
abbrev rFdivI : R2 := rI CDiv fun i j => .int (i / j)
abbrev rModI : R2 := rI (fun _ j => 0 < j) fun i j => .int (i % j)
abbrev rPowI : R2 := rI CPow fun i j => .int (i ^ j.toNat)
abbrev rLtI : R2 := rI0 fun i j => .bl (decide (i < j))
abbrev rLeI : R2 := rI0 fun i j => .bl (decide (i ≤ j))
abbrev rGtI : R2 := rI0 fun i j => .bl (decide (j < i))
abbrev rGeI : R2 := rI0 fun i j => .bl (decide (j ≤ i))
abbrev rNegI : V → Hp → VK → Prop := rU fun i => .int (-i)
abbrev rAddStr : R2 := fun x y H Q => ∃ i j, x = .str i ∧ y = .str j ∧ i.length + j.length ≤ sizeLine ∧ Q (.str (i ++ j)) H
abbrev rInStr : R2 := fun x y H Q => ∃ i j, x = .str i ∧ y = .str j ∧ Q (.bl (!(Builtin.Str.occurrences j i 0 j.length 1).isEmpty)) H
abbrev rNotInStr : R2 := fun x y H Q => ∃ i j, x = .str i ∧ y = .str j ∧ Q (.bl (!(!(Builtin.Str.occurrences j i 0 j.length 1).isEmpty))) H
abbrev rIsNon : R2 := fun x y H Q => y = .non ∧ Q (.bl (decide (x = .non))) H
abbrev rNotNon : R2 := fun x y H Q => y = .non ∧ Q (.bl (!decide (x = .non))) H
abbrev rLenV (K : PySem.W.Frag) : List V → Hp → VK → Prop := fun xs H Q => ∃ x n, xs = [x] ∧ LenV K x H n ∧ Q (.int n) H
abbrev rInt1 : List V → Hp → VK → Prop := fun xs H Q => (∃ i, xs = [.int i] ∧ Q (.int i) H) ∨ ∃ k, xs = [.bl k] ∧ Q (.int (if k then 1 else 0)) H
abbrev rAbs1 : List V → Hp → VK → Prop := fun xs H Q => ∃ i, xs = [.int i] ∧ Q (.int (if i < 0 then -i else i)) H
abbrev rTupOf (K : PySem.W.Frag) : List V → Hp → VK → Prop := fun xs H Q => ∃ p ys, xs = [.ref p] ∧ ((SqL K H p ys ∧ ∀ l, H l = none → Q (.ref l) (upd H l (.tup ys))) ∨ (SqT K H p ys ∧ Q (.ref p) H))
abbrev rLstOf (K : PySem.W.Frag) : List V → Hp → VK → Prop := fun xs H Q => ∃ p ys, xs = [.ref p] ∧ (SqL K H p ys ∨ SqT K H p ys) ∧ ∀ l, H l = none → Q (.ref l) (upd H l (.lst ys))
abbrev rJoin (K : PySem.W.Frag) : V → List V → Hp → VK → Prop := fun x xs H Q => ∃ a p, ∃ ys : List Str, x = .str a ∧ xs = [.ref p] ∧ (SqL K H p (ys.map V.str) ∨ SqT K H p (ys.map V.str)) ∧
    (ys.map (·.length)).sum + ys.length * a.length ≤ 16777216 ∧ Q (.str (Txt.join a ys)) H

/-! ### X(), an exception of an own class without arguments -/
section
variable {X : Cx} {C : Addr} {bmB : List Value} {B newId initId : String}
theorem pmk_own0 {x : Str} {p pos : Pos} (F : ExcBaseFacts B newId initId bmB) (q : PySem.W.excIn X.K C bmB newId = true) (gC : X.mg x = some (.ref C)) (kC : PySem.W.keepIn X.K (.ref C) = true) (r : Raises X (.ref C)) (hg : Gl X x)
    (hdb : (x == ("__debug__" : Str)) = false := by decide) : PMk X (.Call (.Name x p) [] [] pos) (fun _ H Q => Q (.ref C) none H) := by
  intro pins s σ H Q I h
  refine wpAny_Call_Name_kw (ld_glob I hg gC ?_ hdb)
  refine PySem.W.callWith_K0 I.kIn kC ?_
  obtain ⟨bm, N, nm, qn, bs, hdct, sn, sub, ab, col, dd, k0, k1, k2, k3, k5, mN, hC, hN, hni, T⟩ := exc_obj I.kIn q
  refine wpAny_call_exc_subT F T hC hN hni (fun h' e hm => ?_) (by show 0 ≤ sizeLine; exact Nat.zero_le _)
  exact mk_of I hm r h (I.hok.gone hm.new)
end
end FR

set_option Elab.async false
set_option linter.all false
set_option maxRecDepth 100000
set_option maxHeartbeats 4000000
/-! FRB: defs that lean on the guards being known (repr of tuples and lists); repr of data. -/
namespace FR
open PySem PySem.Spec PyProof.Rows L2
/-- as FnOk, where no repr is under way -/
structure FnG (P : Program) (w : World) (K : PySem.W.Frag) (mg : Str → Option Value) (base : Heap) (CX : CXT) (k : Nat) (f : Addr) (fd : FuncData) (ps : List Str) (sp : Sp) : Prop where
  len : ∀ vs H Q E, sp vs H Q E → vs.length = ps.length
  run : ∀ (A : Around) (outer : List Env) (s : Shared) (H : Hp) (args : Args) (us : List Value) (vs : List V) (Q : VK) (E : XK), A.guards = some [] → Room k A →
    Env0 P w K mg base A outer s H → BindsTo s fd args (ps.zip us) → Vals vs us → sp vs H Q E → codeAny (model P w) A (.call (.ref f) args) (CR CX outer P w H s Q E) s
theorem FnG.of {P : Program} {w : World} {K : PySem.W.Frag} {mg : Str → Option Value} {base : Heap} {CX : CXT} {k : Nat} {f : Addr} {fd : FuncData} {ps : List Str} {sp : Sp}
    (F : FnOk P w K mg base CX k f fd ps sp) : FnG P w K mg base CX k f fd ps sp := ⟨F.len, fun A outer s H args us vs Q E _ => F.run A outer s H args us vs Q E⟩
structure HasG (P : Program) (w : World) (K : PySem.W.Frag) (mg : Str → Option Value) (base : Heap) (CX : CXT) (x : Str) (k : Nat) (ps : List Str) (sp : Sp) : Prop where
  ex : ∃ f fd, mg x = some (.ref f) ∧ PySem.W.keepIn K (.ref f) = true ∧ Binds K fd ps [] ∧ FnG P w K mg base CX k f fd ps sp
section
variable {X : Cx} {CX : CXT} {k : Nat} {ps : List Str} {sp : Sp} {x : Str} {p pos : Pos} {e : Expr} {es : List Expr} {t : TA}
theorem runG {f : Addr} {fd : FuncData} {E : XK} {pins : List (Addr × Obj)} {σ : L2.St} {H : Hp} {s : Shared} {Q : VK} {us : List Value} {vs : List V} (F : FnG X.prog X.w X.K X.mg X.base CX k f fd ps sp) (hgd : X.A.guards = some []) (hr : Room k X.A)
    (hb : Binds X.K fd ps []) (hx : Passes CX X E) (I : Inv X pins σ H s) (r : Vals vs us) (h : sp vs H Q E) : wpAny (model X.prog X.w) X.A (call (.ref f) us) (EP X pins σ Q) X.xe s := by
  have hl : (us ++ []).length = ps.length := by
    rw [List.append_nil, ← r.length]
    exact F.len _ _ _ _ h
  have hbt := hb s us I.kIn hl
  rw [List.append_nil] at hbt
  refine wpAny_call (codeAny_mono (F.run X.A X.stack s H ⟨us, []⟩ us vs Q E hgd hr I.env0 hbt r h) fun res s' hq => ?_)
  match res, hq with
  | .error err, hq => exact hx pins σ H s err s' I hq
  | .ok (.ret u), hq => exact I.after hq
  | .ok .next, hq => exact hq.elim
  | .ok .brk, hq => exact hq.elim
  | .ok .cont, hq => exact hq.elim
theorem pcG {E : XK} (h : HasG X.prog X.w X.K X.mg X.base CX x k ps sp) (hgd : X.A.guards = some []) (hr : Room k X.A) (hg : Gl X x) (hx : Passes CX X E) (ha : PA X (e :: es) t)
    (hdb : (x == ("__debug__" : Str)) = false := by decide) (he : starEach (e :: es) X.env = (false, eval e X.env) :: starEach es X.env := by rfl) (hpl : (backTo pos (starEach es X.env)).any (·.1) = false := by rfl) :
    PE X (.Call (.Name x p) (e :: es) [] pos) (tCall sp [] E t) := by
  obtain ⟨f, fd, hm, hk, hb, F⟩ := h.ex
  refine ⟨fun pins s σ H Q I hw => wpAny_Call_Name_kw (ld_glob I hg hm ?_ hdb)⟩
  refine PySem.W.callWith_K (h₀ := X.base) I.ok.mod.kin hk (thn (ha.run pos pins s σ H _ I hw) fun us s1 hh => ?_) he hpl
  obtain ⟨vs, H1, I1, r, q⟩ := hh
  rw [List.append_nil] at q
  exact ⟨I1.kIn, runG F hgd hr hb hx I1 r q⟩
end
/-- a def's body keeps its promise -/
theorem fnG_of {CX : CXT} {P : Program} {w : World} {K : PySem.W.Frag} {mg : Str → Option Value} {base : Heap} {k : Nat} {f : Addr} {name qual : Str} {params : Arguments} {body : List Stmt} {scope : Scope} {dV kV doc pm cdv ct oc : Value} {an od : Option Addr}
    {osl : Array (Option Value)} {N ps : List Str} {sp : Sp} (lk : K.lookup f = some ⟨oc, od, .func (PySem.W.fnOf name qual params body scope dV kV doc pm an cdv ct), osl⟩) (hcd : PySem.W.codeIn K cdv qual = true) (S : FnScope N ps scope)
    (len : ∀ vs H Q E, sp vs H Q E → vs.length = ps.length)
    (hbody : ∀ (A : Around) (outer : List Env) (s : Shared) (H : Hp) (vs : List V) (Q : VK) (E : XK), A.guards = some [] → Room k (A.deeper (envOfC qual scope s.heap.objs.size f cdv)) → sp vs H Q E →
      ∃ t, PSs (cxOf CX P w K mg base N qual scope f cdv A outer s H E) body t ∧ t { nx := fun _ H' => Q .non H', rt := Q } (L2.start N vs) H) :
    FnG P w K mg base CX (k + 1) f (PySem.W.fnOf name qual params body scope dV kV doc pm an cdv ct) ps sp := by
  refine ⟨len, fun A outer s H args us vs Q E hgd hr e0 hb r hsp => ?_⟩
  exact LamX.run_ofS lk hcd S hr e0 hb r (len _ _ _ _ hsp) fun hr' => hbody A outer s H vs Q E hgd hr' hsp
theorem Fun.okG {P : Program} {w : World} {K : PySem.W.Frag} {mg : Str → Option Value} {base : Heap} {x qual : Str} {st : Stmt} {f : Addr} {fd : FuncData} {N ps : List Str} {k : Nat} {sp : Sp} (F : Fun K x qual st f fd) (S : FnScope N ps (defScope st))
    (len : ∀ vs H Q E, sp vs H Q E → vs.length = ps.length)
    (hbody : ∀ (cdv : Value) (A : Around) (outer : List Env) (s : Shared) (H : Hp) (vs : List V) (Q : VK) (E : XK), A.guards = some [] → Room k (A.deeper (envOfC qual (defScope st) s.heap.objs.size f cdv)) → sp vs H Q E →
      ∃ t, PSs (cxOf CX0 P w K mg base N qual (defScope st) f cdv A outer s H E).nox (defBody st) t ∧ t { nx := fun _ H' => Q .non H', rt := Q } (L2.start N vs) H) : FnG P w K mg base CX0 (k + 1) f fd ps sp := by
  obtain ⟨oc, od, kV, doc, pm, an, cdv, ct, osl, hfd, lk, hcd⟩ := F.ex
  subst hfd
  refine fnG_of lk hcd S len fun A outer s H vs Q E hgd hr hsp => ?_
  obtain ⟨t, ht, hq⟩ := hbody cdv A outer s H vs Q E hgd hr hsp
  exact ⟨t, ht.nox, hq⟩
/-! ### repr of data -/
theorem Dp.noDict {K : PySem.W.Frag} {H : Hp} : ∀ (d : PyData) (v : V), Dp K H v d → d.hasDict = false
  | .none, _, _ => rfl
  | .bool _, _, _ => rfl
  | .int _, _, _ => rfl
  | .str _, _, _ => rfl
  | .list ds, _, h => by
    cases h with
    | lst _ ha =>
      show PyData.hasDictAll ds = false
      exact go ds _ ha
  | .tuple ds, _, h => by
    cases h with
    | tup _ ha =>
      show PyData.hasDictAll ds = false
      exact go ds _ ha
  | .dict _, _, h => by cases h
where
  go : ∀ (ds : List PyData) (vs : List V), DpAll K H vs ds → PyData.hasDictAll ds = false
  | [], _, _ => rfl
  | d :: ds, _, h => by
    cases h with
    | cons h1 h2 =>
      show (d.hasDict || PyData.hasDictAll ds) = false
      rw [Dp.noDict d _ h1, go ds _ h2]
      rfl
def rReprD (K : PySem.W.Frag) : List V → Hp → VK → Prop := fun xs H Q => ∃ (a : Addr) (d : PyData), xs = [.ref a] ∧ Dp K H (.ref a) d ∧ d.showable = true ∧ d.depth ≤ 30 ∧ d.shown.length ≤ sizeLine ∧ Q (.str d.shown) H
theorem call_reprD {X : Cx} (hgd : X.A.guards = some []) (hu : X.A.units + 64 < cLine) : CallR X (.builtin "repr") (rReprD X.K) := by
  intro pins s σ H xs us Q I r h
  obtain ⟨a, d, rfl, hd, hs, hdp, hz, q⟩ := h
  cases r with
  | cons rx rn =>
    cases rn
    cases rx
    obtain ⟨as, rr⟩ := Dp.reads I d _ _ hd rfl
    refine repr_of_reads' rr hs (fun z => ?_) hgd (by omega) (fun _ _ e => e) (fun h' u tk hk => ?_) hz
    · rw [Dp.noDict d _ hd] at z
      cases z
    · exact ⟨.str d.shown, H, I.kept (h' := h') (t' := tk) hk, ⟨u, rfl⟩, q⟩
theorem hu64 {A : Around} {k : Nat} (hr : Room k A) : A.units + 64 < cLine := hr.units
end FR

set_option Elab.async false
set_option linter.all false
set_option maxRecDepth 100000
set_option maxHeartbeats 4000000
/-! FRC: what a law's defs share: the written part, the classes' addresses, the tables of lambdas; a def that calls the lambda it got. -/
namespace FR
open PySem PySem.Spec PyProof.Rows L2
/-- the written part, where the classes stand, the tables of the defs that make lambdas -/
structure Pm where
  K : PySem.W.Frag
  cls : Str → Addr
  tabs : List (Addr × Str)
/-- a wish that holds only at slots of the frame's own length -/
theorem takes_len {X : Cx} {W : WX} (t : Takes X W) : Takes X (fun cls d σ H => σ.length = X.N.length → W cls d σ H) := fun u s' h => by
  obtain ⟨a, B, sI, pins, σ, H, cls, d, e, I, nb, up, sky, na, os, ag, h⟩ := h
  exact t u s' ⟨a, B, sI, pins, σ, H, cls, d, e, I, nb, up, sky, na, os, ag, h I.len⟩
/-- an own class of errors -/
structure ErrC (K : PySem.W.Frag) (mg : Str → Option Value) (x : Str) (C : Addr) : Prop where
  g : mg x = some (.ref C)
  x : PySem.W.excIn K C [.type "ValueError", .type "Exception", .type "BaseException", .type "object"] "ValueError.__new__" = true
  k : PySem.W.keepIn K (.ref C) = true
  b : PySem.W.subIn K (.ref C) (.type "BaseException") = some true
  t : PySem.W.typeIn K (.ref C) = some (.type "type")
  i : PySem.W.isClsIn K C = true
  c : ExcC K C
/-- a def that is handed a lambda -/
structure HasL (K : PySem.W.Frag) (mg : Str → Option Value) (x a : Str) (st : Stmt) (Ng : List Str) : Prop where
  ex : ∃ (g : Addr) (oc : Value) (od : Option Addr) (dV kV doc pm : Value) (an : Option Addr) (cdv ct : Value) (osl : Array (Option Value)),
    mg x = some (.ref g) ∧ PySem.W.keepIn K (.ref g) = true ∧ K.lookup g = some ⟨oc, od, .func (PySem.W.fnOf x x (defArgs st) (defBody st) (defScope st) dV kV doc pm an cdv ct), osl⟩ ∧
      PySem.W.codeIn K cdv x = true ∧ L2.Binds K (PySem.W.fnOf x x (defArgs st) (defBody st) (defScope st) dV kV doc pm an cdv ct) [a] []
  sc : FnScope Ng [a] (defScope st)
  n0 : Ng[0]? = some a
  vis : Vis (defScope st) a
section
variable {X : Cx}
theorem plam {T : List (Addr × Str)} {TT : (XK → Hp → VK → Prop) → Hp → VK → Prop} {x a : Str} {c P : Addr} {k : Nat} {st : Stmt} {Ng : List Str} {params : Arguments} {body : Expr} {scope : Scope} {t : XK → TE} {p lpos pos : Pos}
    (h : HasL X.K X.mg x a st Ng) (hG : ∀ (g : Addr) (cdv : Value), LamX.GivesTo X Ng x (defScope st) g cdv (defBody st) a (X.env.qual ++ "<lambda>") TT) (hg : Gl X x)
    (TB : LamX.TabB X.base X.mg c P) (hcode : X.env.code = .ref c) (hmT : (P, X.env.qual ++ "<lambda>") ∈ T) (hu : ∀ p ∈ T, p.1 = P → p.2 = X.env.qual ++ "<lambda>") (hr : Room (k + 2) X.A)
    (L : LamX.LamS X.env.scope scope) (hdef : defaultsOf params X.env = ([], []))
    (hbind : ∀ (q : Str) (cl : List (Str × Addr)) (pm cv ctv : Value), bindArgs (PySem.W.kla_fn "<lambda>" q params body scope cl pm cv ctv) ⟨[], []⟩ = pure [])
    (hbody : ∀ (A : Around) (outer : List Env) (s : Shared) (H : Hp) (E : XK) (f c' : Addr), Room k (A.deeper (LamX.lamEnv X scope s.heap.objs.size f c')) → PE (LamX.lamCx X A outer s H E scope f c') body (t E))
    (hdb : (x == ("__debug__" : Str)) = false := by decide) (hd : (a == ("__debug__" : Str)) = false := by decide) (hcd : (a == ("__classdict__" : Str)) = false := by decide) :
    PE X (.Call (.Name x p) [.Lambda params body scope lpos] [] pos) (LamX.tLam T TT t) := by
  obtain ⟨g, oc, od, dV, kV, doc, pm, an, cdv, ct, osl, h1, h2, h3, h4, h5⟩ := h.ex
  exact LamX.pe_lamcall hg h1 h2 h3 h4 h5 h.sc h.n0 h.vis (hG g cdv) TB hcode hmT hu hr L hdef hbind hbody hdb hd hcd
/-- what leaves a lambda's body is what its caller wishes -/
theorem passLam {A : Around} {outer : List Env} {s : Shared} {H : Hp} {E : XK} {scope : Scope} {f c' : Addr} : Passes (L2.CX X.prog X.w) (LamX.lamCx X A outer s H E scope f c') E :=
  passes_call (W := fun cls d _ H => E cls d H) (takes_of rfl rfl rfl rfl) fun _ _ _ _ h => h
end
/-- isinstance(error, C) in the suite, the error's class being told -/
abbrev rIsErr (K : PySem.W.Frag) (a : Addr) (cls : Value) (d : Option Addr) : List V → Hp → VK → Prop := fun xs H Q => ∃ (D : Addr) (c : V) (cv : Value) (b : Bool), cls = .ref D ∧ d = none ∧ ExcC K D ∧ xs = [.ref a, c] ∧ (∀ u, RelV c u → u = cv) ∧ PySem.W.kitOne K (.ref D) cv = some b ∧ Q (.bl b) H
theorem call_isErr {X : Cx} {a : Addr} {cls : Value} {d : Option Addr} {oe : Obj} {pn : List (Addr × Obj)} (hz : Zc cls d oe) (hf : ∃ vs, oe.data = .fields vs) : CallR (X.suite a ((a, oe) :: pn)) (.builtin "isinstance") (rIsErr X.K a cls d) := by
  intro pins s σ H xs us Q I r h
  obtain ⟨D, c, cv, b, e1, e2, C, e3, e4, e5, q⟩ := h
  subst e1 e2
  exact call_isE C hz hf pins s σ H xs us Q I r ⟨c, cv, b, e3, e4, e5, q⟩
end FR

set_option Elab.async false
set_option linter.all false
set_option maxRecDepth 100000
set_option maxHeartbeats 4000000
/-! FRM: what a reading's steps want: heaps that keep what they hold, tests, codes of texts. -/
namespace FR
open PySem PySem.Spec PyProof.Rows L2
/-! ### heaps -/
/-- all that was tracked stands, but at S -/
def Keep (S : List Addr) (H H' : Hp) : Prop := ∀ b o, H b = some o → b ∉ S → H' b = some o
theorem Keep.refl {S : List Addr} {H : Hp} : Keep S H H := fun _ _ h _ => h
theorem Keep.trans {S : List Addr} {H H1 H2 : Hp} (a : Keep S H H1) (b : Keep S H1 H2) : Keep S H H2 := fun c o h n => b c o (a c o h n) n
theorem Keep.mono {S T : List Addr} {H H1 : Hp} (a : Keep S H H1) (h : ∀ x ∈ S, x ∈ T) : Keep T H H1 := fun c o e n => a c o e fun z => n (h c z)
theorem Keep.of0 {T : List Addr} {H H1 : Hp} (a : Keep [] H H1) : Keep T H H1 := a.mono fun _ z => nomatch z
theorem Keep.new {S : List Addr} {H : Hp} {p : Addr} {o : HO} (h : H p = none) : Keep S H (upd H p o) := fun b u e _ => by
  rw [upd_ne (ne_of_none e h)]
  exact e
theorem Keep.put {S : List Addr} {H : Hp} {p : Addr} {o : HO} (h : p ∈ S) : Keep S H (upd H p o) := fun b u e n => by
  rw [upd_ne (fun z => n (by rw [z]; exact h))]
  exact e
theorem Keep.at {S : List Addr} {H H1 : Hp} {p : Addr} {o : HO} (k : Keep S H H1) (e : H p = some o) (n : p ∉ S := by simp) : H1 p = some o := k p o e n
/-- what was new is changed: nothing else is -/
theorem Keep.own {S : List Addr} {H H1 : Hp} {p : Addr} {o : HO} (k : Keep S H H1) (h : H p = none) : Keep S H (upd H1 p o) := fun b u e n => by
  rw [upd_ne (ne_of_none e h)]
  exact k b u e n
/-- changes at what was not there ahead are none -/
theorem Keep.drop {S : List Addr} {H H1 H2 : Hp} {p : Addr} (k : Keep S H H1) (k2 : Keep (p :: S) H1 H2) (h : H p = none) : Keep S H H2 := fun b u e n =>
  k2 b u (k b u e n) fun z => by
    rcases List.mem_cons.mp z with z | z
    · exact ne_of_none e h z
    · exact n z
theorem Keep.none {S : List Addr} {H H1 : Hp} {p : Addr} (k : Keep S H H1) (hp : H1 p = Option.none) (n : p ∉ S := by simp) : H p = Option.none := by
  cases q : H p with
  | none => rfl
  | some o => rw [k p o q n] at hp; cases hp
theorem Keep.sqT {S : List Addr} {H H1 : Hp} {K : PySem.W.Frag} {a : Addr} {xs : List V} (k : Keep S H H1) (h : SqT K H a xs) (n : a ∉ S := by simp) : SqT K H1 a xs := by
  rcases h with (h | ⟨o, h⟩) | h
  · exact .inl (.inl (k _ _ h n))
  · exact .inl (.inr ⟨o, k _ _ h n⟩)
  · exact .inr h
theorem Keep.sqL {S : List Addr} {H H1 : Hp} {K : PySem.W.Frag} {a : Addr} {xs : List V} (k : Keep S H H1) (h : SqL K H a xs) (n : a ∉ S := by simp) : SqL K H1 a xs := by
  rcases h with (h | ⟨o, h⟩) | h
  · exact .inl (.inl (k _ _ h n))
  · exact .inl (.inr ⟨o, k _ _ h n⟩)
  · exact .inr h
/-! ### tests -/
theorem iteB {A B : Prop} {c : Bool} (h1 : c = true → A) (h2 : c = false → B) : if c = true then A else B := by
  cases c with
  | true => rw [if_pos rfl]; exact h1 rfl
  | false => rw [if_neg Bool.false_ne_true]; exact h2 rfl
theorem if1 {A B : Prop} {c : Bool} (hc : c = true) (h : A) : if c = true then A else B := by
  rw [if_pos hc]; exact h
theorem if0 {A B : Prop} {c : Bool} (hc : c = false) (h : B) : if c = true then A else B := by
  rw [hc, if_neg Bool.false_ne_true]; exact h
/-! ### codes -/
abbrev cs (z : Str) : List Nat := z.cps.toList
theorem str_ext {x y : Str} (h : cs x = cs y) : x = y := by
  cases x; cases y
  simp only [cs] at h
  congr
  exact Array.toList_inj.mp h
theorem len_cs (z : Str) : z.length = (cs z).length := (Array.length_toList (xs := z.cps)).symm
theorem cs_cut1 (z : Str) : cs (cutS z (some 1) none) = (cs z).drop 1 := by
  show (((z.cps.toList.drop (HT.sIx z.length 0 (some ((1 : Nat) : Int)))).take (HT.sIx z.length z.length none - HT.sIx z.length 0 (some ((1 : Nat) : Int)))).toArray).toList = _
  rw [List.toList_toArray, HT.sIx_nat, HT.sIx_none, len_cs]
  rcases h : cs z with _ | ⟨a, r⟩
  · simp [show z.cps.toList = [] from h]
  · rw [show z.cps.toList = a :: r from h]
    simp
theorem cs_head1 (z : Str) : cs (cutS z none (some 1)) = (cs z).take 1 := by
  show (((z.cps.toList.drop (HT.sIx z.length 0 none)).take (HT.sIx z.length z.length (some ((1 : Nat) : Int)) - HT.sIx z.length 0 none)).toArray).toList = _
  rw [List.toList_toArray, HT.sIx_nat, HT.sIx_none, len_cs]
  rcases h : cs z with _ | ⟨a, r⟩
  · simp [show z.cps.toList = [] from h]
  · rw [show z.cps.toList = a :: r from h]
    simp
theorem one_eq {c d : Nat} : decide (V.str ⟨#[c]⟩ = V.str ⟨#[d]⟩) = decide (c = d) := by
  by_cases h : c = d
  · subst h; simp
  · rw [decide_eq_false h, decide_eq_false]
    intro z
    injection z with z
    injection z with z
    simp at z
    exact h z
theorem str_eq {x y : Str} : decide (V.str x = V.str y) = decide (x = y) := by
  by_cases h : x = y
  · subst h; simp
  · rw [decide_eq_false h, decide_eq_false]
    intro z
    injection z with z
    exact h z
theorem atI_head {z : Str} {c : Nat} {r : List Nat} (h : cs z = c :: r) : atI z.cps.toList 0 = some c := by
  rw [show z.cps.toList = c :: r from h]
  exact atI_nat (j := 0) rfl
theorem sz_of {n m : Nat} (h : n ≤ m) (hm : m ≤ 16777216 := by decide) : n ≤ sizeLine := by
  rw [sizeLine_eq]; exact Nat.le_trans h hm
theorem szl_of {n m : Nat} (h : n ≤ m) (hm : m < 16777216 := by decide) : n < sizeLine := by
  rw [sizeLine_eq]; exact Nat.lt_of_le_of_lt h hm
theorem take_more {α : Type} : ∀ {l : List α} {i : Nat} {x : α}, l[i]? = some x → l.take (i + 1) = l.take i ++ [x]
  | [], i, x, h => by simp at h
  | a :: l, 0, x, h => by
    have e : a = x := Option.some.inj h
    subst e
    rfl
  | a :: l, i + 1, x, h => by
    have ih := take_more (l := l) (i := i) (x := x) h
    show a :: l.take (i + 1) = a :: l.take i ++ [x]
    rw [ih]
    rfl
end FR

set_option Elab.async false
set_option linter.all false
set_option maxRecDepth 100000
set_option maxHeartbeats 4000000
/-! FRS: the readings' steps, one lemma a rule. -/
namespace FR
open PySem PySem.Spec PyProof.Rows L2
section
variable {K : PySem.W.Frag} {H : Hp} {Q : VK} {a : Addr} {xs ys : List V} {v x y : V} {z : Str} {i : Int}
theorem s_ixL (h : SqL K H a xs) (e : atI xs i = some v) (q : Q v H) : rIxL K (.ref a) (.int i) H Q := ⟨a, xs, i, v, rfl, rfl, h, e, q⟩
theorem s_ixT (h : SqT K H a xs) (e : atI xs i = some v) (q : Q v H) : rIxT K (.ref a) (.int i) H Q := ⟨a, xs, i, v, rfl, rfl, h, e, q⟩
theorem s_ixS {c : Nat} (h : z.length ≤ sizeLine) (e : atI z.cps.toList i = some c) (q : Q (.str ⟨#[c]⟩) H) : rIxS (.str z) (.int i) H Q := ⟨z, i, c, rfl, rfl, h, e, q⟩
theorem s_lenS (h : z.length ≤ sizeLine) (q : Q (.int z.length) H) : rLenV K [.str z] H Q := ⟨_, _, rfl, ⟨h, rfl⟩, q⟩
theorem s_lenL (h : SqL K H a xs) (q : Q (.int xs.length) H) : rLenV K [.ref a] H Q := ⟨_, _, rfl, .inl ⟨_, h, rfl⟩, q⟩
theorem s_lenT (h : SqT K H a xs) (q : Q (.int xs.length) H) : rLenV K [.ref a] H Q := ⟨_, _, rfl, .inr ⟨_, h, rfl⟩, q⟩
theorem s_isi {A T : String} {b : Bool} (t : TyX K H v (.type A)) (k : kitB A T = some b) (q : Q (.bl b) H) : rIsi K [v, .ty T] H Q := ⟨v, .ty T, _, _, b, rfl, .ty T, t, kit_ty k, q⟩
theorem s_isiS {T : String} {b : Bool} (k : kitB "str" T = some b) (q : Q (.bl b) H) : rIsi K [.str z, .ty T] H Q := s_isi (.base (.str z)) k q
theorem s_app {l : Addr} (h : H l = some (.lst xs)) (hz : xs.length < sizeLine) (q : Q .non (upd H l (.lst (xs ++ [v])))) : rAppend (.ref l) [v] H Q := ⟨l, xs, v, rfl, rfl, h, hz, q⟩
theorem s_pop {l : Addr} (h : H l = some (.lst (xs ++ [v]))) (q : Q v (upd H l (.lst xs))) : rPop (.ref l) [] H Q := by
  refine ⟨l, xs ++ [v], v, rfl, rfl, h, by simp, ?_⟩
  rw [List.dropLast_concat]
  exact q
theorem s_all {bs : List Bool} (h : SqL K H a (bs.map V.bl)) (q : Q (.bl (bs.all id)) H) : rAll K [.ref a] H Q := ⟨a, bs, rfl, h, q⟩
theorem s_join {w : Str} {zs : List Str} (h : SqL K H a (zs.map V.str)) (hz : (zs.map (·.length)).sum + zs.length * w.length ≤ 16777216) (q : Q (.str (Txt.join w zs)) H) : rJoin K (.str w) [.ref a] H Q :=
  ⟨w, a, zs, rfl, rfl, .inl h, hz, q⟩
theorem s_cutL {lo hi : Option Int} (h : SqL K H a xs) (q : ∀ p, H p = none → Q (.ref p) (upd H p (.lst (cutV xs lo hi)))) : rSlL K (.ref a) lo hi H Q := ⟨a, xs, rfl, h, q⟩
theorem s_cutS {lo hi : Option Int} (h : z.length ≤ sizeLine) (q : Q (.str (cutS z lo hi)) H) : rSlS (.str z) lo hi H Q := ⟨z, rfl, h, q⟩
theorem s_cat {b : Addr} (h : H a = some (.lst xs)) (h2 : H b = some (.lst ys)) (hz : xs.length + ys.length ≤ sizeLine) (q : ∀ p, H p = none → Q (.ref p) (upd H p (.lst (xs ++ ys)))) : rCat (.ref a) (.ref b) H Q := ⟨a, b, xs, ys, rfl, rfl, h, h2, hz, q⟩
theorem s_tupL (h : SqL K H a xs) (q : ∀ l, H l = none → Q (.ref l) (upd H l (.tup xs))) : rTupOf K [.ref a] H Q := ⟨a, xs, rfl, .inl ⟨h, q⟩⟩
theorem s_inT (h : SqT K H a xs) (hx : flatV x = true) (hs : xs.all flatV = true) (q : Q (.bl (inV x xs)) H) : rIn K false x (.ref a) H Q := ⟨a, xs, rfl, .inr h, hx, hs, q⟩
theorem s_ninT (h : SqT K H a xs) (hx : flatV x = true) (hs : xs.all flatV = true) (q : Q (.bl (!inV x xs)) H) : rIn K true x (.ref a) H Q := ⟨a, xs, rfl, .inr h, hx, hs, q⟩
theorem s_setL {l : Addr} {j : Nat} {R : Hp → Prop} (h : H l = some (.lst xs)) (e : ixN xs.length i = some j) (q : R (upd H l (.lst (xs.set j v)))) : rSetL (.ref l) (.int i) v H R := ⟨l, xs, i, j, rfl, rfl, h, e, q⟩
end
theorem kTT : kitB "tuple" "tuple" = some true := by decide +kernel
theorem kTS : kitB "tuple" "str" = some false := by decide +kernel
theorem kSS : kitB "str" "str" = some true := by decide +kernel
theorem kST : kitB "str" "tuple" = some false := by decide +kernel
theorem kNS : kitB "NoneType" "str" = some false := by decide +kernel
theorem kNT : kitB "NoneType" "tuple" = some false := by decide +kernel
theorem kIS : kitB "int" "str" = some false := by decide +kernel
theorem kIT : kitB "int" "tuple" = some false := by decide +kernel
theorem kBT : kitB "bool" "tuple" = some false := by decide +kernel
theorem kBS : kitB "bool" "str" = some false := by decide +kernel
theorem kLT : kitB "list" "tuple" = some false := by decide +kernel
theorem kDT : kitB "dict" "tuple" = some false := by decide +kernel
/-! ### data without lists, over heaps that keep the tuples -/
mutual
def noL : PyData → Bool
  | .list _ => false
  | .tuple xs => noLs xs
  | .dict _ => false
  | _ => true
def noLs : List PyData → Bool
  | [] => true
  | d :: r => noL d && noLs r
end
mutual
theorem Dp.tk {K : PySem.W.Frag} {H H' : Hp} (tk : ∀ b xs, SqT K H b xs → SqT K H' b xs) : ∀ (d : PyData) (v : V), noL d = true → Dp K H v d → Dp K H' v d
  | .none, _, _, h => by cases h; exact .non
  | .bool b, _, _, h => by cases h; exact .bl b
  | .int i, _, _, h => by cases h; exact .int i
  | .str x, _, _, h => by cases h; exact .str x
  | .list _, _, n, _ => by cases n
  | .dict _, _, n, _ => by cases n
  | .tuple ds, _, n, h => by
    cases h with
    | tup hs ha => exact .tup (tk _ _ hs) (DpAll.tk tk ds _ n ha)
theorem DpAll.tk {K : PySem.W.Frag} {H H' : Hp} (tk : ∀ b xs, SqT K H b xs → SqT K H' b xs) : ∀ (ds : List PyData) (vs : List V), noLs ds = true → DpAll K H vs ds → DpAll K H' vs ds
  | [], _, _, h => by cases h; exact .nil
  | d :: r, _, n, h => by
    have n' : noL d = true ∧ noLs r = true := Bool.and_eq_true_iff.mp n
    cases h with
    | cons h1 h2 => exact .cons (Dp.tk tk d _ n'.1 h1) (DpAll.tk tk r _ n'.2 h2)
end
theorem DpAll.app {K : PySem.W.Frag} {H : Hp} : ∀ {vs ws : List V} {ds es : List PyData}, DpAll K H vs ds → DpAll K H ws es → DpAll K H (vs ++ ws) (ds ++ es)
  | [], _, [], _, _, h => h
  | _ :: _, _, _ :: _, _, .cons a b, h => .cons a (DpAll.app b h)
  | [], _, _ :: _, _, h, _ => by cases h
  | _ :: _, _, [], _, h, _ => by cases h
theorem DpAll.length {K : PySem.W.Frag} {H : Hp} : ∀ {vs : List V} {ds : List PyData}, DpAll K H vs ds → vs.length = ds.length
  | [], [], _ => rfl
  | _ :: _, _ :: _, .cons _ b => congrArg (· + 1) (DpAll.length b)
  | [], _ :: _, h => by cases h
  | _ :: _, [], h => by cases h
theorem noLs_app {a b : List PyData} (h : noLs a = true) (h' : noLs b = true) : noLs (a ++ b) = true := by
  induction a with
  | nil => exact h'
  | cons d r ih =>
    have n : noL d = true ∧ noLs r = true := Bool.and_eq_true_iff.mp h
    exact Bool.and_eq_true_iff.mpr ⟨n.1, ih n.2⟩
theorem Keep.tk {S : List Addr} {H H' : Hp} {K : PySem.W.Frag} (k : Keep S H H') (hS : ∀ s ∈ S, ∃ xs, H s = some (.lst xs)) (b : Addr) (xs : List V) (h : SqT K H b xs) : SqT K H' b xs := by
  rcases h with (h | ⟨o, h⟩) | h
  · refine .inl (.inl (k _ _ h fun m => ?_))
    obtain ⟨ys, e⟩ := hS b m
    rw [h] at e; cases e
  · refine .inl (.inr ⟨o, k _ _ h fun m => ?_⟩)
    obtain ⟨ys, e⟩ := hS b m
    rw [h] at e; cases e
  · exact .inr h
/-! ### comprehensions that change nothing -/
section
variable {J : It} {n : Nat} {G : Hp → Prop} {Y : Nat → Hp → V → Hp → Prop}
def pick (f : V → Bool) (g : V → V) (xs : List V) : List V := (xs.filter f).map g
theorem pick_yes {f : V → Bool} {g : V → V} {xs : List V} {x : V} (h : f x = true) : pick f g (xs ++ [x]) = pick f g xs ++ [g x] := by
  unfold pick
  rw [List.filter_append, List.map_append]
  simp [h]
theorem pick_no {f : V → Bool} {g : V → V} {xs : List V} {x : V} (h : f x = false) : pick f g (xs ++ [x]) = pick f g xs := by
  unfold pick
  rw [List.filter_append]
  simp [h]
theorem pick_len {f : V → Bool} {g : V → V} {xs : List V} : (pick f g xs).length ≤ xs.length := by
  unfold pick
  rw [List.length_map]
  exact List.length_filter_le _ _
theorem lc_pure (w : Walk J n G Y) {xs : List V} (hn : xs.length = n) (hY : ∀ i H x H', i < n → Y i H x H' → H' = H ∧ xs[i]? = some x) (hz : n ≤ 1000000) {j : Nat} {tt : TT} {te : TE} {vs : List Nat} {σ : L2.St} {H : Hp} {D : Addr} {Qd : Hp → Prop}
    (f : V → Bool) (g : V → V) (hD : H D = none) (hG : ∀ H', Keep [] H H' → G H') (hw : ∀ x, wipe ((wipe σ vs).set j (some x)) vs = wipe σ vs)
    (ht : ∀ x H1, x ∈ xs → Keep [] H H1 → ∀ R : Bool → Hp → Prop, (∀ H2, Keep [] H1 H2 → R (f x) H2) → tt ((wipe σ vs).set j (some x)) H1 R)
    (he : ∀ x H1, x ∈ xs → f x = true → Keep [] H H1 → ∀ R : VK, (∀ H2, Keep [] H1 H2 → R (g x) H2) → te ((wipe σ vs).set j (some x)) H1 R)
    (q : ∀ H', Keep [] H H' → H' D = some (.lst (pick f g xs)) → Qd H') :
    ∃ W : Nat → Nat → Hp → Prop, (∃ m, W 0 m (upd H D (.lst []))) ∧ ∀ i m H, W i m H →
      (J.stop i H ∧ Qd H) ∨ (J.go i H ∧ ∃ Nx : Hp → Prop, (∀ H', Nx H' → ∃ m', m' < m ∧ W (i + 1) m' H') ∧ ∀ x H', J.yld i H x H' → gName j x (wipe σ vs) H' fun σ2 H2 => wipe σ2 vs = wipe σ vs ∧ tt σ2 H2 fun b H3 =>
        if b = true then te σ2 H3 fun y H4 => ∃ acc, H4 D = some (.lst acc) ∧ acc.length < sizeLine ∧ Nx (upd H4 D (.lst (acc ++ [y]))) else Nx H3) := by
  refine lc_it w (fun i H' => Keep [] H H' ∧ H' D = some (.lst (pick f g (xs.take i)))) ⟨Keep.new hD, upd_same⟩ (fun i H' _ p => hG H' p.1) ?_ ?_
  · rintro i x H1 H2 hi ⟨k, e⟩ y
    obtain ⟨rfl, hx⟩ := hY i H1 x H2 hi y
    have tk := take_more hx
    have mem : x ∈ xs := List.mem_of_getElem? hx
    refine ⟨hw x, ht x _ mem k _ fun H3 k3 => ?_⟩
    have lz : (pick f g (xs.take i)).length < sizeLine := szl_of (Nat.le_trans pick_len (by rw [List.length_take]; omega) : _ ≤ 1000000)
    refine iteB (fun hf => he x _ mem hf (k.trans k3) _ fun H4 k4 => ⟨_, (k3.trans k4).at e, lz, ?_, ?_⟩) (fun hf => ⟨k.trans k3, ?_⟩)
    · exact ((k.trans k3).trans k4).own hD
    · rw [upd_same, tk, pick_yes hf]
    · rw [tk, pick_no hf]
      exact k3.at e
  · rintro H' ⟨k, e⟩
    refine q H' k ?_
    rw [e, ← hn, List.take_length]
end
section
variable {K : PySem.W.Frag} {σ : L2.St} {H : Hp} {Q : VK} {j : Nat} {tt : TT} {te : TE} {vs : List Nat} {a : Addr} {xs : List V} {z : Str}
theorem lcL {tl : TE} (f : V → Bool) (g : V → V) (hl : ∀ R : VK, (∀ a H0, Keep [] H H0 → SqL K H0 a xs → R (.ref a) H0) → tl σ H R) (hz : xs.length ≤ 1000000) (hw : ∀ x, wipe ((wipe σ vs).set j (some x)) vs = wipe σ vs)
    (ht : ∀ x H1, x ∈ xs → Keep [] H H1 → ∀ R : Bool → Hp → Prop, (∀ H2, Keep [] H1 H2 → R (f x) H2) → tt ((wipe σ vs).set j (some x)) H1 R)
    (he : ∀ x H1, x ∈ xs → f x = true → Keep [] H H1 → ∀ R : VK, (∀ H2, Keep [] H1 H2 → R (g x) H2) → te ((wipe σ vs).set j (some x)) H1 R)
    (q : ∀ D H', H D = none → Keep [] H H' → H' D = some (.lst (pick f g xs)) → Q (.ref D) H') : tLc (iList K tl) (gName j) tt te vs σ H Q :=
  hl _ fun a H0 k0 hs => ⟨a, rfl, ⟨xs, hs⟩, fun D hD => lc_pure walk_list rfl (fun i H x H' _ y => y) hz f g hD (fun H' k => k.sqL hs) hw
    (fun x H1 m k => ht x H1 m (k0.trans k)) (fun x H1 m hf k => he x H1 m hf (k0.trans k)) fun H' k e => q D H' (k0.none hD) (k0.trans k) e⟩
theorem lcT {tl : TE} (f : V → Bool) (g : V → V) (hl : ∀ R : VK, (∀ a H0, Keep [] H H0 → SqT K H0 a xs → R (.ref a) H0) → tl σ H R) (hz : xs.length ≤ 1000000) (hw : ∀ x, wipe ((wipe σ vs).set j (some x)) vs = wipe σ vs)
    (ht : ∀ x H1, x ∈ xs → Keep [] H H1 → ∀ R : Bool → Hp → Prop, (∀ H2, Keep [] H1 H2 → R (f x) H2) → tt ((wipe σ vs).set j (some x)) H1 R)
    (he : ∀ x H1, x ∈ xs → f x = true → Keep [] H H1 → ∀ R : VK, (∀ H2, Keep [] H1 H2 → R (g x) H2) → te ((wipe σ vs).set j (some x)) H1 R)
    (q : ∀ D H', H D = none → Keep [] H H' → H' D = some (.lst (pick f g xs)) → Q (.ref D) H') : tLc (iTup K tl) (gName j) tt te vs σ H Q :=
  hl _ fun a H0 k0 hs => ⟨a, rfl, ⟨xs, hs⟩, fun D hD => lc_pure walk_tup rfl (fun i H x H' _ y => y) hz f g hD (fun H' k => k.sqT hs) hw
    (fun x H1 m k => ht x H1 m (k0.trans k)) (fun x H1 m hf k => he x H1 m hf (k0.trans k)) fun H' k e => q D H' (k0.none hD) (k0.trans k) e⟩
/-- a text's signs as values -/
def signsV (z : Str) : List V := (cs z).map fun c => .str ⟨#[c]⟩
theorem lcS {tl : TE} (f : V → Bool) (g : V → V) (hl : ∀ R : VK, (∀ H0, Keep [] H H0 → R (.str z) H0) → tl σ H R) (hz : (cs z).length ≤ 1000000) (hw : ∀ x, wipe ((wipe σ vs).set j (some x)) vs = wipe σ vs)
    (ht : ∀ x H1, x ∈ signsV z → Keep [] H H1 → ∀ R : Bool → Hp → Prop, (∀ H2, Keep [] H1 H2 → R (f x) H2) → tt ((wipe σ vs).set j (some x)) H1 R)
    (he : ∀ x H1, x ∈ signsV z → f x = true → Keep [] H H1 → ∀ R : VK, (∀ H2, Keep [] H1 H2 → R (g x) H2) → te ((wipe σ vs).set j (some x)) H1 R)
    (q : ∀ D H', H D = none → Keep [] H H' → H' D = some (.lst (pick f g (signsV z))) → Q (.ref D) H') : tLc (iStr tl) (gName j) tt te vs σ H Q :=
  hl _ fun H0 k0 => ⟨z, rfl, fun D hD => lc_pure walk_str (xs := signsV z) (by unfold signsV; rw [List.length_map]; exact Array.length_toList) (fun i H x H' _ y => by
      obtain ⟨e, c, h1, h2⟩ := y
      refine ⟨e, ?_⟩
      unfold signsV
      rw [List.getElem?_map, Array.getElem?_toList, h1, h2]
      rfl) (by rw [← Array.length_toList]; exact hz) f g hD (fun _ _ => True.intro) hw
    (fun x H1 m k => ht x H1 m (k0.trans k)) (fun x H1 m hf k => he x H1 m hf (k0.trans k)) fun H' k e => q D H' (k0.none hD) (k0.trans k) e⟩
end
/-- a comprehension over a range whose turns change S and keep G -/
theorem lc_rng {S : List Addr} {n : Nat} (G : Hp → Prop) (Pv : V → Prop) {j : Nat} {te : TE} {vs : List Nat} {σ : L2.St} {H : Hp} {D : Addr} {Qd : Hp → Prop} (hD : H D = none) (hS : D ∉ S) (g0 : G H) (gU : ∀ H2 o, Keep S H H2 → G H2 → G (upd H2 D o)) (hn : n ≤ 1000000)
    (hw : ∀ x, wipe ((wipe σ vs).set j (some x)) vs = wipe σ vs)
    (he : ∀ (i : Nat) H2, i < n → Keep S H H2 → G H2 → ∀ R : VK, (∀ v H3, Keep S H2 H3 → G H3 → Pv v → R v H3) → te ((wipe σ vs).set j (some (.int (0 + (i : Nat))))) H2 R)
    (q : ∀ H' acc, Keep S H H' → G H' → H' D = some (.lst acc) → (∀ v ∈ acc, Pv v) → acc.length = n → Qd H') :
    ∃ W : Nat → Nat → Hp → Prop, (∃ m, W 0 m (upd H D (.lst []))) ∧ ∀ i m H, W i m H →
      ((Itr 0 n).stop i H ∧ Qd H) ∨ ((Itr 0 n).go i H ∧ ∃ Nx : Hp → Prop, (∀ H', Nx H' → ∃ m', m' < m ∧ W (i + 1) m' H') ∧ ∀ x H', (Itr 0 n).yld i H x H' → gName j x (wipe σ vs) H' fun σ2 H2 => wipe σ2 vs = wipe σ vs ∧ tYes σ2 H2 fun b H3 =>
        if b = true then te σ2 H3 fun y H4 => ∃ acc, H4 D = some (.lst acc) ∧ acc.length < sizeLine ∧ Nx (upd H4 D (.lst (acc ++ [y]))) else Nx H3) := by
  refine lc_range (fun i H' => Keep S H H' ∧ G H' ∧ ∃ acc, H' D = some (.lst acc) ∧ (∀ v ∈ acc, Pv v) ∧ acc.length = i) ⟨Keep.new hD, gU H _ Keep.refl g0, [], upd_same, fun _ m => (nomatch m), rfl⟩ ?_ ?_
  · rintro i H1 hi ⟨k, g, acc, e, ha, hl⟩
    refine ⟨hw _, ?_⟩
    dsimp only [tYes]
    rw [if_pos rfl]
    refine he i H1 hi k g _ fun v H3 k3 g3 hv => ⟨acc, k3 _ _ e hS, szl_of (by omega : acc.length ≤ 1000000), (k.trans k3).own hD, gU H3 _ (k.trans k3) g3, _, upd_same, fun v' m => ?_, ?_⟩
    · rcases List.mem_append.mp m with m | m
      · exact ha v' m
      · rw [List.mem_singleton.mp m]; exact hv
    · rw [List.length_append, hl]; rfl
  · rintro H' ⟨k, g, acc, e, ha, hl⟩
    exact q H' acc k g e ha hl
/-! ### what join makes -/
theorem cs_join0 : ∀ zs : List Str, cs (Txt.join "" zs) = (zs.map cs).flatten := fun zs => by
  rw [TL.join_eq]
  show TL.tl (Str.join "" zs) = _
  rw [TL.tl_join]
  have go : ∀ ps : List (List Nat), TL.joinL (TL.tl "") ps = ps.flatten := by
    intro ps
    induction ps with
    | nil => rfl
    | cons p r ih =>
      cases r with
      | nil => simp [TL.joinL]
      | cons p' r' =>
        show p ++ ((TL.tl "") ++ TL.joinL (TL.tl "") (p' :: r')) = _
        rw [ih]
        rfl
  exact go _
/-! ### lists of texts compared -/
def okS (z : Str) : Bool := PySem.PyData.canLay0 (.str z)
theorem okS_of {z : Str} (h : ∀ c ∈ cs z, c < 1114112) : okS z = true := by
  show (z.cps.all fun c => decide (c < 0x110000)) = true
  rw [← Array.all_toList]
  exact List.all_eq_true.mpr fun c hc => decide_eq_true (h c hc)
theorem dpStrs {K : PySem.W.Frag} {H : Hp} : ∀ os : List Str, DpAll K H (os.map V.str) (os.map PyData.str)
  | [] => .nil
  | o :: r => .cons (.str o) (dpStrs r)
theorem layStrs : ∀ {os : List Str}, (∀ m ∈ os, okS m = true) → PyData.canLayAll0 (os.map PyData.str) = true ∧ PyData.depthAll (os.map PyData.str) = 0
  | [], _ => ⟨rfl, rfl⟩
  | o :: r, h => by
    obtain ⟨a, b⟩ := layStrs (os := r) fun m hm => h m (List.mem_cons_of_mem _ hm)
    refine ⟨?_, ?_⟩
    · show (PyData.canLay0 (.str o) && PyData.canLayAll0 (r.map PyData.str)) = true
      rw [a, show PyData.canLay0 (.str o) = true from h o List.mem_cons_self]
      rfl
    · show max (PyData.depth (.str o)) (PyData.depthAll (r.map PyData.str)) = 0
      rw [b]
      rfl
theorem shapedStrs {os : List Str} (h : ∀ m ∈ os, okS m = true) : SeqAt.shaped (.list (os.map PyData.str)) = true := by
  obtain ⟨a, b⟩ := layStrs h
  unfold SeqAt.shaped
  rw [show PyData.canLay0 (.list (os.map PyData.str)) = PyData.canLayAll0 (os.map PyData.str) from rfl, a, show PyData.depth (.list (os.map PyData.str)) = PyData.depthAll (os.map PyData.str) + 1 from rfl, b]
  rfl
theorem eqvNil : ∀ os : List Str, PyData.eqv (.list (os.map PyData.str)) (.list []) = os.isEmpty
  | [] => rfl
  | _ :: _ => rfl
section
variable {K : PySem.W.Frag} {H : Hp} {Q : VK} {a b : Addr} {os : List Str}
theorem s_eqNil (h : SqL K H a (os.map V.str)) (h2 : SqL K H b []) (ok : ∀ m ∈ os, okS m = true) (q : Q (.bl os.isEmpty) H) : rEqD K (.ref a) (.ref b) H Q :=
  ⟨.list (os.map PyData.str), .list [], .lst h (dpStrs os), .lst h2 .nil, shapedStrs ok, rfl, by rw [eqvNil]; exact q⟩
theorem s_neNil (h : SqL K H a (os.map V.str)) (h2 : SqL K H b []) (ok : ∀ m ∈ os, okS m = true) (q : Q (.bl (!os.isEmpty)) H) : rNeD K (.ref a) (.ref b) H Q :=
  ⟨.list (os.map PyData.str), .list [], .lst h (dpStrs os), .lst h2 .nil, shapedStrs ok, rfl, by rw [eqvNil]; exact q⟩
end
end FR

set_option Elab.async false
set_option linter.all false
set_option maxRecDepth 100000
set_option maxHeartbeats 4000000
/-! FRE: the end of a law's row: from a promise that leans on the guards to the row's walk, with tables of lambdas. -/
namespace FR
open PySem PySem.Spec PyProof.Rows L2
abbrev tob : Obj := { cls := .none, data := .fields #[] }
abbrev sob (vs : List Value) : Obj := { cls := .type "list", data := .seq vs.toArray }
open Classical in
/-- what is tracked as the law is called: the tables, and the script unless it is written -/
noncomputable def hp0 (K : PySem.W.Frag) (T : List Addr) (a : Addr) (vs : List Value) (xs : List V) : Hp := fun b =>
  if b ∈ T then some (.tbl #[]) else if b = a ∧ K.lookup a = none then some (.frz (sob vs) (.lst xs)) else none
theorem hp0_inv {K : PySem.W.Frag} {T : List Addr} {a b : Addr} {vs : List Value} {xs : List V} {u : HO} (h : hp0 K T a vs xs b = some u) : (b ∈ T ∧ u = .tbl #[]) ∨ (b = a ∧ K.lookup a = none ∧ u = .frz (sob vs) (.lst xs)) := by
  unfold hp0 at h
  by_cases h1 : b ∈ T
  · rw [if_pos h1] at h
    exact .inl ⟨h1, (Option.some.inj h).symm⟩
  · rw [if_neg h1] at h
    by_cases h2 : b = a ∧ K.lookup a = none
    · rw [if_pos h2] at h
      exact .inr ⟨h2.1, h2.2, (Option.some.inj h).symm⟩
    · rw [if_neg h2] at h
      cases h
section
variable {P : Program} {w : World} {K : PySem.W.Frag} {mg mb : Str → Option Value} {k : Nat} {fa a : Addr} {cs : List (Addr × Addr)} {fd : FuncData} {x : Str} {sp : Sp} {s : Shared} {vs : List Value} {ns : List Int}
theorem law_callG (KX : K.In s.heap) (gn : s.heap.Ns mainGlobals mg) (bn : s.heap.Ns builtinsNs mb) (bb : ∀ x : Str, x ≠ "__name__" → mb x = bootBuiltins x) (nl : s.heap.NoLimit) (ng : s.gens = #[])
    (tT : ∀ p ∈ cs, s.heap.get? p.2 = some tob) (tK : ∀ p ∈ cs, K.lookup p.2 = none) (tC : ∀ p ∈ cs, PySem.W.CodeHd s.heap p.1 p.2)
    (tM : ∃ bm ob, mg "__builtins__" = some (.ref bm) ∧ bm ≠ builtinsNs ∧ s.heap.get? bm = some ob ∧ ob.cls = .type "module" ∧ ob.dict = some builtinsNs ∧ ob.data = .plain)
    (sa : s.heap.get? a = some (sob vs)) (si : IntsAre vs ns) (sl : ns.length ≤ sizeLine) (hr : Room k callerA)
    (F : ∀ base : Heap, K.In base → base.Ns mainGlobals mg → (∀ p ∈ cs, LamX.TabB base mg p.1 p.2) → FnG P w K mg base CX0 k fa fd [x] sp) (hb : ∀ u : Value, BindsTo s fd ⟨[u], []⟩ [(x, u)])
    (law : ∀ H : Hp, (∀ p ∈ cs, H p.2 = some (.tbl #[])) → SqL K H a (ns.map V.int) → sp [.ref a] H (fun v _ => v = .bl true) fun _ _ _ => False) :
    codeAny (model P w) callerA (.call (.ref fa) ⟨[.ref a], []⟩) (fun r s' => r = .ok (.ret (.bool true)) ∧ OldK s.heap s'.heap ∧ s'.os = s.os ∧ AllBare s'.gens) s := by
  have rv := vals_ints si
  have vl : vs.length = ns.length := si.length
  have mT : ∀ p ∈ cs, p.2 ∈ cs.map (·.2) := fun p m => List.mem_map_of_mem m
  have oT : ∀ b ∈ cs.map (·.2), s.heap.get? b = some tob := fun b m => by
    obtain ⟨p, hp, rfl⟩ := List.mem_map.mp m
    exact tT p hp
  have so_ne : sob vs ≠ tob := fun q => nomatch congrArg Obj.cls q
  have aT : a ∉ cs.map (·.2) := fun m => so_ne (Option.some.inj (sa.symm.trans (oT a m)))
  generalize hH : hp0 K (cs.map (·.2)) a vs (ns.map V.int) = H
  have inv : ∀ {b u}, H b = some u → (b ∈ cs.map (·.2) ∧ u = .tbl #[]) ∨ (b = a ∧ K.lookup a = none ∧ u = .frz (sob vs) (.lst (ns.map V.int))) := fun {b u} e => by
    rw [← hH] at e
    exact hp0_inv e
  have HT : ∀ b ∈ cs.map (·.2), H b = some (.tbl #[]) := fun b m => by
    rw [← hH]
    exact if_pos m
  -- what is no table and no list of the script's is not tracked
  have free : ∀ {b o}, s.heap.get? b = some o → o ≠ tob → o ≠ sob vs → H b = none := fun {b o} e n1 n2 => by
    cases q : H b with
    | none => rfl
    | some u =>
      rcases inv q with ⟨m, _⟩ | ⟨rfl, _⟩
      · exact absurd (Option.some.inj (e.symm.trans (oT b m))) n1
      · exact absurd (Option.some.inj (e.symm.trans sa)) n2
  have stay : ∀ {b o}, s.heap.get? b = some o → o ≠ tob → o ≠ sob vs → (hidT s.heap H).get? b = some o := fun e n1 n2 => hidT_get e (free e n1 n2)
  have nsS : ∀ {b : Addr} {m : Str → Option Value}, s.heap.Ns b m → (hidT s.heap H).Ns b m := fun ⟨o, es, ep, e, d, r⟩ =>
    ⟨o, es, ep, stay e (fun q => by rw [q] at d; cases d) (fun q => by rw [q] at d; cases d), d, r⟩
  have sq : SqL K H a (ns.map V.int) := by
    cases q : K.lookup a with
    | none =>
      refine .inl (.inr ⟨sob vs, ?_⟩)
      rw [← hH]
      exact (if_neg aT).trans (if_pos ⟨rfl, q⟩)
    | some o =>
      have e := Option.some.inj ((KX a o q).symm.trans sa)
      subst e
      exact .inr ⟨_, vs.toArray, _, q, rfl, rfl, rfl, by rw [List.size_toArray, vl]; exact sl, by simpa using rv⟩
  have KB : K.In (hidT s.heap H) := fun b o e => by
    refine hidT_get (KX b o e) ?_
    cases q : H b with
    | none => rfl
    | some u =>
      rcases inv q with ⟨m, _⟩ | ⟨rfl, n, _⟩
      · obtain ⟨p, hp, rfl⟩ := List.mem_map.mp m
        rw [tK p hp] at e; cases e
      · rw [n] at e; cases e
  have ok : HOk P w H s.heap := fun b u e => by
    rcases inv e with ⟨m, rfl⟩ | ⟨rfl, _, rfl⟩
    · exact oT b m
    · exact ⟨sa, by rw [List.length_map]; exact sl, vs, _, rv, sa⟩
  have TB : ∀ p ∈ cs, LamX.TabB (hidT s.heap H) mg p.1 p.2 := fun p hp => by
    refine ⟨?_, ?_, fun q => ?_⟩
    · obtain ⟨o, us, file, tf, flags, tg, inF, text, tt, e1, r1, r2, r3, rest⟩ := tC p hp
      refine ⟨o, us, file, tf, flags, tg, inF, text, tt, stay e1 (fun q => ?_) (fun q => ?_), r1, r2, r3, rest⟩
      · rw [q] at r1; cases r1
      · rw [q] at r2; cases r2
    · obtain ⟨bm, ob, b1, b2, b3, b4, b5, b6⟩ := tM
      refine ⟨bm, ob, b1, b2, fun q => ?_, fun q => ?_, stay b3 (fun q => ?_) (fun q => ?_), b4, b5, b6⟩
      · obtain ⟨o, es, ep, e, d, _⟩ := gn
        have z := Option.some.inj ((q ▸ b3).symm.trans e)
        rw [← z, b6] at d; cases d
      · have z := Option.some.inj ((q ▸ b3).symm.trans (tT p hp))
        rw [z] at b6; cases b6
      · rw [q] at b6; cases b6
      · rw [q] at b6; cases b6
    · obtain ⟨o, es, ep, e, d, _⟩ := gn
      have z := Option.some.inj ((q ▸ e).symm.trans (tT p hp))
      rw [z] at d; cases d
  have md : L2.Mod K mg (hidT s.heap H) := ⟨KB, nsS gn, ⟨mb, nsS bn, bb⟩, let ⟨mc, h1, h2⟩ := nl; ⟨mc, nsS h1, h2⟩⟩
  have e0 : Env0 P w K mg (hidT s.heap H) callerA [] s H :=
    { frames := rfl, mod := md, bs := fun b o e => of_hidT e, bsz := Nat.le_of_eq (hidT_size _ _), funs := trivial, frf := fun b m => (nomatch m), hok := ok, bare := .of_eq ng }
  refine codeAny_mono ((F _ KB (nsS gn) TB).run callerA [] s H ⟨[.ref a], []⟩ [.ref a] [.ref a] _ _ rfl hr e0 (hb (.ref a)) (.cons rfl .nil) (law H (fun p hp => HT _ (mT p hp)) sq)) fun r s' h => ?_
  match r, h with
  | .error e, h => exact (h : CX0 [] H s _ e s').elim
  | .ok .next, h => exact False.elim h
  | .ok .brk, h => exact False.elim h
  | .ok .cont, h => exact False.elim h
  | .ok (.ret u), h =>
    obtain ⟨v, H', os, bare, un, ok', r', q⟩ := h
    have q : v = .bl true := q
    subst q
    have r' : u = Value.bool true := r'
    subst r'
    have same : ∀ {b o}, b ∉ cs.map (·.2) → s.heap.get? b = some o → s'.heap.get? b = some o := fun {b o} n e => by
      cases z : H b with
      | none => exact un.keep b o e z (fun m => nomatch m) (fun m => nomatch m)
      | some u =>
        rcases inv z with ⟨m, _⟩ | ⟨rfl, _, rfl⟩
        · exact absurd m n
        · have z' := (ok' _ _ (un.frzs _ _ _ z)).1
          rw [← Option.some.inj (sa.symm.trans e)]
          exact z'
    have more : ∀ p ∈ cs, ∃ more : Array Value, s'.heap.get? p.2 = some { cls := .none, data := .fields more } := fun p hp => by
      obtain ⟨m, z⟩ := un.tbls p.2 #[] (HT _ (mT p hp))
      exact ⟨_, ok' _ _ z⟩
    refine ⟨rfl, ⟨fun b o e => ?_, fun b o e => ?_⟩, os, bare⟩
    · by_cases m : b ∈ cs.map (·.2)
      · obtain ⟨p, hp, rfl⟩ := List.mem_map.mp m
        obtain ⟨arr, z⟩ := more p hp
        have eo := Option.some.inj (e.symm.trans (tT p hp))
        subst eo
        exact .inr (.inl ⟨((tC p hp).tab (tT p hp)).isCodeTable, rfl, #[], arr, rfl, by rw [Array.empty_append]; exact z⟩)
      · exact .inl (same m e)
    · by_cases m : b ∈ cs.map (·.2)
      · obtain ⟨p, hp, rfl⟩ := List.mem_map.mp m
        obtain ⟨arr, z⟩ := more p hp
        exact ⟨_, z⟩
      · exact ⟨o, same m e⟩
end
/-- what is told of the law's promise at the heap h behind the top -/
structure LawG (P : Program) (w : World) (K : PySem.W.Frag) (k n : Nat) (x : Str) (mg : Str → Option Value) (fa : Addr) (h : Heap) : Prop where
  ex : ∃ (fd : FuncData) (cs : List (Addr × Addr)) (sp : Sp), (∀ p ∈ cs, PySem.W.CodeHd h p.1 p.2 ∧ h.get? p.2 = some tob ∧ K.lookup p.2 = none) ∧ (∀ (s : Shared) (u : Value), BindsTo s fd ⟨[u], []⟩ [(x, u)]) ∧
    (∀ (H : Hp) (a : Addr) (ns : List Int), ns.length ≤ n → (∀ p ∈ cs, H p.2 = some (.tbl #[])) → SqL K H a (ns.map V.int) → sp [.ref a] H (fun v _ => v = .bl true) fun _ _ _ => False) ∧
    ∀ base : Heap, K.In base → base.Ns mainGlobals mg → (∀ p ∈ cs, LamX.TabB base mg p.1 p.2) → FnG P w K mg base CX0 k fa fd [x] sp
theorem walk_G {l : PySem.W.OpenLaw} {n k : Nat} {q : Program} {loose : List Str} {XP : (Str → Option Value) → Heap → Prop} {YP : World → Heap → Prop} {d : DefRec} {K : Params → PySem.W.Frag} {x : Str}
    (hn : l.most = some n) (hn2 : n ≤ sizeLine) (hdf : d.params.defaults = []) (hr : Room k callerA) (hY : ∀ (w : World) (h : Heap), YP w h → (K w.params).In h)
    (F : ∀ (w : World) (lo : List Str) (mean : ExcName → Option Value) (mg mb : Str → Option Value) (fa : Addr) (h : Heap), (K w.params).In h → Top q lo mean mg mb h → mg d.name = some (.ref fa) → LawG l.prog w (K w.params) k n x mg fa h) :
    PySem.W.WalkO q loose XP YP l.row.toRowW d [] (fun f vs => PySem.call f vs) := by
  refine Att.attach_callB hn hdf fun w _ s mg mb fa _ _ _ _ a vs ns G Y _ _ _ e1 e2 e3 e4 _ e5 => ?_
  obtain ⟨fd, cs, sp, h1, h2, h3, h4⟩ := (F w _ _ mg mb fa _ (hY w _ Y) G.T e1).ex
  exact law_callG (hY w _ Y) G.T.g G.T.b G.T.builtins G.T.nolimit e5 (fun p m => (h1 p m).2.1) (fun p m => (h1 p m).2.2) (fun p m => (h1 p m).1) G.T.bmain e2 e3 (Nat.le_trans e4 hn2) hr h4 (h2 s) fun H hH hs => h3 H a ns e4 hH hs
/-! ### defs that stand in the written part -/
structure DefIn (K : PySem.W.Frag) (mg : Str → Option Value) (x : Str) (st : Stmt) : Prop where
  ex : ∃ f fd, mg x = some (.ref f) ∧ Fun K x x st f fd
/-- a def whose code is at c -/
structure DefT (K : PySem.W.Frag) (mg : Str → Option Value) (x : Str) (st : Stmt) (c : Addr) : Prop where
  ex : ∃ (f : Addr) (oc : Value) (od : Option Addr) (kV doc pm : Value) (an : Option Addr) (ct : Value) (osl : Array (Option Value)), mg x = some (.ref f) ∧ PySem.W.keepIn K (.ref f) = true ∧
    K.lookup f = some ⟨oc, od, .func (PySem.W.fnOf x x (defArgs st) (defBody st) (defScope st) .none kV doc pm an (.ref c) ct), osl⟩ ∧ PySem.W.codeIn K (.ref c) x = true
section
variable {P : Program} {w : World} {K : PySem.W.Frag} {mg : Str → Option Value} {base h : Heap} {x : Str} {st : Stmt} {f c : Addr} {oc : Value} {od an : Option Addr} {osl : Array (Option Value)} {kV doc pm cdv ct : Value} {N ps : List Str} {k : Nat} {sp : Sp}
theorem def_in (X : K.In h) (G : h.Ns mainGlobals mg) (a : PySem.W.nsIn K mainGlobals x = some (some (.ref f)))
    (l : K.lookup f = some ⟨oc, od, .func (PySem.W.fnOf x x (defArgs st) (defBody st) (defScope st) .none kV doc pm an cdv ct), osl⟩) (c : PySem.W.codeIn K cdv x = true) (k : PySem.W.keepIn K (.ref f) = true) : DefIn K mg x st :=
  ⟨⟨f, _, PySem.W.mg_of X G a, fun_mk l c k⟩⟩
theorem def_t (X : K.In h) (G : h.Ns mainGlobals mg) (a : PySem.W.nsIn K mainGlobals x = some (some (.ref f)))
    (l : K.lookup f = some ⟨oc, od, .func (PySem.W.fnOf x x (defArgs st) (defBody st) (defScope st) .none kV doc pm an (.ref c) ct), osl⟩) (hc : PySem.W.codeIn K (.ref c) x = true) (k : PySem.W.keepIn K (.ref f) = true) : DefT K mg x st c :=
  ⟨⟨f, oc, od, kV, doc, pm, an, ct, osl, PySem.W.mg_of X G a, k, l, hc⟩⟩
abbrev BindsBy (x : Str) (st : Stmt) (ps : List Str) : Prop := ∀ (kV doc pm : Value) (an : Option Addr) (cdv ct : Value) (us : List Value), us.length = ps.length → bindArgs (PySem.W.fnOf x x (defArgs st) (defBody st) (defScope st) .none kV doc pm an cdv ct) ⟨us, []⟩ = pure (ps.zip us)
theorem DefIn.has (D : DefIn K mg x st) (S : FnScope N ps (defScope st)) (b : BindsBy x st ps) (len : ∀ vs H Q E, sp vs H Q E → vs.length = ps.length)
    (hbody : ∀ (f : Addr) (cdv : Value) (A : Around) (outer : List Env) (s : Shared) (H : Hp) (vs : List V) (Q : VK) (E : XK), Room k (A.deeper (envOfC x (defScope st) s.heap.objs.size f cdv)) → sp vs H Q E →
      ∃ t, PSs (cxOf CX0 P w K mg base N x (defScope st) f cdv A outer s H E).nox (defBody st) t ∧ t { nx := fun _ H' => Q .non H', rt := Q } (L2.start N vs) H) : Has P w K mg base CX0 x (k + 1) ps sp := by
  obtain ⟨f, fd, m, F⟩ := D.ex
  exact ⟨⟨f, fd, m, F.kp, F.binds b, F.ok S len (hbody f)⟩⟩
theorem DefIn.hasX (D : DefIn K mg x st) (S : FnScope N ps (defScope st)) (b : BindsBy x st ps) (len : ∀ vs H Q E, sp vs H Q E → vs.length = ps.length)
    (hbody : ∀ (f : Addr) (cdv : Value) (A : Around) (outer : List Env) (s : Shared) (H : Hp) (vs : List V) (Q : VK) (E : XK), Room k (A.deeper (envOfC x (defScope st) s.heap.objs.size f cdv)) → sp vs H Q E →
      ∃ t, PSs (cxOf (L2.CX P w) P w K mg base N x (defScope st) f cdv A outer s H E) (defBody st) t ∧ t { nx := fun _ H' => Q .non H', rt := Q } (L2.start N vs) H) : Has P w K mg base (L2.CX P w) x (k + 1) ps sp := by
  obtain ⟨f, fd, m, F⟩ := D.ex
  exact ⟨⟨f, fd, m, F.kp, F.binds b, F.okX S len (hbody f)⟩⟩
theorem DefIn.hasG (D : DefIn K mg x st) (S : FnScope N ps (defScope st)) (b : BindsBy x st ps) (len : ∀ vs H Q E, sp vs H Q E → vs.length = ps.length)
    (hbody : ∀ (f : Addr) (cdv : Value) (A : Around) (outer : List Env) (s : Shared) (H : Hp) (vs : List V) (Q : VK) (E : XK), A.guards = some [] → Room k (A.deeper (envOfC x (defScope st) s.heap.objs.size f cdv)) → sp vs H Q E →
      ∃ t, PSs (cxOf CX0 P w K mg base N x (defScope st) f cdv A outer s H E).nox (defBody st) t ∧ t { nx := fun _ H' => Q .non H', rt := Q } (L2.start N vs) H) : HasG P w K mg base CX0 x (k + 1) ps sp := by
  obtain ⟨f, fd, m, F⟩ := D.ex
  exact ⟨⟨f, fd, m, F.kp, F.binds b, Fun.okG (N := N) F S len (hbody f)⟩⟩
theorem DefIn.hasL {a : Str} (D : DefIn K mg x st) (S : FnScope N [a] (defScope st)) (b : BindsBy x st [a]) (n0 : N[0]? = some a) (v : Vis (defScope st) a) : HasL K mg x a st N := by
  obtain ⟨f, fd, m, F⟩ := D.ex
  have bb := F.binds b
  obtain ⟨oc, od, kV, doc, pm, an, cdv, ct, osl, e, lk, hcd⟩ := F.ex
  subst e
  exact ⟨⟨f, oc, od, .none, kV, doc, pm, an, cdv, ct, osl, m, F.kp, lk, hcd, bb⟩, S, n0, v⟩
theorem DefT.hasG (D : DefT K mg x st c) (S : FnScope N ps (defScope st)) (b : BindsBy x st ps) (len : ∀ vs H Q E, sp vs H Q E → vs.length = ps.length)
    (hbody : ∀ (f : Addr) (A : Around) (outer : List Env) (s : Shared) (H : Hp) (vs : List V) (Q : VK) (E : XK), A.guards = some [] → Room k (A.deeper (envOfC x (defScope st) s.heap.objs.size f (.ref c))) → sp vs H Q E →
      ∃ t, PSs (cxOf CX0 P w K mg base N x (defScope st) f (.ref c) A outer s H E).nox (defBody st) t ∧ t { nx := fun _ H' => Q .non H', rt := Q } (L2.start N vs) H) : HasG P w K mg base CX0 x (k + 1) ps sp := by
  obtain ⟨f, oc, od, kV, doc, pm, an, ct, osl, m, kp, lk, cd⟩ := D.ex
  refine ⟨⟨f, _, m, kp, .all (b kV doc pm an (.ref c) ct), fnG_of lk cd S len fun A outer s H vs Q E hgd hr hsp => ?_⟩⟩
  obtain ⟨t, ht, hq⟩ := hbody f A outer s H vs Q E hgd hr hsp
  exact ⟨t, ht.nox, hq⟩
/-- the law's own def, with the data of its function told -/
theorem DefT.law {a : Str} {fa : Addr} (D : DefT K mg x st c) (hfa : mg x = some (.ref fa)) (S : FnScope N [a] (defScope st)) (b : BindsBy x st [a]) (len : ∀ vs H Q E, sp vs H Q E → vs.length = 1) :
    ∃ fd : FuncData, (∀ (s : Shared) (u : Value), BindsTo s fd ⟨[u], []⟩ [(a, u)]) ∧ ∀ base : Heap,
      (∀ (f : Addr) (A : Around) (outer : List Env) (s : Shared) (H : Hp) (vs : List V) (Q : VK) (E : XK), A.guards = some [] → Room k (A.deeper (envOfC x (defScope st) s.heap.objs.size f (.ref c))) → sp vs H Q E →
        ∃ t, PSs (cxOf CX0 P w K mg base N x (defScope st) f (.ref c) A outer s H E).nox (defBody st) t ∧ t { nx := fun _ H' => Q .non H', rt := Q } (L2.start N vs) H) → FnG P w K mg base CX0 (k + 1) fa fd [a] sp := by
  obtain ⟨f, oc, od, kV, doc, pm, an, ct, osl, m, kp, lk, cd⟩ := D.ex
  have e := Option.some.inj (hfa.symm.trans m)
  injection e with e
  subst e
  refine ⟨_, fun s u => .of_eq (b kV doc pm an (.ref c) ct [u] rfl), fun base hbody => fnG_of lk cd S len fun A outer s H vs Q E hgd hr hsp => ?_⟩
  obtain ⟨t, ht, hq⟩ := hbody fa A outer s H vs Q E hgd hr hsp
  exact ⟨t, ht.nox, hq⟩
end
theorem tab_any {p : Program} {lo : List Str} {mean : ExcName → Option Value} {mg mb : Str → Option Value} {h : Heap} {K : PySem.W.Frag} {x : Str} {c P : Addr} (T : Top p lo mean mg mb h) (X : K.In h) (hr : ((recsOf p).any fun e => e.name == x) = true)
    (ht : PySem.W.tabIn K x = some (c, P)) (hn : PySem.W.noTabs K = true) : PySem.W.CodeHd h c P ∧ h.get? P = some tob ∧ K.lookup P = none := by
  obtain ⟨d, hd⟩ : ∃ d, (recsOf p).find? (fun e => e.name == x) = some d := by
    obtain ⟨d, m, e⟩ := List.any_eq_true.mp hr
    exact Option.isSome_iff_exists.mp (List.find?_isSome.mpr ⟨d, m, e⟩)
  obtain ⟨h1, h2⟩ := PySem.W.tab_of T X hd ht
  refine ⟨h1, h2, ?_⟩
  cases q : K.lookup P with
  | none => rfl
  | some o =>
    have e := Option.some.inj ((X P o q).symm.trans h2)
    subst e
    exact absurd (List.all_eq_true.mp hn _ (PySem.W.mem_of_lookupK q)) Bool.false_ne_true
theorem tabs_nil {T : List (Addr × Str)} {H : Hp} (h : ∀ p ∈ T, H p.1 = some (.tbl #[])) : LamX.Tabs T H := fun p hp => ⟨#[], h p hp, by trivial, fun pos cv e => by cases e⟩
/-- an own error's class by what is written -/
theorem errC_of {K : PySem.W.Frag} {mg : Str → Option Value} {h : Heap} {x : Str} {C : Addr} (X : K.In h) (G : h.Ns mainGlobals mg) (a : PySem.W.nsIn K mainGlobals x = some (some (.ref C)))
    (xc : PySem.W.excIn K C [.type "ValueError", .type "Exception", .type "BaseException", .type "object"] "ValueError.__new__" = true) (kc : PySem.W.keepIn K (.ref C) = true) (bc : PySem.W.subIn K (.ref C) (.type "BaseException") = some true)
    (tc : PySem.W.typeIn K (.ref C) = some (.type "type")) (ic : PySem.W.isClsIn K C = true)
    (h1 : PySem.W.findIn K (.ref C) "__getattribute__" = some (some (.builtin "BaseException.__getattribute__"))) (h2 : PySem.W.findIn K (.ref C) "__getattr__" = some none) (h4 : PySem.W.hasDictIn K C = true)
    (h5 : PySem.W.findIn K (.ref C) "__class__" = some (some (.builtin "object.__class__"))) (h6 : PySem.W.specialIn K (.builtin "object.__class__") "__get__" = some (some (.builtin "getset_descriptor.__get__")))
    (h7 : PySem.W.takesIn K (.builtin "object.__class__") = some true) (h8 : PySem.W.mroIn K C (.type "object") = some true) : ErrC K mg x C :=
  ⟨PySem.W.mg_of X G a, xc, kc, bc, tc, ic, ⟨h1, h2, bc, h4, h5, h6, h7, h8⟩⟩
theorem str_at {K : PySem.W.Frag} {mg : Str → Option Value} {h : Heap} {x z z' : Str} {t : Tok} (X : K.In h) (G : h.Ns mainGlobals mg) (a : PySem.W.nsIn K mainGlobals x = some (some (.str z' t))) (e : (z' == z) = true) : ∃ t, mg x = some (.str z t) := by
  rw [← eq_of_beq e]
  exact ⟨t, PySem.W.mg_of X G a⟩
theorem int_at {K : PySem.W.Frag} {mg : Str → Option Value} {h : Heap} {x : Str} {z z' : Int} {t : Tok} (X : K.In h) (G : h.Ns mainGlobals mg) (a : PySem.W.nsIn K mainGlobals x = some (some (.int z' t))) (e : (z' == z) = true) : ∃ t, mg x = some (.int z t) := by
  rw [← eq_of_beq e]
  exact ⟨t, PySem.W.mg_of X G a⟩
end FR

set_option Elab.async false
set_option linter.all false
set_option maxRecDepth 100000
set_option maxHeartbeats 4000000
namespace K05
open PySem PySem.Spec PyProof.Rows L2 FR
def topS (i : Nat) : Stmt := PySem.Challenge.pw_firstreads_k05_whole_readings_judged_and.main.body.getD i (.Pass ⟨0, 0, 0, 0⟩)
structure Tx (M : Pm) (mg : Str → Option Value) : Prop where
  n_ValueError : mg "ValueError" = none
  n_all : mg "all" = none
  n_int : mg "int" = none
  n_isinstance : mg "isinstance" = none
  n_len : mg "len" = none
  n_range : mg "range" = none
  n_repr : mg "repr" = none
  n_str : mg "str" = none
  n_tuple : mg "tuple" = none
  g_CLOSE : ∃ t, mg "CLOSE" = some (.str ">" t)
  g_LETTERS : ∃ t, mg "LETTERS" = some (.str "abcdefghijklmnopqrstuvwxyz" t)
  g_MOST_MARK : ∃ t, mg "MOST_MARK" = some (.int 6 t)
  g_MOST_STRINGS : ∃ t, mg "MOST_STRINGS" = some (.int 2000 t)
  g_OPEN : ∃ t, mg "OPEN" = some (.str "<" t)
  g_SIGNS : ∃ t, mg "SIGNS" = some (.str "abcd" t)
  e_NoReading : ErrC M.K mg "NoReading" (M.cls "NoReading")
  e_ReadError : ErrC M.K mg "ReadError" (M.cls "ReadError")
  sub1 : PySem.W.subIn M.K (.ref (M.cls "NoReading")) (.ref (M.cls "ReadError")) = some true
  kit1 : PySem.W.kitOne M.K (.ref (M.cls "NoReading")) (.ref (M.cls "NoReading")) = some true
  kit2 : PySem.W.kitOne M.K (.ref (M.cls "NoReading")) (.type "ValueError") = some true
abbrev s_is_mark : Stmt := topS 7
theorem sc_is_mark : FnScope ["thing", "sign"] ["thing"] (defScope s_is_mark) := ⟨rfl, rfl, rfl, by decide +kernel, rfl, by decide +kernel, by decide +kernel⟩
abbrev s_is_reading : Stmt := topS 12
theorem sc_is_reading : FnScope ["thing", "opened", "one"] ["thing"] (defScope s_is_reading) := ⟨rfl, rfl, rfl, by decide +kernel, rfl, by decide +kernel, by decide +kernel⟩
abbrev s_check_reading : Stmt := topS 13
theorem sc_check_reading : FnScope ["thing"] ["thing"] (defScope s_check_reading) := ⟨rfl, rfl, rfl, by decide +kernel, rfl, by decide +kernel, by decide +kernel⟩
abbrev s_raw_spans : Stmt := topS 14
theorem sc_raw_spans : FnScope ["reading", "found", "opened", "at", "one"] ["reading"] (defScope s_raw_spans) := ⟨rfl, rfl, rfl, by decide +kernel, rfl, by decide +kernel, by decide +kernel⟩
abbrev s_spans : Stmt := topS 15
theorem sc_spans : FnScope ["reading"] ["reading"] (defScope s_spans) := ⟨rfl, rfl, rfl, by decide +kernel, rfl, by decide +kernel, by decide +kernel⟩
abbrev s_raw_text_of : Stmt := topS 16
theorem sc_raw_text_of : FnScope ["reading", "one"] ["reading"] (defScope s_raw_text_of) := ⟨rfl, rfl, rfl, by decide +kernel, rfl, by decide +kernel, by decide +kernel⟩
abbrev s_text_of : Stmt := topS 17
theorem sc_text_of : FnScope ["reading"] ["reading"] (defScope s_text_of) := ⟨rfl, rfl, rfl, by decide +kernel, rfl, by decide +kernel, by decide +kernel⟩
abbrev s_law_bag : Stmt := topS 19
theorem sc_law_bag : FnScope ["script", "cells", "cell"] ["script"] (defScope s_law_bag) := ⟨rfl, rfl, rfl, by decide +kernel, rfl, by decide +kernel, by decide +kernel⟩
abbrev s_law_pick : Stmt := topS 20
theorem sc_law_pick : FnScope ["bag", "width", "cell", "digit", "number"] ["bag", "width"] (defScope s_law_pick) := ⟨rfl, rfl, rfl, by decide +kernel, rfl, by decide +kernel, by decide +kernel⟩
abbrev s_law_some : Stmt := topS 21
theorem sc_law_some : FnScope ["bag", "things"] ["bag", "things"] (defScope s_law_some) := ⟨rfl, rfl, rfl, by decide +kernel, rfl, by decide +kernel, by decide +kernel⟩
abbrev s_law_mark : Stmt := topS 22
theorem sc_law_mark : FnScope ["bag", "letters", "drawn", "turn"] ["bag"] (defScope s_law_mark) := ⟨rfl, rfl, rfl, by decide +kernel, rfl, by decide +kernel, by decide +kernel⟩
abbrev s_law_drawn : Stmt := topS 23
theorem sc_law_drawn : FnScope ["bag", "many", "found", "opened", "turn", "kind", "mark"] ["bag", "many"] (defScope s_law_drawn) := ⟨rfl, rfl, rfl, by decide +kernel, rfl, by decide +kernel, by decide +kernel⟩
abbrev s_law_is_right : Stmt := topS 24
theorem sc_law_is_right : FnScope ["strings", "opened", "string", "letters", "is_mark_v", "sign"] ["strings"] (defScope s_law_is_right) := ⟨rfl, rfl, rfl, by decide +kernel, rfl, by decide +kernel, by decide +kernel⟩
abbrev s_law_spans : Stmt := topS 25
theorem sc_law_spans : FnScope ["strings", "opened", "found", "many", "string"] ["strings"] (defScope s_law_spans) := ⟨rfl, rfl, rfl, by decide +kernel, rfl, by decide +kernel, by decide +kernel⟩
abbrev s_law_error : Stmt := topS 26
theorem sc_law_error : FnScope ["call", "found", "error"] ["call"] (defScope s_law_error) := ⟨rfl, rfl, rfl, by decide +kernel, rfl, by decide +kernel, by decide +kernel⟩
abbrev s_law_is_told_right : Stmt := topS 27
theorem sc_law_is_told_right : FnScope ["strings", "thing", "words", "string"] ["strings"] (defScope s_law_is_told_right) := ⟨rfl, rfl, rfl, by decide +kernel, rfl, by decide +kernel, by decide +kernel⟩
abbrev s_law_changed : Stmt := topS 28
theorem sc_law_changed : FnScope ["bag", "strings", "odd", "at", "turn", "string"] ["bag", "strings"] (defScope s_law_changed) := ⟨rfl, rfl, rfl, by decide +kernel, rfl, by decide +kernel, by decide +kernel⟩
abbrev s_law_are_bounds_right : Stmt := topS 29
theorem sc_law_are_bounds_right : FnScope ["bag", "many", "mark", "row"] ["bag"] (defScope s_law_are_bounds_right) := ⟨rfl, rfl, rfl, by decide +kernel, rfl, by decide +kernel, by decide +kernel⟩
abbrev s_law : Stmt := topS 30
theorem sc_law : FnScope ["script", "bag", "known", "lap", "strings", "turn", "odd"] ["script"] (defScope s_law) := ⟨rfl, rfl, rfl, by decide +kernel, rfl, by decide +kernel, by decide +kernel⟩

set_option Elab.async false
set_option linter.all false
set_option maxRecDepth 100000
set_option maxHeartbeats 4000000
/-! K05S: the mirrors of law_k05's defs and their promises. -/
open PySem PySem.Spec PyProof.Rows L2 FR
/-! ### mirrors -/
def isMark (z : Str) : Bool := decide (1 ≤ z.length) && decide (z.length ≤ 6) && (cs z).all fun c => decide (c ∈ cs "abcdefghijklmnopqrstuvwxyz")
abbrev tail1 (z : Str) : Str := cutS z (some 1) none
/-- one string of a reading, over what is open -/
def rdStep (st : List Str) : V → Option (List Str)
  | .str z => match cs z with
    | [] => none
    | c :: _ => if c = 60 ∧ isMark (tail1 z) = true then some (st ++ [tail1 z])
      else if c = 62 ∧ st.getLast? = some (tail1 z) then some st.dropLast
      else if z.length = 1 ∧ c ∈ cs "abcd" then some st else none
  | _ => none
def rdRun : List V → List Str → Option (List Str)
  | [], st => some st
  | v :: r, st => (rdStep st v).bind (rdRun r)
def isRd (xs : List V) : Bool := decide (xs.length ≤ 2000) && (rdRun xs [] == some [])
/-- the strings' own words -/
def spStep (s : List PyData × List Int × Int) : V → List PyData × List Int × Int
  | .str z => match cs z with
    | [] => s
    | c :: _ => if c = 60 then (s.1, s.2.1 ++ [s.2.2], s.2.2)
      else if c = 62 then (s.1 ++ [.tuple [.str (tail1 z), .int (s.2.1.getLast?.getD 0), .int s.2.2]], s.2.1.dropLast, s.2.2)
      else (s.1, s.2.1, s.2.2 + 1)
  | _ => s
def spRun (xs : List V) : List PyData × List Int × Int := xs.foldl spStep ([], [], 0)
def isSignV : V → Bool
  | .str z => match cs z with
    | [] => false
    | c :: _ => !(decide (c = 60) || decide (c = 62))
  | _ => false
def signsOf (xs : List V) : List V := xs.filter isSignV
def strOf : V → Str
  | .str z => z
  | _ => Str.empty
def textOf (xs : List V) : Str := Txt.join "" ((signsOf xs).map strOf)
/-! ### what the values are -/
/-- a string, None, 3, or a tuple -/
def EV (H : Hp) : V → Prop
  | .str z => z.length ≤ 100 ∧ okS z = true
  | .non => True
  | .int _ => True
  | .ref a => ∃ ys, H a = some (.tup ys)
  | _ => False
theorem EV.keep {S : List Addr} {H H' : Hp} (k : Keep S H H') (hS : ∀ x ∈ S, ∀ ys, H x ≠ some (.tup ys)) : ∀ {v : V}, EV H v → EV H' v
  | .str z, h => h
  | .non, _ => True.intro
  | .int _, _ => True.intro
  | .ref a, ⟨ys, h⟩ => ⟨ys, k a _ h fun m => hS a m ys h⟩
/-- the bag of cells -/
structure Bag (K : PySem.W.Frag) (H : Hp) (b c : Addr) : Prop where
  ex : ∃ (ns : List Int) (i l m n : Int), H b = some (.lst [.ref c, .int i, .int l, .int m, .int n]) ∧ H c = some (.lst (ns.map V.int)) ∧ c ≠ b ∧ ns.length ≤ 63 ∧
    (∀ z ∈ ns, 0 ≤ z ∧ z < 10 ^ 40) ∧ 0 ≤ i ∧ i ≤ ns.length ∧ 0 ≤ l ∧ l < 10 ^ 40 ∧ 0 ≤ m ∧ m < 2147483648 ∧ 0 ≤ n
theorem Bag.lst {K : PySem.W.Frag} {H : Hp} {b c : Addr} (B : Bag K H b c) : ∃ xs, H b = some (.lst xs) := by
  obtain ⟨ns, i, l, m, n, h, _⟩ := B.ex
  exact ⟨_, h⟩
/-- the bag stands over heaps that keep it -/
theorem Bag.keep {K : PySem.W.Frag} {S : List Addr} {H H' : Hp} {b c : Addr} (B : Bag K H b c) (k : Keep S H H') (hb : b ∉ S) (hc : c ∉ S) : Bag K H' b c := by
  obtain ⟨ns, i, l, m, n, h, hs, r⟩ := B.ex
  exact ⟨ns, i, l, m, n, k _ _ h hb, k _ _ hs hc, r⟩
/-- .. where what was new behind the bag is stored -/
theorem Bag.upd {K : PySem.W.Frag} {H H1 : Hp} {b c D : Addr} {o : HO} (B1 : Bag K H1 b c) (B : Bag K H b c) (hD : H D = none) : Bag K (upd H1 D o) b c := by
  obtain ⟨ns0, i0, l0, m0, n0, h0, hs0, _⟩ := B.ex
  obtain ⟨ns, i, l, m, n, h, hs, r⟩ := B1.ex
  exact ⟨ns, i, l, m, n, by rw [upd_ne (ne_of_none h0 hD)]; exact h, by rw [upd_ne (ne_of_none hs0 hD)]; exact hs, r⟩
theorem Bag.new {K : PySem.W.Frag} {H : Hp} {b c D : Addr} {o : HO} (B : Bag K H b c) (hD : H D = none) : Bag K (L2.upd H D o) b c := B.upd B hD
theorem Bag.bc {K : PySem.W.Frag} {H : Hp} {b c : Addr} (B : Bag K H b c) : c ≠ b := by
  obtain ⟨ns, i, l, m, n, h, hs, q, r⟩ := B.ex
  exact q
/-! ### promises -/
def sp_is_mark (M : Pm) : Sp := fun vs H Q _ => ∃ z : Str, vs = [.str z] ∧ z.length ≤ 1000 ∧ ∀ H', Keep [] H H' → Q (.bl (isMark z)) H'
def sp_is_reading (M : Pm) : Sp := fun vs H Q _ => (∃ (a : Addr) (xs : List V), vs = [.ref a] ∧ H a = some (.tup xs) ∧ (∀ v ∈ xs, EV H v) ∧ xs.length ≤ 100000 ∧ ∀ H', Keep [] H H' → Q (.bl (isRd xs)) H') ∨
  (∃ (v : V) (t : String), vs = [v] ∧ TyX M.K H v (.type t) ∧ kitB t "tuple" = some false ∧ ∀ H', Keep [] H H' → Q (.bl false) H')
def sp_check_reading (M : Pm) : Sp := fun vs H Q E => (∃ (a : Addr) (xs : List V), vs = [.ref a] ∧ H a = some (.tup xs) ∧ (∀ v ∈ xs, EV H v) ∧ xs.length ≤ 100000 ∧
    (isRd xs = true → ∀ H', Keep [] H H' → Q .non H') ∧ (isRd xs = false → ∀ H', Keep [] H H' → E (.ref (M.cls "NoReading")) none H')) ∨
  (∃ (v : V) (t : String), vs = [v] ∧ TyX M.K H v (.type t) ∧ kitB t "tuple" = some false ∧ ∀ H', Keep [] H H' → E (.ref (M.cls "NoReading")) none H')
def sp_raw_spans (M : Pm) : Sp := fun vs H Q _ => ∃ (a : Addr) (xs : List V), vs = [.ref a] ∧ H a = some (.tup xs) ∧ (∀ v ∈ xs, EV H v) ∧ isRd xs = true ∧
  ∀ H' p ws, H p = none → Keep [] H H' → H' p = some (.lst ws) → DpAll M.K H' ws (spRun xs).1 → ws.length ≤ 2000 → Q (.ref p) H'
def sp_spans (M : Pm) : Sp := fun vs H Q E => (∃ (a : Addr) (xs : List V), vs = [.ref a] ∧ H a = some (.tup xs) ∧ (∀ v ∈ xs, EV H v) ∧ xs.length ≤ 100000 ∧
    (isRd xs = true → ∀ H' p, Keep [] H H' → Dp M.K H' (.ref p) (.tuple (spRun xs).1) → Q (.ref p) H') ∧ (isRd xs = false → ∀ H', Keep [] H H' → E (.ref (M.cls "NoReading")) none H')) ∨
  (∃ (v : V) (t : String), vs = [v] ∧ TyX M.K H v (.type t) ∧ kitB t "tuple" = some false ∧ ∀ H', Keep [] H H' → E (.ref (M.cls "NoReading")) none H')
def sp_raw_text_of (M : Pm) : Sp := fun vs H Q _ => ∃ (a : Addr) (xs : List V), vs = [.ref a] ∧ H a = some (.tup xs) ∧ (∀ v ∈ xs, EV H v) ∧ isRd xs = true ∧ ∀ H', Keep [] H H' → Q (.str (textOf xs)) H'
def sp_text_of (M : Pm) : Sp := fun vs H Q E => ∃ (a : Addr) (xs : List V), vs = [.ref a] ∧ H a = some (.tup xs) ∧ (∀ v ∈ xs, EV H v) ∧ xs.length ≤ 100000 ∧
    (isRd xs = true → ∀ H', Keep [] H H' → Q (.str (textOf xs)) H') ∧ (isRd xs = false → ∀ H', Keep [] H H' → E (.ref (M.cls "NoReading")) none H')
def sp_law_bag (M : Pm) : Sp := fun vs H Q _ => ∃ (a : Addr) (ns : List Int), vs = [.ref a] ∧ SqL M.K H a (ns.map V.int) ∧ ns.length ≤ 63 ∧ ∀ H' b c, H b = none → Keep [] H H' → Bag M.K H' b c → Q (.ref b) H'
def sp_law_pick (M : Pm) : Sp := fun vs H Q _ => ∃ (b c : Addr) (n : Int), vs = [.ref b, .int n] ∧ Bag M.K H b c ∧ 1 ≤ n ∧ n ≤ 1000000 ∧ ∀ H' d, Keep [b] H H' → Bag M.K H' b c → 0 ≤ d → d < n → Q (.int d) H'
/-- what is drawn from: a list or a text -/
def sp_law_some (M : Pm) : Sp := fun vs H Q _ => ∃ (b c : Addr) (x : V) (items : List V), vs = [.ref b, x] ∧ Bag M.K H b c ∧ 1 ≤ items.length ∧ items.length ≤ 1000000 ∧
  ((∃ a, x = .ref a ∧ a ≠ b ∧ H a = some (.lst items)) ∨ ∃ z, x = .str z ∧ items = signsV z) ∧ ∀ H' v, v ∈ items → Keep [b] H H' → Bag M.K H' b c → Q v H'
/-- a text whose every code is of some -/
def Of (l : List Nat) (z : Str) : Prop := ∀ c ∈ cs z, c ∈ l
def sp_law_mark (M : Pm) : Sp := fun vs H Q _ => ∃ b c : Addr, vs = [.ref b] ∧ Bag M.K H b c ∧ ∀ H' z, Keep [b] H H' → Bag M.K H' b c → z.length ≤ 6 → isMark z = true → Q (.str z) H'
/-- a new list of strings that are there -/
def NewRow (H H' : Hp) (p : Addr) (m : Nat) : Prop := H p = none ∧ ∃ xs, H' p = some (.lst xs) ∧ (∀ v ∈ xs, EV H' v) ∧ xs.length ≤ m
def sp_law_drawn (M : Pm) : Sp := fun vs H Q _ => ∃ (b c : Addr) (n : Int), vs = [.ref b, .int n] ∧ Bag M.K H b c ∧ 0 ≤ n ∧ n ≤ 100 ∧ ∀ H' p, Keep [b] H H' → Bag M.K H' b c → NewRow H H' p 200 → Q (.ref p) H'
def sp_law_is_right (M : Pm) : Sp := fun vs H Q _ => ∃ (a : Addr) (xs : List V), vs = [.ref a] ∧ H a = some (.lst xs) ∧ (∀ v ∈ xs, EV H v) ∧ xs.length ≤ 100000 ∧ ∀ H', Keep [] H H' → Q (.bl (isRd xs)) H'
def sp_law_spans (M : Pm) : Sp := fun vs H Q _ => ∃ (a : Addr) (xs : List V), vs = [.ref a] ∧ H a = some (.lst xs) ∧ (∀ v ∈ xs, EV H v) ∧ isRd xs = true ∧
  ∀ H' p ws, H p = none → Keep [] H H' → H' p = some (.lst ws) → DpAll M.K H' ws (spRun xs).1 → ws.length ≤ 2000 → Q (.ref p) H'
/-- all but the tables of lambdas stands, but at S; the tables stay tables -/
def KeepT (S : List Addr) (H H' : Hp) : Prop := ∀ b o, H b = some o → (∀ ps, o ≠ .tbl ps) → b ∉ S → H' b = some o
def sp_law_is_told_right (M : Pm) : Sp := fun vs H Q _ => ∃ (a : Addr) (xs : List V), vs = [.ref a] ∧ H a = some (.lst xs) ∧ (∀ v ∈ xs, EV H v) ∧ xs.length ≤ 100000 ∧ LamX.Tabs M.tabs H ∧
  ∀ H', KeepT [] H H' → LamX.Tabs M.tabs H' → Q (.bl true) H'
def sp_law_changed (M : Pm) : Sp := fun vs H Q _ => ∃ (b c a : Addr) (xs : List V), vs = [.ref b, .ref a] ∧ a ≠ b ∧ a ≠ c ∧ Bag M.K H b c ∧ H a = some (.lst xs) ∧ (∀ v ∈ xs, EV H v) ∧ xs.length ≤ 5000 ∧
  ∀ H' p, Keep [b] H H' → Bag M.K H' b c → NewRow H H' p (4 * xs.length + 1) → Q (.ref p) H'
def sp_law_are_bounds_right (M : Pm) : Sp := fun vs H Q _ => ∃ b c : Addr, vs = [.ref b] ∧ Bag M.K H b c ∧ LamX.Tabs M.tabs H ∧ ∀ H', LamX.Tabs M.tabs H' → Q (.bl true) H'
def sp_law (M : Pm) : Sp := fun vs H Q _ => ∃ (a : Addr) (ns : List Int), vs = [.ref a] ∧ SqL M.K H a (ns.map V.int) ∧ ns.length ≤ 63 ∧ LamX.Tabs M.tabs H ∧ ∀ H', Q (.bl true) H'

set_option Elab.async false
set_option linter.all false
set_option maxRecDepth 100000
set_option maxHeartbeats 1000000
/-! K05D: the readings and their derivations, printed by gen.py; what _law_error makes of a lambda. -/
open PySem PySem.Spec PyProof.Rows L2 FR
/-! ### what _law_error makes of the lambda -/
def TT_law_error (M : Pm) : (XK → Hp → VK → Prop) → Hp → VK → Prop := fun tl H Q =>
  tl (fun cls d H' => cls = .ref (M.cls "NoReading") ∧ d = none ∧ Q (.str "reading") H') H (fun _ H' => ∃ v, some (some (V.str "told")) = some (some v) ∧ Q v H')
theorem exm_own {K : PySem.W.Frag} {mg : Str → Option Value} {x : Str} {C D : Addr} (hC : ErrC K mg x C) (hs : PySem.W.subIn K (.ref D) (.ref C) = some true) : PySem.W.exmOne K (.ref D) (.ref C) = some true :=
  PySem.W.exm_ref hC.b hC.c.hd hC.t hs
def t_err_suite (M : Pm) (a : Addr) (cls : Value) (d : Option Addr) : TS :=
  tAsg (tIf (tAnd (tB (tCB (rIsErr M.K a cls d) (tCons (tVar 2) (tCons (tC (.ref (M.cls "NoReading"))) tNil)))) (tB (tCB (rIsErr M.K a cls d) (tCons (tVar 2) (tCons (tC (.ty "ValueError")) tNil))))) (tC (.str "reading")) (tC (.str "other"))) (gName 1)
theorem gives_law_error {X : Cx} {M : Pm} {q : Str} (hK : X.K = M.K) (T : Tx M X.mg) (g : Addr) (cdg : Value) :
    LamX.GivesTo X ["call", "found", "error"] "_law_error" (defScope s_law_error) g cdg (defBody s_law_error) "call" q (TT_law_error M) := by
  obtain ⟨K, cl, tabs⟩ := M
  have hK' : X.K = K := hK
  subst hK'
  intro f c' s H Q tl act hc h
  refine ⟨_, pss_cons (ps_set (i := 1) sc_law_error.nd rfl (Or.inl rfl) pe_str)
    (pss_cons (ps_try_as (i := 2) (c := .ref (cl "ReadError"))
      (tb := fun W D σ H => ∃ Ech : XK, (∀ cls d σ' H', Ech cls d H' → σ'.length = 3 → W cls d σ' H') ∧ σ[0]? = some (some (.ref f)) ∧ H c' = some (LamX.CodeO c' q) ∧ tl Ech H (fun _ H' => D.nx σ H'))
      (ts := t_err_suite ⟨X.K, cl, tabs⟩) (Wout := fun _ _ _ _ => False) rfl rfl sc_law_error.nd rfl rfl ⟨rfl, by decide, Or.inl T.e_ReadError.g⟩ takes0 (fun W pn xe tk _ => ?_)
      (fun a oe cls d pn hz hf => pss_one (ps_set (i := 1) sc_law_error.nd rfl (Or.inl rfl) (pe_ifExp (PW.pt (pw_and (pt_val (pe_callB (call_isErr hz hf) (by rfl) T.n_isinstance (by decide +kernel) (pa_cons (pv 2) (pa_cons (pe_glob rfl T.e_NoReading.g rfl) pa_nil))))
        (pw_and1 (pt_val (pe_callB (call_isErr hz hf) (by rfl) T.n_isinstance (by decide +kernel) (pa_cons (pv 2) (pa_cons (pe_bltn (by rfl) T.n_ValueError (by decide +kernel) rfl) pa_nil))))))) pe_str pe_str))))
      (pss_one (ps_ret (pv 1)))), ?_⟩
  · refine ⟨fun pins s' σ H' D I h' => ?_⟩
    obtain ⟨Ech, hW, h1, h2, h3⟩ := h'
    have hp := fun p1 p2 => act (fun cls d σ H => σ.length = 3 → W cls d σ H) pn xe Ech p1 p2 (takes_len tk) hW
    exact (pss_one (ps_expr (hp _ _))).run pins s' σ H' D I ⟨h1, h2, h3⟩
  · refine ⟨fun cls d H' => cls = .ref (cl "NoReading") ∧ d = none ∧ Q (.str "reading") H', ?_, rfl, hc, ?_⟩
    · rintro _ _ σ' H' ⟨rfl, rfl, hq⟩ hl
      obtain ⟨x, y, z, rfl⟩ : ∃ x y z, σ' = [x, y, z] := by
        match σ', hl with
        | [x, y, z], _ => exact ⟨x, y, z, rfl⟩
      refine ⟨true, exm_own T.e_ReadError T.sub1, fun _ a _ => ?_, fun e => nomatch e⟩
      dsimp only [t_err_suite, tAsg, tIf, tAnd, tB, tCB, tCons, tVar, tC, tNil, gName, List.set]
      refine ⟨_, rfl, cl "NoReading", _, .ref (cl "NoReading"), true, rfl, rfl, T.e_NoReading.c, rfl, fun u h => by cases h; rfl, T.kit1, _, rfl, ?_⟩
      refine if1 rfl ⟨_, rfl, cl "NoReading", _, .type "ValueError", true, rfl, rfl, T.e_NoReading.c, rfl, fun u h => by cases h; rfl, T.kit2, _, rfl, if1 rfl ?_⟩
      exact ⟨_, rfl, hq⟩
    · exact h
/-! ### is_mark -/
def t_is_mark_0 (M : Pm) : TS := tRet (tAndV (tCB (rIsi M.K) (tCons (tVar 0) (tCons (tC (.ty "str")) tNil))) (tAndV (tChain rLeI rLeI (tC (.int 1)) (tCB (rLenV M.K) (tCons (tVar 0) tNil)) (tC (.int 6))) (tCB (rAll M.K) (tCons (tLc (iStr (tVar 0)) (gName 1) (tYes) (tOp rInS (tVar 1) (tC (.str "abcdefghijklmnopqrstuvwxyz"))) [1]) tNil))))
def t_is_mark (M : Pm) : TS := t_is_mark_0 M
section
variable {P : Program} {w : World} {mg : Str → Option Value} {base : Heap} {f : Addr} {cdv : Value} {A : Around} {outer : List Env} {s : Shared} {H : Hp} {E : XK} {M : Pm}
theorem d_is_mark (T : Tx M mg) (hr : Room 0 (A.deeper (envOfC "is_mark" (defScope s_is_mark) s.heap.objs.size f cdv))) :
    PSs (cxOf CX0 P w M.K mg base ["thing", "sign"] "is_mark" (defScope s_is_mark) f cdv A outer s H E).nox (defBody s_is_mark) (t_is_mark M) := by
  exact (pss_one (ps_ret (pe_and (pe_callB call_isi (by rfl) T.n_isinstance (by decide +kernel) (pa_cons (pv 0) (pa_cons (pe_bltn (by rfl) T.n_str (by decide +kernel) rfl) pa_nil))) (pe_and (pe_chain op_le op_le pe_int (pe_callB call_len (by rfl) T.n_len (by decide +kernel) (pa_cons (pv 0) pa_nil)) (pe_glob rfl (T.g_MOST_MARK).choose_spec ⟨_, rfl⟩)) (pe_one (pe_callB (cr_all rfl) (by rfl) T.n_all (by decide +kernel) (pa_cons (pe_lc (own := [("sign", 1)]) rfl sc_is_mark.nd (pi_str (pv 0)) (blkOk_by (own := [("sign", 1)]) (N := ["thing", "sign"]) (sc := defScope s_is_mark) (by decide +kernel)) (fun _ _ _ _ _ => (pg_name (i := 1) sc_is_mark.nd rfl (Or.inl rfl))) (fun _ _ _ _ _ => pts_nil) (fun _ _ _ _ _ => (pe_cmpR op_in_sign (pv 1) (pe_glob rfl (T.g_LETTERS).choose_spec ⟨_, rfl⟩) (by rfl)))) pa_nil)))))))
end
/-! ### is_reading -/
def t_is_reading_0t_0 (M : Pm) : TS := tRet (tC (.bl false))
def t_is_reading_0t (M : Pm) : TS := t_is_reading_0t_0 M
def t_is_reading_0 (M : Pm) : TS := tIfS (tOr (tNot (tB (tCB (rIsi M.K) (tCons (tVar 0) (tCons (tC (.ty "tuple")) tNil))))) (tTest (tOp rGtI (tCB (rLenV M.K) (tCons (tVar 0) tNil)) (tC (.int 2000))))) (t_is_reading_0t M) (tNext)
def t_is_reading_1 (M : Pm) : TS := tAsg (tLst tNil) (gName 1)
def t_is_reading_2l_0t_0 (M : Pm) : TS := tRet (tC (.bl false))
def t_is_reading_2l_0t (M : Pm) : TS := t_is_reading_2l_0t_0 M
def t_is_reading_2l_0 (M : Pm) : TS := tIfS (tOr (tNot (tB (tCB (rIsi M.K) (tCons (tVar 2) (tCons (tC (.ty "str")) tNil))))) (tTest (tOp rEq (tCB (rLenV M.K) (tCons (tVar 2) tNil)) (tC (.int 0))))) (t_is_reading_2l_0t M) (tNext)
def t_is_reading_2l_1t_0 (M : Pm) : TS := tDrop (tBM M.K "list" rAppend (tVar 1) (tCons (tSl rSlS (tVar 2) (tPart (tC (.int 1))) tNoPart) tNil))
def t_is_reading_2l_1t (M : Pm) : TS := t_is_reading_2l_1t_0 M
def t_is_reading_2l_1e_0t_0 (M : Pm) : TS := tDrop (tBM0 M.K "list" rPop (tVar 1))
def t_is_reading_2l_1e_0t (M : Pm) : TS := t_is_reading_2l_1e_0t_0 M
def t_is_reading_2l_1e_0e_0t_0 (M : Pm) : TS := tRet (tC (.bl false))
def t_is_reading_2l_1e_0e_0t (M : Pm) : TS := t_is_reading_2l_1e_0e_0t_0 M
def t_is_reading_2l_1e_0e_0 (M : Pm) : TS := tIfS (tOr (tTest (tOp rNe (tCB (rLenV M.K) (tCons (tVar 2) tNil)) (tC (.int 1)))) (tTest (tOp rNotInStr (tVar 2) (tC (.str "abcd"))))) (t_is_reading_2l_1e_0e_0t M) (tNext)
def t_is_reading_2l_1e_0e (M : Pm) : TS := t_is_reading_2l_1e_0e_0 M
def t_is_reading_2l_1e_0 (M : Pm) : TS := tIfS (tAnd (tTest (tOp rEq (tOp rIxS (tVar 2) (tC (.int 0))) (tC (.str ">")))) (tAnd (tTest (tOp rGtI (tCB (rLenV M.K) (tCons (tVar 1) tNil)) (tC (.int 0)))) (tTest (tOp rEq (tOp (rIxL M.K) (tVar 1) (tUn rNegI (tC (.int 1)))) (tSl rSlS (tVar 2) (tPart (tC (.int 1))) tNoPart))))) (t_is_reading_2l_1e_0t M) (t_is_reading_2l_1e_0e M)
def t_is_reading_2l_1e (M : Pm) : TS := t_is_reading_2l_1e_0 M
def t_is_reading_2l_1 (M : Pm) : TS := tIfS (tAnd (tTest (tOp rEq (tOp rIxS (tVar 2) (tC (.int 0))) (tC (.str "<")))) (tB (tCall (sp_is_mark M) [] E0 (tCons (tSl rSlS (tVar 2) (tPart (tC (.int 1))) tNoPart) tNil)))) (t_is_reading_2l_1t M) (t_is_reading_2l_1e M)
def t_is_reading_2l (M : Pm) : TS := tSeq (t_is_reading_2l_0 M) (t_is_reading_2l_1 M)
def t_is_reading_2 (M : Pm) : TS := tFor (iTup M.K (tVar 0)) (gName 2) (t_is_reading_2l M)
def t_is_reading_3 (M : Pm) : TS := tRet (tOp rEq (tCB (rLenV M.K) (tCons (tVar 1) tNil)) (tC (.int 0)))
def t_is_reading (M : Pm) : TS := tSeq (t_is_reading_0 M) (tSeq (t_is_reading_1 M) (tSeq (t_is_reading_2 M) (t_is_reading_3 M)))
section
variable {P : Program} {w : World} {mg : Str → Option Value} {base : Heap} {f : Addr} {cdv : Value} {A : Around} {outer : List Env} {s : Shared} {H : Hp} {E : XK} {M : Pm}
theorem d_is_reading (T : Tx M mg) (hr : Room 1 (A.deeper (envOfC "is_reading" (defScope s_is_reading) s.heap.objs.size f cdv))) (G_is_mark : Has P w M.K mg base CX0 "is_mark" 1 ["thing"] (sp_is_mark M)) :
    PSs (cxOf CX0 P w M.K mg base ["thing", "opened", "one"] "is_reading" (defScope s_is_reading) f cdv A outer s H E).nox (defBody s_is_reading) (t_is_reading M) := by
  exact (pss_cons (ps_if (PW.pt (pw_or (pt_not (pt_val (pe_callB call_isi (by rfl) T.n_isinstance (by decide +kernel) (pa_cons (pv 0) (pa_cons (pe_bltn (by rfl) T.n_tuple (by decide +kernel) rfl) pa_nil))))) (pw_or1 (pt_cmpR op_gt (pe_callB call_len (by rfl) T.n_len (by decide +kernel) (pa_cons (pv 0) pa_nil)) (pe_glob rfl (T.g_MOST_STRINGS).choose_spec ⟨_, rfl⟩) (nomark _))))) (pss_one (ps_ret pe_bl)) pss_nil)
    (pss_cons (ps_set (i := 1) sc_is_reading.nd rfl (Or.inl rfl) (pe_lst pa_nil))
    (pss_cons (ps_for PassesOwn.never rfl (pi_tup (pv 0)) (pg_name (i := 2) sc_is_reading.nd rfl (Or.inl rfl)) (pss_cons (ps_if (PW.pt (pw_or (pt_not (pt_val (pe_callB call_isi (by rfl) T.n_isinstance (by decide +kernel) (pa_cons (pv 2) (pa_cons (pe_bltn (by rfl) T.n_str (by decide +kernel) rfl) pa_nil))))) (pw_or1 (pt_cmpR op_eq (pe_callB call_len (by rfl) T.n_len (by decide +kernel) (pa_cons (pv 2) pa_nil)) pe_int (nomark _))))) (pss_one (ps_ret pe_bl)) pss_nil)
    (pss_one (ps_if (PW.pt (pw_and (pt_cmpR op_eq (pe_ix ix_str (pv 2) pe_int (fun _ _ => rfl)) (pe_glob rfl (T.g_OPEN).choose_spec ⟨_, rfl⟩) (nomark _)) (pw_and1 (pt_val (pc G_is_mark (hr.mono (by decide)) (by rfl) pass0 (pa_cons (pe_slice sl_str (pv 2) (po_some pe_int) po_none) pa_nil)))))) (pss_one (ps_expr (pe_bm PySem.F.plainAttrs_list PySem.F.slot_list_append PySem.F.type_list_append mt_append (pv 1) (pa_cons (pe_slice sl_str (pv 2) (po_some pe_int) po_none) pa_nil)))) (pss_one (ps_if (PW.pt (pw_and (pt_cmpR op_eq (pe_ix ix_str (pv 2) pe_int (fun _ _ => rfl)) (pe_glob rfl (T.g_CLOSE).choose_spec ⟨_, rfl⟩) (nomark _)) (pw_and (pt_cmpR op_gt (pe_callB call_len (by rfl) T.n_len (by decide +kernel) (pa_cons (pv 1) pa_nil)) pe_int (nomark _)) (pw_and1 (pt_cmpR op_eq (pe_ix ix_list (pv 1) (pe_un un_neg pe_int) (fun _ _ => rfl)) (pe_slice sl_str (pv 2) (po_some pe_int) po_none) (nomark _)))))) (pss_one (ps_expr (pe_bm0 PySem.F.plainAttrs_list PySem.F.slot_list_pop PySem.F.type_list_pop mt_pop (pv 1)))) (pss_one (ps_if (PW.pt (pw_or (pt_cmpR op_ne (pe_callB call_len (by rfl) T.n_len (by decide +kernel) (pa_cons (pv 2) pa_nil)) pe_int (nomark _)) (pw_or1 (pt_cmpR op_notin_str (pv 2) (pe_glob rfl (T.g_SIGNS).choose_spec ⟨_, rfl⟩) (by rfl))))) (pss_one (ps_ret pe_bl)) pss_nil))))))))
    (pss_one (ps_ret (pe_cmpR op_eq (pe_callB call_len (by rfl) T.n_len (by decide +kernel) (pa_cons (pv 1) pa_nil)) pe_int (nomark _)))))))
end
/-! ### check_reading -/
def t_check_reading_0t_0 (M : Pm) (E : XK) : TS := fun _ _ H => E (.ref (M.cls "NoReading")) none H
def t_check_reading_0t (M : Pm) (E : XK) : TS := t_check_reading_0t_0 M E
def t_check_reading_0 (M : Pm) (E : XK) : TS := tIfS (tNot (tB (tCall (sp_is_reading M) [] E0 (tCons (tVar 0) tNil)))) (t_check_reading_0t M E) (tNext)
def t_check_reading (M : Pm) (E : XK) : TS := t_check_reading_0 M E
section
variable {P : Program} {w : World} {mg : Str → Option Value} {base : Heap} {f : Addr} {cdv : Value} {A : Around} {outer : List Env} {s : Shared} {H : Hp} {E : XK} {M : Pm}
theorem d_check_reading (T : Tx M mg) (hr : Room 2 (A.deeper (envOfC "check_reading" (defScope s_check_reading) s.heap.objs.size f cdv))) (G_is_reading : Has P w M.K mg base CX0 "is_reading" 2 ["thing"] (sp_is_reading M)) :
    PSs (cxOf (L2.CX P w) P w M.K mg base ["thing"] "check_reading" (defScope s_check_reading) f cdv A outer s H E) (defBody s_check_reading) (t_check_reading M E) := by
  exact (pss_one (ps_if (pt_not (pt_val (pc G_is_reading (hr.mono (by decide)) (by rfl) pass0 (pa_cons (pv 0) pa_nil)))) (pss_one (ps_raise (W := fun cls d _ H => E cls d H) rfl (takes_of rfl rfl rfl rfl) (pmk_own0 PySem.F.excBase_ValueError T.e_NoReading.x T.e_NoReading.g T.e_NoReading.k (raises_own T.e_NoReading.b T.e_NoReading.t) (by exact rfl)))) pss_nil))
end
/-! ### raw_spans -/
def t_raw_spans_0 (M : Pm) : TS := tPar3 1 2 3 (tCons (tLst tNil) (tCons (tLst tNil) (tCons (tC (.int 0)) tNil)))
def t_raw_spans_1l_0t_0 (M : Pm) : TS := tDrop (tBM M.K "list" rAppend (tVar 2) (tCons (tVar 3) tNil))
def t_raw_spans_1l_0t (M : Pm) : TS := t_raw_spans_1l_0t_0 M
def t_raw_spans_1l_0e_0t_0 (M : Pm) : TS := tDrop (tBM M.K "list" rAppend (tVar 1) (tCons (tTup (tCons (tSl rSlS (tVar 4) (tPart (tC (.int 1))) tNoPart) (tCons (tBM0 M.K "list" rPop (tVar 2)) (tCons (tVar 3) tNil)))) tNil))
def t_raw_spans_1l_0e_0t (M : Pm) : TS := t_raw_spans_1l_0e_0t_0 M
def t_raw_spans_1l_0e_0e_0 (M : Pm) : TS := tAug 3 (tC (.int 1)) (ipI fun i j => i + j)
def t_raw_spans_1l_0e_0e (M : Pm) : TS := t_raw_spans_1l_0e_0e_0 M
def t_raw_spans_1l_0e_0 (M : Pm) : TS := tIfS (tTest (tOp rEq (tOp rIxS (tVar 4) (tC (.int 0))) (tC (.str ">")))) (t_raw_spans_1l_0e_0t M) (t_raw_spans_1l_0e_0e M)
def t_raw_spans_1l_0e (M : Pm) : TS := t_raw_spans_1l_0e_0 M
def t_raw_spans_1l_0 (M : Pm) : TS := tIfS (tTest (tOp rEq (tOp rIxS (tVar 4) (tC (.int 0))) (tC (.str "<")))) (t_raw_spans_1l_0t M) (t_raw_spans_1l_0e M)
def t_raw_spans_1l (M : Pm) : TS := t_raw_spans_1l_0 M
def t_raw_spans_1 (M : Pm) : TS := tFor (iTup M.K (tVar 0)) (gName 4) (t_raw_spans_1l M)
def t_raw_spans_2 (M : Pm) : TS := tRet (tVar 1)
def t_raw_spans (M : Pm) : TS := tSeq (t_raw_spans_0 M) (tSeq (t_raw_spans_1 M) (t_raw_spans_2 M))
section
variable {P : Program} {w : World} {mg : Str → Option Value} {base : Heap} {f : Addr} {cdv : Value} {A : Around} {outer : List Env} {s : Shared} {H : Hp} {E : XK} {M : Pm}
theorem d_raw_spans (T : Tx M mg) (hr : Room 0 (A.deeper (envOfC "raw_spans" (defScope s_raw_spans) s.heap.objs.size f cdv))) :
    PSs (cxOf CX0 P w M.K mg base ["reading", "found", "opened", "at", "one"] "raw_spans" (defScope s_raw_spans) f cdv A outer s H E).nox (defBody s_raw_spans) (t_raw_spans M) := by
  exact (pss_cons (ps_par3 (i := 1) (j := 2) (l := 3) rfl sc_raw_spans.nd rfl rfl rfl (by decide) (by decide) (by decide) rfl rfl rfl (pa_cons (pe_lst pa_nil) (pa_cons (pe_lst pa_nil) (pa_cons pe_int pa_nil))) (by rfl))
    (pss_cons (ps_for PassesOwn.never rfl (pi_tup (pv 0)) (pg_name (i := 4) sc_raw_spans.nd rfl (Or.inl rfl)) (pss_one (ps_if (pt_cmpR op_eq (pe_ix ix_str (pv 4) pe_int (fun _ _ => rfl)) (pe_glob rfl (T.g_OPEN).choose_spec ⟨_, rfl⟩) (nomark _)) (pss_one (ps_expr (pe_bm PySem.F.plainAttrs_list PySem.F.slot_list_append PySem.F.type_list_append mt_append (pv 2) (pa_cons (pv 3) pa_nil)))) (pss_one (ps_if (pt_cmpR op_eq (pe_ix ix_str (pv 4) pe_int (fun _ _ => rfl)) (pe_glob rfl (T.g_CLOSE).choose_spec ⟨_, rfl⟩) (nomark _)) (pss_one (ps_expr (pe_bm PySem.F.plainAttrs_list PySem.F.slot_list_append PySem.F.type_list_append mt_append (pv 1) (pa_cons (pe_tup (pa_cons (pe_slice sl_str (pv 4) (po_some pe_int) po_none) (pa_cons (pe_bm0 PySem.F.plainAttrs_list PySem.F.slot_list_pop PySem.F.type_list_pop mt_pop (pv 2)) (pa_cons (pv 3) pa_nil)))) pa_nil)))) (pss_one (ps_aug (i := 3) sc_raw_spans.nd rfl (Or.inl rfl) pe_int ip_add)))))))
    (pss_one (ps_ret (pv 1)))))
end
/-! ### spans -/
def t_spans_0 (M : Pm) (E : XK) : TS := tDrop (tCall (sp_check_reading M) [] E (tCons (tVar 0) tNil))
def t_spans_1 (M : Pm) (E : XK) : TS := tRet (tCB (rTupOf M.K) (tCons (tCall (sp_raw_spans M) [] E0 (tCons (tVar 0) tNil)) tNil))
def t_spans (M : Pm) (E : XK) : TS := tSeq (t_spans_0 M E) (t_spans_1 M E)
section
variable {P : Program} {w : World} {mg : Str → Option Value} {base : Heap} {f : Addr} {cdv : Value} {A : Around} {outer : List Env} {s : Shared} {H : Hp} {E : XK} {M : Pm}
theorem d_spans (T : Tx M mg) (hr : Room 3 (A.deeper (envOfC "spans" (defScope s_spans) s.heap.objs.size f cdv))) (G_check_reading : Has P w M.K mg base (L2.CX P w) "check_reading" 3 ["thing"] (sp_check_reading M)) (G_raw_spans : Has P w M.K mg base CX0 "raw_spans" 1 ["reading"] (sp_raw_spans M)) :
    PSs (cxOf (L2.CX P w) P w M.K mg base ["reading"] "spans" (defScope s_spans) f cdv A outer s H E) (defBody s_spans) (t_spans M E) := by
  exact (pss_cons (ps_expr (pc G_check_reading (hr.mono (by decide)) (by rfl) (passes_call (W := fun cls d _ H => E cls d H) (takes_of rfl rfl rfl rfl) fun _ _ _ _ h => h) (pa_cons (pv 0) pa_nil)))
    (pss_one (ps_ret (pe_callTy call_tuple_of (by rfl) T.n_tuple (by decide +kernel) (pa_cons (pc G_raw_spans (hr.mono (by decide)) (by rfl) pass0 (pa_cons (pv 0) pa_nil)) pa_nil)))))
end
/-! ### raw_text_of -/
def t_raw_text_of_0 (M : Pm) : TS := tRet (tBM M.K "str" (rJoin M.K) (tC (.str "")) (tCons (tLc (iTup M.K (tVar 0)) (gName 1) (tTest (tOp (rIn M.K true) (tOp rIxS (tVar 1) (tC (.int 0))) (tTup (tCons (tC (.str "<")) (tCons (tC (.str ">")) tNil))))) (tVar 1) [1]) tNil))
def t_raw_text_of (M : Pm) : TS := t_raw_text_of_0 M
section
variable {P : Program} {w : World} {mg : Str → Option Value} {base : Heap} {f : Addr} {cdv : Value} {A : Around} {outer : List Env} {s : Shared} {H : Hp} {E : XK} {M : Pm}
theorem d_raw_text_of (T : Tx M mg) (hr : Room 0 (A.deeper (envOfC "raw_text_of" (defScope s_raw_text_of) s.heap.objs.size f cdv))) :
    PSs (cxOf CX0 P w M.K mg base ["reading", "one"] "raw_text_of" (defScope s_raw_text_of) f cdv A outer s H E).nox (defBody s_raw_text_of) (t_raw_text_of M) := by
  exact (pss_one (ps_ret (pe_bm PySem.F.plainAttrs_str PySem.F.slot_str_join PySem.F.type_str_join mt_join pe_str (pa_cons (pe_lc (own := [("one", 1)]) rfl sc_raw_text_of.nd (pi_tup (pv 0)) (blkOk_by (own := [("one", 1)]) (N := ["reading", "one"]) (sc := defScope s_raw_text_of) (by decide +kernel)) (fun _ _ _ _ _ => (pg_name (i := 1) sc_raw_text_of.nd rfl (Or.inl rfl))) (fun _ _ _ _ _ => (pts_one (pt_cmpR op_notIn_seq (pe_ix ix_str (pv 1) pe_int (fun _ _ => rfl)) (pe_tup (pa_cons (pe_glob rfl (T.g_OPEN).choose_spec ⟨_, rfl⟩) (pa_cons (pe_glob rfl (T.g_CLOSE).choose_spec ⟨_, rfl⟩) pa_nil))) (by rfl)))) (fun _ _ _ _ _ => (pv 1))) pa_nil))))
end
/-! ### text_of -/
def t_text_of_0 (M : Pm) (E : XK) : TS := tDrop (tCall (sp_check_reading M) [] E (tCons (tVar 0) tNil))
def t_text_of_1 (M : Pm) (E : XK) : TS := tRet (tCall (sp_raw_text_of M) [] E0 (tCons (tVar 0) tNil))
def t_text_of (M : Pm) (E : XK) : TS := tSeq (t_text_of_0 M E) (t_text_of_1 M E)
section
variable {P : Program} {w : World} {mg : Str → Option Value} {base : Heap} {f : Addr} {cdv : Value} {A : Around} {outer : List Env} {s : Shared} {H : Hp} {E : XK} {M : Pm}
theorem d_text_of (T : Tx M mg) (hr : Room 3 (A.deeper (envOfC "text_of" (defScope s_text_of) s.heap.objs.size f cdv))) (G_check_reading : Has P w M.K mg base (L2.CX P w) "check_reading" 3 ["thing"] (sp_check_reading M)) (G_raw_text_of : Has P w M.K mg base CX0 "raw_text_of" 1 ["reading"] (sp_raw_text_of M)) :
    PSs (cxOf (L2.CX P w) P w M.K mg base ["reading"] "text_of" (defScope s_text_of) f cdv A outer s H E) (defBody s_text_of) (t_text_of M E) := by
  exact (pss_cons (ps_expr (pc G_check_reading (hr.mono (by decide)) (by rfl) (passes_call (W := fun cls d _ H => E cls d H) (takes_of rfl rfl rfl rfl) fun _ _ _ _ h => h) (pa_cons (pv 0) pa_nil)))
    (pss_one (ps_ret (pc G_raw_text_of (hr.mono (by decide)) (by rfl) pass0 (pa_cons (pv 0) pa_nil)))))
end
/-! ### _law_bag -/
def t_law_bag_0 (M : Pm) : TS := tAsg (tLc (iList M.K (tSl (rSlL M.K) (tVar 0) tNoPart (tPart (tC (.int 63))))) (gName 2) (tYes) (tCB rInt1 (tCons (tOp rModI (tCB rInt1 (tCons (tVar 2) tNil)) (tOp rPowI (tC (.int 10)) (tC (.int 40)))) tNil)) [2]) (gName 1)
def t_law_bag_1 (M : Pm) : TS := tRet (tLst (tCons (tVar 1) (tCons (tC (.int 0)) (tCons (tC (.int 0)) (tCons (tOp rAddI (tC (.int 2371)) (tOp rMulI (tC (.int 11)) (tCB (rLenV M.K) (tCons (tVar 1) tNil)))) (tCons (tC (.int 0)) tNil))))))
def t_law_bag (M : Pm) : TS := tSeq (t_law_bag_0 M) (t_law_bag_1 M)
section
variable {P : Program} {w : World} {mg : Str → Option Value} {base : Heap} {f : Addr} {cdv : Value} {A : Around} {outer : List Env} {s : Shared} {H : Hp} {E : XK} {M : Pm}
theorem d_law_bag (T : Tx M mg) (hr : Room 0 (A.deeper (envOfC "_law_bag" (defScope s_law_bag) s.heap.objs.size f cdv))) :
    PSs (cxOf CX0 P w M.K mg base ["script", "cells", "cell"] "_law_bag" (defScope s_law_bag) f cdv A outer s H E).nox (defBody s_law_bag) (t_law_bag M) := by
  exact (pss_cons (ps_setLc (i := 1) (own := [("cell", 2)]) rfl sc_law_bag.nd rfl rfl (sw_true rfl rfl rfl (by decide +kernel)) (pi_list (pe_slice sl_list (pv 0) po_none (po_some pe_int))) (blkOk_by (own := [("cell", 2)]) (N := ["script", "cells", "cell"]) (sc := defScope s_law_bag) (by decide +kernel)) (fun _ _ _ _ _ => (pg_name (i := 2) sc_law_bag.nd rfl (Or.inl rfl))) (fun _ _ _ _ _ => pts_nil) (fun _ _ _ _ _ => (pe_callTy call_int1 (by rfl) T.n_int (by decide +kernel) (pa_cons (pe_op op_mod (pe_callTy call_int1 (by rfl) T.n_int (by decide +kernel) (pa_cons (pv 2) pa_nil)) (pe_op op_pow pe_int pe_int)) pa_nil))))
    (pss_one (ps_ret (pe_lst (pa_cons (pv 1) (pa_cons pe_int (pa_cons pe_int (pa_cons (pe_op op_add pe_int (pe_op op_mul pe_int (pe_callB call_len (by rfl) T.n_len (by decide +kernel) (pa_cons (pv 1) pa_nil)))) (pa_cons pe_int pa_nil)))))))))
end
/-! ### _law_pick -/
def t_law_pick_0t_0 (M : Pm) : TS := tAsg (tOp (rIxL M.K) (tOp (rIxL M.K) (tVar 0) (tC (.int 0))) (tOp (rIxL M.K) (tVar 0) (tC (.int 1)))) (gName 2)
def t_law_pick_0t_1 (M : Pm) : TS := tAsg (tOp rAddI (tOp (rIxL M.K) (tVar 0) (tC (.int 1))) (tC (.int 1))) (gSub (tVar 0) (tC (.int 1)) rSetL)
def t_law_pick_0t_2 (M : Pm) : TS := tAsg (tOp rModI (tCB rInt1 (tCons (tOp rAddI (tOp rAddI (tOp rMulI (tOp (rIxL M.K) (tVar 0) (tC (.int 3))) (tC (.int 69621))) (tOp rMulI (tVar 2) (tC (.int 40692)))) (tC (.int 41))) tNil)) (tC (.int 2147483629))) (gSub (tVar 0) (tC (.int 3)) rSetL)
def t_law_pick_0t_3t_0 (M : Pm) : TS := tAsg (tVar 2) (gSub (tVar 0) (tC (.int 2)) rSetL)
def t_law_pick_0t_3t (M : Pm) : TS := t_law_pick_0t_3t_0 M
def t_law_pick_0t_3 (M : Pm) : TS := tIfS (tTest (tOp rGeI (tVar 2) (tOp rPowI (tC (.int 10)) (tC (.int 18))))) (t_law_pick_0t_3t M) (tNext)
def t_law_pick_0t (M : Pm) : TS := tSeq (t_law_pick_0t_0 M) (tSeq (t_law_pick_0t_1 M) (tSeq (t_law_pick_0t_2 M) (t_law_pick_0t_3 M)))
def t_law_pick_0 (M : Pm) : TS := tIfS (tAnd (tTest (tOp rEq (tOp (rIxL M.K) (tVar 0) (tC (.int 2))) (tC (.int 0)))) (tTest (tOp rLtI (tOp (rIxL M.K) (tVar 0) (tC (.int 1))) (tCB (rLenV M.K) (tCons (tOp (rIxL M.K) (tVar 0) (tC (.int 0))) tNil))))) (t_law_pick_0t M) (tNext)
def t_law_pick_1t_0 (M : Pm) : TS := tAsg (tOp rModI (tCB rInt1 (tCons (tOp (rIxL M.K) (tVar 0) (tC (.int 2))) tNil)) (tVar 1)) (gName 3)
def t_law_pick_1t_1 (M : Pm) : TS := tAsg (tOp rFdivI (tOp (rIxL M.K) (tVar 0) (tC (.int 2))) (tVar 1)) (gSub (tVar 0) (tC (.int 2)) rSetL)
def t_law_pick_1t_2 (M : Pm) : TS := tRet (tVar 3)
def t_law_pick_1t (M : Pm) : TS := tSeq (t_law_pick_1t_0 M) (tSeq (t_law_pick_1t_1 M) (t_law_pick_1t_2 M))
def t_law_pick_1 (M : Pm) : TS := tIfS (tTest (tOp rGtI (tOp (rIxL M.K) (tVar 0) (tC (.int 2))) (tC (.int 0)))) (t_law_pick_1t M) (tNext)
def t_law_pick_2 (M : Pm) : TS := tAsg (tOp rAddI (tOp (rIxL M.K) (tVar 0) (tC (.int 4))) (tC (.int 1))) (gSub (tVar 0) (tC (.int 4)) rSetL)
def t_law_pick_3 (M : Pm) : TS := tAsg (tOp rModI (tCB rInt1 (tCons (tOp rMulI (tCB rInt1 (tCons (tOp rAddI (tOp (rIxL M.K) (tVar 0) (tC (.int 3))) (tOp rMulI (tC (.int 7919)) (tOp (rIxL M.K) (tVar 0) (tC (.int 4))))) tNil)) (tC (.int 48271))) tNil)) (tC (.int 2147483647))) (gName 4)
def t_law_pick_4 (M : Pm) : TS := tAsg (tOp rModI (tCB rInt1 (tCons (tOp rMulI (tVar 4) (tOp rAddI (tOp rFdivI (tVar 4) (tC (.int 1009))) (tC (.int 69621)))) tNil)) (tC (.int 2147483647))) (gName 4)
def t_law_pick_5 (M : Pm) : TS := tAsg (tOp rModI (tCB rInt1 (tCons (tOp rMulI (tVar 4) (tOp rAddI (tOp rFdivI (tVar 4) (tC (.int 2003))) (tC (.int 40014)))) tNil)) (tC (.int 2147483563))) (gName 4)
def t_law_pick_6 (M : Pm) : TS := tRet (tOp rModI (tCB rInt1 (tCons (tOp rFdivI (tVar 4) (tC (.int 16))) tNil)) (tVar 1))
def t_law_pick (M : Pm) : TS := tSeq (t_law_pick_0 M) (tSeq (t_law_pick_1 M) (tSeq (t_law_pick_2 M) (tSeq (t_law_pick_3 M) (tSeq (t_law_pick_4 M) (tSeq (t_law_pick_5 M) (t_law_pick_6 M))))))
section
variable {P : Program} {w : World} {mg : Str → Option Value} {base : Heap} {f : Addr} {cdv : Value} {A : Around} {outer : List Env} {s : Shared} {H : Hp} {E : XK} {M : Pm}
theorem d_law_pick (T : Tx M mg) (hr : Room 0 (A.deeper (envOfC "_law_pick" (defScope s_law_pick) s.heap.objs.size f cdv))) :
    PSs (cxOf CX0 P w M.K mg base ["bag", "width", "cell", "digit", "number"] "_law_pick" (defScope s_law_pick) f cdv A outer s H E).nox (defBody s_law_pick) (t_law_pick M) := by
  exact (pss_cons (ps_if (PW.pt (pw_and (pt_cmpR op_eq (pe_ix ix_list (pv 0) pe_int (fun _ _ => rfl)) pe_int (nomark _)) (pw_and1 (pt_cmpR op_lt (pe_ix ix_list (pv 0) pe_int (fun _ _ => rfl)) (pe_callB call_len (by rfl) T.n_len (by decide +kernel) (pa_cons (pe_ix ix_list (pv 0) pe_int (fun _ _ => rfl)) pa_nil)) (nomark _))))) (pss_cons (ps_set (i := 2) sc_law_pick.nd rfl (Or.inl rfl) (pe_ix ix_list (pe_ix ix_list (pv 0) pe_int (fun _ _ => rfl)) (pe_ix ix_list (pv 0) pe_int (fun _ _ => rfl)) (fun _ _ => rfl)))
    (pss_cons (ps_asg (pe_op op_add (pe_ix ix_list (pv 0) pe_int (fun _ _ => rfl)) pe_int) (pg_sub (pv 0) pe_int set_list))
    (pss_cons (ps_asg (pe_op op_mod (pe_callTy call_int1 (by rfl) T.n_int (by decide +kernel) (pa_cons (pe_op op_add (pe_op op_add (pe_op op_mul (pe_ix ix_list (pv 0) pe_int (fun _ _ => rfl)) pe_int) (pe_op op_mul (pv 2) pe_int)) pe_int) pa_nil)) pe_int) (pg_sub (pv 0) pe_int set_list))
    (pss_one (ps_if (pt_cmpR op_ge (pv 2) (pe_op op_pow pe_int pe_int) (nomark _)) (pss_one (ps_asg (pv 2) (pg_sub (pv 0) pe_int set_list))) pss_nil))))) pss_nil)
    (pss_cons (ps_if (pt_cmpR op_gt (pe_ix ix_list (pv 0) pe_int (fun _ _ => rfl)) pe_int (nomark _)) (pss_cons (ps_set (i := 3) sc_law_pick.nd rfl (Or.inl rfl) (pe_op op_mod (pe_callTy call_int1 (by rfl) T.n_int (by decide +kernel) (pa_cons (pe_ix ix_list (pv 0) pe_int (fun _ _ => rfl)) pa_nil)) (pv 1)))
    (pss_cons (ps_asg (pe_op op_fdiv (pe_ix ix_list (pv 0) pe_int (fun _ _ => rfl)) (pv 1)) (pg_sub (pv 0) pe_int set_list))
    (pss_one (ps_ret (pv 3))))) pss_nil)
    (pss_cons (ps_asg (pe_op op_add (pe_ix ix_list (pv 0) pe_int (fun _ _ => rfl)) pe_int) (pg_sub (pv 0) pe_int set_list))
    (pss_cons (ps_set (i := 4) sc_law_pick.nd rfl (Or.inl rfl) (pe_op op_mod (pe_callTy call_int1 (by rfl) T.n_int (by decide +kernel) (pa_cons (pe_op op_mul (pe_callTy call_int1 (by rfl) T.n_int (by decide +kernel) (pa_cons (pe_op op_add (pe_ix ix_list (pv 0) pe_int (fun _ _ => rfl)) (pe_op op_mul pe_int (pe_ix ix_list (pv 0) pe_int (fun _ _ => rfl)))) pa_nil)) pe_int) pa_nil)) pe_int))
    (pss_cons (ps_set (i := 4) sc_law_pick.nd rfl (Or.inl rfl) (pe_op op_mod (pe_callTy call_int1 (by rfl) T.n_int (by decide +kernel) (pa_cons (pe_op op_mul (pv 4) (pe_op op_add (pe_op op_fdiv (pv 4) pe_int) pe_int)) pa_nil)) pe_int))
    (pss_cons (ps_set (i := 4) sc_law_pick.nd rfl (Or.inl rfl) (pe_op op_mod (pe_callTy call_int1 (by rfl) T.n_int (by decide +kernel) (pa_cons (pe_op op_mul (pv 4) (pe_op op_add (pe_op op_fdiv (pv 4) pe_int) pe_int)) pa_nil)) pe_int))
    (pss_one (ps_ret (pe_op op_mod (pe_callTy call_int1 (by rfl) T.n_int (by decide +kernel) (pa_cons (pe_op op_fdiv (pv 4) pe_int) pa_nil)) (pv 1))))))))))
end
/-! ### _law_some -/
def t_law_some_0 (M : Pm) : TS := tRet (tOp (rIx M.K) (tVar 1) (tCall (sp_law_pick M) [] E0 (tCons (tVar 0) (tCons (tCB (rLenV M.K) (tCons (tVar 1) tNil)) tNil))))
def t_law_some (M : Pm) : TS := t_law_some_0 M
section
variable {P : Program} {w : World} {mg : Str → Option Value} {base : Heap} {f : Addr} {cdv : Value} {A : Around} {outer : List Env} {s : Shared} {H : Hp} {E : XK} {M : Pm}
theorem d_law_some (T : Tx M mg) (hr : Room 1 (A.deeper (envOfC "_law_some" (defScope s_law_some) s.heap.objs.size f cdv))) (G__law_pick : Has P w M.K mg base CX0 "_law_pick" 1 ["bag", "width"] (sp_law_pick M)) :
    PSs (cxOf CX0 P w M.K mg base ["bag", "things"] "_law_some" (defScope s_law_some) f cdv A outer s H E).nox (defBody s_law_some) (t_law_some M) := by
  exact (pss_one (ps_ret (pe_ix ix_seq (pv 1) (pc G__law_pick (hr.mono (by decide)) (by rfl) pass0 (pa_cons (pv 0) (pa_cons (pe_callB call_len (by rfl) T.n_len (by decide +kernel) (pa_cons (pv 1) pa_nil)) pa_nil))) (fun _ _ => rfl))))
end
/-! ### _law_mark -/
def t_law_mark_0 (M : Pm) : TS := tAsg (tC (.str "abcdefghijklmnopqrstuvwxyz")) (gName 1)
def t_law_mark_1 (M : Pm) : TS := tAsg (tBM M.K "str" (rJoin M.K) (tC (.str "")) (tCons (tLc (iRng1 (tCons (tOp rAddI (tC (.int 1)) (tCall (sp_law_pick M) [] E0 (tCons (tVar 0) (tCons (tC (.int 6)) tNil)))) tNil)) (gName 3) (tYes) (tCall (sp_law_some M) [] E0 (tCons (tVar 0) (tCons (tVar 1) tNil))) [3]) tNil)) (gName 2)
def t_law_mark_2 (M : Pm) : TS := tRet (tCall (sp_law_some M) [] E0 (tCons (tVar 0) (tCons (tLst (tCons (tC (.str "m")) (tCons (tC (.str "a")) (tCons (tC (.str "mm")) (tCons (tVar 2) tNil))))) tNil)))
def t_law_mark (M : Pm) : TS := tSeq (t_law_mark_0 M) (tSeq (t_law_mark_1 M) (t_law_mark_2 M))
section
variable {P : Program} {w : World} {mg : Str → Option Value} {base : Heap} {f : Addr} {cdv : Value} {A : Around} {outer : List Env} {s : Shared} {H : Hp} {E : XK} {M : Pm}
theorem d_law_mark (T : Tx M mg) (hr : Room 2 (A.deeper (envOfC "_law_mark" (defScope s_law_mark) s.heap.objs.size f cdv))) (G__law_pick : Has P w M.K mg base CX0 "_law_pick" 1 ["bag", "width"] (sp_law_pick M)) (G__law_some : Has P w M.K mg base CX0 "_law_some" 2 ["bag", "things"] (sp_law_some M)) :
    PSs (cxOf CX0 P w M.K mg base ["bag", "letters", "drawn", "turn"] "_law_mark" (defScope s_law_mark) f cdv A outer s H E).nox (defBody s_law_mark) (t_law_mark M) := by
  exact (pss_cons (ps_set (i := 1) sc_law_mark.nd rfl (Or.inr rfl) pe_str)
    (pss_cons (ps_set (i := 2) sc_law_mark.nd rfl (Or.inl rfl) (pe_bm PySem.F.plainAttrs_str PySem.F.slot_str_join PySem.F.type_str_join mt_join pe_str (pa_cons (pe_lc (own := [("turn", 3)]) rfl sc_law_mark.nd (pi_range1 (by rfl) T.n_range (pa_cons (pe_op op_add pe_int (pc G__law_pick (hr.mono (by decide)) (by rfl) pass0 (pa_cons (pv 0) (pa_cons pe_int pa_nil)))) pa_nil)) (blkOk_by (own := [("turn", 3)]) (N := ["bag", "letters", "drawn", "turn"]) (sc := defScope s_law_mark) (by decide +kernel)) (fun _ _ _ _ _ => (pg_name (i := 3) sc_law_mark.nd rfl (Or.inl rfl))) (fun _ _ _ _ _ => pts_nil) (fun _ _ _ _ _ => (pc G__law_some (hr.mono (by decide)) (by rfl) pass0 (pa_cons (pv 0) (pa_cons (pv 1) pa_nil))))) pa_nil)))
    (pss_one (ps_ret (pc G__law_some (hr.mono (by decide)) (by rfl) pass0 (pa_cons (pv 0) (pa_cons (pe_lst (pa_cons pe_str (pa_cons pe_str (pa_cons pe_str (pa_cons (pv 2) pa_nil))))) pa_nil)))))))
end
/-! ### _law_drawn -/
def t_law_drawn_0 (M : Pm) : TS := tPar 2 3 (tCons (tLst tNil) (tCons (tLst tNil) tNil))
def t_law_drawn_1l_0 (M : Pm) : TS := tAsg (tCall (sp_law_pick M) [] E0 (tCons (tVar 0) (tCons (tC (.int 4)) tNil))) (gName 5)
def t_law_drawn_1l_1t_0 (M : Pm) : TS := tDrop (tBM M.K "list" rAppend (tVar 2) (tCons (tCall (sp_law_some M) [] E0 (tCons (tVar 0) (tCons (tC (.str "abcd")) tNil))) tNil))
def t_law_drawn_1l_1t (M : Pm) : TS := t_law_drawn_1l_1t_0 M
def t_law_drawn_1l_1e_0t_0 (M : Pm) : TS := tDrop (tBM M.K "list" rAppend (tVar 3) (tCons (tCall (sp_law_mark M) [] E0 (tCons (tVar 0) tNil)) tNil))
def t_law_drawn_1l_1e_0t_1 (M : Pm) : TS := tDrop (tBM M.K "list" rAppend (tVar 2) (tCons (tOp rAddStr (tC (.str "<")) (tOp (rIxL M.K) (tVar 3) (tUn rNegI (tC (.int 1))))) tNil))
def t_law_drawn_1l_1e_0t (M : Pm) : TS := tSeq (t_law_drawn_1l_1e_0t_0 M) (t_law_drawn_1l_1e_0t_1 M)
def t_law_drawn_1l_1e_0e_0t_0 (M : Pm) : TS := tDrop (tBM M.K "list" rAppend (tVar 2) (tCons (tOp rAddStr (tC (.str ">")) (tBM0 M.K "list" rPop (tVar 3))) tNil))
def t_law_drawn_1l_1e_0e_0t (M : Pm) : TS := t_law_drawn_1l_1e_0e_0t_0 M
def t_law_drawn_1l_1e_0e_0 (M : Pm) : TS := tIfS (tTest (tOp (rNeD M.K) (tVar 3) (tLst tNil))) (t_law_drawn_1l_1e_0e_0t M) (tNext)
def t_law_drawn_1l_1e_0e (M : Pm) : TS := t_law_drawn_1l_1e_0e_0 M
def t_law_drawn_1l_1e_0 (M : Pm) : TS := tIfS (tTest (tOp rEq (tVar 5) (tC (.int 2)))) (t_law_drawn_1l_1e_0t M) (t_law_drawn_1l_1e_0e M)
def t_law_drawn_1l_1e (M : Pm) : TS := t_law_drawn_1l_1e_0 M
def t_law_drawn_1l_1 (M : Pm) : TS := tIfS (tTest (tOp rLtI (tVar 5) (tC (.int 2)))) (t_law_drawn_1l_1t M) (t_law_drawn_1l_1e M)
def t_law_drawn_1l (M : Pm) : TS := tSeq (t_law_drawn_1l_0 M) (t_law_drawn_1l_1 M)
def t_law_drawn_1 (M : Pm) : TS := tFor (iRng1 (tCons (tCall (sp_law_pick M) [] E0 (tCons (tVar 0) (tCons (tOp rAddI (tVar 1) (tC (.int 1))) tNil))) tNil)) (gName 4) (t_law_drawn_1l M)
def t_law_drawn_2 (M : Pm) : TS := tRet (tOp rCat (tVar 2) (tLc (iList M.K (tRevL M.K (tVar 3))) (gName 6) (tYes) (tOp rAddStr (tC (.str ">")) (tVar 6)) [6]))
def t_law_drawn (M : Pm) : TS := tSeq (t_law_drawn_0 M) (tSeq (t_law_drawn_1 M) (t_law_drawn_2 M))
section
variable {P : Program} {w : World} {mg : Str → Option Value} {base : Heap} {f : Addr} {cdv : Value} {A : Around} {outer : List Env} {s : Shared} {H : Hp} {E : XK} {M : Pm}
theorem d_law_drawn (T : Tx M mg) (hr : Room 3 (A.deeper (envOfC "_law_drawn" (defScope s_law_drawn) s.heap.objs.size f cdv))) (G__law_mark : Has P w M.K mg base CX0 "_law_mark" 3 ["bag"] (sp_law_mark M)) (G__law_pick : Has P w M.K mg base CX0 "_law_pick" 1 ["bag", "width"] (sp_law_pick M)) (G__law_some : Has P w M.K mg base CX0 "_law_some" 2 ["bag", "things"] (sp_law_some M)) :
    PSs (cxOf CX0 P w M.K mg base ["bag", "many", "found", "opened", "turn", "kind", "mark"] "_law_drawn" (defScope s_law_drawn) f cdv A outer s H E).nox (defBody s_law_drawn) (t_law_drawn M) := by
  exact (pss_cons (ps_par (i := 2) (j := 3) rfl sc_law_drawn.nd rfl rfl (by decide) rfl rfl (pa_cons (pe_lst pa_nil) (pa_cons (pe_lst pa_nil) pa_nil)) (by rfl))
    (pss_cons (ps_for PassesOwn.never rfl (pi_range1 (by rfl) T.n_range (pa_cons (pc G__law_pick (hr.mono (by decide)) (by rfl) pass0 (pa_cons (pv 0) (pa_cons (pe_op op_add (pv 1) pe_int) pa_nil))) pa_nil)) (pg_name (i := 4) sc_law_drawn.nd rfl (Or.inl rfl)) (pss_cons (ps_set (i := 5) sc_law_drawn.nd rfl (Or.inl rfl) (pc G__law_pick (hr.mono (by decide)) (by rfl) pass0 (pa_cons (pv 0) (pa_cons pe_int pa_nil))))
    (pss_one (ps_if (pt_cmpR op_lt (pv 5) pe_int (nomark _)) (pss_one (ps_expr (pe_bm PySem.F.plainAttrs_list PySem.F.slot_list_append PySem.F.type_list_append mt_append (pv 2) (pa_cons (pc G__law_some (hr.mono (by decide)) (by rfl) pass0 (pa_cons (pv 0) (pa_cons pe_str pa_nil))) pa_nil)))) (pss_one (ps_if (pt_cmpR op_eq (pv 5) pe_int (nomark _)) (pss_cons (ps_expr (pe_bm PySem.F.plainAttrs_list PySem.F.slot_list_append PySem.F.type_list_append mt_append (pv 3) (pa_cons (pc G__law_mark (hr.mono (by decide)) (by rfl) pass0 (pa_cons (pv 0) pa_nil)) pa_nil)))
    (pss_one (ps_expr (pe_bm PySem.F.plainAttrs_list PySem.F.slot_list_append PySem.F.type_list_append mt_append (pv 2) (pa_cons (pe_op op_add_str pe_str (pe_ix ix_list (pv 3) (pe_un un_neg pe_int) (fun _ _ => rfl))) pa_nil))))) (pss_one (ps_if (pt_cmpR (op_neD (hu64 hr)) (pv 3) (pe_lst pa_nil) (nomark _)) (pss_one (ps_expr (pe_bm PySem.F.plainAttrs_list PySem.F.slot_list_append PySem.F.type_list_append mt_append (pv 2) (pa_cons (pe_op op_add_str pe_str (pe_bm0 PySem.F.plainAttrs_list PySem.F.slot_list_pop PySem.F.type_list_pop mt_pop (pv 3))) pa_nil)))) pss_nil))))))))
    (pss_one (ps_ret (pe_op op_cat (pv 2) (pe_lc (own := [("mark", 6)]) rfl sc_law_drawn.nd (pi_list (pe_revL (pv 3))) (blkOk_by (own := [("mark", 6)]) (N := ["bag", "many", "found", "opened", "turn", "kind", "mark"]) (sc := defScope s_law_drawn) (by decide +kernel)) (fun _ _ _ _ _ => (pg_name (i := 6) sc_law_drawn.nd rfl (Or.inl rfl))) (fun _ _ _ _ _ => pts_nil) (fun _ _ _ _ _ => (pe_op op_add_str pe_str (pv 6)))))))))
end
/-! ### _law_is_right -/
def t_law_is_right_0 (M : Pm) : TS := tAsg (tLst tNil) (gName 1)
def t_law_is_right_1l_0t_0 (M : Pm) : TS := tRet (tC (.bl false))
def t_law_is_right_1l_0t (M : Pm) : TS := t_law_is_right_1l_0t_0 M
def t_law_is_right_1l_0 (M : Pm) : TS := tIfS (tNot (tB (tCB (rIsi M.K) (tCons (tVar 2) (tCons (tC (.ty "str")) tNil))))) (t_law_is_right_1l_0t M) (tNext)
def t_law_is_right_1l_1 (M : Pm) : TS := tAsg (tLc (iStr (tSl rSlS (tVar 2) (tPart (tC (.int 1))) tNoPart)) (gName 5) (tTest (tOp rNotInS (tVar 5) (tC (.str "abcdefghijklmnopqrstuvwxyz")))) (tVar 5) [5]) (gName 3)
def t_law_is_right_1l_2 (M : Pm) : TS := tAsg (tAndV (tOp (rIn M.K false) (tSl rSlS (tVar 2) tNoPart (tPart (tC (.int 1)))) (tTup (tCons (tC (.str "<")) (tCons (tC (.str ">")) tNil)))) (tAndV (tChain rLeI rLeI (tC (.int 2)) (tCB (rLenV M.K) (tCons (tVar 2) tNil)) (tC (.int 7))) (tOp (rEqD M.K) (tVar 3) (tLst tNil)))) (gName 4)
def t_law_is_right_1l_3t_0 (M : Pm) : TS := tDrop (tBM M.K "list" rAppend (tVar 1) (tCons (tSl rSlS (tVar 2) (tPart (tC (.int 1))) tNoPart) tNil))
def t_law_is_right_1l_3t (M : Pm) : TS := t_law_is_right_1l_3t_0 M
def t_law_is_right_1l_3e_0t_0t_0 (M : Pm) : TS := tRet (tC (.bl false))
def t_law_is_right_1l_3e_0t_0t (M : Pm) : TS := t_law_is_right_1l_3e_0t_0t_0 M
def t_law_is_right_1l_3e_0t_0 (M : Pm) : TS := tIfS (tOr (tTest (tOp (rEqD M.K) (tVar 1) (tLst tNil))) (tTest (tOp rNe (tBM0 M.K "list" rPop (tVar 1)) (tSl rSlS (tVar 2) (tPart (tC (.int 1))) tNoPart)))) (t_law_is_right_1l_3e_0t_0t M) (tNext)
def t_law_is_right_1l_3e_0t (M : Pm) : TS := t_law_is_right_1l_3e_0t_0 M
def t_law_is_right_1l_3e_0e_0t_0 (M : Pm) : TS := tRet (tC (.bl false))
def t_law_is_right_1l_3e_0e_0t (M : Pm) : TS := t_law_is_right_1l_3e_0e_0t_0 M
def t_law_is_right_1l_3e_0e_0 (M : Pm) : TS := tIfS (tTest (tOp (rIn M.K true) (tVar 2) (tTup (tCons (tC (.str "a")) (tCons (tC (.str "b")) (tCons (tC (.str "c")) (tCons (tC (.str "d")) tNil))))))) (t_law_is_right_1l_3e_0e_0t M) (tNext)
def t_law_is_right_1l_3e_0e (M : Pm) : TS := t_law_is_right_1l_3e_0e_0 M
def t_law_is_right_1l_3e_0 (M : Pm) : TS := tIfS (tB (tVar 4)) (t_law_is_right_1l_3e_0t M) (t_law_is_right_1l_3e_0e M)
def t_law_is_right_1l_3e (M : Pm) : TS := t_law_is_right_1l_3e_0 M
def t_law_is_right_1l_3 (M : Pm) : TS := tIfS (tAnd (tB (tVar 4)) (tTest (tOp rEq (tOp rIxS (tVar 2) (tC (.int 0))) (tC (.str "<"))))) (t_law_is_right_1l_3t M) (t_law_is_right_1l_3e M)
def t_law_is_right_1l (M : Pm) : TS := tSeq (t_law_is_right_1l_0 M) (tSeq (t_law_is_right_1l_1 M) (tSeq (t_law_is_right_1l_2 M) (t_law_is_right_1l_3 M)))
def t_law_is_right_1 (M : Pm) : TS := tFor (iList M.K (tVar 0)) (gName 2) (t_law_is_right_1l M)
def t_law_is_right_2 (M : Pm) : TS := tRet (tAndV (tOp (rEqD M.K) (tVar 1) (tLst tNil)) (tOp rLeI (tCB (rLenV M.K) (tCons (tVar 0) tNil)) (tC (.int 2000))))
def t_law_is_right (M : Pm) : TS := tSeq (t_law_is_right_0 M) (tSeq (t_law_is_right_1 M) (t_law_is_right_2 M))
section
variable {P : Program} {w : World} {mg : Str → Option Value} {base : Heap} {f : Addr} {cdv : Value} {A : Around} {outer : List Env} {s : Shared} {H : Hp} {E : XK} {M : Pm}
theorem d_law_is_right (T : Tx M mg) (hr : Room 0 (A.deeper (envOfC "_law_is_right" (defScope s_law_is_right) s.heap.objs.size f cdv))) :
    PSs (cxOf CX0 P w M.K mg base ["strings", "opened", "string", "letters", "is_mark_v", "sign"] "_law_is_right" (defScope s_law_is_right) f cdv A outer s H E).nox (defBody s_law_is_right) (t_law_is_right M) := by
  exact (pss_cons (ps_set (i := 1) sc_law_is_right.nd rfl (Or.inl rfl) (pe_lst pa_nil))
    (pss_cons (ps_for PassesOwn.never rfl (pi_list (pv 0)) (pg_name (i := 2) sc_law_is_right.nd rfl (Or.inl rfl)) (pss_cons (ps_if (pt_not (pt_val (pe_callB call_isi (by rfl) T.n_isinstance (by decide +kernel) (pa_cons (pv 2) (pa_cons (pe_bltn (by rfl) T.n_str (by decide +kernel) rfl) pa_nil))))) (pss_one (ps_ret pe_bl)) pss_nil)
    (pss_cons (ps_setLc (i := 3) (own := [("sign", 5)]) rfl sc_law_is_right.nd rfl rfl (sw_true rfl rfl rfl (by decide +kernel)) (pi_str (pe_slice sl_str (pv 2) (po_some pe_int) po_none)) (blkOk_by (own := [("sign", 5)]) (N := ["strings", "opened", "string", "letters", "is_mark_v", "sign"]) (sc := defScope s_law_is_right) (by decide +kernel)) (fun _ _ _ _ _ => (pg_name (i := 5) sc_law_is_right.nd rfl (Or.inl rfl))) (fun _ _ _ _ _ => (pts_one (pt_cmpR op_notIn_sign (pv 5) pe_str (by rfl)))) (fun _ _ _ _ _ => (pv 5)))
    (pss_cons (ps_set (i := 4) sc_law_is_right.nd rfl (Or.inl rfl) (pe_and (pe_cmpR op_in_seq (pe_slice sl_str (pv 2) po_none (po_some pe_int)) (pe_tup (pa_cons pe_str (pa_cons pe_str pa_nil))) (by rfl)) (pe_and (pe_chain op_le op_le pe_int (pe_callB call_len (by rfl) T.n_len (by decide +kernel) (pa_cons (pv 2) pa_nil)) pe_int) (pe_one (pe_cmpR (op_eqD (hu64 hr)) (pv 3) (pe_lst pa_nil) (nomark _))))))
    (pss_one (ps_if (PW.pt (pw_and (pt_val (pv 4)) (pw_and1 (pt_cmpR op_eq (pe_ix ix_str (pv 2) pe_int (fun _ _ => rfl)) pe_str (nomark _))))) (pss_one (ps_expr (pe_bm PySem.F.plainAttrs_list PySem.F.slot_list_append PySem.F.type_list_append mt_append (pv 1) (pa_cons (pe_slice sl_str (pv 2) (po_some pe_int) po_none) pa_nil)))) (pss_one (ps_if (pt_val (pv 4)) (pss_one (ps_if (PW.pt (pw_or (pt_cmpR (op_eqD (hu64 hr)) (pv 1) (pe_lst pa_nil) (nomark _)) (pw_or1 (pt_cmpR op_ne (pe_bm0 PySem.F.plainAttrs_list PySem.F.slot_list_pop PySem.F.type_list_pop mt_pop (pv 1)) (pe_slice sl_str (pv 2) (po_some pe_int) po_none) (nomark _))))) (pss_one (ps_ret pe_bl)) pss_nil)) (pss_one (ps_if (pt_cmpR op_notIn_seq (pv 2) (pe_tup (pa_cons pe_str (pa_cons pe_str (pa_cons pe_str (pa_cons pe_str pa_nil))))) (by rfl)) (pss_one (ps_ret pe_bl)) pss_nil))))))))))
    (pss_one (ps_ret (pe_and (pe_cmpR (op_eqD (hu64 hr)) (pv 1) (pe_lst pa_nil) (nomark _)) (pe_one (pe_cmpR op_le (pe_callB call_len (by rfl) T.n_len (by decide +kernel) (pa_cons (pv 0) pa_nil)) pe_int (nomark _))))))))
end
/-! ### _law_spans -/
def t_law_spans_0 (M : Pm) : TS := tPar3 1 2 3 (tCons (tLst tNil) (tCons (tLst tNil) (tCons (tC (.int 0)) tNil)))
def t_law_spans_1l_0t_0 (M : Pm) : TS := tDrop (tBM M.K "list" rAppend (tVar 1) (tCons (tVar 3) tNil))
def t_law_spans_1l_0t (M : Pm) : TS := t_law_spans_1l_0t_0 M
def t_law_spans_1l_0e_0t_0 (M : Pm) : TS := tDrop (tBM M.K "list" rAppend (tVar 2) (tCons (tTup (tCons (tSl rSlS (tVar 4) (tPart (tC (.int 1))) tNoPart) (tCons (tBM0 M.K "list" rPop (tVar 1)) (tCons (tVar 3) tNil)))) tNil))
def t_law_spans_1l_0e_0t (M : Pm) : TS := t_law_spans_1l_0e_0t_0 M
def t_law_spans_1l_0e_0e_0 (M : Pm) : TS := tAsg (tOp rAddI (tVar 3) (tC (.int 1))) (gName 3)
def t_law_spans_1l_0e_0e (M : Pm) : TS := t_law_spans_1l_0e_0e_0 M
def t_law_spans_1l_0e_0 (M : Pm) : TS := tIfS (tTest (tOp rEq (tOp rIxS (tVar 4) (tC (.int 0))) (tC (.str ">")))) (t_law_spans_1l_0e_0t M) (t_law_spans_1l_0e_0e M)
def t_law_spans_1l_0e (M : Pm) : TS := t_law_spans_1l_0e_0 M
def t_law_spans_1l_0 (M : Pm) : TS := tIfS (tTest (tOp rEq (tOp rIxS (tVar 4) (tC (.int 0))) (tC (.str "<")))) (t_law_spans_1l_0t M) (t_law_spans_1l_0e M)
def t_law_spans_1l (M : Pm) : TS := t_law_spans_1l_0 M
def t_law_spans_1 (M : Pm) : TS := tFor (iList M.K (tVar 0)) (gName 4) (t_law_spans_1l M)
def t_law_spans_2 (M : Pm) : TS := tRet (tVar 2)
def t_law_spans (M : Pm) : TS := tSeq (t_law_spans_0 M) (tSeq (t_law_spans_1 M) (t_law_spans_2 M))
section
variable {P : Program} {w : World} {mg : Str → Option Value} {base : Heap} {f : Addr} {cdv : Value} {A : Around} {outer : List Env} {s : Shared} {H : Hp} {E : XK} {M : Pm}
theorem d_law_spans (T : Tx M mg) (hr : Room 0 (A.deeper (envOfC "_law_spans" (defScope s_law_spans) s.heap.objs.size f cdv))) :
    PSs (cxOf CX0 P w M.K mg base ["strings", "opened", "found", "many", "string"] "_law_spans" (defScope s_law_spans) f cdv A outer s H E).nox (defBody s_law_spans) (t_law_spans M) := by
  exact (pss_cons (ps_par3 (i := 1) (j := 2) (l := 3) rfl sc_law_spans.nd rfl rfl rfl (by decide) (by decide) (by decide) rfl rfl rfl (pa_cons (pe_lst pa_nil) (pa_cons (pe_lst pa_nil) (pa_cons pe_int pa_nil))) (by rfl))
    (pss_cons (ps_for PassesOwn.never rfl (pi_list (pv 0)) (pg_name (i := 4) sc_law_spans.nd rfl (Or.inl rfl)) (pss_one (ps_if (pt_cmpR op_eq (pe_ix ix_str (pv 4) pe_int (fun _ _ => rfl)) pe_str (nomark _)) (pss_one (ps_expr (pe_bm PySem.F.plainAttrs_list PySem.F.slot_list_append PySem.F.type_list_append mt_append (pv 1) (pa_cons (pv 3) pa_nil)))) (pss_one (ps_if (pt_cmpR op_eq (pe_ix ix_str (pv 4) pe_int (fun _ _ => rfl)) pe_str (nomark _)) (pss_one (ps_expr (pe_bm PySem.F.plainAttrs_list PySem.F.slot_list_append PySem.F.type_list_append mt_append (pv 2) (pa_cons (pe_tup (pa_cons (pe_slice sl_str (pv 4) (po_some pe_int) po_none) (pa_cons (pe_bm0 PySem.F.plainAttrs_list PySem.F.slot_list_pop PySem.F.type_list_pop mt_pop (pv 1)) (pa_cons (pv 3) pa_nil)))) pa_nil)))) (pss_one (ps_set (i := 3) sc_law_spans.nd rfl (Or.inl rfl) (pe_op op_add (pv 3) pe_int))))))))
    (pss_one (ps_ret (pv 2)))))
end
/-! ### _law_is_told_right -/
def t_law_is_told_right_0 (M : Pm) : TS := tAsg (tCB (rTupOf M.K) (tCons (tVar 0) tNil)) (gName 1)
def t_law_is_told_right_1t_0 (M : Pm) : TS := tAsg (tLst (tCons (LamX.tLam M.tabs (TT_law_error M) (fun E => tCall (sp_spans M) [] E (tCons (tVar 1) tNil))) tNil)) (gName 2)
def t_law_is_told_right_1t_1 (M : Pm) : TS := tDrop (tBM M.K "list" rAppend (tVar 2) (tCons (LamX.tLam M.tabs (TT_law_error M) (fun E => tCall (sp_text_of M) [] E (tCons (tVar 1) tNil))) tNil))
def t_law_is_told_right_1t_2 (M : Pm) : TS := tRet (tAndV (tOp (rEqD M.K) (tVar 2) (tLst (tCons (tC (.str "reading")) (tCons (tC (.str "reading")) tNil)))) (tOp rIsB (tCall (sp_is_reading M) [] E0 (tCons (tVar 1) tNil)) (tC (.bl false))))
def t_law_is_told_right_1t (M : Pm) : TS := tSeq (t_law_is_told_right_1t_0 M) (tSeq (t_law_is_told_right_1t_1 M) (t_law_is_told_right_1t_2 M))
def t_law_is_told_right_1 (M : Pm) : TS := tIfS (tNot (tB (tCall (sp_law_is_right M) [] E0 (tCons (tVar 0) tNil)))) (t_law_is_told_right_1t M) (tNext)
def t_law_is_told_right_2t_0 (M : Pm) : TS := tRet (tC (.bl false))
def t_law_is_told_right_2t (M : Pm) : TS := t_law_is_told_right_2t_0 M
def t_law_is_told_right_2 (M : Pm) : TS := tIfS (tOr (tTest (tOp rNotB (tCall (sp_is_reading M) [] E0 (tCons (tVar 1) tNil)) (tC (.bl true)))) (tTest (tOp rNe (tCB (rReprD M.K) (tCons (tCall (sp_spans M) [] E0 (tCons (tVar 1) tNil)) tNil)) (tCB (rReprD M.K) (tCons (tCB (rTupOf M.K) (tCons (tCall (sp_law_spans M) [] E0 (tCons (tVar 0) tNil)) tNil)) tNil))))) (t_law_is_told_right_2t M) (tNext)
def t_law_is_told_right_3 (M : Pm) : TS := tRet (tOp rEq (tCall (sp_text_of M) [] E0 (tCons (tVar 1) tNil)) (tBM M.K "str" (rJoin M.K) (tC (.str "")) (tCons (tLc (iList M.K (tVar 0)) (gName 3) (tTest (tOp rInStr (tVar 3) (tC (.str "abcd")))) (tVar 3) [3]) tNil)))
def t_law_is_told_right (M : Pm) : TS := tSeq (t_law_is_told_right_0 M) (tSeq (t_law_is_told_right_1 M) (tSeq (t_law_is_told_right_2 M) (t_law_is_told_right_3 M)))
section
variable {P : Program} {w : World} {mg : Str → Option Value} {base : Heap} {f : Addr} {cdv : Value} {A : Around} {outer : List Env} {s : Shared} {H : Hp} {E : XK} {M : Pm}
theorem d_law_is_told_right (T : Tx M mg) (hr : Room 9 (A.deeper (envOfC "_law_is_told_right" (defScope s_law_is_told_right) s.heap.objs.size f cdv))) (hgd : A.guards = some []) (G__law_error : HasL M.K mg "_law_error" "call" s_law_error ["call", "found", "error"]) (G__law_is_right : Has P w M.K mg base CX0 "_law_is_right" 1 ["strings"] (sp_law_is_right M)) (G__law_spans : Has P w M.K mg base CX0 "_law_spans" 1 ["strings"] (sp_law_spans M)) (G_is_reading : Has P w M.K mg base CX0 "is_reading" 2 ["thing"] (sp_is_reading M)) (G_spans : Has P w M.K mg base (L2.CX P w) "spans" 4 ["reading"] (sp_spans M)) (G_text_of : Has P w M.K mg base (L2.CX P w) "text_of" 4 ["reading"] (sp_text_of M)) {cT PT : Addr} (TB : LamX.TabB base mg cT PT) (hcode : cdv = .ref cT) (hmT : (PT, ("_law_is_told_right" : Str) ++ ".<locals>." ++ "<lambda>") ∈ M.tabs) (huT : ∀ p ∈ M.tabs, p.1 = PT → p.2 = ("_law_is_told_right" : Str) ++ ".<locals>." ++ "<lambda>") :
    PSs (cxOf CX0 P w M.K mg base ["strings", "thing", "words", "string"] "_law_is_told_right" (defScope s_law_is_told_right) f cdv A outer s H E).nox (defBody s_law_is_told_right) (t_law_is_told_right M) := by
  exact (pss_cons (ps_set (i := 1) sc_law_is_told_right.nd rfl (Or.inr rfl) (pe_callTy call_tuple_of (by rfl) T.n_tuple (by decide +kernel) (pa_cons (pv 0) pa_nil)))
    (pss_cons (ps_if (pt_not (pt_val (pc G__law_is_right (hr.mono (by decide)) (by rfl) pass0 (pa_cons (pv 0) pa_nil)))) (pss_cons (ps_set (i := 2) sc_law_is_told_right.nd rfl (Or.inl rfl) (pe_lst (pa_cons (plam (k := 7) G__law_error (gives_law_error rfl T) (by rfl) TB hcode hmT huT (hr.mono (by decide)) (LamX.lamS_by (sc := defScope s_law_is_told_right) (by decide +kernel)) rfl (fun _ _ _ _ _ => rfl) (fun A outer s H E f c' hrL => (pc G_spans (hrL.mono (by decide)) (by rfl) passLam (pa_cons (pv 1) pa_nil)))) pa_nil)))
    (pss_cons (ps_expr (pe_bm PySem.F.plainAttrs_list PySem.F.slot_list_append PySem.F.type_list_append mt_append (pv 2) (pa_cons (plam (k := 7) G__law_error (gives_law_error rfl T) (by rfl) TB hcode hmT huT (hr.mono (by decide)) (LamX.lamS_by (sc := defScope s_law_is_told_right) (by decide +kernel)) rfl (fun _ _ _ _ _ => rfl) (fun A outer s H E f c' hrL => (pc G_text_of (hrL.mono (by decide)) (by rfl) passLam (pa_cons (pv 1) pa_nil)))) pa_nil)))
    (pss_one (ps_ret (pe_and (pe_cmpR (op_eqD (hu64 hr)) (pv 2) (pe_lst (pa_cons pe_str (pa_cons pe_str pa_nil))) (nomark _)) (pe_one (pe_cmpR op_isBl (pc G_is_reading (hr.mono (by decide)) (by rfl) pass0 (pa_cons (pv 1) pa_nil)) pe_bl (nomark _)))))))) pss_nil)
    (pss_cons (ps_if (PW.pt (pw_or (pt_cmpR op_notBl (pc G_is_reading (hr.mono (by decide)) (by rfl) pass0 (pa_cons (pv 1) pa_nil)) pe_bl (nomark _)) (pw_or1 (pt_cmpR op_ne (pe_callB (call_reprD hgd (hu64 hr)) (by rfl) T.n_repr (by decide +kernel) (pa_cons (pc G_spans (hr.mono (by decide)) (by rfl) passL (pa_cons (pv 1) pa_nil)) pa_nil)) (pe_callB (call_reprD hgd (hu64 hr)) (by rfl) T.n_repr (by decide +kernel) (pa_cons (pe_callTy call_tuple_of (by rfl) T.n_tuple (by decide +kernel) (pa_cons (pc G__law_spans (hr.mono (by decide)) (by rfl) pass0 (pa_cons (pv 0) pa_nil)) pa_nil)) pa_nil)) (nomark _))))) (pss_one (ps_ret pe_bl)) pss_nil)
    (pss_one (ps_ret (pe_cmpR op_eq (pc G_text_of (hr.mono (by decide)) (by rfl) passL (pa_cons (pv 1) pa_nil)) (pe_bm PySem.F.plainAttrs_str PySem.F.slot_str_join PySem.F.type_str_join mt_join pe_str (pa_cons (pe_lc (own := [("string", 3)]) rfl sc_law_is_told_right.nd (pi_list (pv 0)) (blkOk_by (own := [("string", 3)]) (N := ["strings", "thing", "words", "string"]) (sc := defScope s_law_is_told_right) (by decide +kernel)) (fun _ _ _ _ _ => (pg_name (i := 3) sc_law_is_told_right.nd rfl (Or.inl rfl))) (fun _ _ _ _ _ => (pts_one (pt_cmpR op_in_str (pv 3) pe_str (by rfl)))) (fun _ _ _ _ _ => (pv 3))) pa_nil)) (nomark _)))))))
end
/-! ### _law_changed -/
def t_law_changed_0 (M : Pm) : TS := tAsg (tLst (tCons (tC (.str "<m")) (tCons (tC (.str ">m")) (tCons (tC (.str "a")) (tCons (tC (.str "<a")) (tCons (tC (.str ">a")) (tCons (tC (.str "m")) (tCons (tC (.str "e")) (tCons (tC (.str "")) (tCons (tC (.str "<")) (tCons (tC (.str ">")) (tCons (tC (.str "<sevenly")) (tCons (tC (.str "ab")) (tCons (tC (.str "<M")) (tCons (tC (.str "< m")) (tCons (tC .non) (tCons (tC (.int 3)) (tCons (tTup (tCons (tC (.str "a")) tNil)) (tCons (tC (.str "mm")) (tCons (tC (.str ">mm")) (tCons (tC (.str "<mm>")) tNil))))))))))))))))))))) (gName 2)
def t_law_changed_1 (M : Pm) : TS := tPar3 3 4 5 (tCons (tCall (sp_law_pick M) [] E0 (tCons (tVar 0) (tCons (tOp rAddI (tCB (rLenV M.K) (tCons (tVar 1) tNil)) (tC (.int 1))) tNil))) (tCons (tCall (sp_law_pick M) [] E0 (tCons (tVar 0) (tCons (tC (.int 5)) tNil))) (tCons (tCall (sp_law_some M) [] E0 (tCons (tVar 0) (tCons (tVar 2) tNil))) tNil)))
def t_law_changed_2t_0 (M : Pm) : TS := tRet (tOp rCat (tOp rCat (tSl (rSlL M.K) (tVar 1) tNoPart (tPart (tVar 3))) (tLst (tCons (tVar 5) tNil))) (tSl (rSlL M.K) (tVar 1) (tPart (tVar 3)) tNoPart))
def t_law_changed_2t (M : Pm) : TS := t_law_changed_2t_0 M
def t_law_changed_2 (M : Pm) : TS := tIfS (tTest (tOp rLtI (tVar 4) (tC (.int 2)))) (t_law_changed_2t M) (tNext)
def t_law_changed_3t_0 (M : Pm) : TS := tRet (tOp rCat (tSl (rSlL M.K) (tVar 1) tNoPart (tPart (tVar 3))) (tSl (rSlL M.K) (tVar 1) (tPart (tOp rAddI (tVar 3) (tC (.int 1)))) tNoPart))
def t_law_changed_3t (M : Pm) : TS := t_law_changed_3t_0 M
def t_law_changed_3 (M : Pm) : TS := tIfS (tTest (tOp rEq (tVar 4) (tC (.int 2)))) (t_law_changed_3t M) (tNext)
def t_law_changed_4t_0 (M : Pm) : TS := tRet (tOp rCat (tOp rCat (tSl (rSlL M.K) (tVar 1) tNoPart (tPart (tVar 3))) (tLst (tCons (tVar 5) tNil))) (tSl (rSlL M.K) (tVar 1) (tPart (tOp rAddI (tVar 3) (tC (.int 1)))) tNoPart))
def t_law_changed_4t (M : Pm) : TS := t_law_changed_4t_0 M
def t_law_changed_4 (M : Pm) : TS := tIfS (tTest (tOp rEq (tVar 4) (tC (.int 3)))) (t_law_changed_4t M) (tNext)
def t_law_changed_5 (M : Pm) : TS := tRet (tOp rCat (tOp rCat (tOp rCat (tSl (rSlL M.K) (tVar 1) tNoPart (tPart (tVar 3))) (tSl (rSlL M.K) (tVar 1) (tPart (tOp rAddI (tVar 3) (tC (.int 1)))) (tPart (tOp rAddI (tVar 3) (tC (.int 2)))))) (tSl (rSlL M.K) (tVar 1) (tPart (tVar 3)) (tPart (tOp rAddI (tVar 3) (tC (.int 1)))))) (tSl (rSlL M.K) (tVar 1) (tPart (tOp rAddI (tVar 3) (tC (.int 2)))) tNoPart))
def t_law_changed (M : Pm) : TS := tSeq (t_law_changed_0 M) (tSeq (t_law_changed_1 M) (tSeq (t_law_changed_2 M) (tSeq (t_law_changed_3 M) (tSeq (t_law_changed_4 M) (t_law_changed_5 M)))))
section
variable {P : Program} {w : World} {mg : Str → Option Value} {base : Heap} {f : Addr} {cdv : Value} {A : Around} {outer : List Env} {s : Shared} {H : Hp} {E : XK} {M : Pm}
theorem d_law_changed (T : Tx M mg) (hr : Room 2 (A.deeper (envOfC "_law_changed" (defScope s_law_changed) s.heap.objs.size f cdv))) (G__law_pick : Has P w M.K mg base CX0 "_law_pick" 1 ["bag", "width"] (sp_law_pick M)) (G__law_some : Has P w M.K mg base CX0 "_law_some" 2 ["bag", "things"] (sp_law_some M)) :
    PSs (cxOf CX0 P w M.K mg base ["bag", "strings", "odd", "at", "turn", "string"] "_law_changed" (defScope s_law_changed) f cdv A outer s H E).nox (defBody s_law_changed) (t_law_changed M) := by
  exact (pss_cons (ps_set (i := 2) sc_law_changed.nd rfl (Or.inl rfl) (pe_lst (pa_cons pe_str (pa_cons pe_str (pa_cons pe_str (pa_cons pe_str (pa_cons pe_str (pa_cons pe_str (pa_cons pe_str (pa_cons pe_str (pa_cons pe_str (pa_cons pe_str (pa_cons pe_str (pa_cons pe_str (pa_cons pe_str (pa_cons pe_str (pa_cons pe_non (pa_cons pe_int (pa_cons (pe_tup (pa_cons pe_str pa_nil)) (pa_cons pe_str (pa_cons pe_str (pa_cons pe_str pa_nil))))))))))))))))))))))
    (pss_cons (ps_par3 (i := 3) (j := 4) (l := 5) rfl sc_law_changed.nd rfl rfl rfl (by decide) (by decide) (by decide) rfl rfl rfl (pa_cons (pc G__law_pick (hr.mono (by decide)) (by rfl) pass0 (pa_cons (pv 0) (pa_cons (pe_op op_add (pe_callB call_len (by rfl) T.n_len (by decide +kernel) (pa_cons (pv 1) pa_nil)) pe_int) pa_nil))) (pa_cons (pc G__law_pick (hr.mono (by decide)) (by rfl) pass0 (pa_cons (pv 0) (pa_cons pe_int pa_nil))) (pa_cons (pc G__law_some (hr.mono (by decide)) (by rfl) pass0 (pa_cons (pv 0) (pa_cons (pv 2) pa_nil))) pa_nil))) (by rfl))
    (pss_cons (ps_if (pt_cmpR op_lt (pv 4) pe_int (nomark _)) (pss_one (ps_ret (pe_op op_cat (pe_op op_cat (pe_slice sl_list (pv 1) po_none (po_some (pv 3))) (pe_lst (pa_cons (pv 5) pa_nil))) (pe_slice sl_list (pv 1) (po_some (pv 3)) po_none)))) pss_nil)
    (pss_cons (ps_if (pt_cmpR op_eq (pv 4) pe_int (nomark _)) (pss_one (ps_ret (pe_op op_cat (pe_slice sl_list (pv 1) po_none (po_some (pv 3))) (pe_slice sl_list (pv 1) (po_some (pe_op op_add (pv 3) pe_int)) po_none)))) pss_nil)
    (pss_cons (ps_if (pt_cmpR op_eq (pv 4) pe_int (nomark _)) (pss_one (ps_ret (pe_op op_cat (pe_op op_cat (pe_slice sl_list (pv 1) po_none (po_some (pv 3))) (pe_lst (pa_cons (pv 5) pa_nil))) (pe_slice sl_list (pv 1) (po_some (pe_op op_add (pv 3) pe_int)) po_none)))) pss_nil)
    (pss_one (ps_ret (pe_op op_cat (pe_op op_cat (pe_op op_cat (pe_slice sl_list (pv 1) po_none (po_some (pv 3))) (pe_slice sl_list (pv 1) (po_some (pe_op op_add (pv 3) pe_int)) (po_some (pe_op op_add (pv 3) pe_int)))) (pe_slice sl_list (pv 1) (po_some (pv 3)) (po_some (pe_op op_add (pv 3) pe_int)))) (pe_slice sl_list (pv 1) (po_some (pe_op op_add (pv 3) pe_int)) po_none)))))))))
end
/-! ### _law_are_bounds_right -/
def t_law_are_bounds_right_0 (M : Pm) : TS := tPar 1 2 (tCons (tCall (sp_law_pick M) [] E0 (tCons (tVar 0) (tCons (tC (.int 990)) tNil))) (tCons (tCall (sp_law_mark M) [] E0 (tCons (tVar 0) tNil)) tNil))
def t_law_are_bounds_right_1 (M : Pm) : TS := tAsg (tOp rCat (tOp rCat (tOp rRep (tLst (tCons (tOp rAddStr (tC (.str "<")) (tVar 2)) tNil)) (tVar 1)) (tOp rRep (tLst (tCons (tC (.str "b")) tNil)) (tOp rSubI (tC (.int 2000)) (tOp rMulI (tC (.int 2)) (tVar 1))))) (tOp rRep (tLst (tCons (tOp rAddStr (tC (.str ">")) (tVar 2)) tNil)) (tVar 1))) (gName 3)
def t_law_are_bounds_right_2t_0 (M : Pm) : TS := tRet (tC (.bl false))
def t_law_are_bounds_right_2t (M : Pm) : TS := t_law_are_bounds_right_2t_0 M
def t_law_are_bounds_right_2 (M : Pm) : TS := tIfS (tOr (tNot (tB (tCall (sp_law_is_told_right M) [] E0 (tCons (tVar 3) tNil)))) (tTest (tOp rNotB (tCall (sp_is_reading M) [] E0 (tCons (tCB (rTupOf M.K) (tCons (tVar 3) tNil)) tNil)) (tC (.bl true))))) (t_law_are_bounds_right_2t M) (tNext)
def t_law_are_bounds_right_3 (M : Pm) : TS := tRet (tOp rIsB (tCall (sp_is_reading M) [] E0 (tCons (tCB (rTupOf M.K) (tCons (tOp rCat (tOp rCat (tSl (rSlL M.K) (tVar 3) tNoPart (tPart (tVar 1))) (tLst (tCons (tC (.str "c")) tNil))) (tSl (rSlL M.K) (tVar 3) (tPart (tVar 1)) tNoPart)) tNil)) tNil)) (tC (.bl false)))
def t_law_are_bounds_right (M : Pm) : TS := tSeq (t_law_are_bounds_right_0 M) (tSeq (t_law_are_bounds_right_1 M) (tSeq (t_law_are_bounds_right_2 M) (t_law_are_bounds_right_3 M)))
section
variable {P : Program} {w : World} {mg : Str → Option Value} {base : Heap} {f : Addr} {cdv : Value} {A : Around} {outer : List Env} {s : Shared} {H : Hp} {E : XK} {M : Pm}
theorem d_law_are_bounds_right (T : Tx M mg) (hr : Room 10 (A.deeper (envOfC "_law_are_bounds_right" (defScope s_law_are_bounds_right) s.heap.objs.size f cdv))) (hgd : A.guards = some []) (G__law_is_told_right : HasG P w M.K mg base CX0 "_law_is_told_right" 10 ["strings"] (sp_law_is_told_right M)) (G__law_mark : Has P w M.K mg base CX0 "_law_mark" 3 ["bag"] (sp_law_mark M)) (G__law_pick : Has P w M.K mg base CX0 "_law_pick" 1 ["bag", "width"] (sp_law_pick M)) (G_is_reading : Has P w M.K mg base CX0 "is_reading" 2 ["thing"] (sp_is_reading M)) :
    PSs (cxOf CX0 P w M.K mg base ["bag", "many", "mark", "row"] "_law_are_bounds_right" (defScope s_law_are_bounds_right) f cdv A outer s H E).nox (defBody s_law_are_bounds_right) (t_law_are_bounds_right M) := by
  exact (pss_cons (ps_par (i := 1) (j := 2) rfl sc_law_are_bounds_right.nd rfl rfl (by decide) rfl rfl (pa_cons (pc G__law_pick (hr.mono (by decide)) (by rfl) pass0 (pa_cons (pv 0) (pa_cons pe_int pa_nil))) (pa_cons (pc G__law_mark (hr.mono (by decide)) (by rfl) pass0 (pa_cons (pv 0) pa_nil)) pa_nil)) (by rfl))
    (pss_cons (ps_set (i := 3) sc_law_are_bounds_right.nd rfl (Or.inl rfl) (pe_op op_cat (pe_op op_cat (pe_op op_rep (pe_lst (pa_cons (pe_op op_add_str pe_str (pv 2)) pa_nil)) (pv 1)) (pe_op op_rep (pe_lst (pa_cons pe_str pa_nil)) (pe_op op_sub pe_int (pe_op op_mul pe_int (pv 1))))) (pe_op op_rep (pe_lst (pa_cons (pe_op op_add_str pe_str (pv 2)) pa_nil)) (pv 1))))
    (pss_cons (ps_if (PW.pt (pw_or (pt_not (pt_val (pcG G__law_is_told_right hgd (hr.mono (by decide)) (by rfl) pass0 (pa_cons (pv 3) pa_nil)))) (pw_or1 (pt_cmpR op_notBl (pc G_is_reading (hr.mono (by decide)) (by rfl) pass0 (pa_cons (pe_callTy call_tuple_of (by rfl) T.n_tuple (by decide +kernel) (pa_cons (pv 3) pa_nil)) pa_nil)) pe_bl (nomark _))))) (pss_one (ps_ret pe_bl)) pss_nil)
    (pss_one (ps_ret (pe_cmpR op_isBl (pc G_is_reading (hr.mono (by decide)) (by rfl) pass0 (pa_cons (pe_callTy call_tuple_of (by rfl) T.n_tuple (by decide +kernel) (pa_cons (pe_op op_cat (pe_op op_cat (pe_slice sl_list (pv 3) po_none (po_some (pv 1))) (pe_lst (pa_cons pe_str pa_nil))) (pe_slice sl_list (pv 3) (po_some (pv 1)) po_none)) pa_nil)) pa_nil)) pe_bl (nomark _)))))))
end
/-! ### law -/
def t_law_0 (M : Pm) : TS := tAsg (tCall (sp_law_bag M) [] E0 (tCons (tVar 0) tNil)) (gName 1)
def t_law_1 (M : Pm) : TS := tAsg (tTup (tCons (tC (.str "<m")) (tCons (tC (.str "a")) (tCons (tC (.str "<n")) (tCons (tC (.str ">n")) (tCons (tC (.str "b")) (tCons (tC (.str ">m")) (tCons (tC (.str "<m")) (tCons (tC (.str ">m")) (tCons (tC (.str "c")) tNil)))))))))) (gName 2)
def t_law_2t_0 (M : Pm) : TS := tRet (tC (.bl false))
def t_law_2t (M : Pm) : TS := t_law_2t_0 M
def t_law_2 (M : Pm) : TS := tIfS (tOr (tTest (tOp (rNeD M.K) (tCall (sp_spans M) [] E0 (tCons (tVar 2) tNil)) (tTup (tCons (tTup (tCons (tC (.str "n")) (tCons (tC (.int 1)) (tCons (tC (.int 1)) tNil)))) (tCons (tTup (tCons (tC (.str "m")) (tCons (tC (.int 0)) (tCons (tC (.int 2)) tNil)))) (tCons (tTup (tCons (tC (.str "m")) (tCons (tC (.int 2)) (tCons (tC (.int 2)) tNil)))) tNil)))))) (tOr (tTest (tOp rNe (tCall (sp_text_of M) [] E0 (tCons (tVar 2) tNil)) (tC (.str "abc")))) (tTest (tOp rNotB (tCall (sp_is_reading M) [] E0 (tCons (tTup tNil) tNil)) (tC (.bl true)))))) (t_law_2t M) (tNext)
def t_law_3t_0 (M : Pm) : TS := tRet (tC (.bl false))
def t_law_3t (M : Pm) : TS := t_law_3t_0 M
def t_law_3 (M : Pm) : TS := tIfS (tOr (tTest (tOp rNotB (tCall (sp_is_reading M) [] E0 (tCons (tTup (tCons (tC (.str "<m")) (tCons (tC (.str "<n")) (tCons (tC (.str ">m")) (tCons (tC (.str ">n")) tNil))))) tNil)) (tC (.bl false)))) (tOr (tTest (tOp rNotB (tCall (sp_is_reading M) [] E0 (tCons (tLst (tCons (tC (.str "a")) tNil)) tNil)) (tC (.bl false)))) (tTest (tOp rNotB (tCall (sp_is_reading M) [] E0 (tCons (tC (.str "ab")) tNil)) (tC (.bl false)))))) (t_law_3t M) (tNext)
def t_law_4l_0 (M : Pm) : TS := tAsg (tCall (sp_law_drawn M) [] E0 (tCons (tVar 1) (tCons (tC (.int 20)) tNil))) (gName 4)
def t_law_4l_1t_0 (M : Pm) : TS := tRet (tC (.bl false))
def t_law_4l_1t (M : Pm) : TS := t_law_4l_1t_0 M
def t_law_4l_1 (M : Pm) : TS := tIfS (tOr (tNot (tB (tCall (sp_law_is_told_right M) [] E0 (tCons (tVar 4) tNil)))) (tTest (tOp rNotB (tCall (sp_is_reading M) [] E0 (tCons (tVar 4) tNil)) (tC (.bl false))))) (t_law_4l_1t M) (tNext)
def t_law_4l_2l_0 (M : Pm) : TS := tAsg (tCall (sp_law_changed M) [] E0 (tCons (tVar 1) (tCons (tVar 4) tNil))) (gName 4)
def t_law_4l_2l_1t_0 (M : Pm) : TS := tRet (tC (.bl false))
def t_law_4l_2l_1t (M : Pm) : TS := t_law_4l_2l_1t_0 M
def t_law_4l_2l_1 (M : Pm) : TS := tIfS (tNot (tB (tCall (sp_law_is_told_right M) [] E0 (tCons (tVar 4) tNil)))) (t_law_4l_2l_1t M) (tNext)
def t_law_4l_2l (M : Pm) : TS := tSeq (t_law_4l_2l_0 M) (t_law_4l_2l_1 M)
def t_law_4l_2 (M : Pm) : TS := tFor (iRng1 (tCons (tC (.int 2)) tNil)) (gName 5) (t_law_4l_2l M)
def t_law_4l (M : Pm) : TS := tSeq (t_law_4l_0 M) (tSeq (t_law_4l_1 M) (t_law_4l_2 M))
def t_law_4 (M : Pm) : TS := tFor (iRng1 (tCons (tC (.int 5)) tNil)) (gName 3) (t_law_4l M)
def t_law_5 (M : Pm) : TS := tAsg (tCall (sp_law_some M) [] E0 (tCons (tVar 1) (tCons (tLst (tCons (tC .non) (tCons (tC (.int 3)) (tCons (tC (.str "a")) (tCons (tLst (tCons (tC (.str "a")) tNil)) (tCons (tDisp ((tC (.str "a"), tC (.int 1)) :: [])) (tCons (tC (.bl true)) (tCons (tTup (tCons (tTup (tCons (tC (.str "a")) tNil)) tNil)) (tCons (tTup (tCons (tC .non) tNil)) (tCons (tTup (tCons (tC (.str "a")) (tCons (tC (.int 1)) tNil))) tNil)))))))))) tNil))) (gName 6)
def t_law_6t_0 (M : Pm) : TS := tRet (tC (.bl false))
def t_law_6t (M : Pm) : TS := t_law_6t_0 M
def t_law_6 (M : Pm) : TS := tIfS (tOr (tTest (tOp rNotB (tCall (sp_is_reading M) [] E0 (tCons (tVar 6) tNil)) (tC (.bl false)))) (tTest (tOp rNe (LamX.tLam M.tabs (TT_law_error M) (fun E => tCall (sp_spans M) [] E (tCons (tVar 6) tNil))) (tC (.str "reading"))))) (t_law_6t M) (tNext)
def t_law_7 (M : Pm) : TS := tRet (tCall (sp_law_are_bounds_right M) [] E0 (tCons (tVar 1) tNil))
def t_law (M : Pm) : TS := tSeq (t_law_0 M) (tSeq (t_law_1 M) (tSeq (t_law_2 M) (tSeq (t_law_3 M) (tSeq (t_law_4 M) (tSeq (t_law_5 M) (tSeq (t_law_6 M) (t_law_7 M)))))))
section
variable {P : Program} {w : World} {mg : Str → Option Value} {base : Heap} {f : Addr} {cdv : Value} {A : Around} {outer : List Env} {s : Shared} {H : Hp} {E : XK} {M : Pm}
theorem d_law (T : Tx M mg) (hr : Room 11 (A.deeper (envOfC "law" (defScope s_law) s.heap.objs.size f cdv))) (hgd : A.guards = some []) (G__law_are_bounds_right : HasG P w M.K mg base CX0 "_law_are_bounds_right" 11 ["bag"] (sp_law_are_bounds_right M)) (G__law_bag : Has P w M.K mg base CX0 "_law_bag" 1 ["script"] (sp_law_bag M)) (G__law_changed : Has P w M.K mg base CX0 "_law_changed" 3 ["bag", "strings"] (sp_law_changed M)) (G__law_drawn : Has P w M.K mg base CX0 "_law_drawn" 4 ["bag", "many"] (sp_law_drawn M)) (G__law_error : HasL M.K mg "_law_error" "call" s_law_error ["call", "found", "error"]) (G__law_is_told_right : HasG P w M.K mg base CX0 "_law_is_told_right" 10 ["strings"] (sp_law_is_told_right M)) (G__law_some : Has P w M.K mg base CX0 "_law_some" 2 ["bag", "things"] (sp_law_some M)) (G_is_reading : Has P w M.K mg base CX0 "is_reading" 2 ["thing"] (sp_is_reading M)) (G_spans : Has P w M.K mg base (L2.CX P w) "spans" 4 ["reading"] (sp_spans M)) (G_text_of : Has P w M.K mg base (L2.CX P w) "text_of" 4 ["reading"] (sp_text_of M)) {cT PT : Addr} (TB : LamX.TabB base mg cT PT) (hcode : cdv = .ref cT) (hmT : (PT, ("law" : Str) ++ ".<locals>." ++ "<lambda>") ∈ M.tabs) (huT : ∀ p ∈ M.tabs, p.1 = PT → p.2 = ("law" : Str) ++ ".<locals>." ++ "<lambda>") :
    PSs (cxOf CX0 P w M.K mg base ["script", "bag", "known", "lap", "strings", "turn", "odd"] "law" (defScope s_law) f cdv A outer s H E).nox (defBody s_law) (t_law M) := by
  exact (pss_cons (ps_set (i := 1) sc_law.nd rfl (Or.inl rfl) (pc G__law_bag (hr.mono (by decide)) (by rfl) pass0 (pa_cons (pv 0) pa_nil)))
    (pss_cons (ps_set (i := 2) sc_law.nd rfl (Or.inl rfl) (pe_tup (pa_cons pe_str (pa_cons pe_str (pa_cons pe_str (pa_cons pe_str (pa_cons pe_str (pa_cons pe_str (pa_cons pe_str (pa_cons pe_str (pa_cons pe_str pa_nil)))))))))))
    (pss_cons (ps_if (PW.pt (pw_or (pt_cmpR (op_neD (hu64 hr)) (pc G_spans (hr.mono (by decide)) (by rfl) passL (pa_cons (pv 2) pa_nil)) (pe_tup (pa_cons (pe_tup (pa_cons pe_str (pa_cons pe_int (pa_cons pe_int pa_nil)))) (pa_cons (pe_tup (pa_cons pe_str (pa_cons pe_int (pa_cons pe_int pa_nil)))) (pa_cons (pe_tup (pa_cons pe_str (pa_cons pe_int (pa_cons pe_int pa_nil)))) pa_nil)))) (nomark _)) (pw_or (pt_cmpR op_ne (pc G_text_of (hr.mono (by decide)) (by rfl) passL (pa_cons (pv 2) pa_nil)) pe_str (nomark _)) (pw_or1 (pt_cmpR op_notBl (pc G_is_reading (hr.mono (by decide)) (by rfl) pass0 (pa_cons (pe_tup pa_nil) pa_nil)) pe_bl (nomark _)))))) (pss_one (ps_ret pe_bl)) pss_nil)
    (pss_cons (ps_if (PW.pt (pw_or (pt_cmpR op_notBl (pc G_is_reading (hr.mono (by decide)) (by rfl) pass0 (pa_cons (pe_tup (pa_cons pe_str (pa_cons pe_str (pa_cons pe_str (pa_cons pe_str pa_nil))))) pa_nil)) pe_bl (nomark _)) (pw_or (pt_cmpR op_notBl (pc G_is_reading (hr.mono (by decide)) (by rfl) pass0 (pa_cons (pe_lst (pa_cons pe_str pa_nil)) pa_nil)) pe_bl (nomark _)) (pw_or1 (pt_cmpR op_notBl (pc G_is_reading (hr.mono (by decide)) (by rfl) pass0 (pa_cons pe_str pa_nil)) pe_bl (nomark _)))))) (pss_one (ps_ret pe_bl)) pss_nil)
    (pss_cons (ps_for PassesOwn.never rfl (pi_range1 (by rfl) T.n_range (pa_cons pe_int pa_nil)) (pg_name (i := 3) sc_law.nd rfl (Or.inl rfl)) (pss_cons (ps_set (i := 4) sc_law.nd rfl (Or.inl rfl) (pc G__law_drawn (hr.mono (by decide)) (by rfl) pass0 (pa_cons (pv 1) (pa_cons pe_int pa_nil))))
    (pss_cons (ps_if (PW.pt (pw_or (pt_not (pt_val (pcG G__law_is_told_right hgd (hr.mono (by decide)) (by rfl) pass0 (pa_cons (pv 4) pa_nil)))) (pw_or1 (pt_cmpR op_notBl (pc G_is_reading (hr.mono (by decide)) (by rfl) pass0 (pa_cons (pv 4) pa_nil)) pe_bl (nomark _))))) (pss_one (ps_ret pe_bl)) pss_nil)
    (pss_one (ps_for PassesOwn.never rfl (pi_range1 (by rfl) T.n_range (pa_cons pe_int pa_nil)) (pg_name (i := 5) sc_law.nd rfl (Or.inl rfl)) (pss_cons (ps_set (i := 4) sc_law.nd rfl (Or.inl rfl) (pc G__law_changed (hr.mono (by decide)) (by rfl) pass0 (pa_cons (pv 1) (pa_cons (pv 4) pa_nil))))
    (pss_one (ps_if (pt_not (pt_val (pcG G__law_is_told_right hgd (hr.mono (by decide)) (by rfl) pass0 (pa_cons (pv 4) pa_nil)))) (pss_one (ps_ret pe_bl)) pss_nil))))))))
    (pss_cons (ps_set (i := 6) sc_law.nd rfl (Or.inr rfl) (pc G__law_some (hr.mono (by decide)) (by rfl) pass0 (pa_cons (pv 1) (pa_cons (pe_lst (pa_cons pe_non (pa_cons pe_int (pa_cons pe_str (pa_cons (pe_lst (pa_cons pe_str pa_nil)) (pa_cons (pe_disp (pps_cons pe_str pe_int pps_nil) (by rfl) (by rfl) (fun z => by cases z) (by decide)) (pa_cons pe_bl (pa_cons (pe_tup (pa_cons (pe_tup (pa_cons pe_str pa_nil)) pa_nil)) (pa_cons (pe_tup (pa_cons pe_non pa_nil)) (pa_cons (pe_tup (pa_cons pe_str (pa_cons pe_int pa_nil))) pa_nil)))))))))) pa_nil))))
    (pss_cons (ps_if (PW.pt (pw_or (pt_cmpR op_notBl (pc G_is_reading (hr.mono (by decide)) (by rfl) pass0 (pa_cons (pv 6) pa_nil)) pe_bl (nomark _)) (pw_or1 (pt_cmpR op_ne (plam (k := 7) G__law_error (gives_law_error rfl T) (by rfl) TB hcode hmT huT (hr.mono (by decide)) (LamX.lamS_by (sc := defScope s_law) (by decide +kernel)) rfl (fun _ _ _ _ _ => rfl) (fun A outer s H E f c' hrL => (pc G_spans (hrL.mono (by decide)) (by rfl) passLam (pa_cons (pv 6) pa_nil)))) pe_str (nomark _))))) (pss_one (ps_ret pe_bl)) pss_nil)
    (pss_one (ps_ret (pcG G__law_are_bounds_right hgd (hr.mono (by decide)) (by rfl) pass0 (pa_cons (pv 1) pa_nil)))))))))))
end

set_option Elab.async false
set_option linter.all false
set_option maxRecDepth 100000
set_option maxHeartbeats 1000000
open PySem PySem.Spec PyProof.Rows L2 FR
local macro_rules | `(tactic| walk_at "rd") => `(tactic| dsimp only [tSeq, tNext, tAsg, tRet, tRetN, tDrop, tIfS, tPar, tPar3, tAug, tVar, tC, tOp, tUn, tTest, tB, tAnd, tOr, tNot, tAndV, tOrV, tNotV, tIf, tChain, tNil, tCons, tCB, tBM, tBM0, tTup, tLst, tSl, tNoPart, tPart, tCall, gName, gSub, gTup, gCons, gNil, tBreak, tCont, tRevL, tTru])
theorem p_is_mark {M : Pm} (vs : List V) (H : Hp) (Q : VK) (E : XK) (h : sp_is_mark M vs H Q E) : t_is_mark M { nx := fun _ H' => Q .non H', rt := Q } (L2.start ["thing", "sign"] vs) H := by
  obtain ⟨z, rfl, hz, k⟩ := h
  have hz' : z.length ≤ sizeLine := sz_of hz
  dsimp only [t_is_mark, t_is_mark_0]
  walk_at "rd"
  refine ⟨_, rfl, s_isiS (by decide +kernel) ⟨_, rfl, if1 rfl ?_⟩⟩
  refine ⟨_, rfl, s_lenS hz' ⟨_, _, rfl, rfl, _, rfl, ?_⟩⟩
  refine iteB (fun h1 => ?_) (fun h1 => ⟨_, rfl, if0 rfl ?_⟩)
  · refine ⟨_, _, rfl, rfl, _, rfl, ?_⟩
    refine iteB (fun h2 => ?_) (fun h2 => ?_)
    · refine lcS (z := z) (fun _ => true) (fun v => match v with | .str ⟨a⟩ => .bl (decide (a.getD 0 0 ∈ cs "abcdefghijklmnopqrstuvwxyz")) | _ => .non) (fun R r => ⟨_, rfl, r H Keep.refl⟩) (by rw [← len_cs]; omega) (fun _ => rfl)
        (fun x H1 _ k1 R r => r H1 Keep.refl) (fun x H1 m _ k1 R r => ?_) (fun D H' hD k' e => ?_)
      · obtain ⟨c, hc, rfl⟩ := List.mem_map.mp m
        exact ⟨_, rfl, c, _, rfl, rfl, r H1 Keep.refl⟩
      · refine s_all (bs := (cs z).map fun c => decide (c ∈ cs "abcdefghijklmnopqrstuvwxyz")) (.of ?_) ?_
        · rw [e]
          congr 2
          unfold pick signsV
          rw [List.filter_eq_self.mpr (fun _ _ => rfl), List.map_map, List.map_map]
          rfl
        · have e1 : isMark z = (((cs z).map fun c => decide (c ∈ cs "abcdefghijklmnopqrstuvwxyz")).all id) := by
            unfold isMark
            rw [List.all_map]
            have g1 : decide (1 ≤ z.length) = true := decide_eq_true (by have := of_decide_eq_true h1; omega)
            have g2 : decide (z.length ≤ 6) = true := decide_eq_true (by have := of_decide_eq_true h2; omega)
            rw [g1, g2]
            rfl
          rw [← e1]
          exact k H' k'
    · have e1 : isMark z = false := by
        unfold isMark
        have g2 : decide (z.length ≤ 6) = false := by
          have := of_decide_eq_false h2
          apply decide_eq_false
          omega
        rw [g2]
        simp
      rw [← e1]
      exact k H Keep.refl
  · have e1 : isMark z = false := by
      unfold isMark
      have g1 : decide (1 ≤ z.length) = false := by
        have := of_decide_eq_false h1
        apply decide_eq_false
        omega
      rw [g1]
      simp
    rw [← e1]
    exact k H Keep.refl

set_option Elab.async false
set_option linter.all false
set_option maxRecDepth 100000
set_option maxHeartbeats 1000000
open PySem PySem.Spec PyProof.Rows L2 FR
local macro_rules | `(tactic| walk_at "t_is_mark") => `(tactic| (dsimp only [t_is_mark_0, t_is_mark]; walk_at "rd"))
local macro_rules | `(tactic| walk_at "t_is_reading") => `(tactic| (dsimp only [t_is_reading_0t_0, t_is_reading_0t, t_is_reading_0, t_is_reading_1, t_is_reading_2, t_is_reading_3, t_is_reading]; walk_at "rd"))
local macro_rules | `(tactic| walk_at "t_is_reading_2l") => `(tactic| (dsimp only [t_is_reading_2l_0t_0, t_is_reading_2l_0t, t_is_reading_2l_0, t_is_reading_2l_1t_0, t_is_reading_2l_1t, t_is_reading_2l_1e_0t_0, t_is_reading_2l_1e_0t, t_is_reading_2l_1e_0e_0t_0, t_is_reading_2l_1e_0e_0t, t_is_reading_2l_1e_0e_0, t_is_reading_2l_1e_0e, t_is_reading_2l_1e_0, t_is_reading_2l_1e, t_is_reading_2l_1, t_is_reading_2l]; walk_at "rd"))
local macro_rules | `(tactic| walk_at "t_check_reading") => `(tactic| (dsimp only [t_check_reading_0t_0, t_check_reading_0t, t_check_reading_0, t_check_reading]; walk_at "rd"))
local macro_rules | `(tactic| walk_at "t_raw_spans") => `(tactic| (dsimp only [t_raw_spans_0, t_raw_spans_1, t_raw_spans_2, t_raw_spans]; walk_at "rd"))
local macro_rules | `(tactic| walk_at "t_raw_spans_1l") => `(tactic| (dsimp only [t_raw_spans_1l_0t_0, t_raw_spans_1l_0t, t_raw_spans_1l_0e_0t_0, t_raw_spans_1l_0e_0t, t_raw_spans_1l_0e_0e_0, t_raw_spans_1l_0e_0e, t_raw_spans_1l_0e_0, t_raw_spans_1l_0e, t_raw_spans_1l_0, t_raw_spans_1l]; walk_at "rd"))
local macro_rules | `(tactic| walk_at "t_spans") => `(tactic| (dsimp only [t_spans_0, t_spans_1, t_spans]; walk_at "rd"))
local macro_rules | `(tactic| walk_at "t_raw_text_of") => `(tactic| (dsimp only [t_raw_text_of_0, t_raw_text_of]; walk_at "rd"))
local macro_rules | `(tactic| walk_at "t_text_of") => `(tactic| (dsimp only [t_text_of_0, t_text_of_1, t_text_of]; walk_at "rd"))
local macro_rules | `(tactic| walk_at "t_law_bag") => `(tactic| (dsimp only [t_law_bag_0, t_law_bag_1, t_law_bag]; walk_at "rd"))
local macro_rules | `(tactic| walk_at "t_law_pick") => `(tactic| (dsimp only [t_law_pick_0t_0, t_law_pick_0t_1, t_law_pick_0t_2, t_law_pick_0t_3t_0, t_law_pick_0t_3t, t_law_pick_0t_3, t_law_pick_0t, t_law_pick_0, t_law_pick_1t_0, t_law_pick_1t_1, t_law_pick_1t_2, t_law_pick_1t, t_law_pick_1, t_law_pick_2, t_law_pick_3, t_law_pick_4, t_law_pick_5, t_law_pick_6, t_law_pick]; walk_at "rd"))
local macro_rules | `(tactic| walk_at "t_law_some") => `(tactic| (dsimp only [t_law_some_0, t_law_some]; walk_at "rd"))
local macro_rules | `(tactic| walk_at "t_law_mark") => `(tactic| (dsimp only [t_law_mark_0, t_law_mark_1, t_law_mark_2, t_law_mark]; walk_at "rd"))
local macro_rules | `(tactic| walk_at "t_law_drawn") => `(tactic| (dsimp only [t_law_drawn_0, t_law_drawn_1, t_law_drawn_2, t_law_drawn]; walk_at "rd"))
local macro_rules | `(tactic| walk_at "t_law_drawn_1l") => `(tactic| (dsimp only [t_law_drawn_1l_0, t_law_drawn_1l_1t_0, t_law_drawn_1l_1t, t_law_drawn_1l_1e_0t_0, t_law_drawn_1l_1e_0t_1, t_law_drawn_1l_1e_0t, t_law_drawn_1l_1e_0e_0t_0, t_law_drawn_1l_1e_0e_0t, t_law_drawn_1l_1e_0e_0, t_law_drawn_1l_1e_0e, t_law_drawn_1l_1e_0, t_law_drawn_1l_1e, t_law_drawn_1l_1, t_law_drawn_1l]; walk_at "rd"))
local macro_rules | `(tactic| walk_at "t_law_is_right") => `(tactic| (dsimp only [t_law_is_right_0, t_law_is_right_1, t_law_is_right_2, t_law_is_right]; walk_at "rd"))
local macro_rules | `(tactic| walk_at "t_law_is_right_1l") => `(tactic| (dsimp only [t_law_is_right_1l_0t_0, t_law_is_right_1l_0t, t_law_is_right_1l_0, t_law_is_right_1l_1, t_law_is_right_1l_2, t_law_is_right_1l_3t_0, t_law_is_right_1l_3t, t_law_is_right_1l_3e_0t_0t_0, t_law_is_right_1l_3e_0t_0t, t_law_is_right_1l_3e_0t_0, t_law_is_right_1l_3e_0t, t_law_is_right_1l_3e_0e_0t_0, t_law_is_right_1l_3e_0e_0t, t_law_is_right_1l_3e_0e_0, t_law_is_right_1l_3e_0e, t_law_is_right_1l_3e_0, t_law_is_right_1l_3e, t_law_is_right_1l_3, t_law_is_right_1l]; walk_at "rd"))
local macro_rules | `(tactic| walk_at "t_law_spans") => `(tactic| (dsimp only [t_law_spans_0, t_law_spans_1, t_law_spans_2, t_law_spans]; walk_at "rd"))
local macro_rules | `(tactic| walk_at "t_law_spans_1l") => `(tactic| (dsimp only [t_law_spans_1l_0t_0, t_law_spans_1l_0t, t_law_spans_1l_0e_0t_0, t_law_spans_1l_0e_0t, t_law_spans_1l_0e_0e_0, t_law_spans_1l_0e_0e, t_law_spans_1l_0e_0, t_law_spans_1l_0e, t_law_spans_1l_0, t_law_spans_1l]; walk_at "rd"))
local macro_rules | `(tactic| walk_at "t_law_is_told_right") => `(tactic| (dsimp only [t_law_is_told_right_0, t_law_is_told_right_1t_0, t_law_is_told_right_1t_1, t_law_is_told_right_1t_2, t_law_is_told_right_1t, t_law_is_told_right_1, t_law_is_told_right_2t_0, t_law_is_told_right_2t, t_law_is_told_right_2, t_law_is_told_right_3, t_law_is_told_right]; walk_at "rd"))
local macro_rules | `(tactic| walk_at "t_law_changed") => `(tactic| (dsimp only [t_law_changed_0, t_law_changed_1, t_law_changed_2t_0, t_law_changed_2t, t_law_changed_2, t_law_changed_3t_0, t_law_changed_3t, t_law_changed_3, t_law_changed_4t_0, t_law_changed_4t, t_law_changed_4, t_law_changed_5, t_law_changed]; walk_at "rd"))
local macro_rules | `(tactic| walk_at "t_law_are_bounds_right") => `(tactic| (dsimp only [t_law_are_bounds_right_0, t_law_are_bounds_right_1, t_law_are_bounds_right_2t_0, t_law_are_bounds_right_2t, t_law_are_bounds_right_2, t_law_are_bounds_right_3, t_law_are_bounds_right]; walk_at "rd"))
local macro_rules | `(tactic| walk_at "t_law") => `(tactic| (dsimp only [t_law_0, t_law_1, t_law_2t_0, t_law_2t, t_law_2, t_law_3t_0, t_law_3t, t_law_3, t_law_4, t_law_5, t_law_6t_0, t_law_6t, t_law_6, t_law_7, t_law]; walk_at "rd"))
local macro_rules | `(tactic| walk_at "t_law_4l") => `(tactic| (dsimp only [t_law_4l_0, t_law_4l_1t_0, t_law_4l_1t, t_law_4l_1, t_law_4l_2, t_law_4l]; walk_at "rd"))
local macro_rules | `(tactic| walk_at "t_law_4l_2l") => `(tactic| (dsimp only [t_law_4l_2l_0, t_law_4l_2l_1t_0, t_law_4l_2l_1t, t_law_4l_2l_1, t_law_4l_2l]; walk_at "rd"))
theorem eqLt {c : Nat} : decide (V.str ⟨#[c]⟩ = V.str "<") = decide (c = 60) := by
  rw [show (("<" : Str)) = ⟨#[60]⟩ from by rfl]; exact one_eq
theorem eqGt {c : Nat} : decide (V.str ⟨#[c]⟩ = V.str ">") = decide (c = 62) := by
  rw [show ((">" : Str)) = ⟨#[62]⟩ from by rfl]; exact one_eq
theorem rdRun_app : ∀ (l : List V) (st : List Str) (v : V), rdRun (l ++ [v]) st = (rdRun l st).bind fun s => rdStep s v
  | [], st, v => by
    show (rdStep st v).bind (rdRun []) = rdStep st v
    cases rdStep st v <;> rfl
  | u :: r, st, v => by
    show (rdStep st u).bind (rdRun (r ++ [v])) = ((rdStep st u).bind (rdRun r)).bind _
    cases h : rdStep st u with
    | none => rfl
    | some s => exact rdRun_app r s v
theorem rdRun_more {xs : List V} {i : Nat} {v : V} {st st' : List Str} (hi : xs[i]? = some v) (h : rdRun (xs.take i) [] = some st) (e : rdStep st v = some st') : rdRun (xs.take (i + 1)) [] = some st' := by
  rw [take_more hi, rdRun_app, h]
  exact e
theorem rdRun_none : ∀ {l : List V} {i : Nat} {v : V} {st0 st : List Str}, l[i]? = some v → rdRun (l.take i) st0 = some st → rdStep st v = none → rdRun l st0 = none
  | u :: r, 0, v, st0, st, hi, h, e => by
    have e1 : u = v := Option.some.inj hi
    have e2 : st0 = st := Option.some.inj h
    subst e1 e2
    show (rdStep st0 u).bind _ = none
    rw [e]
    rfl
  | u :: r, i + 1, v, st0, st, hi, h, e => by
    have h : (rdStep st0 u).bind (rdRun (r.take i)) = some st := h
    show (rdStep st0 u).bind (rdRun r) = none
    cases q : rdStep st0 u with
    | none => rfl
    | some s =>
      rw [q] at h
      exact rdRun_none (l := r) (i := i) hi h e
theorem rdStep_len {st st' : List Str} {v : V} (h : rdStep st v = some st') : st'.length ≤ st.length + 1 := by
  unfold rdStep at h
  split at h
  · split at h
    · cases h
    · split at h
      · cases h; simp
      · split at h
        · cases h; simp; omega
        · split at h
          · cases h; omega
          · cases h
  · cases h
theorem rdRun_len : ∀ {l : List V} {st0 st : List Str}, rdRun l st0 = some st → st.length ≤ st0.length + l.length
  | [], st0, st, h => by cases (Option.some.inj h); simp
  | v :: r, st0, st, h => by
    have h : (rdStep st0 v).bind (rdRun r) = some st := h
    cases q : rdStep st0 v with
    | none => rw [q] at h; cases h
    | some s =>
      rw [q] at h
      have := rdRun_len (l := r) h
      have := rdStep_len q
      simp only [List.length_cons]
      omega
theorem isRd_no {xs : List V} (h : rdRun xs [] = none) : isRd xs = false := by
  unfold isRd
  rw [h]
  simp
theorem isRd_long {xs : List V} (h : 2000 < xs.length) : isRd xs = false := by
  unfold isRd
  rw [decide_eq_false (by omega)]
  rfl
theorem tail_len (z : Str) : (tail1 z).length ≤ z.length := cutS_length z _ _
theorem notIn1 {z : Str} {c : Nat} (h : cs z = [c]) : (!(!(Builtin.Str.occurrences "abcd" z 0 ("abcd" : Str).length 1).isEmpty)) = !decide (c ∈ cs "abcd") := by
  have e : z = ⟨#[c]⟩ := str_ext h
  rw [e]
  exact congrArg Bool.not (PySem.StrLaws.found_one "abcd" c)
theorem last_at {st : List Str} {m : Str} (h : st.getLast? = some m) : atI (st.map V.str) (-1) = some (V.str m) := by
  obtain ⟨l, rfl⟩ := List.getLast?_eq_some_iff.mp h
  rw [List.map_append]
  exact atI_last _ _
theorem dec_len {n k : Nat} : decide (V.int (n : Int) = V.int (k : Int)) = decide (n = k) := by
  by_cases h : n = k
  · subst h; simp
  · rw [decide_eq_false h, decide_eq_false]
    intro e
    injection e with e
    omega
theorem rd_third {M : Pm} {D : Ends} {σ : L2.St} {H : Hp} {z : Str} {c : Nat} {r : List Nat} (h2 : σ[2]? = some (some (.str z))) (hc : cs z = c :: r) (hz : z.length ≤ 100)
    (yes : z.length = 1 ∧ c ∈ cs "abcd" → D.nx σ H) (no : ¬ (z.length = 1 ∧ c ∈ cs "abcd") → D.rt (.bl false) H) : t_is_reading_2l_1e_0e M D σ H := by
  dsimp only [t_is_reading_2l_1e_0e, t_is_reading_2l_1e_0e_0, t_is_reading_2l_1e_0e_0t, t_is_reading_2l_1e_0e_0t_0]
  walk_at "rd"
  refine ⟨_, h2, s_lenS (sz_of hz) ⟨rfl, _, rfl, ?_⟩⟩
  rw [show ((1 : Int)) = ((1 : Nat) : Int) from rfl, dec_len]
  by_cases e : z.length = 1
  · refine if0 (by rw [decide_eq_true e]; rfl) ?_
    have hr : r = [] := by
      have := len_cs z
      rw [hc, e] at this
      exact List.eq_nil_of_length_eq_zero (by simpa using this.symm)
    refine ⟨_, h2, _, _, rfl, rfl, _, rfl, ?_⟩
    rw [notIn1 (by rw [hc, hr])]
    by_cases m : c ∈ cs "abcd"
    · exact if0 (by rw [decide_eq_true m]; rfl) (yes ⟨e, m⟩)
    · exact if1 (by rw [decide_eq_false m]; rfl) (no fun q => m q.2)
  · exact if1 (by rw [decide_eq_false e]; rfl) (if1 rfl (no fun q => e q.1))
theorem rd_else {M : Pm} {D : Ends} {σ : L2.St} {H : Hp} {z : Str} {c : Nat} {r : List Nat} {p : Addr} {st : List Str} (h1 : σ[1]? = some (some (.ref p))) (h2 : σ[2]? = some (some (.str z))) (hc : cs z = c :: r) (hz : z.length ≤ 100)
    (hl : H p = some (.lst (st.map V.str))) (pop : c = 62 ∧ st.getLast? = some (tail1 z) → D.nx σ (upd H p (.lst (st.dropLast.map V.str))))
    (yes : ¬ (c = 62 ∧ st.getLast? = some (tail1 z)) → z.length = 1 ∧ c ∈ cs "abcd" → D.nx σ H) (no : ¬ (c = 62 ∧ st.getLast? = some (tail1 z)) → ¬ (z.length = 1 ∧ c ∈ cs "abcd") → D.rt (.bl false) H) :
    t_is_reading_2l_1e M D σ H := by
  dsimp only [t_is_reading_2l_1e, t_is_reading_2l_1e_0, t_is_reading_2l_1e_0t, t_is_reading_2l_1e_0t_0]
  walk_at "rd"
  refine ⟨_, h2, s_ixS (sz_of hz) (atI_head hc) ⟨rfl, _, rfl, ?_⟩⟩
  rw [eqGt]
  by_cases e : c = 62
  · refine if1 (decide_eq_true e) ?_
    refine ⟨_, h1, s_lenL (.of hl) ⟨_, _, rfl, rfl, _, rfl, ?_⟩⟩
    rw [List.length_map]
    cases hs : st.getLast? with
    | none =>
      have : st = [] := List.getLast?_eq_none_iff.mp hs
      subst this
      refine if0 rfl (if0 rfl ?_)
      exact rd_third h2 hc hz (yes fun q => by rw [hs] at q; exact nomatch q.2) (no fun q => by rw [hs] at q; exact nomatch q.2)
    | some m =>
      have hne : 0 < st.length := by
        cases st with
        | nil => cases hs
        | cons _ _ => exact Nat.succ_pos _
      refine if1 (decide_eq_true (by omega)) ?_
      refine ⟨_, h1, _, rfl, s_ixL (.of hl) (last_at hs) ⟨_, h2, _, rfl, s_cutS (sz_of hz) ⟨rfl, _, rfl, ?_⟩⟩⟩
      rw [str_eq]
      by_cases q : m = tail1 z
      · refine if1 (decide_eq_true q) ?_
        obtain ⟨l, rfl⟩ := List.getLast?_eq_some_iff.mp hs
        have pp := pop ⟨e, by rw [hs, q]⟩
        rw [List.dropLast_concat] at pp
        rw [List.map_append] at hl
        exact ⟨_, h1, .inl ⟨rfl, _, .of hl⟩, s_pop hl pp⟩
      · refine if0 (decide_eq_false q) ?_
        have nn : ¬ (c = 62 ∧ st.getLast? = some (tail1 z)) := fun w => q (by rw [hs] at w; exact Option.some.inj w.2)
        exact rd_third h2 hc hz (yes nn) (no nn)
  · refine if0 (decide_eq_false e) (if0 rfl ?_)
    exact rd_third h2 hc hz (yes fun q => e q.1) (no fun q => e q.1)
theorem p_is_reading {M : Pm} (vs : List V) (H : Hp) (Q : VK) (E : XK) (h : sp_is_reading M vs H Q E) : t_is_reading M { nx := fun _ H' => Q .non H', rt := Q } (L2.start ["thing", "opened", "one"] vs) H := by
  rcases h with ⟨a, xs, rfl, ha, hev, hlen, k⟩ | ⟨v, t, rfl, ht, hk, k⟩
  · walk_at "t_is_reading"
    refine ⟨_, rfl, s_isi (.base (.tup ha)) kTT ⟨_, rfl, if0 rfl ?_⟩⟩
    refine ⟨_, rfl, s_lenT (.of ha) ⟨_, _, rfl, rfl, _, rfl, iteB (fun h1 => ?_) (fun h1 => ?_)⟩⟩
    · rw [← isRd_long (xs := xs) (by have := of_decide_eq_true h1; omega)]
      exact k H Keep.refl
    have hle : xs.length ≤ 2000 := by have := of_decide_eq_false h1; omega
    refine ⟨by decide, fun p hp => ?_⟩
    refine ⟨_, rfl, a, rfl, ⟨xs, .of ((Keep.new (S := []) hp).at ha)⟩, for_tup (K := M.K) (a := a) (xs := xs)
      (fun i σ H' => ∃ (v : Option V) (st : List Str), σ = [some (.ref a), some (.ref p), v] ∧ Keep [] H H' ∧ H' p = some (.lst (st.map V.str)) ∧ rdRun (xs.take i) [] = some st)
      ⟨none, [], rfl, Keep.new hp, upd_same, rfl⟩ (fun i σ H' _ ⟨_, _, _, k1, _⟩ => .of (k1.at ha)) ?_ ?_⟩
    · rintro i x σ H1 hi ⟨v, st, rfl, k1, hl, hr⟩
      have hx : EV H1 x := EV.keep k1 (fun _ m => nomatch m) (hev x (List.mem_of_getElem? hi))
      have il : i < 2000 := Nat.lt_of_lt_of_le (List.getElem?_eq_some_iff.mp hi).1 hle
      have stl2 : st.length ≤ 2000 := Nat.le_trans (rdRun_len hr) (by rw [List.length_take]; simp; omega)
      have no : rdStep st x = none → Q (.bl false) H1 := fun e => by
        rw [← isRd_no (rdRun_none hi hr e)]
        exact k H1 k1
      dsimp only [t_is_reading_2l, t_is_reading_2l_0, t_is_reading_2l_0t, t_is_reading_2l_0t_0, t_is_reading_2l_1, t_is_reading_2l_1t, t_is_reading_2l_1t_0]
      walk_at "rd"
      match x, hx with
      | .non, _ => exact ⟨_, rfl, s_isi (.base .non) kNS ⟨_, rfl, if1 rfl (if1 rfl (no rfl))⟩⟩
      | .int n, _ => exact ⟨_, rfl, s_isi (.base (.int n)) kIS ⟨_, rfl, if1 rfl (if1 rfl (no rfl))⟩⟩
      | .ref y, ⟨ys, hy⟩ => exact ⟨_, rfl, s_isi (.base (.tup hy)) kTS ⟨_, rfl, if1 rfl (if1 rfl (no rfl))⟩⟩
      | .str z, hz =>
        have hz : z.length ≤ 100 := hz.1
        have hzl : z.length ≤ sizeLine := sz_of hz
        refine ⟨_, rfl, s_isiS kSS ⟨_, rfl, if0 rfl ?_⟩⟩
        refine ⟨_, rfl, s_lenS hzl ⟨rfl, _, rfl, ?_⟩⟩
        have hzc := len_cs z
        cases hc : cs z with
        | nil =>
          rw [hc] at hzc
          refine if1 (by rw [hzc]; rfl) (no ?_)
          show (match cs z with | [] => none | c :: _ => _) = none
          rw [hc]
        | cons c r =>
          have est : rdStep st (.str z) = if c = 60 ∧ isMark (tail1 z) = true then some (st ++ [tail1 z]) else if c = 62 ∧ st.getLast? = some (tail1 z) then some st.dropLast else if z.length = 1 ∧ c ∈ cs "abcd" then some st else none := by
            show (match cs z with | [] => none | c :: _ => _) = _
            rw [hc]
          rw [hc] at hzc
          refine if0 (decide_eq_false (by intro e; injection e with e; rw [hzc] at e; simp at e; omega)) ?_
          refine ⟨_, rfl, s_ixS hzl (atI_head hc) ⟨rfl, _, rfl, ?_⟩⟩
          rw [eqLt]
          have els : ∀ H2, Keep [] H1 H2 → ¬ (c = 60 ∧ isMark (tail1 z) = true) → t_is_reading_2l_1e M
              { nx := fun σ H' => ∃ (v : Option V) (st : List Str), σ = [some (.ref a), some (.ref p), v] ∧ Keep [] H H' ∧ H' p = some (.lst (st.map V.str)) ∧ rdRun (xs.take (i + 1)) [] = some st, rt := Q,
                bk := fun σ H' => t_is_reading_3 M { nx := fun x H' => Q V.non H', rt := Q } σ H',
                ct := fun σ H' => ∃ (v : Option V) (st : List Str), σ = [some (.ref a), some (.ref p), v] ∧ Keep [] H H' ∧ H' p = some (.lst (st.map V.str)) ∧ rdRun (xs.take (i + 1)) [] = some st }
              ([some (V.ref a), some (V.ref p), v].set 2 (some (V.str z))) H2 := fun H2 k2 n1 => by
            have kk := k1.trans k2
            have hl2 := k2.at hl
            refine rd_else rfl rfl hc hz hl2 (fun q => ?_) (fun n2 q => ?_) (fun n2 q => ?_)
            · exact ⟨_, _, rfl, kk.own hp, upd_same, rdRun_more hi hr (by rw [est, if_neg n1, if_pos q])⟩
            · exact ⟨_, _, rfl, kk, hl2, rdRun_more hi hr (by rw [est, if_neg n1, if_neg n2, if_pos q])⟩
            · rw [← isRd_no (rdRun_none hi hr (by rw [est, if_neg n1, if_neg n2, if_neg q]))]
              exact k H2 kk
          by_cases e : c = 60
          · refine if1 (decide_eq_true e) ?_
            refine ⟨_, rfl, _, rfl, s_cutS hzl ⟨tail1 z, rfl, Nat.le_trans (tail_len z) (by omega), fun H2 k2 => ⟨_, rfl, iteB (fun m => ?_) (fun m => ?_)⟩⟩⟩
            · have hl2 := k2.at hl
              refine ⟨_, rfl, .inl ⟨rfl, _, .of hl2⟩, _, rfl, _, rfl, s_cutS hzl (s_app hl2 (szl_of (by rw [List.length_map]; exact stl2)) ?_)⟩
              refine ⟨_, _, rfl, (k1.trans k2).own hp, ?_, rdRun_more hi hr (by rw [est, if_pos ⟨e, m⟩])⟩
              rw [upd_same, List.map_append]
              rfl
            · exact els H2 k2 fun q => by rw [m] at q; exact nomatch q.2
          · exact if0 (decide_eq_false e) (if0 rfl (els H1 Keep.refl fun q => e q.1))
    · rintro σ H1 ⟨v, st, rfl, k1, hl, hr⟩
      walk_at "rd"
      rw [List.take_length] at hr
      refine ⟨_, rfl, s_lenL (.of hl) ⟨rfl, ?_⟩⟩
      have e : isRd xs = decide (V.int ((st.map V.str).length : Nat) = V.int 0) := by
        unfold isRd
        rw [hr, decide_eq_true hle]
        cases st with
        | nil => rfl
        | cons m r =>
          rw [decide_eq_false (by intro z; injection z with z; simp at z; omega)]
          rfl
      rw [← e]
      exact k H1 k1
  · walk_at "t_is_reading"
    exact ⟨_, rfl, s_isi ht hk ⟨_, rfl, if1 rfl (if1 rfl (k H Keep.refl))⟩⟩

set_option Elab.async false
set_option linter.all false
set_option maxRecDepth 100000
set_option maxHeartbeats 1000000
open PySem PySem.Spec PyProof.Rows L2 FR
theorem p_check_reading {M : Pm} (vs : List V) (H : Hp) (Q : VK) (E : XK) (h : sp_check_reading M vs H Q E) : t_check_reading M E { nx := fun _ H' => Q .non H', rt := Q } (L2.start ["thing"] vs) H := by
  rcases h with ⟨a, xs, rfl, ha, hev, hlen, kT, kF⟩ | ⟨v, t, rfl, ht, hk, k⟩
  · walk_at "t_check_reading"
    refine ⟨_, rfl, .inl ⟨a, xs, rfl, ha, hev, hlen, fun H' k' => ⟨_, rfl, ?_⟩⟩⟩
    cases e : isRd xs with
    | true => exact if0 rfl (kT e H' k')
    | false => exact if1 rfl (kF e H' k')
  · walk_at "t_check_reading"
    exact ⟨_, rfl, .inr ⟨v, t, rfl, ht, hk, fun H' k' => ⟨_, rfl, if1 rfl (k H' k')⟩⟩⟩
/-! ### what a right reading's strings are -/
theorem step_of {st st' : List Str} {x : V} (h : rdStep st x = some st') : ∃ z c r, x = .str z ∧ cs z = c :: r ∧
    ((c = 60 ∧ isMark (tail1 z) = true ∧ st' = st ++ [tail1 z]) ∨ (c = 62 ∧ st.getLast? = some (tail1 z) ∧ st' = st.dropLast) ∨ (¬ c = 60 ∧ ¬ c = 62 ∧ z.length = 1 ∧ c ∈ cs "abcd" ∧ st' = st)) := by
  match x, h with
  | .str z, h =>
    have h : (match cs z with | [] => none | c :: _ => if c = 60 ∧ isMark (tail1 z) = true then some (st ++ [tail1 z]) else if c = 62 ∧ st.getLast? = some (tail1 z) then some st.dropLast else if z.length = 1 ∧ c ∈ cs "abcd" then some st else none) = some st' := h
    cases hc : cs z with
    | nil => rw [hc] at h; cases h
    | cons c r =>
      rw [hc] at h
      refine ⟨z, c, r, rfl, hc, ?_⟩
      simp only at h
      split at h
      · rename_i q
        exact .inl ⟨q.1, q.2, (Option.some.inj h).symm⟩
      · split at h
        · rename_i q
          exact .inr (.inl ⟨q.1, q.2, (Option.some.inj h).symm⟩)
        · split at h
          · rename_i q
            refine .inr (.inr ⟨fun e => ?_, fun e => ?_, q.1, q.2, (Option.some.inj h).symm⟩)
            · rw [e] at q; exact absurd q.2 (by decide)
            · rw [e] at q; exact absurd q.2 (by decide)
          · cases h
theorem rd_good {xs : List V} (h : isRd xs = true) : rdRun xs [] = some [] ∧ xs.length ≤ 2000 := by
  have h' : decide (xs.length ≤ 2000) = true ∧ (rdRun xs [] == some []) = true := Bool.and_eq_true_iff.mp h
  exact ⟨by simpa using h'.2, of_decide_eq_true h'.1⟩
theorem rd_next {xs : List V} {i : Nat} {x : V} {st : List Str} (h : isRd xs = true) (hi : xs[i]? = some x) (hr : rdRun (xs.take i) [] = some st) : ∃ st', rdStep st x = some st' := by
  cases e : rdStep st x with
  | some st' => exact ⟨st', rfl⟩
  | none =>
    have := rdRun_none hi hr e
    rw [(rd_good h).1] at this
    cases this
theorem rd_all : ∀ {xs : List V} {st st' : List Str}, rdRun xs st = some st' → ∀ x ∈ xs, ∃ s s', rdStep s x = some s'
  | v :: r, st, st', h, x, hx => by
    have h : (rdStep st v).bind (rdRun r) = some st' := h
    cases q : rdStep st v with
    | none => rw [q] at h; cases h
    | some s =>
      rw [q] at h
      rcases List.mem_cons.mp hx with e | hx
      · rw [e]; exact ⟨st, s, q⟩
      · exact rd_all (xs := r) h x hx
theorem spRun_more {xs : List V} {i : Nat} {x : V} (hi : xs[i]? = some x) : spRun (xs.take (i + 1)) = spStep (spRun (xs.take i)) x := by
  unfold spRun
  rw [take_more hi, List.foldl_append]
  rfl
theorem spStep_str {s : List PyData × List Int × Int} {z : Str} {c : Nat} {r : List Nat} (hc : cs z = c :: r) : spStep s (.str z) = if c = 60 then (s.1, s.2.1 ++ [s.2.2], s.2.2)
      else if c = 62 then (s.1 ++ [.tuple [.str (tail1 z), .int (s.2.1.getLast?.getD 0), .int s.2.2]], s.2.1.dropLast, s.2.2)
      else (s.1, s.2.1, s.2.2 + 1) := by
  show (match cs z with | [] => s | c :: _ => _) = _
  rw [hc]
theorem len_of {H : Hp} {x : V} {z : Str} (h : EV H x) (e : x = .str z) : z.length ≤ 100 := by
  subst e; exact h.1
/-- the loop that reckons the spans: where it stands behind i strings -/
structure SpInv (M : Pm) (xs : List V) (pf po : Addr) (i : Nat) (H : Hp) (ws : List V) : Prop where
  f : H pf = some (.lst ws)
  o : H po = some (.lst ((spRun (xs.take i)).2.1.map V.int))
  d : DpAll M.K H ws (spRun (xs.take i)).1
  n : noLs (spRun (xs.take i)).1 = true
  l : ws.length ≤ i
  s : ∃ st, rdRun (xs.take i) [] = some st ∧ st.length = (spRun (xs.take i)).2.1.length
theorem sp_noL (xs : List V) : noLs (spRun xs).1 = true := by
  unfold spRun
  have go : ∀ (l : List V) (s : List PyData × List Int × Int), noLs s.1 = true → noLs (l.foldl spStep s).1 = true := by
    intro l
    induction l with
    | nil => intro s h; exact h
    | cons x r ih =>
      intro s h
      refine ih _ ?_
      unfold spStep
      split
      · split
        · exact h
        · split
          · exact h
          · split
            · exact noLs_app h rfl
            · exact h
      · exact h
  exact go xs _ rfl
theorem fresh_ne {H : Hp} {a b : Addr} {o : HO} (h : H b = none) : (upd H b o) a = none → a ≠ b := fun e z => by
  subst z
  rw [upd_same] at e
  cases e
theorem p_raw_spans {M : Pm} (vs : List V) (H : Hp) (Q : VK) (E : XK) (h : sp_raw_spans M vs H Q E) : t_raw_spans M { nx := fun _ H' => Q .non H', rt := Q } (L2.start ["reading", "found", "opened", "at", "one"] vs) H := by
  obtain ⟨a, xs, rfl, ha, hev, hrd, k⟩ := h
  have hle := (rd_good hrd).2
  walk_at "t_raw_spans"
  refine ⟨by decide, fun pf hf => ⟨by decide, fun po ho => ⟨_, _, _, rfl, ?_⟩⟩⟩
  have hfo : pf ≠ po := (fresh_ne hf ho).symm
  have k0 : Keep [] H (upd (upd H pf (.lst [])) po (.lst [])) := (Keep.new hf).own ((Keep.new (S := []) hf).none ho)
  have ho' : H po = none := (Keep.new (S := []) hf).none ho
  refine ⟨_, rfl, a, rfl, ⟨xs, .of (k0.at ha)⟩, for_tup (K := M.K) (a := a) (xs := xs)
    (fun i σ H' => ∃ (v : Option V) (ws : List V), σ = [some (.ref a), some (.ref pf), some (.ref po), some (.int (spRun (xs.take i)).2.2), v] ∧ Keep [] H H' ∧ SpInv M xs pf po i H' ws)
    ⟨none, [], rfl, k0, ⟨by rw [upd_ne hfo, upd_same], upd_same, .nil, rfl, Nat.le_refl _, [], rfl, rfl⟩⟩ (fun i σ H' _ ⟨_, _, _, k1, _⟩ => .of (k1.at ha)) ?_ ?_⟩
  · rintro i x σ H1 hi ⟨v, ws, rfl, k1, I⟩
    obtain ⟨st, hr, hst⟩ := I.s
    obtain ⟨st', e'⟩ := rd_next hrd hi hr
    obtain ⟨z, c, r, rfl, hc, hw⟩ := step_of e'
    have hz : z.length ≤ 100 := len_of (EV.keep k1 (fun _ m => nomatch m) (hev _ (List.mem_of_getElem? hi))) rfl
    have hzl : z.length ≤ sizeLine := sz_of hz
    have il : i < 2000 := Nat.lt_of_lt_of_le (List.getElem?_eq_some_iff.mp hi).1 hle
    have hrm := rdRun_more hi hr e'
    have hsp := spRun_more hi
    rw [spStep_str hc] at hsp
    have stl : st.length ≤ 2000 := Nat.le_trans (rdRun_len hr) (by rw [List.length_take]; simp; omega)
    walk_at "t_raw_spans_1l"
    refine ⟨_, rfl, s_ixS hzl (atI_head hc) ⟨rfl, _, rfl, ?_⟩⟩
    rw [eqLt]
    rcases hw with ⟨hc1, _, rfl⟩ | ⟨hc1, hlast, rfl⟩ | ⟨hc1, hc2, _, _, rfl⟩
    · rw [if_pos hc1] at hsp
      refine if1 (decide_eq_true hc1) ?_
      refine ⟨_, rfl, .inl ⟨rfl, _, .of I.o⟩, _, rfl, s_app I.o (szl_of (by rw [List.length_map, ← hst]; exact stl)) ?_⟩
      have kk : Keep [po] H1 (upd H1 po (.lst ((spRun (xs.take i)).2.1.map V.int ++ [.int (spRun (xs.take i)).2.2]))) := Keep.put (by simp)
      refine ⟨_, ws, by rw [hsp]; rfl, k1.own ho', ⟨by rw [upd_ne hfo]; exact I.f, ?_, ?_, by rw [hsp]; exact I.n, Nat.le_succ_of_le I.l, _, hrm, ?_⟩⟩
      · rw [upd_same, hsp, List.map_append]; rfl
      · rw [hsp]
        exact DpAll.tk (kk.tk fun s hs => by rcases List.mem_singleton.mp hs with rfl; exact ⟨_, I.o⟩) _ _ I.n I.d
      · rw [hsp]; simp [hst]
    · have hc2 : ¬ c = 60 := by omega
      rw [if_neg hc2, if_pos hc1] at hsp
      refine if0 (decide_eq_false hc2) ?_
      refine ⟨_, rfl, s_ixS hzl (atI_head hc) ⟨rfl, _, rfl, ?_⟩⟩
      rw [eqGt]
      refine if1 (decide_eq_true hc1) ?_
      -- the marks that are open are as many as the places kept
      have hne : (spRun (xs.take i)).2.1 ≠ [] := fun q => by
        rw [q] at hst
        rw [List.eq_nil_of_length_eq_zero hst] at hlast
        cases hlast
      obtain ⟨ns, n, hns⟩ : ∃ ns n, (spRun (xs.take i)).2.1 = ns ++ [n] := ⟨_, _, (List.dropLast_concat_getLast hne).symm⟩
      have Io := I.o
      rw [hns, List.map_append] at Io
      refine ⟨_, rfl, .inl ⟨rfl, _, .of I.f⟩, _, rfl, _, rfl, s_cutS hzl ?_⟩
      refine ⟨_, rfl, .inl ⟨rfl, _, .of Io⟩, s_pop Io ⟨_, rfl, by show 3 ≤ sizeLine; decide, fun t ht => ?_⟩⟩
      have tf : t ≠ pf := fun q => by rw [q, upd_ne hfo, I.f] at ht; cases ht
      have to' : t ≠ po := fun q => by rw [q, upd_same] at ht; cases ht
      have e1 : upd (upd H1 po (.lst (ns.map V.int))) t (.tup [.str (tail1 z), .int n, .int (spRun (xs.take i)).2.2]) pf = some (.lst ws) := by
        rw [upd_ne tf.symm, upd_ne hfo]; exact I.f
      refine s_app e1 (szl_of (Nat.le_trans I.l (by omega) : _ ≤ 2000)) ?_
      have kA : Keep [po] H1 (upd H1 po (.lst (ns.map V.int))) := Keep.put (by simp)
      have kB : Keep [] (upd H1 po (.lst (ns.map V.int))) (upd (upd H1 po (.lst (ns.map V.int))) t (.tup [.str (tail1 z), .int n, .int (spRun (xs.take i)).2.2])) := Keep.new ht
      have kC : Keep [pf] (upd (upd H1 po (.lst (ns.map V.int))) t (.tup [.str (tail1 z), .int n, .int (spRun (xs.take i)).2.2])) (upd (upd (upd H1 po (.lst (ns.map V.int))) t (.tup [.str (tail1 z), .int n, .int (spRun (xs.take i)).2.2])) pf (.lst (ws ++ [.ref t]))) := Keep.put (by simp)
      have hf' : H pf = none := hf
      have kt : Keep [po, pf] H1 _ := ((kA.mono fun _ m => by simp at m; simp [m]).trans kB.of0).trans (kC.mono fun _ m => by simp at m; simp [m])
      have hd : (spRun (xs.take i)).2.1.getLast?.getD 0 = n := by rw [hns]; simp
      refine ⟨_, ws ++ [.ref t], by rw [hsp]; rfl, ?_, ⟨upd_same, ?_, ?_, ?_, ?_, _, hrm, ?_⟩⟩
      · exact Keep.own (Keep.trans (k1.own ho') kB) hf'
      · rw [upd_ne hfo.symm, upd_ne to'.symm, upd_same, hsp]
        show _ = some (HO.lst ((spRun (xs.take i)).2.1.dropLast.map V.int))
        rw [hns, List.dropLast_concat]
      · rw [hsp]
        refine DpAll.app (DpAll.tk (kt.tk fun s hs => ?_) _ _ I.n I.d) (.cons (.tup (xs := [.str (tail1 z), .int n, .int (spRun (xs.take i)).2.2]) (.of ?_) ?_) .nil)
        · rcases List.mem_cons.mp hs with rfl | hs
          · exact ⟨_, I.o⟩
          · rcases List.mem_singleton.mp hs with rfl; exact ⟨_, I.f⟩
        · rw [upd_ne tf, upd_same]
        · rw [hd]
          exact .cons (.str _) (.cons (.int _) (.cons (.int _) .nil))
      · rw [hsp]; exact noLs_app I.n rfl
      · simp; exact I.l
      · rw [hsp]
        show st.dropLast.length = (spRun (xs.take i)).2.1.dropLast.length
        rw [List.length_dropLast, List.length_dropLast, hst]
    · rw [if_neg hc1, if_neg hc2] at hsp
      refine if0 (decide_eq_false hc1) ?_
      refine ⟨_, rfl, s_ixS hzl (atI_head hc) ⟨rfl, _, rfl, ?_⟩⟩
      rw [eqGt]
      refine if0 (decide_eq_false hc2) ⟨_, rfl, _, _, rfl, rfl, ?_⟩
      refine ⟨_, ws, by rw [hsp]; rfl, k1, ⟨I.f, by rw [hsp]; exact I.o, by rw [hsp]; exact I.d, by rw [hsp]; exact I.n, Nat.le_succ_of_le I.l, _, hrm, by rw [hsp]; exact hst⟩⟩
  · rintro σ H1 ⟨v, ws, rfl, k1, I⟩
    walk_at "rd"
    refine ⟨_, rfl, ?_⟩
    have hd := I.d
    have hl := I.l
    rw [List.take_length] at hd
    exact k H1 pf ws hf k1 I.f hd (Nat.le_trans hl hle)

set_option Elab.async false
set_option linter.all false
set_option maxRecDepth 100000
set_option maxHeartbeats 1000000
open PySem PySem.Spec PyProof.Rows L2 FR
theorem p_spans {M : Pm} (vs : List V) (H : Hp) (Q : VK) (E : XK) (h : sp_spans M vs H Q E) : t_spans M E { nx := fun _ H' => Q .non H', rt := Q } (L2.start ["reading"] vs) H := by
  rcases h with ⟨a, xs, rfl, ha, hev, hlen, kT, kF⟩ | ⟨v, t, rfl, ht, hk, k⟩
  · walk_at "t_spans"
    refine ⟨_, rfl, .inl ⟨a, xs, rfl, ha, hev, hlen, fun hT H1 k1 => ?_, kF⟩⟩
    refine ⟨_, rfl, a, xs, rfl, k1.at ha, fun v m => EV.keep k1 (fun _ m => nomatch m) (hev v m), hT, fun H2 p ws hp k2 e hd hl => s_tupL (.of e) fun q hq => ?_⟩
    have k3 : Keep [] H2 (upd H2 q (.tup ws)) := Keep.new hq
    have hn : noLs (spRun xs).1 = true := sp_noL xs
    exact kT hT _ q ((k1.trans k2).trans k3) (.tup (.of upd_same) (DpAll.tk (k3.tk fun _ m => nomatch m) _ _ hn hd))
  · walk_at "t_spans"
    exact ⟨_, rfl, .inr ⟨v, t, rfl, ht, hk, k⟩⟩
theorem inV2 {c : Nat} : inV (.str ⟨#[c]⟩) [.str "<", .str ">"] = (decide (c = 60) || decide (c = 62)) := by
  show ((("<" : Str) == (⟨#[c]⟩ : Str)) || (((">" : Str) == (⟨#[c]⟩ : Str)) || false)) = _
  have e : ∀ d : Nat, ((⟨#[d]⟩ : Str) == (⟨#[c]⟩ : Str)) = decide (c = d) := fun d => by
    by_cases h : c = d
    · subst h; simp
    · rw [decide_eq_false h]
      refine beq_eq_false_iff_ne.mpr fun q => h ?_
      injection q with q
      simp at q
      exact q.symm
  rw [show ("<" : Str) = ⟨#[60]⟩ from by rfl, show (">" : Str) = ⟨#[62]⟩ from by rfl, e, e, Bool.or_false]
theorem sign_len {xs : List V} (h : isRd xs = true) : ∀ x ∈ xs, isSignV x = true → (strOf x).length = 1 := fun x hx hs => by
  obtain ⟨s, s', e⟩ := rd_all (rd_good h).1 x hx
  obtain ⟨z, c, r, rfl, hc, hw⟩ := step_of e
  have hs : (match cs z with | [] => false | c :: _ => !(decide (c = 60) || decide (c = 62))) = true := hs
  rw [hc] at hs
  rcases hw with ⟨q, _⟩ | ⟨q, _⟩ | ⟨_, _, q, _⟩
  · subst q; cases hs
  · subst q; cases hs
  · exact q
theorem str_of_rd {xs : List V} (h : isRd xs = true) : ∀ x ∈ xs, x = .str (strOf x) := fun x hx => by
  obtain ⟨s, s', e⟩ := rd_all (rd_good h).1 x hx
  obtain ⟨z, c, r, rfl, hc, hw⟩ := step_of e
  rfl
theorem strs_back {l : List V} (h : ∀ x ∈ l, x = .str (strOf x)) : (l.map strOf).map V.str = l := by
  rw [List.map_map]
  conv => rhs; rw [← List.map_id l]
  refine List.map_congr_left fun x hx => ?_
  exact (h x hx).symm
theorem sum_ones {l : List V} (h : ∀ x ∈ l, (strOf x).length = 1) : ((l.map strOf).map (·.length)).sum = l.length := by
  induction l with
  | nil => rfl
  | cons x r ih =>
    simp only [List.map_cons, List.sum_cons, List.length_cons]
    rw [h x List.mem_cons_self, ih fun y hy => h y (List.mem_cons_of_mem _ hy)]
    omega
theorem sign_sum {xs : List V} (h : isRd xs = true) : (((signsOf xs).map strOf).map (·.length)).sum + ((signsOf xs).map strOf).length * ("" : Str).length ≤ 16777216 := by
  have h1 : ∀ x ∈ signsOf xs, (strOf x).length = 1 := fun x hx => sign_len h x (List.mem_filter.mp hx).1 (List.mem_filter.mp hx).2
  rw [sum_ones h1, show ("" : Str).length = 0 from rfl, Nat.mul_zero]
  have := List.length_filter_le isSignV xs
  have := (rd_good h).2
  show (List.filter isSignV xs).length + 0 ≤ _
  omega
theorem p_raw_text_of {M : Pm} (vs : List V) (H : Hp) (Q : VK) (E : XK) (h : sp_raw_text_of M vs H Q E) : t_raw_text_of M { nx := fun _ H' => Q .non H', rt := Q } (L2.start ["reading", "one"] vs) H := by
  obtain ⟨a, xs, rfl, ha, hev, hrd, k⟩ := h
  walk_at "t_raw_text_of"
  refine ⟨rfl, lcT (xs := xs) isSignV (fun v => v) (fun R r => ⟨_, rfl, r a H Keep.refl (.of ha)⟩) (Nat.le_trans (rd_good hrd).2 (by decide)) (fun _ => rfl) (fun x H1 m k1 R r => ?_) (fun x H1 _ _ k1 R r => ⟨_, rfl, r H1 Keep.refl⟩) fun D H1 hD k1 e => ?_⟩
  · obtain ⟨s, s', e⟩ := rd_all (rd_good hrd).1 x m
    obtain ⟨z, c, r', rfl, hc, hw⟩ := step_of e
    have hz : z.length ≤ 100 := (hev _ m).1
    walk_at "rd"
    refine ⟨_, rfl, s_ixS (sz_of hz) (atI_head hc) ⟨by show 2 ≤ sizeLine; decide, fun p hp => s_ninT (.of upd_same) rfl rfl ⟨_, rfl, ?_⟩⟩⟩
    rw [inV2]
    have e1 : isSignV (.str z) = !(decide (c = 60) || decide (c = 62)) := by
      show (match cs z with | [] => false | c :: _ => _) = _
      rw [hc]
    rw [← e1]
    exact r _ (Keep.new hp)
  · have e2 : pick isSignV (fun v => v) xs = ((signsOf xs).map strOf).map V.str := by
      have sb := strs_back (l := signsOf xs) fun x hx => str_of_rd hrd x (List.mem_filter.mp hx).1
      rw [sb]
      unfold pick
      rw [List.map_id']
      rfl
    rw [e2] at e
    exact s_join (.of e) (sign_sum hrd) (k H1 k1)
theorem p_text_of {M : Pm} (vs : List V) (H : Hp) (Q : VK) (E : XK) (h : sp_text_of M vs H Q E) : t_text_of M E { nx := fun _ H' => Q .non H', rt := Q } (L2.start ["reading"] vs) H := by
  obtain ⟨a, xs, rfl, ha, hev, hlen, kT, kF⟩ := h
  walk_at "t_text_of"
  refine ⟨_, rfl, .inl ⟨a, xs, rfl, ha, hev, hlen, fun hT H1 k1 => ?_, kF⟩⟩
  exact ⟨_, rfl, a, xs, rfl, k1.at ha, fun v m => EV.keep k1 (fun _ m => nomatch m) (hev v m), hT, fun H2 k2 => kT hT H2 (k1.trans k2)⟩
/-! ### the bag -/
theorem p_law_bag {M : Pm} (vs : List V) (H : Hp) (Q : VK) (E : XK) (h : sp_law_bag M vs H Q E) : t_law_bag M { nx := fun _ H' => Q .non H', rt := Q } (L2.start ["script", "cells", "cell"] vs) H := by
  obtain ⟨a, ns, rfl, hs, hl, k⟩ := h
  walk_at "t_law_bag"
  have cut : cutV (ns.map V.int) none (some 63) = ns.map V.int := by
    unfold cutV
    have e : HT.sIx (ns.map V.int).length (ns.map V.int).length (some ((63 : Nat) : Int)) = (ns.map V.int).length := by
      rw [HT.sIx_nat, List.length_map]; omega
    rw [HT.sIx_none, show ((63 : Int)) = ((63 : Nat) : Int) from rfl, e]
    simp
    rw [← List.length_map (f := V.int), List.take_length]
  refine lcL (xs := ns.map V.int) (fun _ => true) (fun v => match v with | .int i => .int (i % 10 ^ 40) | v => v) (fun R r => ?_) (by rw [List.length_map]; omega) (fun _ => rfl) (fun x H1 _ _ R r => r H1 Keep.refl) (fun x H1 m _ k1 R r => ?_) (fun D H1 hD k1 e => ?_)
  · walk_at "rd"
    refine ⟨_, rfl, _, rfl, s_cutL hs fun p hp => r p _ (Keep.new hp) (.of ?_)⟩
    rw [upd_same, cut]
  · obtain ⟨n, _, rfl⟩ := List.mem_map.mp m
    walk_at "rd"
    exact ⟨_, rfl, .inl ⟨n, rfl, _, _, rfl, rfl, ⟨by decide, by decide, by decide⟩, _, _, rfl, rfl, (by show (0 : Int) < 10 ^ (Int.toNat 40); decide +kernel), .inl ⟨_, rfl, r H1 Keep.refl⟩⟩⟩
  · have e2 : pick (fun _ => true) (fun v => match v with | .int i => V.int (i % 10 ^ 40) | v => v) (ns.map V.int) = (ns.map (· % 10 ^ 40)).map V.int := by
      unfold pick
      rw [List.filter_eq_self.mpr (fun _ _ => rfl), List.map_map, List.map_map]
      rfl
    rw [e2] at e
    refine ⟨_, rfl, _, rfl, s_lenL (.of e) ⟨_, _, rfl, rfl, .inl (by decide), _, _, rfl, rfl, by show 5 ≤ sizeLine; decide, fun b hb => ?_⟩⟩
    have hb' : H b = none := k1.none hb
    have hDb : D ≠ b := fun q => by rw [q, hb] at e; cases e
    refine k _ b D hb' (k1.trans (Keep.new hb)) ⟨ns.map (· % 10 ^ 40), 0, 0, 2371 + 11 * ((ns.map (· % 10 ^ 40)).map V.int).length, 0, upd_same, (by rw [upd_ne hDb]; exact e), hDb, ?_, fun z hz => ?_, Int.le_refl 0, ?_, Int.le_refl 0, by decide, ?_, ?_, Int.le_refl 0⟩
    · rw [List.length_map]; exact hl
    · obtain ⟨n, _, rfl⟩ := List.mem_map.mp hz
      exact ⟨Int.emod_nonneg _ (by decide), Int.emod_lt_of_pos _ (by decide)⟩
    · simp
    · simp only [List.length_map]; omega
    · simp only [List.length_map]; omega

set_option Elab.async false
set_option linter.all false
set_option maxRecDepth 100000
set_option maxHeartbeats 1000000
open PySem PySem.Spec PyProof.Rows L2 FR
section
variable {a0 a1 a2 a3 a4 : V}
theorem at50 : atI [a0, a1, a2, a3, a4] 0 = some a0 := atI_nat (xs := [a0, a1, a2, a3, a4]) (j := 0) rfl
theorem at51 : atI [a0, a1, a2, a3, a4] 1 = some a1 := atI_nat (xs := [a0, a1, a2, a3, a4]) (j := 1) rfl
theorem at52 : atI [a0, a1, a2, a3, a4] 2 = some a2 := atI_nat (xs := [a0, a1, a2, a3, a4]) (j := 2) rfl
theorem at53 : atI [a0, a1, a2, a3, a4] 3 = some a3 := atI_nat (xs := [a0, a1, a2, a3, a4]) (j := 3) rfl
theorem at54 : atI [a0, a1, a2, a3, a4] 4 = some a4 := atI_nat (xs := [a0, a1, a2, a3, a4]) (j := 4) rfl
theorem ix51 : ixN [a0, a1, a2, a3, a4].length 1 = some 1 := by rfl
theorem ix52 : ixN [a0, a1, a2, a3, a4].length 2 = some 2 := by rfl
theorem ix53 : ixN [a0, a1, a2, a3, a4].length 3 = some 3 := by rfl
theorem ix54 : ixN [a0, a1, a2, a3, a4].length 4 = some 4 := by rfl
end
theorem int_eq {x y : Int} : decide (V.int x = V.int y) = decide (x = y) := by
  by_cases h : x = y
  · subst h; simp
  · rw [decide_eq_false h, decide_eq_false]
    intro z
    injection z with z
    exact h z
theorem ten18 : (10 : Int) ^ (Int.toNat 18) = 10 ^ 18 := rfl
theorem pk_rest {M : Pm} {Q : VK} {H : Hp} {b c : Addr} {i l m n w : Int} {x2 x3 x4 : Option V} (hb : H b = some (.lst [.ref c, .int i, .int l, .int m, .int n])) (hl : 0 ≤ l) (hm : 0 ≤ m) (hm2 : m < 2147483648) (hn : 0 ≤ n) (hw : 1 ≤ w) (hw2 : w ≤ 1000000)
    (k : ∀ l' n' d, 0 ≤ l' → l' ≤ l → 0 ≤ n' → 0 ≤ d → d < w → Q (.int d) (upd H b (.lst [.ref c, .int i, .int l', .int m, .int n']))) :
    tSeq (t_law_pick_1 M) (tSeq (t_law_pick_2 M) (tSeq (t_law_pick_3 M) (tSeq (t_law_pick_4 M) (tSeq (t_law_pick_5 M) (t_law_pick_6 M))))) { nx := fun _ H' => Q .non H', rt := Q } [some (.ref b), some (.int w), x2, x3, x4] H := by
  dsimp only [t_law_pick_1, t_law_pick_1t, t_law_pick_1t_0, t_law_pick_1t_1, t_law_pick_1t_2, t_law_pick_2, t_law_pick_3, t_law_pick_4, t_law_pick_5, t_law_pick_6]
  walk_at "rd"
  refine ⟨_, rfl, s_ixL (.of hb) at52 ⟨_, _, rfl, rfl, _, rfl, iteB (fun h => ?_) (fun h => ?_)⟩⟩
  · have h0 : 0 < l := of_decide_eq_true h
    refine ⟨_, rfl, s_ixL (.of hb) at52 (.inl ⟨_, rfl, _, rfl, _, _, rfl, rfl, (by show 0 < w; omega), ?_⟩)⟩
    refine ⟨_, rfl, s_ixL (.of hb) at52 ⟨_, rfl, _, _, rfl, rfl, ⟨by omega, by omega⟩, _, rfl, s_setL hb ix52 ⟨_, rfl, ?_⟩⟩⟩
    exact k (l / w) n (l % w) (Int.ediv_nonneg hl (by omega)) (Int.ediv_le_self _ hl) hn (Int.emod_nonneg _ (by omega)) (Int.emod_lt_of_pos _ (by omega))
  · refine ⟨_, rfl, s_ixL (.of hb) at54 ⟨_, _, rfl, rfl, _, rfl, s_setL hb ix54 ?_⟩⟩
    have hb2 : (upd H b (.lst ([V.ref c, .int i, .int l, .int m, .int n].set 4 (.int (n + 1))))) b = some (.lst [.ref c, .int i, .int l, .int m, .int (n + 1)]) := upd_same
    refine ⟨_, rfl, s_ixL (.of hb2) at53 ⟨_, rfl, s_ixL (.of hb2) at54 ⟨_, _, rfl, rfl, .inl (by decide), _, _, rfl, rfl, .inl ⟨_, rfl, _, _, rfl, rfl, .inr (by decide), .inl ⟨_, rfl, _, _, rfl, rfl, (by show (0 : Int) < 2147483647; decide), ?_⟩⟩⟩⟩⟩
    have p0 : ∀ x : Int, 0 ≤ x % 2147483647 ∧ x % 2147483647 < 2147483647 := fun x => ⟨Int.emod_nonneg _ (by decide), Int.emod_lt_of_pos _ (by decide)⟩
    have p1 := p0 ((m + 7919 * (n + 1)) * 48271)
    generalize (m + 7919 * (n + 1)) * 48271 % 2147483647 = y1 at p1 ⊢
    refine ⟨_, rfl, _, rfl, _, _, rfl, rfl, ⟨by decide, by decide⟩, _, _, rfl, rfl, _, _, rfl, rfl, .inl ⟨by omega, by omega⟩, .inl ⟨_, rfl, _, _, rfl, rfl, (by show (0 : Int) < 2147483647; decide), ?_⟩⟩
    have p2 := p0 (y1 * (y1 / 1009 + 69621))
    generalize y1 * (y1 / 1009 + 69621) % 2147483647 = y2 at p2 ⊢
    refine ⟨_, rfl, _, rfl, _, _, rfl, rfl, ⟨by decide, by decide⟩, _, _, rfl, rfl, _, _, rfl, rfl, .inl ⟨by omega, by omega⟩, .inl ⟨_, rfl, _, _, rfl, rfl, (by show (0 : Int) < 2147483563; decide), ?_⟩⟩
    refine ⟨_, rfl, _, _, rfl, rfl, ⟨by decide, by decide⟩, .inl ⟨_, rfl, _, rfl, _, _, rfl, rfl, (by show 0 < w; omega), ?_⟩⟩
    exact k l (n + 1) _ hl (Int.le_refl _) (by omega) (Int.emod_nonneg _ (by omega)) (Int.emod_lt_of_pos _ (by omega))
theorem p_law_pick {M : Pm} (vs : List V) (H : Hp) (Q : VK) (E : XK) (h : sp_law_pick M vs H Q E) : t_law_pick M { nx := fun _ H' => Q .non H', rt := Q } (L2.start ["bag", "width", "cell", "digit", "number"] vs) H := by
  obtain ⟨b, c, w, rfl, ⟨ns, i, l, m, n, hb, hc, hcb, hns, hz, hi0, hi1, hl0, hl1, hm0, hm1, hn0⟩, hw, hw2, k⟩ := h
  dsimp only [t_law_pick, t_law_pick_0, t_law_pick_0t, t_law_pick_0t_0, t_law_pick_0t_1, t_law_pick_0t_2, t_law_pick_0t_3, t_law_pick_0t_3t, t_law_pick_0t_3t_0]
  walk_at "rd"
  -- the end: from a bag as it stands then
  have fin : ∀ (i' l0 m' : Int) (x2 : Option V), 0 ≤ i' → i' ≤ ns.length → 0 ≤ l0 → l0 < 10 ^ 40 → 0 ≤ m' → m' < 2147483648 →
      tSeq (t_law_pick_1 M) (tSeq (t_law_pick_2 M) (tSeq (t_law_pick_3 M) (tSeq (t_law_pick_4 M) (tSeq (t_law_pick_5 M) (t_law_pick_6 M))))) { nx := fun _ H' => Q .non H', rt := Q } [some (.ref b), some (.int w), x2, none, none]
        (upd H b (.lst [.ref c, .int i', .int l0, .int m', .int n])) := fun i' l0 m' x2 g1 g2 g3 g4 g5 g6 =>
    pk_rest upd_same g3 g5 g6 hn0 hw hw2 fun l' n' d q1 q2 q3 q4 q5 => by
      rw [upd_upd]
      have kk : Keep [b] H (upd H b (.lst [.ref c, .int i', .int l', .int m', .int n'])) := Keep.put (by simp)
      exact k _ d kk ⟨ns, i', l', m', n', upd_same, kk _ _ hc (by simpa using hcb), hcb, hns, hz, g1, g2, q1, Int.lt_of_le_of_lt q2 g4, g5, g6, q3⟩ q4 q5
  have stay : upd H b (.lst [.ref c, .int i, .int l, .int m, .int n]) = H := by
    funext x
    unfold upd
    split
    · rename_i e; rw [e, hb]
    · rfl
  refine ⟨_, rfl, s_ixL (.of hb) at52 ⟨rfl, _, rfl, ?_⟩⟩
  rw [int_eq]
  by_cases e0 : l = 0
  · refine if1 (decide_eq_true e0) ?_
    refine ⟨_, rfl, s_ixL (.of hb) at51 ⟨_, rfl, s_ixL (.of hb) at50 (s_lenL (.of hc) ⟨_, _, rfl, rfl, _, rfl, iteB (fun h => ?_) (fun h => ?_)⟩)⟩⟩
    · have hlt : i < ns.length := by have := of_decide_eq_true h; rw [List.length_map] at this; exact this
      obtain ⟨j, rfl⟩ : ∃ j : Nat, i = j := ⟨i.toNat, by omega⟩
      have hj : j < ns.length := by omega
      have hat : atI (ns.map V.int) (j : Int) = some (V.int ns[j]) := atI_nat (by rw [List.getElem?_map, List.getElem?_eq_getElem hj]; rfl)
      obtain ⟨z0, z1⟩ := hz _ (List.getElem_mem hj)
      generalize ns[j] = cell at hat z0 z1
      refine ⟨_, rfl, s_ixL (.of hb) at50 ⟨_, rfl, s_ixL (.of hb) at51 (s_ixL (.of hc) hat ?_)⟩⟩
      refine ⟨_, rfl, s_ixL (.of hb) at51 ⟨_, _, rfl, rfl, _, rfl, s_setL hb ix51 ?_⟩⟩
      have hb2 : (upd H b (.lst ([V.ref c, .int j, .int l, .int m, .int n].set 1 (.int (j + 1))))) b = some (.lst [.ref c, .int (j + 1), .int l, .int m, .int n]) := upd_same
      refine ⟨_, rfl, s_ixL (.of hb2) at53 ⟨_, _, rfl, rfl, .inr (by decide), _, rfl, _, _, rfl, rfl, .inr (by decide), _, _, rfl, rfl, _, _, rfl, rfl, .inl ⟨_, rfl, _, _, rfl, rfl, (by show (0 : Int) < 2147483629; decide), _, rfl, s_setL hb2 ix53 ?_⟩⟩⟩
      have p0 : 0 ≤ (m * 69621 + cell * 40692 + 41) % 2147483629 ∧ (m * 69621 + cell * 40692 + 41) % 2147483629 < 2147483629 := ⟨Int.emod_nonneg _ (by decide), Int.emod_lt_of_pos _ (by decide)⟩
      rw [upd_upd]
      refine ⟨_, rfl, _, _, rfl, rfl, ⟨by decide, by decide, by decide⟩, _, _, rfl, rfl, _, rfl, iteB (fun h2 => ?_) (fun h2 => ?_)⟩
      · refine ⟨_, rfl, _, rfl, s_setL upd_same ix52 ?_⟩
        rw [upd_upd]
        exact fin (j + 1) cell ((m * 69621 + cell * 40692 + 41) % 2147483629) _ (by omega) (by omega) z0 z1 p0.1 (by omega)
      · exact fin (j + 1) l ((m * 69621 + cell * 40692 + 41) % 2147483629) _ (by omega) (by omega) hl0 hl1 p0.1 (by omega)
    · have := fin i l m none hi0 hi1 hl0 hl1 hm0 hm1
      rw [stay] at this
      exact this
  · refine if0 (decide_eq_false e0) (if0 rfl ?_)
    have := fin i l m none hi0 hi1 hl0 hl1 hm0 hm1
    rw [stay] at this
    exact this

set_option Elab.async false
set_option linter.all false
set_option maxRecDepth 100000
set_option maxHeartbeats 1000000
open PySem PySem.Spec PyProof.Rows L2 FR
theorem p_law_some {M : Pm} (vs : List V) (H : Hp) (Q : VK) (E : XK) (h : sp_law_some M vs H Q E) : t_law_some M { nx := fun _ H' => Q .non H', rt := Q } (L2.start ["bag", "things"] vs) H := by
  obtain ⟨b, c, x, items, rfl, B, h1, h2, hx, k⟩ := h
  walk_at "t_law_some"
  have at_ : ∀ d : Int, 0 ≤ d → d < items.length → ∃ v, v ∈ items ∧ items[d.toNat]? = some v := fun d d0 d1 => by
    have : d.toNat < items.length := by omega
    exact ⟨items[d.toNat], List.getElem_mem this, List.getElem?_eq_getElem this⟩
  refine ⟨_, rfl, _, rfl, _, rfl, ?_⟩
  rcases hx with ⟨a, rfl, hab, ha⟩ | ⟨z, rfl, hz⟩
  · refine s_lenL (.of ha) ⟨b, c, _, rfl, B, by omega, by omega, fun H' d k' B' d0 d1 => .inl ?_⟩
    obtain ⟨v, m, e⟩ := at_ d d0 d1
    have e' : atI items d = some v := by
      have := atI_nat (xs := items) (j := d.toNat) e
      rw [Int.toNat_of_nonneg d0] at this
      exact this
    exact s_ixL (.of (k' _ _ ha (by simpa using hab))) e' (k H' v m k' B')
  · have hl : items.length = z.length := by rw [hz]; unfold signsV; rw [List.length_map]; exact (len_cs z).symm
    refine s_lenS (sz_of (by omega : z.length ≤ 1000000)) ⟨b, c, _, rfl, B, by omega, by omega, fun H' d k' B' d0 d1 => .inr (.inr ?_)⟩
    obtain ⟨v, m, e⟩ := at_ d d0 (by omega)
    rw [hz] at e
    unfold signsV at e
    rw [List.getElem?_map] at e
    cases q : (cs z)[d.toNat]? with
    | none => rw [q] at e; cases e
    | some cc =>
      rw [q] at e
      have ev : V.str ⟨#[cc]⟩ = v := Option.some.inj e
      have e' : atI z.cps.toList d = some cc := by
        have := atI_nat (xs := z.cps.toList) (j := d.toNat) q
        rw [Int.toNat_of_nonneg d0] at this
        exact this
      refine s_ixS (sz_of (by omega : z.length ≤ 1000000)) e' ?_
      rw [ev]
      exact k H' v m k' B'
def letter (c : Nat) : Prop := c ∈ cs "abcdefghijklmnopqrstuvwxyz"
theorem isMark_of {z : Str} (h1 : 1 ≤ z.length) (h2 : z.length ≤ 6) (h : ∀ c ∈ cs z, letter c) : isMark z = true := by
  unfold isMark
  rw [decide_eq_true h1, decide_eq_true h2]
  exact List.all_eq_true.mpr fun c hc => decide_eq_true (h c hc)
theorem flat_ones : ∀ {l : List V}, (∀ v ∈ l, ∃ c, letter c ∧ v = .str ⟨#[c]⟩) → ((l.map strOf).map cs).flatten.length = l.length ∧ ∀ c ∈ ((l.map strOf).map cs).flatten, letter c
  | [], _ => ⟨rfl, fun _ m => nomatch m⟩
  | v :: r, h => by
    obtain ⟨c, hc, rfl⟩ := h v List.mem_cons_self
    obtain ⟨i1, i2⟩ := flat_ones (l := r) fun v m => h v (List.mem_cons_of_mem _ m)
    refine ⟨?_, fun d hd => ?_⟩
    · show ([c] ++ _).length = _
      rw [List.length_append, i1, List.length_cons]
      simp; omega
    · have hd : d ∈ [c] ++ ((r.map strOf).map cs).flatten := hd
      rcases List.mem_append.mp hd with m | m
      · rw [List.mem_singleton.mp m]; exact hc
      · exact i2 d m
theorem Bag.notin {K : PySem.W.Frag} {H : Hp} {b c D : Addr} (B : Bag K H b c) (hD : H D = none) : D ∉ [b] := fun m => by
  obtain ⟨xs, e⟩ := B.lst
  rw [List.mem_singleton.mp m, e] at hD
  cases hD
theorem p_law_mark {M : Pm} (vs : List V) (H : Hp) (Q : VK) (E : XK) (h : sp_law_mark M vs H Q E) : t_law_mark M { nx := fun _ H' => Q .non H', rt := Q } (L2.start ["bag", "letters", "drawn", "turn"] vs) H := by
  obtain ⟨b, c, rfl, B, k⟩ := h
  walk_at "t_law_mark"
  refine ⟨rfl, _, rfl, b, c, 6, rfl, B, by decide, by decide, fun H1 d k1 B1 d0 d1 => ⟨_, _, rfl, rfl, ?_⟩⟩
  refine ⟨_, rfl, by omega, by omega, fun D hD => lc_rng (S := [b]) (fun H' => Bag M.K H' b c) (fun v => ∃ c, letter c ∧ v = .str ⟨#[c]⟩) hD (B1.notin hD) B1 (fun H2 o k2 B2 => B2.upd B1 hD) (by omega) (fun _ => rfl) (fun i H2 hi k2 B2 R r => ?_) fun H2 acc k2 B2 e ha hl => ?_⟩
  · walk_at "rd"
    refine ⟨_, rfl, _, rfl, b, c, _, signsV "abcdefghijklmnopqrstuvwxyz", rfl, B2, by decide, by decide, .inr ⟨_, rfl, rfl⟩, fun H3 v m k3 B3 => r v H3 k3 B3 ?_⟩
    obtain ⟨cc, hc, rfl⟩ := List.mem_map.mp m
    exact ⟨cc, hc, rfl⟩
  · have el : acc.length ≤ 6 := by rw [hl]; omega
    have el1 : 1 ≤ acc.length := by rw [hl]; omega
    have eb : (acc.map strOf).map V.str = acc := strs_back fun x hx => by
      obtain ⟨cc, _, rfl⟩ := ha x hx; rfl
    rw [← eb] at e
    have es : ((acc.map strOf).map (·.length)).sum = acc.length := sum_ones fun x hx => by
      obtain ⟨cc, _, rfl⟩ := ha x hx; rfl
    obtain ⟨f1, f2⟩ := flat_ones ha
    have ej := cs_join0 (acc.map strOf)
    have ez : (Txt.join "" (acc.map strOf)).length = acc.length := by rw [len_cs, ej, f1]
    refine s_join (.of e) (by rw [es, show ("" : Str).length = 0 from rfl, Nat.mul_zero]; omega) ?_
    have hm : isMark (Txt.join "" (acc.map strOf)) = true := isMark_of (by omega) (by omega) fun cc m => f2 cc (by rw [← ej]; exact m)
    refine ⟨_, rfl, _, rfl, by show 4 ≤ sizeLine; decide, fun p hp => ?_⟩
    refine ⟨b, c, _, [.str "m", .str "a", .str "mm", .str (Txt.join "" (acc.map strOf))], rfl, B2.new hp, by show 1 ≤ 4; decide, by show 4 ≤ 1000000; decide, .inl ⟨p, rfl, fun q => B2.notin hp (by rw [q]; exact List.mem_singleton.mpr rfl), upd_same⟩, fun H3 v m k3 B3 => ?_⟩
    have kk : Keep [b] H H3 := ((k1.trans k2).trans (Keep.new hp)).trans k3
    simp only [List.mem_cons, List.not_mem_nil, or_false] at m
    rcases m with rfl | rfl | rfl | rfl
    · exact k H3 _ kk B3 (by decide) (by decide +kernel)
    · exact k H3 _ kk B3 (by decide) (by decide +kernel)
    · exact k H3 _ kk B3 (by decide) (by decide +kernel)
    · exact k H3 _ kk B3 (by omega) hm

set_option Elab.async false
set_option linter.all false
set_option maxRecDepth 100000
set_option maxHeartbeats 1000000
open PySem PySem.Spec PyProof.Rows L2 FR
-- both

set_option Elab.async false
set_option linter.all false
set_option maxRecDepth 100000
set_option maxHeartbeats 1000000
open PySem PySem.Spec PyProof.Rows L2 FR
theorem cs_app (x y : Str) : cs (x ++ y) = cs x ++ cs y := Array.toList_append
theorem len_app (x y : Str) : (x ++ y).length = x.length + y.length := by rw [len_cs, len_cs, len_cs, cs_app, List.length_append]
theorem okS_app {x y : Str} (hx : okS x = true) (hy : okS y = true) : okS (x ++ y) = true := by
  have go : ∀ z : Str, okS z = true → ∀ c ∈ cs z, c < 1114112 := fun z h => by
    have h : (z.cps.all fun c => decide (c < 0x110000)) = true := h
    rw [← Array.all_toList] at h
    exact fun c hc => of_decide_eq_true (List.all_eq_true.mp h c hc)
  refine okS_of fun c hc => ?_
  rw [cs_app] at hc
  rcases List.mem_append.mp hc with m | m
  · exact go x hx c m
  · exact go y hy c m
theorem okS_mark {z : Str} (h : isMark z = true) : okS z = true := by
  have h2 : ((cs z).all fun c => decide (c ∈ cs "abcdefghijklmnopqrstuvwxyz")) = true := (Bool.and_eq_true_iff.mp h).2
  refine okS_of fun c hc => ?_
  have hm := of_decide_eq_true (List.all_eq_true.mp h2 c hc)
  have all : ∀ d ∈ cs "abcdefghijklmnopqrstuvwxyz", d < 1114112 := by decide +kernel
  exact all c hm
def SV7 (v : V) : Prop := ∃ z, v = .str z ∧ z.length ≤ 7 ∧ okS z = true
theorem SV7.ev {H : Hp} {v : V} (h : SV7 v) : EV H v := by
  obtain ⟨z, rfl, h1, h2⟩ := h
  exact ⟨Nat.le_trans h1 (by decide), h2⟩
theorem sv7_sign {v : V} (m : v ∈ signsV "abcd") : SV7 v := by
  obtain ⟨c, hc, rfl⟩ := List.mem_map.mp m
  refine ⟨_, rfl, by show 1 ≤ 7; decide, okS_of fun d hd => ?_⟩
  have : d = c := List.mem_singleton.mp hd
  subst this
  have all : ∀ d ∈ cs "abcd", d < 1114112 := by decide +kernel
  exact all d hc
theorem sv7_mark {s z : Str} (hs : s.length = 1) (os : okS s = true) (h : isMark z = true) (hl : z.length ≤ 6) : SV7 (.str (s ++ z)) := ⟨_, rfl, by rw [len_app]; omega, okS_app os (okS_mark h)⟩
theorem p_law_drawn {M : Pm} (vs : List V) (H : Hp) (Q : VK) (E : XK) (h : sp_law_drawn M vs H Q E) : t_law_drawn M { nx := fun _ H' => Q .non H', rt := Q } (L2.start ["bag", "many", "found", "opened", "turn", "kind", "mark"] vs) H := by
  obtain ⟨b, c, n, rfl, B, hn0, hn1, k⟩ := h
  walk_at "t_law_drawn"
  refine ⟨by decide, fun pf hf => ⟨by decide, fun po ho => ⟨_, _, rfl, ?_⟩⟩⟩
  have hfo : pf ≠ po := (fresh_ne hf ho).symm
  have ho' : H po = none := (Keep.new (S := []) hf).none ho
  have nf : pf ∉ [b] := B.notin hf
  have no : po ∉ [b] := B.notin ho'
  have k0 : Keep [] H (upd (upd H pf (.lst [])) po (.lst [])) := (Keep.new hf).own ho'
  refine ⟨_, rfl, _, rfl, _, _, rfl, rfl, b, c, n + 1, rfl, (B.new hf).new ho, by omega, by omega, fun H1 d k1 B1 d0 d1 => ⟨_, rfl, by omega, by omega, for_range (lo := 0) (n := d.toNat)
    (fun i σ H' => ∃ (v4 v5 : Option V) (fs : List V) (os : List Str), σ = [some (.ref b), some (.int n), some (.ref pf), some (.ref po), v4, v5, none] ∧ Keep [b] H H' ∧ Bag M.K H' b c ∧ H' pf = some (.lst fs) ∧
      H' po = some (.lst (os.map V.str)) ∧ (∀ v ∈ fs, SV7 v) ∧ (∀ m ∈ os, isMark m = true ∧ m.length ≤ 6) ∧ fs.length ≤ i ∧ os.length ≤ i)
    ⟨none, none, [], [], rfl, (k0.of0).trans k1, B1, k1 _ _ (by rw [upd_ne hfo, upd_same]) nf, k1 _ _ upd_same no, (fun _ m => nomatch m), (fun _ m => nomatch m), Nat.le_refl _, Nat.le_refl _⟩ ?_ ?_⟩⟩
  · rintro i σ H2 hi ⟨v4, v5, fs, os, rfl, k2, B2, ef, eo, hfs, hos, lf, lo⟩
    walk_at "t_law_drawn_1l"
    refine ⟨_, rfl, b, c, 4, rfl, B2, by decide, by decide, fun H3 kd k3 B3 kd0 kd1 => ⟨_, rfl, _, _, rfl, rfl, _, rfl, iteB (fun h => ?_) (fun h => ?_)⟩⟩
    · refine ⟨_, rfl, .inl ⟨rfl, _, .of (k3 _ _ ef nf)⟩, _, rfl, b, c, _, signsV "abcd", rfl, B3, by decide, by decide, .inr ⟨_, rfl, rfl⟩, fun H4 v m k4 B4 => s_app (k4 _ _ (k3 _ _ ef nf) nf) (szl_of (by omega : fs.length ≤ 1000)) ?_⟩
      refine ⟨_, _, fs ++ [v], os, rfl, ((k2.trans k3).trans k4).own hf, B4.upd B hf, upd_same, by rw [upd_ne hfo.symm]; exact k4 _ _ (k3 _ _ eo no) no, fun v' m' => ?_, hos, ?_, Nat.le_succ_of_le lo⟩
      · rcases List.mem_append.mp m' with q | q
        · exact hfs v' q
        · rw [List.mem_singleton.mp q]; exact sv7_sign m
      · rw [List.length_append]; show fs.length + 1 ≤ i + 1; omega
    · refine ⟨_, rfl, rfl, _, rfl, ?_⟩
      rw [int_eq]
      by_cases e2 : kd = 2
      · refine if1 (decide_eq_true e2) ?_
        refine ⟨_, rfl, .inl ⟨rfl, _, .of (k3 _ _ eo no)⟩, _, rfl, b, c, rfl, B3, fun H4 z k4 B4 hz hm => s_app (k4 _ _ (k3 _ _ eo no) no) (szl_of (by rw [List.length_map]; omega : _ ≤ 1000)) ?_⟩
        have ef4 : (upd H4 po (.lst (os.map V.str ++ [.str z]))) pf = some (.lst fs) := by rw [upd_ne hfo]; exact k4 _ _ (k3 _ _ ef nf) nf
        refine ⟨_, rfl, .inl ⟨rfl, _, .of ef4⟩, _, rfl, _, rfl, s_ixL (.of upd_same) (atI_last _ _) ⟨_, _, rfl, rfl, sz_of (by show 1 + z.length ≤ 1000; omega), s_app ef4 (szl_of (by omega : fs.length ≤ 1000)) ?_⟩⟩
        refine ⟨_, _, fs ++ [.str ("<" ++ z)], os ++ [z], rfl, (((k2.trans k3).trans k4).own ho').own hf, (B4.upd B ho').upd B hf, upd_same, ?_, fun v' m' => ?_, fun m' q => ?_, ?_, ?_⟩
        · rw [upd_ne hfo.symm, upd_same, List.map_append]; rfl
        · rcases List.mem_append.mp m' with q | q
          · exact hfs v' q
          · rw [List.mem_singleton.mp q]; exact sv7_mark rfl (by decide +kernel) hm hz
        · rcases List.mem_append.mp q with q | q
          · exact hos m' q
          · rw [List.mem_singleton.mp q]; exact ⟨hm, hz⟩
        · rw [List.length_append]; show fs.length + 1 ≤ i + 1; omega
        · rw [List.length_append]; show os.length + 1 ≤ i + 1; omega
      · refine if0 (decide_eq_false e2) ?_
        have eo3 := k3 _ _ eo no
        have ef3 := k3 _ _ ef nf
        refine ⟨_, rfl, by decide, fun q hq => s_neNil (.of ((Keep.new (S := []) hq).at eo3)) (.of upd_same) (fun m hm => okS_mark (hos m hm).1) ⟨_, rfl, ?_⟩⟩
        have k4 : Keep [] H3 (upd H3 q (.lst [])) := Keep.new hq
        have B4 : Bag M.K (upd H3 q (.lst [])) b c := B3.new hq
        have eo4 := k4.at eo3
        have ef4 := k4.at ef3
        rcases List.eq_nil_or_concat os with hnil | ⟨os', z, hcat⟩
        · subst hnil
          refine if0 rfl ?_
          exact ⟨_, _, fs, [], rfl, (k2.trans k3).trans k4.of0, B4, ef4, eo4, hfs, hos, Nat.le_succ_of_le lf, Nat.zero_le _⟩
        · rw [List.concat_eq_append] at hcat
          subst hcat
          refine if1 (by simp) ?_
          obtain ⟨hm, hz⟩ := hos z (by simp)
          rw [List.map_append] at eo4
          refine ⟨_, rfl, .inl ⟨rfl, _, .of ef4⟩, _, rfl, .inl ⟨rfl, _, .of eo4⟩, s_pop eo4 ⟨_, _, rfl, rfl, sz_of (by show 1 + z.length ≤ 1000; omega), ?_⟩⟩
          have ef5 : (upd (upd H3 q (.lst [])) po (.lst (os'.map V.str))) pf = some (.lst fs) := by rw [upd_ne hfo]; exact ef4
          refine s_app ef5 (szl_of (by omega : fs.length ≤ 1000)) ?_
          refine ⟨_, _, fs ++ [.str (">" ++ z)], os', rfl, (((k2.trans k3).trans k4.of0).own ho').own hf, (B4.upd B ho').upd B hf, upd_same, ?_, fun v' m' => ?_, fun m' q => hos m' (List.mem_append_left _ q), ?_, ?_⟩
          · rw [upd_ne hfo.symm, upd_same]
          · rcases List.mem_append.mp m' with q | q
            · exact hfs v' q
            · rw [List.mem_singleton.mp q]; exact sv7_mark rfl (by decide +kernel) hm hz
          · rw [List.length_append]; show fs.length + 1 ≤ i + 1; omega
          · rw [List.length_append] at lo; simp at lo; omega
  · rintro σ H2 ⟨v4, v5, fs, os, rfl, k2, B2, ef, eo, hfs, hos, lf, lo⟩
    walk_at "rd"
    refine ⟨_, rfl, lcL (xs := (os.map V.str).reverse) (fun _ => true) (fun v => .str (">" ++ strOf v)) (fun R r => ?_) (by rw [List.length_reverse, List.length_map]; omega) (fun _ => rfl) (fun x H3 _ k3 R r => r H3 Keep.refl) (fun x H3 m _ k3 R r => ?_) (fun D H3 hD k3 e => ?_)⟩
    · exact ⟨_, rfl, po, _, rfl, .of eo, fun p hp => r p _ (Keep.new hp) (.of upd_same)⟩
    · obtain ⟨z, hz, rfl⟩ := List.mem_map.mp (List.mem_reverse.mp m)
      exact ⟨_, rfl, _, _, rfl, rfl, sz_of (by have := (hos z hz).2; show 1 + z.length ≤ 1000; omega), r H3 Keep.refl⟩
    · have le : (pick (fun _ => true) (fun v => V.str (">" ++ strOf v)) (os.map V.str).reverse).length ≤ 100 := Nat.le_trans pick_len (by rw [List.length_reverse, List.length_map]; omega)
      refine s_cat (k3.at ef) e (sz_of (by omega : _ ≤ 1000)) fun p hp => ?_
      have kk : Keep [b] H (upd H3 p (.lst (fs ++ pick (fun _ => true) (fun v => V.str (">" ++ strOf v)) (os.map V.str).reverse))) := k2.trans (k3.trans (Keep.new hp)).of0
      have hp' : H p = none := (k2.trans k3.of0).none hp (fun m => (B2.keep k3 (fun z => nomatch z) (fun z => nomatch z)).notin hp m)
      refine k _ p kk ((B2.keep k3 (fun z => nomatch z) (fun z => nomatch z)).new hp) ⟨hp', _, upd_same, fun v m => ?_, ?_⟩
      · rcases List.mem_append.mp m with q | q
        · exact (hfs v q).ev
        · obtain ⟨x, hx, rfl⟩ := List.mem_map.mp q
          obtain ⟨z, hz, rfl⟩ := List.mem_map.mp (List.mem_reverse.mp (List.mem_filter.mp hx).1)
          exact (sv7_mark rfl (by decide +kernel) (hos z hz).1 (hos z hz).2).ev
      · rw [List.length_append]; omega

set_option Elab.async false
set_option linter.all false
set_option maxRecDepth 100000
set_option maxHeartbeats 1000000
open PySem PySem.Spec PyProof.Rows L2 FR
/-- what string by string tells of being a mark's end or begin -/
def mk (z : Str) : Bool := match cs z with
  | [] => false
  | c :: _ => (decide (c = 60) || decide (c = 62)) && isMark (tail1 z)
theorem head_one {z : Str} {c : Nat} {r : List Nat} (h : cs z = c :: r) : cutS z none (some 1) = ⟨#[c]⟩ := str_ext (by rw [cs_head1, h]; rfl)
theorem head_nil {z : Str} (h : cs z = []) : cutS z none (some 1) = "" := str_ext (by rw [cs_head1, h]; rfl)
theorem in_nil2 : inV (.str "") [.str "<", .str ">"] = false := by decide +kernel
theorem letters_empty (z : Str) : (pick (fun v => match v with | .str ⟨a⟩ => !decide (a.getD 0 0 ∈ cs "abcdefghijklmnopqrstuvwxyz") | _ => false) (fun v => v) (signsV z)) = ((cs z).filter fun c => !decide (c ∈ cs "abcdefghijklmnopqrstuvwxyz")).map fun c => V.str ⟨#[c]⟩ := by
  unfold pick signsV
  rw [List.map_id', List.filter_map]
  rfl
theorem okS_one {z : Str} {c : Nat} (h : okS z = true) (hc : c ∈ cs z) : okS ⟨#[c]⟩ = true := by
  have h : (z.cps.all fun c => decide (c < 0x110000)) = true := h
  rw [← Array.all_toList] at h
  refine okS_of fun d hd => ?_
  rw [List.mem_singleton.mp hd]
  exact of_decide_eq_true (List.all_eq_true.mp h c hc)
theorem tail_mem {z : Str} {c : Nat} (h : c ∈ cs (tail1 z)) : c ∈ cs z := by
  rw [cs_cut1] at h
  exact List.mem_of_mem_drop h
theorem tail_len1 {z : Str} {c : Nat} {r : List Nat} (h : cs z = c :: r) : z.length = (tail1 z).length + 1 := by
  rw [len_cs, len_cs, cs_cut1, h]; rfl
theorem ir_mark {M : Pm} {D : Ends} {σ : L2.St} {H : Hp} {z : Str} {DD : Addr} (h2 : σ[2]? = some (some (.str z))) (h3 : σ[3]? = some (some (.ref DD))) (hz : z.length ≤ 100) (ok : okS z = true)
    (hD : H DD = some (.lst (((cs (tail1 z)).filter fun c => !decide (c ∈ cs "abcdefghijklmnopqrstuvwxyz")).map fun c => V.str ⟨#[c]⟩))) (q : ∀ H', Keep [] H H' → D.nx (σ.set 4 (some (.bl (mk z)))) H') : t_law_is_right_1l_2 M D σ H := by
  dsimp only [t_law_is_right_1l_2]
  walk_at "rd"
  refine ⟨_, h2, _, rfl, s_cutS (sz_of hz) ⟨by show 2 ≤ sizeLine; decide, fun p hp => s_inT (.of upd_same) rfl rfl ⟨_, rfl, ?_⟩⟩⟩
  have k1 : Keep [] H (upd H p (.tup [.str "<", .str ">"])) := Keep.new hp
  cases hc : cs z with
  | nil =>
    rw [head_nil hc, in_nil2]
    refine if0 rfl ?_
    have e : mk z = false := by unfold mk; rw [hc]
    rw [← e]
    exact q _ k1
  | cons c r =>
    have em : mk z = ((decide (c = 60) || decide (c = 62)) && isMark (tail1 z)) := by unfold mk; rw [hc]
    rw [head_one hc, inV2]
    refine iteB (fun h => ?_) (fun h => ?_)
    · rw [h, Bool.true_and] at em
      have tl := tail_len1 hc
      refine ⟨_, h2, s_lenS (sz_of hz) ⟨_, _, rfl, rfl, _, rfl, iteB (fun g1 => ?_) (fun g1 => ⟨_, rfl, if0 rfl ?_⟩)⟩⟩
      · refine ⟨_, _, rfl, rfl, _, rfl, iteB (fun g2 => ?_) (fun g2 => ?_)⟩
        · have g1' := of_decide_eq_true g1
          have g2' := of_decide_eq_true g2
          have eD := k1.at hD
          have eb : (((cs (tail1 z)).filter fun c => !decide (c ∈ cs "abcdefghijklmnopqrstuvwxyz")).map fun c => (⟨#[c]⟩ : Str)).map V.str = (((cs (tail1 z)).filter fun c => !decide (c ∈ cs "abcdefghijklmnopqrstuvwxyz")).map fun c => V.str ⟨#[c]⟩) := by
            rw [List.map_map]; rfl
          rw [← eb] at eD
          refine ⟨_, h3, by decide, fun p2 hp2 => s_eqNil (.of ((Keep.new (S := []) hp2).at eD)) (.of upd_same) (fun m hm => ?_) ?_⟩
          · obtain ⟨c', hc', rfl⟩ := List.mem_map.mp hm
            exact okS_one ok (tail_mem (List.mem_filter.mp hc').1)
          · have e : mk z = (((cs (tail1 z)).filter fun c => !decide (c ∈ cs "abcdefghijklmnopqrstuvwxyz")).map fun c => (⟨#[c]⟩ : Str)).isEmpty := by
              rw [em]
              unfold isMark
              rw [decide_eq_true (by omega : 1 ≤ (tail1 z).length), decide_eq_true (by omega : (tail1 z).length ≤ 6), Bool.true_and, Bool.true_and]
              generalize cs (tail1 z) = l
              induction l with
              | nil => rfl
              | cons d l ih =>
                rw [List.all_cons, List.filter_cons]
                by_cases m : d ∈ cs "abcdefghijklmnopqrstuvwxyz"
                · rw [decide_eq_true m, ih]; rfl
                · rw [decide_eq_false m]; rfl
            rw [← e]
            exact q _ (k1.trans (Keep.new hp2))
        · have e : mk z = false := by
            rw [em]; unfold isMark
            have g2' := of_decide_eq_false g2
            rw [decide_eq_false (by omega : ¬ (tail1 z).length ≤ 6)]
            simp
          rw [← e]
          exact q _ k1
      · have e : mk z = false := by
          rw [em]; unfold isMark
          have g1' := of_decide_eq_false g1
          rw [decide_eq_false (by omega : ¬ 1 ≤ (tail1 z).length)]
          simp
        rw [← e]
        exact q _ k1
    · have e : mk z = false := by rw [em, h]; rfl
      rw [← e]
      exact q _ k1
theorem in_abcd {z : Str} {c : Nat} {r : List Nat} (h : cs z = c :: r) : inV (.str z) [.str "a", .str "b", .str "c", .str "d"] = decide (z.length = 1 ∧ c ∈ cs "abcd") := by
  have e : ∀ d : Nat, ((⟨#[d]⟩ : Str) == z) = decide (c = d ∧ r = []) := fun d => by
    by_cases q : c = d ∧ r = []
    · rw [decide_eq_true q]
      refine beq_iff_eq.mpr (str_ext ?_)
      rw [h, q.1, q.2]
    · rw [decide_eq_false q]
      refine beq_eq_false_iff_ne.mpr fun w => q ?_
      have : cs z = [d] := by rw [← w]
      rw [h] at this
      injection this with a b
      exact ⟨a, b⟩
  show ((("a" : Str) == z) || ((("b" : Str) == z) || ((("c" : Str) == z) || ((("d" : Str) == z) || false)))) = _
  rw [show ("a" : Str) = ⟨#[97]⟩ from by rfl, show ("b" : Str) = ⟨#[98]⟩ from by rfl, show ("c" : Str) = ⟨#[99]⟩ from by rfl, show ("d" : Str) = ⟨#[100]⟩ from by rfl, e, e, e, e]
  have l1 : z.length = 1 ↔ r = [] := by
    rw [len_cs, h]
    simp
  have l2 : c ∈ cs "abcd" ↔ (c = 97 ∨ c = 98 ∨ c = 99 ∨ c = 100) := by
    rw [show cs "abcd" = [97, 98, 99, 100] from by decide +kernel]
    simp
  rw [Bool.eq_iff_iff]
  simp only [Bool.or_eq_true, decide_eq_true_eq, l1, l2, Bool.false_eq_true, or_false]
  constructor
  · rintro (⟨a, b⟩ | ⟨a, b⟩ | ⟨a, b⟩ | ⟨a, b⟩)
    · exact ⟨b, .inl a⟩
    · exact ⟨b, .inr (.inl a)⟩
    · exact ⟨b, .inr (.inr (.inl a))⟩
    · exact ⟨b, .inr (.inr (.inr a))⟩
  · rintro ⟨b, a | a | a | a⟩
    · exact .inl ⟨a, b⟩
    · exact .inr (.inl ⟨a, b⟩)
    · exact .inr (.inr (.inl ⟨a, b⟩))
    · exact .inr (.inr (.inr ⟨a, b⟩))
theorem in_abcd0 {z : Str} (h : cs z = []) : inV (.str z) [.str "a", .str "b", .str "c", .str "d"] = false := by
  rw [show z = "" from str_ext (by rw [h]; rfl)]
  decide +kernel
theorem rdStep_str {st : List Str} {z : Str} {c : Nat} {r : List Nat} (hc : cs z = c :: r) : rdStep st (.str z) = if c = 60 ∧ isMark (tail1 z) = true then some (st ++ [tail1 z]) else if c = 62 ∧ st.getLast? = some (tail1 z) then some st.dropLast else if z.length = 1 ∧ c ∈ cs "abcd" then some st else none := by
  show (match cs z with | [] => none | c :: _ => _) = _
  rw [hc]
theorem p_law_is_right {M : Pm} (vs : List V) (H : Hp) (Q : VK) (E : XK) (h : sp_law_is_right M vs H Q E) : t_law_is_right M { nx := fun _ H' => Q .non H', rt := Q } (L2.start ["strings", "opened", "string", "letters", "is_mark_v", "sign"] vs) H := by
  obtain ⟨a, xs, rfl, ha, hev, hlen, k⟩ := h
  walk_at "t_law_is_right"
  refine ⟨by decide, fun p hp => ?_⟩
  refine ⟨_, rfl, a, rfl, ⟨xs, .of ((Keep.new (S := []) hp).at ha)⟩, for_list (K := M.K) (a := a) (xs := xs)
      (fun i σ H' => ∃ (v v3 v4 : Option V) (st : List Str), σ = [some (.ref a), some (.ref p), v, v3, v4, none] ∧ Keep [] H H' ∧ H' p = some (.lst (st.map V.str)) ∧ rdRun (xs.take i) [] = some st ∧ ∀ m ∈ st, isMark m = true)
      ⟨none, none, none, [], rfl, Keep.new hp, upd_same, rfl, fun _ m => nomatch m⟩ (fun i σ H' _ ⟨_, _, _, _, _, k1, _⟩ => .of (k1.at ha)) ?_ ?_⟩
  · rintro i x σ H1 hi ⟨v, v3, v4, st, rfl, k1, hl, hr, hst⟩
    have hx : EV H1 x := EV.keep k1 (fun _ m => nomatch m) (hev x (List.mem_of_getElem? hi))
    have il : i < 100000 := Nat.lt_of_lt_of_le (List.getElem?_eq_some_iff.mp hi).1 hlen
    have stl : st.length ≤ 100000 := Nat.le_trans (rdRun_len hr) (by rw [List.length_take]; simp; omega)
    have no : ∀ H2, Keep [] H1 H2 → rdStep st x = none → Q (.bl false) H2 := fun H2 k2 e => by
      rw [← isRd_no (rdRun_none hi hr e)]
      exact k H2 (k1.trans k2)
    dsimp only [t_law_is_right_1l, t_law_is_right_1l_0, t_law_is_right_1l_0t, t_law_is_right_1l_0t_0]
    walk_at "rd"
    match x, hx with
    | .non, _ => exact ⟨_, rfl, s_isi (.base .non) kNS ⟨_, rfl, if1 rfl (no H1 Keep.refl rfl)⟩⟩
    | .int n, _ => exact ⟨_, rfl, s_isi (.base (.int n)) kIS ⟨_, rfl, if1 rfl (no H1 Keep.refl rfl)⟩⟩
    | .ref y, ⟨ys, hy⟩ => exact ⟨_, rfl, s_isi (.base (.tup hy)) kTS ⟨_, rfl, if1 rfl (no H1 Keep.refl rfl)⟩⟩
    | .str z, hz =>
      obtain ⟨hz, ok⟩ : z.length ≤ 100 ∧ okS z = true := hz
      have hzl : z.length ≤ sizeLine := sz_of hz
      refine ⟨_, rfl, s_isiS kSS ⟨_, rfl, if0 rfl ?_⟩⟩
      dsimp only [t_law_is_right_1l_1]
      walk_at "rd"
      refine lcS (z := tail1 z) (fun v => match v with | .str ⟨a⟩ => !decide (a.getD 0 0 ∈ cs "abcdefghijklmnopqrstuvwxyz") | _ => false) (fun v => v) (fun R r => ⟨_, rfl, _, rfl, s_cutS hzl (r H1 Keep.refl)⟩)
        (by rw [← len_cs]; exact Nat.le_trans (tail_len z) (by omega)) (fun _ => rfl) (fun x H2 m k2 R r => ?_) (fun x H2 _ _ k2 R r => ⟨_, rfl, r H2 Keep.refl⟩) (fun DD H2 hDD k2 e => ?_)
      · obtain ⟨c, hc, rfl⟩ := List.mem_map.mp m
        walk_at "rd"
        exact ⟨_, rfl, c, _, rfl, rfl, _, rfl, r H2 Keep.refl⟩
      · rw [letters_empty] at e
        refine ir_mark rfl rfl hz ok e fun H3 k3 => ?_
        have kk := (k1.trans k2).trans k3
        have k13 := k2.trans k3
        have hl3 := k13.at hl
        dsimp only [t_law_is_right_1l_3, t_law_is_right_1l_3t, t_law_is_right_1l_3t_0, t_law_is_right_1l_3e, t_law_is_right_1l_3e_0, t_law_is_right_1l_3e_0t, t_law_is_right_1l_3e_0t_0, t_law_is_right_1l_3e_0t_0t, t_law_is_right_1l_3e_0t_0t_0,
          t_law_is_right_1l_3e_0e, t_law_is_right_1l_3e_0e_0, t_law_is_right_1l_3e_0e_0t, t_law_is_right_1l_3e_0e_0t_0]
        walk_at "rd"
        cases hc : cs z with
        | nil =>
          have em : mk z = false := by unfold mk; rw [hc]
          refine ⟨_, rfl, _, by rw [em], if0 rfl (if0 rfl ⟨_, rfl, _, by rw [em], if0 rfl ⟨_, rfl, by show 4 ≤ sizeLine; decide, fun q hq => s_ninT (.of upd_same) rfl rfl ⟨_, rfl, ?_⟩⟩⟩)⟩
          rw [in_abcd0 hc]
          refine if1 rfl (no _ (k13.trans (Keep.new hq)) ?_)
          show (match cs z with | [] => none | c :: _ => _) = none
          rw [hc]
        | cons c r =>
          have em : mk z = ((decide (c = 60) || decide (c = 62)) && isMark (tail1 z)) := by unfold mk; rw [hc]
          have est := rdStep_str (st := st) hc
          have go : ∀ (st' : List Str), rdStep st (.str z) = some st' → rdRun (xs.take (i + 1)) [] = some st' := fun st' e => rdRun_more hi hr e
          by_cases m : mk z = true
          · rw [m] at em
            obtain ⟨m1, m2⟩ := Bool.and_eq_true_iff.mp em.symm
            refine ⟨_, rfl, _, by rw [m], if1 rfl ⟨_, rfl, s_ixS hzl (atI_head hc) ⟨rfl, _, rfl, ?_⟩⟩⟩
            rw [eqLt]
            by_cases e60 : c = 60
            · refine if1 (decide_eq_true e60) ⟨_, rfl, .inl ⟨rfl, _, .of hl3⟩, _, rfl, _, rfl, s_cutS hzl (s_app hl3 (szl_of (by rw [List.length_map]; exact stl)) ?_)⟩
              refine ⟨_, _, _, _, rfl, kk.own hp, ?_, go _ (by rw [est, if_pos ⟨e60, m2⟩]), fun m' q => ?_⟩
              · rw [upd_same, List.map_append]; rfl
              · rcases List.mem_append.mp q with q | q
                · exact hst m' q
                · rw [List.mem_singleton.mp q]; exact m2
            · have e62 : c = 62 := by
                rw [decide_eq_false e60] at m1
                exact of_decide_eq_true m1
              refine if0 (decide_eq_false e60) ⟨_, rfl, _, by rw [m], if1 rfl ⟨_, rfl, by decide, fun q hq => s_eqNil (.of ((Keep.new (S := []) hq).at hl3)) (.of upd_same) (fun m' hm => okS_mark (hst m' hm)) ⟨_, rfl, ?_⟩⟩⟩
              have k4 : Keep [] H3 (upd H3 q (.lst [])) := Keep.new hq
              have hl4 := k4.at hl3
              have len2 : ¬ z.length = 1 := by
                have := tail_len1 hc
                have : 1 ≤ (tail1 z).length := by
                  have h2 := (Bool.and_eq_true_iff.mp (Bool.and_eq_true_iff.mp m2).1).1
                  exact of_decide_eq_true h2
                omega
              rcases List.eq_nil_or_concat st with hnil | ⟨st', w, hcat⟩
              · subst hnil
                refine if1 rfl (if1 rfl (no _ (k13.trans k4) ?_))
                rw [est, if_neg (fun q => e60 q.1), if_neg (fun q => nomatch q.2), if_neg (fun q => len2 q.1)]
              · rw [List.concat_eq_append] at hcat
                subst hcat
                refine if0 (by simp) ?_
                rw [List.map_append] at hl4
                refine ⟨_, rfl, .inl ⟨rfl, _, .of hl4⟩, s_pop hl4 ⟨_, rfl, _, rfl, s_cutS hzl ⟨rfl, _, rfl, ?_⟩⟩⟩
                rw [str_eq]
                by_cases w1 : w = tail1 z
                · refine if0 (by rw [decide_eq_true w1]; rfl) ?_
                  refine ⟨_, _, _, st', rfl, (kk.trans k4).own hp, upd_same, go _ ?_, fun m' q => hst m' (List.mem_append_left _ q)⟩
                  rw [est, if_neg (fun q => e60 q.1), if_pos ⟨e62, by rw [w1]; simp⟩, List.dropLast_concat]
                · refine if1 (by rw [decide_eq_false w1]; rfl) ?_
                  have kk5 : Keep [] H (upd (upd H3 q (.lst [])) p (.lst (st'.map V.str))) := (kk.trans k4).own hp
                  rw [← isRd_no (rdRun_none hi hr (by
                    rw [est, if_neg (fun q => e60 q.1), if_neg (fun q => w1 (by have := q.2; simp at this; exact this)), if_neg (fun q => len2 q.1)]))]
                  exact k _ kk5
          · have m' : mk z = false := by cases q : mk z <;> simp_all
            refine ⟨_, rfl, _, by rw [m'], if0 rfl (if0 rfl ⟨_, rfl, _, by rw [m'], if0 rfl ⟨_, rfl, by show 4 ≤ sizeLine; decide, fun q hq => s_ninT (.of upd_same) rfl rfl ⟨_, rfl, ?_⟩⟩⟩)⟩
            have k4 : Keep [] H3 (upd H3 q (.tup [.str "a", .str "b", .str "c", .str "d"])) := Keep.new hq
            rw [in_abcd hc]
            rw [m'] at em
            have n1 : ¬ (c = 60 ∧ isMark (tail1 z) = true) := fun q => by rw [decide_eq_true q.1, q.2] at em; cases em
            have n2 : ¬ (c = 62 ∧ st.getLast? = some (tail1 z)) := fun q => by
              have hm := hst (tail1 z) (List.mem_of_getLast? q.2)
              rw [decide_eq_true q.1, hm] at em
              simp at em
            by_cases s1 : z.length = 1 ∧ c ∈ cs "abcd"
            · refine if0 (by rw [decide_eq_true s1]; rfl) ?_
              exact ⟨_, _, _, st, rfl, kk.trans k4, k4.at hl3, go _ (by rw [est, if_neg n1, if_neg n2, if_pos s1]), hst⟩
            · refine if1 (by rw [decide_eq_false s1]; rfl) (no _ (k13.trans k4) ?_)
              rw [est, if_neg n1, if_neg n2, if_neg s1]
  · rintro σ H1 ⟨v, v3, v4, st, rfl, k1, hl, hr, hst⟩
    walk_at "rd"
    rw [List.take_length] at hr
    refine ⟨_, rfl, by decide, fun q hq => s_eqNil (.of ((Keep.new (S := []) hq).at hl)) (.of upd_same) (fun m' hm => okS_mark (hst m' hm)) ⟨_, rfl, ?_⟩⟩
    have k4 : Keep [] H1 (upd H1 q (.lst [])) := Keep.new hq
    cases st with
    | nil =>
      refine if1 rfl ⟨_, rfl, s_lenL (.of ((k1.trans k4).at ha)) ⟨_, _, rfl, rfl, ?_⟩⟩
      have e : isRd xs = decide ((xs.length : Int) ≤ 2000) := by
        unfold isRd
        rw [hr]
        by_cases q : xs.length ≤ 2000
        · rw [decide_eq_true q, decide_eq_true (by omega)]; rfl
        · rw [decide_eq_false q, decide_eq_false (by omega)]; rfl
      show Q (.bl (decide ((xs.length : Int) ≤ 2000))) _
      rw [← e]
      exact k _ (k1.trans k4)
    | cons w r =>
      refine if0 rfl ?_
      have e : isRd xs = false := by
        unfold isRd
        rw [hr]
        simp
      rw [← e]
      exact k _ (k1.trans k4)

set_option Elab.async false
set_option linter.all false
set_option maxRecDepth 100000
set_option maxHeartbeats 1000000
open PySem PySem.Spec PyProof.Rows L2 FR
theorem p_law_spans {M : Pm} (vs : List V) (H : Hp) (Q : VK) (E : XK) (h : sp_law_spans M vs H Q E) : t_law_spans M { nx := fun _ H' => Q .non H', rt := Q } (L2.start ["strings", "opened", "found", "many", "string"] vs) H := by
  obtain ⟨a, xs, rfl, ha, hev, hrd, k⟩ := h
  have hle := (rd_good hrd).2
  walk_at "t_law_spans"
  refine ⟨by decide, fun po ho => ⟨by decide, fun pf hf => ⟨_, _, _, rfl, ?_⟩⟩⟩
  have hfo : pf ≠ po := fresh_ne ho hf
  have ho' : H po = none := ho
  have hf0 : H pf = none := (Keep.new (S := []) ho).none hf
  have k0 : Keep [] H (upd (upd H po (.lst [])) pf (.lst [])) := (Keep.new ho).own hf0
  refine ⟨_, rfl, a, rfl, ⟨xs, .of (k0.at ha)⟩, for_list (K := M.K) (a := a) (xs := xs)
    (fun i σ H' => ∃ (v : Option V) (ws : List V), σ = [some (.ref a), some (.ref po), some (.ref pf), some (.int (spRun (xs.take i)).2.2), v] ∧ Keep [] H H' ∧ SpInv M xs pf po i H' ws)
    ⟨none, [], rfl, k0, ⟨upd_same, (by rw [upd_ne hfo.symm, upd_same]; rfl), .nil, rfl, Nat.le_refl _, [], rfl, rfl⟩⟩ (fun i σ H' _ ⟨_, _, _, k1, _⟩ => .of (k1.at ha)) ?_ ?_⟩
  · rintro i x σ H1 hi ⟨v, ws, rfl, k1, I⟩
    obtain ⟨st, hr, hst⟩ := I.s
    obtain ⟨st', e'⟩ := rd_next hrd hi hr
    obtain ⟨z, c, r, rfl, hc, hw⟩ := step_of e'
    have hz : z.length ≤ 100 := len_of (EV.keep k1 (fun _ m => nomatch m) (hev _ (List.mem_of_getElem? hi))) rfl
    have hzl : z.length ≤ sizeLine := sz_of hz
    have il : i < 2000 := Nat.lt_of_lt_of_le (List.getElem?_eq_some_iff.mp hi).1 hle
    have hrm := rdRun_more hi hr e'
    have hsp := spRun_more hi
    rw [spStep_str hc] at hsp
    have stl : st.length ≤ 2000 := Nat.le_trans (rdRun_len hr) (by rw [List.length_take]; simp; omega)
    walk_at "t_law_spans_1l"
    refine ⟨_, rfl, s_ixS hzl (atI_head hc) ⟨rfl, _, rfl, ?_⟩⟩
    rw [eqLt]
    rcases hw with ⟨hc1, _, rfl⟩ | ⟨hc1, hlast, rfl⟩ | ⟨hc1, hc2, _, _, rfl⟩
    · rw [if_pos hc1] at hsp
      refine if1 (decide_eq_true hc1) ?_
      refine ⟨_, rfl, .inl ⟨rfl, _, .of I.o⟩, _, rfl, s_app I.o (szl_of (by rw [List.length_map, ← hst]; exact stl)) ?_⟩
      have kk : Keep [po] H1 (upd H1 po (.lst ((spRun (xs.take i)).2.1.map V.int ++ [.int (spRun (xs.take i)).2.2]))) := Keep.put (by simp)
      refine ⟨_, ws, by rw [hsp]; rfl, k1.own ho', ⟨by rw [upd_ne hfo]; exact I.f, ?_, ?_, by rw [hsp]; exact I.n, Nat.le_succ_of_le I.l, _, hrm, ?_⟩⟩
      · rw [upd_same, hsp, List.map_append]; rfl
      · rw [hsp]
        exact DpAll.tk (kk.tk fun s hs => by rcases List.mem_singleton.mp hs with rfl; exact ⟨_, I.o⟩) _ _ I.n I.d
      · rw [hsp]; simp [hst]
    · have hc2 : ¬ c = 60 := by omega
      rw [if_neg hc2, if_pos hc1] at hsp
      refine if0 (decide_eq_false hc2) ?_
      refine ⟨_, rfl, s_ixS hzl (atI_head hc) ⟨rfl, _, rfl, ?_⟩⟩
      rw [eqGt]
      refine if1 (decide_eq_true hc1) ?_
      -- the marks that are open are as many as the places kept
      have hne : (spRun (xs.take i)).2.1 ≠ [] := fun q => by
        rw [q] at hst
        rw [List.eq_nil_of_length_eq_zero hst] at hlast
        cases hlast
      obtain ⟨ns, n, hns⟩ : ∃ ns n, (spRun (xs.take i)).2.1 = ns ++ [n] := ⟨_, _, (List.dropLast_concat_getLast hne).symm⟩
      have Io := I.o
      rw [hns, List.map_append] at Io
      refine ⟨_, rfl, .inl ⟨rfl, _, .of I.f⟩, _, rfl, _, rfl, s_cutS hzl ?_⟩
      refine ⟨_, rfl, .inl ⟨rfl, _, .of Io⟩, s_pop Io ⟨_, rfl, by show 3 ≤ sizeLine; decide, fun t ht => ?_⟩⟩
      have tf : t ≠ pf := fun q => by rw [q, upd_ne hfo, I.f] at ht; cases ht
      have to' : t ≠ po := fun q => by rw [q, upd_same] at ht; cases ht
      have e1 : upd (upd H1 po (.lst (ns.map V.int))) t (.tup [.str (tail1 z), .int n, .int (spRun (xs.take i)).2.2]) pf = some (.lst ws) := by
        rw [upd_ne tf.symm, upd_ne hfo]; exact I.f
      refine s_app e1 (szl_of (Nat.le_trans I.l (by omega) : _ ≤ 2000)) ?_
      have kA : Keep [po] H1 (upd H1 po (.lst (ns.map V.int))) := Keep.put (by simp)
      have kB : Keep [] (upd H1 po (.lst (ns.map V.int))) (upd (upd H1 po (.lst (ns.map V.int))) t (.tup [.str (tail1 z), .int n, .int (spRun (xs.take i)).2.2])) := Keep.new ht
      have kC : Keep [pf] (upd (upd H1 po (.lst (ns.map V.int))) t (.tup [.str (tail1 z), .int n, .int (spRun (xs.take i)).2.2])) (upd (upd (upd H1 po (.lst (ns.map V.int))) t (.tup [.str (tail1 z), .int n, .int (spRun (xs.take i)).2.2])) pf (.lst (ws ++ [.ref t]))) := Keep.put (by simp)
      have hf' : H pf = none := hf0
      have kt : Keep [po, pf] H1 _ := ((kA.mono fun _ m => by simp at m; simp [m]).trans kB.of0).trans (kC.mono fun _ m => by simp at m; simp [m])
      have hd : (spRun (xs.take i)).2.1.getLast?.getD 0 = n := by rw [hns]; simp
      refine ⟨_, ws ++ [.ref t], by rw [hsp]; rfl, ?_, ⟨upd_same, ?_, ?_, ?_, ?_, _, hrm, ?_⟩⟩
      · exact Keep.own (Keep.trans (k1.own ho') kB) hf'
      · rw [upd_ne hfo.symm, upd_ne to'.symm, upd_same, hsp]
        show _ = some (HO.lst ((spRun (xs.take i)).2.1.dropLast.map V.int))
        rw [hns, List.dropLast_concat]
      · rw [hsp]
        refine DpAll.app (DpAll.tk (kt.tk fun s hs => ?_) _ _ I.n I.d) (.cons (.tup (xs := [.str (tail1 z), .int n, .int (spRun (xs.take i)).2.2]) (.of ?_) ?_) .nil)
        · rcases List.mem_cons.mp hs with rfl | hs
          · exact ⟨_, I.o⟩
          · rcases List.mem_singleton.mp hs with rfl; exact ⟨_, I.f⟩
        · rw [upd_ne tf, upd_same]
        · rw [hd]
          exact .cons (.str _) (.cons (.int _) (.cons (.int _) .nil))
      · rw [hsp]; exact noLs_app I.n rfl
      · simp; exact I.l
      · rw [hsp]
        show st.dropLast.length = (spRun (xs.take i)).2.1.dropLast.length
        rw [List.length_dropLast, List.length_dropLast, hst]
    · rw [if_neg hc1, if_neg hc2] at hsp
      refine if0 (decide_eq_false hc1) ?_
      refine ⟨_, rfl, s_ixS hzl (atI_head hc) ⟨rfl, _, rfl, ?_⟩⟩
      rw [eqGt]
      refine if0 (decide_eq_false hc2) ⟨_, rfl, _, _, rfl, rfl, ?_⟩
      refine ⟨_, ws, by rw [hsp]; rfl, k1, ⟨I.f, by rw [hsp]; exact I.o, by rw [hsp]; exact I.d, by rw [hsp]; exact I.n, Nat.le_succ_of_le I.l, _, hrm, by rw [hsp]; exact hst⟩⟩
  · rintro σ H1 ⟨v, ws, rfl, k1, I⟩
    walk_at "rd"
    refine ⟨_, rfl, ?_⟩
    have hd := I.d
    have hl := I.l
    rw [List.take_length] at hd
    exact k H1 pf ws hf0 k1 I.f hd (Nat.le_trans hl hle)

set_option Elab.async false
set_option linter.all false
set_option maxRecDepth 100000
set_option maxHeartbeats 1000000
open PySem PySem.Spec PyProof.Rows L2 FR
theorem mem_cutV {xs : List V} {lo hi : Option Int} {v : V} (h : v ∈ cutV xs lo hi) : v ∈ xs := by
  unfold cutV at h
  exact List.mem_of_mem_drop (List.mem_of_mem_take h)
theorem newK {H : Hp} {o : HO} {Q : VK} (q : ∀ p H', Keep [] H H' → H' p = some o → H p = none → Q (.ref p) H') : ∀ p, H p = none → Q (.ref p) (upd H p o) :=
  fun p hp => q p _ (Keep.new hp) upd_same hp
section
variable {K : PySem.W.Frag} {H : Hp} {Q : VK} {a b : Addr} {xs ys : List V} {lo hi : Option Int}
theorem s_cutK (h : SqL K H a xs) (q : ∀ p H', Keep [] H H' → H' p = some (.lst (cutV xs lo hi)) → H p = none → Q (.ref p) H') : rSlL K (.ref a) lo hi H Q := s_cutL h (newK q)
theorem s_catK (h : H a = some (.lst xs)) (h2 : H b = some (.lst ys)) (hz : xs.length + ys.length ≤ sizeLine) (q : ∀ p H', Keep [] H H' → H' p = some (.lst (xs ++ ys)) → H p = none → Q (.ref p) H') : rCat (.ref a) (.ref b) H Q := s_cat h h2 hz (newK q)
end
theorem p_law_changed {M : Pm} (vs : List V) (H : Hp) (Q : VK) (E : XK) (h : sp_law_changed M vs H Q E) : t_law_changed M { nx := fun _ H' => Q .non H', rt := Q } (L2.start ["bag", "strings", "odd", "at", "turn", "string"] vs) H := by
  obtain ⟨b, c, a, xs, rfl, hab, hac, B, ha, hev, hl, k⟩ := h
  walk_at "t_law_changed"
  refine ⟨by show 1 ≤ sizeLine; decide, fun t ht => ⟨by show 20 ≤ sizeLine; decide, fun o ho => ⟨_, rfl, ?_⟩⟩⟩
  have B2 : Bag M.K (upd (upd H t (.tup [.str "a"])) o (.lst [.str "<m", .str ">m", .str "a", .str "<a", .str ">a", .str "m", .str "e", .str "", .str "<", .str ">", .str "<sevenly", .str "ab", .str "<M", .str "< m", .non, .int 3, .ref t, .str "mm", .str ">mm", .str "<mm>"])) b c := (B.new ht).new ho
  have ko : Keep [] H (upd (upd H t (.tup [.str "a"])) o (.lst [.str "<m", .str ">m", .str "a", .str "<a", .str ">a", .str "m", .str "e", .str "", .str "<", .str ">", .str "<sevenly", .str "ab", .str "<M", .str "< m", .non, .int 3, .ref t, .str "mm", .str ">mm", .str "<mm>"])) := (Keep.new (S := []) ht).trans (Keep.new ho)
  have eo : (upd (upd H t (.tup [.str "a"])) o (.lst [.str "<m", .str ">m", .str "a", .str "<a", .str ">a", .str "m", .str "e", .str "", .str "<", .str ">", .str "<sevenly", .str "ab", .str "<M", .str "< m", .non, .int 3, .ref t, .str "mm", .str ">mm", .str "<mm>"])) o = some (.lst [.str "<m", .str ">m", .str "a", .str "<a", .str ">a", .str "m", .str "e", .str "", .str "<", .str ">", .str "<sevenly", .str "ab", .str "<M", .str "< m", .non, .int 3, .ref t, .str "mm", .str ">mm", .str "<mm>"]) := upd_same
  have et := (Keep.new (S := []) (o := .lst [.str "<m", .str ">m", .str "a", .str "<a", .str ">a", .str "m", .str "e", .str "", .str "<", .str ">", .str "<sevenly", .str "ab", .str "<M", .str "< m", .non, .int 3, .ref t, .str "mm", .str ">mm", .str "<mm>"]) ho).at (upd_same (H := H) (a := t))
  have ob : o ∉ [b] := (B.new ht).notin ho
  have tb : t ∉ [b] := B.notin ht
  have ab : a ∉ [b] := by simpa using hab
  generalize upd (upd H t (.tup [.str "a"])) o (.lst [.str "<m", .str ">m", .str "a", .str "<a", .str ">a", .str "m", .str "e", .str "", .str "<", .str ">", .str "<sevenly", .str "ab", .str "<M", .str "< m", .non, .int 3, .ref t, .str "mm", .str ">mm", .str "<mm>"]) = H0 at *
  refine ⟨_, rfl, s_lenL (.of (ko.at ha)) ⟨_, _, rfl, rfl, b, c, _, rfl, B2, by omega, by omega, fun H1 d k1 B1 d0 d1 => ⟨_, rfl, b, c, 5, rfl, B1, by decide, by decide, fun H3 turn k3 B3 e0 e1 =>
    ⟨_, rfl, _, rfl, b, c, .ref o, _, rfl, B3, ?_, ?_, .inl ⟨o, rfl, fun q => ob (by rw [q]; simp), k3 _ _ (k1 _ _ eo ob) ob⟩, fun H4 v m k4 B4 => ⟨_, _, _, rfl, ?_⟩⟩⟩⟩⟩
  · show 1 ≤ 20; decide
  · show 20 ≤ 1000000; decide
  have kb : Keep [b] H H4 := ((ko.of0.trans k1).trans k3).trans k4
  have kb0 : Keep [b] H0 H4 := (k1.trans k3).trans k4
  have ea : H4 a = some (.lst xs) := kb _ _ ha ab
  have hv : EV H4 v := by
    have st : ∀ s : Str, s.length ≤ 100 ∧ okS s = true → EV H4 (.str s) := fun _ q => q
    simp only [List.mem_cons, List.not_mem_nil, or_false] at m
    rcases m with rfl | rfl | rfl | rfl | rfl | rfl | rfl | rfl | rfl | rfl | rfl | rfl | rfl | rfl | rfl | rfl | rfl | rfl | rfl | rfl
    all_goals first
      | exact ⟨_, kb0 _ _ et tb⟩
      | exact True.intro
      | exact st _ (by decide +kernel)
  have fin : ∀ (ys : List V) (p : Addr) (H' : Hp), Keep [] H4 H' → H' p = none → (∀ v' ∈ ys, v' ∈ xs ∨ v' = v) → ys.length ≤ 4 * xs.length + 1 → Q (.ref p) (upd H' p (.lst ys)) := fun ys p H' k' hp hm hz => by
    have kk : Keep [] H4 (upd H' p (.lst ys)) := k'.trans (Keep.new hp)
    have hp4 : H4 p = none := k'.none hp
    have lb : ∀ x ∈ [b], ∀ ys, H x ≠ some (.tup ys) := fun x hx ys q => by
      obtain ⟨zs, e⟩ := B.lst
      rw [List.mem_singleton.mp hx, e] at q
      cases q
    refine k _ p (kb.trans kk.of0) ((B4.keep k' (fun z => nomatch z) (fun z => nomatch z)).new hp) ⟨kb.none hp4 (B4.notin hp4), _, upd_same, fun v' m' => ?_, hz⟩
    rcases hm v' m' with q | rfl
    · exact EV.keep kk (fun _ z => nomatch z) (EV.keep kb lb (hev v' q))
    · exact EV.keep kk (fun _ z => nomatch z) hv
  have cl : ∀ lo hi, (cutV xs lo hi).length ≤ 5000 := fun lo hi => Nat.le_trans (cutV_length _ _ _) hl
  have cl' : ∀ lo hi, (cutV xs lo hi).length ≤ xs.length := fun lo hi => cutV_length _ _ _
  have one : ∀ hi lo : Int, (cutV xs none (some hi) ++ [v] ++ cutV xs (some lo) none).length ≤ 4 * xs.length + 1 ∧ ∀ v' ∈ cutV xs none (some hi) ++ [v] ++ cutV xs (some lo) none, v' ∈ xs ∨ v' = v := fun hi lo => by
    constructor
    · have h1 := cl' none (some hi)
      have h2 := cl' (some lo) none
      simp only [List.length_append, List.length_cons, List.length_nil]
      omega
    · intro v' m'
      simp only [List.mem_append, List.mem_singleton] at m'
      rcases m' with (q | q) | q
      · exact .inl (mem_cutV q)
      · exact .inr q
      · exact .inl (mem_cutV q)
  refine ⟨_, rfl, _, _, rfl, rfl, _, rfl, iteB (fun _ => ?_) (fun _ => ?_)⟩
  · refine ⟨_, rfl, _, rfl, _, rfl, s_cutK (.of ea) fun p1 Ha ka ea1 hp1 => ⟨_, rfl, by show 1 ≤ sizeLine; decide, fun p2 hp2 => ?_⟩⟩
    have kp : Keep [] Ha (upd Ha p2 (.lst [v])) := Keep.new hp2
    refine s_catK (kp.at ea1) upd_same (sz_of (Nat.add_le_add (cl none (some d)) (Nat.le_refl 1))) fun p3 Hc kc ec3 hp3 => ?_
    have ka3 := (ka.trans kp).trans kc
    refine ⟨_, rfl, _, rfl, _, rfl, s_cutK (.of (ka3.at ea)) fun p4 Hd kd ed4 hp4 => ?_⟩
    refine s_cat (kd.at ec3) ed4 (sz_of (by rw [← List.length_append]; exact Nat.le_trans (one d d).1 (by omega : _ ≤ 30000))) fun p5 hp5 => ?_
    exact fin _ p5 Hd (ka3.trans kd) hp5 (one d d).2 (one d d).1
  · refine ⟨_, rfl, rfl, _, rfl, iteB (fun _ => ?_) (fun _ => ?_)⟩
    · refine ⟨_, rfl, _, rfl, _, rfl, s_cutK (.of ea) fun p1 Ha ka ea1 hp1 => ⟨_, rfl, _, rfl, _, _, rfl, rfl, _, rfl, s_cutK (.of (ka.at ea)) fun p4 Hd kd ed4 hp4 => ?_⟩⟩
      refine s_cat (kd.at ea1) ed4 (sz_of (Nat.add_le_add (cl _ _) (cl _ _))) fun p5 hp5 => fin _ p5 Hd (ka.trans kd) hp5 (fun v' m' => ?_) ?_
      · rcases List.mem_append.mp m' with q | q
        · exact .inl (mem_cutV q)
        · exact .inl (mem_cutV q)
      · rw [List.length_append]
        have h1 := cl' none (some d)
        have h2 := cl' (some (d + 1)) none
        omega
    · refine ⟨_, rfl, rfl, _, rfl, iteB (fun _ => ?_) (fun _ => ?_)⟩
      · refine ⟨_, rfl, _, rfl, _, rfl, s_cutK (.of ea) fun p1 Ha ka ea1 hp1 => ⟨_, rfl, by show 1 ≤ sizeLine; decide, fun p2 hp2 => ?_⟩⟩
        have kp : Keep [] Ha (upd Ha p2 (.lst [v])) := Keep.new hp2
        refine s_catK (kp.at ea1) upd_same (sz_of (Nat.add_le_add (cl none (some d)) (Nat.le_refl 1))) fun p3 Hc kc ec3 hp3 => ?_
        have ka3 := (ka.trans kp).trans kc
        refine ⟨_, rfl, _, rfl, _, _, rfl, rfl, _, rfl, s_cutK (.of (ka3.at ea)) fun p4 Hd kd ed4 hp4 => ?_⟩
        refine s_cat (kd.at ec3) ed4 (sz_of (by rw [← List.length_append]; exact Nat.le_trans (one d (d + 1)).1 (by omega : _ ≤ 30000))) fun p5 hp5 => ?_
        exact fin _ p5 Hd (ka3.trans kd) hp5 (one d (d + 1)).2 (one d (d + 1)).1
      · refine ⟨_, rfl, _, rfl, _, rfl, s_cutK (.of ea) fun p1 Ha ka ea1 hp1 => ⟨_, rfl, _, rfl, _, _, rfl, rfl, _, rfl, _, rfl, _, _, rfl, rfl, _, rfl, s_cutK (.of (ka.at ea)) fun p2 Hb kb2 eb2 hp2 => ?_⟩⟩
        refine s_catK (kb2.at ea1) eb2 (sz_of (Nat.add_le_add (cl _ _) (cl _ _))) fun p3 Hc kc ec3 hp3 => ?_
        have k3' := (ka.trans kb2).trans kc
        refine ⟨_, rfl, _, rfl, _, rfl, _, rfl, _, _, rfl, rfl, _, rfl, s_cutK (.of (k3'.at ea)) fun p4 Hd kd ed4 hp4 => ?_⟩
        refine s_catK (kd.at ec3) ed4 (sz_of (by rw [List.length_append]; exact Nat.add_le_add (Nat.add_le_add (cl _ _) (cl _ _)) (cl _ _))) fun p5 He ke ee5 hp5 => ?_
        have k5' := (k3'.trans kd).trans ke
        refine ⟨_, rfl, _, rfl, _, _, rfl, rfl, _, rfl, s_cutK (.of (k5'.at ea)) fun p6 Hf kf ef6 hp6 => ?_⟩
        refine s_cat (kf.at ee5) ef6 (sz_of (by rw [List.length_append, List.length_append]; exact Nat.add_le_add (Nat.add_le_add (Nat.add_le_add (cl _ _) (cl _ _)) (cl _ _)) (cl _ _))) fun p7 hp7 => fin _ p7 Hf (k5'.trans kf) hp7 (fun v' m' => ?_) ?_
        · simp only [List.mem_append] at m'
          rcases m' with ((q | q) | q) | q
          all_goals exact .inl (mem_cutV q)
        · simp only [List.length_append]
          have h1 := cl' none (some d)
          have h2 := cl' (some (d + 1)) (some (d + 2))
          have h3 := cl' (some d) (some (d + 1))
          have h4 := cl' (some (d + 2)) none
          omega

set_option Elab.async false
set_option linter.all false
set_option maxRecDepth 100000
set_option maxHeartbeats 1000000
open PySem PySem.Spec PyProof.Rows L2 FR
/-! ### what is in "abcd" -/
theorem abcd_of {z : Str} {c : Nat} {r : List Nat} (h : cs z = c :: r) (hi : (!(Builtin.Str.occurrences "abcd" z 0 ("abcd" : Str).length 1).isEmpty) = true) : c ∈ cs "abcd" := by
  obtain ⟨i, _, hs⟩ := (StrLaws.found_iff "abcd" z).mp hi
  have e : (("abcd" : Str).cps.extract i (i + z.length) == z.cps) = true := hs
  have e' : ("abcd" : Str).cps.extract i (i + z.length) = z.cps := by simpa using e
  have m : c ∈ (("abcd" : Str).cps.extract i (i + z.length)).toList := by
    rw [e', show z.cps.toList = c :: r from h]
    exact List.mem_cons_self
  rw [Array.toList_extract] at m
  exact List.mem_of_mem_drop (List.mem_of_mem_take m)
abbrev inAbcd : V → Bool
  | .str z => !(Builtin.Str.occurrences "abcd" z 0 ("abcd" : Str).length 1).isEmpty
  | _ => false
theorem inAbcd_sign {xs : List V} (h : isRd xs = true) : ∀ x ∈ xs, inAbcd x = isSignV x := fun x hx => by
  obtain ⟨s, s', e⟩ := rd_all (rd_good h).1 x hx
  obtain ⟨z, c, r, rfl, hc, hw⟩ := step_of e
  have e1 : isSignV (.str z) = !(decide (c = 60) || decide (c = 62)) := by
    show (match cs z with | [] => false | c :: _ => !(decide (c = 60) || decide (c = 62))) = _
    rw [hc]
  rw [e1]
  have no : ¬ c ∈ cs "abcd" → inAbcd (.str z) = false := fun n => by
    cases q : inAbcd (.str z) with
    | false => rfl
    | true => exact absurd (abcd_of hc q) n
  rcases hw with ⟨rfl, _, _⟩ | ⟨rfl, _, _⟩ | ⟨n1, n2, l1, m, _⟩
  · exact no (by decide)
  · exact no (by decide)
  · rw [decide_eq_false n1, decide_eq_false n2]
    have : z = ⟨#[c]⟩ := by
      rw [len_cs, hc] at l1
      have : r = [] := List.eq_nil_of_length_eq_zero (by simpa using l1)
      subst this
      exact str_ext hc
    subst this
    show (!(Builtin.Str.occurrences "abcd" ⟨#[c]⟩ 0 ("abcd" : Str).length 1).isEmpty) = true
    rw [StrLaws.found_one]
    exact decide_eq_true m
theorem pick_signs {xs : List V} (h : isRd xs = true) : pick inAbcd (fun v => v) xs = signsOf xs := by
  unfold pick signsOf
  rw [List.map_id']
  exact List.filter_congr (inAbcd_sign h)
/-! ### how long the spans are, shown -/
theorem joinL_len {s : List Nat} : ∀ ps : List (List Nat), (TL.joinL s ps).length ≤ (ps.map fun p => p.length + s.length).sum
  | [] => Nat.le_refl _
  | [p] => by
    show p.length ≤ (p.length + s.length) + 0
    omega
  | p :: p' :: r => by
    have ih := joinL_len (s := s) (p' :: r)
    show (p ++ (s ++ TL.joinL s (p' :: r))).length ≤ (p.length + s.length) + ((p' :: r).map fun p => p.length + s.length).sum
    rw [List.length_append, List.length_append]
    omega
theorem sum_le {α : Type} {f : α → Nat} {m : Nat} : ∀ {l : List α}, (∀ x ∈ l, f x ≤ m) → (l.map f).sum ≤ l.length * m
  | [], _ => Nat.zero_le _
  | a :: r, h => by
    have ih := sum_le (l := r) fun x hx => h x (List.mem_cons_of_mem _ hx)
    have ha := h a List.mem_cons_self
    rw [List.map_cons, List.sum_cons, List.length_cons, Nat.succ_mul]
    omega
theorem tupleText_len {ts : List Str} {m : Nat} (h : ∀ t ∈ ts, t.length ≤ m) : (tupleText ts).length ≤ ts.length * (m + 2) + 3 := by
  unfold tupleText
  rw [len_app, len_app]
  have e1 : (Str.join ", " ts).length ≤ ts.length * (m + 2) := by
    rw [len_cs]
    show (TL.tl (Str.join ", " ts)).length ≤ _
    rw [TL.tl_join]
    refine Nat.le_trans (joinL_len _) ?_
    rw [List.map_map]
    refine sum_le fun t ht => ?_
    have := h t ht
    rw [len_cs] at this
    show (cs t).length + 2 ≤ m + 2
    omega
  have e2 : ("(" : Str).length = 1 := rfl
  have e3 : (Str.ofString (if (ts.length == 1) = true then ",)" else ")")).length ≤ 2 := by
    split <;> decide
  show ("(" : Str).length + (Str.join ", " ts).length + (Str.ofString (if (ts.length == 1) = true then ",)" else ")")).length ≤ _
  omega
/-- a span of a text of up to n signs -/
def Tri (n : Nat) (d : PyData) : Prop := ∃ (z : Str) (i j : Int), d = .tuple [.str z, .int i, .int j] ∧ z.length ≤ 100 ∧ okS z = true ∧ 0 ≤ i ∧ i ≤ n ∧ 0 ≤ j ∧ j ≤ n
structure SpG (n : Nat) (s : List PyData × List Int × Int) : Prop where
  a : ∀ d ∈ s.1, Tri n d
  b : ∀ i ∈ s.2.1, 0 ≤ i ∧ i ≤ n
  c : 0 ≤ s.2.2
  d : s.2.2 ≤ n
  l : s.1.length ≤ n
theorem Tri.mono {n : Nat} {d : PyData} (h : Tri n d) : Tri (n + 1) d := by
  obtain ⟨z, i, j, e, h1, h2, h3, h4, h5, h6⟩ := h
  exact ⟨z, i, j, e, h1, h2, h3, by omega, h5, by omega⟩
theorem okS_tail {z : Str} (h : okS z = true) : okS (tail1 z) = true := by
  have h : (z.cps.all fun c => decide (c < 0x110000)) = true := h
  rw [← Array.all_toList] at h
  exact okS_of fun d hd => of_decide_eq_true (List.all_eq_true.mp h d (tail_mem hd))
theorem tail_le (z : Str) : (tail1 z).length ≤ z.length := by
  rw [len_cs, len_cs, cs_cut1, List.length_drop]
  omega
theorem SpG.step {n : Nat} {s : List PyData × List Int × Int} (g : SpG n s) {H : Hp} {x : V} (hx : EV H x) : SpG (n + 1) (spStep s x) := by
  have up : SpG (n + 1) s := ⟨fun d h => (g.a d h).mono, fun i h => ⟨(g.b i h).1, by have := (g.b i h).2; omega⟩, g.c, by have := g.d; omega, Nat.le_succ_of_le g.l⟩
  unfold spStep
  match x, hx with
  | .str z, hx =>
    obtain ⟨hz, ho⟩ := hx
    show SpG (n + 1) (match cs z with | [] => s | c :: _ => _)
    cases cs z with
    | nil => exact up
    | cons c r =>
      show SpG (n + 1) (if c = 60 then _ else if c = 62 then _ else _)
      by_cases h1 : c = 60
      · rw [if_pos h1]
        refine ⟨up.a, fun i m => ?_, up.c, up.d, up.l⟩
        rcases List.mem_append.mp m with m | m
        · exact up.b i m
        · rw [List.mem_singleton.mp m]; exact ⟨up.c, up.d⟩
      · rw [if_neg h1]
        by_cases h2 : c = 62
        · rw [if_pos h2]
          refine ⟨fun d m => ?_, fun i m => up.b i (List.dropLast_subset _ m), up.c, up.d, ?_⟩
          · rcases List.mem_append.mp m with m | m
            · exact up.a d m
            · rw [List.mem_singleton.mp m]
              have hl : 0 ≤ s.2.1.getLast?.getD 0 ∧ s.2.1.getLast?.getD 0 ≤ ((n + 1 : Nat) : Int) := by
                cases q : s.2.1.getLast? with
                | none => exact ⟨Int.le_refl _, by show (0 : Int) ≤ _; omega⟩
                | some v => exact up.b v (List.mem_of_getLast? q)
              exact ⟨tail1 z, _, _, rfl, Nat.le_trans (tail_le z) hz, okS_tail ho, hl.1, hl.2, up.c, up.d⟩
          · rw [List.length_append]
            have := g.l
            show s.1.length + 1 ≤ n + 1
            omega
        · rw [if_neg h2]
          exact ⟨up.a, up.b, by have := g.c; show 0 ≤ s.2.2 + 1; omega, by have := g.d; show s.2.2 + 1 ≤ ((n + 1 : Nat) : Int); omega, up.l⟩
  | .non, _ => exact up
  | .int _, _ => exact up
  | .ref _, _ => exact up
theorem SpG.run {H : Hp} : ∀ {xs : List V} {s : List PyData × List Int × Int} {n : Nat}, (∀ v ∈ xs, EV H v) → SpG n s → SpG (n + xs.length) (xs.foldl spStep s)
  | [], _, _, _, g => g
  | x :: r, s, n, h, g => by
    have := SpG.run (xs := r) (fun v m => h v (List.mem_cons_of_mem _ m)) (g.step (h x List.mem_cons_self))
    rw [show n + (x :: r).length = n + 1 + r.length from by rw [List.length_cons]; omega]
    exact this
theorem spG {H : Hp} {xs : List V} (h : ∀ v ∈ xs, EV H v) : SpG xs.length (spRun xs) := by
  have := SpG.run (n := 0) (s := ([], [], 0)) h ⟨(fun _ m => nomatch m), (fun _ m => nomatch m), Int.le_refl _, Int.le_refl _, Nat.le_refl _⟩
  rw [Nat.zero_add] at this
  exact this
theorem shownAll_map : ∀ ds : List PyData, PyData.shownAll ds = ds.map PyData.shown
  | [] => rfl
  | d :: r => by
    show PyData.shown d :: PyData.shownAll r = _
    rw [shownAll_map r]; rfl
theorem int_shown {i : Int} {n : Nat} (h0 : 0 ≤ i) (h1 : i ≤ n) (hn : n ≤ 2000) : (PyData.shown (.int i)).length ≤ 5 ∧ PyData.showable (.int i) = true := by
  have hi : i.natAbs ≤ 2000 := by omega
  constructor
  · show (Str.ofString (toString i)).length ≤ 5
    have := int_text_length_le10 (a := i) (k := 4) (by decide) (by omega)
    rw [PySem.ofString_length]
    omega
  · show decide (i.natAbs.log2 < 1920) = true
    refine decide_eq_true ?_
    have : i.natAbs.log2 ≤ i.natAbs := Nat.log2_le_self _
    by_cases h : i.natAbs = 0
    · rw [h]; decide
    · exact (Nat.log2_lt h).mpr (Nat.lt_of_le_of_lt hi (by
        calc 2000 < 2 ^ 11 := by decide
        _ ≤ 2 ^ 1920 := Nat.pow_le_pow_right (by decide) (by decide)))
theorem tri_shown {n : Nat} {d : PyData} (h : Tri n d) (hn : n ≤ 2000) : d.shown.length ≤ 4000 ∧ d.showable = true ∧ d.depth = 1 := by
  obtain ⟨z, i, j, rfl, hz, ho, hi0, hi1, hj0, hj1⟩ := h
  obtain ⟨li, si⟩ := int_shown hi0 hi1 hn
  obtain ⟨lj, sj⟩ := int_shown hj0 hj1 hn
  refine ⟨?_, ?_, rfl⟩
  · have hzz : (PyData.shown (.str z)).length ≤ 1002 := by
      have h : (z.cps.all fun c => decide (c < 0x110000)) = true := ho
      rw [← Array.all_toList] at h
      have := StrLaws.reprText_len z fun c hc => Nat.lt_trans (of_decide_eq_true (List.all_eq_true.mp h c hc)) (by decide)
      show (reprText z).length ≤ 1002
      omega
    show (tupleText [PyData.shown (.str z), PyData.shown (.int i), PyData.shown (.int j)]).length ≤ 4000
    refine Nat.le_trans (tupleText_len (m := 1002) fun t ht => ?_) (by show 3 * (1002 + 2) + 3 ≤ 4000; decide)
    simp only [List.mem_cons, List.not_mem_nil, or_false] at ht
    rcases ht with rfl | rfl | rfl <;> omega
  · show (true && (PyData.showable (.int i) && (PyData.showable (.int j) && true))) = true
    rw [si, sj]; rfl
theorem spans_shown {H : Hp} {xs : List V} (h : ∀ v ∈ xs, EV H v) (hl : xs.length ≤ 2000) : (PyData.tuple (spRun xs).1).showable = true ∧ (PyData.tuple (spRun xs).1).depth ≤ 30 ∧ (PyData.tuple (spRun xs).1).shown.length ≤ sizeLine := by
  have g := spG h
  have ga : ∀ d ∈ (spRun xs).1, Tri xs.length d := g.a
  have gl := g.l
  refine ⟨?_, ?_, ?_⟩
  · show PyData.showableAll (spRun xs).1 = true
    generalize (spRun xs).1 = l at ga
    induction l with
    | nil => rfl
    | cons d r ih =>
      show (PyData.showable d && PyData.showableAll r) = true
      rw [(tri_shown (ga d List.mem_cons_self) hl).2.1, ih fun e m => ga e (List.mem_cons_of_mem _ m)]
      rfl
  · show PyData.depthAll (spRun xs).1 + 1 ≤ 30
    have : PyData.depthAll (spRun xs).1 ≤ 1 := by
      generalize (spRun xs).1 = l at ga
      induction l with
      | nil => exact Nat.zero_le _
      | cons d r ih =>
        show max (PyData.depth d) (PyData.depthAll r) ≤ 1
        rw [(tri_shown (ga d List.mem_cons_self) hl).2.2]
        have := ih fun e m => ga e (List.mem_cons_of_mem _ m)
        omega
    omega
  · show (tupleText (PyData.shownAll (spRun xs).1)).length ≤ sizeLine
    rw [shownAll_map]
    refine Nat.le_trans (tupleText_len (m := 4000) fun t ht => ?_) ?_
    · obtain ⟨d, hd, rfl⟩ := List.mem_map.mp ht
      exact (tri_shown (ga d hd) hl).1
    · rw [List.length_map]
      have : (spRun xs).1.length ≤ 2000 := Nat.le_trans gl hl
      exact sz_of (by omega : _ ≤ 8100000)

set_option Elab.async false
set_option linter.all false
set_option maxRecDepth 100000
set_option maxHeartbeats 1000000
open PySem PySem.Spec PyProof.Rows L2 FR
theorem EV.ext {H H' : Hp} (e : LamX.ExtN H H') : ∀ {v : V}, EV H v → EV H' v
  | .str z, h => h
  | .non, _ => True.intro
  | .int _, _ => True.intro
  | .ref a, ⟨ys, h⟩ => ⟨ys, e a _ h fun _ q => nomatch q⟩
theorem Keep.ext {H H' : Hp} (k : Keep [] H H') : LamX.ExtN H H' := fun b o h _ => k b o h (fun z => nomatch z)
theorem Keep.tabs {T : List (Addr × Str)} {H H' : Hp} (k : Keep [] H H') (t : LamX.Tabs T H) : LamX.Tabs T H' := t.ext fun b o h => k b o h (fun z => nomatch z)
theorem s_eqTwo {K : PySem.W.Frag} {H : Hp} {Q : VK} {a b : Addr} (h : SqL K H a [.str "reading", .str "reading"]) (h2 : SqL K H b [.str "reading", .str "reading"]) (q : Q (.bl true) H) : rEqD K (.ref a) (.ref b) H Q :=
  ⟨.list [.str "reading", .str "reading"], .list [.str "reading", .str "reading"], .lst h (.cons (.str _) (.cons (.str _) .nil)), .lst h2 (.cons (.str _) (.cons (.str _) .nil)), by decide +kernel, by decide +kernel, by
    rw [show PyData.eqv (.list [.str "reading", .str "reading"]) (.list [.str "reading", .str "reading"]) = true from by decide +kernel]
    exact q⟩
theorem Tabs.put {T : List (Addr × Str)} {H : Hp} {w : Addr} {xs ys : List V} (t : LamX.Tabs T H) (h : H w = some (.lst xs)) : LamX.Tabs T (upd H w (.lst ys)) := fun p hp => by
  obtain ⟨ps, h1, h2, h3⟩ := t p hp
  refine ⟨ps, ?_, h2, fun pos cv hc => ?_⟩
  · rw [upd_ne fun q => ?_]
    · exact h1
    · rw [q, h] at h1; cases h1
  · obtain ⟨c, e1, e2⟩ := h3 pos cv hc
    refine ⟨c, e1, ?_⟩
    rw [upd_ne fun q => ?_]
    · exact e2
    · rw [q, h] at e2; cases e2
theorem KeepT.put {H H1 H2 : Hp} {w : Addr} {o : HO} (e1 : LamX.ExtN H H1) (hw : H1 w = none) (e2 : LamX.ExtN H H2) : KeepT [] H (upd H2 w o) := fun b u h n _ => by
  rw [upd_ne (ne_of_none (e1 b u h n) hw)]
  exact e2 b u h n
theorem p_law_is_told_right {M : Pm} (vs : List V) (H : Hp) (Q : VK) (E : XK) (h : sp_law_is_told_right M vs H Q E) : t_law_is_told_right M { nx := fun _ H' => Q .non H', rt := Q } (L2.start ["strings", "thing", "words", "string"] vs) H := by
  obtain ⟨a, xs, rfl, ha, hev, hlen, tb, k⟩ := h
  walk_at "t_law_is_told_right"
  refine ⟨_, rfl, s_tupL (.of ha) fun t ht => ⟨_, rfl, ?_⟩⟩
  have k0 : Keep [] H (upd H t (.tup xs)) := Keep.new ht
  have et : (upd H t (.tup xs)) t = some (.tup xs) := upd_same
  generalize upd H t (.tup xs) = H0 at *
  refine ⟨a, xs, rfl, k0.at ha, fun v m => EV.keep k0 (fun _ m => nomatch m) (hev v m), hlen, fun H1 k1 => ⟨_, rfl, ?_⟩⟩
  have k01 : Keep [] H H1 := k0.trans k1
  have tb1 := Keep.tabs k01 tb
  have et1 := k1.at et
  have ev1 : ∀ v ∈ xs, EV H1 v := fun v m => EV.keep k01 (fun _ m => nomatch m) (hev v m)
  cases e : isRd xs with
  | false =>
    refine if1 rfl ?_
    dsimp only [LamX.tLam, TT_law_error]
    refine ⟨tb1, fun H2 e2 tb2 => ⟨_, rfl, .inl ⟨t, xs, rfl, e2 _ _ et1 (fun _ q => nomatch q), fun v m => EV.ext e2 (ev1 v m), hlen, fun q => absurd (e.symm.trans q) Bool.false_ne_true, fun _ H3 k3 => ⟨rfl, rfl, by show 1 ≤ sizeLine; decide, fun w hw => ⟨_, rfl, .inl ⟨rfl, _, .of upd_same⟩, ?_⟩⟩⟩⟩⟩
    have k4 : Keep [] H3 (upd H3 w (.lst [.str "reading"])) := Keep.new hw
    have e24 : LamX.ExtN H1 (upd H3 w (.lst [.str "reading"])) := e2.trans ((Keep.ext k3).trans (Keep.ext k4))
    have ew4 : (upd H3 w (.lst [.str "reading"])) w = some (.lst [.str "reading"]) := upd_same
    have tb4 := Keep.tabs (k3.trans k4) tb2
    generalize upd H3 w (.lst [.str "reading"]) = H4 at *
    refine ⟨tb4, fun H5 e5 tb5 => ⟨_, rfl, ⟨t, xs, rfl, (e24.trans e5) _ _ et1 (fun _ q => nomatch q), fun v m => EV.ext (e24.trans e5) (ev1 v m), hlen, fun q => absurd (e.symm.trans q) Bool.false_ne_true, fun _ H6 k6 => ⟨rfl, rfl, ?_⟩⟩⟩⟩
    have ew6 : H6 w = some (.lst [.str "reading"]) := k6.at (e5 _ _ ew4 fun _ q => nomatch q)
    refine s_app ew6 (szl_of (by show 1 ≤ 5; decide)) ?_
    have e16 : LamX.ExtN H1 H6 := (e24.trans e5).trans (Keep.ext k6)
    have tb7 : LamX.Tabs M.tabs (upd H6 w (.lst ([.str "reading"] ++ [.str "reading"]))) := Tabs.put (Keep.tabs k6 tb5) ew6
    have e7 : LamX.ExtN H (upd H6 w (.lst ([.str "reading"] ++ [.str "reading"]))) := fun b o h n => KeepT.put ((Keep.ext k01).trans (e2.trans (Keep.ext k3))) hw ((Keep.ext k01).trans e16) b o h n (fun z => nomatch z)
    have e17 : LamX.ExtN H1 (upd H6 w (.lst ([.str "reading"] ++ [.str "reading"]))) := fun b o h n => KeepT.put (e2.trans (Keep.ext k3)) hw e16 b o h n (fun z => nomatch z)
    have ew7 : (upd H6 w (.lst ([.str "reading"] ++ [.str "reading"]))) w = some (.lst [.str "reading", .str "reading"]) := upd_same
    generalize upd H6 w (.lst ([.str "reading"] ++ [.str "reading"])) = H7 at *
    refine ⟨_, rfl, by show 2 ≤ sizeLine; decide, fun p hp => s_eqTwo (.of ((Keep.new (S := []) hp).at ew7)) (.of upd_same) ⟨_, rfl, if1 rfl ⟨_, rfl, .inl ⟨t, xs, rfl, ?_, fun v m => ?_, hlen, fun H8 k8 => ⟨_, _, rfl, rfl, ?_⟩⟩⟩⟩⟩
    · exact (Keep.new (S := []) hp).at (e17 _ _ et1 fun _ q => nomatch q)
    · exact EV.keep (Keep.new (S := []) hp) (fun _ m => nomatch m) (EV.ext e17 (ev1 v m))
    · rw [e]
      have kk : Keep [] H7 H8 := (Keep.new hp).trans k8
      exact k H8 (fun b o h n _ => Keep.ext kk b o (e7 b o h n) n) (Keep.tabs kk tb7)
  | true =>
    refine if0 rfl ?_
    obtain ⟨g1, g2, g3⟩ := spans_shown ev1 (rd_good e).2
    refine ⟨_, rfl, .inl ⟨t, xs, rfl, et1, ev1, hlen, fun H2 k2 => ⟨_, _, rfl, rfl, _, rfl, ?_⟩⟩⟩
    rw [e]
    refine if0 rfl ?_
    refine ⟨_, rfl, .inl ⟨t, xs, rfl, k2.at et1, fun v m => EV.keep k2 (fun _ m => nomatch m) (ev1 v m), hlen, fun _ H3 p k3 hd => ⟨p, _, rfl, hd, g1, g2, g3, ?_⟩, fun q => absurd (q.symm.trans e) Bool.false_ne_true⟩⟩
    have k03 := (k01.trans k2).trans k3
    refine ⟨_, rfl, a, xs, rfl, k03.at ha, fun v m => EV.keep k03 (fun _ m => nomatch m) (hev v m), e, fun H4 q ws hq k4 eq hdq hl => s_tupL (.of eq) fun r hr => ?_⟩
    have k5 : Keep [] H4 (upd H4 r (.tup ws)) := Keep.new hr
    refine ⟨r, _, rfl, .tup (.of upd_same) (DpAll.tk (k5.tk fun _ m => nomatch m) _ _ (sp_noL xs) hdq), g1, g2, g3, ⟨rfl, _, rfl, ?_⟩⟩
    rw [decide_eq_true rfl]
    refine if0 rfl ?_
    have k05 := (k03.trans k4).trans k5
    generalize upd H4 r (.tup ws) = H5 at *
    refine ⟨_, rfl, t, xs, rfl, ?_, fun v m => EV.keep k05 (fun _ m => nomatch m) (hev v m), hlen, fun _ H6 k6 => ?_, fun q => absurd (q.symm.trans e) Bool.false_ne_true⟩
    · exact ((((k1.trans k2).trans k3).trans k4).trans k5).at et
    have k06 := k05.trans k6
    refine ⟨rfl, lcL (xs := xs) inAbcd (fun v => v) (fun R r => ⟨_, rfl, r a _ Keep.refl (.of (k06.at ha))⟩) (by omega) (fun _ => rfl) (fun x H7 m k7 R r => ?_) (fun x H7 _ _ k7 R r => ⟨_, rfl, r H7 Keep.refl⟩) fun D H7 hD k7 eD => ?_⟩
    · obtain ⟨z, hz⟩ : ∃ z, x = .str z := ⟨_, str_of_rd e x m⟩
      subst hz
      walk_at "rd"
      exact ⟨_, rfl, _, _, rfl, rfl, _, rfl, r H7 Keep.refl⟩
    · have e2 : pick inAbcd (fun v => v) xs = ((signsOf xs).map strOf).map V.str := by
        rw [pick_signs e]
        exact (strs_back (l := signsOf xs) fun x hx => str_of_rd e x (List.mem_filter.mp hx).1).symm
      rw [e2] at eD
      refine s_join (.of eD) (sign_sum e) ⟨rfl, ?_⟩
      rw [show decide (V.str (textOf xs) = V.str (Txt.join "" ((signsOf xs).map strOf))) = true from decide_eq_true rfl]
      exact k H7 (fun b o h n _ => Keep.ext (k06.trans k7) b o h n) (Keep.tabs (k06.trans k7) tb)

set_option Elab.async false
set_option linter.all false
set_option maxRecDepth 100000
set_option maxHeartbeats 1000000
open PySem PySem.Spec PyProof.Rows L2 FR
theorem Tabs.keep {T : List (Addr × Str)} {S : List Addr} {H H' : Hp} (k : Keep S H H') (hS : ∀ s ∈ S, ∃ xs, H s = some (.lst xs)) (t : LamX.Tabs T H) : LamX.Tabs T H' := fun p hp => by
  obtain ⟨ps, h1, h2, h3⟩ := t p hp
  refine ⟨ps, k _ _ h1 fun m => ?_, h2, fun pos cv hc => ?_⟩
  · obtain ⟨xs, e⟩ := hS _ m
    rw [h1] at e; cases e
  · obtain ⟨c, e1, e2⟩ := h3 pos cv hc
    refine ⟨c, e1, k _ _ e2 fun m => ?_⟩
    obtain ⟨xs, e⟩ := hS _ m
    rw [e2] at e; cases e
theorem Bag.tabs {K : PySem.W.Frag} {T : List (Addr × Str)} {H H' : Hp} {b c : Addr} (B : Bag K H b c) (k : Keep [b] H H') (t : LamX.Tabs T H) : LamX.Tabs T H' :=
  Tabs.keep k (fun s hs => by rw [List.mem_singleton.mp hs]; exact B.lst) t
theorem flat_one {v : V} : ∀ n : Nat, (List.replicate n [v]).flatten = List.replicate n v
  | 0 => rfl
  | n + 1 => by
    rw [List.replicate_succ, List.flatten_cons, flat_one n, List.replicate_succ]
    rfl
theorem s_repK {H : Hp} {Q : VK} {l : Addr} {v : V} {k : Int} (h : H l = some (.lst [v])) (k0 : 0 ≤ k) (k1 : k ≤ 2000) (q : ∀ p H', Keep [] H H' → H' p = some (.lst (List.replicate k.toNat v)) → H p = none → Q (.ref p) H') : rRep (.ref l) (.int k) H Q :=
  ⟨l, k, [v], rfl, rfl, h, by omega, by omega, sz_of (by show 1 * k.toNat ≤ 2000; omega), fun p hp => by rw [flat_one]; exact q p _ (Keep.new hp) upd_same hp⟩
theorem rdRun_cat : ∀ {xs ys : List V} {st : List Str}, rdRun (xs ++ ys) st = (rdRun xs st).bind (rdRun ys)
  | [], _, _ => rfl
  | v :: r, ys, st => by
    show (rdStep st v).bind (rdRun (r ++ ys)) = ((rdStep st v).bind (rdRun r)).bind (rdRun ys)
    cases rdStep st v with
    | none => rfl
    | some s => exact rdRun_cat (xs := r)
theorem cs_lt (z : Str) : cs ("<" ++ z) = 60 :: cs z := by rw [cs_app]; rfl
theorem cs_gt (z : Str) : cs (">" ++ z) = 62 :: cs z := by rw [cs_app]; rfl
theorem tail_lt (z : Str) : tail1 ("<" ++ z) = z := str_ext (by rw [cs_cut1, cs_lt]; rfl)
theorem tail_gt (z : Str) : tail1 (">" ++ z) = z := str_ext (by rw [cs_cut1, cs_gt]; rfl)
theorem rd_opens {z : Str} (hm : isMark z = true) : ∀ (m : Nat) (st : List Str), rdRun (List.replicate m (.str ("<" ++ z))) st = some (st ++ List.replicate m z)
  | 0, st => by rw [List.replicate_zero, List.replicate_zero, List.append_nil]; rfl
  | m + 1, st => by
    rw [List.replicate_succ]
    show (rdStep st (.str ("<" ++ z))).bind (rdRun (List.replicate m (.str ("<" ++ z)))) = _
    rw [rdStep_str (cs_lt z), tail_lt, if_pos ⟨rfl, hm⟩]
    show rdRun (List.replicate m (.str ("<" ++ z))) (st ++ [z]) = _
    rw [rd_opens hm m, List.append_assoc, List.replicate_succ]
    rfl
theorem rd_signs : ∀ (n : Nat) (st : List Str), rdRun (List.replicate n (.str "b")) st = some st
  | 0, _ => rfl
  | n + 1, st => by
    rw [List.replicate_succ]
    show (rdStep st (.str "b")).bind (rdRun (List.replicate n (.str "b"))) = _
    rw [rdStep_str (z := "b") (c := 98) (r := []) rfl, if_neg (by decide), if_neg (fun q => by have := q.1; omega), if_pos (by decide)]
    exact rd_signs n st
theorem rd_closes {z : Str} : ∀ (m : Nat) (st : List Str), rdRun (List.replicate m (.str (">" ++ z))) (st ++ List.replicate m z) = some st
  | 0, st => by rw [List.replicate_zero, List.replicate_zero, List.append_nil]; rfl
  | m + 1, st => by
    rw [List.replicate_succ]
    show (rdStep (st ++ List.replicate (m + 1) z) (.str (">" ++ z))).bind (rdRun (List.replicate m (.str (">" ++ z)))) = _
    rw [List.replicate_succ', ← List.append_assoc, rdStep_str (cs_gt z), tail_gt, if_neg (fun q => by have := q.1; omega), if_pos ⟨rfl, by simp⟩, List.dropLast_concat]
    exact rd_closes m st
def rowV (z : Str) (m : Nat) : List V := List.replicate m (.str ("<" ++ z)) ++ List.replicate (2000 - 2 * m) (.str "b") ++ List.replicate m (.str (">" ++ z))
theorem row_len {z : Str} {m : Nat} (h : m < 990) : (rowV z m).length = 2000 := by
  unfold rowV
  rw [List.length_append, List.length_append, List.length_replicate, List.length_replicate, List.length_replicate]
  omega
theorem row_rd {z : Str} {m : Nat} (h : m < 990) (hm : isMark z = true) : isRd (rowV z m) = true := by
  unfold isRd
  rw [row_len h]
  unfold rowV
  rw [rdRun_cat, rdRun_cat, rd_opens hm]
  show (decide (2000 ≤ 2000) && (((rdRun (List.replicate (2000 - 2 * m) (.str "b")) ([] ++ List.replicate m z)).bind (rdRun (List.replicate m (.str (">" ++ z))))) == some [])) = true
  rw [rd_signs]
  show (decide (2000 ≤ 2000) && (rdRun (List.replicate m (.str (">" ++ z))) ([] ++ List.replicate m z) == some [])) = true
  rw [rd_closes]
  rfl
theorem row_ev {H : Hp} {z : Str} {m : Nat} (hm : isMark z = true) (hz : z.length ≤ 6) : ∀ v ∈ rowV z m, EV H v := fun v h => by
  unfold rowV at h
  rcases List.mem_append.mp h with h | h
  · rcases List.mem_append.mp h with h | h
    · rw [(List.mem_replicate.mp h).2]; exact (sv7_mark rfl (by decide +kernel) hm hz).ev
    · rw [(List.mem_replicate.mp h).2]; exact ⟨by decide, by decide +kernel⟩
  · rw [(List.mem_replicate.mp h).2]; exact (sv7_mark rfl (by decide +kernel) hm hz).ev
theorem cut_more {xs : List V} {n : Nat} {v : V} (hn : n ≤ xs.length) : (cutV xs none (some (n : Int)) ++ [v] ++ cutV xs (some (n : Int)) none).length = xs.length + 1 := by
  unfold cutV
  simp only [HT.sIx_nat, HT.sIx_none]
  simp only [List.length_append, List.length_take, List.length_drop, List.length_cons, List.length_nil]
  omega
theorem p_law_are_bounds_right {M : Pm} (vs : List V) (H : Hp) (Q : VK) (E : XK) (h : sp_law_are_bounds_right M vs H Q E) : t_law_are_bounds_right M { nx := fun _ H' => Q .non H', rt := Q } (L2.start ["bag", "many", "mark", "row"] vs) H := by
  obtain ⟨b, c, rfl, B, tb, k⟩ := h
  walk_at "t_law_are_bounds_right"
  refine ⟨_, rfl, b, c, 990, rfl, B, by decide, by decide, fun H1 m k1 B1 m0 m1 => ⟨_, rfl, b, c, rfl, B1, fun H2 z k2 B2 hz hm => ⟨_, _, rfl, ?_⟩⟩⟩
  have tb2 := B.tabs (k1.trans k2) tb
  have l1 : ∀ s : Str, s.length = 1 → s.length + z.length ≤ sizeLine := fun s hs => sz_of (by omega : _ ≤ 100)
  refine ⟨_, rfl, _, _, rfl, rfl, l1 "<" rfl, by show 1 ≤ sizeLine; decide, fun p1 hp1 => ⟨_, rfl, s_repK upd_same m0 (by omega) fun p2 H3 k3 e3 _ => ⟨by show 1 ≤ sizeLine; decide, fun p4 hp4 => ⟨_, rfl, _, _, rfl, rfl, .inl (by decide), _, _, rfl, rfl, s_repK upd_same (by omega) (by omega) fun p5 H5 k5 e5 _ => ?_⟩⟩⟩⟩
  have e35 : H5 p2 = _ := k5.at ((Keep.new (S := []) hp4).at e3)
  refine s_catK e35 e5 (sz_of (by rw [List.length_replicate, List.length_replicate]; omega : _ ≤ 4000)) fun p6 H6 k6 e6 _ => ⟨_, rfl, _, _, rfl, rfl, l1 ">" rfl, by show 1 ≤ sizeLine; decide, fun p7 hp7 => ⟨_, rfl, s_repK upd_same m0 (by omega) fun p8 H8 k8 e8 _ => ?_⟩⟩
  have e68 : H8 p6 = _ := k8.at ((Keep.new (S := []) hp7).at e6)
  refine s_catK e68 e8 (sz_of (by rw [List.length_append, List.length_replicate, List.length_replicate, List.length_replicate]; omega : _ ≤ 8000)) fun p H9 k9 e9 _ => ⟨_, rfl, ?_⟩
  have kk : Keep [] H2 H9 := ((((((Keep.new (S := []) hp1).trans k3).trans (Keep.new hp4)).trans k5).trans k6).trans ((Keep.new (S := []) hp7).trans k8)).trans k9
  have tb9 := Keep.tabs kk tb2
  obtain ⟨n, rfl⟩ : ∃ n : Nat, m = n := ⟨m.toNat, by omega⟩
  have n1 : n < 990 := by omega
  have er : H9 p = some (.lst (rowV z n)) := by
    rw [e9]
    unfold rowV
    rw [show ((2000 : Int) - 2 * (n : Int)).toNat = 2000 - 2 * n from by omega]
    rfl
  have ev := row_ev (H := H9) (m := n) hm hz
  have rl := row_len (z := z) n1
  refine ⟨p, rowV z n, rfl, er, ev, by omega, tb9, fun H10 kT tb10 => ⟨_, rfl, if0 rfl ?_⟩⟩
  have e10 : H10 p = some (.lst (rowV z n)) := kT p _ er (fun _ q => nomatch q) (fun q => nomatch q)
  refine ⟨_, rfl, s_tupL (.of e10) fun t ht => .inl ⟨t, rowV z n, rfl, upd_same, row_ev hm hz, by omega, fun H11 k11 => ⟨_, _, rfl, rfl, _, rfl, ?_⟩⟩⟩
  rw [row_rd n1 hm]
  refine if0 rfl ?_
  have k011 : Keep [] H10 H11 := (Keep.new ht).trans k11
  refine ⟨_, rfl, _, rfl, _, rfl, s_cutK (.of (k011.at e10)) fun q1 H12 k12 e12 _ => ⟨by show 1 ≤ sizeLine; decide, fun q2 hq2 => ?_⟩⟩
  have kq : Keep [] H12 (upd H12 q2 (.lst [.str "c"])) := Keep.new hq2
  have cl : ∀ lo hi, (cutV (rowV z n) lo hi).length ≤ 2000 := fun lo hi => Nat.le_trans (cutV_length _ _ _) (by omega)
  refine s_catK (kq.at e12) upd_same (sz_of (Nat.add_le_add (cl _ _) (Nat.le_refl 1))) fun q3 H13 k13 e13 _ => ⟨_, rfl, _, rfl, _, rfl, s_cutK (.of (((k011.trans (k12.trans kq)).trans k13).at e10)) fun q4 H14 k14 e14 _ => ?_⟩
  refine s_catK (k14.at e13) e14 (sz_of (by rw [List.length_append]; exact Nat.add_le_add (Nat.add_le_add (cl _ _) (Nat.le_refl 1)) (cl _ _))) fun q5 H15 k15 e15 _ => s_tupL (.of e15) fun q6 hq6 => ?_
  have hl := cut_more (xs := rowV z n) (n := n) (v := .str "c") (by omega)
  refine .inl ⟨q6, _, rfl, upd_same, fun v m' => ?_, ?_, fun H17 k17 => ⟨_, _, rfl, rfl, ?_⟩⟩
  · rcases List.mem_append.mp m' with m' | m'
    · rcases List.mem_append.mp m' with m' | m'
      · exact row_ev hm hz v (mem_cutV m')
      · rw [List.mem_singleton.mp m']; exact ⟨by decide, by decide +kernel⟩
    · exact row_ev hm hz v (mem_cutV m')
  · rw [hl]; omega
  · have e : isRd (cutV (rowV z n) none (some (n : Int)) ++ [.str "c"] ++ cutV (rowV z n) (some (n : Int)) none) = false := by
      unfold isRd
      rw [hl, decide_eq_false (by omega)]
      rfl
    rw [e]
    exact k H17 (Keep.tabs ((((((k011.trans k12).trans kq).trans k13).trans k14).trans k15).trans ((Keep.new hq6).trans k17)) tb10)

set_option Elab.async false
set_option linter.all false
set_option maxRecDepth 100000
set_option maxHeartbeats 1000000
open PySem PySem.Spec PyProof.Rows L2 FR
theorem Bag.ext {K : PySem.W.Frag} {H H' : Hp} {b c : Addr} (B : Bag K H b c) (e : LamX.ExtN H H') : Bag K H' b c := by
  obtain ⟨ns, i, l, m, n, h, hs, r⟩ := B.ex
  exact ⟨ns, i, l, m, n, e _ _ h (fun _ q => nomatch q), e _ _ hs (fun _ q => nomatch q), r⟩
theorem KeepT.ext {H H' : Hp} (k : KeepT [] H H') : LamX.ExtN H H' := fun b o h n => k b o h n (fun z => nomatch z)
theorem evStrs {H : Hp} {l : List Str} (h : (l.all fun z => decide (z.length ≤ 100) && okS z) = true) : ∀ v ∈ l.map V.str, EV H v := fun v m => by
  obtain ⟨z, hz, rfl⟩ := List.mem_map.mp m
  have := Bool.and_eq_true_iff.mp (List.all_eq_true.mp h z hz)
  exact ⟨of_decide_eq_true this.1, this.2⟩
/-- what is no reading -/
def BadV (H : Hp) (v : V) : Prop := (v = .non ∨ v = .int 3 ∨ v = .str "a" ∨ v = .bl true) ∨ (∃ a xs, v = .ref a ∧ H a = some (.lst xs)) ∨ (∃ a xs, v = .ref a ∧ H a = some (.dK xs)) ∨
  (∃ a xs, v = .ref a ∧ H a = some (.tup xs) ∧ (∀ w ∈ xs, EV H w) ∧ xs.length ≤ 2 ∧ isRd xs = false)
theorem BadV.ext {H H' : Hp} (e : LamX.ExtN H H') {v : V} (h : BadV H v) : BadV H' v := by
  rcases h with h | ⟨a, xs, h, q⟩ | ⟨a, xs, h, q⟩ | ⟨a, xs, h, q, ev, l, r⟩
  · exact .inl h
  · exact .inr (.inl ⟨a, xs, h, e _ _ q fun _ q => nomatch q⟩)
  · exact .inr (.inr (.inl ⟨a, xs, h, e _ _ q fun _ q => nomatch q⟩))
  · exact .inr (.inr (.inr ⟨a, xs, h, (e _ _ q fun _ q => nomatch q), fun w m => EV.ext e (ev w m), l, r⟩))
def BadN (H : Hp) (v : V) : Prop := (v = .non ∨ v = .int 3 ∨ v = .str "a" ∨ v = .bl true) ∨ (∃ a xs, v = .ref a ∧ H a = some (.lst xs)) ∨ (∃ a xs, v = .ref a ∧ H a = some (.dK xs))
theorem BadN.ext {H H' : Hp} (e : LamX.ExtN H H') {v : V} (h : BadN H v) : BadN H' v := by
  rcases h with h | ⟨a, xs, h, q⟩ | ⟨a, xs, h, q⟩
  · exact .inl h
  · exact .inr (.inl ⟨a, xs, h, e _ _ q fun _ q => nomatch q⟩)
  · exact .inr (.inr ⟨a, xs, h, e _ _ q fun _ q => nomatch q⟩)
theorem BadN.ty {K : PySem.W.Frag} {H : Hp} {v : V} (h : BadN H v) : ∃ t, TyX K H v (.type t) ∧ kitB t "tuple" = some false := by
  rcases h with (rfl | rfl | rfl | rfl) | ⟨a, xs, rfl, q⟩ | ⟨a, xs, rfl, q⟩
  · exact ⟨_, .base .non, kNT⟩
  · exact ⟨_, .base (.int 3), kIT⟩
  · exact ⟨_, .base (.str "a"), kST⟩
  · exact ⟨_, .base (.bl true), kBT⟩
  · exact ⟨_, .base (.lst q), kLT⟩
  · exact ⟨_, .base (.dK q), kDT⟩
theorem BadV.no {H : Hp} {v : V} (h : BadV H v) : (∃ a xs, v = .ref a ∧ H a = some (.tup xs) ∧ (∀ w ∈ xs, EV H w) ∧ xs.length ≤ 100000 ∧ isRd xs = false) ∨ BadN H v := by
  rcases h with h | h | h | ⟨a, xs, h, q, ev, l, r⟩
  · exact .inr (.inl h)
  · exact .inr (.inr (.inl h))
  · exact .inr (.inr (.inr h))
  · exact .inl ⟨a, xs, h, q, ev, by omega, r⟩
theorem NewRow.ne {H H' : Hp} {p a : Addr} {m : Nat} {o : HO} (n : NewRow H H' p m) (h : H a = some o) : p ≠ a := fun q => by
  have := n.1
  rw [q, h] at this
  cases this
theorem Bag.cc {K : PySem.W.Frag} {H : Hp} {b c : Addr} (B : Bag K H b c) : ∃ xs, H c = some (.lst xs) := by
  obtain ⟨ns, i, l, m, n, h, hs, r⟩ := B.ex
  exact ⟨_, hs⟩
theorem p_law {M : Pm} (vs : List V) (H : Hp) (Q : VK) (E : XK) (h : sp_law M vs H Q E) : t_law M { nx := fun _ H' => Q .non H', rt := Q } (L2.start ["script", "bag", "known", "lap", "strings", "turn", "odd"] vs) H := by
  obtain ⟨a, ns, rfl, ha, hn, tb, k⟩ := h
  walk_at "t_law"
  refine ⟨_, rfl, a, ns, rfl, ha, hn, fun H1 b c hb k1 B1 => ⟨by show 9 ≤ sizeLine; decide, fun t ht => ?_⟩⟩
  have k2 : Keep [] H1 (upd H1 t (.tup [.str "<m", .str "a", .str "<n", .str ">n", .str "b", .str ">m", .str "<m", .str ">m", .str "c"])) := Keep.new ht
  have et : (upd H1 t (.tup [.str "<m", .str "a", .str "<n", .str ">n", .str "b", .str ">m", .str "<m", .str ">m", .str "c"])) t = some (.tup [.str "<m", .str "a", .str "<n", .str ">n", .str "b", .str ">m", .str "<m", .str ">m", .str "c"]) := upd_same
  have B2 : Bag M.K (upd H1 t (.tup [.str "<m", .str "a", .str "<n", .str ">n", .str "b", .str ">m", .str "<m", .str ">m", .str "c"])) b c := B1.new ht
  have tb2 := Keep.tabs (k1.trans k2) tb
  have hn1 : noL (.tuple (spRun [.str "<m", .str "a", .str "<n", .str ">n", .str "b", .str ">m", .str "<m", .str ">m", .str "c"]).1) = true := sp_noL _
  have evk : ∀ H' : Hp, ∀ v ∈ ([.str "<m", .str "a", .str "<n", .str ">n", .str "b", .str ">m", .str "<m", .str ">m", .str "c"] : List V), EV H' v := fun H' =>
    evStrs (l := ["<m", "a", "<n", ">n", "b", ">m", "<m", ">m", "c"]) (by decide +kernel)
  have rk : isRd [.str "<m", .str "a", .str "<n", .str ">n", .str "b", .str ">m", .str "<m", .str ">m", .str "c"] = true := by decide +kernel
  generalize upd H1 t (.tup [.str "<m", .str "a", .str "<n", .str ">n", .str "b", .str ">m", .str "<m", .str ">m", .str "c"]) = H2 at *
  refine ⟨_, rfl, .inl ⟨t, _, rfl, et, evk _, by show 9 ≤ 100000; decide, fun _ H3 p k3 hd => ?_, fun q => absurd (q.symm.trans rk) Bool.false_ne_true⟩⟩
  refine ⟨by show 3 ≤ sizeLine; decide, fun q1 h1 => ⟨by show 3 ≤ sizeLine; decide, fun q2 h2 => ⟨by show 3 ≤ sizeLine; decide, fun q3 h3 => ⟨by show 3 ≤ sizeLine; decide, fun q4 h4 => ?_⟩⟩⟩⟩
  have kq1 : Keep [] H3 (upd H3 q1 (.tup [.str "n", .int 1, .int 1])) := Keep.new h1
  have kq2 : Keep [] _ (upd (upd H3 q1 (.tup [.str "n", .int 1, .int 1])) q2 (.tup [.str "m", .int 0, .int 2])) := Keep.new h2
  have kq3 : Keep [] _ (upd (upd (upd H3 q1 (.tup [.str "n", .int 1, .int 1])) q2 (.tup [.str "m", .int 0, .int 2])) q3 (.tup [.str "m", .int 2, .int 2])) := Keep.new h3
  have kq4 : Keep [] _ (upd (upd (upd (upd H3 q1 (.tup [.str "n", .int 1, .int 1])) q2 (.tup [.str "m", .int 0, .int 2])) q3 (.tup [.str "m", .int 2, .int 2])) q4 (.tup [.ref q1, .ref q2, .ref q3])) := Keep.new h4
  have eq1 := ((kq2.trans kq3).trans kq4).at (upd_same (H := H3) (a := q1))
  have eq2 := (kq3.trans kq4).at (upd_same (a := q2))
  have eq3 := kq4.at (upd_same (a := q3))
  have eq4 : (upd (upd (upd (upd H3 q1 (.tup [.str "n", .int 1, .int 1])) q2 (.tup [.str "m", .int 0, .int 2])) q3 (.tup [.str "m", .int 2, .int 2])) q4 (.tup [.ref q1, .ref q2, .ref q3])) q4 = _ := upd_same
  have kq := ((kq1.trans kq2).trans kq3).trans kq4
  clear kq1 kq2 kq3 kq4 h2 h3 h4
  generalize (upd (upd (upd (upd H3 q1 (.tup [.str "n", .int 1, .int 1])) q2 (.tup [.str "m", .int 0, .int 2])) q3 (.tup [.str "m", .int 2, .int 2])) q4 (.tup [.ref q1, .ref q2, .ref q3])) = H4 at *
  refine ⟨_, .tuple [.tuple [.str "n", .int 1, .int 1], .tuple [.str "m", .int 0, .int 2], .tuple [.str "m", .int 2, .int 2]], Dp.tk (kq.tk fun _ m => nomatch m) _ _ hn1 hd,
    .tup (.of eq4) (.cons (.tup (.of eq1) (.cons (.str _) (.cons (.int _) (.cons (.int _) .nil)))) (.cons (.tup (.of eq2) (.cons (.str _) (.cons (.int _) (.cons (.int _) .nil)))) (.cons (.tup (.of eq3) (.cons (.str _) (.cons (.int _) (.cons (.int _) .nil)))) .nil))),
    by decide +kernel, by decide +kernel, _, rfl, if0 (by decide +kernel) ?_⟩
  refine ⟨_, rfl, t, _, rfl, (k3.trans kq).at et, evk _, by show 9 ≤ 100000; decide, fun _ H5 k5 => ⟨rfl, _, rfl, if0 (by decide +kernel) ?_⟩, fun q => absurd (q.symm.trans rk) Bool.false_ne_true⟩
  refine ⟨by show 0 ≤ sizeLine; decide, fun p1 hp1 => .inl ⟨p1, [], rfl, upd_same, (fun _ m => nomatch m), by show 0 ≤ 100000; decide, fun H6 k6 => ⟨_, _, rfl, rfl, _, rfl, if0 (by decide +kernel) ?_⟩⟩⟩
  refine ⟨by show 4 ≤ sizeLine; decide, fun p2 hp2 => .inl ⟨p2, _, rfl, upd_same, evStrs (l := ["<m", "<n", ">m", ">n"]) (by decide +kernel), by show 4 ≤ 100000; decide, fun H7 k7 => ⟨_, _, rfl, rfl, _, rfl, if0 (by decide +kernel) ?_⟩⟩⟩
  refine ⟨by show 1 ≤ sizeLine; decide, fun p3 hp3 => .inr ⟨_, "list", rfl, .base (.lst upd_same), kLT, fun H8 k8 => ⟨_, _, rfl, rfl, _, rfl, if0 rfl ?_⟩⟩⟩
  refine .inr ⟨_, "str", rfl, .base (.str _), kST, fun H9 k9 => ⟨_, _, rfl, rfl, _, rfl, if0 rfl ?_⟩⟩
  have kk : Keep [] H2 H9 := (((((((((k3.trans kq).trans k5).trans (Keep.new hp1)).trans k6).trans (Keep.new hp2)).trans k7).trans (Keep.new hp3)).trans k8).trans k9)
  have tb9 := Keep.tabs kk tb2
  have B9 : Bag M.K H9 b c := B2.keep kk (fun z => nomatch z) (fun z => nomatch z)
  clear B2 tb2 kk k9 k8 k7 k6 k5 kq hp1 hp2 hp3 h1 eq1 eq2 eq3 eq4 hd k3 k2 ht et rk evk B1 k1
  refine ⟨_, rfl, by decide, by decide, for_range (lo := 0) (n := 5)
    (fun i σ H' => ∃ (v3 v4 v5 : Option V), σ = [some (.ref a), some (.ref b), some (.ref t), v3, v4, v5, none] ∧ Bag M.K H' b c ∧ LamX.Tabs M.tabs H') ⟨none, none, none, rfl, B9, tb9⟩ ?_ ?_⟩
  · rintro i σ Ha hi ⟨v3, v4, v5, rfl, Ba, tba⟩
    walk_at "t_law_4l"
    refine ⟨_, rfl, b, c, 20, rfl, Ba, by decide, by decide, fun Hb s kb Bb nr => ?_⟩
    have sb : s ≠ b := nr.ne Ba.lst.choose_spec
    have sc : s ≠ c := nr.ne Ba.cc.choose_spec
    obtain ⟨hs, xs, es, ev, ln⟩ := nr
    refine ⟨_, rfl, s, xs, rfl, es, ev, by omega, Ba.tabs kb tba, fun Hc kc tbc => ⟨_, rfl, if0 rfl ?_⟩⟩
    have kc := KeepT.ext kc
    have ec := kc _ _ es fun _ q => nomatch q
    refine ⟨_, rfl, .inr ⟨_, "list", rfl, .base (.lst ec), kLT, fun Hd kd => ⟨_, _, rfl, rfl, _, rfl, if0 rfl ?_⟩⟩⟩
    refine ⟨_, rfl, by decide, by decide, for_range (lo := 0) (n := 2)
      (fun j σ H' => ∃ (v5 : Option V) (s : Addr) (xs : List V), σ = [some (.ref a), some (.ref b), some (.ref t), some (.int (0 + (i : Nat))), some (.ref s), v5, none] ∧ Bag M.K H' b c ∧ LamX.Tabs M.tabs H' ∧ H' s = some (.lst xs) ∧ s ≠ b ∧ s ≠ c ∧ (∀ v ∈ xs, EV H' v) ∧
        ((j = 0 ∧ xs.length ≤ 200) ∨ (j = 1 ∧ xs.length ≤ 801) ∨ 2 ≤ j)) ⟨_, s, xs, rfl, (Bb.ext kc).keep kd (fun z => nomatch z) (fun z => nomatch z), Keep.tabs kd tbc, kd.at ec, sb, sc, fun v m => EV.ext (kc.trans (Keep.ext kd)) (ev v m), .inl ⟨rfl, ln⟩⟩ ?_ ?_⟩
    · rintro j σ He hj ⟨w5, s', ys, rfl, Be, tbe, ese, sb', sc', eve, le⟩
      walk_at "t_law_4l_2l"
      refine ⟨_, rfl, _, rfl, b, c, s', ys, rfl, sb', sc', Be, ese, eve, by omega, fun Hf p' kf Bf nr => ?_⟩
      have sb2 : p' ≠ b := nr.ne Be.lst.choose_spec
      have sc2 : p' ≠ c := nr.ne Be.cc.choose_spec
      obtain ⟨hp', zs, ez, evz, lz⟩ := nr
      refine ⟨_, rfl, p', zs, rfl, ez, evz, by omega, Be.tabs kf tbe, fun Hg kg0 tbg => ⟨_, rfl, if0 rfl ?_⟩⟩
      have kg := KeepT.ext kg0
      exact ⟨_, p', zs, rfl, Bf.ext kg, tbg, (kg _ _ ez fun _ q => nomatch q), sb2, sc2, fun v m => EV.ext kg (evz v m), by omega⟩
    · rintro σ He ⟨w5, s', ys, rfl, Be, tbe, _⟩
      exact ⟨_, _, _, rfl, Be, tbe⟩
  · rintro σ H0 ⟨v3, v4, v5, rfl, B0, tb0⟩
    walk_at "rd"
    refine ⟨_, rfl, by show 1 ≤ sizeLine; decide, fun p1 h1 p2 h2 => ?_⟩
    have kA : Keep [] H0 (upd H0 p1 (.lst [.str "a"])) := Keep.new h1
    have eA : (upd H0 p1 (.lst [.str "a"])) p1 = some (.lst [.str "a"]) := upd_same
    have BA : Bag M.K (upd H0 p1 (.lst [.str "a"])) b c := B0.new h1
    have n1 : p1 ∉ [b] := B0.notin h1
    generalize upd H0 p1 (.lst [.str "a"]) = HA at *
    refine ⟨upd_same, [(.inr "a", .int 1)], rfl, by decide, by show 1 ≤ sizeLine; decide, fun p3 h3 => ⟨by show 1 ≤ sizeLine; decide, fun p4 h4 => ⟨by show 1 ≤ sizeLine; decide, fun p5 h5 => ⟨by show 2 ≤ sizeLine; decide, fun p6 h6 => ⟨by show 9 ≤ sizeLine; decide, fun p7 h7 => ?_⟩⟩⟩⟩⟩
    have n2 : p2 ∉ [b] := BA.notin h2
    have kB : Keep [] HA (upd (upd HA p2 (.dK [])) p2 (.dK (mergeK [] [(.inr "a", .int 1)]))) := (Keep.new h2).own h2
    have eB : (upd (upd HA p2 (.dK [])) p2 (.dK (mergeK [] [(.inr "a", .int 1)]))) p2 = _ := upd_same
    have BB : Bag M.K (upd (upd HA p2 (.dK [])) p2 (.dK (mergeK [] [(.inr "a", .int 1)]))) b c := (BA.new h2).upd BA h2
    generalize upd (upd HA p2 (.dK [])) p2 (.dK (mergeK [] [(.inr "a", .int 1)])) = HB at *
    have n3 : p3 ∉ [b] := BB.notin h3
    have kC : Keep [] HB (upd HB p3 (.tup [.str "a"])) := Keep.new h3
    have eC : (upd HB p3 (.tup [.str "a"])) p3 = _ := upd_same
    have BC : Bag M.K (upd HB p3 (.tup [.str "a"])) b c := BB.new h3
    generalize upd HB p3 (.tup [.str "a"]) = HC at *
    have n4 : p4 ∉ [b] := BC.notin h4
    have kD : Keep [] HC (upd HC p4 (.tup [.ref p3])) := Keep.new h4
    have eD : (upd HC p4 (.tup [.ref p3])) p4 = _ := upd_same
    have BD : Bag M.K (upd HC p4 (.tup [.ref p3])) b c := BC.new h4
    generalize upd HC p4 (.tup [.ref p3]) = HD at *
    have n5 : p5 ∉ [b] := BD.notin h5
    have kE : Keep [] HD (upd HD p5 (.tup [.non])) := Keep.new h5
    have eE : (upd HD p5 (.tup [.non])) p5 = _ := upd_same
    have BE : Bag M.K (upd HD p5 (.tup [.non])) b c := BD.new h5
    generalize upd HD p5 (.tup [.non]) = HE at *
    have n6 : p6 ∉ [b] := BE.notin h6
    have kF : Keep [] HE (upd HE p6 (.tup [.str "a", .int 1])) := Keep.new h6
    have eF : (upd HE p6 (.tup [.str "a", .int 1])) p6 = _ := upd_same
    have BF : Bag M.K (upd HE p6 (.tup [.str "a", .int 1])) b c := BE.new h6
    generalize upd HE p6 (.tup [.str "a", .int 1]) = HF at *
    have p7b : p7 ≠ b := fun q => BF.notin h7 (by rw [q]; simp)
    have kG : Keep [] HF (upd HF p7 (.lst [.non, .int 3, .str "a", .ref p1, .ref p2, .bl true, .ref p4, .ref p5, .ref p6])) := Keep.new h7
    have eG : (upd HF p7 (.lst [.non, .int 3, .str "a", .ref p1, .ref p2, .bl true, .ref p4, .ref p5, .ref p6])) p7 = some (.lst [.non, .int 3, .str "a", .ref p1, .ref p2, .bl true, .ref p4, .ref p5, .ref p6]) := upd_same
    have BG : Bag M.K (upd HF p7 (.lst [.non, .int 3, .str "a", .ref p1, .ref p2, .bl true, .ref p4, .ref p5, .ref p6])) b c := BF.new h7
    generalize upd HF p7 (.lst [.non, .int 3, .str "a", .ref p1, .ref p2, .bl true, .ref p4, .ref p5, .ref p6]) = HG at *
    have k6 := kF.trans kG
    have k5 := kE.trans k6
    have k4 := kD.trans k5
    have k3 := kC.trans k4
    have k2 := kB.trans k3
    have tbG := Keep.tabs (kA.trans k2) tb0
    refine ⟨b, c, .ref p7, _, rfl, BG, by show 1 ≤ 9; decide, by show 9 ≤ 1000000; decide, .inl ⟨p7, rfl, p7b, eG⟩, fun HH v m kH BH => ?_⟩
    have tbH := BG.tabs kH tbG
    have bad : ∀ v ∈ ([.non, .int 3, .str "a", .ref p1, .ref p2, .bl true, .ref p4, .ref p5, .ref p6] : List V), BadV HH v := fun v m => by
      simp only [List.mem_cons, List.not_mem_nil, or_false] at m
      rcases m with rfl | rfl | rfl | rfl | rfl | rfl | rfl | rfl | rfl
      · exact .inl (.inl rfl)
      · exact .inl (.inr (.inl rfl))
      · exact .inl (.inr (.inr (.inl rfl)))
      · exact .inr (.inl ⟨_, _, rfl, (k2.of0.trans kH).at eA n1⟩)
      · exact .inr (.inr (.inl ⟨_, _, rfl, (k3.of0.trans kH).at eB n2⟩))
      · exact .inl (.inr (.inr (.inr rfl)))
      · refine .inr (.inr (.inr ⟨_, _, rfl, (k5.of0.trans kH).at eD n4, fun w m => ?_, by show 1 ≤ 2; decide, rfl⟩))
        rw [List.mem_singleton.mp m]
        exact ⟨_, (k4.of0.trans kH).at eC n3⟩
      · refine .inr (.inr (.inr ⟨_, _, rfl, (k6.of0.trans kH).at eE n5, fun w m => ?_, by show 1 ≤ 2; decide, rfl⟩))
        rw [List.mem_singleton.mp m]
        exact True.intro
      · refine .inr (.inr (.inr ⟨_, _, rfl, (kG.of0.trans kH).at eF n6, fun w m => ?_, by show 2 ≤ 2; decide, by decide +kernel⟩))
        simp only [List.mem_cons, List.not_mem_nil, or_false] at m
        rcases m with rfl | rfl
        · exact ⟨by decide, by decide +kernel⟩
        · exact True.intro
    have bH := bad v m
    rcases bH.no with ⟨a', ys, rfl, e', ev', l', r'⟩ | bN
    · refine ⟨_, rfl, .inl ⟨a', ys, rfl, e', ev', l', fun HI kI => ⟨_, _, rfl, rfl, ?_⟩⟩⟩
      rw [r']
      refine ⟨_, rfl, if0 rfl ?_⟩
      dsimp only [LamX.tLam, TT_law_error]
      refine ⟨Keep.tabs kI tbH, fun HJ eJ tbJ => ⟨_, rfl, .inl ⟨a', ys, rfl, eJ _ _ (kI.at e') (fun _ q => nomatch q), fun w m => EV.ext ((Keep.ext kI).trans eJ) (ev' w m), l', fun q => absurd (r'.symm.trans q) Bool.false_ne_true, fun _ HK kK => ⟨rfl, rfl, rfl, _, rfl, if0 (by decide +kernel) ?_⟩⟩⟩⟩
      refine ⟨_, rfl, b, c, rfl, ((BH.keep kI (fun z => nomatch z) (fun z => nomatch z)).ext eJ).keep kK (fun z => nomatch z) (fun z => nomatch z), Keep.tabs kK tbJ, fun HL _ => k HL⟩
    · obtain ⟨ty, hty, hk⟩ := bN.ty (K := M.K)
      refine ⟨_, rfl, .inr ⟨v, ty, rfl, hty, hk, fun HI kI => ⟨_, _, rfl, rfl, _, rfl, if0 rfl ?_⟩⟩⟩
      dsimp only [LamX.tLam, TT_law_error]
      refine ⟨Keep.tabs kI tbH, fun HJ eJ tbJ => ⟨_, rfl, .inr ⟨v, ?_⟩⟩⟩
      obtain ⟨ty', hty', hk'⟩ := (bN.ext ((Keep.ext kI).trans eJ)).ty (K := M.K)
      refine ⟨ty', rfl, hty', hk', fun HK kK => ⟨rfl, rfl, rfl, _, rfl, if0 (by decide +kernel) ?_⟩⟩
      refine ⟨_, rfl, b, c, rfl, ((BH.keep kI (fun z => nomatch z) (fun z => nomatch z)).ext eJ).keep kK (fun z => nomatch z) (fun z => nomatch z), Keep.tabs kK tbJ, fun HL _ => k HL⟩

set_option Elab.async false
set_option linter.all false
set_option maxRecDepth 100000
set_option maxHeartbeats 4000000
open PySem PySem.Spec PyProof.Rows L2 FR
section
theorem len_is_mark (M : Pm) : ∀ vs H Q E, sp_is_mark M vs H Q E → vs.length = (["thing"] : List Str).length := fun vs H Q E h => by
  have h : sp_is_mark M vs H Q E := h
  unfold sp_is_mark at h
  first | (rcases h with ⟨_, rfl, _⟩; rfl; done) | (rcases h with ⟨_, _, rfl, _⟩; rfl; done) | (rcases h with ⟨_, _, _, rfl, _⟩; rfl; done) | (rcases h with ⟨_, _, _, _, rfl, _⟩; rfl; done) | (rcases h with ⟨_, _, rfl, _⟩ | ⟨_, _, rfl, _⟩ <;> rfl; done) | (rcases h with ⟨_, _, _, rfl, _⟩ | ⟨_, _, rfl, _⟩ <;> rfl; done)
theorem len_is_reading (M : Pm) : ∀ vs H Q E, sp_is_reading M vs H Q E → vs.length = (["thing"] : List Str).length := fun vs H Q E h => by
  have h : sp_is_reading M vs H Q E := h
  unfold sp_is_reading at h
  first | (rcases h with ⟨_, rfl, _⟩; rfl; done) | (rcases h with ⟨_, _, rfl, _⟩; rfl; done) | (rcases h with ⟨_, _, _, rfl, _⟩; rfl; done) | (rcases h with ⟨_, _, _, _, rfl, _⟩; rfl; done) | (rcases h with ⟨_, _, rfl, _⟩ | ⟨_, _, rfl, _⟩ <;> rfl; done) | (rcases h with ⟨_, _, _, rfl, _⟩ | ⟨_, _, rfl, _⟩ <;> rfl; done)
theorem len_check_reading (M : Pm) : ∀ vs H Q E, sp_check_reading M vs H Q E → vs.length = (["thing"] : List Str).length := fun vs H Q E h => by
  have h : sp_check_reading M vs H Q E := h
  unfold sp_check_reading at h
  first | (rcases h with ⟨_, rfl, _⟩; rfl; done) | (rcases h with ⟨_, _, rfl, _⟩; rfl; done) | (rcases h with ⟨_, _, _, rfl, _⟩; rfl; done) | (rcases h with ⟨_, _, _, _, rfl, _⟩; rfl; done) | (rcases h with ⟨_, _, rfl, _⟩ | ⟨_, _, rfl, _⟩ <;> rfl; done) | (rcases h with ⟨_, _, _, rfl, _⟩ | ⟨_, _, rfl, _⟩ <;> rfl; done)
theorem len_raw_spans (M : Pm) : ∀ vs H Q E, sp_raw_spans M vs H Q E → vs.length = (["reading"] : List Str).length := fun vs H Q E h => by
  have h : sp_raw_spans M vs H Q E := h
  unfold sp_raw_spans at h
  first | (rcases h with ⟨_, rfl, _⟩; rfl; done) | (rcases h with ⟨_, _, rfl, _⟩; rfl; done) | (rcases h with ⟨_, _, _, rfl, _⟩; rfl; done) | (rcases h with ⟨_, _, _, _, rfl, _⟩; rfl; done) | (rcases h with ⟨_, _, rfl, _⟩ | ⟨_, _, rfl, _⟩ <;> rfl; done) | (rcases h with ⟨_, _, _, rfl, _⟩ | ⟨_, _, rfl, _⟩ <;> rfl; done)
theorem len_spans (M : Pm) : ∀ vs H Q E, sp_spans M vs H Q E → vs.length = (["reading"] : List Str).length := fun vs H Q E h => by
  have h : sp_spans M vs H Q E := h
  unfold sp_spans at h
  first | (rcases h with ⟨_, rfl, _⟩; rfl; done) | (rcases h with ⟨_, _, rfl, _⟩; rfl; done) | (rcases h with ⟨_, _, _, rfl, _⟩; rfl; done) | (rcases h with ⟨_, _, _, _, rfl, _⟩; rfl; done) | (rcases h with ⟨_, _, rfl, _⟩ | ⟨_, _, rfl, _⟩ <;> rfl; done) | (rcases h with ⟨_, _, _, rfl, _⟩ | ⟨_, _, rfl, _⟩ <;> rfl; done)
theorem len_raw_text_of (M : Pm) : ∀ vs H Q E, sp_raw_text_of M vs H Q E → vs.length = (["reading"] : List Str).length := fun vs H Q E h => by
  have h : sp_raw_text_of M vs H Q E := h
  unfold sp_raw_text_of at h
  first | (rcases h with ⟨_, rfl, _⟩; rfl; done) | (rcases h with ⟨_, _, rfl, _⟩; rfl; done) | (rcases h with ⟨_, _, _, rfl, _⟩; rfl; done) | (rcases h with ⟨_, _, _, _, rfl, _⟩; rfl; done) | (rcases h with ⟨_, _, rfl, _⟩ | ⟨_, _, rfl, _⟩ <;> rfl; done) | (rcases h with ⟨_, _, _, rfl, _⟩ | ⟨_, _, rfl, _⟩ <;> rfl; done)
theorem len_text_of (M : Pm) : ∀ vs H Q E, sp_text_of M vs H Q E → vs.length = (["reading"] : List Str).length := fun vs H Q E h => by
  have h : sp_text_of M vs H Q E := h
  unfold sp_text_of at h
  first | (rcases h with ⟨_, rfl, _⟩; rfl; done) | (rcases h with ⟨_, _, rfl, _⟩; rfl; done) | (rcases h with ⟨_, _, _, rfl, _⟩; rfl; done) | (rcases h with ⟨_, _, _, _, rfl, _⟩; rfl; done) | (rcases h with ⟨_, _, rfl, _⟩ | ⟨_, _, rfl, _⟩ <;> rfl; done) | (rcases h with ⟨_, _, _, rfl, _⟩ | ⟨_, _, rfl, _⟩ <;> rfl; done)
theorem len_law_bag (M : Pm) : ∀ vs H Q E, sp_law_bag M vs H Q E → vs.length = (["script"] : List Str).length := fun vs H Q E h => by
  have h : sp_law_bag M vs H Q E := h
  unfold sp_law_bag at h
  first | (rcases h with ⟨_, rfl, _⟩; rfl; done) | (rcases h with ⟨_, _, rfl, _⟩; rfl; done) | (rcases h with ⟨_, _, _, rfl, _⟩; rfl; done) | (rcases h with ⟨_, _, _, _, rfl, _⟩; rfl; done) | (rcases h with ⟨_, _, rfl, _⟩ | ⟨_, _, rfl, _⟩ <;> rfl; done) | (rcases h with ⟨_, _, _, rfl, _⟩ | ⟨_, _, rfl, _⟩ <;> rfl; done)
theorem len_law_pick (M : Pm) : ∀ vs H Q E, sp_law_pick M vs H Q E → vs.length = (["bag", "width"] : List Str).length := fun vs H Q E h => by
  have h : sp_law_pick M vs H Q E := h
  unfold sp_law_pick at h
  first | (rcases h with ⟨_, rfl, _⟩; rfl; done) | (rcases h with ⟨_, _, rfl, _⟩; rfl; done) | (rcases h with ⟨_, _, _, rfl, _⟩; rfl; done) | (rcases h with ⟨_, _, _, _, rfl, _⟩; rfl; done) | (rcases h with ⟨_, _, rfl, _⟩ | ⟨_, _, rfl, _⟩ <;> rfl; done) | (rcases h with ⟨_, _, _, rfl, _⟩ | ⟨_, _, rfl, _⟩ <;> rfl; done)
theorem len_law_some (M : Pm) : ∀ vs H Q E, sp_law_some M vs H Q E → vs.length = (["bag", "things"] : List Str).length := fun vs H Q E h => by
  have h : sp_law_some M vs H Q E := h
  unfold sp_law_some at h
  first | (rcases h with ⟨_, rfl, _⟩; rfl; done) | (rcases h with ⟨_, _, rfl, _⟩; rfl; done) | (rcases h with ⟨_, _, _, rfl, _⟩; rfl; done) | (rcases h with ⟨_, _, _, _, rfl, _⟩; rfl; done) | (rcases h with ⟨_, _, rfl, _⟩ | ⟨_, _, rfl, _⟩ <;> rfl; done) | (rcases h with ⟨_, _, _, rfl, _⟩ | ⟨_, _, rfl, _⟩ <;> rfl; done)
theorem len_law_mark (M : Pm) : ∀ vs H Q E, sp_law_mark M vs H Q E → vs.length = (["bag"] : List Str).length := fun vs H Q E h => by
  have h : sp_law_mark M vs H Q E := h
  unfold sp_law_mark at h
  first | (rcases h with ⟨_, rfl, _⟩; rfl; done) | (rcases h with ⟨_, _, rfl, _⟩; rfl; done) | (rcases h with ⟨_, _, _, rfl, _⟩; rfl; done) | (rcases h with ⟨_, _, _, _, rfl, _⟩; rfl; done) | (rcases h with ⟨_, _, rfl, _⟩ | ⟨_, _, rfl, _⟩ <;> rfl; done) | (rcases h with ⟨_, _, _, rfl, _⟩ | ⟨_, _, rfl, _⟩ <;> rfl; done)
theorem len_law_drawn (M : Pm) : ∀ vs H Q E, sp_law_drawn M vs H Q E → vs.length = (["bag", "many"] : List Str).length := fun vs H Q E h => by
  have h : sp_law_drawn M vs H Q E := h
  unfold sp_law_drawn at h
  first | (rcases h with ⟨_, rfl, _⟩; rfl; done) | (rcases h with ⟨_, _, rfl, _⟩; rfl; done) | (rcases h with ⟨_, _, _, rfl, _⟩; rfl; done) | (rcases h with ⟨_, _, _, _, rfl, _⟩; rfl; done) | (rcases h with ⟨_, _, rfl, _⟩ | ⟨_, _, rfl, _⟩ <;> rfl; done) | (rcases h with ⟨_, _, _, rfl, _⟩ | ⟨_, _, rfl, _⟩ <;> rfl; done)
theorem len_law_is_right (M : Pm) : ∀ vs H Q E, sp_law_is_right M vs H Q E → vs.length = (["strings"] : List Str).length := fun vs H Q E h => by
  have h : sp_law_is_right M vs H Q E := h
  unfold sp_law_is_right at h
  first | (rcases h with ⟨_, rfl, _⟩; rfl; done) | (rcases h with ⟨_, _, rfl, _⟩; rfl; done) | (rcases h with ⟨_, _, _, rfl, _⟩; rfl; done) | (rcases h with ⟨_, _, _, _, rfl, _⟩; rfl; done) | (rcases h with ⟨_, _, rfl, _⟩ | ⟨_, _, rfl, _⟩ <;> rfl; done) | (rcases h with ⟨_, _, _, rfl, _⟩ | ⟨_, _, rfl, _⟩ <;> rfl; done)
theorem len_law_spans (M : Pm) : ∀ vs H Q E, sp_law_spans M vs H Q E → vs.length = (["strings"] : List Str).length := fun vs H Q E h => by
  have h : sp_law_spans M vs H Q E := h
  unfold sp_law_spans at h
  first | (rcases h with ⟨_, rfl, _⟩; rfl; done) | (rcases h with ⟨_, _, rfl, _⟩; rfl; done) | (rcases h with ⟨_, _, _, rfl, _⟩; rfl; done) | (rcases h with ⟨_, _, _, _, rfl, _⟩; rfl; done) | (rcases h with ⟨_, _, rfl, _⟩ | ⟨_, _, rfl, _⟩ <;> rfl; done) | (rcases h with ⟨_, _, _, rfl, _⟩ | ⟨_, _, rfl, _⟩ <;> rfl; done)
theorem len_law_is_told_right (M : Pm) : ∀ vs H Q E, sp_law_is_told_right M vs H Q E → vs.length = (["strings"] : List Str).length := fun vs H Q E h => by
  have h : sp_law_is_told_right M vs H Q E := h
  unfold sp_law_is_told_right at h
  first | (rcases h with ⟨_, rfl, _⟩; rfl; done) | (rcases h with ⟨_, _, rfl, _⟩; rfl; done) | (rcases h with ⟨_, _, _, rfl, _⟩; rfl; done) | (rcases h with ⟨_, _, _, _, rfl, _⟩; rfl; done) | (rcases h with ⟨_, _, rfl, _⟩ | ⟨_, _, rfl, _⟩ <;> rfl; done) | (rcases h with ⟨_, _, _, rfl, _⟩ | ⟨_, _, rfl, _⟩ <;> rfl; done)
theorem len_law_changed (M : Pm) : ∀ vs H Q E, sp_law_changed M vs H Q E → vs.length = (["bag", "strings"] : List Str).length := fun vs H Q E h => by
  have h : sp_law_changed M vs H Q E := h
  unfold sp_law_changed at h
  first | (rcases h with ⟨_, rfl, _⟩; rfl; done) | (rcases h with ⟨_, _, rfl, _⟩; rfl; done) | (rcases h with ⟨_, _, _, rfl, _⟩; rfl; done) | (rcases h with ⟨_, _, _, _, rfl, _⟩; rfl; done) | (rcases h with ⟨_, _, rfl, _⟩ | ⟨_, _, rfl, _⟩ <;> rfl; done) | (rcases h with ⟨_, _, _, rfl, _⟩ | ⟨_, _, rfl, _⟩ <;> rfl; done)
theorem len_law_are_bounds_right (M : Pm) : ∀ vs H Q E, sp_law_are_bounds_right M vs H Q E → vs.length = (["bag"] : List Str).length := fun vs H Q E h => by
  have h : sp_law_are_bounds_right M vs H Q E := h
  unfold sp_law_are_bounds_right at h
  first | (rcases h with ⟨_, rfl, _⟩; rfl; done) | (rcases h with ⟨_, _, rfl, _⟩; rfl; done) | (rcases h with ⟨_, _, _, rfl, _⟩; rfl; done) | (rcases h with ⟨_, _, _, _, rfl, _⟩; rfl; done) | (rcases h with ⟨_, _, rfl, _⟩ | ⟨_, _, rfl, _⟩ <;> rfl; done) | (rcases h with ⟨_, _, _, rfl, _⟩ | ⟨_, _, rfl, _⟩ <;> rfl; done)
theorem len_law (M : Pm) : ∀ vs H Q E, sp_law M vs H Q E → vs.length = (["script"] : List Str).length := fun vs H Q E h => by
  have h : sp_law M vs H Q E := h
  unfold sp_law at h
  first | (rcases h with ⟨_, rfl, _⟩; rfl; done) | (rcases h with ⟨_, _, rfl, _⟩; rfl; done) | (rcases h with ⟨_, _, _, rfl, _⟩; rfl; done) | (rcases h with ⟨_, _, _, _, rfl, _⟩; rfl; done) | (rcases h with ⟨_, _, rfl, _⟩ | ⟨_, _, rfl, _⟩ <;> rfl; done) | (rcases h with ⟨_, _, _, rfl, _⟩ | ⟨_, _, rfl, _⟩ <;> rfl; done)
end
variable {P : Program} {w : World} {mg : Str → Option Value} {M : Pm}
theorem the_law {fa : Addr} {c_law_is_told_right P_law_is_told_right : Addr} {c_law P_law : Addr} (T : Tx M mg) (hfa : mg "law" = some (.ref fa)) (D_is_mark : DefIn M.K mg "is_mark" s_is_mark) (D_is_reading : DefIn M.K mg "is_reading" s_is_reading) (D_check_reading : DefIn M.K mg "check_reading" s_check_reading) (D_raw_spans : DefIn M.K mg "raw_spans" s_raw_spans) (D_spans : DefIn M.K mg "spans" s_spans) (D_raw_text_of : DefIn M.K mg "raw_text_of" s_raw_text_of) (D_text_of : DefIn M.K mg "text_of" s_text_of) (D_law_bag : DefIn M.K mg "_law_bag" s_law_bag) (D_law_pick : DefIn M.K mg "_law_pick" s_law_pick) (D_law_some : DefIn M.K mg "_law_some" s_law_some) (D_law_mark : DefIn M.K mg "_law_mark" s_law_mark) (D_law_drawn : DefIn M.K mg "_law_drawn" s_law_drawn) (D_law_is_right : DefIn M.K mg "_law_is_right" s_law_is_right) (D_law_spans : DefIn M.K mg "_law_spans" s_law_spans) (D_law_error : DefIn M.K mg "_law_error" s_law_error) (D_law_is_told_right : DefT M.K mg "_law_is_told_right" s_law_is_told_right c_law_is_told_right) (D_law_changed : DefIn M.K mg "_law_changed" s_law_changed) (D_law_are_bounds_right : DefIn M.K mg "_law_are_bounds_right" s_law_are_bounds_right) (D_law : DefT M.K mg "law" s_law c_law) (hm_law_is_told_right : (P_law_is_told_right, ("_law_is_told_right" : Str) ++ ".<locals>." ++ "<lambda>") ∈ M.tabs) (hu_law_is_told_right : ∀ p ∈ M.tabs, p.1 = P_law_is_told_right → p.2 = ("_law_is_told_right" : Str) ++ ".<locals>." ++ "<lambda>") (hm_law : (P_law, ("law" : Str) ++ ".<locals>." ++ "<lambda>") ∈ M.tabs) (hu_law : ∀ p ∈ M.tabs, p.1 = P_law → p.2 = ("law" : Str) ++ ".<locals>." ++ "<lambda>") :
    ∃ fd : FuncData, (∀ (s : Shared) (u : Value), BindsTo s fd ⟨[u], []⟩ [("script", u)]) ∧ ∀ base : Heap, (∀ p ∈ ([(c_law_is_told_right, P_law_is_told_right), (c_law, P_law)] : List (Addr × Addr)), LamX.TabB base mg p.1 p.2) → FnG P w M.K mg base CX0 12 fa fd ["script"] (sp_law M) := by
  obtain ⟨fd, h1, h2⟩ := D_law.law (P := P) (w := w) (k := 11) (N := ["script", "bag", "known", "lap", "strings", "turn", "odd"]) (sp := sp_law M) hfa sc_law (fun _ _ _ _ _ _ us hl => match us, hl with | [_], _ => rfl) (len_law M)
  refine ⟨fd, h1, fun base TB => h2 base ?_⟩
  have TB_law_is_told_right : LamX.TabB base mg c_law_is_told_right P_law_is_told_right := TB (c_law_is_told_right, P_law_is_told_right) (.head _)
  have TB_law : LamX.TabB base mg c_law P_law := TB (c_law, P_law) (.tail _ (.head _))
  have G_is_mark : Has P w M.K mg base CX0 "is_mark" 1 ["thing"] (sp_is_mark M) := D_is_mark.has (N := ["thing", "sign"]) sc_is_mark (fun _ _ _ _ _ _ us hl => match us, hl with | [_], _ => rfl) (len_is_mark M) (fun f cdv A outer s H vs Q E hr h => ⟨t_is_mark M, d_is_mark T hr, p_is_mark vs H Q E h⟩)
  have G_is_reading : Has P w M.K mg base CX0 "is_reading" 2 ["thing"] (sp_is_reading M) := D_is_reading.has (N := ["thing", "opened", "one"]) sc_is_reading (fun _ _ _ _ _ _ us hl => match us, hl with | [_], _ => rfl) (len_is_reading M) (fun f cdv A outer s H vs Q E hr h => ⟨t_is_reading M, d_is_reading T hr G_is_mark, p_is_reading vs H Q E h⟩)
  have G_check_reading : Has P w M.K mg base (L2.CX P w) "check_reading" 3 ["thing"] (sp_check_reading M) := D_check_reading.hasX (N := ["thing"]) sc_check_reading (fun _ _ _ _ _ _ us hl => match us, hl with | [_], _ => rfl) (len_check_reading M) (fun f cdv A outer s H vs Q E hr h => ⟨t_check_reading M E, d_check_reading T hr G_is_reading, p_check_reading vs H Q E h⟩)
  have G_raw_spans : Has P w M.K mg base CX0 "raw_spans" 1 ["reading"] (sp_raw_spans M) := D_raw_spans.has (N := ["reading", "found", "opened", "at", "one"]) sc_raw_spans (fun _ _ _ _ _ _ us hl => match us, hl with | [_], _ => rfl) (len_raw_spans M) (fun f cdv A outer s H vs Q E hr h => ⟨t_raw_spans M, d_raw_spans T hr, p_raw_spans vs H Q E h⟩)
  have G_spans : Has P w M.K mg base (L2.CX P w) "spans" 4 ["reading"] (sp_spans M) := D_spans.hasX (N := ["reading"]) sc_spans (fun _ _ _ _ _ _ us hl => match us, hl with | [_], _ => rfl) (len_spans M) (fun f cdv A outer s H vs Q E hr h => ⟨t_spans M E, d_spans T hr G_check_reading G_raw_spans, p_spans vs H Q E h⟩)
  have G_raw_text_of : Has P w M.K mg base CX0 "raw_text_of" 1 ["reading"] (sp_raw_text_of M) := D_raw_text_of.has (N := ["reading", "one"]) sc_raw_text_of (fun _ _ _ _ _ _ us hl => match us, hl with | [_], _ => rfl) (len_raw_text_of M) (fun f cdv A outer s H vs Q E hr h => ⟨t_raw_text_of M, d_raw_text_of T hr, p_raw_text_of vs H Q E h⟩)
  have G_text_of : Has P w M.K mg base (L2.CX P w) "text_of" 4 ["reading"] (sp_text_of M) := D_text_of.hasX (N := ["reading"]) sc_text_of (fun _ _ _ _ _ _ us hl => match us, hl with | [_], _ => rfl) (len_text_of M) (fun f cdv A outer s H vs Q E hr h => ⟨t_text_of M E, d_text_of T hr G_check_reading G_raw_text_of, p_text_of vs H Q E h⟩)
  have G__law_bag : Has P w M.K mg base CX0 "_law_bag" 1 ["script"] (sp_law_bag M) := D_law_bag.has (N := ["script", "cells", "cell"]) sc_law_bag (fun _ _ _ _ _ _ us hl => match us, hl with | [_], _ => rfl) (len_law_bag M) (fun f cdv A outer s H vs Q E hr h => ⟨t_law_bag M, d_law_bag T hr, p_law_bag vs H Q E h⟩)
  have G__law_pick : Has P w M.K mg base CX0 "_law_pick" 1 ["bag", "width"] (sp_law_pick M) := D_law_pick.has (N := ["bag", "width", "cell", "digit", "number"]) sc_law_pick (fun _ _ _ _ _ _ us hl => match us, hl with | [_, _], _ => rfl) (len_law_pick M) (fun f cdv A outer s H vs Q E hr h => ⟨t_law_pick M, d_law_pick T hr, p_law_pick vs H Q E h⟩)
  have G__law_some : Has P w M.K mg base CX0 "_law_some" 2 ["bag", "things"] (sp_law_some M) := D_law_some.has (N := ["bag", "things"]) sc_law_some (fun _ _ _ _ _ _ us hl => match us, hl with | [_, _], _ => rfl) (len_law_some M) (fun f cdv A outer s H vs Q E hr h => ⟨t_law_some M, d_law_some T hr G__law_pick, p_law_some vs H Q E h⟩)
  have G__law_mark : Has P w M.K mg base CX0 "_law_mark" 3 ["bag"] (sp_law_mark M) := D_law_mark.has (N := ["bag", "letters", "drawn", "turn"]) sc_law_mark (fun _ _ _ _ _ _ us hl => match us, hl with | [_], _ => rfl) (len_law_mark M) (fun f cdv A outer s H vs Q E hr h => ⟨t_law_mark M, d_law_mark T hr G__law_pick G__law_some, p_law_mark vs H Q E h⟩)
  have G__law_drawn : Has P w M.K mg base CX0 "_law_drawn" 4 ["bag", "many"] (sp_law_drawn M) := D_law_drawn.has (N := ["bag", "many", "found", "opened", "turn", "kind", "mark"]) sc_law_drawn (fun _ _ _ _ _ _ us hl => match us, hl with | [_, _], _ => rfl) (len_law_drawn M) (fun f cdv A outer s H vs Q E hr h => ⟨t_law_drawn M, d_law_drawn T hr G__law_mark G__law_pick G__law_some, p_law_drawn vs H Q E h⟩)
  have G__law_is_right : Has P w M.K mg base CX0 "_law_is_right" 1 ["strings"] (sp_law_is_right M) := D_law_is_right.has (N := ["strings", "opened", "string", "letters", "is_mark_v", "sign"]) sc_law_is_right (fun _ _ _ _ _ _ us hl => match us, hl with | [_], _ => rfl) (len_law_is_right M) (fun f cdv A outer s H vs Q E hr h => ⟨t_law_is_right M, d_law_is_right T hr, p_law_is_right vs H Q E h⟩)
  have G__law_spans : Has P w M.K mg base CX0 "_law_spans" 1 ["strings"] (sp_law_spans M) := D_law_spans.has (N := ["strings", "opened", "found", "many", "string"]) sc_law_spans (fun _ _ _ _ _ _ us hl => match us, hl with | [_], _ => rfl) (len_law_spans M) (fun f cdv A outer s H vs Q E hr h => ⟨t_law_spans M, d_law_spans T hr, p_law_spans vs H Q E h⟩)
  have G__law_error : HasL M.K mg "_law_error" "call" s_law_error ["call", "found", "error"] := D_law_error.hasL sc_law_error (fun _ _ _ _ _ _ us hl => match us, hl with | [_], _ => rfl) rfl (by first | exact Or.inl rfl | exact Or.inr rfl)
  have G__law_is_told_right : HasG P w M.K mg base CX0 "_law_is_told_right" 10 ["strings"] (sp_law_is_told_right M) := D_law_is_told_right.hasG (N := ["strings", "thing", "words", "string"]) sc_law_is_told_right (fun _ _ _ _ _ _ us hl => match us, hl with | [_], _ => rfl) (len_law_is_told_right M) (fun f A outer s H vs Q E hgd hr h => ⟨t_law_is_told_right M, d_law_is_told_right T hr hgd G__law_error G__law_is_right G__law_spans G_is_reading G_spans G_text_of (cT := c_law_is_told_right) (PT := P_law_is_told_right) TB_law_is_told_right rfl hm_law_is_told_right hu_law_is_told_right, p_law_is_told_right vs H Q E h⟩)
  have G__law_changed : Has P w M.K mg base CX0 "_law_changed" 3 ["bag", "strings"] (sp_law_changed M) := D_law_changed.has (N := ["bag", "strings", "odd", "at", "turn", "string"]) sc_law_changed (fun _ _ _ _ _ _ us hl => match us, hl with | [_, _], _ => rfl) (len_law_changed M) (fun f cdv A outer s H vs Q E hr h => ⟨t_law_changed M, d_law_changed T hr G__law_pick G__law_some, p_law_changed vs H Q E h⟩)
  have G__law_are_bounds_right : HasG P w M.K mg base CX0 "_law_are_bounds_right" 11 ["bag"] (sp_law_are_bounds_right M) := D_law_are_bounds_right.hasG (N := ["bag", "many", "mark", "row"]) sc_law_are_bounds_right (fun _ _ _ _ _ _ us hl => match us, hl with | [_], _ => rfl) (len_law_are_bounds_right M) (fun f cdv A outer s H vs Q E hgd hr h => ⟨t_law_are_bounds_right M, d_law_are_bounds_right T hr hgd G__law_is_told_right G__law_mark G__law_pick G_is_reading, p_law_are_bounds_right vs H Q E h⟩)
  exact fun f A outer s H vs Q E hgd hr h => ⟨t_law M, d_law T hr hgd G__law_are_bounds_right G__law_bag G__law_changed G__law_drawn G__law_error G__law_is_told_right G__law_some G_is_reading G_spans G_text_of (cT := c_law) (PT := P_law) TB_law rfl hm_law hu_law, p_law vs H Q E h⟩
/-! ### the row -/
def clsOf (C_NoReading C_ReadError : Addr) : Str → Addr := fun x => if x == ("NoReading" : Str) then C_NoReading else C_ReadError
theorem cls_NoReading {C_NoReading C_ReadError : Addr} : clsOf C_NoReading C_ReadError "NoReading" = C_NoReading := if_pos (by decide +kernel)
theorem cls_ReadError {C_NoReading C_ReadError : Addr} : clsOf C_NoReading C_ReadError "ReadError" = C_ReadError := (if_neg (by decide +kernel)).trans (rfl)
theorem row_mk {K : PySem.W.Frag} {q : Program} {lo : List Str} {mean : ExcName → Option Value} {mb : Str → Option Value} {h : Heap} {fa : Addr} {C_NoReading : Addr} {C_ReadError : Addr} {c_law_is_told_right P_law_is_told_right : Addr} {c_law P_law : Addr} (KX : K.In h) (TT : Top q lo mean mg mb h) (hfa : mg "law" = some (.ref fa))
    (e_NoReading : ErrC K mg "NoReading" C_NoReading)
    (e_ReadError : ErrC K mg "ReadError" C_ReadError)
    (sub1 : PySem.W.subIn K (.ref C_NoReading) (.ref C_ReadError) = some true)
    (kit1 : PySem.W.kitOne K (.ref C_NoReading) (.ref C_NoReading) = some true)
    (kit2 : PySem.W.kitOne K (.ref C_NoReading) (.type "ValueError") = some true)
    (n_ValueError : mg "ValueError" = none)
    (n_all : mg "all" = none)
    (n_int : mg "int" = none)
    (n_isinstance : mg "isinstance" = none)
    (n_len : mg "len" = none)
    (n_range : mg "range" = none)
    (n_repr : mg "repr" = none)
    (n_str : mg "str" = none)
    (n_tuple : mg "tuple" = none)
    (g_CLOSE : ∃ t, mg "CLOSE" = some (.str ">" t))
    (g_LETTERS : ∃ t, mg "LETTERS" = some (.str "abcdefghijklmnopqrstuvwxyz" t))
    (g_MOST_MARK : ∃ t, mg "MOST_MARK" = some (.int 6 t))
    (g_MOST_STRINGS : ∃ t, mg "MOST_STRINGS" = some (.int 2000 t))
    (g_OPEN : ∃ t, mg "OPEN" = some (.str "<" t))
    (g_SIGNS : ∃ t, mg "SIGNS" = some (.str "abcd" t))
    (D_is_mark : DefIn K mg "is_mark" s_is_mark)
    (D_is_reading : DefIn K mg "is_reading" s_is_reading)
    (D_check_reading : DefIn K mg "check_reading" s_check_reading)
    (D_raw_spans : DefIn K mg "raw_spans" s_raw_spans)
    (D_spans : DefIn K mg "spans" s_spans)
    (D_raw_text_of : DefIn K mg "raw_text_of" s_raw_text_of)
    (D_text_of : DefIn K mg "text_of" s_text_of)
    (D_law_bag : DefIn K mg "_law_bag" s_law_bag)
    (D_law_pick : DefIn K mg "_law_pick" s_law_pick)
    (D_law_some : DefIn K mg "_law_some" s_law_some)
    (D_law_mark : DefIn K mg "_law_mark" s_law_mark)
    (D_law_drawn : DefIn K mg "_law_drawn" s_law_drawn)
    (D_law_is_right : DefIn K mg "_law_is_right" s_law_is_right)
    (D_law_spans : DefIn K mg "_law_spans" s_law_spans)
    (D_law_error : DefIn K mg "_law_error" s_law_error)
    (D_law_is_told_right : DefT K mg "_law_is_told_right" s_law_is_told_right c_law_is_told_right)
    (D_law_changed : DefIn K mg "_law_changed" s_law_changed)
    (D_law_are_bounds_right : DefIn K mg "_law_are_bounds_right" s_law_are_bounds_right)
    (D_law : DefT K mg "law" s_law c_law)
    (tb_law_is_told_right : PySem.W.tabIn K "_law_is_told_right" = some (c_law_is_told_right, P_law_is_told_right))
    (rc_law_is_told_right : ((recsOf q).any fun e => e.name == ("_law_is_told_right" : Str)) = true)
    (tb_law : PySem.W.tabIn K "law" = some (c_law, P_law))
    (rc_law : ((recsOf q).any fun e => e.name == ("law" : Str)) = true)
    (nt : PySem.W.noTabs K = true)
    (ne_law_is_told_right_law : P_law_is_told_right ≠ P_law)
    : LawG P w K 12 63 "script" mg fa h := by
  have T : Tx ⟨K, clsOf C_NoReading C_ReadError, [(P_law_is_told_right, ("_law_is_told_right" : Str) ++ ".<locals>." ++ "<lambda>"), (P_law, ("law" : Str) ++ ".<locals>." ++ "<lambda>")]⟩ mg := { n_ValueError := n_ValueError, n_all := n_all, n_int := n_int, n_isinstance := n_isinstance, n_len := n_len, n_range := n_range, n_repr := n_repr, n_str := n_str, n_tuple := n_tuple, g_CLOSE := g_CLOSE, g_LETTERS := g_LETTERS, g_MOST_MARK := g_MOST_MARK, g_MOST_STRINGS := g_MOST_STRINGS, g_OPEN := g_OPEN, g_SIGNS := g_SIGNS, e_NoReading := by (simp only [cls_NoReading, cls_ReadError]; exact e_NoReading), e_ReadError := by (simp only [cls_NoReading, cls_ReadError]; exact e_ReadError), sub1 := by (simp only [cls_NoReading, cls_ReadError]; exact sub1), kit1 := by (simp only [cls_NoReading, cls_ReadError]; exact kit1), kit2 := by (simp only [cls_NoReading, cls_ReadError]; exact kit2) }
  obtain ⟨fd, hb, hF⟩ := the_law (P := P) (w := w) T hfa D_is_mark D_is_reading D_check_reading D_raw_spans D_spans D_raw_text_of D_text_of D_law_bag D_law_pick D_law_some D_law_mark D_law_drawn D_law_is_right D_law_spans D_law_error D_law_is_told_right D_law_changed D_law_are_bounds_right D_law (.head _) (fun p m e => by (rcases List.mem_cons.mp m with rfl | m2; exact rfl; rcases List.mem_cons.mp m2 with rfl | m3; exact absurd e ne_law_is_told_right_law.symm; exact absurd m3 List.not_mem_nil)) (.tail _ (.head _)) (fun p m e => by (rcases List.mem_cons.mp m with rfl | m2; exact absurd e ne_law_is_told_right_law; rcases List.mem_cons.mp m2 with rfl | m3; exact rfl; exact absurd m3 List.not_mem_nil))
  refine ⟨⟨fd, [(c_law_is_told_right, P_law_is_told_right), (c_law, P_law)], sp_law _, fun p m => ?_, hb, fun H a ns hl ht hs => ⟨a, ns, rfl, hs, hl, tabs_nil fun p m => ?_, fun _ => rfl⟩, fun base _ _ TB => hF base TB⟩⟩
  · simp only [List.mem_cons, List.not_mem_nil, or_false] at m
    rcases m with rfl | rfl
    · exact tab_any TT KX rc_law_is_told_right tb_law_is_told_right nt
    · exact tab_any TT KX rc_law tb_law nt
  · simp only [List.mem_cons, List.not_mem_nil, or_false] at m
    rcases m with rfl | rfl
    · exact ht (c_law_is_told_right, P_law_is_told_right) (.head _)
    · exact ht (c_law, P_law) (.tail _ (.head _))
end K05

set_option Elab.async false
set_option linter.all false
set_option maxRecDepth 100000
open PySem PySem.W PyProof.Rows
set_option maxHeartbeats 0 in
theorem PySem.Challenge.cw_firstreads_k05_whole_readings_judged_and_holds : PySem.Challenge.rw_firstreads_k05_whole_readings_judged_and.Holds := by
  w_on; o_law; k_head; (case hw => w_witness2)
  k_fill
  refine FR.walk_G (l := PySem.Challenge.rw_firstreads_k05_whole_readings_judged_and) (n := 63) (k := 12) (x := "script") rfl (by decide) rfl ⟨rfl, by decide, by decide⟩ (fun w h Y => by first | exact PySem.W.km_in_of Y | exact PySem.W.kIn_of Y) ?F
  case F =>
    intro w lo mean mg mb fa h KX TT e
    refine' K05.row_mk KX TT e ?e_NoReading ?e_ReadError ?sub1 ?kit1 ?kit2 ?n_ValueError ?n_all ?n_int ?n_isinstance ?n_len ?n_range ?n_repr ?n_str ?n_tuple ?g_CLOSE ?g_LETTERS ?g_MOST_MARK ?g_MOST_STRINGS ?g_OPEN ?g_SIGNS ?D_is_mark ?D_is_reading ?D_check_reading ?D_raw_spans ?D_spans ?D_raw_text_of ?D_text_of ?D_law_bag ?D_law_pick ?D_law_some ?D_law_mark ?D_law_drawn ?D_law_is_right ?D_law_spans ?D_law_error ?D_law_is_told_right ?D_law_changed ?D_law_are_bounds_right ?D_law ?tb_law_is_told_right ?rc_law_is_told_right ?tb_law ?rc_law ?nt ?ne_law_is_told_right_law
    (case e_NoReading => (refine' FR.errC_of KX TT.g ?a ?xc ?kc ?bc ?tc ?ic ?h1 ?h2 ?h4 ?h5 ?h6 ?h7 ?h8; (case a => k_is); (case xc => k_exc); (case kc => k_is); (case bc => k_is); (case tc => k_is); (case ic => k_is); (case h1 => k_is); (case h2 => k_is); (case h4 => k_is); (case h5 => k_is); (case h6 => k_is); (case h7 => k_is); (case h8 => k_is)))
    (case e_ReadError => (refine' FR.errC_of KX TT.g ?a ?xc ?kc ?bc ?tc ?ic ?h1 ?h2 ?h4 ?h5 ?h6 ?h7 ?h8; (case a => k_is); (case xc => k_exc); (case kc => k_is); (case bc => k_is); (case tc => k_is); (case ic => k_is); (case h1 => k_is); (case h2 => k_is); (case h4 => k_is); (case h5 => k_is); (case h6 => k_is); (case h7 => k_is); (case h8 => k_is)))
    (case sub1 => first | k_is | rfl)
    (case kit1 => first | k_is | rfl)
    (case kit2 => first | k_is | rfl)
    (case n_ValueError => (refine' PySem.W.mg_none_of KX TT.g ?a; (case a => k_is)))
    (case n_all => (refine' PySem.W.mg_none_of KX TT.g ?a; (case a => k_is)))
    (case n_int => (refine' PySem.W.mg_none_of KX TT.g ?a; (case a => k_is)))
    (case n_isinstance => (refine' PySem.W.mg_none_of KX TT.g ?a; (case a => k_is)))
    (case n_len => (refine' PySem.W.mg_none_of KX TT.g ?a; (case a => k_is)))
    (case n_range => (refine' PySem.W.mg_none_of KX TT.g ?a; (case a => k_is)))
    (case n_repr => (refine' PySem.W.mg_none_of KX TT.g ?a; (case a => k_is)))
    (case n_str => (refine' PySem.W.mg_none_of KX TT.g ?a; (case a => k_is)))
    (case n_tuple => (refine' PySem.W.mg_none_of KX TT.g ?a; (case a => k_is)))
    (case g_CLOSE => (refine' FR.str_at KX TT.g ?a ?e; (case a => k_is); (case e => first | decide +kernel | rfl)))
    (case g_LETTERS => (refine' FR.str_at KX TT.g ?a ?e; (case a => k_is); (case e => first | decide +kernel | rfl)))
    (case g_MOST_MARK => (refine' FR.int_at KX TT.g ?a ?e; (case a => k_is); (case e => first | decide +kernel | rfl)))
    (case g_MOST_STRINGS => (refine' FR.int_at KX TT.g ?a ?e; (case a => k_is); (case e => first | decide +kernel | rfl)))
    (case g_OPEN => (refine' FR.str_at KX TT.g ?a ?e; (case a => k_is); (case e => first | decide +kernel | rfl)))
    (case g_SIGNS => (refine' FR.str_at KX TT.g ?a ?e; (case a => k_is); (case e => first | decide +kernel | rfl)))
    (case D_is_mark => (refine' FR.def_in KX TT.g ?a ?l ?c ?k; (case a => k_is); (case l => k_is); (case c => k_is); (case k => k_is)))
    (case D_is_reading => (refine' FR.def_in KX TT.g ?a ?l ?c ?k; (case a => k_is); (case l => k_is); (case c => k_is); (case k => k_is)))
    (case D_check_reading => (refine' FR.def_in KX TT.g ?a ?l ?c ?k; (case a => k_is); (case l => k_is); (case c => k_is); (case k => k_is)))
    (case D_raw_spans => (refine' FR.def_in KX TT.g ?a ?l ?c ?k; (case a => k_is); (case l => k_is); (case c => k_is); (case k => k_is)))
    (case D_spans => (refine' FR.def_in KX TT.g ?a ?l ?c ?k; (case a => k_is); (case l => k_is); (case c => k_is); (case k => k_is)))
    (case D_raw_text_of => (refine' FR.def_in KX TT.g ?a ?l ?c ?k; (case a => k_is); (case l => k_is); (case c => k_is); (case k => k_is)))
    (case D_text_of => (refine' FR.def_in KX TT.g ?a ?l ?c ?k; (case a => k_is); (case l => k_is); (case c => k_is); (case k => k_is)))
    (case D_law_bag => (refine' FR.def_in KX TT.g ?a ?l ?c ?k; (case a => k_is); (case l => k_is); (case c => k_is); (case k => k_is)))
    (case D_law_pick => (refine' FR.def_in KX TT.g ?a ?l ?c ?k; (case a => k_is); (case l => k_is); (case c => k_is); (case k => k_is)))
    (case D_law_some => (refine' FR.def_in KX TT.g ?a ?l ?c ?k; (case a => k_is); (case l => k_is); (case c => k_is); (case k => k_is)))
    (case D_law_mark => (refine' FR.def_in KX TT.g ?a ?l ?c ?k; (case a => k_is); (case l => k_is); (case c => k_is); (case k => k_is)))
    (case D_law_drawn => (refine' FR.def_in KX TT.g ?a ?l ?c ?k; (case a => k_is); (case l => k_is); (case c => k_is); (case k => k_is)))
    (case D_law_is_right => (refine' FR.def_in KX TT.g ?a ?l ?c ?k; (case a => k_is); (case l => k_is); (case c => k_is); (case k => k_is)))
    (case D_law_spans => (refine' FR.def_in KX TT.g ?a ?l ?c ?k; (case a => k_is); (case l => k_is); (case c => k_is); (case k => k_is)))
    (case D_law_error => (refine' FR.def_in KX TT.g ?a ?l ?c ?k; (case a => k_is); (case l => k_is); (case c => k_is); (case k => k_is)))
    (case D_law_is_told_right => (refine' FR.def_t KX TT.g ?a ?l ?c ?k; (case a => k_is); (case l => k_is); (case c => k_is); (case k => k_is)))
    (case D_law_changed => (refine' FR.def_in KX TT.g ?a ?l ?c ?k; (case a => k_is); (case l => k_is); (case c => k_is); (case k => k_is)))
    (case D_law_are_bounds_right => (refine' FR.def_in KX TT.g ?a ?l ?c ?k; (case a => k_is); (case l => k_is); (case c => k_is); (case k => k_is)))
    (case D_law => (refine' FR.def_t KX TT.g ?a ?l ?c ?k; (case a => k_is); (case l => k_is); (case c => k_is); (case k => k_is)))
    (case tb_law_is_told_right => first | k_is | rfl)
    (case rc_law_is_told_right => kernel_rfl)
    (case tb_law => first | k_is | rfl)
    (case rc_law => kernel_rfl)
    (case nt => kernel_rfl)
    (case ne_law_is_told_right_law => decide)
