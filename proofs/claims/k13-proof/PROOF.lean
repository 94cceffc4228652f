import PyProof.Rows.All
import Wide.All
import OpenK.AllK
import Wide.FinOn
import HandS.ForMost
import HandS.ForExc
import HandS.Style
import HandS.Walk
import HandS.IsInst
import HandS.ExcIs
import HandS.Lambda
import HandS.EndTab
import HandS.Flow
import HandS.TupMul
import HandS.TupAny
import HandS.Steps
import HandS.SetFor
import HandS.RaiseMore
import HandS.Replace
import PySem.Challenge.RW_firstreads_k13_whole_tables_judged_and_r
set_option Elab.async false
set_option linter.all false
set_option maxRecDepth 100000
set_option maxHeartbeats 4000000
/-! FRA: short words for calls, operators; exceptions without arguments; repr. -/
namespace FR
open PySem PySem.Spec PyProof.Rows L2

/-! ### a def that can be called, by its name -/
structure Has (P : Program) (w : World) (K : PySem.W.Frag) (mg : Str → Option Value) (base : Heap) (CX : CXT) (x : Str) (k : Nat) (ps : List Str) (sp : Sp) : Prop where
  ex : ∃ f fd, mg x = some (.ref f) ∧ PySem.W.keepIn K (.ref f) = true ∧ Binds K fd ps [] ∧ FnOk P w K mg base CX k f fd ps sp
theorem Has.imp {P : Program} {w : World} {K : PySem.W.Frag} {mg : Str → Option Value} {base : Heap} {CX : CXT} {x : Str} {k : Nat} {ps : List Str} {sp sp' : Sp} (h : Has P w K mg base CX x k ps sp)
    (i : ∀ vs H Q E, sp' vs H Q E → sp vs H Q E) : Has P w K mg base CX x k ps sp' := by
  obtain ⟨f, fd, a, b, c, d⟩ := h.ex
  exact ⟨f, fd, a, b, c, d.imp i⟩
section
variable {X : Cx} {CX : CXT} {k : Nat} {ps : List Str} {sp : Sp} {x : Str} {p pos : Pos} {e : Expr} {es : List Expr} {t : TA}
theorem pc {E : XK} (h : Has X.prog X.w X.K X.mg X.base CX x k ps sp) (hr : Room k X.A) (hg : Gl X x) (hx : Passes CX X E) (ha : PA X (e :: es) t)
    (hdb : (x == ("__debug__" : Str)) = false := by decide) (he : starEach (e :: es) X.env = (false, eval e X.env) :: starEach es X.env := by rfl) (hpl : (backTo pos (starEach es X.env)).any (·.1) = false := by rfl) :
    PE X (.Call (.Name x p) (e :: es) [] pos) (tCall sp [] E t) := by
  obtain ⟨f, fd, a, b, c, d⟩ := h.ex
  exact pe_call d hr hg a b c .nil hx ha hdb he hpl
theorem pc0 {E : XK} (h : Has X.prog X.w X.K X.mg X.base CX x k ps sp) (hr : Room k X.A) (hg : Gl X x) (hx : Passes CX X E)
    (hdb : (x == ("__debug__" : Str)) = false := by decide) : PE X (.Call (.Name x p) [] [] pos) (tCall sp [] E tNil) := by
  obtain ⟨f, fd, a, b, c, d⟩ := h.ex
  exact pe_call0 d hr hg a b c .nil hx hdb
/-- within a try -/
theorem pcS {E : L2.St → XK} (h : Has X.prog X.w X.K X.mg X.base CX x k ps sp) (hr : Room k X.A) (hg : Gl X x) (hx : ∀ σ, PassesAt CX X σ (E σ)) (ha : PA X (e :: es) t)
    (hdb : (x == ("__debug__" : Str)) = false := by decide) (he : starEach (e :: es) X.env = (false, eval e X.env) :: starEach es X.env := by rfl) (hpl : (backTo pos (starEach es X.env)).any (·.1) = false := by rfl) :
    PE X (.Call (.Name x p) (e :: es) [] pos) (tCallS sp E t) := by
  obtain ⟨f, fd, a, b, c, d⟩ := h.ex
  exact pe_callS d hr hg a b c hx ha hdb he hpl
end

/-! ### operators by name -/
abbrev rAddI : R2 := rI0 fun i j => .int (i + j)
abbrev rSubI : R2 := rI0 fun i j => .int (i - j)
abbrev rMulI : R2 := rI CMul fun i j => .int (i * j)
abbrev rFdivI : R2 := rI CDiv fun i j => .int (i / j)
abbrev rModI : R2 := rI (fun _ j => 0 < j) fun i j => .int (i % j)
abbrev rPowI : R2 := rI CPow fun i j => .int (i ^ j.toNat)
abbrev rLtI : R2 := rI0 fun i j => .bl (decide (i < j))
abbrev rLeI : R2 := rI0 fun i j => .bl (decide (i ≤ j))
abbrev rGtI : R2 := rI0 fun i j => .bl (decide (j < i))
abbrev rGeI : R2 := rI0 fun i j => .bl (decide (j ≤ i))
abbrev rNegI : V → Hp → VK → Prop := rU fun i => .int (-i)
abbrev rAddStr : R2 := fun x y H Q => ∃ i j, x = .str i ∧ y = .str j ∧ i.length + j.length ≤ sizeLine ∧ Q (.str (i ++ j)) H
abbrev rInStr : R2 := fun x y H Q => ∃ i j, x = .str i ∧ y = .str j ∧ Q (.bl (!(Builtin.Str.occurrences j i 0 j.length 1).isEmpty)) H
abbrev rNotInStr : R2 := fun x y H Q => ∃ i j, x = .str i ∧ y = .str j ∧ Q (.bl (!(!(Builtin.Str.occurrences j i 0 j.length 1).isEmpty))) H
abbrev rIsNon : R2 := fun x y H Q => y = .non ∧ Q (.bl (decide (x = .non))) H
abbrev rNotNon : R2 := fun x y H Q => y = .non ∧ Q (.bl (!decide (x = .non))) H
abbrev rLenV (K : PySem.W.Frag) : List V → Hp → VK → Prop := fun xs H Q => ∃ x n, xs = [x] ∧ LenV K x H n ∧ Q (.int n) H
abbrev rInt1 : List V → Hp → VK → Prop := fun xs H Q => (∃ i, xs = [.int i] ∧ Q (.int i) H) ∨ ∃ k, xs = [.bl k] ∧ Q (.int (if k then 1 else 0)) H
abbrev rAbs1 : List V → Hp → VK → Prop := fun xs H Q => ∃ i, xs = [.int i] ∧ Q (.int (if i < 0 then -i else i)) H
abbrev rTupOf (K : PySem.W.Frag) : List V → Hp → VK → Prop := fun xs H Q => ∃ p ys, xs = [.ref p] ∧ ((SqL K H p ys ∧ ∀ l, H l = none → Q (.ref l) (upd H l (.tup ys))) ∨ (SqT K H p ys ∧ Q (.ref p) H))
abbrev rLstOf (K : PySem.W.Frag) : List V → Hp → VK → Prop := fun xs H Q => ∃ p ys, xs = [.ref p] ∧ (SqL K H p ys ∨ SqT K H p ys) ∧ ∀ l, H l = none → Q (.ref l) (upd H l (.lst ys))
abbrev rJoin (K : PySem.W.Frag) : V → List V → Hp → VK → Prop := fun x xs H Q => ∃ a p, ∃ ys : List Str, x = .str a ∧ xs = [.ref p] ∧ (SqL K H p (ys.map V.str) ∨ SqT K H p (ys.map V.str)) ∧
    (ys.map (·.length)).sum + ys.length * a.length ≤ 16777216 ∧ Q (.str (Txt.join a ys)) H

/-! ### X(), an exception of an own class without arguments -/
section
variable {X : Cx} {C : Addr} {bmB : List Value} {B newId initId : String}
theorem pmk_own0 {x : Str} {p pos : Pos} (F : ExcBaseFacts B newId initId bmB) (q : PySem.W.excIn X.K C bmB newId = true) (gC : X.mg x = some (.ref C)) (kC : PySem.W.keepIn X.K (.ref C) = true) (r : Raises X (.ref C)) (hg : Gl X x)
    (hdb : (x == ("__debug__" : Str)) = false := by decide) : PMk X (.Call (.Name x p) [] [] pos) (fun _ H Q => Q (.ref C) none H) := by
  intro pins s σ H Q I h
  refine wpAny_Call_Name_kw (ld_glob I hg gC ?_ hdb)
  refine PySem.W.callWith_K0 I.kIn kC ?_
  obtain ⟨bm, N, nm, qn, bs, hdct, sn, sub, ab, col, dd, k0, k1, k2, k3, k5, mN, hC, hN, hni, T⟩ := exc_obj I.kIn q
  refine wpAny_call_exc_subT F T hC hN hni (fun h' e hm => ?_) (by show 0 ≤ sizeLine; exact Nat.zero_le _)
  exact mk_of I hm r h (I.hok.gone hm.new)
end
end FR

set_option Elab.async false
set_option linter.all false
set_option maxRecDepth 100000
set_option maxHeartbeats 4000000
/-! FRB: defs that lean on the guards being known (repr of tuples and lists); repr of data. -/
namespace FR
open PySem PySem.Spec PyProof.Rows L2
/-- as FnOk, where no repr is under way -/
structure FnG (P : Program) (w : World) (K : PySem.W.Frag) (mg : Str → Option Value) (base : Heap) (CX : CXT) (k : Nat) (f : Addr) (fd : FuncData) (ps : List Str) (sp : Sp) : Prop where
  len : ∀ vs H Q E, sp vs H Q E → vs.length = ps.length
  run : ∀ (A : Around) (outer : List Env) (s : Shared) (H : Hp) (args : Args) (us : List Value) (vs : List V) (Q : VK) (E : XK), A.guards = some [] → Room k A →
    Env0 P w K mg base A outer s H → BindsTo s fd args (ps.zip us) → Vals vs us → sp vs H Q E → codeAny (model P w) A (.call (.ref f) args) (CR CX outer P w H s Q E) s
theorem FnG.of {P : Program} {w : World} {K : PySem.W.Frag} {mg : Str → Option Value} {base : Heap} {CX : CXT} {k : Nat} {f : Addr} {fd : FuncData} {ps : List Str} {sp : Sp}
    (F : FnOk P w K mg base CX k f fd ps sp) : FnG P w K mg base CX k f fd ps sp := ⟨F.len, fun A outer s H args us vs Q E _ => F.run A outer s H args us vs Q E⟩
structure HasG (P : Program) (w : World) (K : PySem.W.Frag) (mg : Str → Option Value) (base : Heap) (CX : CXT) (x : Str) (k : Nat) (ps : List Str) (sp : Sp) : Prop where
  ex : ∃ f fd, mg x = some (.ref f) ∧ PySem.W.keepIn K (.ref f) = true ∧ Binds K fd ps [] ∧ FnG P w K mg base CX k f fd ps sp
section
variable {X : Cx} {CX : CXT} {k : Nat} {ps : List Str} {sp : Sp} {x : Str} {p pos : Pos} {e : Expr} {es : List Expr} {t : TA}
theorem runG {f : Addr} {fd : FuncData} {E : XK} {pins : List (Addr × Obj)} {σ : L2.St} {H : Hp} {s : Shared} {Q : VK} {us : List Value} {vs : List V} (F : FnG X.prog X.w X.K X.mg X.base CX k f fd ps sp) (hgd : X.A.guards = some []) (hr : Room k X.A)
    (hb : Binds X.K fd ps []) (hx : Passes CX X E) (I : Inv X pins σ H s) (r : Vals vs us) (h : sp vs H Q E) : wpAny (model X.prog X.w) X.A (call (.ref f) us) (EP X pins σ Q) X.xe s := by
  have hl : (us ++ []).length = ps.length := by
    rw [List.append_nil, ← r.length]
    exact F.len _ _ _ _ h
  have hbt := hb s us I.kIn hl
  rw [List.append_nil] at hbt
  refine wpAny_call (codeAny_mono (F.run X.A X.stack s H ⟨us, []⟩ us vs Q E hgd hr I.env0 hbt r h) fun res s' hq => ?_)
  match res, hq with
  | .error err, hq => exact hx pins σ H s err s' I hq
  | .ok (.ret u), hq => exact I.after hq
  | .ok .next, hq => exact hq.elim
  | .ok .brk, hq => exact hq.elim
  | .ok .cont, hq => exact hq.elim
theorem pcG {E : XK} (h : HasG X.prog X.w X.K X.mg X.base CX x k ps sp) (hgd : X.A.guards = some []) (hr : Room k X.A) (hg : Gl X x) (hx : Passes CX X E) (ha : PA X (e :: es) t)
    (hdb : (x == ("__debug__" : Str)) = false := by decide) (he : starEach (e :: es) X.env = (false, eval e X.env) :: starEach es X.env := by rfl) (hpl : (backTo pos (starEach es X.env)).any (·.1) = false := by rfl) :
    PE X (.Call (.Name x p) (e :: es) [] pos) (tCall sp [] E t) := by
  obtain ⟨f, fd, hm, hk, hb, F⟩ := h.ex
  refine ⟨fun pins s σ H Q I hw => wpAny_Call_Name_kw (ld_glob I hg hm ?_ hdb)⟩
  refine PySem.W.callWith_K (h₀ := X.base) I.ok.mod.kin hk (thn (ha.run pos pins s σ H _ I hw) fun us s1 hh => ?_) he hpl
  obtain ⟨vs, H1, I1, r, q⟩ := hh
  rw [List.append_nil] at q
  exact ⟨I1.kIn, runG F hgd hr hb hx I1 r q⟩
end
/-- a def's body keeps its promise -/
theorem fnG_of {CX : CXT} {P : Program} {w : World} {K : PySem.W.Frag} {mg : Str → Option Value} {base : Heap} {k : Nat} {f : Addr} {name qual : Str} {params : Arguments} {body : List Stmt} {scope : Scope} {dV kV doc pm cdv ct oc : Value} {an od : Option Addr}
    {osl : Array (Option Value)} {N ps : List Str} {sp : Sp} (lk : K.lookup f = some ⟨oc, od, .func (PySem.W.fnOf name qual params body scope dV kV doc pm an cdv ct), osl⟩) (hcd : PySem.W.codeIn K cdv qual = true) (S : FnScope N ps scope)
    (len : ∀ vs H Q E, sp vs H Q E → vs.length = ps.length)
    (hbody : ∀ (A : Around) (outer : List Env) (s : Shared) (H : Hp) (vs : List V) (Q : VK) (E : XK), A.guards = some [] → Room k (A.deeper (envOfC qual scope s.heap.objs.size f cdv)) → sp vs H Q E →
      ∃ t, PSs (cxOf CX P w K mg base N qual scope f cdv A outer s H E) body t ∧ t { nx := fun _ H' => Q .non H', rt := Q } (L2.start N vs) H) :
    FnG P w K mg base CX (k + 1) f (PySem.W.fnOf name qual params body scope dV kV doc pm an cdv ct) ps sp := by
  refine ⟨len, fun A outer s H args us vs Q E hgd hr e0 hb r hsp => ?_⟩
  exact LamX.run_ofS lk hcd S hr e0 hb r (len _ _ _ _ hsp) fun hr' => hbody A outer s H vs Q E hgd hr' hsp
theorem Fun.okG {P : Program} {w : World} {K : PySem.W.Frag} {mg : Str → Option Value} {base : Heap} {x qual : Str} {st : Stmt} {f : Addr} {fd : FuncData} {N ps : List Str} {k : Nat} {sp : Sp} (F : Fun K x qual st f fd) (S : FnScope N ps (defScope st))
    (len : ∀ vs H Q E, sp vs H Q E → vs.length = ps.length)
    (hbody : ∀ (cdv : Value) (A : Around) (outer : List Env) (s : Shared) (H : Hp) (vs : List V) (Q : VK) (E : XK), A.guards = some [] → Room k (A.deeper (envOfC qual (defScope st) s.heap.objs.size f cdv)) → sp vs H Q E →
      ∃ t, PSs (cxOf CX0 P w K mg base N qual (defScope st) f cdv A outer s H E).nox (defBody st) t ∧ t { nx := fun _ H' => Q .non H', rt := Q } (L2.start N vs) H) : FnG P w K mg base CX0 (k + 1) f fd ps sp := by
  obtain ⟨oc, od, kV, doc, pm, an, cdv, ct, osl, hfd, lk, hcd⟩ := F.ex
  subst hfd
  refine fnG_of lk hcd S len fun A outer s H vs Q E hgd hr hsp => ?_
  obtain ⟨t, ht, hq⟩ := hbody cdv A outer s H vs Q E hgd hr hsp
  exact ⟨t, ht.nox, hq⟩
/-! ### repr of data -/
theorem Dp.noDict {K : PySem.W.Frag} {H : Hp} : ∀ (d : PyData) (v : V), Dp K H v d → d.hasDict = false
  | .none, _, _ => rfl
  | .bool _, _, _ => rfl
  | .int _, _, _ => rfl
  | .str _, _, _ => rfl
  | .list ds, _, h => by
    cases h with
    | lst _ ha =>
      show PyData.hasDictAll ds = false
      exact go ds _ ha
  | .tuple ds, _, h => by
    cases h with
    | tup _ ha =>
      show PyData.hasDictAll ds = false
      exact go ds _ ha
  | .dict _, _, h => by cases h
where
  go : ∀ (ds : List PyData) (vs : List V), DpAll K H vs ds → PyData.hasDictAll ds = false
  | [], _, _ => rfl
  | d :: ds, _, h => by
    cases h with
    | cons h1 h2 =>
      show (d.hasDict || PyData.hasDictAll ds) = false
      rw [Dp.noDict d _ h1, go ds _ h2]
      rfl
def rReprD (K : PySem.W.Frag) : List V → Hp → VK → Prop := fun xs H Q => ∃ (a : Addr) (d : PyData), xs = [.ref a] ∧ Dp K H (.ref a) d ∧ d.showable = true ∧ d.depth ≤ 30 ∧ d.shown.length ≤ sizeLine ∧ Q (.str d.shown) H
theorem call_reprD {X : Cx} (hgd : X.A.guards = some []) (hu : X.A.units + 64 < cLine) : CallR X (.builtin "repr") (rReprD X.K) := by
  intro pins s σ H xs us Q I r h
  obtain ⟨a, d, rfl, hd, hs, hdp, hz, q⟩ := h
  cases r with
  | cons rx rn =>
    cases rn
    cases rx
    obtain ⟨as, rr⟩ := Dp.reads I d _ _ hd rfl
    refine repr_of_reads' rr hs (fun z => ?_) hgd (by omega) (fun _ _ e => e) (fun h' u tk hk => ?_) hz
    · rw [Dp.noDict d _ hd] at z
      cases z
    · exact ⟨.str d.shown, H, I.kept (h' := h') (t' := tk) hk, ⟨u, rfl⟩, q⟩
theorem hu64 {A : Around} {k : Nat} (hr : Room k A) : A.units + 64 < cLine := hr.units
end FR

set_option Elab.async false
set_option linter.all false
set_option maxRecDepth 100000
set_option maxHeartbeats 4000000
/-! FRC: what a law's defs share: the written part, the classes' addresses, the tables of lambdas; a def that calls the lambda it got. -/
namespace FR
open PySem PySem.Spec PyProof.Rows L2
/-- the written part, where the classes stand, the tables of the defs that make lambdas -/
structure Pm where
  K : PySem.W.Frag
  cls : Str → Addr
  tabs : List (Addr × Str)
/-- a wish that holds only at slots of the frame's own length -/
theorem takes_len {X : Cx} {W : WX} (t : Takes X W) : Takes X (fun cls d σ H => σ.length = X.N.length → W cls d σ H) := fun u s' h => by
  obtain ⟨a, B, sI, pins, σ, H, cls, d, e, I, nb, up, sky, na, os, ag, h⟩ := h
  exact t u s' ⟨a, B, sI, pins, σ, H, cls, d, e, I, nb, up, sky, na, os, ag, h I.len⟩
/-- an own class of errors -/
structure ErrC (K : PySem.W.Frag) (mg : Str → Option Value) (x : Str) (C : Addr) : Prop where
  g : mg x = some (.ref C)
  x : PySem.W.excIn K C [.type "ValueError", .type "Exception", .type "BaseException", .type "object"] "ValueError.__new__" = true
  k : PySem.W.keepIn K (.ref C) = true
  b : PySem.W.subIn K (.ref C) (.type "BaseException") = some true
  t : PySem.W.typeIn K (.ref C) = some (.type "type")
  i : PySem.W.isClsIn K C = true
  c : ExcC K C
/-- a def that is handed a lambda -/
structure HasL (K : PySem.W.Frag) (mg : Str → Option Value) (x a : Str) (st : Stmt) (Ng : List Str) : Prop where
  ex : ∃ (g : Addr) (oc : Value) (od : Option Addr) (dV kV doc pm : Value) (an : Option Addr) (cdv ct : Value) (osl : Array (Option Value)),
    mg x = some (.ref g) ∧ PySem.W.keepIn K (.ref g) = true ∧ K.lookup g = some ⟨oc, od, .func (PySem.W.fnOf x x (defArgs st) (defBody st) (defScope st) dV kV doc pm an cdv ct), osl⟩ ∧
      PySem.W.codeIn K cdv x = true ∧ L2.Binds K (PySem.W.fnOf x x (defArgs st) (defBody st) (defScope st) dV kV doc pm an cdv ct) [a] []
  sc : FnScope Ng [a] (defScope st)
  n0 : Ng[0]? = some a
  vis : Vis (defScope st) a
section
variable {X : Cx}
theorem plam {T : List (Addr × Str)} {TT : (XK → Hp → VK → Prop) → Hp → VK → Prop} {x a : Str} {c P : Addr} {k : Nat} {st : Stmt} {Ng : List Str} {params : Arguments} {body : Expr} {scope : Scope} {t : XK → TE} {p lpos pos : Pos}
    (h : HasL X.K X.mg x a st Ng) (hG : ∀ (g : Addr) (cdv : Value), LamX.GivesTo X Ng x (defScope st) g cdv (defBody st) a (X.env.qual ++ "<lambda>") TT) (hg : Gl X x)
    (TB : LamX.TabB X.base X.mg c P) (hcode : X.env.code = .ref c) (hmT : (P, X.env.qual ++ "<lambda>") ∈ T) (hu : ∀ p ∈ T, p.1 = P → p.2 = X.env.qual ++ "<lambda>") (hr : Room (k + 2) X.A)
    (L : LamX.LamS X.env.scope scope) (hdef : defaultsOf params X.env = ([], []))
    (hbind : ∀ (q : Str) (cl : List (Str × Addr)) (pm cv ctv : Value), bindArgs (PySem.W.kla_fn "<lambda>" q params body scope cl pm cv ctv) ⟨[], []⟩ = pure [])
    (hbody : ∀ (A : Around) (outer : List Env) (s : Shared) (H : Hp) (E : XK) (f c' : Addr), Room k (A.deeper (LamX.lamEnv X scope s.heap.objs.size f c')) → PE (LamX.lamCx X A outer s H E scope f c') body (t E))
    (hdb : (x == ("__debug__" : Str)) = false := by decide) (hd : (a == ("__debug__" : Str)) = false := by decide) (hcd : (a == ("__classdict__" : Str)) = false := by decide) :
    PE X (.Call (.Name x p) [.Lambda params body scope lpos] [] pos) (LamX.tLam T TT t) := by
  obtain ⟨g, oc, od, dV, kV, doc, pm, an, cdv, ct, osl, h1, h2, h3, h4, h5⟩ := h.ex
  exact LamX.pe_lamcall hg h1 h2 h3 h4 h5 h.sc h.n0 h.vis (hG g cdv) TB hcode hmT hu hr L hdef hbind hbody hdb hd hcd
/-- what leaves a lambda's body is what its caller wishes -/
theorem passLam {A : Around} {outer : List Env} {s : Shared} {H : Hp} {E : XK} {scope : Scope} {f c' : Addr} : Passes (L2.CX X.prog X.w) (LamX.lamCx X A outer s H E scope f c') E :=
  passes_call (W := fun cls d _ H => E cls d H) (takes_of rfl rfl rfl rfl) fun _ _ _ _ h => h
end
/-- isinstance(error, C) in the suite, the error's class being told -/
abbrev rIsErr (K : PySem.W.Frag) (a : Addr) (cls : Value) (d : Option Addr) : List V → Hp → VK → Prop := fun xs H Q => ∃ (D : Addr) (c : V) (cv : Value) (b : Bool), cls = .ref D ∧ d = none ∧ ExcC K D ∧ xs = [.ref a, c] ∧ (∀ u, RelV c u → u = cv) ∧ PySem.W.kitOne K (.ref D) cv = some b ∧ Q (.bl b) H
theorem call_isErr {X : Cx} {a : Addr} {cls : Value} {d : Option Addr} {oe : Obj} {pn : List (Addr × Obj)} (hz : Zc cls d oe) (hf : ∃ vs, oe.data = .fields vs) : CallR (X.suite a ((a, oe) :: pn)) (.builtin "isinstance") (rIsErr X.K a cls d) := by
  intro pins s σ H xs us Q I r h
  obtain ⟨D, c, cv, b, e1, e2, C, e3, e4, e5, q⟩ := h
  subst e1 e2
  exact call_isE C hz hf pins s σ H xs us Q I r ⟨c, cv, b, e3, e4, e5, q⟩
end FR

set_option Elab.async false
set_option linter.all false
set_option maxRecDepth 100000
set_option maxHeartbeats 4000000
/-! FRM: what a reading's steps want: heaps that keep what they hold, tests, codes of texts. -/
namespace FR
open PySem PySem.Spec PyProof.Rows L2
/-! ### heaps -/
/-- all that was tracked stands, but at S -/
def Keep (S : List Addr) (H H' : Hp) : Prop := ∀ b o, H b = some o → b ∉ S → H' b = some o
theorem Keep.refl {S : List Addr} {H : Hp} : Keep S H H := fun _ _ h _ => h
theorem Keep.trans {S : List Addr} {H H1 H2 : Hp} (a : Keep S H H1) (b : Keep S H1 H2) : Keep S H H2 := fun c o h n => b c o (a c o h n) n
theorem Keep.mono {S T : List Addr} {H H1 : Hp} (a : Keep S H H1) (h : ∀ x ∈ S, x ∈ T) : Keep T H H1 := fun c o e n => a c o e fun z => n (h c z)
theorem Keep.of0 {T : List Addr} {H H1 : Hp} (a : Keep [] H H1) : Keep T H H1 := a.mono fun _ z => nomatch z
theorem Keep.new {S : List Addr} {H : Hp} {p : Addr} {o : HO} (h : H p = none) : Keep S H (upd H p o) := fun b u e _ => by
  rw [upd_ne (ne_of_none e h)]
  exact e
theorem Keep.put {S : List Addr} {H : Hp} {p : Addr} {o : HO} (h : p ∈ S) : Keep S H (upd H p o) := fun b u e n => by
  rw [upd_ne (fun z => n (by rw [z]; exact h))]
  exact e
theorem Keep.at {S : List Addr} {H H1 : Hp} {p : Addr} {o : HO} (k : Keep S H H1) (e : H p = some o) (n : p ∉ S := by simp) : H1 p = some o := k p o e n
/-- what was new is changed: nothing else is -/
theorem Keep.own {S : List Addr} {H H1 : Hp} {p : Addr} {o : HO} (k : Keep S H H1) (h : H p = none) : Keep S H (upd H1 p o) := fun b u e n => by
  rw [upd_ne (ne_of_none e h)]
  exact k b u e n
/-- changes at what was not there ahead are none -/
theorem Keep.drop {S : List Addr} {H H1 H2 : Hp} {p : Addr} (k : Keep S H H1) (k2 : Keep (p :: S) H1 H2) (h : H p = none) : Keep S H H2 := fun b u e n =>
  k2 b u (k b u e n) fun z => by
    rcases List.mem_cons.mp z with z | z
    · exact ne_of_none e h z
    · exact n z
theorem Keep.none {S : List Addr} {H H1 : Hp} {p : Addr} (k : Keep S H H1) (hp : H1 p = Option.none) (n : p ∉ S := by simp) : H p = Option.none := by
  cases q : H p with
  | none => rfl
  | some o => rw [k p o q n] at hp; cases hp
theorem Keep.sqT {S : List Addr} {H H1 : Hp} {K : PySem.W.Frag} {a : Addr} {xs : List V} (k : Keep S H H1) (h : SqT K H a xs) (n : a ∉ S := by simp) : SqT K H1 a xs := by
  rcases h with (h | ⟨o, h⟩) | h
  · exact .inl (.inl (k _ _ h n))
  · exact .inl (.inr ⟨o, k _ _ h n⟩)
  · exact .inr h
theorem Keep.sqL {S : List Addr} {H H1 : Hp} {K : PySem.W.Frag} {a : Addr} {xs : List V} (k : Keep S H H1) (h : SqL K H a xs) (n : a ∉ S := by simp) : SqL K H1 a xs := by
  rcases h with (h | ⟨o, h⟩) | h
  · exact .inl (.inl (k _ _ h n))
  · exact .inl (.inr ⟨o, k _ _ h n⟩)
  · exact .inr h
/-! ### tests -/
theorem iteB {A B : Prop} {c : Bool} (h1 : c = true → A) (h2 : c = false → B) : if c = true then A else B := by
  cases c with
  | true => rw [if_pos rfl]; exact h1 rfl
  | false => rw [if_neg Bool.false_ne_true]; exact h2 rfl
theorem if1 {A B : Prop} {c : Bool} (hc : c = true) (h : A) : if c = true then A else B := by
  rw [if_pos hc]; exact h
theorem if0 {A B : Prop} {c : Bool} (hc : c = false) (h : B) : if c = true then A else B := by
  rw [hc, if_neg Bool.false_ne_true]; exact h
/-! ### codes -/
abbrev cs (z : Str) : List Nat := z.cps.toList
theorem str_ext {x y : Str} (h : cs x = cs y) : x = y := by
  cases x; cases y
  simp only [cs] at h
  congr
  exact Array.toList_inj.mp h
theorem len_cs (z : Str) : z.length = (cs z).length := (Array.length_toList (xs := z.cps)).symm
theorem cs_cut1 (z : Str) : cs (cutS z (some 1) none) = (cs z).drop 1 := by
  show (((z.cps.toList.drop (HT.sIx z.length 0 (some ((1 : Nat) : Int)))).take (HT.sIx z.length z.length none - HT.sIx z.length 0 (some ((1 : Nat) : Int)))).toArray).toList = _
  rw [List.toList_toArray, HT.sIx_nat, HT.sIx_none, len_cs]
  rcases h : cs z with _ | ⟨a, r⟩
  · simp [show z.cps.toList = [] from h]
  · rw [show z.cps.toList = a :: r from h]
    simp
theorem cs_head1 (z : Str) : cs (cutS z none (some 1)) = (cs z).take 1 := by
  show (((z.cps.toList.drop (HT.sIx z.length 0 none)).take (HT.sIx z.length z.length (some ((1 : Nat) : Int)) - HT.sIx z.length 0 none)).toArray).toList = _
  rw [List.toList_toArray, HT.sIx_nat, HT.sIx_none, len_cs]
  rcases h : cs z with _ | ⟨a, r⟩
  · simp [show z.cps.toList = [] from h]
  · rw [show z.cps.toList = a :: r from h]
    simp
theorem one_eq {c d : Nat} : decide (V.str ⟨#[c]⟩ = V.str ⟨#[d]⟩) = decide (c = d) := by
  by_cases h : c = d
  · subst h; simp
  · rw [decide_eq_false h, decide_eq_false]
    intro z
    injection z with z
    injection z with z
    simp at z
    exact h z
theorem str_eq {x y : Str} : decide (V.str x = V.str y) = decide (x = y) := by
  by_cases h : x = y
  · subst h; simp
  · rw [decide_eq_false h, decide_eq_false]
    intro z
    injection z with z
    exact h z
theorem atI_head {z : Str} {c : Nat} {r : List Nat} (h : cs z = c :: r) : atI z.cps.toList 0 = some c := by
  rw [show z.cps.toList = c :: r from h]
  exact atI_nat (j := 0) rfl
theorem sz_of {n m : Nat} (h : n ≤ m) (hm : m ≤ 16777216 := by decide) : n ≤ sizeLine := by
  rw [sizeLine_eq]; exact Nat.le_trans h hm
theorem szl_of {n m : Nat} (h : n ≤ m) (hm : m < 16777216 := by decide) : n < sizeLine := by
  rw [sizeLine_eq]; exact Nat.lt_of_le_of_lt h hm
theorem take_more {α : Type} : ∀ {l : List α} {i : Nat} {x : α}, l[i]? = some x → l.take (i + 1) = l.take i ++ [x]
  | [], i, x, h => by simp at h
  | a :: l, 0, x, h => by
    have e : a = x := Option.some.inj h
    subst e
    rfl
  | a :: l, i + 1, x, h => by
    have ih := take_more (l := l) (i := i) (x := x) h
    show a :: l.take (i + 1) = a :: l.take i ++ [x]
    rw [ih]
    rfl
end FR

set_option Elab.async false
set_option linter.all false
set_option maxRecDepth 100000
set_option maxHeartbeats 4000000
/-! FRS: the readings' steps, one lemma a rule. -/
namespace FR
open PySem PySem.Spec PyProof.Rows L2
section
variable {K : PySem.W.Frag} {H : Hp} {Q : VK} {a : Addr} {xs ys : List V} {v x y : V} {z : Str} {i : Int}
theorem s_ixL (h : SqL K H a xs) (e : atI xs i = some v) (q : Q v H) : rIxL K (.ref a) (.int i) H Q := ⟨a, xs, i, v, rfl, rfl, h, e, q⟩
theorem s_ixT (h : SqT K H a xs) (e : atI xs i = some v) (q : Q v H) : rIxT K (.ref a) (.int i) H Q := ⟨a, xs, i, v, rfl, rfl, h, e, q⟩
theorem s_ixS {c : Nat} (h : z.length ≤ sizeLine) (e : atI z.cps.toList i = some c) (q : Q (.str ⟨#[c]⟩) H) : rIxS (.str z) (.int i) H Q := ⟨z, i, c, rfl, rfl, h, e, q⟩
theorem s_lenS (h : z.length ≤ sizeLine) (q : Q (.int z.length) H) : rLenV K [.str z] H Q := ⟨_, _, rfl, ⟨h, rfl⟩, q⟩
theorem s_lenL (h : SqL K H a xs) (q : Q (.int xs.length) H) : rLenV K [.ref a] H Q := ⟨_, _, rfl, .inl ⟨_, h, rfl⟩, q⟩
theorem s_lenT (h : SqT K H a xs) (q : Q (.int xs.length) H) : rLenV K [.ref a] H Q := ⟨_, _, rfl, .inr ⟨_, h, rfl⟩, q⟩
theorem s_isi {A T : String} {b : Bool} (t : TyX K H v (.type A)) (k : kitB A T = some b) (q : Q (.bl b) H) : rIsi K [v, .ty T] H Q := ⟨v, .ty T, _, _, b, rfl, .ty T, t, kit_ty k, q⟩
theorem s_isiS {T : String} {b : Bool} (k : kitB "str" T = some b) (q : Q (.bl b) H) : rIsi K [.str z, .ty T] H Q := s_isi (.base (.str z)) k q
theorem s_app {l : Addr} (h : H l = some (.lst xs)) (hz : xs.length < sizeLine) (q : Q .non (upd H l (.lst (xs ++ [v])))) : rAppend (.ref l) [v] H Q := ⟨l, xs, v, rfl, rfl, h, hz, q⟩
theorem s_pop {l : Addr} (h : H l = some (.lst (xs ++ [v]))) (q : Q v (upd H l (.lst xs))) : rPop (.ref l) [] H Q := by
  refine ⟨l, xs ++ [v], v, rfl, rfl, h, by simp, ?_⟩
  rw [List.dropLast_concat]
  exact q
theorem s_all {bs : List Bool} (h : SqL K H a (bs.map V.bl)) (q : Q (.bl (bs.all id)) H) : rAll K [.ref a] H Q := ⟨a, bs, rfl, h, q⟩
theorem s_join {w : Str} {zs : List Str} (h : SqL K H a (zs.map V.str)) (hz : (zs.map (·.length)).sum + zs.length * w.length ≤ 16777216) (q : Q (.str (Txt.join w zs)) H) : rJoin K (.str w) [.ref a] H Q :=
  ⟨w, a, zs, rfl, rfl, .inl h, hz, q⟩
theorem s_cutL {lo hi : Option Int} (h : SqL K H a xs) (q : ∀ p, H p = none → Q (.ref p) (upd H p (.lst (cutV xs lo hi)))) : rSlL K (.ref a) lo hi H Q := ⟨a, xs, rfl, h, q⟩
theorem s_cutS {lo hi : Option Int} (h : z.length ≤ sizeLine) (q : Q (.str (cutS z lo hi)) H) : rSlS (.str z) lo hi H Q := ⟨z, rfl, h, q⟩
theorem s_cat {b : Addr} (h : H a = some (.lst xs)) (h2 : H b = some (.lst ys)) (hz : xs.length + ys.length ≤ sizeLine) (q : ∀ p, H p = none → Q (.ref p) (upd H p (.lst (xs ++ ys)))) : rCat (.ref a) (.ref b) H Q := ⟨a, b, xs, ys, rfl, rfl, h, h2, hz, q⟩
theorem s_tupL (h : SqL K H a xs) (q : ∀ l, H l = none → Q (.ref l) (upd H l (.tup xs))) : rTupOf K [.ref a] H Q := ⟨a, xs, rfl, .inl ⟨h, q⟩⟩
theorem s_inT (h : SqT K H a xs) (hx : flatV x = true) (hs : xs.all flatV = true) (q : Q (.bl (inV x xs)) H) : rIn K false x (.ref a) H Q := ⟨a, xs, rfl, .inr h, hx, hs, q⟩
theorem s_ninT (h : SqT K H a xs) (hx : flatV x = true) (hs : xs.all flatV = true) (q : Q (.bl (!inV x xs)) H) : rIn K true x (.ref a) H Q := ⟨a, xs, rfl, .inr h, hx, hs, q⟩
theorem s_setL {l : Addr} {j : Nat} {R : Hp → Prop} (h : H l = some (.lst xs)) (e : ixN xs.length i = some j) (q : R (upd H l (.lst (xs.set j v)))) : rSetL (.ref l) (.int i) v H R := ⟨l, xs, i, j, rfl, rfl, h, e, q⟩
end
theorem kTT : kitB "tuple" "tuple" = some true := by decide +kernel
theorem kTS : kitB "tuple" "str" = some false := by decide +kernel
theorem kSS : kitB "str" "str" = some true := by decide +kernel
theorem kST : kitB "str" "tuple" = some false := by decide +kernel
theorem kNS : kitB "NoneType" "str" = some false := by decide +kernel
theorem kNT : kitB "NoneType" "tuple" = some false := by decide +kernel
theorem kIS : kitB "int" "str" = some false := by decide +kernel
theorem kIT : kitB "int" "tuple" = some false := by decide +kernel
theorem kBT : kitB "bool" "tuple" = some false := by decide +kernel
theorem kBS : kitB "bool" "str" = some false := by decide +kernel
theorem kLT : kitB "list" "tuple" = some false := by decide +kernel
theorem kDT : kitB "dict" "tuple" = some false := by decide +kernel
/-! ### data without lists, over heaps that keep the tuples -/
mutual
def noL : PyData → Bool
  | .list _ => false
  | .tuple xs => noLs xs
  | .dict _ => false
  | _ => true
def noLs : List PyData → Bool
  | [] => true
  | d :: r => noL d && noLs r
end
mutual
theorem Dp.tk {K : PySem.W.Frag} {H H' : Hp} (tk : ∀ b xs, SqT K H b xs → SqT K H' b xs) : ∀ (d : PyData) (v : V), noL d = true → Dp K H v d → Dp K H' v d
  | .none, _, _, h => by cases h; exact .non
  | .bool b, _, _, h => by cases h; exact .bl b
  | .int i, _, _, h => by cases h; exact .int i
  | .str x, _, _, h => by cases h; exact .str x
  | .list _, _, n, _ => by cases n
  | .dict _, _, n, _ => by cases n
  | .tuple ds, _, n, h => by
    cases h with
    | tup hs ha => exact .tup (tk _ _ hs) (DpAll.tk tk ds _ n ha)
theorem DpAll.tk {K : PySem.W.Frag} {H H' : Hp} (tk : ∀ b xs, SqT K H b xs → SqT K H' b xs) : ∀ (ds : List PyData) (vs : List V), noLs ds = true → DpAll K H vs ds → DpAll K H' vs ds
  | [], _, _, h => by cases h; exact .nil
  | d :: r, _, n, h => by
    have n' : noL d = true ∧ noLs r = true := Bool.and_eq_true_iff.mp n
    cases h with
    | cons h1 h2 => exact .cons (Dp.tk tk d _ n'.1 h1) (DpAll.tk tk r _ n'.2 h2)
end
theorem DpAll.app {K : PySem.W.Frag} {H : Hp} : ∀ {vs ws : List V} {ds es : List PyData}, DpAll K H vs ds → DpAll K H ws es → DpAll K H (vs ++ ws) (ds ++ es)
  | [], _, [], _, _, h => h
  | _ :: _, _, _ :: _, _, .cons a b, h => .cons a (DpAll.app b h)
  | [], _, _ :: _, _, h, _ => by cases h
  | _ :: _, _, [], _, h, _ => by cases h
theorem DpAll.length {K : PySem.W.Frag} {H : Hp} : ∀ {vs : List V} {ds : List PyData}, DpAll K H vs ds → vs.length = ds.length
  | [], [], _ => rfl
  | _ :: _, _ :: _, .cons _ b => congrArg (· + 1) (DpAll.length b)
  | [], _ :: _, h => by cases h
  | _ :: _, [], h => by cases h
theorem noLs_app {a b : List PyData} (h : noLs a = true) (h' : noLs b = true) : noLs (a ++ b) = true := by
  induction a with
  | nil => exact h'
  | cons d r ih =>
    have n : noL d = true ∧ noLs r = true := Bool.and_eq_true_iff.mp h
    exact Bool.and_eq_true_iff.mpr ⟨n.1, ih n.2⟩
theorem Keep.tk {S : List Addr} {H H' : Hp} {K : PySem.W.Frag} (k : Keep S H H') (hS : ∀ s ∈ S, ∃ xs, H s = some (.lst xs)) (b : Addr) (xs : List V) (h : SqT K H b xs) : SqT K H' b xs := by
  rcases h with (h | ⟨o, h⟩) | h
  · refine .inl (.inl (k _ _ h fun m => ?_))
    obtain ⟨ys, e⟩ := hS b m
    rw [h] at e; cases e
  · refine .inl (.inr ⟨o, k _ _ h fun m => ?_⟩)
    obtain ⟨ys, e⟩ := hS b m
    rw [h] at e; cases e
  · exact .inr h
/-! ### comprehensions that change nothing -/
section
variable {J : It} {n : Nat} {G : Hp → Prop} {Y : Nat → Hp → V → Hp → Prop}
def pick (f : V → Bool) (g : V → V) (xs : List V) : List V := (xs.filter f).map g
theorem pick_yes {f : V → Bool} {g : V → V} {xs : List V} {x : V} (h : f x = true) : pick f g (xs ++ [x]) = pick f g xs ++ [g x] := by
  unfold pick
  rw [List.filter_append, List.map_append]
  simp [h]
theorem pick_no {f : V → Bool} {g : V → V} {xs : List V} {x : V} (h : f x = false) : pick f g (xs ++ [x]) = pick f g xs := by
  unfold pick
  rw [List.filter_append]
  simp [h]
theorem pick_len {f : V → Bool} {g : V → V} {xs : List V} : (pick f g xs).length ≤ xs.length := by
  unfold pick
  rw [List.length_map]
  exact List.length_filter_le _ _
theorem lc_pure (w : Walk J n G Y) {xs : List V} (hn : xs.length = n) (hY : ∀ i H x H', i < n → Y i H x H' → H' = H ∧ xs[i]? = some x) (hz : n ≤ 1000000) {j : Nat} {tt : TT} {te : TE} {vs : List Nat} {σ : L2.St} {H : Hp} {D : Addr} {Qd : Hp → Prop}
    (f : V → Bool) (g : V → V) (hD : H D = none) (hG : ∀ H', Keep [] H H' → G H') (hw : ∀ x, wipe ((wipe σ vs).set j (some x)) vs = wipe σ vs)
    (ht : ∀ x H1, x ∈ xs → Keep [] H H1 → ∀ R : Bool → Hp → Prop, (∀ H2, Keep [] H1 H2 → R (f x) H2) → tt ((wipe σ vs).set j (some x)) H1 R)
    (he : ∀ x H1, x ∈ xs → f x = true → Keep [] H H1 → ∀ R : VK, (∀ H2, Keep [] H1 H2 → R (g x) H2) → te ((wipe σ vs).set j (some x)) H1 R)
    (q : ∀ H', Keep [] H H' → H' D = some (.lst (pick f g xs)) → Qd H') :
    ∃ W : Nat → Nat → Hp → Prop, (∃ m, W 0 m (upd H D (.lst []))) ∧ ∀ i m H, W i m H →
      (J.stop i H ∧ Qd H) ∨ (J.go i H ∧ ∃ Nx : Hp → Prop, (∀ H', Nx H' → ∃ m', m' < m ∧ W (i + 1) m' H') ∧ ∀ x H', J.yld i H x H' → gName j x (wipe σ vs) H' fun σ2 H2 => wipe σ2 vs = wipe σ vs ∧ tt σ2 H2 fun b H3 =>
        if b = true then te σ2 H3 fun y H4 => ∃ acc, H4 D = some (.lst acc) ∧ acc.length < sizeLine ∧ Nx (upd H4 D (.lst (acc ++ [y]))) else Nx H3) := by
  refine lc_it w (fun i H' => Keep [] H H' ∧ H' D = some (.lst (pick f g (xs.take i)))) ⟨Keep.new hD, upd_same⟩ (fun i H' _ p => hG H' p.1) ?_ ?_
  · rintro i x H1 H2 hi ⟨k, e⟩ y
    obtain ⟨rfl, hx⟩ := hY i H1 x H2 hi y
    have tk := take_more hx
    have mem : x ∈ xs := List.mem_of_getElem? hx
    refine ⟨hw x, ht x _ mem k _ fun H3 k3 => ?_⟩
    have lz : (pick f g (xs.take i)).length < sizeLine := szl_of (Nat.le_trans pick_len (by rw [List.length_take]; omega) : _ ≤ 1000000)
    refine iteB (fun hf => he x _ mem hf (k.trans k3) _ fun H4 k4 => ⟨_, (k3.trans k4).at e, lz, ?_, ?_⟩) (fun hf => ⟨k.trans k3, ?_⟩)
    · exact ((k.trans k3).trans k4).own hD
    · rw [upd_same, tk, pick_yes hf]
    · rw [tk, pick_no hf]
      exact k3.at e
  · rintro H' ⟨k, e⟩
    refine q H' k ?_
    rw [e, ← hn, List.take_length]
end
section
variable {K : PySem.W.Frag} {σ : L2.St} {H : Hp} {Q : VK} {j : Nat} {tt : TT} {te : TE} {vs : List Nat} {a : Addr} {xs : List V} {z : Str}
theorem lcL {tl : TE} (f : V → Bool) (g : V → V) (hl : ∀ R : VK, (∀ a H0, Keep [] H H0 → SqL K H0 a xs → R (.ref a) H0) → tl σ H R) (hz : xs.length ≤ 1000000) (hw : ∀ x, wipe ((wipe σ vs).set j (some x)) vs = wipe σ vs)
    (ht : ∀ x H1, x ∈ xs → Keep [] H H1 → ∀ R : Bool → Hp → Prop, (∀ H2, Keep [] H1 H2 → R (f x) H2) → tt ((wipe σ vs).set j (some x)) H1 R)
    (he : ∀ x H1, x ∈ xs → f x = true → Keep [] H H1 → ∀ R : VK, (∀ H2, Keep [] H1 H2 → R (g x) H2) → te ((wipe σ vs).set j (some x)) H1 R)
    (q : ∀ D H', H D = none → Keep [] H H' → H' D = some (.lst (pick f g xs)) → Q (.ref D) H') : tLc (iList K tl) (gName j) tt te vs σ H Q :=
  hl _ fun a H0 k0 hs => ⟨a, rfl, ⟨xs, hs⟩, fun D hD => lc_pure walk_list rfl (fun i H x H' _ y => y) hz f g hD (fun H' k => k.sqL hs) hw
    (fun x H1 m k => ht x H1 m (k0.trans k)) (fun x H1 m hf k => he x H1 m hf (k0.trans k)) fun H' k e => q D H' (k0.none hD) (k0.trans k) e⟩
theorem lcT {tl : TE} (f : V → Bool) (g : V → V) (hl : ∀ R : VK, (∀ a H0, Keep [] H H0 → SqT K H0 a xs → R (.ref a) H0) → tl σ H R) (hz : xs.length ≤ 1000000) (hw : ∀ x, wipe ((wipe σ vs).set j (some x)) vs = wipe σ vs)
    (ht : ∀ x H1, x ∈ xs → Keep [] H H1 → ∀ R : Bool → Hp → Prop, (∀ H2, Keep [] H1 H2 → R (f x) H2) → tt ((wipe σ vs).set j (some x)) H1 R)
    (he : ∀ x H1, x ∈ xs → f x = true → Keep [] H H1 → ∀ R : VK, (∀ H2, Keep [] H1 H2 → R (g x) H2) → te ((wipe σ vs).set j (some x)) H1 R)
    (q : ∀ D H', H D = none → Keep [] H H' → H' D = some (.lst (pick f g xs)) → Q (.ref D) H') : tLc (iTup K tl) (gName j) tt te vs σ H Q :=
  hl _ fun a H0 k0 hs => ⟨a, rfl, ⟨xs, hs⟩, fun D hD => lc_pure walk_tup rfl (fun i H x H' _ y => y) hz f g hD (fun H' k => k.sqT hs) hw
    (fun x H1 m k => ht x H1 m (k0.trans k)) (fun x H1 m hf k => he x H1 m hf (k0.trans k)) fun H' k e => q D H' (k0.none hD) (k0.trans k) e⟩
/-- a text's signs as values -/
def signsV (z : Str) : List V := (cs z).map fun c => .str ⟨#[c]⟩
theorem lcS {tl : TE} (f : V → Bool) (g : V → V) (hl : ∀ R : VK, (∀ H0, Keep [] H H0 → R (.str z) H0) → tl σ H R) (hz : (cs z).length ≤ 1000000) (hw : ∀ x, wipe ((wipe σ vs).set j (some x)) vs = wipe σ vs)
    (ht : ∀ x H1, x ∈ signsV z → Keep [] H H1 → ∀ R : Bool → Hp → Prop, (∀ H2, Keep [] H1 H2 → R (f x) H2) → tt ((wipe σ vs).set j (some x)) H1 R)
    (he : ∀ x H1, x ∈ signsV z → f x = true → Keep [] H H1 → ∀ R : VK, (∀ H2, Keep [] H1 H2 → R (g x) H2) → te ((wipe σ vs).set j (some x)) H1 R)
    (q : ∀ D H', H D = none → Keep [] H H' → H' D = some (.lst (pick f g (signsV z))) → Q (.ref D) H') : tLc (iStr tl) (gName j) tt te vs σ H Q :=
  hl _ fun H0 k0 => ⟨z, rfl, fun D hD => lc_pure walk_str (xs := signsV z) (by unfold signsV; rw [List.length_map]; exact Array.length_toList) (fun i H x H' _ y => by
      obtain ⟨e, c, h1, h2⟩ := y
      refine ⟨e, ?_⟩
      unfold signsV
      rw [List.getElem?_map, Array.getElem?_toList, h1, h2]
      rfl) (by rw [← Array.length_toList]; exact hz) f g hD (fun _ _ => True.intro) hw
    (fun x H1 m k => ht x H1 m (k0.trans k)) (fun x H1 m hf k => he x H1 m hf (k0.trans k)) fun H' k e => q D H' (k0.none hD) (k0.trans k) e⟩
end
/-- a comprehension over a range whose turns change S and keep G -/
theorem lc_rng {S : List Addr} {n : Nat} (G : Hp → Prop) (Pv : V → Prop) {j : Nat} {te : TE} {vs : List Nat} {σ : L2.St} {H : Hp} {D : Addr} {Qd : Hp → Prop} (hD : H D = none) (hS : D ∉ S) (g0 : G H) (gU : ∀ H2 o, Keep S H H2 → G H2 → G (upd H2 D o)) (hn : n ≤ 1000000)
    (hw : ∀ x, wipe ((wipe σ vs).set j (some x)) vs = wipe σ vs)
    (he : ∀ (i : Nat) H2, i < n → Keep S H H2 → G H2 → ∀ R : VK, (∀ v H3, Keep S H2 H3 → G H3 → Pv v → R v H3) → te ((wipe σ vs).set j (some (.int (0 + (i : Nat))))) H2 R)
    (q : ∀ H' acc, Keep S H H' → G H' → H' D = some (.lst acc) → (∀ v ∈ acc, Pv v) → acc.length = n → Qd H') :
    ∃ W : Nat → Nat → Hp → Prop, (∃ m, W 0 m (upd H D (.lst []))) ∧ ∀ i m H, W i m H →
      ((Itr 0 n).stop i H ∧ Qd H) ∨ ((Itr 0 n).go i H ∧ ∃ Nx : Hp → Prop, (∀ H', Nx H' → ∃ m', m' < m ∧ W (i + 1) m' H') ∧ ∀ x H', (Itr 0 n).yld i H x H' → gName j x (wipe σ vs) H' fun σ2 H2 => wipe σ2 vs = wipe σ vs ∧ tYes σ2 H2 fun b H3 =>
        if b = true then te σ2 H3 fun y H4 => ∃ acc, H4 D = some (.lst acc) ∧ acc.length < sizeLine ∧ Nx (upd H4 D (.lst (acc ++ [y]))) else Nx H3) := by
  refine lc_range (fun i H' => Keep S H H' ∧ G H' ∧ ∃ acc, H' D = some (.lst acc) ∧ (∀ v ∈ acc, Pv v) ∧ acc.length = i) ⟨Keep.new hD, gU H _ Keep.refl g0, [], upd_same, fun _ m => (nomatch m), rfl⟩ ?_ ?_
  · rintro i H1 hi ⟨k, g, acc, e, ha, hl⟩
    refine ⟨hw _, ?_⟩
    dsimp only [tYes]
    rw [if_pos rfl]
    refine he i H1 hi k g _ fun v H3 k3 g3 hv => ⟨acc, k3 _ _ e hS, szl_of (by omega : acc.length ≤ 1000000), (k.trans k3).own hD, gU H3 _ (k.trans k3) g3, _, upd_same, fun v' m => ?_, ?_⟩
    · rcases List.mem_append.mp m with m | m
      · exact ha v' m
      · rw [List.mem_singleton.mp m]; exact hv
    · rw [List.length_append, hl]; rfl
  · rintro H' ⟨k, g, acc, e, ha, hl⟩
    exact q H' acc k g e ha hl
/-! ### what join makes -/
theorem cs_join0 : ∀ zs : List Str, cs (Txt.join "" zs) = (zs.map cs).flatten := fun zs => by
  rw [TL.join_eq]
  show TL.tl (Str.join "" zs) = _
  rw [TL.tl_join]
  have go : ∀ ps : List (List Nat), TL.joinL (TL.tl "") ps = ps.flatten := by
    intro ps
    induction ps with
    | nil => rfl
    | cons p r ih =>
      cases r with
      | nil => simp [TL.joinL]
      | cons p' r' =>
        show p ++ ((TL.tl "") ++ TL.joinL (TL.tl "") (p' :: r')) = _
        rw [ih]
        rfl
  exact go _
/-! ### lists of texts compared -/
def okS (z : Str) : Bool := PySem.PyData.canLay0 (.str z)
theorem okS_of {z : Str} (h : ∀ c ∈ cs z, c < 1114112) : okS z = true := by
  show (z.cps.all fun c => decide (c < 0x110000)) = true
  rw [← Array.all_toList]
  exact List.all_eq_true.mpr fun c hc => decide_eq_true (h c hc)
theorem dpStrs {K : PySem.W.Frag} {H : Hp} : ∀ os : List Str, DpAll K H (os.map V.str) (os.map PyData.str)
  | [] => .nil
  | o :: r => .cons (.str o) (dpStrs r)
theorem layStrs : ∀ {os : List Str}, (∀ m ∈ os, okS m = true) → PyData.canLayAll0 (os.map PyData.str) = true ∧ PyData.depthAll (os.map PyData.str) = 0
  | [], _ => ⟨rfl, rfl⟩
  | o :: r, h => by
    obtain ⟨a, b⟩ := layStrs (os := r) fun m hm => h m (List.mem_cons_of_mem _ hm)
    refine ⟨?_, ?_⟩
    · show (PyData.canLay0 (.str o) && PyData.canLayAll0 (r.map PyData.str)) = true
      rw [a, show PyData.canLay0 (.str o) = true from h o List.mem_cons_self]
      rfl
    · show max (PyData.depth (.str o)) (PyData.depthAll (r.map PyData.str)) = 0
      rw [b]
      rfl
theorem shapedStrs {os : List Str} (h : ∀ m ∈ os, okS m = true) : SeqAt.shaped (.list (os.map PyData.str)) = true := by
  obtain ⟨a, b⟩ := layStrs h
  unfold SeqAt.shaped
  rw [show PyData.canLay0 (.list (os.map PyData.str)) = PyData.canLayAll0 (os.map PyData.str) from rfl, a, show PyData.depth (.list (os.map PyData.str)) = PyData.depthAll (os.map PyData.str) + 1 from rfl, b]
  rfl
theorem eqvNil : ∀ os : List Str, PyData.eqv (.list (os.map PyData.str)) (.list []) = os.isEmpty
  | [] => rfl
  | _ :: _ => rfl
section
variable {K : PySem.W.Frag} {H : Hp} {Q : VK} {a b : Addr} {os : List Str}
theorem s_eqNil (h : SqL K H a (os.map V.str)) (h2 : SqL K H b []) (ok : ∀ m ∈ os, okS m = true) (q : Q (.bl os.isEmpty) H) : rEqD K (.ref a) (.ref b) H Q :=
  ⟨.list (os.map PyData.str), .list [], .lst h (dpStrs os), .lst h2 .nil, shapedStrs ok, rfl, by rw [eqvNil]; exact q⟩
theorem s_neNil (h : SqL K H a (os.map V.str)) (h2 : SqL K H b []) (ok : ∀ m ∈ os, okS m = true) (q : Q (.bl (!os.isEmpty)) H) : rNeD K (.ref a) (.ref b) H Q :=
  ⟨.list (os.map PyData.str), .list [], .lst h (dpStrs os), .lst h2 .nil, shapedStrs ok, rfl, by rw [eqvNil]; exact q⟩
end
end FR

set_option Elab.async false
set_option linter.all false
set_option maxRecDepth 100000
set_option maxHeartbeats 4000000
/-! FRE: the end of a law's row: from a promise that leans on the guards to the row's walk, with tables of lambdas. -/
namespace FR
open PySem PySem.Spec PyProof.Rows L2
abbrev tob : Obj := { cls := .none, data := .fields #[] }
abbrev sob (vs : List Value) : Obj := { cls := .type "list", data := .seq vs.toArray }
open Classical in
/-- what is tracked as the law is called: the tables, and the script unless it is written -/
noncomputable def hp0 (K : PySem.W.Frag) (T : List Addr) (a : Addr) (vs : List Value) (xs : List V) : Hp := fun b =>
  if b ∈ T then some (.tbl #[]) else if b = a ∧ K.lookup a = none then some (.frz (sob vs) (.lst xs)) else none
theorem hp0_inv {K : PySem.W.Frag} {T : List Addr} {a b : Addr} {vs : List Value} {xs : List V} {u : HO} (h : hp0 K T a vs xs b = some u) : (b ∈ T ∧ u = .tbl #[]) ∨ (b = a ∧ K.lookup a = none ∧ u = .frz (sob vs) (.lst xs)) := by
  unfold hp0 at h
  by_cases h1 : b ∈ T
  · rw [if_pos h1] at h
    exact .inl ⟨h1, (Option.some.inj h).symm⟩
  · rw [if_neg h1] at h
    by_cases h2 : b = a ∧ K.lookup a = none
    · rw [if_pos h2] at h
      exact .inr ⟨h2.1, h2.2, (Option.some.inj h).symm⟩
    · rw [if_neg h2] at h
      cases h
section
variable {P : Program} {w : World} {K : PySem.W.Frag} {mg mb : Str → Option Value} {k : Nat} {fa a : Addr} {cs : List (Addr × Addr)} {fd : FuncData} {x : Str} {sp : Sp} {s : Shared} {vs : List Value} {ns : List Int}
theorem law_callG (KX : K.In s.heap) (gn : s.heap.Ns mainGlobals mg) (bn : s.heap.Ns builtinsNs mb) (bb : ∀ x : Str, x ≠ "__name__" → mb x = bootBuiltins x) (nl : s.heap.NoLimit) (ng : s.gens = #[])
    (tT : ∀ p ∈ cs, s.heap.get? p.2 = some tob) (tK : ∀ p ∈ cs, K.lookup p.2 = none) (tC : ∀ p ∈ cs, PySem.W.CodeHd s.heap p.1 p.2)
    (tM : ∃ bm ob, mg "__builtins__" = some (.ref bm) ∧ bm ≠ builtinsNs ∧ s.heap.get? bm = some ob ∧ ob.cls = .type "module" ∧ ob.dict = some builtinsNs ∧ ob.data = .plain)
    (sa : s.heap.get? a = some (sob vs)) (si : IntsAre vs ns) (sl : ns.length ≤ sizeLine) (hr : Room k callerA)
    (F : ∀ base : Heap, K.In base → base.Ns mainGlobals mg → (∀ p ∈ cs, LamX.TabB base mg p.1 p.2) → FnG P w K mg base CX0 k fa fd [x] sp) (hb : ∀ u : Value, BindsTo s fd ⟨[u], []⟩ [(x, u)])
    (law : ∀ H : Hp, (∀ p ∈ cs, H p.2 = some (.tbl #[])) → SqL K H a (ns.map V.int) → sp [.ref a] H (fun v _ => v = .bl true) fun _ _ _ => False) :
    codeAny (model P w) callerA (.call (.ref fa) ⟨[.ref a], []⟩) (fun r s' => r = .ok (.ret (.bool true)) ∧ OldK s.heap s'.heap ∧ s'.os = s.os ∧ AllBare s'.gens) s := by
  have rv := vals_ints si
  have vl : vs.length = ns.length := si.length
  have mT : ∀ p ∈ cs, p.2 ∈ cs.map (·.2) := fun p m => List.mem_map_of_mem m
  have oT : ∀ b ∈ cs.map (·.2), s.heap.get? b = some tob := fun b m => by
    obtain ⟨p, hp, rfl⟩ := List.mem_map.mp m
    exact tT p hp
  have so_ne : sob vs ≠ tob := fun q => nomatch congrArg Obj.cls q
  have aT : a ∉ cs.map (·.2) := fun m => so_ne (Option.some.inj (sa.symm.trans (oT a m)))
  generalize hH : hp0 K (cs.map (·.2)) a vs (ns.map V.int) = H
  have inv : ∀ {b u}, H b = some u → (b ∈ cs.map (·.2) ∧ u = .tbl #[]) ∨ (b = a ∧ K.lookup a = none ∧ u = .frz (sob vs) (.lst (ns.map V.int))) := fun {b u} e => by
    rw [← hH] at e
    exact hp0_inv e
  have HT : ∀ b ∈ cs.map (·.2), H b = some (.tbl #[]) := fun b m => by
    rw [← hH]
    exact if_pos m
  -- what is no table and no list of the script's is not tracked
  have free : ∀ {b o}, s.heap.get? b = some o → o ≠ tob → o ≠ sob vs → H b = none := fun {b o} e n1 n2 => by
    cases q : H b with
    | none => rfl
    | some u =>
      rcases inv q with ⟨m, _⟩ | ⟨rfl, _⟩
      · exact absurd (Option.some.inj (e.symm.trans (oT b m))) n1
      · exact absurd (Option.some.inj (e.symm.trans sa)) n2
  have stay : ∀ {b o}, s.heap.get? b = some o → o ≠ tob → o ≠ sob vs → (hidT s.heap H).get? b = some o := fun e n1 n2 => hidT_get e (free e n1 n2)
  have nsS : ∀ {b : Addr} {m : Str → Option Value}, s.heap.Ns b m → (hidT s.heap H).Ns b m := fun ⟨o, es, ep, e, d, r⟩ =>
    ⟨o, es, ep, stay e (fun q => by rw [q] at d; cases d) (fun q => by rw [q] at d; cases d), d, r⟩
  have sq : SqL K H a (ns.map V.int) := by
    cases q : K.lookup a with
    | none =>
      refine .inl (.inr ⟨sob vs, ?_⟩)
      rw [← hH]
      exact (if_neg aT).trans (if_pos ⟨rfl, q⟩)
    | some o =>
      have e := Option.some.inj ((KX a o q).symm.trans sa)
      subst e
      exact .inr ⟨_, vs.toArray, _, q, rfl, rfl, rfl, by rw [List.size_toArray, vl]; exact sl, by simpa using rv⟩
  have KB : K.In (hidT s.heap H) := fun b o e => by
    refine hidT_get (KX b o e) ?_
    cases q : H b with
    | none => rfl
    | some u =>
      rcases inv q with ⟨m, _⟩ | ⟨rfl, n, _⟩
      · obtain ⟨p, hp, rfl⟩ := List.mem_map.mp m
        rw [tK p hp] at e; cases e
      · rw [n] at e; cases e
  have ok : HOk P w H s.heap := fun b u e => by
    rcases inv e with ⟨m, rfl⟩ | ⟨rfl, _, rfl⟩
    · exact oT b m
    · exact ⟨sa, by rw [List.length_map]; exact sl, vs, _, rv, sa⟩
  have TB : ∀ p ∈ cs, LamX.TabB (hidT s.heap H) mg p.1 p.2 := fun p hp => by
    refine ⟨?_, ?_, fun q => ?_⟩
    · obtain ⟨o, us, file, tf, flags, tg, inF, text, tt, e1, r1, r2, r3, rest⟩ := tC p hp
      refine ⟨o, us, file, tf, flags, tg, inF, text, tt, stay e1 (fun q => ?_) (fun q => ?_), r1, r2, r3, rest⟩
      · rw [q] at r1; cases r1
      · rw [q] at r2; cases r2
    · obtain ⟨bm, ob, b1, b2, b3, b4, b5, b6⟩ := tM
      refine ⟨bm, ob, b1, b2, fun q => ?_, fun q => ?_, stay b3 (fun q => ?_) (fun q => ?_), b4, b5, b6⟩
      · obtain ⟨o, es, ep, e, d, _⟩ := gn
        have z := Option.some.inj ((q ▸ b3).symm.trans e)
        rw [← z, b6] at d; cases d
      · have z := Option.some.inj ((q ▸ b3).symm.trans (tT p hp))
        rw [z] at b6; cases b6
      · rw [q] at b6; cases b6
      · rw [q] at b6; cases b6
    · obtain ⟨o, es, ep, e, d, _⟩ := gn
      have z := Option.some.inj ((q ▸ e).symm.trans (tT p hp))
      rw [z] at d; cases d
  have md : L2.Mod K mg (hidT s.heap H) := ⟨KB, nsS gn, ⟨mb, nsS bn, bb⟩, let ⟨mc, h1, h2⟩ := nl; ⟨mc, nsS h1, h2⟩⟩
  have e0 : Env0 P w K mg (hidT s.heap H) callerA [] s H :=
    { frames := rfl, mod := md, bs := fun b o e => of_hidT e, bsz := Nat.le_of_eq (hidT_size _ _), funs := trivial, frf := fun b m => (nomatch m), hok := ok, bare := .of_eq ng }
  refine codeAny_mono ((F _ KB (nsS gn) TB).run callerA [] s H ⟨[.ref a], []⟩ [.ref a] [.ref a] _ _ rfl hr e0 (hb (.ref a)) (.cons rfl .nil) (law H (fun p hp => HT _ (mT p hp)) sq)) fun r s' h => ?_
  match r, h with
  | .error e, h => exact (h : CX0 [] H s _ e s').elim
  | .ok .next, h => exact False.elim h
  | .ok .brk, h => exact False.elim h
  | .ok .cont, h => exact False.elim h
  | .ok (.ret u), h =>
    obtain ⟨v, H', os, bare, un, ok', r', q⟩ := h
    have q : v = .bl true := q
    subst q
    have r' : u = Value.bool true := r'
    subst r'
    have same : ∀ {b o}, b ∉ cs.map (·.2) → s.heap.get? b = some o → s'.heap.get? b = some o := fun {b o} n e => by
      cases z : H b with
      | none => exact un.keep b o e z (fun m => nomatch m) (fun m => nomatch m)
      | some u =>
        rcases inv z with ⟨m, _⟩ | ⟨rfl, _, rfl⟩
        · exact absurd m n
        · have z' := (ok' _ _ (un.frzs _ _ _ z)).1
          rw [← Option.some.inj (sa.symm.trans e)]
          exact z'
    have more : ∀ p ∈ cs, ∃ more : Array Value, s'.heap.get? p.2 = some { cls := .none, data := .fields more } := fun p hp => by
      obtain ⟨m, z⟩ := un.tbls p.2 #[] (HT _ (mT p hp))
      exact ⟨_, ok' _ _ z⟩
    refine ⟨rfl, ⟨fun b o e => ?_, fun b o e => ?_⟩, os, bare⟩
    · by_cases m : b ∈ cs.map (·.2)
      · obtain ⟨p, hp, rfl⟩ := List.mem_map.mp m
        obtain ⟨arr, z⟩ := more p hp
        have eo := Option.some.inj (e.symm.trans (tT p hp))
        subst eo
        exact .inr (.inl ⟨((tC p hp).tab (tT p hp)).isCodeTable, rfl, #[], arr, rfl, by rw [Array.empty_append]; exact z⟩)
      · exact .inl (same m e)
    · by_cases m : b ∈ cs.map (·.2)
      · obtain ⟨p, hp, rfl⟩ := List.mem_map.mp m
        obtain ⟨arr, z⟩ := more p hp
        exact ⟨_, z⟩
      · exact ⟨o, same m e⟩
end
/-- what is told of the law's promise at the heap h behind the top -/
structure LawG (P : Program) (w : World) (K : PySem.W.Frag) (k n : Nat) (x : Str) (mg : Str → Option Value) (fa : Addr) (h : Heap) : Prop where
  ex : ∃ (fd : FuncData) (cs : List (Addr × Addr)) (sp : Sp), (∀ p ∈ cs, PySem.W.CodeHd h p.1 p.2 ∧ h.get? p.2 = some tob ∧ K.lookup p.2 = none) ∧ (∀ (s : Shared) (u : Value), BindsTo s fd ⟨[u], []⟩ [(x, u)]) ∧
    (∀ (H : Hp) (a : Addr) (ns : List Int), ns.length ≤ n → (∀ p ∈ cs, H p.2 = some (.tbl #[])) → SqL K H a (ns.map V.int) → sp [.ref a] H (fun v _ => v = .bl true) fun _ _ _ => False) ∧
    ∀ base : Heap, K.In base → base.Ns mainGlobals mg → (∀ p ∈ cs, LamX.TabB base mg p.1 p.2) → FnG P w K mg base CX0 k fa fd [x] sp
theorem walk_G {l : PySem.W.OpenLaw} {n k : Nat} {q : Program} {loose : List Str} {XP : (Str → Option Value) → Heap → Prop} {YP : World → Heap → Prop} {d : DefRec} {K : Params → PySem.W.Frag} {x : Str}
    (hn : l.most = some n) (hn2 : n ≤ sizeLine) (hdf : d.params.defaults = []) (hr : Room k callerA) (hY : ∀ (w : World) (h : Heap), YP w h → (K w.params).In h)
    (F : ∀ (w : World) (lo : List Str) (mean : ExcName → Option Value) (mg mb : Str → Option Value) (fa : Addr) (h : Heap), (K w.params).In h → Top q lo mean mg mb h → mg d.name = some (.ref fa) → LawG l.prog w (K w.params) k n x mg fa h) :
    PySem.W.WalkO q loose XP YP l.row.toRowW d [] (fun f vs => PySem.call f vs) := by
  refine Att.attach_callB hn hdf fun w _ s mg mb fa _ _ _ _ a vs ns G Y _ _ _ e1 e2 e3 e4 _ e5 => ?_
  obtain ⟨fd, cs, sp, h1, h2, h3, h4⟩ := (F w _ _ mg mb fa _ (hY w _ Y) G.T e1).ex
  exact law_callG (hY w _ Y) G.T.g G.T.b G.T.builtins G.T.nolimit e5 (fun p m => (h1 p m).2.1) (fun p m => (h1 p m).2.2) (fun p m => (h1 p m).1) G.T.bmain e2 e3 (Nat.le_trans e4 hn2) hr h4 (h2 s) fun H hH hs => h3 H a ns e4 hH hs
/-! ### defs that stand in the written part -/
structure DefIn (K : PySem.W.Frag) (mg : Str → Option Value) (x : Str) (st : Stmt) : Prop where
  ex : ∃ f fd, mg x = some (.ref f) ∧ Fun K x x st f fd
/-- a def whose code is at c -/
structure DefT (K : PySem.W.Frag) (mg : Str → Option Value) (x : Str) (st : Stmt) (c : Addr) : Prop where
  ex : ∃ (f : Addr) (oc : Value) (od : Option Addr) (kV doc pm : Value) (an : Option Addr) (ct : Value) (osl : Array (Option Value)), mg x = some (.ref f) ∧ PySem.W.keepIn K (.ref f) = true ∧
    K.lookup f = some ⟨oc, od, .func (PySem.W.fnOf x x (defArgs st) (defBody st) (defScope st) .none kV doc pm an (.ref c) ct), osl⟩ ∧ PySem.W.codeIn K (.ref c) x = true
section
variable {P : Program} {w : World} {K : PySem.W.Frag} {mg : Str → Option Value} {base h : Heap} {x : Str} {st : Stmt} {f c : Addr} {oc : Value} {od an : Option Addr} {osl : Array (Option Value)} {kV doc pm cdv ct : Value} {N ps : List Str} {k : Nat} {sp : Sp}
theorem def_in (X : K.In h) (G : h.Ns mainGlobals mg) (a : PySem.W.nsIn K mainGlobals x = some (some (.ref f)))
    (l : K.lookup f = some ⟨oc, od, .func (PySem.W.fnOf x x (defArgs st) (defBody st) (defScope st) .none kV doc pm an cdv ct), osl⟩) (c : PySem.W.codeIn K cdv x = true) (k : PySem.W.keepIn K (.ref f) = true) : DefIn K mg x st :=
  ⟨⟨f, _, PySem.W.mg_of X G a, fun_mk l c k⟩⟩
theorem def_t (X : K.In h) (G : h.Ns mainGlobals mg) (a : PySem.W.nsIn K mainGlobals x = some (some (.ref f)))
    (l : K.lookup f = some ⟨oc, od, .func (PySem.W.fnOf x x (defArgs st) (defBody st) (defScope st) .none kV doc pm an (.ref c) ct), osl⟩) (hc : PySem.W.codeIn K (.ref c) x = true) (k : PySem.W.keepIn K (.ref f) = true) : DefT K mg x st c :=
  ⟨⟨f, oc, od, kV, doc, pm, an, ct, osl, PySem.W.mg_of X G a, k, l, hc⟩⟩
abbrev BindsBy (x : Str) (st : Stmt) (ps : List Str) : Prop := ∀ (kV doc pm : Value) (an : Option Addr) (cdv ct : Value) (us : List Value), us.length = ps.length → bindArgs (PySem.W.fnOf x x (defArgs st) (defBody st) (defScope st) .none kV doc pm an cdv ct) ⟨us, []⟩ = pure (ps.zip us)
theorem DefIn.has (D : DefIn K mg x st) (S : FnScope N ps (defScope st)) (b : BindsBy x st ps) (len : ∀ vs H Q E, sp vs H Q E → vs.length = ps.length)
    (hbody : ∀ (f : Addr) (cdv : Value) (A : Around) (outer : List Env) (s : Shared) (H : Hp) (vs : List V) (Q : VK) (E : XK), Room k (A.deeper (envOfC x (defScope st) s.heap.objs.size f cdv)) → sp vs H Q E →
      ∃ t, PSs (cxOf CX0 P w K mg base N x (defScope st) f cdv A outer s H E).nox (defBody st) t ∧ t { nx := fun _ H' => Q .non H', rt := Q } (L2.start N vs) H) : Has P w K mg base CX0 x (k + 1) ps sp := by
  obtain ⟨f, fd, m, F⟩ := D.ex
  exact ⟨⟨f, fd, m, F.kp, F.binds b, F.ok S len (hbody f)⟩⟩
theorem DefIn.hasX (D : DefIn K mg x st) (S : FnScope N ps (defScope st)) (b : BindsBy x st ps) (len : ∀ vs H Q E, sp vs H Q E → vs.length = ps.length)
    (hbody : ∀ (f : Addr) (cdv : Value) (A : Around) (outer : List Env) (s : Shared) (H : Hp) (vs : List V) (Q : VK) (E : XK), Room k (A.deeper (envOfC x (defScope st) s.heap.objs.size f cdv)) → sp vs H Q E →
      ∃ t, PSs (cxOf (L2.CX P w) P w K mg base N x (defScope st) f cdv A outer s H E) (defBody st) t ∧ t { nx := fun _ H' => Q .non H', rt := Q } (L2.start N vs) H) : Has P w K mg base (L2.CX P w) x (k + 1) ps sp := by
  obtain ⟨f, fd, m, F⟩ := D.ex
  exact ⟨⟨f, fd, m, F.kp, F.binds b, F.okX S len (hbody f)⟩⟩
theorem DefIn.hasG (D : DefIn K mg x st) (S : FnScope N ps (defScope st)) (b : BindsBy x st ps) (len : ∀ vs H Q E, sp vs H Q E → vs.length = ps.length)
    (hbody : ∀ (f : Addr) (cdv : Value) (A : Around) (outer : List Env) (s : Shared) (H : Hp) (vs : List V) (Q : VK) (E : XK), A.guards = some [] → Room k (A.deeper (envOfC x (defScope st) s.heap.objs.size f cdv)) → sp vs H Q E →
      ∃ t, PSs (cxOf CX0 P w K mg base N x (defScope st) f cdv A outer s H E).nox (defBody st) t ∧ t { nx := fun _ H' => Q .non H', rt := Q } (L2.start N vs) H) : HasG P w K mg base CX0 x (k + 1) ps sp := by
  obtain ⟨f, fd, m, F⟩ := D.ex
  exact ⟨⟨f, fd, m, F.kp, F.binds b, Fun.okG (N := N) F S len (hbody f)⟩⟩
theorem DefIn.hasL {a : Str} (D : DefIn K mg x st) (S : FnScope N [a] (defScope st)) (b : BindsBy x st [a]) (n0 : N[0]? = some a) (v : Vis (defScope st) a) : HasL K mg x a st N := by
  obtain ⟨f, fd, m, F⟩ := D.ex
  have bb := F.binds b
  obtain ⟨oc, od, kV, doc, pm, an, cdv, ct, osl, e, lk, hcd⟩ := F.ex
  subst e
  exact ⟨⟨f, oc, od, .none, kV, doc, pm, an, cdv, ct, osl, m, F.kp, lk, hcd, bb⟩, S, n0, v⟩
theorem DefT.hasG (D : DefT K mg x st c) (S : FnScope N ps (defScope st)) (b : BindsBy x st ps) (len : ∀ vs H Q E, sp vs H Q E → vs.length = ps.length)
    (hbody : ∀ (f : Addr) (A : Around) (outer : List Env) (s : Shared) (H : Hp) (vs : List V) (Q : VK) (E : XK), A.guards = some [] → Room k (A.deeper (envOfC x (defScope st) s.heap.objs.size f (.ref c))) → sp vs H Q E →
      ∃ t, PSs (cxOf CX0 P w K mg base N x (defScope st) f (.ref c) A outer s H E).nox (defBody st) t ∧ t { nx := fun _ H' => Q .non H', rt := Q } (L2.start N vs) H) : HasG P w K mg base CX0 x (k + 1) ps sp := by
  obtain ⟨f, oc, od, kV, doc, pm, an, ct, osl, m, kp, lk, cd⟩ := D.ex
  refine ⟨⟨f, _, m, kp, .all (b kV doc pm an (.ref c) ct), fnG_of lk cd S len fun A outer s H vs Q E hgd hr hsp => ?_⟩⟩
  obtain ⟨t, ht, hq⟩ := hbody f A outer s H vs Q E hgd hr hsp
  exact ⟨t, ht.nox, hq⟩
theorem DefT.has (D : DefT K mg x st c) (S : FnScope N ps (defScope st)) (b : BindsBy x st ps) (len : ∀ vs H Q E, sp vs H Q E → vs.length = ps.length)
    (hbody : ∀ (f : Addr) (A : Around) (outer : List Env) (s : Shared) (H : Hp) (vs : List V) (Q : VK) (E : XK), Room k (A.deeper (envOfC x (defScope st) s.heap.objs.size f (.ref c))) → sp vs H Q E →
      ∃ t, PSs (cxOf CX0 P w K mg base N x (defScope st) f (.ref c) A outer s H E).nox (defBody st) t ∧ t { nx := fun _ H' => Q .non H', rt := Q } (L2.start N vs) H) : Has P w K mg base CX0 x (k + 1) ps sp := by
  obtain ⟨f, oc, od, kV, doc, pm, an, ct, osl, m, kp, lk, cd⟩ := D.ex
  refine ⟨⟨f, _, m, kp, .all (b kV doc pm an (.ref c) ct), fn_of lk cd S len fun A outer s H vs Q E hr hsp => ?_⟩⟩
  obtain ⟨t, ht, hq⟩ := hbody f A outer s H vs Q E hr hsp
  exact ⟨t, ht.nox, hq⟩
/-- the law's own def without a table -/
theorem DefIn.lawN {a : Str} {fa : Addr} (D : DefIn K mg x st) (hfa : mg x = some (.ref fa)) (S : FnScope N [a] (defScope st)) (b : BindsBy x st [a]) (len : ∀ vs H Q E, sp vs H Q E → vs.length = 1) :
    ∃ fd : FuncData, (∀ (s : Shared) (u : Value), BindsTo s fd ⟨[u], []⟩ [(a, u)]) ∧ ∀ base : Heap,
      (∀ (f : Addr) (cdv : Value) (A : Around) (outer : List Env) (s : Shared) (H : Hp) (vs : List V) (Q : VK) (E : XK), A.guards = some [] → Room k (A.deeper (envOfC x (defScope st) s.heap.objs.size f cdv)) → sp vs H Q E →
        ∃ t, PSs (cxOf CX0 P w K mg base N x (defScope st) f cdv A outer s H E).nox (defBody st) t ∧ t { nx := fun _ H' => Q .non H', rt := Q } (L2.start N vs) H) → FnG P w K mg base CX0 (k + 1) fa fd [a] sp := by
  obtain ⟨f, fd, m, F⟩ := D.ex
  have e := Option.some.inj (hfa.symm.trans m)
  injection e with e
  subst e
  refine ⟨fd, fun s u => ?_, fun base hbody => Fun.okG (N := N) F S len (hbody fa)⟩
  obtain ⟨oc, od, kV, doc, pm, an, cdv, ct, osl, e, lk, hcd⟩ := F.ex
  subst e
  exact .of_eq (b kV doc pm an cdv ct [u] rfl)
/-- the law's own def, with the data of its function told -/
theorem DefT.law {a : Str} {fa : Addr} (D : DefT K mg x st c) (hfa : mg x = some (.ref fa)) (S : FnScope N [a] (defScope st)) (b : BindsBy x st [a]) (len : ∀ vs H Q E, sp vs H Q E → vs.length = 1) :
    ∃ fd : FuncData, (∀ (s : Shared) (u : Value), BindsTo s fd ⟨[u], []⟩ [(a, u)]) ∧ ∀ base : Heap,
      (∀ (f : Addr) (A : Around) (outer : List Env) (s : Shared) (H : Hp) (vs : List V) (Q : VK) (E : XK), A.guards = some [] → Room k (A.deeper (envOfC x (defScope st) s.heap.objs.size f (.ref c))) → sp vs H Q E →
        ∃ t, PSs (cxOf CX0 P w K mg base N x (defScope st) f (.ref c) A outer s H E).nox (defBody st) t ∧ t { nx := fun _ H' => Q .non H', rt := Q } (L2.start N vs) H) → FnG P w K mg base CX0 (k + 1) fa fd [a] sp := by
  obtain ⟨f, oc, od, kV, doc, pm, an, ct, osl, m, kp, lk, cd⟩ := D.ex
  have e := Option.some.inj (hfa.symm.trans m)
  injection e with e
  subst e
  refine ⟨_, fun s u => .of_eq (b kV doc pm an (.ref c) ct [u] rfl), fun base hbody => fnG_of lk cd S len fun A outer s H vs Q E hgd hr hsp => ?_⟩
  obtain ⟨t, ht, hq⟩ := hbody fa A outer s H vs Q E hgd hr hsp
  exact ⟨t, ht.nox, hq⟩
end
theorem tab_any {p : Program} {lo : List Str} {mean : ExcName → Option Value} {mg mb : Str → Option Value} {h : Heap} {K : PySem.W.Frag} {x : Str} {c P : Addr} (T : Top p lo mean mg mb h) (X : K.In h) (hr : ((recsOf p).any fun e => e.name == x) = true)
    (ht : PySem.W.tabIn K x = some (c, P)) (hn : PySem.W.noTabs K = true) : PySem.W.CodeHd h c P ∧ h.get? P = some tob ∧ K.lookup P = none := by
  obtain ⟨d, hd⟩ : ∃ d, (recsOf p).find? (fun e => e.name == x) = some d := by
    obtain ⟨d, m, e⟩ := List.any_eq_true.mp hr
    exact Option.isSome_iff_exists.mp (List.find?_isSome.mpr ⟨d, m, e⟩)
  obtain ⟨h1, h2⟩ := PySem.W.tab_of T X hd ht
  refine ⟨h1, h2, ?_⟩
  cases q : K.lookup P with
  | none => rfl
  | some o =>
    have e := Option.some.inj ((X P o q).symm.trans h2)
    subst e
    exact absurd (List.all_eq_true.mp hn _ (PySem.W.mem_of_lookupK q)) Bool.false_ne_true
theorem tabs_nil {T : List (Addr × Str)} {H : Hp} (h : ∀ p ∈ T, H p.1 = some (.tbl #[])) : LamX.Tabs T H := fun p hp => ⟨#[], h p hp, by trivial, fun pos cv e => by cases e⟩
/-- an own error's class by what is written -/
theorem errC_of {K : PySem.W.Frag} {mg : Str → Option Value} {h : Heap} {x : Str} {C : Addr} (X : K.In h) (G : h.Ns mainGlobals mg) (a : PySem.W.nsIn K mainGlobals x = some (some (.ref C)))
    (xc : PySem.W.excIn K C [.type "ValueError", .type "Exception", .type "BaseException", .type "object"] "ValueError.__new__" = true) (kc : PySem.W.keepIn K (.ref C) = true) (bc : PySem.W.subIn K (.ref C) (.type "BaseException") = some true)
    (tc : PySem.W.typeIn K (.ref C) = some (.type "type")) (ic : PySem.W.isClsIn K C = true)
    (h1 : PySem.W.findIn K (.ref C) "__getattribute__" = some (some (.builtin "BaseException.__getattribute__"))) (h2 : PySem.W.findIn K (.ref C) "__getattr__" = some none) (h4 : PySem.W.hasDictIn K C = true)
    (h5 : PySem.W.findIn K (.ref C) "__class__" = some (some (.builtin "object.__class__"))) (h6 : PySem.W.specialIn K (.builtin "object.__class__") "__get__" = some (some (.builtin "getset_descriptor.__get__")))
    (h7 : PySem.W.takesIn K (.builtin "object.__class__") = some true) (h8 : PySem.W.mroIn K C (.type "object") = some true) : ErrC K mg x C :=
  ⟨PySem.W.mg_of X G a, xc, kc, bc, tc, ic, ⟨h1, h2, bc, h4, h5, h6, h7, h8⟩⟩
theorem str_at {K : PySem.W.Frag} {mg : Str → Option Value} {h : Heap} {x z z' : Str} {t : Tok} (X : K.In h) (G : h.Ns mainGlobals mg) (a : PySem.W.nsIn K mainGlobals x = some (some (.str z' t))) (e : (z' == z) = true) : ∃ t, mg x = some (.str z t) := by
  rw [← eq_of_beq e]
  exact ⟨t, PySem.W.mg_of X G a⟩
theorem int_at {K : PySem.W.Frag} {mg : Str → Option Value} {h : Heap} {x : Str} {z z' : Int} {t : Tok} (X : K.In h) (G : h.Ns mainGlobals mg) (a : PySem.W.nsIn K mainGlobals x = some (some (.int z' t))) (e : (z' == z) = true) : ∃ t, mg x = some (.int z t) := by
  rw [← eq_of_beq e]
  exact ⟨t, PySem.W.mg_of X G a⟩
end FR

set_option Elab.async false
set_option linter.all false
set_option maxRecDepth 100000
set_option maxHeartbeats 4000000
/-! FRX: more rules: a sign times a number, True counted in a list of bools, repr of bools. -/
namespace FR
open PySem PySem.Spec PyProof.Rows L2
abbrev rRepS : R2 := fun x y H Q => ∃ (c : Nat) (k : Nat), x = .str ⟨#[c]⟩ ∧ y = .int k ∧ k ≤ 1000 ∧ Q (.str ⟨(List.replicate k c).toArray⟩) H
theorem mul_sign {c : Nat} : ∀ k : Nat, Txt.mul ⟨#[c]⟩ (k : Int) = ⟨(List.replicate k c).toArray⟩ := fun k => by
  unfold Txt.mul
  have l1 : (⟨#[c]⟩ : Str).length = 1 := rfl
  by_cases h : (k : Int) < 1
  · have : k = 0 := by omega
    subst this
    rw [if_pos h]; rfl
  · rw [if_neg h]
    by_cases h1 : k = 1
    · subst h1; rfl
    · have e : ((k : Int) == 1 || (⟨#[c]⟩ : Str).length == 0) = false := by
        rw [l1]
        simp
        omega
      rw [e, if_neg Bool.false_ne_true]
      congr 1
      have go : ∀ (n : Nat) (acc : Array Nat), (List.replicate n #[c]).foldl (· ++ ·) acc = acc ++ (List.replicate n c).toArray := by
        intro n
        induction n with
        | zero => intro acc; simp
        | succ m ih =>
          intro acc
          rw [List.replicate_succ, List.foldl_cons, ih, List.replicate_succ]
          refine Array.toList_inj.mp ?_
          simp
      show (List.replicate (k : Int).toNat #[c]).foldl (· ++ ·) #[] = _
      rw [go, Int.toNat_natCast]
      simp
theorem op_repS {X : Cx} : OpR X (binaryOp .Mult) rRepS := by
  intro pins s σ H x y v u Q I rx ry h
  obtain ⟨c, k, rfl, rfl, hk, q⟩ := h
  obtain ⟨t, rfl⟩ := rx
  obtain ⟨t', rfl⟩ := ry
  refine SB.mul ⟨?_, fun _ _ => ?_, fun _ _ => ?_⟩ fun t' k' => ⟨.str _, H, I.tok _, ⟨_, rfl⟩, by rw [mul_sign]; exact q⟩
  · rw [decide_eq_false (by omega), decide_eq_false (by omega)]; rfl
  · have l1 : ((⟨#[c]⟩ : Str).length : Int) = 1 := rfl
    rw [l1]
    have : (1 : Int) ≤ (2 ^ 63 - 1) / (k : Int) := (Int.le_ediv_iff_mul_le (by omega)).mpr (by omega)
    omega
  · have l1 : (⟨#[c]⟩ : Str).length = 1 := rfl
    rw [l1, Int.toNat_natCast]
    exact decide_eq_false (by rw [sizeLine_eq]; omega)
abbrev rReprI : List V → Hp → VK → Prop := fun xs H Q => ∃ i, xs = [.int i] ∧ i.natAbs.log2 < 1920 ∧ Q (.str (toString i)) H
abbrev rReprB : List V → Hp → VK → Prop := fun xs H Q => ∃ b, xs = [.bl b] ∧ Q (.str (if b then "True" else "False")) H
theorem call_reprB {X : Cx} : CallR X (.builtin "repr") rReprB := by
  intro pins s σ H xs us Q I r h
  obtain ⟨b, rfl, q⟩ := h
  obtain ⟨u, rfl, e⟩ := vals1 r
  cases e
  exact PySem.P.repr_of_bool ⟨.str _, H, I.tok _, ⟨_, rfl⟩, q⟩
theorem call_reprI {X : Cx} : CallR X (.builtin "repr") rReprI := SkE.call_repr_int
abbrev rSIndex : V → List V → Hp → VK → Prop := fun x xs H Q => ∃ a b i rest, x = .str a ∧ xs = [.str b] ∧ Builtin.Str.occurrences a b 0 a.length 1 = i :: rest ∧ Q (.int (i : Nat)) H
abbrev rCntB (K : PySem.W.Frag) : V → List V → Hp → VK → Prop := fun x xs H Q => ∃ (p : Addr) (bs : List Bool), x = .ref p ∧ xs = [.bl true] ∧ SqL K H p (bs.map V.bl) ∧ Q (.int (bs.count true : Nat)) H
def eqT : Value → Bool
  | .bool b => b
  | _ => false
theorem eqT_count : ∀ {us : List Value} {bs : List Bool}, Vals (bs.map V.bl) us → us.countP eqT = bs.count true ∧ ∀ y ∈ us, ∃ b, y = .bool b
  | us, [], h => by cases h; exact ⟨rfl, fun _ m => nomatch m⟩
  | us, b :: r, h => by
    cases h with
    | cons h1 h2 =>
      obtain ⟨i1, i2⟩ := eqT_count h2
      cases h1
      refine ⟨?_, fun y hy => ?_⟩
      · rw [List.countP_cons, List.count_cons, i1]
        cases b <;> rfl
      · rcases List.mem_cons.mp hy with e | e
        · exact ⟨b, e⟩
        · exact i2 y e
theorem mt_countB {X : Cx} : MtR X "list.count" (rCntB X.K) := by
  intro pins s σ H x xs v us Q I rx rxs h
  obtain ⟨p, bs, rfl, rfl, hs, q⟩ := h
  cases rx
  obtain ⟨u, rfl, ru⟩ := rxs.one
  cases ru
  obtain ⟨its, rv, ⟨⟨cls, dd, data, sl⟩, n, ho, hc, hdn, hd⟩, hlen⟩ := I.list hs
  simp only at hc hd
  subst hc hd
  obtain ⟨e1, e2⟩ := eqT_count rv
  refine call_meets PySem.F.slot_list_count ⟨_, ho, rfl⟩ PySem.F.entry_list_count (PySem.F.args_list_count_2 _ _)
    (SeqAt.list_countAt p its.toArray n dd sl (.bool true) eqT) ⟨ho, fun y hy => ?_, ?_⟩
  · obtain ⟨b, rfl⟩ := e2 y (by simpa using hy)
    have := eqAt_V (A := X.A.in1) (s := s) (y := .bl b) (x := .bl true) (u := .bool b) (v := .bool true) rfl rfl rfl rfl
    have e : eqT (.bool b) = eqV (.bl b) (.bl true) := by cases b <;> rfl
    rw [e]
    exact this
  · refine ⟨.int (bs.count true : Nat), H, I.tok _, ⟨s.toks, ?_⟩, q⟩
    show Value.int ((its.toArray.toList.countP eqT : Nat) : Int) s.toks = Value.int ((bs.count true : Nat) : Int) s.toks
    rw [show its.toArray.toList.countP eqT = bs.count true from e1]
abbrev rMin2 : List V → Hp → VK → Prop := fun xs H Q => ∃ i j, xs = [.int i, .int j] ∧ Q (.int (if j < i then j else i)) H
end FR

set_option Elab.async false
set_option linter.all false
set_option maxRecDepth 100000
set_option maxHeartbeats 4000000
/-! FRD: data that stands in the heap off the places S; comprehensions that make data. -/
namespace FR
open PySem PySem.Spec PyProof.Rows L2
mutual
def Dv (S : List Addr) (H : Hp) : PyData → V → Prop
  | .none, v => v = .non
  | .bool b, v => v = .bl b
  | .int i, v => v = .int i
  | .str z, v => v = .str z
  | .list ds, v => ∃ a vs, v = .ref a ∧ a ∉ S ∧ H a = some (.lst vs) ∧ Dvs S H ds vs
  | .tuple ds, v => ∃ a vs, v = .ref a ∧ a ∉ S ∧ H a = some (.tup vs) ∧ Dvs S H ds vs
  | .dict _, _ => False
def Dvs (S : List Addr) (H : Hp) : List PyData → List V → Prop
  | [], vs => vs = []
  | d :: r, vs => ∃ v ws, vs = v :: ws ∧ Dv S H d v ∧ Dvs S H r ws
end
section
variable {S T : List Addr} {H H' : Hp}
mutual
theorem Dv.step (hS : ∀ a, a ∉ S → a ∉ T) (k : ∀ b o, H b = some o → (∀ ps, o ≠ .tbl ps) → b ∉ S → H' b = some o) : ∀ (d : PyData) (v : V), Dv S H d v → Dv T H' d v
  | .none, _, h => h
  | .bool _, _, h => h
  | .int _, _, h => h
  | .str _, _, h => h
  | .dict _, _, h => h.elim
  | .list ds, _, ⟨a, vs, e, n, g, r⟩ => ⟨a, vs, e, hS a n, k a _ g (fun _ q => nomatch q) n, Dvs.step hS k ds vs r⟩
  | .tuple ds, _, ⟨a, vs, e, n, g, r⟩ => ⟨a, vs, e, hS a n, k a _ g (fun _ q => nomatch q) n, Dvs.step hS k ds vs r⟩
theorem Dvs.step (hS : ∀ a, a ∉ S → a ∉ T) (k : ∀ b o, H b = some o → (∀ ps, o ≠ .tbl ps) → b ∉ S → H' b = some o) : ∀ (ds : List PyData) (vs : List V), Dvs S H ds vs → Dvs T H' ds vs
  | [], _, h => h
  | d :: r, _, ⟨v, ws, e, h1, h2⟩ => ⟨v, ws, e, Dv.step hS k d v h1, Dvs.step hS k r ws h2⟩
end
theorem Dv.keep {d : PyData} {v : V} (h : Dv S H d v) (k : Keep S H H') : Dv S H' d v := Dv.step (fun _ n => n) (fun b o e _ n => k b o e n) d v h
theorem Dv.keep0 {d : PyData} {v : V} (h : Dv S H d v) (k : Keep [] H H') : Dv S H' d v := h.keep k.of0
theorem Dv.ext {d : PyData} {v : V} (h : Dv S H d v) (k : LamX.ExtN H H') : Dv S H' d v := Dv.step (fun _ n => n) (fun b o e n _ => k b o e n) d v h
theorem Dv.sub {d : PyData} {v : V} (h : Dv S H d v) (s : ∀ a ∈ T, a ∈ S) : Dv T H d v := Dv.step (fun a n m => n (s a m)) (fun b o e _ _ => e) d v h
theorem Dvs.keep {d : List PyData} {v : List V} (h : Dvs S H d v) (k : Keep S H H') : Dvs S H' d v := Dvs.step (fun _ n => n) (fun b o e _ n => k b o e n) d v h
theorem Dvs.keep0 {d : List PyData} {v : List V} (h : Dvs S H d v) (k : Keep [] H H') : Dvs S H' d v := h.keep k.of0
theorem Dvs.ext {d : List PyData} {v : List V} (h : Dvs S H d v) (k : LamX.ExtN H H') : Dvs S H' d v := Dvs.step (fun _ n => n) (fun b o e n _ => k b o e n) d v h
theorem Dvs.sub {d : List PyData} {v : List V} (h : Dvs S H d v) (s : ∀ a ∈ T, a ∈ S) : Dvs T H d v := Dvs.step (fun a n m => n (s a m)) (fun b o e _ _ => e) d v h
theorem Dvs.length : ∀ {ds : List PyData} {vs : List V}, Dvs S H ds vs → vs.length = ds.length
  | [], _, h => by subst h; rfl
  | d :: r, _, ⟨v, ws, e, h1, h2⟩ => by subst e; rw [List.length_cons, List.length_cons, Dvs.length h2]
theorem Dvs.at : ∀ {ds : List PyData} {vs : List V} {i : Nat} {v : V}, Dvs S H ds vs → vs[i]? = some v → ∃ d, ds[i]? = some d ∧ Dv S H d v
  | [], _, i, v, h, e => by subst h; simp at e
  | d :: r, _, 0, v, ⟨u, ws, q, h1, h2⟩, e => by
    subst q
    cases (Option.some.inj e : u = v)
    exact ⟨d, rfl, h1⟩
  | d :: r, _, i + 1, v, ⟨u, ws, q, h1, h2⟩, e => by
    subst q
    exact Dvs.at (ds := r) h2 (i := i) e
theorem Dvs.app : ∀ {ds es : List PyData} {vs ws : List V}, Dvs S H ds vs → Dvs S H es ws → Dvs S H (ds ++ es) (vs ++ ws)
  | [], _, _, _, h, g => by subst h; exact g
  | d :: r, _, _, _, ⟨v, us, e, h1, h2⟩, g => by subst e; exact ⟨v, _, rfl, h1, Dvs.app h2 g⟩
theorem Dvs.one {d : PyData} {v : V} (h : Dv S H d v) : Dvs S H [d] [v] := ⟨v, [], rfl, h, rfl⟩
mutual
theorem Dv.dp {K : PySem.W.Frag} : ∀ (d : PyData) (v : V), Dv S H d v → Dp K H v d
  | .none, _, h => by cases h; exact .non
  | .bool b, _, h => by cases h; exact .bl b
  | .int i, _, h => by cases h; exact .int i
  | .str x, _, h => by cases h; exact .str x
  | .dict _, _, h => h.elim
  | .list ds, _, ⟨a, vs, e, n, g, r⟩ => by subst e; exact .lst (.of g) (Dvs.dp ds vs r)
  | .tuple ds, _, ⟨a, vs, e, n, g, r⟩ => by subst e; exact .tup (.of g) (Dvs.dp ds vs r)
theorem Dvs.dp {K : PySem.W.Frag} : ∀ (ds : List PyData) (vs : List V), Dvs S H ds vs → DpAll K H vs ds
  | [], _, h => by cases h; exact .nil
  | d :: r, _, ⟨v, ws, e, h1, h2⟩ => by subst e; exact .cons (Dv.dp d v h1) (Dvs.dp r ws h2)
end
def tyD : PyData → String
  | .none => "NoneType"
  | .bool _ => "bool"
  | .int _ => "int"
  | .str _ => "str"
  | .list _ => "list"
  | .tuple _ => "tuple"
  | .dict _ => "dict"
theorem Dv.ty {K : PySem.W.Frag} : ∀ {d : PyData} {v : V}, Dv S H d v → TyX K H v (.type (tyD d))
  | .none, _, h => by cases h; exact .base .non
  | .bool b, _, h => by cases h; exact .base (.bl b)
  | .int i, _, h => by cases h; exact .base (.int i)
  | .str x, _, h => by cases h; exact .base (.str x)
  | .dict _, _, h => h.elim
  | .list ds, _, ⟨a, vs, e, n, g, r⟩ => by subst e; exact .base (.lst g)
  | .tuple ds, _, ⟨a, vs, e, n, g, r⟩ => by subst e; exact .base (.tup g)
def isTyD (t : String) (d : PyData) : Bool := (kitB (tyD d) t).getD false
theorem isTy_some {d : PyData} {t : String} (h : (kitB (tyD d) t).isSome = true) : kitB (tyD d) t = some (isTyD t d) := by
  unfold isTyD
  cases q : kitB (tyD d) t with
  | none => rw [q] at h; cases h
  | some b => rfl
theorem kit_all (d : PyData) : (kitB (tyD d) "tuple").isSome = true ∧ (kitB (tyD d) "bool").isSome = true ∧ (kitB (tyD d) "int").isSome = true ∧ (kitB (tyD d) "str").isSome = true := by
  cases d <;> (simp only [tyD]; decide +kernel)
theorem s_isT {K : PySem.W.Frag} {Q : VK} {d : PyData} {v : V} (h : Dv S H d v) (q : Q (.bl (isTyD "tuple" d)) H) : rIsi K [v, .ty "tuple"] H Q := s_isi h.ty (isTy_some (kit_all d).1) q
theorem s_isB {K : PySem.W.Frag} {Q : VK} {d : PyData} {v : V} (h : Dv S H d v) (q : Q (.bl (isTyD "bool" d)) H) : rIsi K [v, .ty "bool"] H Q := s_isi h.ty (isTy_some (kit_all d).2.1) q
theorem s_isIn {K : PySem.W.Frag} {Q : VK} {d : PyData} {v : V} (h : Dv S H d v) (q : Q (.bl (isTyD "int" d)) H) : rIsi K [v, .ty "int"] H Q := s_isi h.ty (isTy_some (kit_all d).2.2.1) q
theorem s_isSt {K : PySem.W.Frag} {Q : VK} {d : PyData} {v : V} (h : Dv S H d v) (q : Q (.bl (isTyD "str" d)) H) : rIsi K [v, .ty "str"] H Q := s_isi h.ty (isTy_some (kit_all d).2.2.2) q
/-- the bools that a list of bools holds -/
theorem Dvs.bools : ∀ {bs : List Bool} {vs : List V}, Dvs S H (bs.map PyData.bool) vs → vs = bs.map V.bl
  | [], _, h => h
  | b :: r, _, ⟨v, ws, e, h1, h2⟩ => by
    have h1 : v = .bl b := h1
    subst e h1
    rw [List.map_cons, Dvs.bools h2]
theorem Dvs.ofBools : ∀ {bs : List Bool}, Dvs S H (bs.map PyData.bool) (bs.map V.bl)
  | [] => rfl
  | b :: r => ⟨_, _, rfl, rfl, Dvs.ofBools⟩
end
/-! ### comprehensions that make data -/
section
variable {J : It} {n : Nat} {G : Hp → Prop} {Y : Nat → Hp → V → Hp → Prop}
theorem lc_data (w : Walk J n G Y) {S : List Addr} (G' : Hp → Prop) (ds : List PyData) (hds : ds.length = n) {j : Nat} {te : TE} {vs : List Nat} {σ : L2.St} {H : Hp} {D : Addr} {Qd : Hp → Prop} (hz : n ≤ 1000000) (hD : H D = none) (hS : D ∉ S) (g0 : G' H)
    (gU : ∀ H2 o, Keep S H H2 → G' H2 → G' (upd H2 D o)) (hG : ∀ H', Keep S H H' → G' H' → G H') (hw : ∀ x, wipe ((wipe σ vs).set j (some x)) vs = wipe σ vs)
    (he : ∀ (i : Nat) (H1 : Hp) (x : V) (H2 : Hp) (d : PyData), i < n → ds[i]? = some d → Keep S H H1 → G' H1 → H1 D ≠ none → Y i H1 x H2 → H2 = H1 ∧ ∀ R : VK, (∀ v H3, Keep S H1 H3 → G' H3 → Dv (D :: S) H3 d v → R v H3) → te ((wipe σ vs).set j (some x)) H1 R)
    (q : ∀ H' acc, Keep S H H' → G' H' → H' D = some (.lst acc) → Dvs (D :: S) H' ds acc → Qd H') :
    ∃ W : Nat → Nat → Hp → Prop, (∃ m, W 0 m (upd H D (.lst []))) ∧ ∀ i m H, W i m H →
      (J.stop i H ∧ Qd H) ∨ (J.go i H ∧ ∃ Nx : Hp → Prop, (∀ H', Nx H' → ∃ m', m' < m ∧ W (i + 1) m' H') ∧ ∀ x H', J.yld i H x H' → gName j x (wipe σ vs) H' fun σ2 H2 => wipe σ2 vs = wipe σ vs ∧ tYes σ2 H2 fun b H3 =>
        if b = true then te σ2 H3 fun y H4 => ∃ acc, H4 D = some (.lst acc) ∧ acc.length < sizeLine ∧ Nx (upd H4 D (.lst (acc ++ [y]))) else Nx H3) := by
  refine lc_it w (fun i H' => Keep S H H' ∧ G' H' ∧ ∃ acc, H' D = some (.lst acc) ∧ Dvs (D :: S) H' (ds.take i) acc) ⟨Keep.new hD, gU H _ Keep.refl g0, [], upd_same, rfl⟩ (fun i H' _ p => hG H' p.1 p.2.1) ?_ ?_
  · rintro i x H1 H2 hi ⟨k, g, acc, e, a⟩ y
    have hlt : i < ds.length := by omega
    have hd : ds[i]? = some ds[i] := List.getElem?_eq_getElem hlt
    obtain ⟨rfl, hh⟩ := he i H1 x H2 ds[i] hi hd k g (by rw [e]; simp) y
    refine ⟨hw x, ?_⟩
    dsimp only [tYes]
    rw [if_pos rfl]
    refine hh _ fun v H3 k3 g3 hv => ⟨acc, k3 _ _ e hS, szl_of (by rw [a.length, List.length_take]; omega : _ ≤ 1000000), (k.trans k3).own hD, gU H3 _ (k.trans k3) g3, _, upd_same, ?_⟩
    have kU : Keep (D :: S) H3 (upd H3 D (.lst (acc ++ [v]))) := Keep.put List.mem_cons_self
    rw [take_more hd]
    exact (((a.keep (k3.mono fun _ m => List.mem_cons_of_mem _ m)).app (Dvs.one hv))).keep kU
  · rintro H' ⟨k, g, acc, e, a⟩
    rw [← hds, List.take_length] at a
    exact q H' acc k g e a
end
section
variable {K : PySem.W.Frag} {σ : L2.St} {H : Hp} {Q : VK} {j : Nat} {te : TE} {vs : List Nat} {a : Addr} {xs : List V} {z : Str} {S : List Addr}
/-- over a list that stays -/
theorem ldL {tl : TE} (G : Hp → Prop) (ds : List PyData) (hds : ds.length = xs.length) (hl : ∀ R : VK, (∀ a H0, Keep [] H H0 → SqL K H0 a xs → a ∉ S → G H0 → R (.ref a) H0) → tl σ H R) (hz : xs.length ≤ 1000000) (gS : ∀ D H0, H0 D = none → G H0 → D ∉ S)
    (gU : ∀ D H0 H2 o, H0 D = none → G H0 → Keep S H0 H2 → G H2 → G (upd H2 D o)) (hw : ∀ x, wipe ((wipe σ vs).set j (some x)) vs = wipe σ vs)
    (he : ∀ (i : Nat) (x : V) (d : PyData) (D : Addr) (H1 : Hp), xs[i]? = some x → ds[i]? = some d → Keep S H H1 → G H1 → H1 D ≠ none → ∀ R : VK, (∀ v H3, Keep S H1 H3 → G H3 → Dv (D :: S) H3 d v → R v H3) → te ((wipe σ vs).set j (some x)) H1 R)
    (q : ∀ D H' acc, H D = none → Keep S H H' → G H' → H' D = some (.lst acc) → Dvs (D :: S) H' ds acc → Q (.ref D) H') : tLc (iList K tl) (gName j) tYes te vs σ H Q :=
  hl _ fun a H0 k0 hs hna g0 => ⟨a, rfl, ⟨xs, hs⟩, fun D hD => lc_data walk_list (S := S) G ds hds hz hD (gS D H0 hD g0) g0 (fun H2 o k g => gU D H0 H2 o hD g0 k g) (fun H' k _ => k.sqL hs hna) hw
    (fun i H1 x H2 d hi hd k g n y => ⟨y.1, fun R r => he i x d D H1 y.2 hd (k0.of0.trans k) g n R r⟩) fun H' acc k g e b => q D H' acc (k0.none hD) (k0.of0.trans k) g e b⟩
/-- over a tuple -/
theorem ldT {tl : TE} (G : Hp → Prop) (ds : List PyData) (hds : ds.length = xs.length) (hl : ∀ R : VK, (∀ a H0, Keep [] H H0 → SqT K H0 a xs → a ∉ S → G H0 → R (.ref a) H0) → tl σ H R) (hz : xs.length ≤ 1000000) (gS : ∀ D H0, H0 D = none → G H0 → D ∉ S)
    (gU : ∀ D H0 H2 o, H0 D = none → G H0 → Keep S H0 H2 → G H2 → G (upd H2 D o)) (hw : ∀ x, wipe ((wipe σ vs).set j (some x)) vs = wipe σ vs)
    (he : ∀ (i : Nat) (x : V) (d : PyData) (D : Addr) (H1 : Hp), xs[i]? = some x → ds[i]? = some d → Keep S H H1 → G H1 → H1 D ≠ none → ∀ R : VK, (∀ v H3, Keep S H1 H3 → G H3 → Dv (D :: S) H3 d v → R v H3) → te ((wipe σ vs).set j (some x)) H1 R)
    (q : ∀ D H' acc, H D = none → Keep S H H' → G H' → H' D = some (.lst acc) → Dvs (D :: S) H' ds acc → Q (.ref D) H') : tLc (iTup K tl) (gName j) tYes te vs σ H Q :=
  hl _ fun a H0 k0 hs hna g0 => ⟨a, rfl, ⟨xs, hs⟩, fun D hD => lc_data walk_tup (S := S) G ds hds hz hD (gS D H0 hD g0) g0 (fun H2 o k g => gU D H0 H2 o hD g0 k g) (fun H' k _ => k.sqT hs hna) hw
    (fun i H1 x H2 d hi hd k g n y => ⟨y.1, fun R r => he i x d D H1 y.2 hd (k0.of0.trans k) g n R r⟩) fun H' acc k g e b => q D H' acc (k0.none hD) (k0.of0.trans k) g e b⟩
end
/-! ### slices and sums with what they keep -/
theorem mem_cutV {xs : List V} {lo hi : Option Int} {v : V} (h : v ∈ cutV xs lo hi) : v ∈ xs := by
  unfold cutV at h
  exact List.mem_of_mem_drop (List.mem_of_mem_take h)
theorem newK {H : Hp} {o : HO} {Q : VK} (q : ∀ p H', Keep [] H H' → H' p = some o → H p = none → Q (.ref p) H') : ∀ p, H p = none → Q (.ref p) (upd H p o) :=
  fun p hp => q p _ (Keep.new hp) upd_same hp
section
variable {K : PySem.W.Frag} {H : Hp} {Q : VK} {a b : Addr} {xs ys : List V} {lo hi : Option Int}
theorem s_cutK (h : SqL K H a xs) (q : ∀ p H', Keep [] H H' → H' p = some (.lst (cutV xs lo hi)) → H p = none → Q (.ref p) H') : rSlL K (.ref a) lo hi H Q := s_cutL h (newK q)
theorem s_catK (h : H a = some (.lst xs)) (h2 : H b = some (.lst ys)) (hz : xs.length + ys.length ≤ sizeLine) (q : ∀ p H', Keep [] H H' → H' p = some (.lst (xs ++ ys)) → H p = none → Q (.ref p) H') : rCat (.ref a) (.ref b) H Q := s_cat h h2 hz (newK q)
end
end FR

set_option Elab.async false
set_option linter.all false
set_option maxRecDepth 100000
set_option maxHeartbeats 4000000
namespace K13
open PySem PySem.Spec PyProof.Rows L2 FR
def topS (i : Nat) : Stmt := PySem.Challenge.pw_firstreads_k13_whole_tables_judged_and_r.main.body.getD i (.Pass ⟨0, 0, 0, 0⟩)
structure Tx (M : Pm) (mg : Str → Option Value) : Prop where
  n_ValueError : mg "ValueError" = none
  n_all : mg "all" = none
  n_bool : mg "bool" = none
  n_int : mg "int" = none
  n_isinstance : mg "isinstance" = none
  n_len : mg "len" = none
  n_list : mg "list" = none
  n_min : mg "min" = none
  n_range : mg "range" = none
  n_repr : mg "repr" = none
  n_str : mg "str" = none
  n_tuple : mg "tuple" = none
  g_MOST_ROWS : ∃ t, mg "MOST_ROWS" = some (.int 300 t)
  g_MOST_TEXT : ∃ t, mg "MOST_TEXT" = some (.int 300 t)
  g_SIGNS : ∃ t, mg "SIGNS" = some (.str "abcd" t)
  e_NoTable : ErrC M.K mg "NoTable" (M.cls "NoTable")
  e_NoText : ErrC M.K mg "NoText" (M.cls "NoText")
  e_ReadError : ErrC M.K mg "ReadError" (M.cls "ReadError")
  sub1 : PySem.W.subIn M.K (.ref (M.cls "NoTable")) (.ref (M.cls "ReadError")) = some true
  sub2 : PySem.W.subIn M.K (.ref (M.cls "NoText")) (.ref (M.cls "ReadError")) = some true
  kit1 : PySem.W.kitOne M.K (.ref (M.cls "NoTable")) (.ref (M.cls "NoTable")) = some true
  kit2 : PySem.W.kitOne M.K (.ref (M.cls "NoTable")) (.ref (M.cls "NoText")) = some false
  kit3 : PySem.W.kitOne M.K (.ref (M.cls "NoTable")) (.type "ValueError") = some true
  kit4 : PySem.W.kitOne M.K (.ref (M.cls "NoText")) (.ref (M.cls "NoTable")) = some false
  kit5 : PySem.W.kitOne M.K (.ref (M.cls "NoText")) (.ref (M.cls "NoText")) = some true
  kit6 : PySem.W.kitOne M.K (.ref (M.cls "NoText")) (.type "ValueError") = some true
abbrev s_is_integer : Stmt := topS 7
theorem sc_is_integer : FnScope ["thing"] ["thing"] (defScope s_is_integer) := ⟨rfl, rfl, rfl, by decide +kernel, rfl, by decide +kernel, by decide +kernel⟩
abbrev s_is_within : Stmt := topS 8
theorem sc_is_within : FnScope ["thing", "low", "high"] ["thing", "low", "high"] (defScope s_is_within) := ⟨rfl, rfl, rfl, by decide +kernel, rfl, by decide +kernel, by decide +kernel⟩
abbrev s_are_signs : Stmt := topS 9
theorem sc_are_signs : FnScope ["thing", "most", "sign"] ["thing", "most"] (defScope s_are_signs) := ⟨rfl, rfl, rfl, by decide +kernel, rfl, by decide +kernel, by decide +kernel⟩
abbrev s_is_text : Stmt := topS 10
theorem sc_is_text : FnScope ["thing"] ["thing"] (defScope s_is_text) := ⟨rfl, rfl, rfl, by decide +kernel, rfl, by decide +kernel, by decide +kernel⟩
abbrev s_check_text : Stmt := topS 11
theorem sc_check_text : FnScope ["thing"] ["thing"] (defScope s_check_text) := ⟨rfl, rfl, rfl, by decide +kernel, rfl, by decide +kernel, by decide +kernel⟩
abbrev s_is_table : Stmt := topS 14
theorem sc_is_table : FnScope ["thing", "rows", "flags", "one", "row"] ["thing"] (defScope s_is_table) := ⟨rfl, rfl, rfl, by decide +kernel, rfl, by decide +kernel, by decide +kernel⟩
abbrev s_check_table : Stmt := topS 15
theorem sc_check_table : FnScope ["thing"] ["thing"] (defScope s_check_table) := ⟨rfl, rfl, rfl, by decide +kernel, rfl, by decide +kernel, by decide +kernel⟩
abbrev s_raw_row_behind : Stmt := topS 16
theorem sc_raw_row_behind : FnScope ["table", "text", "here", "sign"] ["table", "text"] (defScope s_raw_row_behind) := ⟨rfl, rfl, rfl, by decide +kernel, rfl, by decide +kernel, by decide +kernel⟩
abbrev s_table_reads : Stmt := topS 17
theorem sc_table_reads : FnScope ["table", "text"] ["table", "text"] (defScope s_table_reads) := ⟨rfl, rfl, rfl, by decide +kernel, rfl, by decide +kernel, by decide +kernel⟩
abbrev s_row_behind : Stmt := topS 18
theorem sc_row_behind : FnScope ["table", "text"] ["table", "text"] (defScope s_row_behind) := ⟨rfl, rfl, rfl, by decide +kernel, rfl, by decide +kernel, by decide +kernel⟩
abbrev s_law_bag : Stmt := topS 20
theorem sc_law_bag : FnScope ["script", "cells", "cell"] ["script"] (defScope s_law_bag) := ⟨rfl, rfl, rfl, by decide +kernel, rfl, by decide +kernel, by decide +kernel⟩
abbrev s_law_pick : Stmt := topS 21
theorem sc_law_pick : FnScope ["bag", "width", "cell", "digit", "number"] ["bag", "width"] (defScope s_law_pick) := ⟨rfl, rfl, rfl, by decide +kernel, rfl, by decide +kernel, by decide +kernel⟩
abbrev s_law_some : Stmt := topS 22
theorem sc_law_some : FnScope ["bag", "things"] ["bag", "things"] (defScope s_law_some) := ⟨rfl, rfl, rfl, by decide +kernel, rfl, by decide +kernel, by decide +kernel⟩
abbrev s_law_drawn_table : Stmt := topS 23
theorem sc_law_drawn_table : FnScope ["bag", "most", "many", "rows", "at", "near", "sign"] ["bag", "most"] (defScope s_law_drawn_table) := ⟨rfl, rfl, rfl, by decide +kernel, rfl, by decide +kernel, by decide +kernel⟩
abbrev s_law_table : Stmt := topS 24
theorem sc_law_table : FnScope ["rows", "flags", "row"] ["rows", "flags"] (defScope s_law_table) := ⟨rfl, rfl, rfl, by decide +kernel, rfl, by decide +kernel, by decide +kernel⟩
abbrev s_law_error : Stmt := topS 25
theorem sc_law_error : FnScope ["call", "found", "error", "flags"] ["call"] (defScope s_law_error) := ⟨rfl, rfl, rfl, by decide +kernel, rfl, by decide +kernel, by decide +kernel⟩
abbrev s_law_behind_text : Stmt := topS 26
theorem sc_law_behind_text : FnScope ["rows", "text", "at", "sign"] ["rows", "text"] (defScope s_law_behind_text) := ⟨rfl, rfl, rfl, by decide +kernel, rfl, by decide +kernel, by decide +kernel⟩
abbrev s_law_odd_table : Stmt := topS 27
theorem sc_law_odd_table : FnScope ["bag", "rows", "flags", "at", "turn", "place", "told", "many", "row", "odd", "flag", "others"] ["bag", "rows", "flags"] (defScope s_law_odd_table) := ⟨rfl, rfl, rfl, by decide +kernel, rfl, by decide +kernel, by decide +kernel⟩
abbrev s_law_is_read_right : Stmt := topS 28
theorem sc_law_is_read_right : FnScope ["bag", "rows", "flags", "table", "text", "told", "due", "wrong", "odd", "words", "turn"] ["bag", "rows", "flags"] (defScope s_law_is_read_right) := ⟨rfl, rfl, rfl, by decide +kernel, rfl, by decide +kernel, by decide +kernel⟩
abbrev s_law_are_bounds_right : Stmt := topS 29
theorem sc_law_are_bounds_right : FnScope ["bag", "step", "flag", "many", "is_let", "rows", "table", "at"] ["bag"] (defScope s_law_are_bounds_right) := ⟨rfl, rfl, rfl, by decide +kernel, rfl, by decide +kernel, by decide +kernel⟩
abbrev s_law : Stmt := topS 30
theorem sc_law : FnScope ["script", "bag", "known", "lap", "rows", "flags"] ["script"] (defScope s_law) := ⟨rfl, rfl, rfl, by decide +kernel, rfl, by decide +kernel, by decide +kernel⟩

set_option Elab.async false
set_option linter.all false
set_option maxRecDepth 100000
set_option maxHeartbeats 4000000
/-! K13S: the mirrors of law_k13's defs and their promises. -/
open PySem PySem.Spec PyProof.Rows L2 FR
/-! ### mirrors -/
def isInt : PyData → Bool
  | .int _ => true
  | _ => false
def isBool : PyData → Bool
  | .bool _ => true
  | _ => false
def isTup : PyData → Bool
  | .tuple _ => true
  | _ => false
def isW (lo hi : Int) : PyData → Bool
  | .int i => decide (lo ≤ i) && decide (i ≤ hi)
  | _ => false
def areS (n : Int) : PyData → Bool
  | .str z => decide ((z.length : Int) ≤ n) && (cs z).all fun c => decide (c ∈ cs "abcd")
  | _ => false
abbrev isTxt (d : PyData) : Bool := areS 300 d
def isRow (m : Nat) : PyData → Bool
  | .tuple es => decide (es.length = 4) && es.all (isW 0 ((m : Int) - 1))
  | _ => false
def isTab : PyData → Bool
  | .tuple [.tuple rs, .tuple fs] => decide (1 ≤ rs.length) && decide (rs.length ≤ 300) && decide (fs.length = rs.length) && fs.all isBool && rs.all (isRow rs.length)
  | _ => false
mutual
def fits : PyData → Bool
  | .str z => decide (z.length ≤ 1000)
  | .list ds => decide (ds.length ≤ 1000) && fitsAll ds
  | .tuple ds => decide (ds.length ≤ 1000) && fitsAll ds
  | .dict _ => false
  | _ => true
def fitsAll : List PyData → Bool
  | [] => true
  | d :: r => fits d && fitsAll r
end
abbrev rowD (r : List Int) : PyData := .tuple (r.map .int)
abbrev tabD (rs : List (List Int)) (fs : List Bool) : PyData := .tuple [.tuple (rs.map rowD), .tuple (fs.map .bool)]
abbrev rowsD (rs : List (List Int)) : PyData := .list (rs.map fun r => .list (r.map .int))
abbrev flagsD (fs : List Bool) : PyData := .list (fs.map .bool)
structure Good (rs : List (List Int)) (fs : List Bool) : Prop where
  one : 1 ≤ rs.length
  most : rs.length ≤ 300
  flags : fs.length = rs.length
  four : ∀ r ∈ rs, r.length = 4
  within : ∀ r ∈ rs, ∀ i ∈ r, 0 ≤ i ∧ i < rs.length
/-- the row behind a sign -/
def step (rs : List (List Int)) (here : Int) (c : Nat) : Int := ((rs[here.toNat]?).getD [])[c - 97]?.getD 0
def behind (rs : List (List Int)) (z : List Nat) (here : Int) : Int := z.foldl (step rs) here
def SignsOnly (z : Str) : Prop := ∀ c ∈ cs z, c ∈ cs "abcd"
/-! ### promises -/
/-- what is no table -/
def BadT (S : List Addr) (H : Hp) (v : V) : Prop := (∃ d, Dv S H d v ∧ fits d = true ∧ isTab d = false) ∨ ∃ a kvs, v = .ref a ∧ H a = some (.dK kvs) ∧ a ∉ S
def sp_is_integer (M : Pm) : Sp := fun vs H Q _ => ∃ (v : V) (d : PyData), vs = [v] ∧ Dv [] H d v ∧ ∀ H', Keep [] H H' → Q (.bl (isInt d)) H'
def sp_is_within (M : Pm) : Sp := fun vs H Q _ => ∃ (v : V) (d : PyData) (lo hi : Int), vs = [v, .int lo, .int hi] ∧ Dv [] H d v ∧ ∀ H', Keep [] H H' → Q (.bl (isW lo hi d)) H'
def sp_are_signs (M : Pm) : Sp := fun vs H Q _ => ∃ (v : V) (d : PyData) (n : Int), vs = [v, .int n] ∧ Dv [] H d v ∧ fits d = true ∧ ∀ H', Keep [] H H' → Q (.bl (areS n d)) H'
def sp_is_text (M : Pm) : Sp := fun vs H Q _ => ∃ (v : V) (d : PyData), vs = [v] ∧ Dv [] H d v ∧ fits d = true ∧ ∀ H', Keep [] H H' → Q (.bl (isTxt d)) H'
def sp_check_text (M : Pm) : Sp := fun vs H Q E => ∃ (v : V) (d : PyData), vs = [v] ∧ Dv [] H d v ∧ fits d = true ∧ (isTxt d = true → ∀ H', Keep [] H H' → Q .non H') ∧ (isTxt d = false → ∀ H', Keep [] H H' → E (.ref (M.cls "NoText")) none H')
def sp_is_table (M : Pm) : Sp := fun vs H Q _ => (∃ (v : V) (d : PyData), vs = [v] ∧ Dv [] H d v ∧ fits d = true ∧ ∀ H', Keep [] H H' → Q (.bl (isTab d)) H') ∨
  (∃ (v : V) (a : Addr) (kvs : List (Key × V)), vs = [v] ∧ v = .ref a ∧ H a = some (.dK kvs) ∧ ∀ H', Keep [] H H' → Q (.bl false) H')
def sp_check_table (M : Pm) : Sp := fun vs H Q E => (∃ (v : V) (d : PyData), vs = [v] ∧ Dv [] H d v ∧ fits d = true ∧ (isTab d = true → ∀ H', Keep [] H H' → Q .non H') ∧ (isTab d = false → ∀ H', Keep [] H H' → E (.ref (M.cls "NoTable")) none H')) ∨
  (∃ (v : V) (a : Addr) (kvs : List (Key × V)), vs = [v] ∧ v = .ref a ∧ H a = some (.dK kvs) ∧ ∀ H', Keep [] H H' → E (.ref (M.cls "NoTable")) none H')
def sp_raw_row_behind (M : Pm) : Sp := fun vs H Q _ => ∃ (v : V) (rs : List (List Int)) (fs : List Bool) (z : Str), vs = [v, .str z] ∧ Dv [] H (tabD rs fs) v ∧ Good rs fs ∧ SignsOnly z ∧ z.length ≤ 300 ∧ ∀ H', Keep [] H H' → Q (.int (behind rs (cs z) 0)) H'
/-- a call of table_reads or row_behind: what is no table, what is no text, or the answer -/
def asks (M : Pm) (vs : List V) (H : Hp) (E : XK) (R : List (List Int) → List Bool → Str → Prop) : Prop := ∃ v u : V, vs = [v, u] ∧
  ((BadT [] H v ∧ ∀ H', Keep [] H H' → E (.ref (M.cls "NoTable")) none H') ∨
   ∃ rs fs, Dv [] H (tabD rs fs) v ∧ Good rs fs ∧ ((∃ d, Dv [] H d u ∧ fits d = true ∧ isTxt d = false ∧ ∀ H', Keep [] H H' → E (.ref (M.cls "NoText")) none H') ∨ ∃ z, u = .str z ∧ SignsOnly z ∧ z.length ≤ 300 ∧ R rs fs z))
def sp_table_reads (M : Pm) : Sp := fun vs H Q E => asks M vs H E fun rs fs z => ∀ H', Keep [] H H' → Q (.bl (fs[(behind rs (cs z) 0).toNat]?.getD false)) H'
def sp_row_behind (M : Pm) : Sp := fun vs H Q E => asks M vs H E fun rs fs z => ∀ H', Keep [] H H' → Q (.int (behind rs (cs z) 0)) H'
/-- the bag of cells -/
structure Bag (K : PySem.W.Frag) (H : Hp) (b c : Addr) : Prop where
  ex : ∃ (ns : List Int) (i l m n : Int), H b = some (.lst [.ref c, .int i, .int l, .int m, .int n]) ∧ H c = some (.lst (ns.map V.int)) ∧ c ≠ b ∧ ns.length ≤ 63 ∧
    (∀ z ∈ ns, 0 ≤ z ∧ z < 10 ^ 40) ∧ 0 ≤ i ∧ i ≤ ns.length ∧ 0 ≤ l ∧ l < 10 ^ 40 ∧ 0 ≤ m ∧ m < 2147483648 ∧ 0 ≤ n
theorem Bag.lst {K : PySem.W.Frag} {H : Hp} {b c : Addr} (B : Bag K H b c) : ∃ xs, H b = some (.lst xs) := by
  obtain ⟨ns, i, l, m, n, h, _⟩ := B.ex
  exact ⟨_, h⟩
theorem Bag.keep {K : PySem.W.Frag} {S : List Addr} {H H' : Hp} {b c : Addr} (B : Bag K H b c) (k : Keep S H H') (hb : b ∉ S) (hc : c ∉ S) : Bag K H' b c := by
  obtain ⟨ns, i, l, m, n, h, hs, r⟩ := B.ex
  exact ⟨ns, i, l, m, n, k _ _ h hb, k _ _ hs hc, r⟩
theorem Bag.upd {K : PySem.W.Frag} {H H1 : Hp} {b c D : Addr} {o : HO} (B1 : Bag K H1 b c) (B : Bag K H b c) (hD : H D = none) : Bag K (upd H1 D o) b c := by
  obtain ⟨ns0, i0, l0, m0, n0, h0, hs0, _⟩ := B.ex
  obtain ⟨ns, i, l, m, n, h, hs, r⟩ := B1.ex
  exact ⟨ns, i, l, m, n, by rw [upd_ne (ne_of_none h0 hD)]; exact h, by rw [upd_ne (ne_of_none hs0 hD)]; exact hs, r⟩
theorem Bag.new {K : PySem.W.Frag} {H : Hp} {b c D : Addr} {o : HO} (B : Bag K H b c) (hD : H D = none) : Bag K (L2.upd H D o) b c := B.upd B hD
theorem Bag.bc {K : PySem.W.Frag} {H : Hp} {b c : Addr} (B : Bag K H b c) : c ≠ b := by
  obtain ⟨ns, i, l, m, n, h, hs, q, r⟩ := B.ex
  exact q
theorem Bag.ext {K : PySem.W.Frag} {H H' : Hp} {b c : Addr} (B : Bag K H b c) (e : LamX.ExtN H H') : Bag K H' b c := by
  obtain ⟨ns, i, l, m, n, h, hs, r⟩ := B.ex
  exact ⟨ns, i, l, m, n, e _ _ h (fun _ q => nomatch q), e _ _ hs (fun _ q => nomatch q), r⟩
theorem Bag.notin {K : PySem.W.Frag} {H : Hp} {b c D : Addr} (B : Bag K H b c) (hD : H D = none) : D ∉ [b] := fun m => by
  obtain ⟨xs, e⟩ := B.lst
  rw [List.mem_singleton.mp m, e] at hD
  cases hD
def sp_law_bag (M : Pm) : Sp := fun vs H Q _ => ∃ (a : Addr) (ns : List Int), vs = [.ref a] ∧ SqL M.K H a (ns.map V.int) ∧ ns.length ≤ 63 ∧ ∀ H' b c, H b = none → Keep [] H H' → Bag M.K H' b c → Q (.ref b) H'
def sp_law_pick (M : Pm) : Sp := fun vs H Q _ => ∃ (b c : Addr) (n : Int), vs = [.ref b, .int n] ∧ Bag M.K H b c ∧ 1 ≤ n ∧ n ≤ 1000000 ∧ ∀ H' d, Keep [b] H H' → Bag M.K H' b c → 0 ≤ d → d < n → Q (.int d) H'
def sp_law_some (M : Pm) : Sp := fun vs H Q _ => ∃ (b c : Addr) (x : V) (items : List V), vs = [.ref b, x] ∧ Bag M.K H b c ∧ 1 ≤ items.length ∧ items.length ≤ 1000000 ∧
  ((∃ a, x = .ref a ∧ a ≠ b ∧ H a = some (.lst items)) ∨ ∃ z, x = .str z ∧ items = signsV z) ∧ ∀ H' v, v ∈ items → Keep [b] H H' → Bag M.K H' b c → Q v H'
def sp_law_drawn_table (M : Pm) : Sp := fun vs H Q _ => ∃ (b c : Addr) (n : Int), vs = [.ref b, .int n] ∧ Bag M.K H b c ∧ 1 ≤ n ∧ n ≤ 100 ∧ ∀ H' p rs fs, Keep [b] H H' → Bag M.K H' b c →
  Dv [b] H' (.tuple [rowsD rs, flagsD fs]) (.ref p) → Good rs fs → (rs.length : Int) ≤ n → Q (.ref p) H'
def sp_law_table (M : Pm) : Sp := fun vs H Q _ => ∃ (S : List Addr) (r f : V) (rs : List (List Int)) (fs : List Bool), vs = [r, f] ∧ (∀ s ∈ S, H s ≠ none) ∧ Dv S H (rowsD rs) r ∧ Dv S H (flagsD fs) f ∧ rs.length ≤ 1000 ∧ fs.length ≤ 1000 ∧
  ∀ H' p, Keep [] H H' → Dv S H' (tabD rs fs) (.ref p) → Q (.ref p) H'
def sp_law_behind_text (M : Pm) : Sp := fun vs H Q _ => ∃ (r : V) (rs : List (List Int)) (fs : List Bool) (z : Str), vs = [r, .str z] ∧ Dv [] H (rowsD rs) r ∧ Good rs fs ∧ SignsOnly z ∧ z.length ≤ 300 ∧ ∀ H', Keep [] H H' → Q (.int (behind rs (cs z) 0)) H'
def sp_law_odd_table (M : Pm) : Sp := fun vs H Q _ => ∃ (b c : Addr) (r f : V) (rs : List (List Int)) (fs : List Bool), vs = [.ref b, r, f] ∧ Bag M.K H b c ∧ Dv [b] H (rowsD rs) r ∧ Dv [b] H (flagsD fs) f ∧ Good rs fs ∧
  ∀ H' v, Keep [b] H H' → Bag M.K H' b c → BadT [b] H' v → Q v H'
def sp_law_is_read_right (M : Pm) : Sp := fun vs H Q _ => ∃ (b c : Addr) (r f : V) (rs : List (List Int)) (fs : List Bool), vs = [.ref b, r, f] ∧ Bag M.K H b c ∧ Dv [b] H (rowsD rs) r ∧ Dv [b] H (flagsD fs) f ∧ Good rs fs ∧ LamX.Tabs M.tabs H ∧
  ∀ H', Bag M.K H' b c → LamX.Tabs M.tabs H' → Q (.bl true) H'
def sp_law_are_bounds_right (M : Pm) : Sp := fun vs H Q _ => ∃ b c : Addr, vs = [.ref b] ∧ Bag M.K H b c ∧ LamX.Tabs M.tabs H ∧ ∀ H', Q (.bl true) H'
def sp_law (M : Pm) : Sp := fun vs H Q _ => ∃ (a : Addr) (ns : List Int), vs = [.ref a] ∧ SqL M.K H a (ns.map V.int) ∧ ns.length ≤ 63 ∧ LamX.Tabs M.tabs H ∧ ∀ H', Q (.bl true) H'

set_option Elab.async false
set_option linter.all false
set_option maxRecDepth 100000
set_option maxHeartbeats 1000000
open PySem PySem.Spec PyProof.Rows L2 FR
/-! ### what _law_error makes of the lambda -/
def TT_law_error (M : Pm) : (XK → Hp → VK → Prop) → Hp → VK → Prop := fun tl H Q =>
  tl (fun cls d H' => d = none ∧ ((cls = .ref (M.cls "NoTable") ∧ ∀ H'', Keep [] H' H'' → Q (.str "table") H'') ∨ (cls = .ref (M.cls "NoText") ∧ ∀ H'', Keep [] H' H'' → Q (.str "text") H''))) H (fun _ H' => ∃ v, some (some (V.str "told")) = some (some v) ∧ Q v H')
theorem exm_own {K : PySem.W.Frag} {mg : Str → Option Value} {x : Str} {C D : Addr} (hC : ErrC K mg x C) (hD : ExcC K D) (hs : PySem.W.subIn K (.ref D) (.ref C) = some true) : PySem.W.exmOne K (.ref D) (.ref C) = some true :=
  PySem.W.exm_ref hC.b hC.c.hd hC.t hs
def t_err_suite (M : Pm) (a : Addr) (cls : Value) (d : Option Addr) : TS :=
  tSeq (tAsg (tLst (tCons (tCB (rIsErr M.K a cls d) (tCons (tVar 2) (tCons (tC (.ref (M.cls "NoTable"))) tNil))) (tCons (tCB (rIsErr M.K a cls d) (tCons (tVar 2) (tCons (tC (.ref (M.cls "NoText"))) tNil))) tNil))) (gName 3))
    (tIfS (tAnd (tTest (tOp rEq (tBM M.K "list" (rCntB M.K) (tVar 3) (tCons (tC (.bl true)) tNil)) (tC (.int 1)))) (tB (tCB (rIsErr M.K a cls d) (tCons (tVar 2) (tCons (tC (.ty "ValueError")) tNil)))))
      (tAsg (tOp (rIxL M.K) (tLst (tCons (tC (.str "table")) (tCons (tC (.str "text")) tNil))) (tBM M.K "list" (rIndex M.K) (tVar 3) (tCons (tC (.bl true)) tNil))) (gName 1))
      (tAsg (tC (.str "other")) (gName 1)))
theorem gives_law_error {X : Cx} {M : Pm} {q : Str} (hK : X.K = M.K) (T : Tx M X.mg) (g : Addr) (cdg : Value) :
    LamX.GivesTo X ["call", "found", "error", "flags"] "_law_error" (defScope s_law_error) g cdg (defBody s_law_error) "call" q (TT_law_error M) := by
  obtain ⟨K, cl, tabs⟩ := M
  have hK' : X.K = K := hK
  subst hK'
  intro f c' s H Q tl act hc h
  refine ⟨_, pss_cons (ps_set (i := 1) sc_law_error.nd rfl (Or.inl rfl) pe_str)
    (pss_cons (ps_try_as (i := 2) (c := .ref (cl "ReadError"))
      (tb := fun W D σ H => ∃ Ech : XK, (∀ cls d σ' H', Ech cls d H' → σ'.length = 4 → W cls d σ' H') ∧ σ[0]? = some (some (.ref f)) ∧ H c' = some (LamX.CodeO c' q) ∧ tl Ech H (fun _ H' => D.nx σ H'))
      (ts := t_err_suite ⟨X.K, cl, tabs⟩) (Wout := fun _ _ _ _ => False) rfl rfl sc_law_error.nd rfl rfl ⟨rfl, by decide, Or.inl T.e_ReadError.g⟩ takes0 (fun W pn xe tk _ => ?_)
      (fun a oe cls d pn hz hf => pss_cons (ps_set (i := 3) sc_law_error.nd rfl (Or.inl rfl) (pe_lst (pa_cons (pe_callB (call_isErr hz hf) (by rfl) T.n_isinstance (by decide +kernel) (pa_cons (pv 2) (pa_cons (pe_glob rfl T.e_NoTable.g rfl) pa_nil)))
          (pa_cons (pe_callB (call_isErr hz hf) (by rfl) T.n_isinstance (by decide +kernel) (pa_cons (pv 2) (pa_cons (pe_glob rfl T.e_NoText.g rfl) pa_nil))) pa_nil))))
        (pss_one (ps_if (PW.pt (pw_and (pt_cmpR op_eq (pe_bm PySem.F.plainAttrs_list PySem.F.slot_list_count PySem.F.type_list_count mt_countB (pv 3) (pa_cons pe_bl pa_nil)) pe_int (nomark _))
            (pw_and1 (pt_val (pe_callB (call_isErr hz hf) (by rfl) T.n_isinstance (by decide +kernel) (pa_cons (pv 2) (pa_cons (pe_bltn (by rfl) T.n_ValueError (by decide +kernel) rfl) pa_nil)))))))
          (pss_one (ps_set (i := 1) sc_law_error.nd rfl (Or.inl rfl) (pe_ix ix_list (pe_lst (pa_cons pe_str (pa_cons pe_str pa_nil))) (pe_bm PySem.F.plainAttrs_list PySem.F.slot_list_index PySem.F.type_list_index mt_index (pv 3) (pa_cons pe_bl pa_nil)) (fun _ _ => rfl))))
          (pss_one (ps_set (i := 1) sc_law_error.nd rfl (Or.inl rfl) pe_str))))))
      (pss_one (ps_ret (pv 1)))), ?_⟩
  · refine ⟨fun pins s' σ H' D I h' => ?_⟩
    obtain ⟨Ech, hW, h1, h2, h3⟩ := h'
    have hp := fun p1 p2 => act (fun cls d σ H => σ.length = 4 → W cls d σ H) pn xe Ech p1 p2 (takes_len tk) hW
    exact (pss_one (ps_expr (hp _ _))).run pins s' σ H' D I ⟨h1, h2, h3⟩
  · refine ⟨fun cls d H' => d = none ∧ ((cls = .ref (cl "NoTable") ∧ ∀ H'', Keep [] H' H'' → Q (.str "table") H'') ∨ (cls = .ref (cl "NoText") ∧ ∀ H'', Keep [] H' H'' → Q (.str "text") H'')), ?_, rfl, hc, ?_⟩
    · rintro cls _ σ' H' ⟨rfl, hq⟩ hl
      obtain ⟨x, y, z, u, rfl⟩ : ∃ x y z u, σ' = [x, y, z, u] := by
        match σ', hl with
        | [x, y, z, u], _ => exact ⟨x, y, z, u, rfl⟩
      rcases hq with ⟨rfl, hq⟩ | ⟨rfl, hq⟩
      · refine ⟨true, exm_own T.e_ReadError T.e_NoTable.c T.sub1, fun _ a _ => ?_, fun e => nomatch e⟩
        dsimp only [t_err_suite, tSeq, tAsg, tIfS, tAnd, tB, tTest, tOp, tLst, tBM, tCB, tCons, tVar, tC, tNil, gName, List.set]
        refine ⟨_, rfl, cl "NoTable", _, .ref (cl "NoTable"), true, rfl, rfl, T.e_NoTable.c, rfl, fun u h => by cases h; rfl, T.kit1, _, rfl, cl "NoTable", _, .ref (cl "NoText"), false, rfl, rfl, T.e_NoTable.c, rfl, fun u h => by cases h; rfl, T.kit2, by show 2 ≤ sizeLine; decide, fun p hp => ?_⟩
        have k1 : Keep [] H' (upd H' p (.lst [.bl true, .bl false])) := Keep.new hp
        have hD : (upd H' p (.lst [.bl true, .bl false])) p = some (.lst ([true, false].map V.bl)) := upd_same
        refine ⟨_, rfl, .inl ⟨rfl, _, .of hD⟩, p, [true, false], rfl, rfl, .of hD, rfl, _, rfl, if1 (by decide) ?_⟩
        refine ⟨_, rfl, cl "NoTable", _, .type "ValueError", true, rfl, rfl, T.e_NoTable.c, rfl, fun u h => by cases h; rfl, T.kit3, _, rfl, if1 rfl ⟨by show 2 ≤ sizeLine; decide, fun p2 hp2 => ?_⟩⟩
        have k2 : Keep [] (upd H' p (.lst [.bl true, .bl false])) (upd (upd H' p (.lst [.bl true, .bl false])) p2 (.lst [.str "table", .str "text"])) := Keep.new hp2
        refine ⟨_, rfl, .inl ⟨rfl, _, .of (k2.at hD)⟩, p, [.bl true, .bl false], .bl true, 0, .bl true, rfl, rfl, .of (k2.at hD), rfl, rfl, rfl, rfl, fun m z' h _ => absurd h (Nat.not_lt_zero _), s_ixL (.of upd_same) (atI_nat (j := 0) rfl) ?_⟩
        exact ⟨_, rfl, hq _ (k1.trans k2)⟩
      · refine ⟨true, exm_own T.e_ReadError T.e_NoText.c T.sub2, fun _ a _ => ?_, fun e => nomatch e⟩
        dsimp only [t_err_suite, tSeq, tAsg, tIfS, tAnd, tB, tTest, tOp, tLst, tBM, tCB, tCons, tVar, tC, tNil, gName, List.set]
        refine ⟨_, rfl, cl "NoText", _, .ref (cl "NoTable"), false, rfl, rfl, T.e_NoText.c, rfl, fun u h => by cases h; rfl, T.kit4, _, rfl, cl "NoText", _, .ref (cl "NoText"), true, rfl, rfl, T.e_NoText.c, rfl, fun u h => by cases h; rfl, T.kit5, by show 2 ≤ sizeLine; decide, fun p hp => ?_⟩
        have k1 : Keep [] H' (upd H' p (.lst [.bl false, .bl true])) := Keep.new hp
        have hD : (upd H' p (.lst [.bl false, .bl true])) p = some (.lst ([false, true].map V.bl)) := upd_same
        refine ⟨_, rfl, .inl ⟨rfl, _, .of hD⟩, p, [false, true], rfl, rfl, .of hD, rfl, _, rfl, if1 (by decide) ?_⟩
        refine ⟨_, rfl, cl "NoText", _, .type "ValueError", true, rfl, rfl, T.e_NoText.c, rfl, fun u h => by cases h; rfl, T.kit6, _, rfl, if1 rfl ⟨by show 2 ≤ sizeLine; decide, fun p2 hp2 => ?_⟩⟩
        have k2 : Keep [] (upd H' p (.lst [.bl false, .bl true])) (upd (upd H' p (.lst [.bl false, .bl true])) p2 (.lst [.str "table", .str "text"])) := Keep.new hp2
        refine ⟨_, rfl, .inl ⟨rfl, _, .of (k2.at hD)⟩, p, [.bl false, .bl true], .bl true, 1, .bl true, rfl, rfl, .of (k2.at hD), rfl, rfl, rfl, rfl, fun m z' h e => ?_, s_ixL (.of upd_same) (atI_nat (j := 1) rfl) ?_⟩
        · have : m = 0 := by omega
          subst this
          cases (Option.some.inj e)
          rfl
        exact ⟨_, rfl, hq _ (k1.trans k2)⟩
    · exact h
/-! ### is_integer -/
def t_is_integer_0 (M : Pm) : TS := tRet (tAndV (tCB (rIsi M.K) (tCons (tVar 0) (tCons (tC (.ty "int")) tNil))) (tNotV (tCB (rIsi M.K) (tCons (tVar 0) (tCons (tC (.ty "bool")) tNil)))))
def t_is_integer (M : Pm) : TS := t_is_integer_0 M
section
variable {P : Program} {w : World} {mg : Str → Option Value} {base : Heap} {f : Addr} {cdv : Value} {A : Around} {outer : List Env} {s : Shared} {H : Hp} {E : XK} {M : Pm}
theorem d_is_integer (T : Tx M mg) (hr : Room 0 (A.deeper (envOfC "is_integer" (defScope s_is_integer) s.heap.objs.size f cdv))) :
    PSs (cxOf CX0 P w M.K mg base ["thing"] "is_integer" (defScope s_is_integer) f cdv A outer s H E).nox (defBody s_is_integer) (t_is_integer M) := by
  exact (pss_one (ps_ret (pe_and (pe_callB call_isi (by rfl) T.n_isinstance (by decide +kernel) (pa_cons (pv 0) (pa_cons (pe_bltn (by rfl) T.n_int (by decide +kernel) rfl) pa_nil))) (pe_one (pe_not (pe_callB call_isi (by rfl) T.n_isinstance (by decide +kernel) (pa_cons (pv 0) (pa_cons (pe_bltn (by rfl) T.n_bool (by decide +kernel) rfl) pa_nil))))))))
end
/-! ### is_within -/
def t_is_within_0 (M : Pm) : TS := tRet (tAndV (tCall (sp_is_integer M) [] E0 (tCons (tVar 0) tNil)) (tChain rLeI rLeI (tVar 1) (tVar 0) (tVar 2)))
def t_is_within (M : Pm) : TS := t_is_within_0 M
section
variable {P : Program} {w : World} {mg : Str → Option Value} {base : Heap} {f : Addr} {cdv : Value} {A : Around} {outer : List Env} {s : Shared} {H : Hp} {E : XK} {M : Pm}
theorem d_is_within (T : Tx M mg) (hr : Room 1 (A.deeper (envOfC "is_within" (defScope s_is_within) s.heap.objs.size f cdv))) (G_is_integer : Has P w M.K mg base CX0 "is_integer" 1 ["thing"] (sp_is_integer M)) :
    PSs (cxOf CX0 P w M.K mg base ["thing", "low", "high"] "is_within" (defScope s_is_within) f cdv A outer s H E).nox (defBody s_is_within) (t_is_within M) := by
  exact (pss_one (ps_ret (pe_and (pc G_is_integer (hr.mono (by decide)) (by rfl) pass0 (pa_cons (pv 0) pa_nil)) (pe_one (pe_chain op_le op_le (pv 1) (pv 0) (pv 2))))))
end
/-! ### are_signs -/
def t_are_signs_0 (M : Pm) : TS := tRet (tAndV (tCB (rIsi M.K) (tCons (tVar 0) (tCons (tC (.ty "str")) tNil))) (tAndV (tOp rLeI (tCB (rLenV M.K) (tCons (tVar 0) tNil)) (tVar 1)) (tCB (rAll M.K) (tCons (tLc (iStr (tVar 0)) (gName 2) (tYes) (tOp rInS (tVar 2) (tC (.str "abcd"))) [2]) tNil))))
def t_are_signs (M : Pm) : TS := t_are_signs_0 M
section
variable {P : Program} {w : World} {mg : Str → Option Value} {base : Heap} {f : Addr} {cdv : Value} {A : Around} {outer : List Env} {s : Shared} {H : Hp} {E : XK} {M : Pm}
theorem d_are_signs (T : Tx M mg) (hr : Room 0 (A.deeper (envOfC "are_signs" (defScope s_are_signs) s.heap.objs.size f cdv))) :
    PSs (cxOf CX0 P w M.K mg base ["thing", "most", "sign"] "are_signs" (defScope s_are_signs) f cdv A outer s H E).nox (defBody s_are_signs) (t_are_signs M) := by
  exact (pss_one (ps_ret (pe_and (pe_callB call_isi (by rfl) T.n_isinstance (by decide +kernel) (pa_cons (pv 0) (pa_cons (pe_bltn (by rfl) T.n_str (by decide +kernel) rfl) pa_nil))) (pe_and (pe_cmpR op_le (pe_callB call_len (by rfl) T.n_len (by decide +kernel) (pa_cons (pv 0) pa_nil)) (pv 1) (nomark _)) (pe_one (pe_callB (cr_all rfl) (by rfl) T.n_all (by decide +kernel) (pa_cons (pe_lc (own := [("sign", 2)]) rfl sc_are_signs.nd (pi_str (pv 0)) (blkOk_by (own := [("sign", 2)]) (N := ["thing", "most", "sign"]) (sc := defScope s_are_signs) (by decide +kernel)) (fun _ _ _ _ _ => (pg_name (i := 2) sc_are_signs.nd rfl (Or.inl rfl))) (fun _ _ _ _ _ => pts_nil) (fun _ _ _ _ _ => (pe_cmpR op_in_sign (pv 2) (pe_glob rfl (T.g_SIGNS).choose_spec ⟨_, rfl⟩) (by rfl)))) pa_nil)))))))
end
/-! ### is_text -/
def t_is_text_0 (M : Pm) : TS := tRet (tCall (sp_are_signs M) [] E0 (tCons (tVar 0) (tCons (tC (.int 300)) tNil)))
def t_is_text (M : Pm) : TS := t_is_text_0 M
section
variable {P : Program} {w : World} {mg : Str → Option Value} {base : Heap} {f : Addr} {cdv : Value} {A : Around} {outer : List Env} {s : Shared} {H : Hp} {E : XK} {M : Pm}
theorem d_is_text (T : Tx M mg) (hr : Room 1 (A.deeper (envOfC "is_text" (defScope s_is_text) s.heap.objs.size f cdv))) (G_are_signs : Has P w M.K mg base CX0 "are_signs" 1 ["thing", "most"] (sp_are_signs M)) :
    PSs (cxOf CX0 P w M.K mg base ["thing"] "is_text" (defScope s_is_text) f cdv A outer s H E).nox (defBody s_is_text) (t_is_text M) := by
  exact (pss_one (ps_ret (pc G_are_signs (hr.mono (by decide)) (by rfl) pass0 (pa_cons (pv 0) (pa_cons (pe_glob rfl (T.g_MOST_TEXT).choose_spec ⟨_, rfl⟩) pa_nil)))))
end
/-! ### check_text -/
def t_check_text_0t_0 (M : Pm) (E : XK) : TS := fun _ _ H => E (.ref (M.cls "NoText")) none H
def t_check_text_0t (M : Pm) (E : XK) : TS := t_check_text_0t_0 M E
def t_check_text_0 (M : Pm) (E : XK) : TS := tIfS (tNot (tB (tCall (sp_is_text M) [] E0 (tCons (tVar 0) tNil)))) (t_check_text_0t M E) (tNext)
def t_check_text (M : Pm) (E : XK) : TS := t_check_text_0 M E
section
variable {P : Program} {w : World} {mg : Str → Option Value} {base : Heap} {f : Addr} {cdv : Value} {A : Around} {outer : List Env} {s : Shared} {H : Hp} {E : XK} {M : Pm}
theorem d_check_text (T : Tx M mg) (hr : Room 2 (A.deeper (envOfC "check_text" (defScope s_check_text) s.heap.objs.size f cdv))) (G_is_text : Has P w M.K mg base CX0 "is_text" 2 ["thing"] (sp_is_text M)) :
    PSs (cxOf (L2.CX P w) P w M.K mg base ["thing"] "check_text" (defScope s_check_text) f cdv A outer s H E) (defBody s_check_text) (t_check_text M E) := by
  exact (pss_one (ps_if (pt_not (pt_val (pc G_is_text (hr.mono (by decide)) (by rfl) pass0 (pa_cons (pv 0) pa_nil)))) (pss_one (ps_raise (W := fun cls d _ H => E cls d H) rfl (takes_of rfl rfl rfl rfl) (pmk_own0 PySem.F.excBase_ValueError T.e_NoText.x T.e_NoText.g T.e_NoText.k (raises_own T.e_NoText.b T.e_NoText.t) (by exact rfl)))) pss_nil))
end
/-! ### is_table -/
def t_is_table_0t_0 (M : Pm) : TS := tRet (tC (.bl false))
def t_is_table_0t (M : Pm) : TS := t_is_table_0t_0 M
def t_is_table_0 (M : Pm) : TS := tIfS (tOr (tNot (tB (tCB (rIsi M.K) (tCons (tVar 0) (tCons (tC (.ty "tuple")) tNil))))) (tOr (tTest (tOp rNe (tCB (rLenV M.K) (tCons (tVar 0) tNil)) (tC (.int 2)))) (tNot (tB (tCB (rAll M.K) (tCons (tLc (iTup M.K (tVar 0)) (gName 3) (tYes) (tCB (rIsi M.K) (tCons (tVar 3) (tCons (tC (.ty "tuple")) tNil))) [3]) tNil)))))) (t_is_table_0t M) (tNext)
def t_is_table_1 (M : Pm) : TS := tAsg (tVar 0) (gTup M.K 2 (gCons (gName 1) (gCons (gName 2) gNil)))
def t_is_table_2t_0 (M : Pm) : TS := tRet (tC (.bl false))
def t_is_table_2t (M : Pm) : TS := t_is_table_2t_0 M
def t_is_table_2 (M : Pm) : TS := tIfS (tOr (tNot (tTest (tChain rLeI rLeI (tC (.int 1)) (tCB (rLenV M.K) (tCons (tVar 1) tNil)) (tC (.int 300))))) (tOr (tTest (tOp rNe (tCB (rLenV M.K) (tCons (tVar 2) tNil)) (tCB (rLenV M.K) (tCons (tVar 1) tNil)))) (tNot (tB (tCB (rAll M.K) (tCons (tLc (iTup M.K (tVar 2)) (gName 3) (tYes) (tCB (rIsi M.K) (tCons (tVar 3) (tCons (tC (.ty "bool")) tNil))) [3]) tNil)))))) (t_is_table_2t M) (tNext)
def t_is_table_3t_0 (M : Pm) : TS := tRet (tC (.bl false))
def t_is_table_3t (M : Pm) : TS := t_is_table_3t_0 M
def t_is_table_3 (M : Pm) : TS := tIfS (tNot (tB (tCB (rAll M.K) (tCons (tLc (iTup M.K (tVar 1)) (gName 4) (tYes) (tAndV (tCB (rIsi M.K) (tCons (tVar 4) (tCons (tC (.ty "tuple")) tNil))) (tOp rEq (tCB (rLenV M.K) (tCons (tVar 4) tNil)) (tCB (rLenV M.K) (tCons (tC (.str "abcd")) tNil)))) [4]) tNil)))) (t_is_table_3t M) (tNext)
def t_is_table_4 (M : Pm) : TS := tRet (tCB (rAll M.K) (tCons (tLc (iTup M.K (tVar 1)) (gName 4) (tYes) (tCB (rAll M.K) (tCons (tLc (iTup M.K (tVar 4)) (gName 3) (tYes) (tCall (sp_is_within M) [] E0 (tCons (tVar 3) (tCons (tC (.int 0)) (tCons (tOp rSubI (tCB (rLenV M.K) (tCons (tVar 1) tNil)) (tC (.int 1))) tNil)))) [3]) tNil)) [4]) tNil))
def t_is_table (M : Pm) : TS := tSeq (t_is_table_0 M) (tSeq (t_is_table_1 M) (tSeq (t_is_table_2 M) (tSeq (t_is_table_3 M) (t_is_table_4 M))))
section
variable {P : Program} {w : World} {mg : Str → Option Value} {base : Heap} {f : Addr} {cdv : Value} {A : Around} {outer : List Env} {s : Shared} {H : Hp} {E : XK} {M : Pm}
theorem d_is_table (T : Tx M mg) (hr : Room 2 (A.deeper (envOfC "is_table" (defScope s_is_table) s.heap.objs.size f cdv))) (G_is_within : Has P w M.K mg base CX0 "is_within" 2 ["thing", "low", "high"] (sp_is_within M)) :
    PSs (cxOf CX0 P w M.K mg base ["thing", "rows", "flags", "one", "row"] "is_table" (defScope s_is_table) f cdv A outer s H E).nox (defBody s_is_table) (t_is_table M) := by
  exact (pss_cons (ps_if (PW.pt (pw_or (pt_not (pt_val (pe_callB call_isi (by rfl) T.n_isinstance (by decide +kernel) (pa_cons (pv 0) (pa_cons (pe_bltn (by rfl) T.n_tuple (by decide +kernel) rfl) pa_nil))))) (pw_or (pt_cmpR op_ne (pe_callB call_len (by rfl) T.n_len (by decide +kernel) (pa_cons (pv 0) pa_nil)) pe_int (nomark _)) (pw_or1 (pt_not (pt_val (pe_callB (cr_all rfl) (by rfl) T.n_all (by decide +kernel) (pa_cons (pe_lc (own := [("one", 3)]) rfl sc_is_table.nd (pi_tup (pv 0)) (blkOk_by (own := [("one", 3)]) (N := ["thing", "rows", "flags", "one", "row"]) (sc := defScope s_is_table) (by decide +kernel)) (fun _ _ _ _ _ => (pg_name (i := 3) sc_is_table.nd rfl (Or.inl rfl))) (fun _ _ _ _ _ => pts_nil) (fun _ _ _ _ _ => (pe_callB call_isi (by rfl) T.n_isinstance (by decide +kernel) (pa_cons (pv 3) (pa_cons (pe_bltn (by rfl) T.n_tuple (by decide +kernel) rfl) pa_nil))))) pa_nil)))))))) (pss_one (ps_ret pe_bl)) pss_nil)
    (pss_cons (ps_asg (pv 0) (pg_tup (by rfl) (pgs_cons (pg_name (i := 1) sc_is_table.nd rfl (Or.inr rfl)) (pgs_cons (pg_name (i := 2) sc_is_table.nd rfl (Or.inl rfl)) pgs_nil))))
    (pss_cons (ps_if (PW.pt (pw_or (pt_not (pt_chain op_le op_le pe_int (pe_callB call_len (by rfl) T.n_len (by decide +kernel) (pa_cons (pv 1) pa_nil)) (pe_glob rfl (T.g_MOST_ROWS).choose_spec ⟨_, rfl⟩))) (pw_or (pt_cmpR op_ne (pe_callB call_len (by rfl) T.n_len (by decide +kernel) (pa_cons (pv 2) pa_nil)) (pe_callB call_len (by rfl) T.n_len (by decide +kernel) (pa_cons (pv 1) pa_nil)) (nomark _)) (pw_or1 (pt_not (pt_val (pe_callB (cr_all rfl) (by rfl) T.n_all (by decide +kernel) (pa_cons (pe_lc (own := [("one", 3)]) rfl sc_is_table.nd (pi_tup (pv 2)) (blkOk_by (own := [("one", 3)]) (N := ["thing", "rows", "flags", "one", "row"]) (sc := defScope s_is_table) (by decide +kernel)) (fun _ _ _ _ _ => (pg_name (i := 3) sc_is_table.nd rfl (Or.inl rfl))) (fun _ _ _ _ _ => pts_nil) (fun _ _ _ _ _ => (pe_callB call_isi (by rfl) T.n_isinstance (by decide +kernel) (pa_cons (pv 3) (pa_cons (pe_bltn (by rfl) T.n_bool (by decide +kernel) rfl) pa_nil))))) pa_nil)))))))) (pss_one (ps_ret pe_bl)) pss_nil)
    (pss_cons (ps_if (pt_not (pt_val (pe_callB (cr_all rfl) (by rfl) T.n_all (by decide +kernel) (pa_cons (pe_lc (own := [("row", 4)]) rfl sc_is_table.nd (pi_tup (pv 1)) (blkOk_by (own := [("row", 4)]) (N := ["thing", "rows", "flags", "one", "row"]) (sc := defScope s_is_table) (by decide +kernel)) (fun _ _ _ _ _ => (pg_name (i := 4) sc_is_table.nd rfl (Or.inl rfl))) (fun _ _ _ _ _ => pts_nil) (fun _ _ _ _ _ => (pe_and (pe_callB call_isi (by rfl) T.n_isinstance (by decide +kernel) (pa_cons (pv 4) (pa_cons (pe_bltn (by rfl) T.n_tuple (by decide +kernel) rfl) pa_nil))) (pe_one (pe_cmpR op_eq (pe_callB call_len (by rfl) T.n_len (by decide +kernel) (pa_cons (pv 4) pa_nil)) (pe_callB call_len (by rfl) T.n_len (by decide +kernel) (pa_cons (pe_glob rfl (T.g_SIGNS).choose_spec ⟨_, rfl⟩) pa_nil)) (nomark _)))))) pa_nil)))) (pss_one (ps_ret pe_bl)) pss_nil)
    (pss_one (ps_ret (pe_callB (cr_all rfl) (by rfl) T.n_all (by decide +kernel) (pa_cons (pe_lc (own := [("row", 4)]) rfl sc_is_table.nd (pi_tup (pv 1)) (blkOk_by (own := [("row", 4)]) (N := ["thing", "rows", "flags", "one", "row"]) (sc := defScope s_is_table) (by decide +kernel)) (fun _ _ _ _ _ => (pg_name (i := 4) sc_is_table.nd rfl (Or.inl rfl))) (fun _ _ _ _ _ => pts_nil) (fun _ _ _ _ _ => (pe_callB (cr_all rfl) (by rfl) T.n_all (by decide +kernel) (pa_cons (pe_lc (own := [("one", 3)]) rfl sc_is_table.nd (pi_tup (pv 4)) (by (dsimp only [L2.Cx.blk, L2.Cx.nox, cxOf, compEnvC]; exact blkOk_by (own := [("one", 3)]) (by first | decide +kernel | kernel_rfl | rfl))) (fun _ _ _ _ _ => (pg_name (i := 3) sc_is_table.nd rfl (Or.inl rfl))) (fun _ _ _ _ _ => pts_nil) (fun _ _ _ _ _ => (pc G_is_within (hr.mono (by decide)) (by rfl) pass0 (pa_cons (pv 3) (pa_cons pe_int (pa_cons (pe_op op_sub (pe_callB call_len (by rfl) T.n_len (by decide +kernel) (pa_cons (pv 1) pa_nil)) pe_int) pa_nil)))))) pa_nil)))) pa_nil))))))))
end
/-! ### check_table -/
def t_check_table_0t_0 (M : Pm) (E : XK) : TS := fun _ _ H => E (.ref (M.cls "NoTable")) none H
def t_check_table_0t (M : Pm) (E : XK) : TS := t_check_table_0t_0 M E
def t_check_table_0 (M : Pm) (E : XK) : TS := tIfS (tNot (tB (tCall (sp_is_table M) [] E0 (tCons (tVar 0) tNil)))) (t_check_table_0t M E) (tNext)
def t_check_table (M : Pm) (E : XK) : TS := t_check_table_0 M E
section
variable {P : Program} {w : World} {mg : Str → Option Value} {base : Heap} {f : Addr} {cdv : Value} {A : Around} {outer : List Env} {s : Shared} {H : Hp} {E : XK} {M : Pm}
theorem d_check_table (T : Tx M mg) (hr : Room 3 (A.deeper (envOfC "check_table" (defScope s_check_table) s.heap.objs.size f cdv))) (G_is_table : Has P w M.K mg base CX0 "is_table" 3 ["thing"] (sp_is_table M)) :
    PSs (cxOf (L2.CX P w) P w M.K mg base ["thing"] "check_table" (defScope s_check_table) f cdv A outer s H E) (defBody s_check_table) (t_check_table M E) := by
  exact (pss_one (ps_if (pt_not (pt_val (pc G_is_table (hr.mono (by decide)) (by rfl) pass0 (pa_cons (pv 0) pa_nil)))) (pss_one (ps_raise (W := fun cls d _ H => E cls d H) rfl (takes_of rfl rfl rfl rfl) (pmk_own0 PySem.F.excBase_ValueError T.e_NoTable.x T.e_NoTable.g T.e_NoTable.k (raises_own T.e_NoTable.b T.e_NoTable.t) (by exact rfl)))) pss_nil))
end
/-! ### raw_row_behind -/
def t_raw_row_behind_0 (M : Pm) : TS := tAsg (tC (.int 0)) (gName 2)
def t_raw_row_behind_1l_0 (M : Pm) : TS := tAsg (tOp (rIxT M.K) (tOp (rIxT M.K) (tOp (rIxT M.K) (tVar 0) (tC (.int 0))) (tVar 2)) (tBM M.K "str" rSIndex (tC (.str "abcd")) (tCons (tVar 3) tNil))) (gName 2)
def t_raw_row_behind_1l (M : Pm) : TS := t_raw_row_behind_1l_0 M
def t_raw_row_behind_1 (M : Pm) : TS := tFor (iStr (tVar 1)) (gName 3) (t_raw_row_behind_1l M)
def t_raw_row_behind_2 (M : Pm) : TS := tRet (tVar 2)
def t_raw_row_behind (M : Pm) : TS := tSeq (t_raw_row_behind_0 M) (tSeq (t_raw_row_behind_1 M) (t_raw_row_behind_2 M))
section
variable {P : Program} {w : World} {mg : Str → Option Value} {base : Heap} {f : Addr} {cdv : Value} {A : Around} {outer : List Env} {s : Shared} {H : Hp} {E : XK} {M : Pm}
theorem d_raw_row_behind (T : Tx M mg) (hr : Room 0 (A.deeper (envOfC "raw_row_behind" (defScope s_raw_row_behind) s.heap.objs.size f cdv))) :
    PSs (cxOf CX0 P w M.K mg base ["table", "text", "here", "sign"] "raw_row_behind" (defScope s_raw_row_behind) f cdv A outer s H E).nox (defBody s_raw_row_behind) (t_raw_row_behind M) := by
  exact (pss_cons (ps_set (i := 2) sc_raw_row_behind.nd rfl (Or.inl rfl) pe_int)
    (pss_cons (ps_for PassesOwn.never rfl (pi_str (pv 1)) (pg_name (i := 3) sc_raw_row_behind.nd rfl (Or.inl rfl)) (pss_one (ps_set (i := 2) sc_raw_row_behind.nd rfl (Or.inl rfl) (pe_ix ix_tup (pe_ix ix_tup (pe_ix ix_tup (pv 0) pe_int (fun _ _ => rfl)) (pv 2) (fun _ _ => rfl)) (pe_bm PySem.F.plainAttrs_str PySem.F.slot_str_index PySem.F.type_str_index mt_sindex (pe_glob rfl (T.g_SIGNS).choose_spec ⟨_, rfl⟩) (pa_cons (pv 3) pa_nil)) (fun _ _ => rfl)))))
    (pss_one (ps_ret (pv 2)))))
end
/-! ### table_reads -/
def t_table_reads_0 (M : Pm) (E : XK) : TS := tDrop (tCall (sp_check_table M) [] E (tCons (tVar 0) tNil))
def t_table_reads_1 (M : Pm) (E : XK) : TS := tDrop (tCall (sp_check_text M) [] E (tCons (tVar 1) tNil))
def t_table_reads_2 (M : Pm) (E : XK) : TS := tRet (tOp (rIxT M.K) (tOp (rIxT M.K) (tVar 0) (tC (.int 1))) (tCall (sp_raw_row_behind M) [] E0 (tCons (tVar 0) (tCons (tVar 1) tNil))))
def t_table_reads (M : Pm) (E : XK) : TS := tSeq (t_table_reads_0 M E) (tSeq (t_table_reads_1 M E) (t_table_reads_2 M E))
section
variable {P : Program} {w : World} {mg : Str → Option Value} {base : Heap} {f : Addr} {cdv : Value} {A : Around} {outer : List Env} {s : Shared} {H : Hp} {E : XK} {M : Pm}
theorem d_table_reads (T : Tx M mg) (hr : Room 4 (A.deeper (envOfC "table_reads" (defScope s_table_reads) s.heap.objs.size f cdv))) (G_check_table : Has P w M.K mg base (L2.CX P w) "check_table" 4 ["thing"] (sp_check_table M)) (G_check_text : Has P w M.K mg base (L2.CX P w) "check_text" 3 ["thing"] (sp_check_text M)) (G_raw_row_behind : Has P w M.K mg base CX0 "raw_row_behind" 1 ["table", "text"] (sp_raw_row_behind M)) :
    PSs (cxOf (L2.CX P w) P w M.K mg base ["table", "text"] "table_reads" (defScope s_table_reads) f cdv A outer s H E) (defBody s_table_reads) (t_table_reads M E) := by
  exact (pss_cons (ps_expr (pc G_check_table (hr.mono (by decide)) (by rfl) (passes_call (W := fun cls d _ H => E cls d H) (takes_of rfl rfl rfl rfl) fun _ _ _ _ h => h) (pa_cons (pv 0) pa_nil)))
    (pss_cons (ps_expr (pc G_check_text (hr.mono (by decide)) (by rfl) (passes_call (W := fun cls d _ H => E cls d H) (takes_of rfl rfl rfl rfl) fun _ _ _ _ h => h) (pa_cons (pv 1) pa_nil)))
    (pss_one (ps_ret (pe_ix ix_tup (pe_ix ix_tup (pv 0) pe_int (fun _ _ => rfl)) (pc G_raw_row_behind (hr.mono (by decide)) (by rfl) pass0 (pa_cons (pv 0) (pa_cons (pv 1) pa_nil))) (fun _ _ => rfl))))))
end
/-! ### row_behind -/
def t_row_behind_0 (M : Pm) (E : XK) : TS := tDrop (tCall (sp_check_table M) [] E (tCons (tVar 0) tNil))
def t_row_behind_1 (M : Pm) (E : XK) : TS := tDrop (tCall (sp_check_text M) [] E (tCons (tVar 1) tNil))
def t_row_behind_2 (M : Pm) (E : XK) : TS := tRet (tCall (sp_raw_row_behind M) [] E0 (tCons (tVar 0) (tCons (tVar 1) tNil)))
def t_row_behind (M : Pm) (E : XK) : TS := tSeq (t_row_behind_0 M E) (tSeq (t_row_behind_1 M E) (t_row_behind_2 M E))
section
variable {P : Program} {w : World} {mg : Str → Option Value} {base : Heap} {f : Addr} {cdv : Value} {A : Around} {outer : List Env} {s : Shared} {H : Hp} {E : XK} {M : Pm}
theorem d_row_behind (T : Tx M mg) (hr : Room 4 (A.deeper (envOfC "row_behind" (defScope s_row_behind) s.heap.objs.size f cdv))) (G_check_table : Has P w M.K mg base (L2.CX P w) "check_table" 4 ["thing"] (sp_check_table M)) (G_check_text : Has P w M.K mg base (L2.CX P w) "check_text" 3 ["thing"] (sp_check_text M)) (G_raw_row_behind : Has P w M.K mg base CX0 "raw_row_behind" 1 ["table", "text"] (sp_raw_row_behind M)) :
    PSs (cxOf (L2.CX P w) P w M.K mg base ["table", "text"] "row_behind" (defScope s_row_behind) f cdv A outer s H E) (defBody s_row_behind) (t_row_behind M E) := by
  exact (pss_cons (ps_expr (pc G_check_table (hr.mono (by decide)) (by rfl) (passes_call (W := fun cls d _ H => E cls d H) (takes_of rfl rfl rfl rfl) fun _ _ _ _ h => h) (pa_cons (pv 0) pa_nil)))
    (pss_cons (ps_expr (pc G_check_text (hr.mono (by decide)) (by rfl) (passes_call (W := fun cls d _ H => E cls d H) (takes_of rfl rfl rfl rfl) fun _ _ _ _ h => h) (pa_cons (pv 1) pa_nil)))
    (pss_one (ps_ret (pc G_raw_row_behind (hr.mono (by decide)) (by rfl) pass0 (pa_cons (pv 0) (pa_cons (pv 1) pa_nil)))))))
end
/-! ### _law_bag -/
def t_law_bag_0 (M : Pm) : TS := tAsg (tLc (iList M.K (tSl (rSlL M.K) (tVar 0) tNoPart (tPart (tC (.int 63))))) (gName 2) (tYes) (tCB rInt1 (tCons (tOp rModI (tCB rInt1 (tCons (tVar 2) tNil)) (tOp rPowI (tC (.int 10)) (tC (.int 40)))) tNil)) [2]) (gName 1)
def t_law_bag_1 (M : Pm) : TS := tRet (tLst (tCons (tVar 1) (tCons (tC (.int 0)) (tCons (tC (.int 0)) (tCons (tOp rAddI (tC (.int 2371)) (tOp rMulI (tC (.int 11)) (tCB (rLenV M.K) (tCons (tVar 1) tNil)))) (tCons (tC (.int 0)) tNil))))))
def t_law_bag (M : Pm) : TS := tSeq (t_law_bag_0 M) (t_law_bag_1 M)
section
variable {P : Program} {w : World} {mg : Str → Option Value} {base : Heap} {f : Addr} {cdv : Value} {A : Around} {outer : List Env} {s : Shared} {H : Hp} {E : XK} {M : Pm}
theorem d_law_bag (T : Tx M mg) (hr : Room 0 (A.deeper (envOfC "_law_bag" (defScope s_law_bag) s.heap.objs.size f cdv))) :
    PSs (cxOf CX0 P w M.K mg base ["script", "cells", "cell"] "_law_bag" (defScope s_law_bag) f cdv A outer s H E).nox (defBody s_law_bag) (t_law_bag M) := by
  exact (pss_cons (ps_setLc (i := 1) (own := [("cell", 2)]) rfl sc_law_bag.nd rfl rfl (sw_true rfl rfl rfl (by decide +kernel)) (pi_list (pe_slice sl_list (pv 0) po_none (po_some pe_int))) (blkOk_by (own := [("cell", 2)]) (N := ["script", "cells", "cell"]) (sc := defScope s_law_bag) (by decide +kernel)) (fun _ _ _ _ _ => (pg_name (i := 2) sc_law_bag.nd rfl (Or.inl rfl))) (fun _ _ _ _ _ => pts_nil) (fun _ _ _ _ _ => (pe_callTy call_int1 (by rfl) T.n_int (by decide +kernel) (pa_cons (pe_op op_mod (pe_callTy call_int1 (by rfl) T.n_int (by decide +kernel) (pa_cons (pv 2) pa_nil)) (pe_op op_pow pe_int pe_int)) pa_nil))))
    (pss_one (ps_ret (pe_lst (pa_cons (pv 1) (pa_cons pe_int (pa_cons pe_int (pa_cons (pe_op op_add pe_int (pe_op op_mul pe_int (pe_callB call_len (by rfl) T.n_len (by decide +kernel) (pa_cons (pv 1) pa_nil)))) (pa_cons pe_int pa_nil)))))))))
end
/-! ### _law_pick -/
def t_law_pick_0t_0 (M : Pm) : TS := tAsg (tOp (rIxL M.K) (tOp (rIxL M.K) (tVar 0) (tC (.int 0))) (tOp (rIxL M.K) (tVar 0) (tC (.int 1)))) (gName 2)
def t_law_pick_0t_1 (M : Pm) : TS := tAsg (tOp rAddI (tOp (rIxL M.K) (tVar 0) (tC (.int 1))) (tC (.int 1))) (gSub (tVar 0) (tC (.int 1)) rSetL)
def t_law_pick_0t_2 (M : Pm) : TS := tAsg (tOp rModI (tCB rInt1 (tCons (tOp rAddI (tOp rAddI (tOp rMulI (tOp (rIxL M.K) (tVar 0) (tC (.int 3))) (tC (.int 69621))) (tOp rMulI (tVar 2) (tC (.int 40692)))) (tC (.int 41))) tNil)) (tC (.int 2147483629))) (gSub (tVar 0) (tC (.int 3)) rSetL)
def t_law_pick_0t_3t_0 (M : Pm) : TS := tAsg (tVar 2) (gSub (tVar 0) (tC (.int 2)) rSetL)
def t_law_pick_0t_3t (M : Pm) : TS := t_law_pick_0t_3t_0 M
def t_law_pick_0t_3 (M : Pm) : TS := tIfS (tTest (tOp rGeI (tVar 2) (tOp rPowI (tC (.int 10)) (tC (.int 18))))) (t_law_pick_0t_3t M) (tNext)
def t_law_pick_0t (M : Pm) : TS := tSeq (t_law_pick_0t_0 M) (tSeq (t_law_pick_0t_1 M) (tSeq (t_law_pick_0t_2 M) (t_law_pick_0t_3 M)))
def t_law_pick_0 (M : Pm) : TS := tIfS (tAnd (tTest (tOp rEq (tOp (rIxL M.K) (tVar 0) (tC (.int 2))) (tC (.int 0)))) (tTest (tOp rLtI (tOp (rIxL M.K) (tVar 0) (tC (.int 1))) (tCB (rLenV M.K) (tCons (tOp (rIxL M.K) (tVar 0) (tC (.int 0))) tNil))))) (t_law_pick_0t M) (tNext)
def t_law_pick_1t_0 (M : Pm) : TS := tAsg (tOp rModI (tCB rInt1 (tCons (tOp (rIxL M.K) (tVar 0) (tC (.int 2))) tNil)) (tVar 1)) (gName 3)
def t_law_pick_1t_1 (M : Pm) : TS := tAsg (tOp rFdivI (tOp (rIxL M.K) (tVar 0) (tC (.int 2))) (tVar 1)) (gSub (tVar 0) (tC (.int 2)) rSetL)
def t_law_pick_1t_2 (M : Pm) : TS := tRet (tVar 3)
def t_law_pick_1t (M : Pm) : TS := tSeq (t_law_pick_1t_0 M) (tSeq (t_law_pick_1t_1 M) (t_law_pick_1t_2 M))
def t_law_pick_1 (M : Pm) : TS := tIfS (tTest (tOp rGtI (tOp (rIxL M.K) (tVar 0) (tC (.int 2))) (tC (.int 0)))) (t_law_pick_1t M) (tNext)
def t_law_pick_2 (M : Pm) : TS := tAsg (tOp rAddI (tOp (rIxL M.K) (tVar 0) (tC (.int 4))) (tC (.int 1))) (gSub (tVar 0) (tC (.int 4)) rSetL)
def t_law_pick_3 (M : Pm) : TS := tAsg (tOp rModI (tCB rInt1 (tCons (tOp rMulI (tCB rInt1 (tCons (tOp rAddI (tOp (rIxL M.K) (tVar 0) (tC (.int 3))) (tOp rMulI (tC (.int 7919)) (tOp (rIxL M.K) (tVar 0) (tC (.int 4))))) tNil)) (tC (.int 48271))) tNil)) (tC (.int 2147483647))) (gName 4)
def t_law_pick_4 (M : Pm) : TS := tAsg (tOp rModI (tCB rInt1 (tCons (tOp rMulI (tVar 4) (tOp rAddI (tOp rFdivI (tVar 4) (tC (.int 1009))) (tC (.int 69621)))) tNil)) (tC (.int 2147483647))) (gName 4)
def t_law_pick_5 (M : Pm) : TS := tAsg (tOp rModI (tCB rInt1 (tCons (tOp rMulI (tVar 4) (tOp rAddI (tOp rFdivI (tVar 4) (tC (.int 2003))) (tC (.int 40014)))) tNil)) (tC (.int 2147483563))) (gName 4)
def t_law_pick_6 (M : Pm) : TS := tRet (tOp rModI (tCB rInt1 (tCons (tOp rFdivI (tVar 4) (tC (.int 16))) tNil)) (tVar 1))
def t_law_pick (M : Pm) : TS := tSeq (t_law_pick_0 M) (tSeq (t_law_pick_1 M) (tSeq (t_law_pick_2 M) (tSeq (t_law_pick_3 M) (tSeq (t_law_pick_4 M) (tSeq (t_law_pick_5 M) (t_law_pick_6 M))))))
section
variable {P : Program} {w : World} {mg : Str → Option Value} {base : Heap} {f : Addr} {cdv : Value} {A : Around} {outer : List Env} {s : Shared} {H : Hp} {E : XK} {M : Pm}
theorem d_law_pick (T : Tx M mg) (hr : Room 0 (A.deeper (envOfC "_law_pick" (defScope s_law_pick) s.heap.objs.size f cdv))) :
    PSs (cxOf CX0 P w M.K mg base ["bag", "width", "cell", "digit", "number"] "_law_pick" (defScope s_law_pick) f cdv A outer s H E).nox (defBody s_law_pick) (t_law_pick M) := by
  exact (pss_cons (ps_if (PW.pt (pw_and (pt_cmpR op_eq (pe_ix ix_list (pv 0) pe_int (fun _ _ => rfl)) pe_int (nomark _)) (pw_and1 (pt_cmpR op_lt (pe_ix ix_list (pv 0) pe_int (fun _ _ => rfl)) (pe_callB call_len (by rfl) T.n_len (by decide +kernel) (pa_cons (pe_ix ix_list (pv 0) pe_int (fun _ _ => rfl)) pa_nil)) (nomark _))))) (pss_cons (ps_set (i := 2) sc_law_pick.nd rfl (Or.inl rfl) (pe_ix ix_list (pe_ix ix_list (pv 0) pe_int (fun _ _ => rfl)) (pe_ix ix_list (pv 0) pe_int (fun _ _ => rfl)) (fun _ _ => rfl)))
    (pss_cons (ps_asg (pe_op op_add (pe_ix ix_list (pv 0) pe_int (fun _ _ => rfl)) pe_int) (pg_sub (pv 0) pe_int set_list))
    (pss_cons (ps_asg (pe_op op_mod (pe_callTy call_int1 (by rfl) T.n_int (by decide +kernel) (pa_cons (pe_op op_add (pe_op op_add (pe_op op_mul (pe_ix ix_list (pv 0) pe_int (fun _ _ => rfl)) pe_int) (pe_op op_mul (pv 2) pe_int)) pe_int) pa_nil)) pe_int) (pg_sub (pv 0) pe_int set_list))
    (pss_one (ps_if (pt_cmpR op_ge (pv 2) (pe_op op_pow pe_int pe_int) (nomark _)) (pss_one (ps_asg (pv 2) (pg_sub (pv 0) pe_int set_list))) pss_nil))))) pss_nil)
    (pss_cons (ps_if (pt_cmpR op_gt (pe_ix ix_list (pv 0) pe_int (fun _ _ => rfl)) pe_int (nomark _)) (pss_cons (ps_set (i := 3) sc_law_pick.nd rfl (Or.inl rfl) (pe_op op_mod (pe_callTy call_int1 (by rfl) T.n_int (by decide +kernel) (pa_cons (pe_ix ix_list (pv 0) pe_int (fun _ _ => rfl)) pa_nil)) (pv 1)))
    (pss_cons (ps_asg (pe_op op_fdiv (pe_ix ix_list (pv 0) pe_int (fun _ _ => rfl)) (pv 1)) (pg_sub (pv 0) pe_int set_list))
    (pss_one (ps_ret (pv 3))))) pss_nil)
    (pss_cons (ps_asg (pe_op op_add (pe_ix ix_list (pv 0) pe_int (fun _ _ => rfl)) pe_int) (pg_sub (pv 0) pe_int set_list))
    (pss_cons (ps_set (i := 4) sc_law_pick.nd rfl (Or.inl rfl) (pe_op op_mod (pe_callTy call_int1 (by rfl) T.n_int (by decide +kernel) (pa_cons (pe_op op_mul (pe_callTy call_int1 (by rfl) T.n_int (by decide +kernel) (pa_cons (pe_op op_add (pe_ix ix_list (pv 0) pe_int (fun _ _ => rfl)) (pe_op op_mul pe_int (pe_ix ix_list (pv 0) pe_int (fun _ _ => rfl)))) pa_nil)) pe_int) pa_nil)) pe_int))
    (pss_cons (ps_set (i := 4) sc_law_pick.nd rfl (Or.inl rfl) (pe_op op_mod (pe_callTy call_int1 (by rfl) T.n_int (by decide +kernel) (pa_cons (pe_op op_mul (pv 4) (pe_op op_add (pe_op op_fdiv (pv 4) pe_int) pe_int)) pa_nil)) pe_int))
    (pss_cons (ps_set (i := 4) sc_law_pick.nd rfl (Or.inl rfl) (pe_op op_mod (pe_callTy call_int1 (by rfl) T.n_int (by decide +kernel) (pa_cons (pe_op op_mul (pv 4) (pe_op op_add (pe_op op_fdiv (pv 4) pe_int) pe_int)) pa_nil)) pe_int))
    (pss_one (ps_ret (pe_op op_mod (pe_callTy call_int1 (by rfl) T.n_int (by decide +kernel) (pa_cons (pe_op op_fdiv (pv 4) pe_int) pa_nil)) (pv 1))))))))))
end
/-! ### _law_some -/
def t_law_some_0 (M : Pm) : TS := tRet (tOp (rIx M.K) (tVar 1) (tCall (sp_law_pick M) [] E0 (tCons (tVar 0) (tCons (tCB (rLenV M.K) (tCons (tVar 1) tNil)) tNil))))
def t_law_some (M : Pm) : TS := t_law_some_0 M
section
variable {P : Program} {w : World} {mg : Str → Option Value} {base : Heap} {f : Addr} {cdv : Value} {A : Around} {outer : List Env} {s : Shared} {H : Hp} {E : XK} {M : Pm}
theorem d_law_some (T : Tx M mg) (hr : Room 1 (A.deeper (envOfC "_law_some" (defScope s_law_some) s.heap.objs.size f cdv))) (G__law_pick : Has P w M.K mg base CX0 "_law_pick" 1 ["bag", "width"] (sp_law_pick M)) :
    PSs (cxOf CX0 P w M.K mg base ["bag", "things"] "_law_some" (defScope s_law_some) f cdv A outer s H E).nox (defBody s_law_some) (t_law_some M) := by
  exact (pss_one (ps_ret (pe_ix ix_seq (pv 1) (pc G__law_pick (hr.mono (by decide)) (by rfl) pass0 (pa_cons (pv 0) (pa_cons (pe_callB call_len (by rfl) T.n_len (by decide +kernel) (pa_cons (pv 1) pa_nil)) pa_nil))) (fun _ _ => rfl))))
end
/-! ### _law_drawn_table -/
def t_law_drawn_table_0 (M : Pm) : TS := tAsg (tOp rAddI (tC (.int 1)) (tCall (sp_law_pick M) [] E0 (tCons (tVar 0) (tCons (tVar 1) tNil)))) (gName 2)
def t_law_drawn_table_1 (M : Pm) : TS := tAsg (tLst tNil) (gName 3)
def t_law_drawn_table_2l_0 (M : Pm) : TS := tAsg (tLst (tCons (tCB rMin2 (tCons (tOp rAddI (tVar 4) (tC (.int 1))) (tCons (tOp rSubI (tVar 2) (tC (.int 1))) tNil))) (tCons (tVar 4) (tCons (tC (.int 0)) (tCons (tCall (sp_law_pick M) [] E0 (tCons (tVar 0) (tCons (tVar 2) tNil))) tNil))))) (gName 5)
def t_law_drawn_table_2l_1 (M : Pm) : TS := tDrop (tBM M.K "list" rAppend (tVar 3) (tCons (tLc (iStr (tC (.str "abcd"))) (gName 6) (tYes) (tCall (sp_law_some M) [] E0 (tCons (tVar 0) (tCons (tOp rCat (tVar 5) (tLst (tCons (tCall (sp_law_pick M) [] E0 (tCons (tVar 0) (tCons (tVar 2) tNil))) tNil))) tNil))) [6]) tNil))
def t_law_drawn_table_2l (M : Pm) : TS := tSeq (t_law_drawn_table_2l_0 M) (t_law_drawn_table_2l_1 M)
def t_law_drawn_table_2 (M : Pm) : TS := tFor (iRng1 (tCons (tVar 2) tNil)) (gName 4) (t_law_drawn_table_2l M)
def t_law_drawn_table_3 (M : Pm) : TS := tRet (tTup (tCons (tVar 3) (tCons (tLc (iRng1 (tCons (tVar 2) tNil)) (gName 4) (tYes) (tOp rEq (tCall (sp_law_pick M) [] E0 (tCons (tVar 0) (tCons (tC (.int 3)) tNil))) (tC (.int 0))) [4]) tNil)))
def t_law_drawn_table (M : Pm) : TS := tSeq (t_law_drawn_table_0 M) (tSeq (t_law_drawn_table_1 M) (tSeq (t_law_drawn_table_2 M) (t_law_drawn_table_3 M)))
section
variable {P : Program} {w : World} {mg : Str → Option Value} {base : Heap} {f : Addr} {cdv : Value} {A : Around} {outer : List Env} {s : Shared} {H : Hp} {E : XK} {M : Pm}
theorem d_law_drawn_table (T : Tx M mg) (hr : Room 2 (A.deeper (envOfC "_law_drawn_table" (defScope s_law_drawn_table) s.heap.objs.size f cdv))) (G__law_pick : Has P w M.K mg base CX0 "_law_pick" 1 ["bag", "width"] (sp_law_pick M)) (G__law_some : Has P w M.K mg base CX0 "_law_some" 2 ["bag", "things"] (sp_law_some M)) :
    PSs (cxOf CX0 P w M.K mg base ["bag", "most", "many", "rows", "at", "near", "sign"] "_law_drawn_table" (defScope s_law_drawn_table) f cdv A outer s H E).nox (defBody s_law_drawn_table) (t_law_drawn_table M) := by
  exact (pss_cons (ps_set (i := 2) sc_law_drawn_table.nd rfl (Or.inr rfl) (pe_op op_add pe_int (pc G__law_pick (hr.mono (by decide)) (by rfl) pass0 (pa_cons (pv 0) (pa_cons (pv 1) pa_nil)))))
    (pss_cons (ps_set (i := 3) sc_law_drawn_table.nd rfl (Or.inl rfl) (pe_lst pa_nil))
    (pss_cons (ps_for PassesOwn.never rfl (pi_range1 (by rfl) T.n_range (pa_cons (pv 2) pa_nil)) (pg_name (i := 4) sc_law_drawn_table.nd rfl (Or.inl rfl)) (pss_cons (ps_set (i := 5) sc_law_drawn_table.nd rfl (Or.inr rfl) (pe_lst (pa_cons (pe_callB (call_min2 rfl) (by rfl) T.n_min (by decide +kernel) (pa_cons (pe_op op_add (pv 4) pe_int) (pa_cons (pe_op op_sub (pv 2) pe_int) pa_nil))) (pa_cons (pv 4) (pa_cons pe_int (pa_cons (pc G__law_pick (hr.mono (by decide)) (by rfl) pass0 (pa_cons (pv 0) (pa_cons (pv 2) pa_nil))) pa_nil))))))
    (pss_one (ps_expr (pe_bm PySem.F.plainAttrs_list PySem.F.slot_list_append PySem.F.type_list_append mt_append (pv 3) (pa_cons (pe_lc (own := [("sign", 6)]) rfl sc_law_drawn_table.nd (pi_str pe_str) (blkOk_by (own := [("sign", 6)]) (N := ["bag", "most", "many", "rows", "at", "near", "sign"]) (sc := defScope s_law_drawn_table) (by decide +kernel)) (fun _ _ _ _ _ => (pg_name (i := 6) sc_law_drawn_table.nd rfl (Or.inl rfl))) (fun _ _ _ _ _ => pts_nil) (fun _ _ _ _ _ => (pc G__law_some (hr.mono (by decide)) (by rfl) pass0 (pa_cons (pv 0) (pa_cons (pe_op op_cat (pv 5) (pe_lst (pa_cons (pc G__law_pick (hr.mono (by decide)) (by rfl) pass0 (pa_cons (pv 0) (pa_cons (pv 2) pa_nil))) pa_nil))) pa_nil))))) pa_nil))))))
    (pss_one (ps_ret (pe_tup (pa_cons (pv 3) (pa_cons (pe_lc (own := [("at", 4)]) rfl sc_law_drawn_table.nd (pi_range1 (by rfl) T.n_range (pa_cons (pv 2) pa_nil)) (blkOk_by (own := [("at", 4)]) (N := ["bag", "most", "many", "rows", "at", "near", "sign"]) (sc := defScope s_law_drawn_table) (by decide +kernel)) (fun _ _ _ _ _ => (pg_name (i := 4) sc_law_drawn_table.nd rfl (Or.inl rfl))) (fun _ _ _ _ _ => pts_nil) (fun _ _ _ _ _ => (pe_cmpR op_eq (pc G__law_pick (hr.mono (by decide)) (by rfl) pass0 (pa_cons (pv 0) (pa_cons pe_int pa_nil))) pe_int (nomark _)))) pa_nil))))))))
end
/-! ### _law_table -/
def t_law_table_0 (M : Pm) : TS := tRet (tTup (tCons (tCB (rTupOf M.K) (tCons (tLc (iList M.K (tVar 0)) (gName 2) (tYes) (tCB (rTupOf M.K) (tCons (tVar 2) tNil)) [2]) tNil)) (tCons (tCB (rTupOf M.K) (tCons (tVar 1) tNil)) tNil)))
def t_law_table (M : Pm) : TS := t_law_table_0 M
section
variable {P : Program} {w : World} {mg : Str → Option Value} {base : Heap} {f : Addr} {cdv : Value} {A : Around} {outer : List Env} {s : Shared} {H : Hp} {E : XK} {M : Pm}
theorem d_law_table (T : Tx M mg) (hr : Room 0 (A.deeper (envOfC "_law_table" (defScope s_law_table) s.heap.objs.size f cdv))) :
    PSs (cxOf CX0 P w M.K mg base ["rows", "flags", "row"] "_law_table" (defScope s_law_table) f cdv A outer s H E).nox (defBody s_law_table) (t_law_table M) := by
  exact (pss_one (ps_ret (pe_tup (pa_cons (pe_callTy call_tuple_of (by rfl) T.n_tuple (by decide +kernel) (pa_cons (pe_lc (own := [("row", 2)]) rfl sc_law_table.nd (pi_list (pv 0)) (blkOk_by (own := [("row", 2)]) (N := ["rows", "flags", "row"]) (sc := defScope s_law_table) (by decide +kernel)) (fun _ _ _ _ _ => (pg_name (i := 2) sc_law_table.nd rfl (Or.inl rfl))) (fun _ _ _ _ _ => pts_nil) (fun _ _ _ _ _ => (pe_callTy call_tuple_of (by rfl) T.n_tuple (by decide +kernel) (pa_cons (pv 2) pa_nil)))) pa_nil)) (pa_cons (pe_callTy call_tuple_of (by rfl) T.n_tuple (by decide +kernel) (pa_cons (pv 1) pa_nil)) pa_nil)))))
end
/-! ### _law_behind_text -/
def t_law_behind_text_0 (M : Pm) : TS := tAsg (tC (.int 0)) (gName 2)
def t_law_behind_text_1l_0 (M : Pm) : TS := tAsg (tOp (rIxL M.K) (tOp (rIxL M.K) (tVar 0) (tVar 2)) (tBM M.K "str" rSIndex (tC (.str "abcd")) (tCons (tVar 3) tNil))) (gName 2)
def t_law_behind_text_1l (M : Pm) : TS := t_law_behind_text_1l_0 M
def t_law_behind_text_1 (M : Pm) : TS := tFor (iStr (tVar 1)) (gName 3) (t_law_behind_text_1l M)
def t_law_behind_text_2 (M : Pm) : TS := tRet (tVar 2)
def t_law_behind_text (M : Pm) : TS := tSeq (t_law_behind_text_0 M) (tSeq (t_law_behind_text_1 M) (t_law_behind_text_2 M))
section
variable {P : Program} {w : World} {mg : Str → Option Value} {base : Heap} {f : Addr} {cdv : Value} {A : Around} {outer : List Env} {s : Shared} {H : Hp} {E : XK} {M : Pm}
theorem d_law_behind_text (T : Tx M mg) (hr : Room 0 (A.deeper (envOfC "_law_behind_text" (defScope s_law_behind_text) s.heap.objs.size f cdv))) :
    PSs (cxOf CX0 P w M.K mg base ["rows", "text", "at", "sign"] "_law_behind_text" (defScope s_law_behind_text) f cdv A outer s H E).nox (defBody s_law_behind_text) (t_law_behind_text M) := by
  exact (pss_cons (ps_set (i := 2) sc_law_behind_text.nd rfl (Or.inl rfl) pe_int)
    (pss_cons (ps_for PassesOwn.never rfl (pi_str (pv 1)) (pg_name (i := 3) sc_law_behind_text.nd rfl (Or.inl rfl)) (pss_one (ps_set (i := 2) sc_law_behind_text.nd rfl (Or.inl rfl) (pe_ix ix_list (pe_ix ix_list (pv 0) (pv 2) (fun _ _ => rfl)) (pe_bm PySem.F.plainAttrs_str PySem.F.slot_str_index PySem.F.type_str_index mt_sindex pe_str (pa_cons (pv 3) pa_nil)) (fun _ _ => rfl)))))
    (pss_one (ps_ret (pv 2)))))
end
/-! ### _law_odd_table -/
def t_law_odd_table_0 (M : Pm) : TS := tPar3 3 4 5 (tCons (tCall (sp_law_pick M) [] E0 (tCons (tVar 0) (tCons (tCB (rLenV M.K) (tCons (tVar 1) tNil)) tNil))) (tCons (tCall (sp_law_pick M) [] E0 (tCons (tVar 0) (tCons (tC (.int 8)) tNil))) (tCons (tCall (sp_law_pick M) [] E0 (tCons (tVar 0) (tCons (tC (.int 4)) tNil))) tNil)))
def t_law_odd_table_1 (M : Pm) : TS := tPar 6 7 (tCons (tLc (iList M.K (tVar 1)) (gName 8) (tYes) (tCB (rTupOf M.K) (tCons (tVar 8) tNil)) [8]) (tCons (tCB (rLenV M.K) (tCons (tVar 1) tNil)) tNil))
def t_law_odd_table_2 (M : Pm) : TS := tAsg (tCB (rLstOf M.K) (tCons (tOp (rIxL M.K) (tVar 1) (tVar 3)) tNil)) (gName 8)
def t_law_odd_table_3 (M : Pm) : TS := tAsg (tCall (sp_law_some M) [] E0 (tCons (tVar 0) (tCons (tLst (tCons (tUn rNegI (tC (.int 1))) (tCons (tVar 7) (tCons (tC .non) (tCons (tC (.bl true)) (tCons (tC (.str "0")) (tCons (tTup (tCons (tC (.int 0)) tNil)) (tCons (tOp rPowI (tC (.int 10)) (tC (.int 40))) (tCons (tC (.bl false)) tNil))))))))) tNil))) (gSub (tVar 8) (tVar 5) rSetL)
def t_law_odd_table_4 (M : Pm) : TS := tAsg (tCall (sp_law_some M) [] E0 (tCons (tVar 0) (tCons (tLst (tCons (tSl (rSlL M.K) (tVar 8) tNoPart (tPart (tC (.int 3)))) (tCons (tCB (rTupOf M.K) (tCons (tVar 8) tNil)) (tCons (tCB (rTupOf M.K) (tCons (tSl (rSlL M.K) (tVar 8) tNoPart (tPart (tC (.int 3)))) tNil)) (tCons (tC .non) (tCons (tC (.int 3)) (tCons (tCB (rTupOf M.K) (tCons (tOp rCat (tCB (rLstOf M.K) (tCons (tOp (rIxL M.K) (tVar 1) (tVar 3)) tNil)) (tLst (tCons (tC (.int 0)) tNil))) tNil)) (tCons (tC (.str "0000")) (tCons (tTup tNil) (tCons (tCB (rLstOf M.K) (tCons (tOp (rIxL M.K) (tVar 1) (tVar 3)) tNil)) tNil)))))))))) tNil))) (gName 9)
def t_law_odd_table_5t_0 (M : Pm) : TS := tRet (tTup (tCons (tCB (rTupOf M.K) (tCons (tOp rCat (tOp rCat (tSl (rSlL M.K) (tVar 6) tNoPart (tPart (tVar 3))) (tLst (tCons (tVar 9) tNil))) (tSl (rSlL M.K) (tVar 6) (tPart (tOp rAddI (tVar 3) (tC (.int 1)))) tNoPart)) tNil)) (tCons (tCB (rTupOf M.K) (tCons (tVar 2) tNil)) tNil)))
def t_law_odd_table_5t (M : Pm) : TS := t_law_odd_table_5t_0 M
def t_law_odd_table_5 (M : Pm) : TS := tIfS (tTest (tOp rLtI (tVar 4) (tC (.int 3)))) (t_law_odd_table_5t M) (tNext)
def t_law_odd_table_6t_0 (M : Pm) : TS := tAsg (tCall (sp_law_some M) [] E0 (tCons (tVar 0) (tCons (tLst (tCons (tC (.int 0)) (tCons (tC (.int 1)) (tCons (tC .non) (tCons (tC (.str "True")) (tCons (tTup (tCons (tC (.bl true)) tNil)) tNil)))))) tNil))) (gName 10)
def t_law_odd_table_6t_1 (M : Pm) : TS := tRet (tTup (tCons (tCB (rTupOf M.K) (tCons (tVar 6) tNil)) (tCons (tCB (rTupOf M.K) (tCons (tOp rCat (tOp rCat (tSl (rSlL M.K) (tVar 2) tNoPart (tPart (tVar 3))) (tLst (tCons (tVar 10) tNil))) (tSl (rSlL M.K) (tVar 2) (tPart (tOp rAddI (tVar 3) (tC (.int 1)))) tNoPart)) tNil)) tNil)))
def t_law_odd_table_6t (M : Pm) : TS := tSeq (t_law_odd_table_6t_0 M) (t_law_odd_table_6t_1 M)
def t_law_odd_table_6 (M : Pm) : TS := tIfS (tTest (tOp rLtI (tVar 4) (tC (.int 5)))) (t_law_odd_table_6t M) (tNext)
def t_law_odd_table_7t_0 (M : Pm) : TS := tRet (tIf (tTest (tOp rLtI (tVar 5) (tC (.int 2)))) (tTup (tCons (tCB (rTupOf M.K) (tCons (tVar 6) tNil)) (tCons (tCB (rTupOf M.K) (tCons (tOp rCat (tVar 2) (tLst (tCons (tC (.bl true)) tNil))) tNil)) tNil))) (tTup (tCons (tCB (rTupOf M.K) (tCons (tOp rCat (tVar 6) (tLst (tCons (tTup (tCons (tC (.int 0)) (tCons (tC (.int 0)) (tCons (tC (.int 0)) (tCons (tC (.int 0)) tNil))))) tNil))) tNil)) (tCons (tCB (rTupOf M.K) (tCons (tVar 2) tNil)) tNil))))
def t_law_odd_table_7t (M : Pm) : TS := t_law_odd_table_7t_0 M
def t_law_odd_table_7 (M : Pm) : TS := tIfS (tTest (tOp rEq (tVar 4) (tC (.int 5)))) (t_law_odd_table_7t M) (tNext)
def t_law_odd_table_8 (M : Pm) : TS := tAsg (tLst (tCons (tC .non) (tCons (tC (.int 0)) (tCons (tC (.str "table")) (tCons (tTup tNil) (tCons (tTup (tCons (tCB (rTupOf M.K) (tCons (tVar 6) tNil)) tNil)) (tCons (tLst (tCons (tCB (rTupOf M.K) (tCons (tVar 6) tNil)) (tCons (tCB (rTupOf M.K) (tCons (tVar 2) tNil)) tNil))) (tCons (tTup (tCons (tVar 6) (tCons (tCB (rTupOf M.K) (tCons (tVar 2) tNil)) tNil))) (tCons (tTup (tCons (tCB (rTupOf M.K) (tCons (tVar 6) tNil)) (tCons (tVar 2) tNil))) (tCons (tDNewK) tNil)))))))))) (gName 11)
def t_law_odd_table_9 (M : Pm) : TS := tRet (tCall (sp_law_some M) [] E0 (tCons (tVar 0) (tCons (tOp rCat (tVar 11) (tLst (tCons (tTup (tCons (tCB (rTupOf M.K) (tCons (tVar 6) tNil)) (tCons (tCB (rTupOf M.K) (tCons (tVar 2) tNil)) (tCons (tC (.int 0)) tNil)))) (tCons (tTup (tCons (tTup tNil) (tCons (tTup tNil) tNil))) (tCons (tTup (tCons (tCB (rTupOf M.K) (tCons (tVar 2) tNil)) (tCons (tCB (rTupOf M.K) (tCons (tVar 6) tNil)) tNil))) tNil))))) tNil)))
def t_law_odd_table (M : Pm) : TS := tSeq (t_law_odd_table_0 M) (tSeq (t_law_odd_table_1 M) (tSeq (t_law_odd_table_2 M) (tSeq (t_law_odd_table_3 M) (tSeq (t_law_odd_table_4 M) (tSeq (t_law_odd_table_5 M) (tSeq (t_law_odd_table_6 M) (tSeq (t_law_odd_table_7 M) (tSeq (t_law_odd_table_8 M) (t_law_odd_table_9 M)))))))))
section
variable {P : Program} {w : World} {mg : Str → Option Value} {base : Heap} {f : Addr} {cdv : Value} {A : Around} {outer : List Env} {s : Shared} {H : Hp} {E : XK} {M : Pm}
theorem d_law_odd_table (T : Tx M mg) (hr : Room 2 (A.deeper (envOfC "_law_odd_table" (defScope s_law_odd_table) s.heap.objs.size f cdv))) (G__law_pick : Has P w M.K mg base CX0 "_law_pick" 1 ["bag", "width"] (sp_law_pick M)) (G__law_some : Has P w M.K mg base CX0 "_law_some" 2 ["bag", "things"] (sp_law_some M)) :
    PSs (cxOf CX0 P w M.K mg base ["bag", "rows", "flags", "at", "turn", "place", "told", "many", "row", "odd", "flag", "others"] "_law_odd_table" (defScope s_law_odd_table) f cdv A outer s H E).nox (defBody s_law_odd_table) (t_law_odd_table M) := by
  exact (pss_cons (ps_par3 (i := 3) (j := 4) (l := 5) rfl sc_law_odd_table.nd rfl rfl rfl (by decide) (by decide) (by decide) rfl rfl rfl (pa_cons (pc G__law_pick (hr.mono (by decide)) (by rfl) pass0 (pa_cons (pv 0) (pa_cons (pe_callB call_len (by rfl) T.n_len (by decide +kernel) (pa_cons (pv 1) pa_nil)) pa_nil))) (pa_cons (pc G__law_pick (hr.mono (by decide)) (by rfl) pass0 (pa_cons (pv 0) (pa_cons pe_int pa_nil))) (pa_cons (pc G__law_pick (hr.mono (by decide)) (by rfl) pass0 (pa_cons (pv 0) (pa_cons pe_int pa_nil))) pa_nil))) (by rfl))
    (pss_cons (ps_par (i := 6) (j := 7) rfl sc_law_odd_table.nd rfl rfl (by decide) rfl rfl (pa_cons (pe_lc (own := [("row", 8)]) rfl sc_law_odd_table.nd (pi_list (pv 1)) (blkOk_by (own := [("row", 8)]) (N := ["bag", "rows", "flags", "at", "turn", "place", "told", "many", "row", "odd", "flag", "others"]) (sc := defScope s_law_odd_table) (by decide +kernel)) (fun _ _ _ _ _ => (pg_name (i := 8) sc_law_odd_table.nd rfl (Or.inl rfl))) (fun _ _ _ _ _ => pts_nil) (fun _ _ _ _ _ => (pe_callTy call_tuple_of (by rfl) T.n_tuple (by decide +kernel) (pa_cons (pv 8) pa_nil)))) (pa_cons (pe_callB call_len (by rfl) T.n_len (by decide +kernel) (pa_cons (pv 1) pa_nil)) pa_nil)) (by rfl))
    (pss_cons (ps_set (i := 8) sc_law_odd_table.nd rfl (Or.inl rfl) (pe_callTy call_list_of (by rfl) T.n_list (by decide +kernel) (pa_cons (pe_ix ix_list (pv 1) (pv 3) (fun _ _ => rfl)) pa_nil)))
    (pss_cons (ps_asg (pc G__law_some (hr.mono (by decide)) (by rfl) pass0 (pa_cons (pv 0) (pa_cons (pe_lst (pa_cons (pe_un un_neg pe_int) (pa_cons (pv 7) (pa_cons pe_non (pa_cons pe_bl (pa_cons pe_str (pa_cons (pe_tup (pa_cons pe_int pa_nil)) (pa_cons (pe_op op_pow pe_int pe_int) (pa_cons pe_bl pa_nil))))))))) pa_nil))) (pg_sub (pv 8) (pv 5) set_list))
    (pss_cons (ps_set (i := 9) sc_law_odd_table.nd rfl (Or.inl rfl) (pc G__law_some (hr.mono (by decide)) (by rfl) pass0 (pa_cons (pv 0) (pa_cons (pe_lst (pa_cons (pe_slice sl_list (pv 8) po_none (po_some pe_int)) (pa_cons (pe_callTy call_tuple_of (by rfl) T.n_tuple (by decide +kernel) (pa_cons (pv 8) pa_nil)) (pa_cons (pe_callTy call_tuple_of (by rfl) T.n_tuple (by decide +kernel) (pa_cons (pe_slice sl_list (pv 8) po_none (po_some pe_int)) pa_nil)) (pa_cons pe_non (pa_cons pe_int (pa_cons (pe_callTy call_tuple_of (by rfl) T.n_tuple (by decide +kernel) (pa_cons (pe_op op_cat (pe_callTy call_list_of (by rfl) T.n_list (by decide +kernel) (pa_cons (pe_ix ix_list (pv 1) (pv 3) (fun _ _ => rfl)) pa_nil)) (pe_lst (pa_cons pe_int pa_nil))) pa_nil)) (pa_cons pe_str (pa_cons (pe_tup pa_nil) (pa_cons (pe_callTy call_list_of (by rfl) T.n_list (by decide +kernel) (pa_cons (pe_ix ix_list (pv 1) (pv 3) (fun _ _ => rfl)) pa_nil)) pa_nil)))))))))) pa_nil))))
    (pss_cons (ps_if (pt_cmpR op_lt (pv 4) pe_int (nomark _)) (pss_one (ps_ret (pe_tup (pa_cons (pe_callTy call_tuple_of (by rfl) T.n_tuple (by decide +kernel) (pa_cons (pe_op op_cat (pe_op op_cat (pe_slice sl_list (pv 6) po_none (po_some (pv 3))) (pe_lst (pa_cons (pv 9) pa_nil))) (pe_slice sl_list (pv 6) (po_some (pe_op op_add (pv 3) pe_int)) po_none)) pa_nil)) (pa_cons (pe_callTy call_tuple_of (by rfl) T.n_tuple (by decide +kernel) (pa_cons (pv 2) pa_nil)) pa_nil))))) pss_nil)
    (pss_cons (ps_if (pt_cmpR op_lt (pv 4) pe_int (nomark _)) (pss_cons (ps_set (i := 10) sc_law_odd_table.nd rfl (Or.inl rfl) (pc G__law_some (hr.mono (by decide)) (by rfl) pass0 (pa_cons (pv 0) (pa_cons (pe_lst (pa_cons pe_int (pa_cons pe_int (pa_cons pe_non (pa_cons pe_str (pa_cons (pe_tup (pa_cons pe_bl pa_nil)) pa_nil)))))) pa_nil))))
    (pss_one (ps_ret (pe_tup (pa_cons (pe_callTy call_tuple_of (by rfl) T.n_tuple (by decide +kernel) (pa_cons (pv 6) pa_nil)) (pa_cons (pe_callTy call_tuple_of (by rfl) T.n_tuple (by decide +kernel) (pa_cons (pe_op op_cat (pe_op op_cat (pe_slice sl_list (pv 2) po_none (po_some (pv 3))) (pe_lst (pa_cons (pv 10) pa_nil))) (pe_slice sl_list (pv 2) (po_some (pe_op op_add (pv 3) pe_int)) po_none)) pa_nil)) pa_nil)))))) pss_nil)
    (pss_cons (ps_if (pt_cmpR op_eq (pv 4) pe_int (nomark _)) (pss_one (ps_ret (pe_ifExp (pt_cmpR op_lt (pv 5) pe_int (nomark _)) (pe_tup (pa_cons (pe_callTy call_tuple_of (by rfl) T.n_tuple (by decide +kernel) (pa_cons (pv 6) pa_nil)) (pa_cons (pe_callTy call_tuple_of (by rfl) T.n_tuple (by decide +kernel) (pa_cons (pe_op op_cat (pv 2) (pe_lst (pa_cons pe_bl pa_nil))) pa_nil)) pa_nil))) (pe_tup (pa_cons (pe_callTy call_tuple_of (by rfl) T.n_tuple (by decide +kernel) (pa_cons (pe_op op_cat (pv 6) (pe_lst (pa_cons (pe_tup (pa_cons pe_int (pa_cons pe_int (pa_cons pe_int (pa_cons pe_int pa_nil))))) pa_nil))) pa_nil)) (pa_cons (pe_callTy call_tuple_of (by rfl) T.n_tuple (by decide +kernel) (pa_cons (pv 2) pa_nil)) pa_nil)))))) pss_nil)
    (pss_cons (ps_set (i := 11) sc_law_odd_table.nd rfl (Or.inl rfl) (pe_lst (pa_cons pe_non (pa_cons pe_int (pa_cons pe_str (pa_cons (pe_tup pa_nil) (pa_cons (pe_tup (pa_cons (pe_callTy call_tuple_of (by rfl) T.n_tuple (by decide +kernel) (pa_cons (pv 6) pa_nil)) pa_nil)) (pa_cons (pe_lst (pa_cons (pe_callTy call_tuple_of (by rfl) T.n_tuple (by decide +kernel) (pa_cons (pv 6) pa_nil)) (pa_cons (pe_callTy call_tuple_of (by rfl) T.n_tuple (by decide +kernel) (pa_cons (pv 2) pa_nil)) pa_nil))) (pa_cons (pe_tup (pa_cons (pv 6) (pa_cons (pe_callTy call_tuple_of (by rfl) T.n_tuple (by decide +kernel) (pa_cons (pv 2) pa_nil)) pa_nil))) (pa_cons (pe_tup (pa_cons (pe_callTy call_tuple_of (by rfl) T.n_tuple (by decide +kernel) (pa_cons (pv 6) pa_nil)) (pa_cons (pv 2) pa_nil))) (pa_cons pe_dnewK pa_nil)))))))))))
    (pss_one (ps_ret (pc G__law_some (hr.mono (by decide)) (by rfl) pass0 (pa_cons (pv 0) (pa_cons (pe_op op_cat (pv 11) (pe_lst (pa_cons (pe_tup (pa_cons (pe_callTy call_tuple_of (by rfl) T.n_tuple (by decide +kernel) (pa_cons (pv 6) pa_nil)) (pa_cons (pe_callTy call_tuple_of (by rfl) T.n_tuple (by decide +kernel) (pa_cons (pv 2) pa_nil)) (pa_cons pe_int pa_nil)))) (pa_cons (pe_tup (pa_cons (pe_tup pa_nil) (pa_cons (pe_tup pa_nil) pa_nil))) (pa_cons (pe_tup (pa_cons (pe_callTy call_tuple_of (by rfl) T.n_tuple (by decide +kernel) (pa_cons (pv 2) pa_nil)) (pa_cons (pe_callTy call_tuple_of (by rfl) T.n_tuple (by decide +kernel) (pa_cons (pv 6) pa_nil)) pa_nil))) pa_nil))))) pa_nil))))))))))))))
end
/-! ### _law_is_read_right -/
def t_law_is_read_right_0 (M : Pm) : TS := tAsg (tCall (sp_law_table M) [] E0 (tCons (tVar 1) (tCons (tVar 2) tNil))) (gName 3)
def t_law_is_read_right_1 (M : Pm) : TS := tAsg (tBM M.K "str" (rJoin M.K) (tC (.str "")) (tCons (tLc (iRng1 (tCons (tCall (sp_law_pick M) [] E0 (tCons (tVar 0) (tCons (tC (.int 12)) tNil))) tNil)) (gName 10) (tYes) (tCall (sp_law_some M) [] E0 (tCons (tVar 0) (tCons (tC (.str "abcd")) tNil))) [10]) tNil)) (gName 4)
def t_law_is_read_right_2l_0 (M : Pm) : TS := tAsg (tCall (sp_law_behind_text M) [] E0 (tCons (tVar 1) (tCons (tVar 5) tNil))) (gName 6)
def t_law_is_read_right_2l_1t_0 (M : Pm) : TS := tRet (tC (.bl false))
def t_law_is_read_right_2l_1t (M : Pm) : TS := t_law_is_read_right_2l_1t_0 M
def t_law_is_read_right_2l_1 (M : Pm) : TS := tIfS (tOr (tTest (tOp rNe (tCB rReprI (tCons (tCall (sp_row_behind M) [] E0 (tCons (tVar 3) (tCons (tVar 5) tNil))) tNil)) (tCB rReprI (tCons (tVar 6) tNil)))) (tTest (tOp rNe (tCB rReprB (tCons (tCall (sp_table_reads M) [] E0 (tCons (tVar 3) (tCons (tVar 5) tNil))) tNil)) (tCB rReprB (tCons (tOp (rIxL M.K) (tVar 2) (tVar 6)) tNil))))) (t_law_is_read_right_2l_1t M) (tNext)
def t_law_is_read_right_2l (M : Pm) : TS := tSeq (t_law_is_read_right_2l_0 M) (t_law_is_read_right_2l_1 M)
def t_law_is_read_right_2 (M : Pm) : TS := tFor (iList M.K (tLst (tCons (tVar 4) (tCons (tOp rAddStr (tVar 4) (tOp rRepS (tCall (sp_law_some M) [] E0 (tCons (tVar 0) (tCons (tC (.str "abcd")) tNil))) (tCall (sp_law_pick M) [] E0 (tCons (tVar 0) (tCons (tC (.int 289)) tNil))))) (tCons (tC (.str "")) tNil))))) (gName 5) (t_law_is_read_right_2l M)
def t_law_is_read_right_3 (M : Pm) : TS := tAsg (tTup (tCons (tCall (sp_law_odd_table M) [] E0 (tCons (tVar 0) (tCons (tVar 1) (tCons (tVar 2) tNil)))) (tCons (tCall (sp_law_some M) [] E0 (tCons (tVar 0) (tCons (tLst (tCons (tC .non) (tCons (tC (.str "e")) (tCons (tOp rRepS (tC (.str "a")) (tC (.int 301))) (tCons (tC (.int 3)) (tCons (tTup (tCons (tC (.str "a")) tNil)) (tCons (tC (.str "A")) tNil))))))) tNil))) tNil))) (gTup M.K 2 (gCons (gName 7) (gCons (gName 8) gNil)))
def t_law_is_read_right_4 (M : Pm) : TS := tAsg (tLst (tCons (LamX.tLam M.tabs (TT_law_error M) (fun E => tCall (sp_table_reads M) [] E (tCons (tVar 7) (tCons (tVar 8) tNil)))) tNil)) (gName 9)
def t_law_is_read_right_5 (M : Pm) : TS := tDrop (tBM M.K "list" rAppend (tVar 9) (tCons (LamX.tLam M.tabs (TT_law_error M) (fun E => tCall (sp_row_behind M) [] E (tCons (tVar 7) (tCons (tC (.str "a")) tNil)))) tNil))
def t_law_is_read_right_6 (M : Pm) : TS := tDrop (tBM M.K "list" rAppend (tVar 9) (tCons (LamX.tLam M.tabs (TT_law_error M) (fun E => tCall (sp_table_reads M) [] E (tCons (tVar 3) (tCons (tVar 8) tNil)))) tNil))
def t_law_is_read_right_7 (M : Pm) : TS := tDrop (tBM M.K "list" rAppend (tVar 9) (tCons (LamX.tLam M.tabs (TT_law_error M) (fun E => tCall (sp_row_behind M) [] E (tCons (tVar 3) (tCons (tVar 8) tNil)))) tNil))
def t_law_is_read_right_8 (M : Pm) : TS := tRet (tAndV (tOp (rEqD M.K) (tVar 9) (tLst (tCons (tC (.str "table")) (tCons (tC (.str "table")) (tCons (tC (.str "text")) (tCons (tC (.str "text")) tNil)))))) (tAndV (tOp rIsB (tCall (sp_is_table M) [] E0 (tCons (tVar 7) tNil)) (tC (.bl false))) (tOp rIsB (tCall (sp_is_table M) [] E0 (tCons (tVar 3) tNil)) (tC (.bl true)))))
def t_law_is_read_right (M : Pm) : TS := tSeq (t_law_is_read_right_0 M) (tSeq (t_law_is_read_right_1 M) (tSeq (t_law_is_read_right_2 M) (tSeq (t_law_is_read_right_3 M) (tSeq (t_law_is_read_right_4 M) (tSeq (t_law_is_read_right_5 M) (tSeq (t_law_is_read_right_6 M) (tSeq (t_law_is_read_right_7 M) (t_law_is_read_right_8 M))))))))
section
variable {P : Program} {w : World} {mg : Str → Option Value} {base : Heap} {f : Addr} {cdv : Value} {A : Around} {outer : List Env} {s : Shared} {H : Hp} {E : XK} {M : Pm}
theorem d_law_is_read_right (T : Tx M mg) (hr : Room 9 (A.deeper (envOfC "_law_is_read_right" (defScope s_law_is_read_right) s.heap.objs.size f cdv))) (G__law_behind_text : Has P w M.K mg base CX0 "_law_behind_text" 1 ["rows", "text"] (sp_law_behind_text M)) (G__law_error : HasL M.K mg "_law_error" "call" s_law_error ["call", "found", "error", "flags"]) (G__law_odd_table : Has P w M.K mg base CX0 "_law_odd_table" 3 ["bag", "rows", "flags"] (sp_law_odd_table M)) (G__law_pick : Has P w M.K mg base CX0 "_law_pick" 1 ["bag", "width"] (sp_law_pick M)) (G__law_some : Has P w M.K mg base CX0 "_law_some" 2 ["bag", "things"] (sp_law_some M)) (G__law_table : Has P w M.K mg base CX0 "_law_table" 1 ["rows", "flags"] (sp_law_table M)) (G_is_table : Has P w M.K mg base CX0 "is_table" 3 ["thing"] (sp_is_table M)) (G_row_behind : Has P w M.K mg base (L2.CX P w) "row_behind" 5 ["table", "text"] (sp_row_behind M)) (G_table_reads : Has P w M.K mg base (L2.CX P w) "table_reads" 5 ["table", "text"] (sp_table_reads M)) {cT PT : Addr} (TB : LamX.TabB base mg cT PT) (hcode : cdv = .ref cT) (hmT : (PT, ("_law_is_read_right" : Str) ++ ".<locals>." ++ "<lambda>") ∈ M.tabs) (huT : ∀ p ∈ M.tabs, p.1 = PT → p.2 = ("_law_is_read_right" : Str) ++ ".<locals>." ++ "<lambda>") :
    PSs (cxOf CX0 P w M.K mg base ["bag", "rows", "flags", "table", "text", "told", "due", "wrong", "odd", "words", "turn"] "_law_is_read_right" (defScope s_law_is_read_right) f cdv A outer s H E).nox (defBody s_law_is_read_right) (t_law_is_read_right M) := by
  exact (pss_cons (ps_set (i := 3) sc_law_is_read_right.nd rfl (Or.inr rfl) (pc G__law_table (hr.mono (by decide)) (by rfl) pass0 (pa_cons (pv 1) (pa_cons (pv 2) pa_nil))))
    (pss_cons (ps_set (i := 4) sc_law_is_read_right.nd rfl (Or.inl rfl) (pe_bm PySem.F.plainAttrs_str PySem.F.slot_str_join PySem.F.type_str_join mt_join pe_str (pa_cons (pe_lc (own := [("turn", 10)]) rfl sc_law_is_read_right.nd (pi_range1 (by rfl) T.n_range (pa_cons (pc G__law_pick (hr.mono (by decide)) (by rfl) pass0 (pa_cons (pv 0) (pa_cons pe_int pa_nil))) pa_nil)) (blkOk_by (own := [("turn", 10)]) (N := ["bag", "rows", "flags", "table", "text", "told", "due", "wrong", "odd", "words", "turn"]) (sc := defScope s_law_is_read_right) (by decide +kernel)) (fun _ _ _ _ _ => (pg_name (i := 10) sc_law_is_read_right.nd rfl (Or.inl rfl))) (fun _ _ _ _ _ => pts_nil) (fun _ _ _ _ _ => (pc G__law_some (hr.mono (by decide)) (by rfl) pass0 (pa_cons (pv 0) (pa_cons pe_str pa_nil))))) pa_nil)))
    (pss_cons (ps_for PassesOwn.never rfl (pi_list (pe_lst (pa_cons (pv 4) (pa_cons (pe_op op_add_str (pv 4) (pe_op op_repS (pc G__law_some (hr.mono (by decide)) (by rfl) pass0 (pa_cons (pv 0) (pa_cons pe_str pa_nil))) (pc G__law_pick (hr.mono (by decide)) (by rfl) pass0 (pa_cons (pv 0) (pa_cons pe_int pa_nil))))) (pa_cons pe_str pa_nil))))) (pg_name (i := 5) sc_law_is_read_right.nd rfl (Or.inl rfl)) (pss_cons (ps_set (i := 6) sc_law_is_read_right.nd rfl (Or.inl rfl) (pc G__law_behind_text (hr.mono (by decide)) (by rfl) pass0 (pa_cons (pv 1) (pa_cons (pv 5) pa_nil))))
    (pss_one (ps_if (PW.pt (pw_or (pt_cmpR op_ne (pe_callB call_reprI (by rfl) T.n_repr (by decide +kernel) (pa_cons (pc G_row_behind (hr.mono (by decide)) (by rfl) passL (pa_cons (pv 3) (pa_cons (pv 5) pa_nil))) pa_nil)) (pe_callB call_reprI (by rfl) T.n_repr (by decide +kernel) (pa_cons (pv 6) pa_nil)) (nomark _)) (pw_or1 (pt_cmpR op_ne (pe_callB call_reprB (by rfl) T.n_repr (by decide +kernel) (pa_cons (pc G_table_reads (hr.mono (by decide)) (by rfl) passL (pa_cons (pv 3) (pa_cons (pv 5) pa_nil))) pa_nil)) (pe_callB call_reprB (by rfl) T.n_repr (by decide +kernel) (pa_cons (pe_ix ix_list (pv 2) (pv 6) (fun _ _ => rfl)) pa_nil)) (nomark _))))) (pss_one (ps_ret pe_bl)) pss_nil))))
    (pss_cons (ps_asg (pe_tup (pa_cons (pc G__law_odd_table (hr.mono (by decide)) (by rfl) pass0 (pa_cons (pv 0) (pa_cons (pv 1) (pa_cons (pv 2) pa_nil)))) (pa_cons (pc G__law_some (hr.mono (by decide)) (by rfl) pass0 (pa_cons (pv 0) (pa_cons (pe_lst (pa_cons pe_non (pa_cons pe_str (pa_cons (pe_op op_repS pe_str pe_int) (pa_cons pe_int (pa_cons (pe_tup (pa_cons pe_str pa_nil)) (pa_cons pe_str pa_nil))))))) pa_nil))) pa_nil))) (pg_tup (by rfl) (pgs_cons (pg_name (i := 7) sc_law_is_read_right.nd rfl (Or.inr rfl)) (pgs_cons (pg_name (i := 8) sc_law_is_read_right.nd rfl (Or.inr rfl)) pgs_nil))))
    (pss_cons (ps_set (i := 9) sc_law_is_read_right.nd rfl (Or.inl rfl) (pe_lst (pa_cons (plam (k := 7) G__law_error (gives_law_error rfl T) (by rfl) TB hcode hmT huT (hr.mono (by decide)) (LamX.lamS_by (sc := defScope s_law_is_read_right) (by decide +kernel)) rfl (fun _ _ _ _ _ => rfl) (fun A outer s H E f c' hrL => (pc G_table_reads (hrL.mono (by decide)) (by rfl) passLam (pa_cons (pv 7) (pa_cons (pv 8) pa_nil))))) pa_nil)))
    (pss_cons (ps_expr (pe_bm PySem.F.plainAttrs_list PySem.F.slot_list_append PySem.F.type_list_append mt_append (pv 9) (pa_cons (plam (k := 7) G__law_error (gives_law_error rfl T) (by rfl) TB hcode hmT huT (hr.mono (by decide)) (LamX.lamS_by (sc := defScope s_law_is_read_right) (by decide +kernel)) rfl (fun _ _ _ _ _ => rfl) (fun A outer s H E f c' hrL => (pc G_row_behind (hrL.mono (by decide)) (by rfl) passLam (pa_cons (pv 7) (pa_cons pe_str pa_nil))))) pa_nil)))
    (pss_cons (ps_expr (pe_bm PySem.F.plainAttrs_list PySem.F.slot_list_append PySem.F.type_list_append mt_append (pv 9) (pa_cons (plam (k := 7) G__law_error (gives_law_error rfl T) (by rfl) TB hcode hmT huT (hr.mono (by decide)) (LamX.lamS_by (sc := defScope s_law_is_read_right) (by decide +kernel)) rfl (fun _ _ _ _ _ => rfl) (fun A outer s H E f c' hrL => (pc G_table_reads (hrL.mono (by decide)) (by rfl) passLam (pa_cons (pv 3) (pa_cons (pv 8) pa_nil))))) pa_nil)))
    (pss_cons (ps_expr (pe_bm PySem.F.plainAttrs_list PySem.F.slot_list_append PySem.F.type_list_append mt_append (pv 9) (pa_cons (plam (k := 7) G__law_error (gives_law_error rfl T) (by rfl) TB hcode hmT huT (hr.mono (by decide)) (LamX.lamS_by (sc := defScope s_law_is_read_right) (by decide +kernel)) rfl (fun _ _ _ _ _ => rfl) (fun A outer s H E f c' hrL => (pc G_row_behind (hrL.mono (by decide)) (by rfl) passLam (pa_cons (pv 3) (pa_cons (pv 8) pa_nil))))) pa_nil)))
    (pss_one (ps_ret (pe_and (pe_cmpR (op_eqD (hu64 hr)) (pv 9) (pe_lst (pa_cons pe_str (pa_cons pe_str (pa_cons pe_str (pa_cons pe_str pa_nil))))) (nomark _)) (pe_and (pe_cmpR op_isBl (pc G_is_table (hr.mono (by decide)) (by rfl) pass0 (pa_cons (pv 7) pa_nil)) pe_bl (nomark _)) (pe_one (pe_cmpR op_isBl (pc G_is_table (hr.mono (by decide)) (by rfl) pass0 (pa_cons (pv 3) pa_nil)) pe_bl (nomark _)))))))))))))))
end
/-! ### _law_are_bounds_right -/
def t_law_are_bounds_right_0 (M : Pm) : TS := tAsg (tTup (tCons (tOp rAddI (tC (.int 1)) (tCall (sp_law_pick M) [] E0 (tCons (tVar 0) (tCons (tC (.int 299)) tNil)))) (tCons (tOp rEq (tCall (sp_law_pick M) [] E0 (tCons (tVar 0) (tCons (tC (.int 2)) tNil))) (tC (.int 1))) tNil))) (gTup M.K 2 (gCons (gName 1) (gCons (gName 2) gNil)))
def t_law_are_bounds_right_1l_0 (M : Pm) : TS := tAsg (tCB (rTupOf M.K) (tCons (tLc (iRng1 (tCons (tVar 3) tNil)) (gName 7) (tYes) (tTup (tCons (tOp rModI (tCB rInt1 (tCons (tOp rAddI (tVar 7) (tVar 1)) tNil)) (tVar 3)) (tCons (tVar 7) (tCons (tOp rModI (tCB rInt1 (tCons (tOp rMulI (tVar 7) (tC (.int 7))) tNil)) (tVar 3)) (tCons (tC (.int 0)) tNil))))) [7]) tNil)) (gName 5)
def t_law_are_bounds_right_1l_1 (M : Pm) : TS := tAsg (tTup (tCons (tVar 5) (tCons (tOp (rRepT M.K) (tTup (tCons (tVar 2) tNil)) (tVar 3)) tNil))) (gName 6)
def t_law_are_bounds_right_1l_2t_0 (M : Pm) : TS := tRet (tC (.bl false))
def t_law_are_bounds_right_1l_2t (M : Pm) : TS := t_law_are_bounds_right_1l_2t_0 M
def t_law_are_bounds_right_1l_2 (M : Pm) : TS := tIfS (tTest (tOp rNe (tCB rReprB (tCons (tCall (sp_is_table M) [] E0 (tCons (tVar 6) tNil)) tNil)) (tCB rReprB (tCons (tVar 4) tNil)))) (t_law_are_bounds_right_1l_2t M) (tNext)
def t_law_are_bounds_right_1l_3t_0 (M : Pm) : TS := tRet (tC (.bl false))
def t_law_are_bounds_right_1l_3t (M : Pm) : TS := t_law_are_bounds_right_1l_3t_0 M
def t_law_are_bounds_right_1l_3 (M : Pm) : TS := tIfS (tTest (tOp rNe (LamX.tLam M.tabs (TT_law_error M) (fun E => tCall (sp_row_behind M) [] E (tCons (tVar 6) (tCons (tC (.str "ab")) tNil)))) (tIf (tB (tVar 4)) (tC (.str "told")) (tC (.str "table"))))) (t_law_are_bounds_right_1l_3t M) (tNext)
def t_law_are_bounds_right_1l (M : Pm) : TS := tSeq (t_law_are_bounds_right_1l_0 M) (tSeq (t_law_are_bounds_right_1l_1 M) (tSeq (t_law_are_bounds_right_1l_2 M) (t_law_are_bounds_right_1l_3 M)))
def t_law_are_bounds_right_1 (M : Pm) : TS := tFor (iList M.K (tLst (tCons (tTup (tCons (tC (.int 300)) (tCons (tC (.bl true)) tNil))) (tCons (tTup (tCons (tC (.int 301)) (tCons (tC (.bl false)) tNil))) tNil)))) (gTup M.K 2 (gCons (gName 3) (gCons (gName 4) gNil))) (t_law_are_bounds_right_1l M)
def t_law_are_bounds_right_2 (M : Pm) : TS := tAsg (tCB (rTupOf M.K) (tCons (tLc (iRng1 (tCons (tC (.int 300)) tNil)) (gName 7) (tYes) (tTup (tCons (tCB rMin2 (tCons (tOp rAddI (tVar 7) (tC (.int 1))) (tCons (tC (.int 299)) tNil))) (tCons (tC (.int 0)) (tCons (tVar 7) (tCons (tOp rSubI (tC (.int 299)) (tVar 7)) tNil))))) [7]) tNil)) (gName 5)
def t_law_are_bounds_right_3 (M : Pm) : TS := tAsg (tCall (sp_law_pick M) [] E0 (tCons (tVar 0) (tCons (tC (.int 301)) tNil))) (gName 3)
def t_law_are_bounds_right_4 (M : Pm) : TS := tRet (tAndV (tOp rEq (tCall (sp_row_behind M) [] E0 (tCons (tTup (tCons (tVar 5) (tCons (tOp (rRepT M.K) (tTup (tCons (tC (.bl true)) tNil)) (tC (.int 300))) tNil))) (tCons (tOp rRepS (tC (.str "a")) (tVar 3)) tNil))) (tCB rMin2 (tCons (tVar 3) (tCons (tC (.int 299)) tNil)))) (tOp rEq (tCall (sp_row_behind M) [] E0 (tCons (tTup (tCons (tVar 5) (tCons (tOp (rRepT M.K) (tTup (tCons (tVar 2) tNil)) (tC (.int 300))) tNil))) (tCons (tC (.str "d")) tNil))) (tC (.int 299))))
def t_law_are_bounds_right (M : Pm) : TS := tSeq (t_law_are_bounds_right_0 M) (tSeq (t_law_are_bounds_right_1 M) (tSeq (t_law_are_bounds_right_2 M) (tSeq (t_law_are_bounds_right_3 M) (t_law_are_bounds_right_4 M))))
section
variable {P : Program} {w : World} {mg : Str → Option Value} {base : Heap} {f : Addr} {cdv : Value} {A : Around} {outer : List Env} {s : Shared} {H : Hp} {E : XK} {M : Pm}
theorem d_law_are_bounds_right (T : Tx M mg) (hr : Room 9 (A.deeper (envOfC "_law_are_bounds_right" (defScope s_law_are_bounds_right) s.heap.objs.size f cdv))) (G__law_error : HasL M.K mg "_law_error" "call" s_law_error ["call", "found", "error", "flags"]) (G__law_pick : Has P w M.K mg base CX0 "_law_pick" 1 ["bag", "width"] (sp_law_pick M)) (G_is_table : Has P w M.K mg base CX0 "is_table" 3 ["thing"] (sp_is_table M)) (G_row_behind : Has P w M.K mg base (L2.CX P w) "row_behind" 5 ["table", "text"] (sp_row_behind M)) {cT PT : Addr} (TB : LamX.TabB base mg cT PT) (hcode : cdv = .ref cT) (hmT : (PT, ("_law_are_bounds_right" : Str) ++ ".<locals>." ++ "<lambda>") ∈ M.tabs) (huT : ∀ p ∈ M.tabs, p.1 = PT → p.2 = ("_law_are_bounds_right" : Str) ++ ".<locals>." ++ "<lambda>") :
    PSs (cxOf CX0 P w M.K mg base ["bag", "step", "flag", "many", "is_let", "rows", "table", "at"] "_law_are_bounds_right" (defScope s_law_are_bounds_right) f cdv A outer s H E).nox (defBody s_law_are_bounds_right) (t_law_are_bounds_right M) := by
  exact (pss_cons (ps_asg (pe_tup (pa_cons (pe_op op_add pe_int (pc G__law_pick (hr.mono (by decide)) (by rfl) pass0 (pa_cons (pv 0) (pa_cons pe_int pa_nil)))) (pa_cons (pe_cmpR op_eq (pc G__law_pick (hr.mono (by decide)) (by rfl) pass0 (pa_cons (pv 0) (pa_cons pe_int pa_nil))) pe_int (nomark _)) pa_nil))) (pg_tup (by rfl) (pgs_cons (pg_name (i := 1) sc_law_are_bounds_right.nd rfl (Or.inr rfl)) (pgs_cons (pg_name (i := 2) sc_law_are_bounds_right.nd rfl (Or.inl rfl)) pgs_nil))))
    (pss_cons (ps_for PassesOwn.never rfl (pi_list (pe_lst (pa_cons (pe_tup (pa_cons pe_int (pa_cons pe_bl pa_nil))) (pa_cons (pe_tup (pa_cons pe_int (pa_cons pe_bl pa_nil))) pa_nil)))) (pg_tup (by rfl) (pgs_cons (pg_name (i := 3) sc_law_are_bounds_right.nd rfl (Or.inr rfl)) (pgs_cons (pg_name (i := 4) sc_law_are_bounds_right.nd rfl (Or.inl rfl)) pgs_nil))) (pss_cons (ps_set (i := 5) sc_law_are_bounds_right.nd rfl (Or.inl rfl) (pe_callTy call_tuple_of (by rfl) T.n_tuple (by decide +kernel) (pa_cons (pe_lc (own := [("at", 7)]) rfl sc_law_are_bounds_right.nd (pi_range1 (by rfl) T.n_range (pa_cons (pv 3) pa_nil)) (blkOk_by (own := [("at", 7)]) (N := ["bag", "step", "flag", "many", "is_let", "rows", "table", "at"]) (sc := defScope s_law_are_bounds_right) (by decide +kernel)) (fun _ _ _ _ _ => (pg_name (i := 7) sc_law_are_bounds_right.nd rfl (Or.inl rfl))) (fun _ _ _ _ _ => pts_nil) (fun _ _ _ _ _ => (pe_tup (pa_cons (pe_op op_mod (pe_callTy call_int1 (by rfl) T.n_int (by decide +kernel) (pa_cons (pe_op op_add (pv 7) (pv 1)) pa_nil)) (pv 3)) (pa_cons (pv 7) (pa_cons (pe_op op_mod (pe_callTy call_int1 (by rfl) T.n_int (by decide +kernel) (pa_cons (pe_op op_mul (pv 7) pe_int) pa_nil)) (pv 3)) (pa_cons pe_int pa_nil))))))) pa_nil)))
    (pss_cons (ps_set (i := 6) sc_law_are_bounds_right.nd rfl (Or.inr rfl) (pe_tup (pa_cons (pv 5) (pa_cons (pe_op op_repT (pe_tup (pa_cons (pv 2) pa_nil)) (pv 3)) pa_nil))))
    (pss_cons (ps_if (pt_cmpR op_ne (pe_callB call_reprB (by rfl) T.n_repr (by decide +kernel) (pa_cons (pc G_is_table (hr.mono (by decide)) (by rfl) pass0 (pa_cons (pv 6) pa_nil)) pa_nil)) (pe_callB call_reprB (by rfl) T.n_repr (by decide +kernel) (pa_cons (pv 4) pa_nil)) (nomark _)) (pss_one (ps_ret pe_bl)) pss_nil)
    (pss_one (ps_if (pt_cmpR op_ne (plam (k := 7) G__law_error (gives_law_error rfl T) (by rfl) TB hcode hmT huT (hr.mono (by decide)) (LamX.lamS_by (sc := defScope s_law_are_bounds_right) (by decide +kernel)) rfl (fun _ _ _ _ _ => rfl) (fun A outer s H E f c' hrL => (pc G_row_behind (hrL.mono (by decide)) (by rfl) passLam (pa_cons (pv 6) (pa_cons pe_str pa_nil))))) (pe_ifExp (pt_val (pv 4)) pe_str pe_str) (nomark _)) (pss_one (ps_ret pe_bl)) pss_nil))))))
    (pss_cons (ps_set (i := 5) sc_law_are_bounds_right.nd rfl (Or.inl rfl) (pe_callTy call_tuple_of (by rfl) T.n_tuple (by decide +kernel) (pa_cons (pe_lc (own := [("at", 7)]) rfl sc_law_are_bounds_right.nd (pi_range1 (by rfl) T.n_range (pa_cons pe_int pa_nil)) (blkOk_by (own := [("at", 7)]) (N := ["bag", "step", "flag", "many", "is_let", "rows", "table", "at"]) (sc := defScope s_law_are_bounds_right) (by decide +kernel)) (fun _ _ _ _ _ => (pg_name (i := 7) sc_law_are_bounds_right.nd rfl (Or.inl rfl))) (fun _ _ _ _ _ => pts_nil) (fun _ _ _ _ _ => (pe_tup (pa_cons (pe_callB (call_min2 rfl) (by rfl) T.n_min (by decide +kernel) (pa_cons (pe_op op_add (pv 7) pe_int) (pa_cons pe_int pa_nil))) (pa_cons pe_int (pa_cons (pv 7) (pa_cons (pe_op op_sub pe_int (pv 7)) pa_nil))))))) pa_nil)))
    (pss_cons (ps_set (i := 3) sc_law_are_bounds_right.nd rfl (Or.inr rfl) (pc G__law_pick (hr.mono (by decide)) (by rfl) pass0 (pa_cons (pv 0) (pa_cons pe_int pa_nil))))
    (pss_one (ps_ret (pe_and (pe_cmpR op_eq (pc G_row_behind (hr.mono (by decide)) (by rfl) passL (pa_cons (pe_tup (pa_cons (pv 5) (pa_cons (pe_op op_repT (pe_tup (pa_cons pe_bl pa_nil)) pe_int) pa_nil))) (pa_cons (pe_op op_repS pe_str (pv 3)) pa_nil))) (pe_callB (call_min2 rfl) (by rfl) T.n_min (by decide +kernel) (pa_cons (pv 3) (pa_cons pe_int pa_nil))) (nomark _)) (pe_one (pe_cmpR op_eq (pc G_row_behind (hr.mono (by decide)) (by rfl) passL (pa_cons (pe_tup (pa_cons (pv 5) (pa_cons (pe_op op_repT (pe_tup (pa_cons (pv 2) pa_nil)) pe_int) pa_nil))) (pa_cons pe_str pa_nil))) pe_int (nomark _))))))))))
end
/-! ### law -/
def t_law_0 (M : Pm) : TS := tAsg (tCall (sp_law_bag M) [] E0 (tCons (tVar 0) tNil)) (gName 1)
def t_law_1 (M : Pm) : TS := tAsg (tTup (tCons (tTup (tCons (tTup (tCons (tC (.int 0)) (tCons (tC (.int 1)) (tCons (tC (.int 0)) (tCons (tC (.int 0)) tNil))))) (tCons (tTup (tCons (tC (.int 1)) (tCons (tC (.int 1)) (tCons (tC (.int 1)) (tCons (tC (.int 0)) tNil))))) tNil))) (tCons (tTup (tCons (tC (.bl false)) (tCons (tC (.bl true)) tNil))) tNil))) (gName 2)
def t_law_2t_0 (M : Pm) : TS := tRet (tC (.bl false))
def t_law_2t (M : Pm) : TS := t_law_2t_0 M
def t_law_2 (M : Pm) : TS := tIfS (tOr (tTest (tOp rNotB (tCall (sp_table_reads M) [] E0 (tCons (tVar 2) (tCons (tC (.str "ab")) tNil))) (tC (.bl true)))) (tOr (tTest (tOp rNe (tCall (sp_row_behind M) [] E0 (tCons (tVar 2) (tCons (tC (.str "abd")) tNil))) (tC (.int 0)))) (tTest (tOp rNotB (tCall (sp_is_table M) [] E0 (tCons (tVar 2) tNil)) (tC (.bl true)))))) (t_law_2t M) (tNext)
def t_law_3l_0 (M : Pm) : TS := tAsg (tCall (sp_law_drawn_table M) [] E0 (tCons (tVar 1) (tCons (tC (.int 20)) tNil))) (gTup M.K 2 (gCons (gName 4) (gCons (gName 5) gNil)))
def t_law_3l_1t_0 (M : Pm) : TS := tRet (tC (.bl false))
def t_law_3l_1t (M : Pm) : TS := t_law_3l_1t_0 M
def t_law_3l_1 (M : Pm) : TS := tIfS (tNot (tB (tCall (sp_law_is_read_right M) [] E0 (tCons (tVar 1) (tCons (tVar 4) (tCons (tVar 5) tNil)))))) (t_law_3l_1t M) (tNext)
def t_law_3l (M : Pm) : TS := tSeq (t_law_3l_0 M) (t_law_3l_1 M)
def t_law_3 (M : Pm) : TS := tFor (iRng1 (tCons (tC (.int 4)) tNil)) (gName 3) (t_law_3l M)
def t_law_4 (M : Pm) : TS := tRet (tCall (sp_law_are_bounds_right M) [] E0 (tCons (tVar 1) tNil))
def t_law (M : Pm) : TS := tSeq (t_law_0 M) (tSeq (t_law_1 M) (tSeq (t_law_2 M) (tSeq (t_law_3 M) (t_law_4 M))))
section
variable {P : Program} {w : World} {mg : Str → Option Value} {base : Heap} {f : Addr} {cdv : Value} {A : Around} {outer : List Env} {s : Shared} {H : Hp} {E : XK} {M : Pm}
theorem d_law (T : Tx M mg) (hr : Room 10 (A.deeper (envOfC "law" (defScope s_law) s.heap.objs.size f cdv))) (G__law_are_bounds_right : Has P w M.K mg base CX0 "_law_are_bounds_right" 10 ["bag"] (sp_law_are_bounds_right M)) (G__law_bag : Has P w M.K mg base CX0 "_law_bag" 1 ["script"] (sp_law_bag M)) (G__law_drawn_table : Has P w M.K mg base CX0 "_law_drawn_table" 3 ["bag", "most"] (sp_law_drawn_table M)) (G__law_is_read_right : Has P w M.K mg base CX0 "_law_is_read_right" 10 ["bag", "rows", "flags"] (sp_law_is_read_right M)) (G_is_table : Has P w M.K mg base CX0 "is_table" 3 ["thing"] (sp_is_table M)) (G_row_behind : Has P w M.K mg base (L2.CX P w) "row_behind" 5 ["table", "text"] (sp_row_behind M)) (G_table_reads : Has P w M.K mg base (L2.CX P w) "table_reads" 5 ["table", "text"] (sp_table_reads M)) :
    PSs (cxOf CX0 P w M.K mg base ["script", "bag", "known", "lap", "rows", "flags"] "law" (defScope s_law) f cdv A outer s H E).nox (defBody s_law) (t_law M) := by
  exact (pss_cons (ps_set (i := 1) sc_law.nd rfl (Or.inl rfl) (pc G__law_bag (hr.mono (by decide)) (by rfl) pass0 (pa_cons (pv 0) pa_nil)))
    (pss_cons (ps_set (i := 2) sc_law.nd rfl (Or.inl rfl) (pe_tup (pa_cons (pe_tup (pa_cons (pe_tup (pa_cons pe_int (pa_cons pe_int (pa_cons pe_int (pa_cons pe_int pa_nil))))) (pa_cons (pe_tup (pa_cons pe_int (pa_cons pe_int (pa_cons pe_int (pa_cons pe_int pa_nil))))) pa_nil))) (pa_cons (pe_tup (pa_cons pe_bl (pa_cons pe_bl pa_nil))) pa_nil))))
    (pss_cons (ps_if (PW.pt (pw_or (pt_cmpR op_notBl (pc G_table_reads (hr.mono (by decide)) (by rfl) passL (pa_cons (pv 2) (pa_cons pe_str pa_nil))) pe_bl (nomark _)) (pw_or (pt_cmpR op_ne (pc G_row_behind (hr.mono (by decide)) (by rfl) passL (pa_cons (pv 2) (pa_cons pe_str pa_nil))) pe_int (nomark _)) (pw_or1 (pt_cmpR op_notBl (pc G_is_table (hr.mono (by decide)) (by rfl) pass0 (pa_cons (pv 2) pa_nil)) pe_bl (nomark _)))))) (pss_one (ps_ret pe_bl)) pss_nil)
    (pss_cons (ps_for PassesOwn.never rfl (pi_range1 (by rfl) T.n_range (pa_cons pe_int pa_nil)) (pg_name (i := 3) sc_law.nd rfl (Or.inl rfl)) (pss_cons (ps_asg (pc G__law_drawn_table (hr.mono (by decide)) (by rfl) pass0 (pa_cons (pv 1) (pa_cons pe_int pa_nil))) (pg_tup (by rfl) (pgs_cons (pg_name (i := 4) sc_law.nd rfl (Or.inl rfl)) (pgs_cons (pg_name (i := 5) sc_law.nd rfl (Or.inl rfl)) pgs_nil))))
    (pss_one (ps_if (pt_not (pt_val (pc G__law_is_read_right (hr.mono (by decide)) (by rfl) pass0 (pa_cons (pv 1) (pa_cons (pv 4) (pa_cons (pv 5) pa_nil)))))) (pss_one (ps_ret pe_bl)) pss_nil))))
    (pss_one (ps_ret (pc G__law_are_bounds_right (hr.mono (by decide)) (by rfl) pass0 (pa_cons (pv 1) pa_nil))))))))
end

set_option Elab.async false
set_option linter.all false
set_option maxRecDepth 100000
set_option maxHeartbeats 1000000
open PySem PySem.Spec PyProof.Rows L2 FR
local macro_rules | `(tactic| walk_at "rd") => `(tactic| dsimp only [tSeq, tNext, tAsg, tRet, tRetN, tDrop, tIfS, tPar, tPar3, tAug, tVar, tC, tOp, tUn, tTest, tB, tAnd, tOr, tNot, tAndV, tOrV, tNotV, tIf, tChain, tNil, tCons, tCB, tBM, tBM0, tTup, tLst, tSl, tNoPart, tPart, tCall, gName, gSub, gTup, gCons, gNil, tBreak, tCont, tRevL, tTru])
local macro_rules | `(tactic| walk_at "t_is_integer") => `(tactic| (dsimp only [t_is_integer_0, t_is_integer]; walk_at "rd"))
local macro_rules | `(tactic| walk_at "t_is_within") => `(tactic| (dsimp only [t_is_within_0, t_is_within]; walk_at "rd"))
local macro_rules | `(tactic| walk_at "t_are_signs") => `(tactic| (dsimp only [t_are_signs_0, t_are_signs]; walk_at "rd"))
local macro_rules | `(tactic| walk_at "t_is_text") => `(tactic| (dsimp only [t_is_text_0, t_is_text]; walk_at "rd"))
local macro_rules | `(tactic| walk_at "t_check_text") => `(tactic| (dsimp only [t_check_text_0t_0, t_check_text_0t, t_check_text_0, t_check_text]; walk_at "rd"))
local macro_rules | `(tactic| walk_at "t_is_table") => `(tactic| (dsimp only [t_is_table_0t_0, t_is_table_0t, t_is_table_0, t_is_table_1, t_is_table_2t_0, t_is_table_2t, t_is_table_2, t_is_table_3t_0, t_is_table_3t, t_is_table_3, t_is_table_4, t_is_table]; walk_at "rd"))
local macro_rules | `(tactic| walk_at "t_check_table") => `(tactic| (dsimp only [t_check_table_0t_0, t_check_table_0t, t_check_table_0, t_check_table]; walk_at "rd"))
local macro_rules | `(tactic| walk_at "t_raw_row_behind") => `(tactic| (dsimp only [t_raw_row_behind_0, t_raw_row_behind_1, t_raw_row_behind_2, t_raw_row_behind]; walk_at "rd"))
local macro_rules | `(tactic| walk_at "t_raw_row_behind_1l") => `(tactic| (dsimp only [t_raw_row_behind_1l_0, t_raw_row_behind_1l]; walk_at "rd"))
local macro_rules | `(tactic| walk_at "t_table_reads") => `(tactic| (dsimp only [t_table_reads_0, t_table_reads_1, t_table_reads_2, t_table_reads]; walk_at "rd"))
local macro_rules | `(tactic| walk_at "t_row_behind") => `(tactic| (dsimp only [t_row_behind_0, t_row_behind_1, t_row_behind_2, t_row_behind]; walk_at "rd"))
local macro_rules | `(tactic| walk_at "t_law_bag") => `(tactic| (dsimp only [t_law_bag_0, t_law_bag_1, t_law_bag]; walk_at "rd"))
local macro_rules | `(tactic| walk_at "t_law_pick") => `(tactic| (dsimp only [t_law_pick_0t_0, t_law_pick_0t_1, t_law_pick_0t_2, t_law_pick_0t_3t_0, t_law_pick_0t_3t, t_law_pick_0t_3, t_law_pick_0t, t_law_pick_0, t_law_pick_1t_0, t_law_pick_1t_1, t_law_pick_1t_2, t_law_pick_1t, t_law_pick_1, t_law_pick_2, t_law_pick_3, t_law_pick_4, t_law_pick_5, t_law_pick_6, t_law_pick]; walk_at "rd"))
local macro_rules | `(tactic| walk_at "t_law_some") => `(tactic| (dsimp only [t_law_some_0, t_law_some]; walk_at "rd"))
local macro_rules | `(tactic| walk_at "t_law_drawn_table") => `(tactic| (dsimp only [t_law_drawn_table_0, t_law_drawn_table_1, t_law_drawn_table_2, t_law_drawn_table_3, t_law_drawn_table]; walk_at "rd"))
local macro_rules | `(tactic| walk_at "t_law_drawn_table_2l") => `(tactic| (dsimp only [t_law_drawn_table_2l_0, t_law_drawn_table_2l_1, t_law_drawn_table_2l]; walk_at "rd"))
local macro_rules | `(tactic| walk_at "t_law_table") => `(tactic| (dsimp only [t_law_table_0, t_law_table]; walk_at "rd"))
local macro_rules | `(tactic| walk_at "t_law_behind_text") => `(tactic| (dsimp only [t_law_behind_text_0, t_law_behind_text_1, t_law_behind_text_2, t_law_behind_text]; walk_at "rd"))
local macro_rules | `(tactic| walk_at "t_law_behind_text_1l") => `(tactic| (dsimp only [t_law_behind_text_1l_0, t_law_behind_text_1l]; walk_at "rd"))
local macro_rules | `(tactic| walk_at "t_law_odd_table") => `(tactic| (dsimp only [t_law_odd_table_0, t_law_odd_table_1, t_law_odd_table_2, t_law_odd_table_3, t_law_odd_table_4, t_law_odd_table_5t_0, t_law_odd_table_5t, t_law_odd_table_5, t_law_odd_table_6t_0, t_law_odd_table_6t_1, t_law_odd_table_6t, t_law_odd_table_6, t_law_odd_table_7t_0, t_law_odd_table_7t, t_law_odd_table_7, t_law_odd_table_8, t_law_odd_table_9, t_law_odd_table]; walk_at "rd"))
local macro_rules | `(tactic| walk_at "t_law_is_read_right") => `(tactic| (dsimp only [t_law_is_read_right_0, t_law_is_read_right_1, t_law_is_read_right_2, t_law_is_read_right_3, t_law_is_read_right_4, t_law_is_read_right_5, t_law_is_read_right_6, t_law_is_read_right_7, t_law_is_read_right_8, t_law_is_read_right]; walk_at "rd"))
local macro_rules | `(tactic| walk_at "t_law_is_read_right_2l") => `(tactic| (dsimp only [t_law_is_read_right_2l_0, t_law_is_read_right_2l_1t_0, t_law_is_read_right_2l_1t, t_law_is_read_right_2l_1, t_law_is_read_right_2l]; walk_at "rd"))
local macro_rules | `(tactic| walk_at "t_law_are_bounds_right") => `(tactic| (dsimp only [t_law_are_bounds_right_0, t_law_are_bounds_right_1, t_law_are_bounds_right_2, t_law_are_bounds_right_3, t_law_are_bounds_right_4, t_law_are_bounds_right]; walk_at "rd"))
local macro_rules | `(tactic| walk_at "t_law_are_bounds_right_1l") => `(tactic| (dsimp only [t_law_are_bounds_right_1l_0, t_law_are_bounds_right_1l_1, t_law_are_bounds_right_1l_2t_0, t_law_are_bounds_right_1l_2t, t_law_are_bounds_right_1l_2, t_law_are_bounds_right_1l_3t_0, t_law_are_bounds_right_1l_3t, t_law_are_bounds_right_1l_3, t_law_are_bounds_right_1l]; walk_at "rd"))
local macro_rules | `(tactic| walk_at "t_law") => `(tactic| (dsimp only [t_law_0, t_law_1, t_law_2t_0, t_law_2t, t_law_2, t_law_3, t_law_4, t_law]; walk_at "rd"))
local macro_rules | `(tactic| walk_at "t_law_3l") => `(tactic| (dsimp only [t_law_3l_0, t_law_3l_1t_0, t_law_3l_1t, t_law_3l_1, t_law_3l]; walk_at "rd"))
theorem p_law_bag {M : Pm} (vs : List V) (H : Hp) (Q : VK) (E : XK) (h : sp_law_bag M vs H Q E) : t_law_bag M { nx := fun _ H' => Q .non H', rt := Q } (L2.start ["script", "cells", "cell"] vs) H := by
  obtain ⟨a, ns, rfl, hs, hl, k⟩ := h
  walk_at "t_law_bag"
  have cut : cutV (ns.map V.int) none (some 63) = ns.map V.int := by
    unfold cutV
    have e : HT.sIx (ns.map V.int).length (ns.map V.int).length (some ((63 : Nat) : Int)) = (ns.map V.int).length := by
      rw [HT.sIx_nat, List.length_map]; omega
    rw [HT.sIx_none, show ((63 : Int)) = ((63 : Nat) : Int) from rfl, e]
    simp
    rw [← List.length_map (f := V.int), List.take_length]
  refine lcL (xs := ns.map V.int) (fun _ => true) (fun v => match v with | .int i => .int (i % 10 ^ 40) | v => v) (fun R r => ?_) (by rw [List.length_map]; omega) (fun _ => rfl) (fun x H1 _ _ R r => r H1 Keep.refl) (fun x H1 m _ k1 R r => ?_) (fun D H1 hD k1 e => ?_)
  · walk_at "rd"
    refine ⟨_, rfl, _, rfl, s_cutL hs fun p hp => r p _ (Keep.new hp) (.of ?_)⟩
    rw [upd_same, cut]
  · obtain ⟨n, _, rfl⟩ := List.mem_map.mp m
    walk_at "rd"
    exact ⟨_, rfl, .inl ⟨n, rfl, _, _, rfl, rfl, ⟨by decide, by decide, by decide⟩, _, _, rfl, rfl, (by show (0 : Int) < 10 ^ (Int.toNat 40); decide +kernel), .inl ⟨_, rfl, r H1 Keep.refl⟩⟩⟩
  · have e2 : pick (fun _ => true) (fun v => match v with | .int i => V.int (i % 10 ^ 40) | v => v) (ns.map V.int) = (ns.map (· % 10 ^ 40)).map V.int := by
      unfold pick
      rw [List.filter_eq_self.mpr (fun _ _ => rfl), List.map_map, List.map_map]
      rfl
    rw [e2] at e
    refine ⟨_, rfl, _, rfl, s_lenL (.of e) ⟨_, _, rfl, rfl, .inl (by decide), _, _, rfl, rfl, by show 5 ≤ sizeLine; decide, fun b hb => ?_⟩⟩
    have hb' : H b = none := k1.none hb
    have hDb : D ≠ b := fun q => by rw [q, hb] at e; cases e
    refine k _ b D hb' (k1.trans (Keep.new hb)) ⟨ns.map (· % 10 ^ 40), 0, 0, 2371 + 11 * ((ns.map (· % 10 ^ 40)).map V.int).length, 0, upd_same, (by rw [upd_ne hDb]; exact e), hDb, ?_, fun z hz => ?_, Int.le_refl 0, ?_, Int.le_refl 0, by decide, ?_, ?_, Int.le_refl 0⟩
    · rw [List.length_map]; exact hl
    · obtain ⟨n, _, rfl⟩ := List.mem_map.mp hz
      exact ⟨Int.emod_nonneg _ (by decide), Int.emod_lt_of_pos _ (by decide)⟩
    · simp
    · simp only [List.length_map]; omega
    · simp only [List.length_map]; omega
section
variable {a0 a1 a2 a3 a4 : V}
theorem at50 : atI [a0, a1, a2, a3, a4] 0 = some a0 := atI_nat (xs := [a0, a1, a2, a3, a4]) (j := 0) rfl
theorem at51 : atI [a0, a1, a2, a3, a4] 1 = some a1 := atI_nat (xs := [a0, a1, a2, a3, a4]) (j := 1) rfl
theorem at52 : atI [a0, a1, a2, a3, a4] 2 = some a2 := atI_nat (xs := [a0, a1, a2, a3, a4]) (j := 2) rfl
theorem at53 : atI [a0, a1, a2, a3, a4] 3 = some a3 := atI_nat (xs := [a0, a1, a2, a3, a4]) (j := 3) rfl
theorem at54 : atI [a0, a1, a2, a3, a4] 4 = some a4 := atI_nat (xs := [a0, a1, a2, a3, a4]) (j := 4) rfl
theorem ix51 : ixN [a0, a1, a2, a3, a4].length 1 = some 1 := by rfl
theorem ix52 : ixN [a0, a1, a2, a3, a4].length 2 = some 2 := by rfl
theorem ix53 : ixN [a0, a1, a2, a3, a4].length 3 = some 3 := by rfl
theorem ix54 : ixN [a0, a1, a2, a3, a4].length 4 = some 4 := by rfl
end
theorem int_eq {x y : Int} : decide (V.int x = V.int y) = decide (x = y) := by
  by_cases h : x = y
  · subst h; simp
  · rw [decide_eq_false h, decide_eq_false]
    intro z
    injection z with z
    exact h z
theorem ten18 : (10 : Int) ^ (Int.toNat 18) = 10 ^ 18 := rfl
theorem pk_rest {M : Pm} {Q : VK} {H : Hp} {b c : Addr} {i l m n w : Int} {x2 x3 x4 : Option V} (hb : H b = some (.lst [.ref c, .int i, .int l, .int m, .int n])) (hl : 0 ≤ l) (hm : 0 ≤ m) (hm2 : m < 2147483648) (hn : 0 ≤ n) (hw : 1 ≤ w) (hw2 : w ≤ 1000000)
    (k : ∀ l' n' d, 0 ≤ l' → l' ≤ l → 0 ≤ n' → 0 ≤ d → d < w → Q (.int d) (upd H b (.lst [.ref c, .int i, .int l', .int m, .int n']))) :
    tSeq (t_law_pick_1 M) (tSeq (t_law_pick_2 M) (tSeq (t_law_pick_3 M) (tSeq (t_law_pick_4 M) (tSeq (t_law_pick_5 M) (t_law_pick_6 M))))) { nx := fun _ H' => Q .non H', rt := Q } [some (.ref b), some (.int w), x2, x3, x4] H := by
  dsimp only [t_law_pick_1, t_law_pick_1t, t_law_pick_1t_0, t_law_pick_1t_1, t_law_pick_1t_2, t_law_pick_2, t_law_pick_3, t_law_pick_4, t_law_pick_5, t_law_pick_6]
  walk_at "rd"
  refine ⟨_, rfl, s_ixL (.of hb) at52 ⟨_, _, rfl, rfl, _, rfl, iteB (fun h => ?_) (fun h => ?_)⟩⟩
  · have h0 : 0 < l := of_decide_eq_true h
    refine ⟨_, rfl, s_ixL (.of hb) at52 (.inl ⟨_, rfl, _, rfl, _, _, rfl, rfl, (by show 0 < w; omega), ?_⟩)⟩
    refine ⟨_, rfl, s_ixL (.of hb) at52 ⟨_, rfl, _, _, rfl, rfl, ⟨by omega, by omega⟩, _, rfl, s_setL hb ix52 ⟨_, rfl, ?_⟩⟩⟩
    exact k (l / w) n (l % w) (Int.ediv_nonneg hl (by omega)) (Int.ediv_le_self _ hl) hn (Int.emod_nonneg _ (by omega)) (Int.emod_lt_of_pos _ (by omega))
  · refine ⟨_, rfl, s_ixL (.of hb) at54 ⟨_, _, rfl, rfl, _, rfl, s_setL hb ix54 ?_⟩⟩
    have hb2 : (upd H b (.lst ([V.ref c, .int i, .int l, .int m, .int n].set 4 (.int (n + 1))))) b = some (.lst [.ref c, .int i, .int l, .int m, .int (n + 1)]) := upd_same
    refine ⟨_, rfl, s_ixL (.of hb2) at53 ⟨_, rfl, s_ixL (.of hb2) at54 ⟨_, _, rfl, rfl, .inl (by decide), _, _, rfl, rfl, .inl ⟨_, rfl, _, _, rfl, rfl, .inr (by decide), .inl ⟨_, rfl, _, _, rfl, rfl, (by show (0 : Int) < 2147483647; decide), ?_⟩⟩⟩⟩⟩
    have p0 : ∀ x : Int, 0 ≤ x % 2147483647 ∧ x % 2147483647 < 2147483647 := fun x => ⟨Int.emod_nonneg _ (by decide), Int.emod_lt_of_pos _ (by decide)⟩
    have p1 := p0 ((m + 7919 * (n + 1)) * 48271)
    generalize (m + 7919 * (n + 1)) * 48271 % 2147483647 = y1 at p1 ⊢
    refine ⟨_, rfl, _, rfl, _, _, rfl, rfl, ⟨by decide, by decide⟩, _, _, rfl, rfl, _, _, rfl, rfl, .inl ⟨by omega, by omega⟩, .inl ⟨_, rfl, _, _, rfl, rfl, (by show (0 : Int) < 2147483647; decide), ?_⟩⟩
    have p2 := p0 (y1 * (y1 / 1009 + 69621))
    generalize y1 * (y1 / 1009 + 69621) % 2147483647 = y2 at p2 ⊢
    refine ⟨_, rfl, _, rfl, _, _, rfl, rfl, ⟨by decide, by decide⟩, _, _, rfl, rfl, _, _, rfl, rfl, .inl ⟨by omega, by omega⟩, .inl ⟨_, rfl, _, _, rfl, rfl, (by show (0 : Int) < 2147483563; decide), ?_⟩⟩
    refine ⟨_, rfl, _, _, rfl, rfl, ⟨by decide, by decide⟩, .inl ⟨_, rfl, _, rfl, _, _, rfl, rfl, (by show 0 < w; omega), ?_⟩⟩
    exact k l (n + 1) _ hl (Int.le_refl _) (by omega) (Int.emod_nonneg _ (by omega)) (Int.emod_lt_of_pos _ (by omega))
theorem p_law_pick {M : Pm} (vs : List V) (H : Hp) (Q : VK) (E : XK) (h : sp_law_pick M vs H Q E) : t_law_pick M { nx := fun _ H' => Q .non H', rt := Q } (L2.start ["bag", "width", "cell", "digit", "number"] vs) H := by
  obtain ⟨b, c, w, rfl, ⟨ns, i, l, m, n, hb, hc, hcb, hns, hz, hi0, hi1, hl0, hl1, hm0, hm1, hn0⟩, hw, hw2, k⟩ := h
  dsimp only [t_law_pick, t_law_pick_0, t_law_pick_0t, t_law_pick_0t_0, t_law_pick_0t_1, t_law_pick_0t_2, t_law_pick_0t_3, t_law_pick_0t_3t, t_law_pick_0t_3t_0]
  walk_at "rd"
  -- the end: from a bag as it stands then
  have fin : ∀ (i' l0 m' : Int) (x2 : Option V), 0 ≤ i' → i' ≤ ns.length → 0 ≤ l0 → l0 < 10 ^ 40 → 0 ≤ m' → m' < 2147483648 →
      tSeq (t_law_pick_1 M) (tSeq (t_law_pick_2 M) (tSeq (t_law_pick_3 M) (tSeq (t_law_pick_4 M) (tSeq (t_law_pick_5 M) (t_law_pick_6 M))))) { nx := fun _ H' => Q .non H', rt := Q } [some (.ref b), some (.int w), x2, none, none]
        (upd H b (.lst [.ref c, .int i', .int l0, .int m', .int n])) := fun i' l0 m' x2 g1 g2 g3 g4 g5 g6 =>
    pk_rest upd_same g3 g5 g6 hn0 hw hw2 fun l' n' d q1 q2 q3 q4 q5 => by
      rw [upd_upd]
      have kk : Keep [b] H (upd H b (.lst [.ref c, .int i', .int l', .int m', .int n'])) := Keep.put (by simp)
      exact k _ d kk ⟨ns, i', l', m', n', upd_same, kk _ _ hc (by simpa using hcb), hcb, hns, hz, g1, g2, q1, Int.lt_of_le_of_lt q2 g4, g5, g6, q3⟩ q4 q5
  have stay : upd H b (.lst [.ref c, .int i, .int l, .int m, .int n]) = H := by
    funext x
    unfold upd
    split
    · rename_i e; rw [e, hb]
    · rfl
  refine ⟨_, rfl, s_ixL (.of hb) at52 ⟨rfl, _, rfl, ?_⟩⟩
  rw [int_eq]
  by_cases e0 : l = 0
  · refine if1 (decide_eq_true e0) ?_
    refine ⟨_, rfl, s_ixL (.of hb) at51 ⟨_, rfl, s_ixL (.of hb) at50 (s_lenL (.of hc) ⟨_, _, rfl, rfl, _, rfl, iteB (fun h => ?_) (fun h => ?_)⟩)⟩⟩
    · have hlt : i < ns.length := by have := of_decide_eq_true h; rw [List.length_map] at this; exact this
      obtain ⟨j, rfl⟩ : ∃ j : Nat, i = j := ⟨i.toNat, by omega⟩
      have hj : j < ns.length := by omega
      have hat : atI (ns.map V.int) (j : Int) = some (V.int ns[j]) := atI_nat (by rw [List.getElem?_map, List.getElem?_eq_getElem hj]; rfl)
      obtain ⟨z0, z1⟩ := hz _ (List.getElem_mem hj)
      generalize ns[j] = cell at hat z0 z1
      refine ⟨_, rfl, s_ixL (.of hb) at50 ⟨_, rfl, s_ixL (.of hb) at51 (s_ixL (.of hc) hat ?_)⟩⟩
      refine ⟨_, rfl, s_ixL (.of hb) at51 ⟨_, _, rfl, rfl, _, rfl, s_setL hb ix51 ?_⟩⟩
      have hb2 : (upd H b (.lst ([V.ref c, .int j, .int l, .int m, .int n].set 1 (.int (j + 1))))) b = some (.lst [.ref c, .int (j + 1), .int l, .int m, .int n]) := upd_same
      refine ⟨_, rfl, s_ixL (.of hb2) at53 ⟨_, _, rfl, rfl, .inr (by decide), _, rfl, _, _, rfl, rfl, .inr (by decide), _, _, rfl, rfl, _, _, rfl, rfl, .inl ⟨_, rfl, _, _, rfl, rfl, (by show (0 : Int) < 2147483629; decide), _, rfl, s_setL hb2 ix53 ?_⟩⟩⟩
      have p0 : 0 ≤ (m * 69621 + cell * 40692 + 41) % 2147483629 ∧ (m * 69621 + cell * 40692 + 41) % 2147483629 < 2147483629 := ⟨Int.emod_nonneg _ (by decide), Int.emod_lt_of_pos _ (by decide)⟩
      rw [upd_upd]
      refine ⟨_, rfl, _, _, rfl, rfl, ⟨by decide, by decide, by decide⟩, _, _, rfl, rfl, _, rfl, iteB (fun h2 => ?_) (fun h2 => ?_)⟩
      · refine ⟨_, rfl, _, rfl, s_setL upd_same ix52 ?_⟩
        rw [upd_upd]
        exact fin (j + 1) cell ((m * 69621 + cell * 40692 + 41) % 2147483629) _ (by omega) (by omega) z0 z1 p0.1 (by omega)
      · exact fin (j + 1) l ((m * 69621 + cell * 40692 + 41) % 2147483629) _ (by omega) (by omega) hl0 hl1 p0.1 (by omega)
    · have := fin i l m none hi0 hi1 hl0 hl1 hm0 hm1
      rw [stay] at this
      exact this
  · refine if0 (decide_eq_false e0) (if0 rfl ?_)
    have := fin i l m none hi0 hi1 hl0 hl1 hm0 hm1
    rw [stay] at this
    exact this
theorem p_law_some {M : Pm} (vs : List V) (H : Hp) (Q : VK) (E : XK) (h : sp_law_some M vs H Q E) : t_law_some M { nx := fun _ H' => Q .non H', rt := Q } (L2.start ["bag", "things"] vs) H := by
  obtain ⟨b, c, x, items, rfl, B, h1, h2, hx, k⟩ := h
  walk_at "t_law_some"
  have at_ : ∀ d : Int, 0 ≤ d → d < items.length → ∃ v, v ∈ items ∧ items[d.toNat]? = some v := fun d d0 d1 => by
    have : d.toNat < items.length := by omega
    exact ⟨items[d.toNat], List.getElem_mem this, List.getElem?_eq_getElem this⟩
  refine ⟨_, rfl, _, rfl, _, rfl, ?_⟩
  rcases hx with ⟨a, rfl, hab, ha⟩ | ⟨z, rfl, hz⟩
  · refine s_lenL (.of ha) ⟨b, c, _, rfl, B, by omega, by omega, fun H' d k' B' d0 d1 => .inl ?_⟩
    obtain ⟨v, m, e⟩ := at_ d d0 d1
    have e' : atI items d = some v := by
      have := atI_nat (xs := items) (j := d.toNat) e
      rw [Int.toNat_of_nonneg d0] at this
      exact this
    exact s_ixL (.of (k' _ _ ha (by simpa using hab))) e' (k H' v m k' B')
  · have hl : items.length = z.length := by rw [hz]; unfold signsV; rw [List.length_map]; exact (len_cs z).symm
    refine s_lenS (sz_of (by omega : z.length ≤ 1000000)) ⟨b, c, _, rfl, B, by omega, by omega, fun H' d k' B' d0 d1 => .inr (.inr ?_)⟩
    obtain ⟨v, m, e⟩ := at_ d d0 (by omega)
    rw [hz] at e
    unfold signsV at e
    rw [List.getElem?_map] at e
    cases q : (cs z)[d.toNat]? with
    | none => rw [q] at e; cases e
    | some cc =>
      rw [q] at e
      have ev : V.str ⟨#[cc]⟩ = v := Option.some.inj e
      have e' : atI z.cps.toList d = some cc := by
        have := atI_nat (xs := z.cps.toList) (j := d.toNat) q
        rw [Int.toNat_of_nonneg d0] at this
        exact this
      refine s_ixS (sz_of (by omega : z.length ≤ 1000000)) e' ?_
      rw [ev]
      exact k H' v m k' B'

set_option Elab.async false
set_option linter.all false
set_option maxRecDepth 100000
set_option maxHeartbeats 1000000
open PySem PySem.Spec PyProof.Rows L2 FR
theorem int_ty (d : PyData) : (isTyD "int" d && !isTyD "bool" d) = isInt d := by
  cases d <;> (unfold isTyD; simp only [tyD, isInt]; decide +kernel)
theorem str_ty (d : PyData) : isTyD "str" d = (match d with | .str _ => true | _ => false) := by
  cases d <;> (unfold isTyD; simp only [tyD]; decide +kernel)
theorem tup_ty (d : PyData) : isTyD "tuple" d = isTup d := by
  cases d <;> (unfold isTyD; simp only [tyD, isTup]; decide +kernel)
theorem bool_ty (d : PyData) : isTyD "bool" d = isBool d := by
  cases d <;> (unfold isTyD; simp only [tyD, isBool]; decide +kernel)
theorem p_is_integer {M : Pm} (vs : List V) (H : Hp) (Q : VK) (E : XK) (h : sp_is_integer M vs H Q E) : t_is_integer M { nx := fun _ H' => Q .non H', rt := Q } (L2.start ["thing"] vs) H := by
  obtain ⟨v, d, rfl, hd, k⟩ := h
  walk_at "t_is_integer"
  refine ⟨_, rfl, s_isIn hd ⟨_, rfl, iteB (fun h1 => ⟨_, rfl, s_isB hd ⟨_, rfl, ?_⟩⟩) (fun h1 => ?_)⟩⟩
  · have e := int_ty d
    rw [h1, Bool.true_and] at e
    rw [e]
    exact k H Keep.refl
  · have e := int_ty d
    rw [h1, Bool.false_and] at e
    rw [e]
    exact k H Keep.refl
theorem p_is_within {M : Pm} (vs : List V) (H : Hp) (Q : VK) (E : XK) (h : sp_is_within M vs H Q E) : t_is_within M { nx := fun _ H' => Q .non H', rt := Q } (L2.start ["thing", "low", "high"] vs) H := by
  obtain ⟨v, d, lo, hi, rfl, hd, k⟩ := h
  walk_at "t_is_within"
  refine ⟨_, rfl, v, d, rfl, hd, fun H1 k1 => ⟨_, rfl, ?_⟩⟩
  match d, hd with
  | .int i, hd =>
    have hd : v = .int i := hd
    subst hd
    refine if1 rfl ⟨_, rfl, _, rfl, _, _, rfl, rfl, _, rfl, iteB (fun h1 => ⟨_, rfl, _, _, rfl, rfl, ?_⟩) (fun h1 => ?_)⟩
    · have e : isW lo hi (.int i) = decide (i ≤ hi) := by
        show (decide (lo ≤ i) && decide (i ≤ hi)) = _
        rw [h1, Bool.true_and]
      show Q (.bl (decide (i ≤ hi))) H1
      rw [← e]
      exact k H1 k1
    · have e : isW lo hi (.int i) = false := by
        show (decide (lo ≤ i) && decide (i ≤ hi)) = _
        rw [h1, Bool.false_and]
      rw [← e]
      exact k H1 k1
  | .none, _ => exact if0 rfl (k H1 k1)
  | .bool _, _ => exact if0 rfl (k H1 k1)
  | .str _, _ => exact if0 rfl (k H1 k1)
  | .list _, _ => exact if0 rfl (k H1 k1)
  | .tuple _, _ => exact if0 rfl (k H1 k1)
theorem p_are_signs {M : Pm} (vs : List V) (H : Hp) (Q : VK) (E : XK) (h : sp_are_signs M vs H Q E) : t_are_signs M { nx := fun _ H' => Q .non H', rt := Q } (L2.start ["thing", "most", "sign"] vs) H := by
  obtain ⟨v, d, n, rfl, hd, hf, k⟩ := h
  walk_at "t_are_signs"
  refine ⟨_, rfl, s_isSt hd ⟨_, rfl, ?_⟩⟩
  rw [str_ty]
  match d, hd, hf with
  | .str z, hd, hf =>
    have hd : v = .str z := hd
    subst hd
    have hz : z.length ≤ 1000 := of_decide_eq_true hf
    refine if1 rfl ⟨_, rfl, s_lenS (sz_of hz) ⟨_, rfl, _, _, rfl, rfl, _, rfl, iteB (fun h1 => ?_) (fun h1 => ?_)⟩⟩
    · refine lcS (z := z) (fun _ => true) (fun v => match v with | .str ⟨a⟩ => .bl (decide (a.getD 0 0 ∈ cs "abcd")) | _ => .non) (fun R r => ⟨_, rfl, r H Keep.refl⟩) (by rw [← len_cs]; omega) (fun _ => rfl)
        (fun x H1 _ k1 R r => r H1 Keep.refl) (fun x H1 m _ k1 R r => ?_) (fun D H' hD k' e => ?_)
      · obtain ⟨c, hc, rfl⟩ := List.mem_map.mp m
        exact ⟨_, rfl, c, _, rfl, rfl, r H1 Keep.refl⟩
      · refine s_all (bs := (cs z).map fun c => decide (c ∈ cs "abcd")) (.of ?_) ?_
        · rw [e]
          congr 2
          unfold pick signsV
          rw [List.filter_eq_self.mpr (fun _ _ => rfl), List.map_map, List.map_map]
          rfl
        · have e1 : areS n (.str z) = (((cs z).map fun c => decide (c ∈ cs "abcd")).all id) := by
            show (decide ((z.length : Int) ≤ n) && (cs z).all fun c => decide (c ∈ cs "abcd")) = _
            rw [h1, Bool.true_and, List.all_map]
            rfl
          rw [← e1]
          exact k H' k'
    · have e : areS n (.str z) = false := by
        show (decide ((z.length : Int) ≤ n) && _) = _
        rw [h1, Bool.false_and]
      rw [← e]
      exact k H Keep.refl
  | .none, _, _ => exact if0 rfl (k H Keep.refl)
  | .bool _, _, _ => exact if0 rfl (k H Keep.refl)
  | .int _, _, _ => exact if0 rfl (k H Keep.refl)
  | .list _, _, _ => exact if0 rfl (k H Keep.refl)
  | .tuple _, _, _ => exact if0 rfl (k H Keep.refl)
theorem p_is_text {M : Pm} (vs : List V) (H : Hp) (Q : VK) (E : XK) (h : sp_is_text M vs H Q E) : t_is_text M { nx := fun _ H' => Q .non H', rt := Q } (L2.start ["thing"] vs) H := by
  obtain ⟨v, d, rfl, hd, hf, k⟩ := h
  walk_at "t_is_text"
  exact ⟨_, rfl, v, d, 300, rfl, hd, hf, k⟩
theorem p_check_text {M : Pm} (vs : List V) (H : Hp) (Q : VK) (E : XK) (h : sp_check_text M vs H Q E) : t_check_text M E { nx := fun _ H' => Q .non H', rt := Q } (L2.start ["thing"] vs) H := by
  obtain ⟨v, d, rfl, hd, hf, kT, kF⟩ := h
  walk_at "t_check_text"
  refine ⟨_, rfl, v, d, rfl, hd, hf, fun H' k' => ⟨_, rfl, ?_⟩⟩
  cases e : isTxt d with
  | true => exact if0 rfl (kT e H' k')
  | false => exact if1 rfl (kF e H' k')
theorem p_check_table {M : Pm} (vs : List V) (H : Hp) (Q : VK) (E : XK) (h : sp_check_table M vs H Q E) : t_check_table M E { nx := fun _ H' => Q .non H', rt := Q } (L2.start ["thing"] vs) H := by
  rcases h with ⟨v, d, rfl, hd, hf, kT, kF⟩ | ⟨v, a, kvs, rfl, rfl, e, k⟩
  · walk_at "t_check_table"
    refine ⟨_, rfl, .inl ⟨v, d, rfl, hd, hf, fun H' k' => ⟨_, rfl, ?_⟩⟩⟩
    cases e : isTab d with
    | true => exact if0 rfl (kT e H' k')
    | false => exact if1 rfl (kF e H' k')
  · walk_at "t_check_table"
    exact ⟨_, rfl, .inr ⟨_, a, kvs, rfl, rfl, e, fun H' k' => ⟨_, rfl, if1 rfl (k H' k')⟩⟩⟩

set_option Elab.async false
set_option linter.all false
set_option maxRecDepth 100000
set_option maxHeartbeats 1000000
open PySem PySem.Spec PyProof.Rows L2 FR
theorem Dvs.get {S : List Addr} {H : Hp} : ∀ {ds : List PyData} {vs : List V} {i : Nat} {d : PyData}, Dvs S H ds vs → ds[i]? = some d → ∃ v, vs[i]? = some v ∧ Dv S H d v
  | [], _, i, d, h, e => by simp at e
  | x :: r, _, 0, d, ⟨u, ws, q, h1, h2⟩, e => by
    subst q
    cases (Option.some.inj e : x = d)
    exact ⟨u, rfl, h1⟩
  | x :: r, _, i + 1, d, ⟨u, ws, q, h1, h2⟩, e => by
    subst q
    exact Dvs.get (ds := r) h2 (i := i) e
theorem Dvs.ints {S : List Addr} {H : Hp} : ∀ {bs : List Int} {vs : List V}, Dvs S H (bs.map PyData.int) vs → vs = bs.map V.int
  | [], _, h => h
  | b :: r, _, ⟨v, ws, e, h1, h2⟩ => by
    have h1 : v = .int b := h1
    subst e h1
    rw [List.map_cons, Dvs.ints h2]
theorem Dvs.ofInts {S : List Addr} {H : Hp} : ∀ {bs : List Int}, Dvs S H (bs.map PyData.int) (bs.map V.int)
  | [] => rfl
  | b :: r => ⟨_, _, rfl, rfl, Dvs.ofInts⟩
/-- all([.. for one in t]), the element's word being told by its data -/
theorem allT {K : PySem.W.Frag} {σ : L2.St} {H : Hp} {Q : VK} {j : Nat} {te tl : TE} {ws : List Nat} {a : Addr} {vs : List V} {ds : List PyData} (p : PyData → Bool) (ha : H a = some (.tup vs)) (hd : Dvs [] H ds vs) (hz : ds.length ≤ 1000) (hl : ∀ R : VK, R (.ref a) H → tl σ H R)
    (hw : ∀ x, wipe ((wipe σ ws).set j (some x)) ws = wipe σ ws)
    (he : ∀ (v : V) (d : PyData) (H1 : Hp), d ∈ ds → Dv [] H1 d v → Keep [] H H1 → ∀ R : VK, (∀ H2, Keep [] H1 H2 → R (.bl (p d)) H2) → te ((wipe σ ws).set j (some v)) H1 R)
    (q : ∀ H', Keep [] H H' → Q (.bl (ds.all p)) H') : tLc (iTup K tl) (gName j) tYes te ws σ H (fun x H1 => rAll K [x] H1 Q) := by
  refine ldT (S := []) (fun _ => True) (ds.map fun d => .bool (p d)) (by rw [List.length_map, hd.length]) (fun R r => hl R (r a H Keep.refl (.of ha) (fun m => nomatch m) True.intro)) (by rw [hd.length]; omega) (fun _ _ _ _ m => nomatch m) (fun _ _ _ _ _ _ _ _ => True.intro) hw
    (fun i x d D H1 hx hdd k _ _ R r => ?_) (fun D H' acc hD k _ e b => ?_)
  · obtain ⟨d0, h0, hv⟩ := hd.at hx
    rw [List.getElem?_map, h0] at hdd
    cases (Option.some.inj hdd : PyData.bool (p d0) = d)
    exact he x d0 H1 (List.mem_of_getElem? h0) (hv.keep k) k R fun H2 k2 => r _ H2 k2 True.intro rfl
  · have e1 : (ds.map fun d => PyData.bool (p d)) = (ds.map p).map PyData.bool := by rw [List.map_map]; rfl
    rw [e1] at b
    rw [b.bools] at e
    refine s_all (.of e) ?_
    rw [List.all_map]
    exact q H' k
theorem isTab_eq (rs fs : List PyData) : isTab (.tuple [.tuple rs, .tuple fs]) = (decide (1 ≤ rs.length) && decide (rs.length ≤ 300) && decide (fs.length = rs.length) && fs.all isBool && rs.all (isRow rs.length)) := rfl
def isFour : PyData → Bool
  | .tuple es => decide (es.length = 4)
  | _ => false
def allIn (m : Nat) : PyData → Bool
  | .tuple es => es.all (isW 0 ((m : Int) - 1))
  | _ => false
theorem row_two {m : Nat} (d : PyData) : isRow m d = (isFour d && allIn m d) := by
  cases d <;> rfl
theorem rows_two {m : Nat} : ∀ rs : List PyData, rs.all (isRow m) = (rs.all isFour && rs.all (allIn m))
  | [] => rfl
  | d :: r => by
    rw [List.all_cons, List.all_cons, List.all_cons, row_two, rows_two r]
    cases isFour d <;> cases allIn m d <;> cases r.all isFour <;> rfl
theorem fitsAll_mem : ∀ {ds : List PyData}, fitsAll ds = true → ∀ d ∈ ds, fits d = true
  | [], _, _, m => nomatch m
  | x :: r, h, d, m => by
    have h : (fits x && fitsAll r) = true := h
    obtain ⟨h1, h2⟩ := Bool.and_eq_true_iff.mp h
    rcases List.mem_cons.mp m with e | m
    · rw [e]; exact h1
    · exact fitsAll_mem h2 d m
theorem fits_tup {ds : List PyData} (h : fits (.tuple ds) = true) : ds.length ≤ 1000 ∧ fitsAll ds = true := by
  have h : (decide (ds.length ≤ 1000) && fitsAll ds) = true := h
  obtain ⟨h1, h2⟩ := Bool.and_eq_true_iff.mp h
  exact ⟨of_decide_eq_true h1, h2⟩
theorem notTup {d : PyData} (h : isTup d = false) : ∀ ds, d ≠ .tuple ds := fun ds e => by rw [e] at h; cases h
theorem p_is_table {M : Pm} (vs : List V) (H : Hp) (Q : VK) (E : XK) (h : sp_is_table M vs H Q E) : t_is_table M { nx := fun _ H' => Q .non H', rt := Q } (L2.start ["thing", "rows", "flags", "one", "row"] vs) H := by
  rcases h with ⟨v, d, rfl, hd, hf, k⟩ | ⟨v, a, kvs, rfl, rfl, e, k⟩
  · walk_at "t_is_table"
    refine ⟨_, rfl, s_isT hd ⟨_, rfl, ?_⟩⟩
    rw [tup_ty]
    match d, hd, hf, k with
    | .none, _, _, k => exact if1 rfl (if1 rfl (k H Keep.refl))
    | .bool _, _, _, k => exact if1 rfl (if1 rfl (k H Keep.refl))
    | .int _, _, _, k => exact if1 rfl (if1 rfl (k H Keep.refl))
    | .str _, _, _, k => exact if1 rfl (if1 rfl (k H Keep.refl))
    | .list _, _, _, k => exact if1 rfl (if1 rfl (k H Keep.refl))
    | .tuple ds, ⟨a, us, hv, _, ha, hs⟩, hf, k =>
      subst hv
      refine if0 rfl ⟨_, rfl, s_lenT (.of ha) ⟨rfl, _, rfl, ?_⟩⟩
      obtain ⟨hz, hfa⟩ := fits_tup hf
      have hlen := hs.length
      by_cases h2 : ds.length = 2
      · obtain ⟨d1, d2, rfl⟩ : ∃ d1 d2, ds = [d1, d2] := by
          match ds, h2 with
          | [x, y], _ => exact ⟨x, y, rfl⟩
        refine if0 (by rw [hlen]; show (!decide (V.int 2 = V.int 2)) = false; decide) ?_
        refine allT isTup ha hs (by omega) (fun R r => ⟨_, rfl, r⟩) (fun _ => rfl) (fun v d H1 _ hv _ R r => ?_) (fun H1 k1 => ⟨_, rfl, ?_⟩)
        · walk_at "rd"
          refine ⟨_, rfl, s_isT hv ?_⟩
          rw [tup_ty]
          exact r H1 Keep.refl
        · obtain ⟨u1, w1, rfl, g1, u2, w2, rfl, g2, rfl⟩ := hs
          have ea : [d1, d2].all isTup = (isTup d1 && isTup d2) := by simp
          rw [ea]
          cases e1 : isTup d1 with
          | false =>
            refine if1 rfl ?_
            have e : isTab (.tuple [d1, d2]) = false := by
              cases d1 <;> first | rfl | cases e1
            rw [← e]
            exact k H1 k1
          | true =>
            cases e2 : isTup d2 with
            | false =>
              refine if1 rfl ?_
              have e : isTab (.tuple [d1, d2]) = false := by
                cases d2 <;> first | (cases d1 <;> rfl) | cases e2
              rw [← e]
              exact k H1 k1
            | true =>
              obtain ⟨rs, rfl⟩ : ∃ rs, d1 = .tuple rs := by
                cases d1 <;> first | exact ⟨_, rfl⟩ | cases e1
              obtain ⟨fs, rfl⟩ : ∃ fs, d2 = .tuple fs := by
                cases d2 <;> first | exact ⟨_, rfl⟩ | cases e2
              obtain ⟨ar, vr, rfl, _, hr, gr⟩ := g1
              obtain ⟨af, vf, rfl, _, hff, gf⟩ := g2
              have lr := gr.length
              have lf := gf.length
              obtain ⟨zr, fr⟩ := fits_tup (fitsAll_mem hfa (.tuple rs) (by simp))
              obtain ⟨zf, ff⟩ := fits_tup (fitsAll_mem hfa (.tuple fs) (by simp))
              have no : isTab (.tuple [.tuple rs, .tuple fs]) = false → ∀ H', Keep [] H H' → Q (.bl false) H' := fun e H' k' => by rw [← e]; exact k H' k'
              have te := isTab_eq rs fs
              refine if0 rfl ⟨_, rfl, a, _, rfl, .of (k1.at ha), rfl, .ref ar, _, rfl, .ref af, _, rfl, rfl, _, rfl, s_lenT (.of (k1.at hr)) ⟨_, _, rfl, rfl, _, rfl, iteB (fun c1 => ?_) (fun c1 => ?_)⟩⟩
              · refine ⟨_, _, rfl, rfl, _, rfl, ?_⟩
                rw [lr] at c1
                have c1' : 1 ≤ rs.length := by have := of_decide_eq_true c1; omega
                rw [lr]
                refine iteB (fun c2 => if1 rfl (no ?_ H1 k1)) (fun c2 => ?_)
                · have : ¬ rs.length ≤ 300 := fun q => by rw [decide_eq_true (by omega : ((rs.length : Nat) : Int) ≤ 300)] at c2; cases c2
                  rw [te, decide_eq_false this]; simp
                · have c2' : rs.length ≤ 300 := by
                    by_cases q : rs.length ≤ 300
                    · exact q
                    · rw [decide_eq_false (by omega : ¬ ((rs.length : Nat) : Int) ≤ 300)] at c2; cases c2
                  refine ⟨_, rfl, s_lenT (.of (k1.at hff)) ⟨_, rfl, s_lenT (.of (k1.at hr)) ⟨rfl, _, rfl, ?_⟩⟩⟩
                  rw [lr, lf]
                  by_cases c3 : fs.length = rs.length
                  · refine if0 (by rw [c3]; simp) ?_
                    refine allT isBool (k1.at hff) (gf.keep k1) zf (fun R r => ⟨_, rfl, r⟩) (fun _ => rfl) (fun v d H2 _ hv _ R r => ?_) (fun H2 k2 => ⟨_, rfl, iteB (fun c4 => no ?_ H2 (k1.trans k2)) (fun c4 => ?_)⟩)
                    · walk_at "rd"
                      refine ⟨_, rfl, s_isB hv ?_⟩
                      rw [bool_ty]
                      exact r H2 Keep.refl
                    · rw [te]
                      have : fs.all isBool = false := by simpa using c4
                      rw [this]; simp
                    · have k12 := k1.trans k2
                      have c4' : fs.all isBool = true := by simpa using c4
                      refine allT isFour (k12.at hr) (gr.keep k12) zr (fun R r => ⟨_, rfl, r⟩) (fun _ => rfl) (fun v d H3 _ hv _ R r => ?_) (fun H3 k3 => ⟨_, rfl, iteB (fun c5 => no ?_ H3 (k12.trans k3)) (fun c5 => ?_)⟩)
                      · walk_at "rd"
                        refine ⟨_, rfl, s_isT hv ⟨_, rfl, ?_⟩⟩
                        rw [tup_ty]
                        match d, hv, r with
                        | .none, _, r => exact if0 rfl (r H3 Keep.refl)
                        | .bool _, _, r => exact if0 rfl (r H3 Keep.refl)
                        | .int _, _, r => exact if0 rfl (r H3 Keep.refl)
                        | .str _, _, r => exact if0 rfl (r H3 Keep.refl)
                        | .list _, _, r => exact if0 rfl (r H3 Keep.refl)
                        | .tuple es, ⟨q, ws, hq, _, eq, gq⟩, r =>
                          subst hq
                          refine if1 rfl ⟨_, rfl, s_lenT (.of eq) (s_lenS (by show 4 ≤ sizeLine; decide) ⟨rfl, ?_⟩)⟩
                          have e : decide (V.int (ws.length : Int) = V.int (("abcd" : Str).length : Int)) = isFour (.tuple es) := by
                            rw [int_eq, gq.length]
                            show decide ((es.length : Int) = 4) = decide (es.length = 4)
                            by_cases q : es.length = 4
                            · rw [decide_eq_true q, decide_eq_true (by omega)]
                            · rw [decide_eq_false q, decide_eq_false (by omega)]
                          rw [e]
                          exact r H3 Keep.refl
                      · rw [te, rows_two]
                        have : rs.all isFour = false := by simpa using c5
                        rw [this]; simp
                      · have k13 := k12.trans k3
                        have c5' : rs.all isFour = true := by simpa using c5
                        refine allT (allIn rs.length) (k13.at hr) (gr.keep k13) zr (fun R r => ⟨_, rfl, r⟩) (fun _ => rfl) (fun v d H4 hm hv k4 R r => ?_) (fun H4 k4 => ?_)
                        · have f4 := List.all_eq_true.mp c5' d hm
                          match d, hv, r, f4 with
                          | .tuple es, ⟨q, ws, hq, _, eq, gq⟩, r, f4 =>
                            subst hq
                            have l4 : es.length = 4 := of_decide_eq_true f4
                            walk_at "rd"
                            refine allT (isW 0 ((rs.length : Int) - 1)) eq gq (by omega) (fun R r => ⟨_, rfl, r⟩) (fun _ => rfl) (fun v d H5 _ hv k5 R r => ?_) (fun H5 k5 => r H5 k5)
                            walk_at "rd"
                            refine ⟨_, rfl, _, rfl, s_lenT (.of (((k13.trans k4).trans k5).at hr)) ⟨_, _, rfl, rfl, v, d, 0, _, rfl, hv, fun H6 k6 => ?_⟩⟩
                            rw [lr]
                            exact r H6 k6
                        · have e : isTab (.tuple [.tuple rs, .tuple fs]) = rs.all (allIn rs.length) := by
                            rw [te, rows_two, c4', c5', decide_eq_true c1', decide_eq_true c2', decide_eq_true c3]
                            simp
                          rw [← e]
                          exact k H4 (k13.trans k4)
                  · refine if1 (by
                      have : ¬ ((fs.length : Int) = (rs.length : Int)) := by omega
                      simp [this]) (if1 rfl (no ?_ H1 k1))
                    rw [te, decide_eq_false c3]; simp
              · rw [lr] at c1
                have : ¬ 1 ≤ rs.length := fun q => by rw [decide_eq_true (by omega : (1 : Int) ≤ (rs.length : Nat))] at c1; cases c1
                exact ⟨_, rfl, if1 rfl (if1 rfl (no (by rw [te, decide_eq_false this]; simp) H1 k1))⟩
      · refine if1 (by
          rw [hlen]
          have : ¬ ((ds.length : Int) = 2) := by omega
          simp [this]) (if1 rfl ?_)
        have e : isTab (.tuple ds) = false := by
          match ds, h2 with
          | [], _ => rfl
          | [x], _ => cases x <;> rfl
          | x :: y :: z :: r, _ => cases x <;> cases y <;> rfl
          | [x, y], h => exact absurd rfl h
        rw [← e]
        exact k H Keep.refl
  · walk_at "t_is_table"
    exact ⟨_, rfl, s_isi (.base (.dK e)) kDT ⟨_, rfl, if1 rfl (if1 rfl (k H Keep.refl))⟩⟩

set_option Elab.async false
set_option linter.all false
set_option maxRecDepth 100000
set_option maxHeartbeats 1000000
open PySem PySem.Spec PyProof.Rows L2 FR
theorem good_tab {rs : List (List Int)} {fs : List Bool} (g : Good rs fs) : isTab (tabD rs fs) = true := by
  show isTab (.tuple [.tuple (rs.map rowD), .tuple (fs.map .bool)]) = true
  rw [isTab_eq, List.length_map, List.length_map, decide_eq_true g.one, decide_eq_true g.most, decide_eq_true g.flags]
  have e1 : (fs.map PyData.bool).all isBool = true := List.all_eq_true.mpr fun d m => by
    obtain ⟨b, _, rfl⟩ := List.mem_map.mp m; rfl
  have e2 : (rs.map rowD).all (isRow rs.length) = true := List.all_eq_true.mpr fun d m => by
    obtain ⟨r, hr, rfl⟩ := List.mem_map.mp m
    show (decide ((r.map PyData.int).length = 4) && (r.map PyData.int).all (isW 0 ((rs.length : Int) - 1))) = true
    rw [List.length_map, decide_eq_true (g.four r hr), Bool.true_and]
    refine List.all_eq_true.mpr fun e me => ?_
    obtain ⟨i, hi, rfl⟩ := List.mem_map.mp me
    obtain ⟨h1, h2⟩ := g.within r hr i hi
    show (decide (0 ≤ i) && decide (i ≤ (rs.length : Int) - 1)) = true
    rw [decide_eq_true h1, decide_eq_true (by omega)]
    rfl
  rw [e1, e2]
  rfl
theorem fitsAll_of : ∀ {ds : List PyData}, (∀ d ∈ ds, fits d = true) → fitsAll ds = true
  | [], _ => rfl
  | x :: r, h => by
    show (fits x && fitsAll r) = true
    rw [h x List.mem_cons_self, fitsAll_of fun d m => h d (List.mem_cons_of_mem _ m)]
    rfl
theorem fits_of_tup {ds : List PyData} (h1 : ds.length ≤ 1000) (h2 : ∀ d ∈ ds, fits d = true) : fits (.tuple ds) = true := by
  show (decide (ds.length ≤ 1000) && fitsAll ds) = true
  rw [decide_eq_true h1, fitsAll_of h2]
  rfl
theorem fits_of_lst {ds : List PyData} (h1 : ds.length ≤ 1000) (h2 : ∀ d ∈ ds, fits d = true) : fits (.list ds) = true := by
  show (decide (ds.length ≤ 1000) && fitsAll ds) = true
  rw [decide_eq_true h1, fitsAll_of h2]
  rfl
theorem fits_row {r : List Int} (h : r.length ≤ 1000) : fits (rowD r) = true :=
  fits_of_tup (by rw [List.length_map]; exact h) fun d m => by obtain ⟨i, _, rfl⟩ := List.mem_map.mp m; rfl
theorem fits_rows {rs : List (List Int)} (h : rs.length ≤ 1000) (h2 : ∀ r ∈ rs, r.length ≤ 1000) : fits (.tuple (rs.map rowD)) = true :=
  fits_of_tup (by rw [List.length_map]; exact h) fun d m => by
    obtain ⟨r, hr, rfl⟩ := List.mem_map.mp m
    exact fits_row (h2 r hr)
theorem fits_flags {fs : List Bool} (h : fs.length ≤ 1000) : fits (.tuple (fs.map PyData.bool)) = true :=
  fits_of_tup (by rw [List.length_map]; exact h) fun d m => by obtain ⟨i, _, rfl⟩ := List.mem_map.mp m; rfl
theorem good_fits {rs : List (List Int)} {fs : List Bool} (g : Good rs fs) : fits (tabD rs fs) = true := by
  have h1 := g.most
  refine fits_of_tup (by show 2 ≤ 1000; decide) fun d m => ?_
  simp only [List.mem_cons, List.not_mem_nil, or_false] at m
  rcases m with rfl | rfl
  · exact fits_rows (by omega) fun r hr => by rw [g.four r hr]; decide
  · exact fits_flags (by rw [g.flags]; omega)
/-- what stands behind a table's data -/
theorem tab_at {S : List Addr} {H : Hp} {rs : List (List Int)} {fs : List Bool} {v : V} (h : Dv S H (tabD rs fs) v) : ∃ a ar af rv, v = .ref a ∧ H a = some (.tup [.ref ar, .ref af]) ∧ H ar = some (.tup rv) ∧ Dvs S H (rs.map rowD) rv ∧ H af = some (.tup (fs.map V.bl)) := by
  obtain ⟨a, vs, rfl, _, ha, u, ws, rfl, ⟨ar, rv, rfl, _, hr, gr⟩, u2, ws2, rfl, ⟨af, fv, rfl, _, hf, gf⟩, rfl⟩ := h
  rw [gf.bools] at hf
  exact ⟨a, ar, af, rv, rfl, ha, hr, gr, hf⟩
theorem row_at {S : List Addr} {H : Hp} {rs : List (List Int)} {rv : List V} (h : Dvs S H (rs.map rowD) rv) {i : Nat} {r : List Int} (hi : rs[i]? = some r) : ∃ q, rv[i]? = some (.ref q) ∧ H q = some (.tup (r.map V.int)) := by
  obtain ⟨v, hv, q, ws, rfl, _, e, g⟩ := Dvs.get h (show (rs.map rowD)[i]? = some (rowD r) by rw [List.getElem?_map, hi]; rfl)
  rw [Dvs.ints g] at e
  exact ⟨q, hv, e⟩
theorem occ_abcd {c : Nat} (h : c ∈ cs "abcd") : Builtin.Str.occurrences "abcd" ⟨#[c]⟩ 0 ("abcd" : Str).length 1 = [c - 97] ∧ 97 ≤ c ∧ c ≤ 100 := by
  have h : c ∈ [97, 98, 99, 100] := h
  simp only [List.mem_cons, List.not_mem_nil, or_false] at h
  rcases h with rfl | rfl | rfl | rfl <;> decide +kernel
/-- a step stays within -/
theorem step_in {rs : List (List Int)} {fs : List Bool} (g : Good rs fs) {here : Int} (h0 : 0 ≤ here) (h1 : here < rs.length) {c : Nat} (hc : c ∈ cs "abcd") :
    ∃ r, rs[here.toNat]? = some r ∧ r[c - 97]? = some (step rs here c) ∧ 0 ≤ step rs here c ∧ step rs here c < rs.length := by
  have hl : here.toNat < rs.length := by omega
  have e := List.getElem?_eq_getElem hl
  have m := List.getElem_mem hl
  obtain ⟨_, c0, c1⟩ := occ_abcd hc
  have h4 := g.four _ m
  have hl2 : c - 97 < (rs[here.toNat]).length := by omega
  have e2 := List.getElem?_eq_getElem hl2
  have es : step rs here c = (rs[here.toNat])[c - 97] := by
    unfold step
    rw [e]
    show ((rs[here.toNat])[c - 97]?).getD 0 = _
    rw [e2]
    rfl
  rw [es]
  exact ⟨_, e, e2, g.within _ m _ (List.getElem_mem hl2)⟩
theorem atI_int {α : Type} {xs : List α} {d : Int} {v : α} (h0 : 0 ≤ d) (h : xs[d.toNat]? = some v) : atI xs d = some v := by
  have := atI_nat (xs := xs) (j := d.toNat) h
  rw [Int.toNat_of_nonneg h0] at this
  exact this
theorem behind_more {rs : List (List Int)} {l : List Nat} {i c : Nat} (h : l[i]? = some c) : behind rs (l.take (i + 1)) 0 = step rs (behind rs (l.take i) 0) c := by
  unfold behind
  rw [take_more h, List.foldl_append]
  rfl
theorem p_raw_row_behind {M : Pm} (vs : List V) (H : Hp) (Q : VK) (E : XK) (h : sp_raw_row_behind M vs H Q E) : t_raw_row_behind M { nx := fun _ H' => Q .non H', rt := Q } (L2.start ["table", "text", "here", "sign"] vs) H := by
  obtain ⟨v, rs, fs, z, rfl, hd, g, hs, hz, k⟩ := h
  obtain ⟨a, ar, af, rv, rfl, ha, hr, gr, hff⟩ := tab_at hd
  walk_at "t_raw_row_behind"
  have g1 := g.one
  refine ⟨_, rfl, z, rfl, for_it (walk_str (z := z)) (fun i σ H' => ∃ v3 : Option V, σ = [some (.ref a), some (.str z), some (.int (behind rs ((cs z).take i) 0)), v3] ∧ H' = H ∧ 0 ≤ behind rs ((cs z).take i) 0 ∧ behind rs ((cs z).take i) 0 < rs.length)
    ⟨none, rfl, rfl, Int.le_refl 0, by show (0 : Int) < rs.length; omega⟩ (fun _ _ _ _ _ => True.intro) ?_ ?_⟩
  · rintro i x σ H1 H2 hi ⟨v3, rfl, rfl, h0, h1⟩ ⟨rfl, c, hc, rfl⟩
    have hc' : (cs z)[i]? = some c := by rw [Array.getElem?_toList]; exact hc
    have hm : c ∈ cs "abcd" := hs c (List.mem_of_getElem? hc')
    obtain ⟨r, e1, e2, s0, s1⟩ := step_in g h0 h1 hm
    obtain ⟨q, q1, q2⟩ := row_at gr e1
    walk_at "t_raw_row_behind_1l"
    refine ⟨_, rfl, s_ixT (.of ha) (atI_nat (j := 0) rfl) ⟨_, rfl, s_ixT (.of hr) (atI_int h0 q1) ⟨rfl, _, rfl, "abcd", ⟨#[c]⟩, c - 97, [], rfl, rfl, (occ_abcd hm).1, s_ixT (.of q2) (atI_nat (j := c - 97) (by rw [List.getElem?_map, e2]; rfl)) ?_⟩⟩⟩
    rw [behind_more hc']
    exact ⟨_, rfl, rfl, s0, s1⟩
  · rintro σ H1 ⟨v3, rfl, rfl, _, _⟩
    have e : (cs z).take z.cps.size = cs z := by
      rw [← Array.length_toList, List.take_length]
    rw [e]
    walk_at "rd"
    exact ⟨_, rfl, k _ Keep.refl⟩
theorem Dv.bad {S : List Addr} {H : Hp} {v : V} (h : BadT S H v) : (∃ d, Dv [] H d v ∧ fits d = true ∧ isTab d = false) ∨ ∃ a kvs, v = .ref a ∧ H a = some (.dK kvs) := by
  rcases h with ⟨d, h1, h2, h3⟩ | ⟨a, kvs, h1, h2, _⟩
  · exact .inl ⟨d, Dv.sub h1 (fun _ m => nomatch m), h2, h3⟩
  · exact .inr ⟨a, kvs, h1, h2⟩
/-- the two checks ahead of the answer -/
theorem asks_checks {M : Pm} {H : Hp} {E : XK} {u v : V} {R : List (List Int) → List Bool → Str → Prop} {K1 : Hp → Prop} {σ : L2.St} (hσ : σ[1]? = some (some u)) (h : ((BadT [] H v ∧ ∀ H', Keep [] H H' → E (.ref (M.cls "NoTable")) none H') ∨
    ∃ rs fs, Dv [] H (tabD rs fs) v ∧ Good rs fs ∧ ((∃ d, Dv [] H d u ∧ fits d = true ∧ isTxt d = false ∧ ∀ H', Keep [] H H' → E (.ref (M.cls "NoText")) none H') ∨ ∃ z, u = .str z ∧ SignsOnly z ∧ z.length ≤ 300 ∧ R rs fs z)))
    (q : ∀ rs fs z H', Keep [] H H' → Dv [] H (tabD rs fs) v → Good rs fs → u = .str z → SignsOnly z → z.length ≤ 300 → R rs fs z → K1 H') :
    sp_check_table M ([v] ++ []) H (fun _ H1 => ∃ y, σ[1]? = some (some y) ∧ sp_check_text M ([y] ++ []) H1 (fun _ H2 => K1 H2) E) E := by
  rcases h with ⟨hb, k⟩ | ⟨rs, fs, hd, g, hu⟩
  · rcases Dv.bad hb with ⟨d, h1, h2, h3⟩ | ⟨a, kvs, rfl, e⟩
    · exact .inl ⟨v, d, rfl, h1, h2, fun q => absurd (h3.symm.trans q) Bool.false_ne_true, fun _ H' k' => k H' k'⟩
    · exact .inr ⟨_, a, kvs, rfl, rfl, e, fun H' k' => k H' k'⟩
  · refine .inl ⟨v, _, rfl, hd, good_fits g, fun _ H1 k1 => ?_, fun q => absurd (q.symm.trans (good_tab g)) Bool.false_ne_true⟩
    rcases hu with ⟨d, h1, h2, h3, k⟩ | ⟨z, rfl, hs, hz, r⟩
    · exact ⟨u, hσ, u, d, rfl, h1.keep0 k1, h2, fun q => absurd (h3.symm.trans q) Bool.false_ne_true, fun _ H' k' => k H' (k1.trans k')⟩
    · have et : isTxt (.str z) = true := by
        show (decide ((z.length : Int) ≤ 300) && (cs z).all fun c => decide (c ∈ cs "abcd")) = true
        rw [decide_eq_true (by omega : (z.length : Int) ≤ 300), Bool.true_and]
        exact List.all_eq_true.mpr fun c m => decide_eq_true (hs c m)
      exact ⟨_, hσ, _, .str z, rfl, rfl, decide_eq_true (by omega : z.length ≤ 1000), fun _ H' k' => q rs fs z H' (k1.trans k') hd g rfl hs hz r, fun q => absurd (q.symm.trans et) Bool.false_ne_true⟩
theorem behind_in {rs : List (List Int)} {fs : List Bool} (g : Good rs fs) : ∀ (l : List Nat) (here : Int), 0 ≤ here → here < rs.length → (∀ c ∈ l, c ∈ cs "abcd") → 0 ≤ behind rs l here ∧ behind rs l here < rs.length
  | [], here, h0, h1, _ => ⟨h0, h1⟩
  | c :: l, here, h0, h1, h => by
    obtain ⟨r, _, _, s0, s1⟩ := step_in g h0 h1 (h c List.mem_cons_self)
    exact behind_in g l _ s0 s1 fun d m => h d (List.mem_cons_of_mem _ m)
theorem p_row_behind {M : Pm} (vs : List V) (H : Hp) (Q : VK) (E : XK) (h : sp_row_behind M vs H Q E) : t_row_behind M E { nx := fun _ H' => Q .non H', rt := Q } (L2.start ["table", "text"] vs) H := by
  obtain ⟨v, u, rfl, h⟩ := h
  walk_at "t_row_behind"
  refine ⟨_, rfl, asks_checks (σ := L2.start ["table", "text"] [v, u]) rfl h fun rs fs z H1 k1 hd g hu hs hz r => ?_⟩
  subst hu
  exact ⟨_, rfl, _, rfl, v, rs, fs, z, rfl, hd.keep0 k1, g, hs, hz, fun H' k' => r H' (k1.trans k')⟩
theorem p_table_reads {M : Pm} (vs : List V) (H : Hp) (Q : VK) (E : XK) (h : sp_table_reads M vs H Q E) : t_table_reads M E { nx := fun _ H' => Q .non H', rt := Q } (L2.start ["table", "text"] vs) H := by
  obtain ⟨v, u, rfl, h⟩ := h
  walk_at "t_table_reads"
  refine ⟨_, rfl, asks_checks (σ := L2.start ["table", "text"] [v, u]) rfl h fun rs fs z H1 k1 hd g hu hs hz r => ?_⟩
  subst hu
  obtain ⟨a, ar, af, rv, rfl, ha, hr, gr, hff⟩ := tab_at hd
  refine ⟨_, rfl, s_ixT (.of (k1.at ha)) (atI_nat (j := 1) rfl) ⟨_, rfl, _, rfl, _, rs, fs, z, rfl, hd.keep0 k1, g, hs, hz, fun H' k' => ?_⟩⟩
  have g1 := g.one
  obtain ⟨b0, b1⟩ := behind_in g (cs z) 0 (Int.le_refl 0) (by omega) hs
  have hl : (behind rs (cs z) 0).toNat < fs.length := by rw [g.flags]; omega
  refine s_ixT (.of (k'.at (k1.at hff))) (atI_int b0 (by rw [List.getElem?_map, List.getElem?_eq_getElem hl]; rfl)) ?_
  have e := r H' (k1.trans k')
  rw [List.getElem?_eq_getElem hl] at e
  exact e

set_option Elab.async false
set_option linter.all false
set_option maxRecDepth 100000
set_option maxHeartbeats 1000000
open PySem PySem.Spec PyProof.Rows L2 FR
theorem lrow_at {S : List Addr} {H : Hp} {rs : List (List Int)} {rv : List V} (h : Dvs S H (rs.map fun r => PyData.list (r.map .int)) rv) {i : Nat} {r : List Int} (hi : rs[i]? = some r) : ∃ q, rv[i]? = some (.ref q) ∧ H q = some (.lst (r.map V.int)) ∧ q ∉ S := by
  obtain ⟨v, hv, q, ws, rfl, n, e, g⟩ := Dvs.get h (show (rs.map fun r => PyData.list (r.map .int))[i]? = some (.list (r.map .int)) by rw [List.getElem?_map, hi]; rfl)
  rw [Dvs.ints g] at e
  exact ⟨q, hv, e, n⟩
theorem p_law_behind_text {M : Pm} (vs : List V) (H : Hp) (Q : VK) (E : XK) (h : sp_law_behind_text M vs H Q E) : t_law_behind_text M { nx := fun _ H' => Q .non H', rt := Q } (L2.start ["rows", "text", "at", "sign"] vs) H := by
  obtain ⟨v, rs, fs, z, rfl, ⟨a, rv, rfl, _, ha, gr⟩, g, hs, hz, k⟩ := h
  walk_at "t_law_behind_text"
  have g1 := g.one
  refine ⟨_, rfl, z, rfl, for_it (walk_str (z := z)) (fun i σ H' => ∃ v3 : Option V, σ = [some (.ref a), some (.str z), some (.int (behind rs ((cs z).take i) 0)), v3] ∧ H' = H ∧ 0 ≤ behind rs ((cs z).take i) 0 ∧ behind rs ((cs z).take i) 0 < rs.length)
    ⟨none, rfl, rfl, Int.le_refl 0, by show (0 : Int) < rs.length; omega⟩ (fun _ _ _ _ _ => True.intro) ?_ ?_⟩
  · rintro i x σ H1 H2 hi ⟨v3, rfl, rfl, h0, h1⟩ ⟨rfl, c, hc, rfl⟩
    have hc' : (cs z)[i]? = some c := by rw [Array.getElem?_toList]; exact hc
    have hm : c ∈ cs "abcd" := hs c (List.mem_of_getElem? hc')
    obtain ⟨r, e1, e2, s0, s1⟩ := step_in g h0 h1 hm
    obtain ⟨q, q1, q2, _⟩ := lrow_at gr e1
    walk_at "t_law_behind_text_1l"
    refine ⟨_, rfl, _, rfl, s_ixL (.of ha) (atI_int h0 q1) ⟨rfl, _, rfl, "abcd", ⟨#[c]⟩, c - 97, [], rfl, rfl, (occ_abcd hm).1, s_ixL (.of q2) (atI_nat (j := c - 97) (by rw [List.getElem?_map, e2]; rfl)) ?_⟩⟩
    rw [behind_more hc']
    exact ⟨_, rfl, rfl, s0, s1⟩
  · rintro σ H1 ⟨v3, rfl, rfl, _, _⟩
    have e : (cs z).take z.cps.size = cs z := by
      rw [← Array.length_toList, List.take_length]
    rw [e]
    walk_at "rd"
    exact ⟨_, rfl, k _ Keep.refl⟩
/-- what stands off the new -/
def NN (S : List Addr) (H : Hp) : Prop := ∀ s ∈ S, H s ≠ none
theorem NN.notin {S : List Addr} {H : Hp} {p : Addr} (n : NN S H) (h : H p = none) : p ∉ S := fun m => n p m h
theorem NN.upd {S : List Addr} {H : Hp} {p : Addr} {o : HO} (n : NN S H) : NN S (L2.upd H p o) := fun s m => by
  by_cases e : s = p
  · subst e; rw [upd_same]; simp
  · rw [upd_ne e]; exact n s m
theorem NN.keep0 {S : List Addr} {H H' : Hp} (n : NN S H) (k : Keep [] H H') : NN S H' := fun s m q => by
  cases e : H s with
  | none => exact n s m e
  | some o => rw [k.at e] at q; cases q
theorem p_law_table {M : Pm} (vs : List V) (H : Hp) (Q : VK) (E : XK) (h : sp_law_table M vs H Q E) : t_law_table M { nx := fun _ H' => Q .non H', rt := Q } (L2.start ["rows", "flags", "row"] vs) H := by
  obtain ⟨S, r, f, rs, fs, rfl, nn, ⟨a, rv, rfl, na, ha, gr⟩, ⟨b, fv, rfl, nb, hf, gf⟩, lr, lf, k⟩ := h
  rw [gf.bools] at hf
  walk_at "t_law_table"
  have hl := gr.length
  rw [List.length_map] at hl
  refine ldL (S := S) (xs := rv) (fun H' => NN S H' ∧ Keep [] H H') (rs.map rowD) (by rw [List.length_map, hl]) (fun R q => ⟨_, rfl, q a H Keep.refl (.of ha) na ⟨nn, Keep.refl⟩⟩) (by omega) (fun D H0 hD g => g.1.notin hD)
    (fun D H0 H2 o hD g0 k2 g2 => ⟨g2.1.upd, g2.2.own (g0.2.none hD)⟩) (fun _ => rfl) (fun i x d D H1 hx hd k1 g1 hD R q => ?_) (fun D H1 acc hD k1 g1 eD gD => ?_)
  · have hi : i < rs.length := by
      have := (List.getElem?_eq_some_iff.mp hx).1
      omega
    have er := List.getElem?_eq_getElem hi
    rw [List.getElem?_map, er] at hd
    cases (Option.some.inj hd : rowD rs[i] = d)
    obtain ⟨q', e1, e2, e3⟩ := lrow_at gr er
    rw [hx] at e1
    cases (Option.some.inj e1 : x = .ref q')
    walk_at "rd"
    refine ⟨_, rfl, s_tupL (.of (k1 _ _ e2 e3)) fun p hp => q (.ref p) _ (Keep.new hp) ⟨g1.1.upd, g1.2.own (g1.2.none hp)⟩ ⟨p, _, rfl, fun m => ?_, upd_same, Dvs.ofInts⟩⟩
    rcases List.mem_cons.mp m with m | m
    · rw [m] at hp; exact hD hp
    · exact g1.1.notin hp m
  · refine s_tupL (.of eD) fun t ht => ⟨_, rfl, s_tupL (.of ((g1.2.trans (Keep.new ht)).at hf)) fun t2 ht2 => ⟨by show 2 ≤ sizeLine; decide, fun t3 ht3 => ?_⟩⟩
    have kt : Keep [] H1 (upd H1 t (.tup acc)) := Keep.new ht
    have kt2 : Keep [] (upd H1 t (.tup acc)) (upd (upd H1 t (.tup acc)) t2 (.tup (fs.map V.bl))) := Keep.new ht2
    have kt3 : Keep [] (upd (upd H1 t (.tup acc)) t2 (.tup (fs.map V.bl))) (upd (upd (upd H1 t (.tup acc)) t2 (.tup (fs.map V.bl))) t3 (.tup [.ref t, .ref t2])) := Keep.new ht3
    have n1 := g1.1.notin ht
    have n2 := (g1.1.keep0 kt).notin ht2
    have n3 := ((g1.1.keep0 kt).keep0 kt2).notin ht3
    refine k _ t3 (((g1.2.trans kt).trans kt2).trans kt3) ⟨t3, _, rfl, n3, upd_same, .ref t, _, rfl, ⟨t, acc, rfl, n1, (kt2.trans kt3).at upd_same, ?_⟩, .ref t2, _, rfl, ⟨t2, _, rfl, n2, kt3.at upd_same, Dvs.ofBools⟩, rfl⟩
    exact Dvs.keep0 (Dvs.sub gD fun s m => List.mem_cons_of_mem _ m) ((kt.trans kt2).trans kt3)

set_option Elab.async false
set_option linter.all false
set_option maxRecDepth 100000
set_option maxHeartbeats 1000000
open PySem PySem.Spec PyProof.Rows L2 FR
/-- a comprehension whose turns change S and keep G', over what yields without a change -/
theorem lc_eff {J : It} {n : Nat} {G : Hp → Prop} {Y : Nat → Hp → V → Hp → Prop} (w : Walk J n G Y) {S : List Addr} (G' : Hp → Prop) (Pv : V → Prop) {j : Nat} {te : TE} {vs : List Nat} {σ : L2.St} {H : Hp} {D : Addr} {Qd : Hp → Prop} (hz : n ≤ 1000000) (hD : H D = none) (hS : D ∉ S) (g0 : G' H)
    (gU : ∀ H2 o, Keep S H H2 → G' H2 → G' (upd H2 D o)) (hG : ∀ H', Keep S H H' → G' H' → G H') (hw : ∀ x, wipe ((wipe σ vs).set j (some x)) vs = wipe σ vs)
    (he : ∀ (i : Nat) (H1 : Hp) (x : V) (H2 : Hp), i < n → Keep S H H1 → G' H1 → Y i H1 x H2 → H2 = H1 ∧ ∀ R : VK, (∀ v H3, Keep S H1 H3 → G' H3 → Pv v → R v H3) → te ((wipe σ vs).set j (some x)) H1 R)
    (q : ∀ H' acc, Keep S H H' → G' H' → H' D = some (.lst acc) → acc.length = n → (∀ v ∈ acc, Pv v) → Qd H') :
    ∃ W : Nat → Nat → Hp → Prop, (∃ m, W 0 m (upd H D (.lst []))) ∧ ∀ i m H, W i m H →
      (J.stop i H ∧ Qd H) ∨ (J.go i H ∧ ∃ Nx : Hp → Prop, (∀ H', Nx H' → ∃ m', m' < m ∧ W (i + 1) m' H') ∧ ∀ x H', J.yld i H x H' → gName j x (wipe σ vs) H' fun σ2 H2 => wipe σ2 vs = wipe σ vs ∧ tYes σ2 H2 fun b H3 =>
        if b = true then te σ2 H3 fun y H4 => ∃ acc, H4 D = some (.lst acc) ∧ acc.length < sizeLine ∧ Nx (upd H4 D (.lst (acc ++ [y]))) else Nx H3) := by
  refine lc_it w (fun i H' => Keep S H H' ∧ G' H' ∧ ∃ acc, H' D = some (.lst acc) ∧ acc.length = i ∧ ∀ v ∈ acc, Pv v) ⟨Keep.new hD, gU H _ Keep.refl g0, [], upd_same, rfl, fun _ m => nomatch m⟩ (fun i H' _ p => hG H' p.1 p.2.1) ?_ ?_
  · rintro i x H1 H2 hi ⟨k, g, acc, e, hl, ha⟩ y
    obtain ⟨rfl, hh⟩ := he i H1 x H2 hi k g y
    refine ⟨hw x, ?_⟩
    dsimp only [tYes]
    rw [if_pos rfl]
    refine hh _ fun v H3 k3 g3 hv => ⟨acc, k3 _ _ e hS, szl_of (by omega : _ ≤ 1000000), (k.trans k3).own hD, gU H3 _ (k.trans k3) g3, _, upd_same, by rw [List.length_append, hl]; rfl, fun u m => ?_⟩
    rcases List.mem_append.mp m with m | m
    · exact ha u m
    · rw [List.mem_singleton.mp m]; exact hv
  · rintro H' ⟨k, g, acc, e, hl, ha⟩
    exact q H' acc k g e hl ha
theorem ints_back {n : Int} : ∀ {acc : List V}, (∀ v ∈ acc, ∃ i : Int, v = .int i ∧ 0 ≤ i ∧ i < n) → ∃ r : List Int, acc = r.map V.int ∧ r.length = acc.length ∧ ∀ i ∈ r, 0 ≤ i ∧ i < n
  | [], _ => ⟨[], rfl, rfl, fun _ m => nomatch m⟩
  | v :: l, h => by
    obtain ⟨i, rfl, h0, h1⟩ := h v List.mem_cons_self
    obtain ⟨r, rfl, e, hr⟩ := ints_back (acc := l) fun u m => h u (List.mem_cons_of_mem _ m)
    refine ⟨i :: r, rfl, by rw [List.length_cons, List.length_cons, e], fun j m => ?_⟩
    rcases List.mem_cons.mp m with rfl | m
    · exact ⟨h0, h1⟩
    · exact hr j m
theorem bools_back : ∀ {acc : List V}, (∀ v ∈ acc, ∃ b : Bool, v = .bl b) → ∃ r : List Bool, acc = r.map V.bl ∧ r.length = acc.length
  | [], _ => ⟨[], rfl, rfl⟩
  | v :: l, h => by
    obtain ⟨i, rfl⟩ := h v List.mem_cons_self
    obtain ⟨r, rfl, e⟩ := bools_back (acc := l) fun u m => h u (List.mem_cons_of_mem _ m)
    exact ⟨i :: r, rfl, by rw [List.length_cons, List.length_cons, e]⟩
theorem Bag.has {K : PySem.W.Frag} {H : Hp} {b c : Addr} (B : Bag K H b c) : H b ≠ none := by
  obtain ⟨xs, e⟩ := B.lst
  rw [e]; simp
/-- rows drawn so far -/
structure Rows (H : Hp) (b pr : Addr) (rs : List (List Int)) (n : Int) : Prop where
  at_ : ∃ rv, H pr = some (.lst rv) ∧ Dvs [pr, b] H (rs.map fun r => PyData.list (r.map .int)) rv
  four : ∀ r ∈ rs, r.length = 4
  within : ∀ r ∈ rs, ∀ i ∈ r, 0 ≤ i ∧ i < n
theorem Rows.keep {H H' : Hp} {b pr : Addr} {rs : List (List Int)} {n : Int} (R : Rows H b pr rs n) (k : Keep [b] H H') (nb : pr ∉ [b]) : Rows H' b pr rs n := by
  obtain ⟨rv, e, d⟩ := R.at_
  exact ⟨⟨rv, k _ _ e nb, d.keep (k.mono fun _ m => List.mem_cons_of_mem _ m)⟩, R.four, R.within⟩
theorem Rows.upd {H : Hp} {b pr D : Addr} {o : HO} {rs : List (List Int)} {n : Int} (R : Rows H b pr rs n) (hD : H D = none) (nb : pr ∉ [b]) : Rows (L2.upd H D o) b pr rs n := R.keep (Keep.new hD) nb
theorem p_law_drawn_table {M : Pm} (vs : List V) (H : Hp) (Q : VK) (E : XK) (h : sp_law_drawn_table M vs H Q E) : t_law_drawn_table M { nx := fun _ H' => Q .non H', rt := Q } (L2.start ["bag", "most", "many", "rows", "at", "near", "sign"] vs) H := by
  obtain ⟨b, c, n, rfl, B, hn0, hn1, k⟩ := h
  walk_at "t_law_drawn_table"
  refine ⟨_, rfl, _, rfl, b, c, n, rfl, B, by omega, by omega, fun H1 d k1 B1 d0 d1 => ⟨_, _, rfl, rfl, by decide, fun pr hr => ?_⟩⟩
  have nr : pr ∉ [b] := B1.notin hr
  have R0 : Rows (upd H1 pr (.lst [])) b pr [] (1 + d) := ⟨⟨[], upd_same, rfl⟩, (fun _ m => nomatch m), (fun _ m => nomatch m)⟩
  refine ⟨_, rfl, _, rfl, by omega, by omega, for_range (lo := 0) (n := (1 + d).toNat) (fun i σ H' => ∃ (v4 v5 : Option V) (rs : List (List Int)), σ = [some (.ref b), some (.int n), some (.int (1 + d)), some (.ref pr), v4, v5, none] ∧ Keep [b] H H' ∧ Bag M.K H' b c ∧ Rows H' b pr rs (1 + d) ∧ rs.length = i)
    ⟨none, none, [], rfl, (k1.trans (Keep.new hr)), B1.new hr, R0, rfl⟩ ?_ ?_⟩
  · rintro i σ H2 hi ⟨v4, v5, rs, rfl, k2, B2, R2, hl⟩
    have hp1 : H pr = none := k1.none hr nr
    walk_at "t_law_drawn_table_2l"
    refine ⟨_, rfl, _, _, rfl, rfl, _, rfl, _, _, rfl, rfl, _, _, rfl, _, rfl, _, rfl, _, rfl, b, c, _, rfl, B2, by omega, by omega, fun H3 e k3 B3 e0 e1 => ⟨by show 4 ≤ sizeLine; decide, fun p hp => ?_⟩⟩
    have R4 := (R2.keep k3 nr).upd (o := .lst [.int (if (1 + d) - 1 < (0 + (i : Int)) + 1 then (1 + d) - 1 else (0 + (i : Int)) + 1), .int (0 + (i : Int)), .int 0, .int e]) hp nr
    have B4 : Bag M.K (upd H3 p (.lst [.int (if (1 + d) - 1 < (0 + (i : Int)) + 1 then (1 + d) - 1 else (0 + (i : Int)) + 1), .int (0 + (i : Int)), .int 0, .int e])) b c := B3.new hp
    have ep : (upd H3 p (.lst [.int (if (1 + d) - 1 < (0 + (i : Int)) + 1 then (1 + d) - 1 else (0 + (i : Int)) + 1), .int (0 + (i : Int)), .int 0, .int e])) p = _ := upd_same
    have k4 : Keep [b] H2 (upd H3 p (.lst [.int (if (1 + d) - 1 < (0 + (i : Int)) + 1 then (1 + d) - 1 else (0 + (i : Int)) + 1), .int (0 + (i : Int)), .int 0, .int e])) := k3.trans (Keep.new hp)
    have npb : p ∉ [b] := B3.notin hp
    obtain ⟨rv, er, dr⟩ := R4.at_
    refine ⟨_, rfl, .inl ⟨rfl, _, .of er⟩, ?_⟩
    generalize upd H3 p (.lst [.int (if (1 + d) - 1 < (0 + (i : Int)) + 1 then (1 + d) - 1 else (0 + (i : Int)) + 1), .int (0 + (i : Int)), .int 0, .int e]) = H4 at *
    refine ⟨_, rfl, fun D hD => lc_eff walk_str (S := [b]) (fun H' => Bag M.K H' b c) (fun v => ∃ j : Int, v = .int j ∧ 0 ≤ j ∧ j < 1 + d) (by show 4 ≤ 1000000; decide) hD (B4.notin hD) B4 (fun H5 o _ B5 => B5.upd B4 hD) (fun _ _ _ => True.intro) (fun _ => rfl)
      (fun i' H5 x H6 _ k5 B5 y => ?_) (fun H5 acc k5 B5 eD hl' ha => ?_)⟩
    · obtain ⟨rfl, cc, hcc, rfl⟩ := y
      refine ⟨rfl, fun R r => ?_⟩
      walk_at "rd"
      refine ⟨_, rfl, _, rfl, _, rfl, _, rfl, b, c, _, rfl, B5, by omega, by omega, fun H7 e' k7 B7 e0' e1' => ⟨by show 1 ≤ sizeLine; decide, fun p2 hp2 => ?_⟩⟩
      have ep7 : (upd H7 p2 (.lst [.int e'])) p = _ := Keep.new (S := [b]) hp2 _ _ (k7 _ _ (k5 _ _ ep npb) npb) npb
      refine s_catK ep7 upd_same (by show 4 + 1 ≤ sizeLine; decide) fun p3 H8 k8 e8 hp3 => ?_
      have B8 : Bag M.K H8 b c := (B7.new hp2).keep k8 (fun z => nomatch z) (fun z => nomatch z)
      refine ⟨b, c, .ref p3, _, rfl, B8, by show 1 ≤ 5; decide, by show 5 ≤ 1000000; decide, .inl ⟨p3, rfl, fun q => (B7.new hp2).notin hp3 (by rw [q]; simp), e8⟩, fun H9 v m k9 B9 => r v H9 (((k7.trans (Keep.new hp2)).trans k8.of0).trans k9) B9 ?_⟩
      simp only [List.mem_append, List.mem_cons, List.not_mem_nil, or_false] at m
      have hi' : (i : Int) < 1 + d := by omega
      rcases m with (rfl | rfl | rfl | rfl) | rfl
      · refine ⟨_, rfl, ?_⟩
        split <;> omega
      · exact ⟨_, rfl, by omega, by omega⟩
      · exact ⟨_, rfl, by omega, by omega⟩
      · exact ⟨_, rfl, e0, e1⟩
      · exact ⟨_, rfl, e0', e1'⟩
    · obtain ⟨r, rfl, lr, hr'⟩ := ints_back ha
      have er5 := k5 _ _ er nr
      have hDp : D ≠ pr := fun q => by rw [q, er] at hD; cases hD
      have hlr := dr.length
      rw [List.length_map] at hlr
      refine s_app er5 (szl_of (by omega : _ ≤ 1000)) ?_
      have kU : Keep [pr, b] H5 (upd H5 pr (.lst (rv ++ [.ref D]))) := Keep.put List.mem_cons_self
      have nD : D ∉ [pr, b] := fun m => by
        rcases List.mem_cons.mp m with m | m
        · exact hDp m
        · exact B4.notin hD m
      refine ⟨_, _, rs ++ [r], rfl, (((k2.trans k4).trans k5).own hp1), B5.upd B1 hr, ⟨⟨_, upd_same, ?_⟩, fun r' m => ?_, fun r' m => ?_⟩, by rw [List.length_append, hl]; rfl⟩
      · rw [List.map_append]
        exact ((dr.keep (k5.mono fun _ m => List.mem_cons_of_mem _ m)).keep kU).app (Dvs.one ⟨D, _, rfl, nD, kU _ _ eD nD, Dvs.ofInts⟩)
      · rcases List.mem_append.mp m with m | m
        · exact R4.four r' m
        · rw [List.mem_singleton.mp m, lr, hl']; rfl
      · rcases List.mem_append.mp m with m | m
        · exact R4.within r' m
        · rw [List.mem_singleton.mp m]; exact hr'
  · rintro σ H2 ⟨v4, v5, rs, rfl, k2, B2, R2, hl⟩
    walk_at "rd"
    refine ⟨_, rfl, _, rfl, _, rfl, by omega, by omega, fun D hD => lc_rng (S := [b]) (fun H' => Bag M.K H' b c) (fun v => ∃ x : Bool, v = .bl x) hD (B2.notin hD) B2 (fun H3 o _ B3 => B3.upd B2 hD) (by omega) (fun _ => rfl) (fun i H3 hi k3 B3 R r => ?_) fun H3 acc k3 B3 e ha hl' => ?_⟩
    · walk_at "rd"
      exact ⟨_, rfl, b, c, 3, rfl, B3, by decide, by decide, fun H4 e k4 B4 _ _ => ⟨rfl, r _ H4 k4 B4 ⟨_, rfl⟩⟩⟩
    · obtain ⟨fs, rfl, lf⟩ := bools_back ha
      obtain ⟨rv, er, dr⟩ := (R2.keep k3 nr).at_
      refine ⟨by show 2 ≤ sizeLine; decide, fun p hp => ?_⟩
      have kp : Keep [b] H3 (upd H3 p (.tup [.ref pr, .ref D])) := Keep.new hp
      have kp0 : Keep [pr, b] H3 (upd H3 p (.tup [.ref pr, .ref D])) := Keep.new hp
      have nD := B2.notin hD
      refine k _ p rs fs ((k2.trans k3).trans kp) (B3.new hp) ⟨p, _, rfl, B3.notin hp, upd_same, .ref pr, _, rfl, ⟨pr, rv, rfl, nr, kp _ _ er nr, Dvs.sub (dr.keep kp0) fun _ m => List.mem_cons_of_mem _ m⟩, .ref D, _, rfl, ⟨D, _, rfl, nD, kp _ _ e nD, Dvs.ofBools⟩, rfl⟩
        ⟨by omega, by omega, by omega, R2.four, fun r m i mi => ?_⟩ (by omega)
      obtain ⟨h0, h1⟩ := R2.within r m i mi
      exact ⟨h0, by omega⟩

set_option Elab.async false
set_option linter.all false
set_option maxRecDepth 100000
set_option maxHeartbeats 1000000
open PySem PySem.Spec PyProof.Rows L2 FR
theorem s_tupK {K : PySem.W.Frag} {H : Hp} {Q : VK} {a : Addr} {xs : List V} (h : SqL K H a xs) (q : ∀ p H', Keep [] H H' → H' p = some (.tup xs) → H p = none → Q (.ref p) H') : rTupOf K [.ref a] H Q := s_tupL h (newK q)
theorem s_lstK {K : PySem.W.Frag} {H : Hp} {Q : VK} {a : Addr} {xs : List V} (h : SqL K H a xs) (q : ∀ p H', Keep [] H H' → H' p = some (.lst xs) → H p = none → Q (.ref p) H') : rLstOf K [.ref a] H Q := ⟨a, xs, rfl, .inl h, newK q⟩
theorem ixN_in {n : Nat} {i : Int} (h0 : 0 ≤ i) (h1 : i < n) : ixN n i = some i.toNat := by
  unfold ixN
  rw [if_pos h0, if_pos (by omega)]
theorem Dvs.set {S : List Addr} {H : Hp} : ∀ {ds : List PyData} {vs : List V} {i : Nat} {d : PyData} {v : V}, Dvs S H ds vs → Dv S H d v → Dvs S H (ds.set i d) (vs.set i v)
  | [], _, _, _, _, h, _ => by subst h; rfl
  | x :: r, _, 0, d, v, ⟨u, ws, q, h1, h2⟩, g => by subst q; exact ⟨v, ws, rfl, g, h2⟩
  | x :: r, _, i + 1, d, v, ⟨u, ws, q, h1, h2⟩, g => by subst q; exact ⟨u, _, rfl, h1, Dvs.set h2 g⟩
theorem Dvs.take {S : List Addr} {H : Hp} : ∀ {ds : List PyData} {vs : List V} {i : Nat}, Dvs S H ds vs → Dvs S H (ds.take i) (vs.take i)
  | [], _, i, h => by subst h; simp; rfl
  | x :: r, _, 0, ⟨u, ws, q, h1, h2⟩ => by subst q; rfl
  | x :: r, _, i + 1, ⟨u, ws, q, h1, h2⟩ => by subst q; exact ⟨u, _, rfl, h1, Dvs.take h2⟩
theorem Dvs.drop {S : List Addr} {H : Hp} : ∀ {ds : List PyData} {vs : List V} {i : Nat}, Dvs S H ds vs → Dvs S H (ds.drop i) (vs.drop i)
  | [], _, i, h => by subst h; simp; rfl
  | x :: r, _, 0, ⟨u, ws, q, h1, h2⟩ => by subst q; exact ⟨u, ws, rfl, h1, h2⟩
  | x :: r, _, i + 1, ⟨u, ws, q, h1, h2⟩ => by
    subst q
    show Dvs S H (r.drop i) (ws.drop i)
    exact Dvs.drop h2
theorem cut_to {xs : List V} {n : Nat} : cutV xs none (some (n : Int)) = xs.take n := by
  unfold cutV
  rw [HT.sIx_nat, HT.sIx_none, List.drop_zero, Nat.sub_zero, ← List.take_eq_take_min]
theorem cut_from {xs : List V} {n : Nat} : cutV xs (some (n : Int)) none = xs.drop n := by
  unfold cutV
  rw [HT.sIx_nat, HT.sIx_none, List.take_of_length_le (by rw [List.length_drop]; omega)]
  by_cases h : n ≤ xs.length
  · rw [Nat.min_eq_left h]
  · rw [Nat.min_eq_right (by omega), List.drop_of_length_le (Nat.le_refl _), List.drop_of_length_le (by omega)]
/-- an entry that no row of m rows has -/
structure OddE (S : List Addr) (H : Hp) (m : Nat) (d : PyData) (v : V) : Prop where
  at_ : Dv S H d v
  fit : fits d = true
  bad : isW 0 ((m : Int) - 1) d = false
/-- a row that no table of m rows has -/
structure OddR (S : List Addr) (H : Hp) (m : Nat) (d : PyData) (v : V) : Prop where
  at_ : Dv S H d v
  fit : fits d = true
  bad : isRow m d = false
theorem bad_row {m : Nat} {es : List PyData} {i : Nat} {d : PyData} (h : es[i]? = some d) (b : isW 0 ((m : Int) - 1) d = false) : isRow m (.tuple es) = false := by
  show (decide (es.length = 4) && es.all (isW 0 ((m : Int) - 1))) = false
  have : es.all (isW 0 ((m : Int) - 1)) = false := by
    refine Bool.eq_false_iff.mpr fun q => ?_
    have := List.all_eq_true.mp q d (List.mem_of_getElem? h)
    rw [b] at this; cases this
  rw [this, Bool.and_false]
theorem row_len4 {m : Nat} {es : List PyData} (h : es.length ≠ 4) : isRow m (.tuple es) = false := by
  show (decide (es.length = 4) && _) = false
  rw [decide_eq_false h, Bool.false_and]
theorem pair_bad {b p pa pb : Addr} {Hx : Hp} {va vb : List V} {da db : List PyData} (hp : Hx p = none) (np : p ∉ [b]) (npa : pa ∉ [b]) (npb : pb ∉ [b]) (ea : Hx pa = some (.tup va)) (eb : Hx pb = some (.tup vb)) (ga : Dvs [b] Hx da va) (gb : Dvs [b] Hx db vb)
    (fa : fits (.tuple da) = true) (fb : fits (.tuple db) = true) (bad : isTab (.tuple [.tuple da, .tuple db]) = false) : BadT [b] (upd Hx p (.tup [.ref pa, .ref pb])) (.ref p) := by
  have kp : Keep [] Hx (upd Hx p (.tup [.ref pa, .ref pb])) := Keep.new hp
  refine .inl ⟨.tuple [.tuple da, .tuple db], ⟨p, _, rfl, np, upd_same, .ref pa, _, rfl, ⟨pa, va, rfl, npa, kp.at ea, ga.keep0 kp⟩, .ref pb, _, rfl, ⟨pb, vb, rfl, npb, kp.at eb, gb.keep0 kp⟩, rfl⟩, fits_of_tup (by show 2 ≤ 1000; decide) fun d m => ?_, bad⟩
  simp only [List.mem_cons, List.not_mem_nil, or_false] at m
  rcases m with rfl | rfl
  · exact fa
  · exact fb
theorem fits_map_rows {rs : List (List Int)} {fs : List Bool} (g : Good rs fs) : ∀ d ∈ rs.map rowD, fits d = true := fun d m => by
  obtain ⟨r, hr, rfl⟩ := List.mem_map.mp m
  exact fits_row (by rw [g.four r hr]; decide)
theorem fits_map_bools {fs : List Bool} : ∀ d ∈ fs.map PyData.bool, fits d = true := fun d m => by
  obtain ⟨r, hr, rfl⟩ := List.mem_map.mp m; rfl
theorem p_law_odd_table {M : Pm} (vs : List V) (H : Hp) (Q : VK) (E : XK) (h : sp_law_odd_table M vs H Q E) : t_law_odd_table M { nx := fun _ H' => Q .non H', rt := Q } (L2.start ["bag", "rows", "flags", "at", "turn", "place", "told", "many", "row", "odd", "flag", "others"] vs) H := by
  obtain ⟨b, c, r, f, rs, fs, rfl, B, ⟨ar, rv, rfl, na, ha, gr⟩, ⟨af, fv, rfl, nf, hf, gf⟩, g, k⟩ := h
  rw [gf.bools] at hf
  have hl := gr.length
  rw [List.length_map] at hl
  have g1 := g.one
  have g2 := g.most
  walk_at "t_law_odd_table"
  refine ⟨_, rfl, _, rfl, s_lenL (.of ha) ⟨b, c, _, rfl, B, by omega, by omega, fun H1 d1 k1 B1 d10 d11 => ⟨_, rfl, b, c, 8, rfl, B1, by decide, by decide, fun H2 d2 k2 B2 d20 d21 => ⟨_, rfl, b, c, 4, rfl, B2, by decide, by decide, fun H3 d3 k3 B3 d30 d31 => ⟨_, _, _, rfl, ?_⟩⟩⟩⟩⟩
  have k03 : Keep [b] H H3 := (k1.trans k2).trans k3
  have ha3 := k03 _ _ ha na
  have gr3 : Dvs [b] H3 (rs.map fun r => PyData.list (r.map .int)) rv := gr.keep k03
  have nb : NN [b] H3 := fun s m => by rw [List.mem_singleton.mp m]; exact B3.has
  refine ldL (S := [b]) (xs := rv) (fun H' => NN [b] H' ∧ Keep [] H3 H') (rs.map rowD) (by rw [List.length_map, hl]) (fun R q => ⟨_, rfl, q ar H3 Keep.refl (.of ha3) na ⟨nb, Keep.refl⟩⟩) (by omega) (fun D H0 hD g => g.1.notin hD)
    (fun D H0 H2 o hD g0 k2 g2 => ⟨g2.1.upd, g2.2.own (g0.2.none hD)⟩) (fun _ => rfl) (fun i x d D H1 hx hd k1 g1 hD R q => ?_) (fun D H4 acc hD _ g4 eD gD => ?_)
  · have hi : i < rs.length := by
      have := (List.getElem?_eq_some_iff.mp hx).1
      omega
    have er := List.getElem?_eq_getElem hi
    rw [List.getElem?_map, er] at hd
    cases (Option.some.inj hd : rowD rs[i] = d)
    obtain ⟨q', e1, e2, e3⟩ := lrow_at gr3 er
    rw [hx] at e1
    cases (Option.some.inj e1 : x = .ref q')
    walk_at "rd"
    refine ⟨_, rfl, s_tupL (.of (k1 _ _ e2 e3)) fun p hp => q (.ref p) _ (Keep.new hp) ⟨g1.1.upd, g1.2.own (g1.2.none hp)⟩ ⟨p, _, rfl, fun m => ?_, upd_same, Dvs.ofInts⟩⟩
    rcases List.mem_cons.mp m with m | m
    · rw [m] at hp; exact hD hp
    · exact g1.1.notin hp m
  · have k34 : Keep [] H3 H4 := g4.2
    have B4 : Bag M.K H4 b c := B3.keep k34 (fun z => nomatch z) (fun z => nomatch z)
    have ha4 := k34.at ha3
    have hf4 := k34.at (k03 _ _ hf nf)
    have nD : D ∉ [b] := B3.notin hD
    have gD : Dvs [b] H4 (rs.map rowD) acc := Dvs.sub gD fun _ m => List.mem_cons_of_mem _ m
    have gr4 := gr3.keep0 k34
    have hat : d1.toNat < rs.length := by omega
    have er := List.getElem?_eq_getElem hat
    obtain ⟨qa, ea1, ea2, ea3⟩ := lrow_at gr4 er
    have hrow4 := g.four _ (List.getElem_mem hat)
    have hin := g.within _ (List.getElem_mem hat)
    generalize rs[d1.toNat] = row at *
    refine ⟨_, rfl, s_lenL (.of ha4) ⟨_, _, rfl, _, rfl, _, rfl, s_ixL (.of ha4) (atI_int d10 ea1) (s_lstK (.of ea2) fun pw H5 k5 ew hw => ?_)⟩⟩
    rw [hl]
    refine ⟨_, rfl, _, rfl, _, rfl, by show 1 ≤ sizeLine; decide, fun p0 h0 => ⟨_, _, rfl, rfl, ⟨by decide, by decide, by decide⟩, by show 8 ≤ sizeLine; decide, fun p1 h1 => ?_⟩⟩
    have nb5 : p0 ≠ pw := fun q => by rw [q, ew] at h0; cases h0
    have B5 : Bag M.K H5 b c := B4.keep k5 (fun z => nomatch z) (fun z => nomatch z)
    have npw : pw ∉ [b] := B4.notin hw
    have np0 : p0 ∉ [b] := B5.notin h0
    have np1 : p1 ∉ [b] := (B5.new h0).notin h1
    refine ⟨b, c, .ref p1, _, rfl, (B5.new h0).new h1, by show 1 ≤ 8; decide, by show 8 ≤ 1000000; decide, .inl ⟨p1, rfl, fun q => np1 (by rw [q]; simp), upd_same⟩, fun H6 x mx k6 B6 => ?_⟩
    have k56 : Keep [b] H5 H6 := ((Keep.new h0).trans (Keep.new h1)).trans k6
    have e0 : H6 p0 = some (.tup [.int 0]) := k6 _ _ (Keep.new (S := [b]) h1 _ _ upd_same np0) np0
    obtain ⟨dx, ox⟩ : ∃ dx, OddE [pw, b] H6 rs.length dx x := by
      simp only [List.mem_cons, List.not_mem_nil, or_false] at mx
      have big : ¬ ((10 : Int) ^ (Int.toNat 40) ≤ (rs.length : Int) - 1) := by
        have : (300 : Int) < (10 : Int) ^ (Int.toNat 40) := by decide
        omega
      rcases mx with rfl | rfl | rfl | rfl | rfl | rfl | rfl | rfl
      · exact ⟨.int (-1), rfl, rfl, rfl⟩
      · refine ⟨.int rs.length, rfl, rfl, ?_⟩
        show (decide ((0 : Int) ≤ rs.length) && decide ((rs.length : Int) ≤ (rs.length : Int) - 1)) = false
        rw [decide_eq_false (by omega : ¬ (rs.length : Int) ≤ (rs.length : Int) - 1), Bool.and_false]
      · exact ⟨.none, rfl, rfl, rfl⟩
      · exact ⟨.bool true, rfl, rfl, rfl⟩
      · exact ⟨.str "0", rfl, by decide +kernel, rfl⟩
      · exact ⟨.tuple [.int 0], ⟨p0, [.int 0], rfl, fun m => by
          rcases List.mem_cons.mp m with m | m
          · exact nb5 m
          · exact np0 m, e0, _, _, rfl, rfl, rfl⟩, rfl, rfl⟩
      · refine ⟨.int (10 ^ (Int.toNat 40)), rfl, rfl, ?_⟩
        show (decide ((0 : Int) ≤ 10 ^ (Int.toNat 40)) && decide ((10 : Int) ^ (Int.toNat 40) ≤ (rs.length : Int) - 1)) = false
        rw [decide_eq_false big, Bool.and_false]
      · exact ⟨.bool false, rfl, rfl, rfl⟩
    have ew6 := k56 _ _ ew npw
    refine ⟨_, rfl, _, rfl, s_setL (j := d3.toNat) ew6 (ixN_in d30 (by rw [List.length_map, hrow4]; exact d31)) ?_⟩
    have hpl : d3.toNat < 4 := by omega
    have k67 : Keep [pw, b] H6 (upd H6 pw (.lst ((row.map V.int).set d3.toNat x))) := Keep.put List.mem_cons_self
    have ew7 : (upd H6 pw (.lst ((row.map V.int).set d3.toNat x))) pw = some (.lst ((row.map V.int).set d3.toNat x)) := upd_same
    have B7 : Bag M.K (upd H6 pw (.lst ((row.map V.int).set d3.toNat x))) b c := B6.upd B4 hw
    have k47 : Keep [b] H4 (upd H6 pw (.lst ((row.map V.int).set d3.toNat x))) := (k5.of0.trans k56).own hw
    have dr : Dvs [pw, b] (upd H6 pw (.lst ((row.map V.int).set d3.toNat x))) ((row.map PyData.int).set d3.toNat dx) ((row.map V.int).set d3.toNat x) := (Dvs.set Dvs.ofInts ox.at_).keep k67
    have les : ((row.map PyData.int).set d3.toNat dx).length = 4 := by rw [List.length_set, List.length_map, hrow4]
    have ebad : ((row.map PyData.int).set d3.toNat dx)[d3.toNat]? = some dx := by
      rw [List.getElem?_set_self (by rw [List.length_map, hrow4]; exact hpl)]
    have fes : ∀ d ∈ (row.map PyData.int).set d3.toNat dx, fits d = true := fun d m => by
      rcases List.mem_or_eq_of_mem_set m with m | m
      · obtain ⟨i, _, rfl⟩ := List.mem_map.mp m; rfl
      · rw [m]; exact ox.fit
    have ibad := ox.bad
    generalize upd H6 pw (.lst ((row.map V.int).set d3.toNat x)) = H7 at *
    generalize (row.map V.int).set d3.toNat x = xs at *
    generalize (row.map PyData.int).set d3.toNat dx = es at *
    have dr : Dvs [b] H7 es xs := Dvs.sub dr fun _ m => List.mem_cons_of_mem _ m
    have ha7 := k47 _ _ ha4 na
    have ea7 := k47 _ _ ea2 ea3
    refine ⟨_, rfl, _, rfl, _, rfl, s_cutK (.of ew7) fun q1 Ha ka e1 hq1 => ⟨_, rfl, s_tupK (.of (ka.at ew7)) fun q2 Hb kb e2 hq2 => ⟨_, rfl, _, rfl, s_cutK (.of ((ka.trans kb).at ew7)) fun q3 Hc kc e3 hq3 => s_tupK (.of e3) fun q4 Hd kd e4 hq4 => ?_⟩⟩⟩
    have k7d := ((ka.trans kb).trans kc).trans kd
    refine ⟨_, rfl, _, rfl, s_ixL (.of (k7d.at ha7)) (atI_int d10 ea1) (s_lstK (.of (k7d.at ea7)) fun q5 He ke e5 hq5 => ⟨by show 1 ≤ sizeLine; decide, fun q6 hq6 => ?_⟩)⟩
    refine s_catK (Keep.new (S := []) hq6 _ _ e5 (fun z => nomatch z)) upd_same (sz_of (by rw [List.length_map, hrow4]; decide : _ ≤ 100)) fun q7 Hf kf e7 hq7 => s_tupK (.of e7) fun q8 Hg kg e8 hq8 => ⟨by show 0 ≤ sizeLine; decide, fun q9 hq9 => ?_⟩
    have nne : (⟨#[]⟩ : Str) = ⟨#[]⟩ := rfl
    refine ⟨_, rfl, _, rfl, s_ixL (.of (Keep.new (S := []) hq9 _ _ (kg.at (kf.at (Keep.new (S := []) hq6 _ _ (ke.at (k7d.at ha7)) (fun z => nomatch z)))) (fun z => nomatch z))) (atI_int d10 ea1)
      (s_lstK (.of (Keep.new (S := []) hq9 _ _ (kg.at (kf.at (Keep.new (S := []) hq6 _ _ (ke.at (k7d.at ea7)) (fun z => nomatch z)))) (fun z => nomatch z))) fun q10 Hi ki e10 hq10 => ⟨by show 9 ≤ sizeLine; decide, fun q11 hq11 => ?_⟩)⟩
    have k7i : Keep [] H7 Hi := ((((k7d.trans ke).trans (Keep.new hq6)).trans (kf.trans kg)).trans (Keep.new hq9)).trans ki
    have Bi : Bag M.K Hi b c := B7.keep k7i (fun z => nomatch z) (fun z => nomatch z)
    have nq11 := Bi.notin hq11
    refine ⟨b, c, .ref q11, _, rfl, Bi.new hq11, by show 1 ≤ 9; decide, by show 9 ≤ 1000000; decide, .inl ⟨q11, rfl, fun q => nq11 (by rw [q]; simp), upd_same⟩, fun Hj y my kj Bj => ?_⟩
    have n7 : NN [b] H7 := fun s m => by rw [List.mem_singleton.mp m]; exact B7.has
    have kij : Keep [b] Hi Hj := (Keep.new hq11).trans kj
    have kgj : Keep [b] Hg Hj := ((Keep.new hq9).trans ki).of0.trans kij
    have kfj : Keep [b] Hf Hj := kg.of0.trans kgj
    have kej : Keep [b] He Hj := ((Keep.new hq6).trans kf).of0.trans kfj
    have kdj : Keep [b] Hd Hj := ke.of0.trans kej
    have kcj : Keep [b] Hc Hj := kd.of0.trans kdj
    have kbj : Keep [b] Hb Hj := kc.of0.trans kcj
    have kaj : Keep [b] Ha Hj := kb.of0.trans kbj
    have k7j : Keep [b] H7 Hj := ka.of0.trans kaj
    have c3 : cutV xs none (some 3) = xs.take 3 := cut_to (n := 3)
    rw [c3] at e1 e4
    have drj := dr.keep k7j
    obtain ⟨dy, oy⟩ : ∃ dy, OddR [b] Hj rs.length dy y := by
      have na_ := n7.keep0 ka
      have nb_ := na_.keep0 kb
      have nc_ := nb_.keep0 kc
      have nd_ := nc_.keep0 kd
      have ne_ := nd_.keep0 ke
      have ne2 : NN [b] (upd He q6 (.lst [.int 0])) := ne_.upd
      have nf_ := ne2.keep0 kf
      have ng_ := nf_.keep0 kg
      have ng2 : NN [b] (upd Hg q9 (.tup [])) := ng_.upd
      simp only [List.mem_cons, List.not_mem_nil, or_false] at my
      have f3 : ∀ d ∈ es.take 3, fits d = true := fun d m => fes d (List.mem_of_mem_take m)
      have fr : ∀ d ∈ row.map PyData.int, fits d = true := fun d m => by obtain ⟨i, _, rfl⟩ := List.mem_map.mp m; rfl
      have l3 : (es.take 3).length = 3 := by rw [List.length_take, les]; rfl
      rcases my with rfl | rfl | rfl | rfl | rfl | rfl | rfl | rfl | rfl
      · exact ⟨.list (es.take 3), ⟨q1, _, rfl, n7.notin hq1, kaj _ _ e1 (n7.notin hq1), Dvs.take drj⟩, fits_of_lst (by omega) f3, rfl⟩
      · exact ⟨.tuple es, ⟨q2, _, rfl, na_.notin hq2, kbj _ _ e2 (na_.notin hq2), drj⟩, fits_of_tup (by omega) fes, bad_row ebad ibad⟩
      · exact ⟨.tuple (es.take 3), ⟨q4, _, rfl, nc_.notin hq4, kdj _ _ e4 (nc_.notin hq4), Dvs.take drj⟩, fits_of_tup (by omega) f3, row_len4 (by omega)⟩
      · exact ⟨.none, rfl, rfl, rfl⟩
      · exact ⟨.int 3, rfl, rfl, rfl⟩
      · refine ⟨.tuple (row.map PyData.int ++ [.int 0]), ⟨q8, _, rfl, nf_.notin hq8, kgj _ _ e8 (nf_.notin hq8), Dvs.app Dvs.ofInts (Dvs.one (d := .int 0) (v := .int 0) rfl)⟩, fits_of_tup (by rw [List.length_append, List.length_map, hrow4]; decide) fun d m => ?_, row_len4 (by rw [List.length_append, List.length_map, hrow4]; decide)⟩
        rcases List.mem_append.mp m with m | m
        · exact fr d m
        · rw [List.mem_singleton.mp m]; rfl
      · exact ⟨.str "0000", rfl, by decide +kernel, rfl⟩
      · exact ⟨.tuple [], ⟨q9, [], rfl, ng_.notin hq9, kij _ _ (ki.at upd_same) (ng_.notin hq9), rfl⟩, rfl, rfl⟩
      · exact ⟨.list (row.map .int), ⟨q10, _, rfl, ng2.notin hq10, kij _ _ e10 (ng2.notin hq10), Dvs.ofInts⟩, fits_of_lst (by rw [List.length_map, hrow4]; decide) fr, rfl⟩
    have k4j : Keep [b] H4 Hj := k47.trans k7j
    have k0j : Keep [b] H Hj := (k03.trans k34.of0).trans k4j
    have eDj := k4j _ _ eD nD
    have hfj := k4j _ _ hf4 nf
    have gDj := gD.keep k4j
    clear kij kgj kfj kej kdj kcj kbj kaj k7j drj k7i kj ki kg kf ke kd kc kb ka k7d my e1 e2 e3 e4 e5 e7 e8 e10 hq1 hq2 hq3 hq4 hq5 hq6 hq7 hq8 hq9 hq10 hq11 Bi nq11 n7 c3 dr ea7 ha7 ew7
    refine ⟨_, rfl, _, _, rfl, rfl, _, rfl, ?_⟩
    have nj : NN [b] Hj := fun s m => by rw [List.mem_singleton.mp m]; exact Bj.has
    have lacc : acc.length = rs.length := by rw [gDj.length, List.length_map]
    have lfs := g.flags
    have hd1 : ((d1.toNat : Nat) : Int) = d1 := Int.toNat_of_nonneg d10
    have cut1 : ∀ zs : List V, cutV zs none (some d1) = zs.take d1.toNat := fun zs => by rw [← hd1]; exact cut_to
    have cut2 : ∀ zs : List V, cutV zs (some (d1 + 1)) none = zs.drop (d1.toNat + 1) := fun zs => by
      rw [show d1 + 1 = ((d1.toNat + 1 : Nat) : Int) by omega]; exact cut_from
    have fT := fits_map_rows g
    have out2 : ∀ (Hx : Hp) (v : V), Keep [b] Hj Hx → Bag M.K Hx b c → BadT [b] Hx v → Q v Hx := fun Hx v kx Bx bx => k Hx v (k0j.trans kx) Bx bx
    have out : ∀ (Hx : Hp) (v : V), Keep [] Hj Hx → BadT [b] Hx v → Q v Hx := fun Hx v kx bx => out2 Hx v kx.of0 (Bj.keep kx (fun z => nomatch z) (fun z => nomatch z)) bx
    have fRows : fits (.tuple (rs.map rowD)) = true := fits_rows (by omega) fun r hr => by rw [g.four r hr]; decide
    have fFlags : fits (.tuple (fs.map PyData.bool)) = true := fits_flags (by omega)
    refine iteB (fun c1 => ?_) (fun c1 => ?_)
    · refine ⟨_, rfl, _, rfl, _, rfl, s_cutK (.of eDj) fun u1 I1 l1 w1 _ => ⟨_, rfl, by show 1 ≤ sizeLine; decide, fun u2 hu2 => ?_⟩⟩
      rw [cut1] at w1
      have l2 : Keep [] I1 (upd I1 u2 (.lst [y])) := Keep.new hu2
      refine s_catK (l2.at w1) upd_same (sz_of (by rw [List.length_take]; show _ ≤ 1000; simp; omega)) fun u3 I3 l3 w3 _ => ⟨_, rfl, _, rfl, _, _, rfl, rfl, _, rfl, s_cutK (.of (((l1.trans l2).trans l3).at eDj)) fun u4 I4 l4 w4 _ => ?_⟩
      rw [cut2] at w4
      refine s_catK (l4.at w3) w4 (sz_of (by simp only [List.length_append, List.length_take, List.length_drop, List.length_cons, List.length_nil]; show _ ≤ 1000; omega)) fun u5 I5 l5 w5 _ => s_tupK (.of w5) fun u6 I6 l6 w6 h6 => ?_
      have l06 := (((((l1.trans l2).trans l3).trans l4).trans l5).trans l6)
      refine ⟨_, rfl, s_tupK (.of (l06.at hfj)) fun u7 I7 l7 w7 h7 => ⟨by show 2 ≤ sizeLine; decide, fun u8 h8 => ?_⟩⟩
      have l07 := l06.trans l7
      have nn5 : NN [b] I5 := nj.keep0 ((((l1.trans l2).trans l3).trans l4).trans l5)
      have nn6 := nj.keep0 l06
      have nn7 := nj.keep0 l07
      refine out _ _ (l07.trans (Keep.new h8)) (pair_bad (da := (rs.map rowD).take d1.toNat ++ [dy] ++ (rs.map rowD).drop (d1.toNat + 1)) (db := fs.map PyData.bool) h8 (nn7.notin h8) (nn5.notin h6) (nn6.notin h7) (l7.at w6) w7 ?_ Dvs.ofBools ?_ (fits_flags (by omega)) ?_)
      · exact Dvs.keep0 (Dvs.app (Dvs.app (Dvs.take gDj) (Dvs.one oy.at_)) (Dvs.drop gDj)) l07
      · refine fits_of_tup (by simp only [List.length_append, List.length_take, List.length_drop, List.length_cons, List.length_nil, List.length_map]; omega) fun d m => ?_
        rcases List.mem_append.mp m with m | m
        · rcases List.mem_append.mp m with m | m
          · exact fT d (List.mem_of_mem_take m)
          · rw [List.mem_singleton.mp m]; exact oy.fit
        · exact fT d (List.mem_of_mem_drop m)
      · rw [isTab_eq]
        have ln : ((rs.map rowD).take d1.toNat ++ [dy] ++ (rs.map rowD).drop (d1.toNat + 1)).length = rs.length := by
          simp only [List.length_append, List.length_take, List.length_drop, List.length_cons, List.length_nil, List.length_map]; omega
        rw [ln]
        have : ((rs.map rowD).take d1.toNat ++ [dy] ++ (rs.map rowD).drop (d1.toNat + 1)).all (isRow rs.length) = false := by
          refine Bool.eq_false_iff.mpr fun q => ?_
          have := List.all_eq_true.mp q dy (by simp)
          rw [oy.bad] at this; cases this
        rw [this, Bool.and_false]
    · refine ⟨_, rfl, _, _, rfl, rfl, _, rfl, iteB (fun c2 => ?_) (fun c2 => ?_)⟩
      · refine ⟨_, rfl, by show 1 ≤ sizeLine; decide, fun u1 hu1 => ⟨by show 5 ≤ sizeLine; decide, fun u2 hu2 => ?_⟩⟩
        have nu1 := Bj.notin hu1
        have nu2 := (Bj.new hu1).notin hu2
        refine ⟨b, c, .ref u2, _, rfl, (Bj.new hu1).new hu2, by show 1 ≤ 5; decide, by show 5 ≤ 1000000; decide, .inl ⟨u2, rfl, fun q => nu2 (by rw [q]; simp), upd_same⟩, fun I y2 my2 l Bl => ?_⟩
        have lj : Keep [b] Hj I := ((Keep.new hu1).trans (Keep.new hu2)).trans l
        have eu1 : I u1 = some (.tup [.bl true]) := l _ _ (Keep.new (S := [b]) hu2 _ _ upd_same nu1) nu1
        obtain ⟨df, hdf, ff, bf⟩ : ∃ df, Dv [b] I df y2 ∧ fits df = true ∧ isBool df = false := by
          simp only [List.mem_cons, List.not_mem_nil, or_false] at my2
          rcases my2 with rfl | rfl | rfl | rfl | rfl
          · exact ⟨.int 0, rfl, rfl, rfl⟩
          · exact ⟨.int 1, rfl, rfl, rfl⟩
          · exact ⟨.none, rfl, rfl, rfl⟩
          · exact ⟨.str "True", rfl, by decide +kernel, rfl⟩
          · exact ⟨.tuple [.bool true], ⟨u1, _, rfl, nu1, eu1, _, _, rfl, rfl, rfl⟩, rfl, rfl⟩
        refine ⟨_, rfl, s_tupK (.of (lj _ _ eDj nD)) fun u3 I3 l3 w3 h3 => ⟨_, rfl, _, rfl, _, rfl, s_cutK (.of (l3.at (lj _ _ hfj nf))) fun u4 I4 l4 w4 _ => ⟨_, rfl, by show 1 ≤ sizeLine; decide, fun u5 hu5 => ?_⟩⟩⟩
        rw [cut1] at w4
        have l5 : Keep [] I4 (upd I4 u5 (.lst [y2])) := Keep.new hu5
        refine s_catK (l5.at w4) upd_same (sz_of (by rw [List.length_take]; show _ ≤ 1000; simp; omega)) fun u6 I6 l6 w6 _ => ⟨_, rfl, _, rfl, _, _, rfl, rfl, _, rfl, s_cutK (.of ((((l3.trans l4).trans l5).trans l6).at (lj _ _ hfj nf))) fun u7 I7 l7 w7 _ => ?_⟩
        rw [cut2] at w7
        refine s_catK (l7.at w6) w7 (sz_of (by simp only [List.length_append, List.length_take, List.length_drop, List.length_cons, List.length_nil, List.length_map]; show _ ≤ 1000; omega)) fun u8 I8 l8 w8 _ => s_tupK (.of w8) fun u9 I9 l9 w9 h9 => ⟨by show 2 ≤ sizeLine; decide, fun u10 h10 => ?_⟩
        have nI : NN [b] I := fun s m => by rw [List.mem_singleton.mp m]; exact Bl.has
        have l38 := ((((l4.trans l5).trans l6).trans l7).trans l8)
        have l39 := l38.trans l9
        have n3 := nI.keep0 l3
        have lI9 := l3.trans l39
        refine out2 _ _ ((lj.trans lI9.of0).trans (Keep.new h10)) ((Bl.keep lI9 (fun z => nomatch z) (fun z => nomatch z)).new h10) (pair_bad (da := rs.map rowD) (db := (fs.map PyData.bool).take d1.toNat ++ [df] ++ (fs.map PyData.bool).drop (d1.toNat + 1)) h10 ((nI.keep0 lI9).notin h10) (nI.notin h3) ((n3.keep0 l38).notin h9) (l39.at w3) w9 ?_ ?_ fRows ?_ ?_)
        · exact (gDj.keep lj).keep0 lI9
        · exact Dvs.app (Dvs.app (Dvs.take Dvs.ofBools) (Dvs.one (hdf.keep0 lI9))) (Dvs.drop Dvs.ofBools)
        · refine fits_of_tup (by simp only [List.length_append, List.length_take, List.length_drop, List.length_cons, List.length_nil, List.length_map]; omega) fun d m => ?_
          rcases List.mem_append.mp m with m | m
          · rcases List.mem_append.mp m with m | m
            · exact fits_map_bools d (List.mem_of_mem_take m)
            · rw [List.mem_singleton.mp m]; exact ff
          · exact fits_map_bools d (List.mem_of_mem_drop m)
        · rw [isTab_eq]
          have : ((fs.map PyData.bool).take d1.toNat ++ [df] ++ (fs.map PyData.bool).drop (d1.toNat + 1)).all isBool = false := by
            refine Bool.eq_false_iff.mpr fun q => ?_
            have := List.all_eq_true.mp q df (by simp)
            rw [bf] at this; cases this
          rw [this, Bool.and_false, Bool.false_and]
      · refine ⟨_, rfl, rfl, _, rfl, iteB (fun c3 => ?_) (fun c3 => ?_)⟩
        · refine ⟨_, rfl, _, _, rfl, rfl, _, rfl, iteB (fun c4 => ?_) (fun c4 => ?_)⟩
          · refine ⟨_, rfl, s_tupK (.of eDj) fun u1 I1 l1 w1 h1 => ⟨_, rfl, by show 1 ≤ sizeLine; decide, fun u2 hu2 => ?_⟩⟩
            have l2 : Keep [] I1 (upd I1 u2 (.lst [.bl true])) := Keep.new hu2
            refine s_catK ((l1.trans l2).at hfj) upd_same (sz_of (by rw [List.length_map]; show _ ≤ 1000; simp; omega)) fun u3 I3 l3 w3 _ => s_tupK (.of w3) fun u4 I4 l4 w4 h4 => ⟨by show 2 ≤ sizeLine; decide, fun u5 h5 => ?_⟩
            have l03 := (l1.trans l2).trans l3
            have l04 := l03.trans l4
            refine out _ _ (l04.trans (Keep.new h5)) (pair_bad (da := rs.map rowD) (db := fs.map PyData.bool ++ [.bool true]) h5 ((nj.keep0 l04).notin h5) (nj.notin h1) ((nj.keep0 l03).notin h4) (((l2.trans l3).trans l4).at w1) w4 (gDj.keep0 l04) (Dvs.app Dvs.ofBools (Dvs.one (d := .bool true) (v := .bl true) rfl)) fRows ?_ ?_)
            · refine fits_of_tup (by simp only [List.length_append, List.length_cons, List.length_nil, List.length_map]; omega) fun d m => ?_
              rcases List.mem_append.mp m with m | m
              · exact fits_map_bools d m
              · rw [List.mem_singleton.mp m]; rfl
            · rw [isTab_eq]
              have : ¬ ((fs.map PyData.bool ++ [PyData.bool true]).length = (rs.map rowD).length) := by
                simp only [List.length_append, List.length_cons, List.length_nil, List.length_map]; omega
              rw [decide_eq_false this, Bool.and_false, Bool.false_and, Bool.false_and]
          · refine ⟨_, rfl, by show 4 ≤ sizeLine; decide, fun u1 hu1 => ⟨by show 1 ≤ sizeLine; decide, fun u2 hu2 => ?_⟩⟩
            have l1 : Keep [] Hj (upd Hj u1 (.tup [.int 0, .int 0, .int 0, .int 0])) := Keep.new hu1
            have l2 : Keep [] (upd Hj u1 (.tup [.int 0, .int 0, .int 0, .int 0])) (upd (upd Hj u1 (.tup [.int 0, .int 0, .int 0, .int 0])) u2 (.lst [.ref u1])) := Keep.new hu2
            refine s_catK ((l1.trans l2).at eDj) upd_same (sz_of (by show _ ≤ 1000; simp; omega)) fun u3 I3 l3 w3 _ => s_tupK (.of w3) fun u4 I4 l4 w4 h4 => ?_
            have l03 := (l1.trans l2).trans l3
            have l04 := l03.trans l4
            refine ⟨_, rfl, s_tupK (.of (l04.at hfj)) fun u5 I5 l5 w5 h5 => ⟨by show 2 ≤ sizeLine; decide, fun u6 h6 => ?_⟩⟩
            have l05 := l04.trans l5
            have nu1 := nj.notin hu1
            refine out _ _ (l05.trans (Keep.new h6)) (pair_bad (da := rs.map rowD ++ [.tuple [.int 0, .int 0, .int 0, .int 0]]) (db := fs.map PyData.bool) h6 ((nj.keep0 l05).notin h6) ((nj.keep0 l03).notin h4) ((nj.keep0 l04).notin h5) (l5.at w4) w5
              (Dvs.app (gDj.keep0 l05) (Dvs.one (d := .tuple [.int 0, .int 0, .int 0, .int 0]) (v := .ref u1) ⟨u1, [.int 0, .int 0, .int 0, .int 0], rfl, nu1, (((l2.trans l3).trans l4).trans l5).at upd_same, Dvs.ofInts (bs := [0, 0, 0, 0])⟩)) Dvs.ofBools ?_ fFlags ?_)
            · refine fits_of_tup (by simp only [List.length_append, List.length_cons, List.length_nil, List.length_map]; omega) fun d m => ?_
              rcases List.mem_append.mp m with m | m
              · exact fT d m
              · rw [List.mem_singleton.mp m]; rfl
            · rw [isTab_eq]
              have : ¬ ((fs.map PyData.bool).length = (rs.map rowD ++ [PyData.tuple [.int 0, .int 0, .int 0, .int 0]]).length) := by
                simp only [List.length_append, List.length_cons, List.length_nil, List.length_map]; omega
              rw [decide_eq_false this, Bool.and_false, Bool.false_and, Bool.false_and]
        · refine ⟨by show 0 ≤ sizeLine; decide, fun a1 p1 => ⟨_, rfl, s_tupK (.of (Keep.new (S := []) p1 _ _ eDj (fun z => nomatch z))) fun a2 J2 m2 x2 p2 => ⟨by show 1 ≤ sizeLine; decide, fun a3 p3 => ?_⟩⟩⟩
          have m1 : Keep [] Hj (upd Hj a1 (.tup [])) := Keep.new p1
          have m3 : Keep [] J2 (upd J2 a3 (.tup [.ref a2])) := Keep.new p3
          have x3 : (upd J2 a3 (.tup [.ref a2])) a3 = some (.tup [.ref a2]) := upd_same
          have x1 := (m2.trans m3).at (upd_same (H := Hj) (a := a1))
          have n1 := nj.notin p1
          have n2 := (nj.keep0 m1).notin p2
          have n3 := ((nj.keep0 m1).keep0 m2).notin p3
          have l3 := (m1.trans m2).trans m3
          have x2 := m3.at x2
          clear p1 p2 p3 m1 m2 m3
          generalize upd J2 a3 (.tup [.ref a2]) = J3 at *
          refine ⟨_, rfl, s_tupK (.of (l3.at eDj)) fun a4 J4 m4 x4 p4 => ⟨_, rfl, s_tupK (.of ((l3.trans m4).at hfj)) fun a5 J5 m5 x5 p5 => ⟨by show 2 ≤ sizeLine; decide, fun a6 p6 => ?_⟩⟩⟩
          have m6 : Keep [] J5 (upd J5 a6 (.lst [.ref a4, .ref a5])) := Keep.new p6
          have x6 : (upd J5 a6 (.lst [.ref a4, .ref a5])) a6 = some (.lst [.ref a4, .ref a5]) := upd_same
          have nl3 := nj.keep0 l3
          have n4 := nl3.notin p4
          have n5 := (nl3.keep0 m4).notin p5
          have n6 := ((nl3.keep0 m4).keep0 m5).notin p6
          have l36 := (m4.trans m5).trans m6
          have l6 := l3.trans l36
          have x4 := (m5.trans m6).at x4
          have x5 := m6.at x5
          have x1 := l36.at x1
          have x2 := l36.at x2
          have x3 := l36.at x3
          clear p4 p5 p6 m4 m5 m6 l36 l3 nl3
          generalize upd J5 a6 (.lst [.ref a4, .ref a5]) = J6 at *
          refine ⟨_, rfl, _, rfl, s_tupK (.of (l6.at hfj)) fun a7 J7 m7 x7 p7 => ⟨by show 2 ≤ sizeLine; decide, fun a8 p8 => ?_⟩⟩
          have m8 : Keep [] J7 (upd J7 a8 (.tup [.ref D, .ref a7])) := Keep.new p8
          have x8 : (upd J7 a8 (.tup [.ref D, .ref a7])) a8 = some (.tup [.ref D, .ref a7]) := upd_same
          have nl6 := nj.keep0 l6
          have n7 := nl6.notin p7
          have n8 := (nl6.keep0 m7).notin p8
          have l68 := m7.trans m8
          have l8 := l6.trans l68
          have x7 := m8.at x7
          have x1 := l68.at x1
          have x2 := l68.at x2
          have x3 := l68.at x3
          have x4 := l68.at x4
          have x5 := l68.at x5
          have x6 := l68.at x6
          clear p7 p8 m7 m8 l68 l6 nl6
          generalize upd J7 a8 (.tup [.ref D, .ref a7]) = J8 at *
          refine ⟨_, rfl, s_tupK (.of (l8.at eDj)) fun a9 J9 m9 x9 p9 => ⟨_, rfl, by show 2 ≤ sizeLine; decide, fun a10 p10 => ?_⟩⟩
          have m10 : Keep [] J9 (upd J9 a10 (.tup [.ref a9, .ref af])) := Keep.new p10
          have x10 : (upd J9 a10 (.tup [.ref a9, .ref af])) a10 = some (.tup [.ref a9, .ref af]) := upd_same
          have nl8 := nj.keep0 l8
          have n9 := nl8.notin p9
          have n10 := (nl8.keep0 m9).notin p10
          have l810 := m9.trans m10
          have l10 := l8.trans l810
          have x9 := m10.at x9
          have x1 := l810.at x1
          have x2 := l810.at x2
          have x3 := l810.at x3
          have x4 := l810.at x4
          have x5 := l810.at x5
          have x6 := l810.at x6
          have x7 := l810.at x7
          have x8 := l810.at x8
          clear p9 p10 m9 m10 l810 l8 nl8
          generalize upd J9 a10 (.tup [.ref a9, .ref af]) = J10 at *
          refine fun a11 p11 => ⟨by show 9 ≤ sizeLine; decide, fun a12 p12 => ?_⟩
          have m11 : Keep [] J10 (upd J10 a11 (.dK [])) := Keep.new p11
          have m12 : Keep [] (upd J10 a11 (.dK [])) (upd (upd J10 a11 (.dK [])) a12 (.lst [.non, .int 0, .str "table", .ref a1, .ref a3, .ref a6, .ref a8, .ref a10, .ref a11])) := Keep.new p12
          have x12 : (upd (upd J10 a11 (.dK [])) a12 (.lst [.non, .int 0, .str "table", .ref a1, .ref a3, .ref a6, .ref a8, .ref a10, .ref a11])) a12 = some (.lst [.non, .int 0, .str "table", .ref a1, .ref a3, .ref a6, .ref a8, .ref a10, .ref a11]) := upd_same
          have x11 := m12.at (upd_same (H := J10) (a := a11))
          have nl10 := nj.keep0 l10
          have n11 := nl10.notin p11
          have n12 := (nl10.keep0 m11).notin p12
          have lx := m11.trans m12
          have l12 := l10.trans lx
          have x1 := lx.at x1
          have x2 := lx.at x2
          have x3 := lx.at x3
          have x4 := lx.at x4
          have x5 := lx.at x5
          have x6 := lx.at x6
          have x7 := lx.at x7
          have x8 := lx.at x8
          have x9 := lx.at x9
          have x10 := lx.at x10
          clear p11 p12 m11 m12 lx l10 nl10
          generalize upd (upd J10 a11 (.dK [])) a12 (.lst [.non, .int 0, .str "table", .ref a1, .ref a3, .ref a6, .ref a8, .ref a10, .ref a11]) = J12 at *
          refine ⟨_, rfl, _, rfl, _, rfl, s_tupK (.of (l12.at eDj)) fun a13 J13 m13 x13 p13 => ⟨_, rfl, s_tupK (.of ((l12.trans m13).at hfj)) fun a14 J14 m14 x14 p14 => ⟨by show 3 ≤ sizeLine; decide, fun a15 p15 => ?_⟩⟩⟩
          have m15 : Keep [] J14 (upd J14 a15 (.tup [.ref a13, .ref a14, .int 0])) := Keep.new p15
          have x15 : (upd J14 a15 (.tup [.ref a13, .ref a14, .int 0])) a15 = some (.tup [.ref a13, .ref a14, .int 0]) := upd_same
          have nl12 := nj.keep0 l12
          have n13 := nl12.notin p13
          have n14 := (nl12.keep0 m13).notin p14
          have n15 := ((nl12.keep0 m13).keep0 m14).notin p15
          have x13 := (m14.trans m15).at x13
          have x14 := m15.at x14
          have lx := (m13.trans m14).trans m15
          have l15 := l12.trans lx
          have x1 := lx.at x1
          have x2 := lx.at x2
          have x3 := lx.at x3
          have x4 := lx.at x4
          have x5 := lx.at x5
          have x6 := lx.at x6
          have x7 := lx.at x7
          have x8 := lx.at x8
          have x9 := lx.at x9
          have x10 := lx.at x10
          have x11 := lx.at x11
          have x12 := lx.at x12
          clear p13 p14 p15 m13 m14 m15 lx l12 nl12
          generalize upd J14 a15 (.tup [.ref a13, .ref a14, .int 0]) = J15 at *
          refine ⟨by show 0 ≤ sizeLine; decide, fun a16 p16 => ⟨by show 0 ≤ sizeLine; decide, fun a17 p17 => ⟨by show 2 ≤ sizeLine; decide, fun a18 p18 => ?_⟩⟩⟩
          have m16 : Keep [] J15 (upd J15 a16 (.tup [])) := Keep.new p16
          have m17 : Keep [] (upd J15 a16 (.tup [])) (upd (upd J15 a16 (.tup [])) a17 (.tup [])) := Keep.new p17
          have m18 : Keep [] (upd (upd J15 a16 (.tup [])) a17 (.tup [])) (upd (upd (upd J15 a16 (.tup [])) a17 (.tup [])) a18 (.tup [.ref a16, .ref a17])) := Keep.new p18
          have x18 : (upd (upd (upd J15 a16 (.tup [])) a17 (.tup [])) a18 (.tup [.ref a16, .ref a17])) a18 = some (.tup [.ref a16, .ref a17]) := upd_same
          have x16 := (m17.trans m18).at (upd_same (H := J15) (a := a16))
          have x17 := m18.at (upd_same (a := a17))
          have nl15 := nj.keep0 l15
          have n16 := nl15.notin p16
          have n17 := (nl15.keep0 m16).notin p17
          have n18 := ((nl15.keep0 m16).keep0 m17).notin p18
          have lx := (m16.trans m17).trans m18
          have l18 := l15.trans lx
          have x1 := lx.at x1
          have x2 := lx.at x2
          have x3 := lx.at x3
          have x4 := lx.at x4
          have x5 := lx.at x5
          have x6 := lx.at x6
          have x7 := lx.at x7
          have x8 := lx.at x8
          have x9 := lx.at x9
          have x10 := lx.at x10
          have x11 := lx.at x11
          have x12 := lx.at x12
          have x13 := lx.at x13
          have x14 := lx.at x14
          have x15 := lx.at x15
          clear p16 p17 p18 m16 m17 m18 lx l15 nl15
          generalize upd (upd (upd J15 a16 (.tup [])) a17 (.tup [])) a18 (.tup [.ref a16, .ref a17]) = J18 at *
          refine ⟨_, rfl, s_tupK (.of (l18.at hfj)) fun a19 J19 m19 x19 p19 => ⟨_, rfl, s_tupK (.of ((l18.trans m19).at eDj)) fun a20 J20 m20 x20 p20 => ⟨by show 2 ≤ sizeLine; decide, fun a21 p21 => ⟨by show 3 ≤ sizeLine; decide, fun a22 p22 => ?_⟩⟩⟩⟩
          have m21 : Keep [] J20 (upd J20 a21 (.tup [.ref a19, .ref a20])) := Keep.new p21
          have m22 : Keep [] (upd J20 a21 (.tup [.ref a19, .ref a20])) (upd (upd J20 a21 (.tup [.ref a19, .ref a20])) a22 (.lst [.ref a15, .ref a18, .ref a21])) := Keep.new p22
          have x22 : (upd (upd J20 a21 (.tup [.ref a19, .ref a20])) a22 (.lst [.ref a15, .ref a18, .ref a21])) a22 = some (.lst [.ref a15, .ref a18, .ref a21]) := upd_same
          have x21 := m22.at (upd_same (a := a21))
          have x19 := ((m20.trans m21).trans m22).at x19
          have x20 := (m21.trans m22).at x20
          have nl18 := nj.keep0 l18
          have n19 := nl18.notin p19
          have n20 := (nl18.keep0 m19).notin p20
          have n21 := ((nl18.keep0 m19).keep0 m20).notin p21
          have lx := ((m19.trans m20).trans m21).trans m22
          have l22 := l18.trans lx
          have x1 := lx.at x1
          have x2 := lx.at x2
          have x3 := lx.at x3
          have x4 := lx.at x4
          have x5 := lx.at x5
          have x6 := lx.at x6
          have x7 := lx.at x7
          have x8 := lx.at x8
          have x9 := lx.at x9
          have x10 := lx.at x10
          have x11 := lx.at x11
          have x12 := lx.at x12
          have x13 := lx.at x13
          have x14 := lx.at x14
          have x15 := lx.at x15
          have x16 := lx.at x16
          have x17 := lx.at x17
          have x18 := lx.at x18
          clear p19 p20 p21 p22 m19 m20 m21 m22 lx l18 nl18
          generalize upd (upd J20 a21 (.tup [.ref a19, .ref a20])) a22 (.lst [.ref a15, .ref a18, .ref a21]) = J22 at *
          refine s_catK x12 x22 (by show 9 + 3 ≤ sizeLine; decide) fun a23 J23 m23 x23 p23 => ?_
          have l23 := l22.trans m23
          have B23 : Bag M.K J23 b c := Bj.keep l23 (fun z => nomatch z) (fun z => nomatch z)
          have n23 := (nj.keep0 l22).notin p23
          refine ⟨b, c, .ref a23, _, rfl, B23, by show 1 ≤ 12; decide, by show 12 ≤ 1000000; decide, .inl ⟨a23, rfl, fun q => n23 (by rw [q]; simp), x23⟩, fun Hz y2 my2 kz Bz => out2 Hz y2 (l23.of0.trans kz) Bz ?_⟩
          have kx : Keep [b] J22 Hz := m23.of0.trans kz
          have kHz : Keep [b] Hj Hz := l22.of0.trans kx
          have gz := gDj.keep kHz
          have eDz := kHz _ _ eDj nD
          have hfz := kHz _ _ hfj nf
          have x1 := kx _ _ x1 n1
          have x2 := kx _ _ x2 n2
          have x3 := kx _ _ x3 n3
          have x4 := kx _ _ x4 n4
          have x5 := kx _ _ x5 n5
          have x6 := kx _ _ x6 n6
          have x7 := kx _ _ x7 n7
          have x8 := kx _ _ x8 n8
          have x9 := kx _ _ x9 n9
          have x10 := kx _ _ x10 n10
          have x11 := kx _ _ x11 n11
          have x13 := kx _ _ x13 n13
          have x14 := kx _ _ x14 n14
          have x15 := kx _ _ x15 n15
          have x16 := kx _ _ x16 n16
          have x17 := kx _ _ x17 n17
          have x18 := kx _ _ x18 n18
          have x19 := kx _ _ x19 n19
          have x20 := kx _ _ x20 n20
          have x21 := kx _ _ x21 n21
          have bo : Dvs [b] Hz (fs.map PyData.bool) (fs.map V.bl) := Dvs.ofBools
          have lRow : (rs.map rowD).length = rs.length := List.length_map ..
          have fLRows : fits (.list (rs.map rowD)) = true := fits_of_lst (by omega) fT
          have fLFlags : fits (.list (fs.map PyData.bool)) = true := fits_of_lst (by rw [List.length_map]; omega) fits_map_bools
          have two : ∀ d1 d2 : PyData, fits d1 = true → fits d2 = true → fits (.tuple [d1, d2]) = true := fun d1 d2 h1 h2 => fits_of_tup (by show 2 ≤ 1000; decide) fun d m => by
            simp only [List.mem_cons, List.not_mem_nil, or_false] at m
            rcases m with rfl | rfl
            · exact h1
            · exact h2
          simp only [List.mem_append, List.mem_cons, List.not_mem_nil, or_false] at my2
          rcases my2 with (rfl | rfl | rfl | rfl | rfl | rfl | rfl | rfl | rfl) | rfl | rfl | rfl
          · exact .inl ⟨.none, rfl, rfl, rfl⟩
          · exact .inl ⟨.int 0, rfl, rfl, rfl⟩
          · exact .inl ⟨.str "table", rfl, by decide +kernel, rfl⟩
          · exact .inl ⟨.tuple [], ⟨a1, [], rfl, n1, x1, rfl⟩, rfl, rfl⟩
          · refine .inl ⟨.tuple [.tuple (rs.map rowD)], ⟨a3, _, rfl, n3, x3, .ref a2, [], rfl, ⟨a2, acc, rfl, n2, x2, gz⟩, rfl⟩, fits_of_tup (by show 1 ≤ 1000; decide) fun d m => ?_, rfl⟩
            rw [List.mem_singleton.mp m]; exact fRows
          · refine .inl ⟨.list [.tuple (rs.map rowD), .tuple (fs.map PyData.bool)], ⟨a6, _, rfl, n6, x6, .ref a4, _, rfl, ⟨a4, acc, rfl, n4, x4, gz⟩, .ref a5, _, rfl, ⟨a5, _, rfl, n5, x5, bo⟩, rfl⟩, fits_of_lst (by show 2 ≤ 1000; decide) fun d m => ?_, rfl⟩
            simp only [List.mem_cons, List.not_mem_nil, or_false] at m
            rcases m with rfl | rfl
            · exact fRows
            · exact fFlags
          · exact .inl ⟨.tuple [.list (rs.map rowD), .tuple (fs.map PyData.bool)], ⟨a8, _, rfl, n8, x8, .ref D, _, rfl, ⟨D, acc, rfl, nD, eDz, gz⟩, .ref a7, _, rfl, ⟨a7, _, rfl, n7, x7, bo⟩, rfl⟩, two _ _ fLRows fFlags, rfl⟩
          · exact .inl ⟨.tuple [.tuple (rs.map rowD), .list (fs.map PyData.bool)], ⟨a10, _, rfl, n10, x10, .ref a9, _, rfl, ⟨a9, acc, rfl, n9, x9, gz⟩, .ref af, _, rfl, ⟨af, _, rfl, nf, hfz, bo⟩, rfl⟩, two _ _ fRows fLFlags, rfl⟩
          · exact .inr ⟨a11, [], rfl, x11, n11⟩
          · refine .inl ⟨.tuple [.tuple (rs.map rowD), .tuple (fs.map PyData.bool), .int 0], ⟨a15, _, rfl, n15, x15, .ref a13, _, rfl, ⟨a13, acc, rfl, n13, x13, gz⟩, .ref a14, _, rfl, ⟨a14, _, rfl, n14, x14, bo⟩, .int 0, _, rfl, rfl, rfl⟩, fits_of_tup (by show 3 ≤ 1000; decide) fun d m => ?_, rfl⟩
            simp only [List.mem_cons, List.not_mem_nil, or_false] at m
            rcases m with rfl | rfl | rfl
            · exact fRows
            · exact fFlags
            · rfl
          · exact .inl ⟨.tuple [.tuple [], .tuple []], ⟨a18, _, rfl, n18, x18, .ref a16, _, rfl, ⟨a16, [], rfl, n16, x16, rfl⟩, .ref a17, _, rfl, ⟨a17, [], rfl, n17, x17, rfl⟩, rfl⟩, rfl, rfl⟩
          · refine .inl ⟨.tuple [.tuple (fs.map PyData.bool), .tuple (rs.map rowD)], ⟨a21, _, rfl, n21, x21, .ref a19, _, rfl, ⟨a19, _, rfl, n19, x19, bo⟩, .ref a20, _, rfl, ⟨a20, acc, rfl, n20, x20, gz⟩, rfl⟩, two _ _ fFlags fRows, ?_⟩
            rw [isTab_eq]
            have : (rs.map rowD).all isBool = false := by
              cases rs with
              | nil => simp at g1
              | cons r0 r1 => rfl
            rw [this, Bool.and_false, Bool.false_and]

set_option Elab.async false
set_option linter.all false
set_option maxRecDepth 100000
set_option maxHeartbeats 1000000
open PySem PySem.Spec PyProof.Rows L2 FR
theorem Keep.ext {H H' : Hp} (k : Keep [] H H') : LamX.ExtN H H' := fun b o h _ => k b o h (fun z => nomatch z)
theorem Keep.tabs {T : List (Addr × Str)} {H H' : Hp} (k : Keep [] H H') (t : LamX.Tabs T H) : LamX.Tabs T H' := t.ext fun b o h => k b o h (fun z => nomatch z)
theorem Tabs.keep {T : List (Addr × Str)} {S : List Addr} {H H' : Hp} (k : Keep S H H') (hS : ∀ s ∈ S, ∃ xs, H s = some (.lst xs)) (t : LamX.Tabs T H) : LamX.Tabs T H' := fun p hp => by
  obtain ⟨ps, h1, h2, h3⟩ := t p hp
  refine ⟨ps, k _ _ h1 fun m => ?_, h2, fun pos cv hc => ?_⟩
  · obtain ⟨xs, e⟩ := hS _ m
    rw [h1] at e; cases e
  · obtain ⟨c, e1, e2⟩ := h3 pos cv hc
    refine ⟨c, e1, k _ _ e2 fun m => ?_⟩
    obtain ⟨xs, e⟩ := hS _ m
    rw [e2] at e; cases e
theorem Bag.tabs {K : PySem.W.Frag} {T : List (Addr × Str)} {H H' : Hp} {b c : Addr} (B : Bag K H b c) (k : Keep [b] H H') (t : LamX.Tabs T H) : LamX.Tabs T H' :=
  Tabs.keep k (fun s hs => by rw [List.mem_singleton.mp hs]; exact B.lst) t
theorem Tabs.put {T : List (Addr × Str)} {H : Hp} {w : Addr} {xs ys : List V} (t : LamX.Tabs T H) (h : H w = some (.lst xs)) : LamX.Tabs T (upd H w (.lst ys)) :=
  Tabs.keep (S := [w]) (Keep.put List.mem_cons_self) (fun s m => by rw [List.mem_singleton.mp m]; exact ⟨_, h⟩) t
theorem extPut {H H1 H2 : Hp} {w : Addr} {o : HO} (e1 : LamX.ExtN H H1) (hw : H1 w = none) (e2 : LamX.ExtN H H2) : LamX.ExtN H (upd H2 w o) := fun b u h n => by
  rw [upd_ne (ne_of_none (e1 b u h n) hw)]
  exact e2 b u h n
theorem BadT.ext {S : List Addr} {H H' : Hp} {v : V} (h : BadT S H v) (e : LamX.ExtN H H') : BadT S H' v := by
  rcases h with ⟨d, h1, h2, h3⟩ | ⟨a, kvs, h1, h2, h3⟩
  · exact .inl ⟨d, h1.ext e, h2, h3⟩
  · exact .inr ⟨a, kvs, h1, e _ _ h2 (fun _ q => nomatch q), h3⟩
theorem BadT.sub {S : List Addr} {H : Hp} {v : V} (h : BadT S H v) : BadT [] H v := by
  rcases h with ⟨d, h1, h2, h3⟩ | ⟨a, kvs, h1, h2, h3⟩
  · exact .inl ⟨d, h1.sub (fun _ m => nomatch m), h2, h3⟩
  · exact .inr ⟨a, kvs, h1, h2, fun m => nomatch m⟩
theorem BadT.keep {S : List Addr} {H H' : Hp} {v : V} (h : BadT S H v) (k : Keep S H H') : BadT S H' v := by
  rcases h with ⟨d, h1, h2, h3⟩ | ⟨a, kvs, h1, h2, h3⟩
  · exact .inl ⟨d, h1.keep k, h2, h3⟩
  · exact .inr ⟨a, kvs, h1, k _ _ h2 h3, h3⟩
theorem signs_back : ∀ {acc : List V}, (∀ v ∈ acc, ∃ c : Nat, c ∈ cs "abcd" ∧ v = .str ⟨#[c]⟩) → ∃ zs : List Str, acc = zs.map V.str ∧ zs.length = acc.length ∧ (zs.map cs).flatten.length = acc.length ∧ (zs.map (·.length)).sum = acc.length ∧ ∀ c ∈ (zs.map cs).flatten, c ∈ cs "abcd"
  | [], _ => ⟨[], rfl, rfl, rfl, rfl, fun _ m => nomatch m⟩
  | v :: l, h => by
    obtain ⟨c, hc, rfl⟩ := h v List.mem_cons_self
    obtain ⟨zs, rfl, e1, e2, e3, e4⟩ := signs_back (acc := l) fun u m => h u (List.mem_cons_of_mem _ m)
    refine ⟨⟨#[c]⟩ :: zs, rfl, by rw [List.length_cons, List.length_cons, e1], ?_, ?_, fun d m => ?_⟩
    · show ([c] ++ (zs.map cs).flatten).length = _
      rw [List.length_append, e2, List.length_cons]
      simp; omega
    · show 1 + (zs.map (·.length)).sum = _
      rw [e3, List.length_cons]; omega
    · have m : d ∈ [c] ++ (zs.map cs).flatten := m
      rcases List.mem_append.mp m with m | m
      · rw [List.mem_singleton.mp m]; exact hc
      · exact e4 d m
theorem cs_app' (x y : Str) : cs (x ++ y) = cs x ++ cs y := Array.toList_append
theorem len_app' (x y : Str) : (x ++ y).length = x.length + y.length := by rw [len_cs, len_cs, len_cs, cs_app', List.length_append]
theorem small_log {i : Int} {n : Nat} (h0 : 0 ≤ i) (h1 : i < n) (hn : n ≤ 1000) : i.natAbs.log2 < 1920 := by
  by_cases h : i.natAbs = 0
  · rw [h]; decide
  · exact (Nat.log2_lt h).mpr (Nat.lt_of_lt_of_le (by omega : i.natAbs < 2 ^ 10) (Nat.pow_le_pow_right (by decide) (by decide)))
theorem not_txt {z : Str} {c : Nat} (h : c ∈ cs z) (n : ¬ c ∈ cs "abcd") : isTxt (.str z) = false := by
  show (decide ((z.length : Int) ≤ 300) && (cs z).all fun c => decide (c ∈ cs "abcd")) = false
  have : ((cs z).all fun c => decide (c ∈ cs "abcd")) = false := by
    refine Bool.eq_false_iff.mpr fun q => ?_
    exact n (of_decide_eq_true (List.all_eq_true.mp q c h))
  rw [this, Bool.and_false]
theorem p_law_is_read_right {M : Pm} (vs : List V) (H : Hp) (Q : VK) (E : XK) (h : sp_law_is_read_right M vs H Q E) : t_law_is_read_right M { nx := fun _ H' => Q .non H', rt := Q } (L2.start ["bag", "rows", "flags", "table", "text", "told", "due", "wrong", "odd", "words", "turn"] vs) H := by
  obtain ⟨b, c, r, f, rs, fs, rfl, B, hr, hf, g, tb, k⟩ := h
  have g1 := g.one
  have g2 := g.most
  have g3 := g.flags
  have nb : NN [b] H := fun s m => by rw [List.mem_singleton.mp m]; exact B.has
  walk_at "t_law_is_read_right"
  refine ⟨_, rfl, _, rfl, [b], r, f, rs, fs, rfl, nb, hr, hf, by omega, by omega, fun H1 p k1 ht => ⟨rfl, _, rfl, b, c, 12, rfl, B.keep k1 (fun z => nomatch z) (fun z => nomatch z), by decide, by decide, fun H2 d k2 B2 d0 d1 => ⟨_, rfl, by omega, by omega, fun D hD =>
    lc_rng (S := [b]) (fun H' => Bag M.K H' b c) (fun v => ∃ cc, cc ∈ cs "abcd" ∧ v = .str ⟨#[cc]⟩) hD (B2.notin hD) B2 (fun H2 o k2 B3 => B3.upd B2 hD) (by omega) (fun _ => rfl) (fun i H3 hi k3 B3 R q => ?_) fun H3 acc k3 B3 e hacc hl => ?_⟩⟩⟩
  · walk_at "rd"
    refine ⟨_, rfl, b, c, _, signsV "abcd", rfl, B3, by decide, by decide, .inr ⟨_, rfl, rfl⟩, fun H4 v m k4 B4 => q v H4 k4 B4 ?_⟩
    obtain ⟨cc, hc, rfl⟩ := List.mem_map.mp m
    exact ⟨cc, hc, rfl⟩
  · obtain ⟨zs, rfl, z1, z2, z3, z4⟩ := signs_back hacc
    have ez := cs_join0 zs
    have lz : (Txt.join "" zs).length = (zs.map V.str).length := by rw [len_cs, ez, z2]
    have sz : SignsOnly (Txt.join "" zs) := fun cc m => z4 cc (by rw [← ez]; exact m)
    refine s_join (.of e) (by rw [z3, show ("" : Str).length = 0 from rfl, Nat.mul_zero]; omega) ?_
    have lz' : (Txt.join "" zs).length ≤ 12 := by omega
    generalize Txt.join "" zs = z0 at *
    have k03 : Keep [b] H H3 := (k1.of0.trans k2).trans k3
    refine ⟨_, rfl, _, rfl, _, rfl, b, c, _, signsV "abcd", rfl, B3, by decide, by decide, .inr ⟨_, rfl, rfl⟩, fun H4 v mv k4 B4 => ⟨_, rfl, b, c, 289, rfl, B4, by decide, by decide, fun H5 d5 k5 B5 d50 d51 => ?_⟩⟩
    obtain ⟨cc, hcc, rfl⟩ := List.mem_map.mp mv
    obtain ⟨n5, rfl⟩ : ∃ n5 : Nat, d5 = n5 := ⟨d5.toNat, by omega⟩
    refine ⟨cc, n5, rfl, rfl, by omega, ?_⟩
    have lrep : (⟨(List.replicate n5 cc).toArray⟩ : Str).length = n5 := by
      rw [len_cs]
      show ((List.replicate n5 cc).toArray.toList).length = n5
      rw [List.toList_toArray, List.length_replicate]
    have z1s : SignsOnly (z0 ++ ⟨(List.replicate n5 cc).toArray⟩) := fun c' m => by
      rw [cs_app'] at m
      rcases List.mem_append.mp m with m | m
      · exact sz c' m
      · have m : c' ∈ (List.replicate n5 cc).toArray.toList := m
        rw [List.toList_toArray] at m
        rw [(List.mem_replicate.mp m).2]; exact hcc
    have z1l : (z0 ++ ⟨(List.replicate n5 cc).toArray⟩ : Str).length ≤ 300 := by rw [len_app', lrep]; omega
    refine ⟨_, _, rfl, rfl, sz_of (by rw [lrep]; omega : _ ≤ 1000), by show 3 ≤ sizeLine; decide, fun q hq => ?_⟩
    generalize (z0 ++ ⟨(List.replicate n5 cc).toArray⟩ : Str) = z1 at *
    have k35 : Keep [b] H H5 := (k03.trans k4).trans k5
    have k1_5 : Keep [b] H1 H5 := ((k2.trans k3).trans k4).trans k5
    have htq := (ht.keep k1_5).keep0 (Keep.new (o := .lst [.str z0, .str z1, .str ""]) hq)
    have hrq := (hr.keep k35).keep0 (Keep.new (o := .lst [.str z0, .str z1, .str ""]) hq)
    have hfq := (hf.keep k35).keep0 (Keep.new (o := .lst [.str z0, .str z1, .str ""]) hq)
    have Bq : Bag M.K (upd H5 q (.lst [.str z0, .str z1, .str ""])) b c := B5.new hq
    have eq : (upd H5 q (.lst [.str z0, .str z1, .str ""])) q = some (.lst [.str z0, .str z1, .str ""]) := upd_same
    have tbq : LamX.Tabs M.tabs (upd H5 q (.lst [.str z0, .str z1, .str ""])) := Keep.tabs (Keep.new hq) (B.tabs k35 tb)
    generalize upd H5 q (.lst [.str z0, .str z1, .str ""]) = Hq at *
    refine ⟨q, rfl, ⟨_, .of eq⟩, for_list (K := M.K) (a := q) (xs := [.str z0, .str z1, .str ""]) (fun i σ H' => ∃ v5 v6 : Option V, σ = [some (.ref b), some r, some f, some (.ref p), some (.str z0), v5, v6, none, none, none, none] ∧ Keep [] Hq H')
      ⟨none, none, rfl, Keep.refl⟩ (fun i σ H' _ ⟨_, _, _, kk⟩ => .of (kk.at eq)) ?_ ?_⟩
    · rintro i x σ H6 hi ⟨v5, v6, rfl, k6⟩
      obtain ⟨z, rfl, hs, hz⟩ : ∃ z, x = .str z ∧ SignsOnly z ∧ z.length ≤ 300 := by
        have m := List.mem_of_getElem? hi
        simp only [List.mem_cons, List.not_mem_nil, or_false] at m
        rcases m with rfl | rfl | rfl
        · exact ⟨_, rfl, sz, by omega⟩
        · exact ⟨_, rfl, z1s, z1l⟩
        · exact ⟨"", rfl, (fun _ m => nomatch m), by decide⟩
      obtain ⟨b0, b1⟩ := behind_in g (cs z) 0 (Int.le_refl 0) (by omega) hs
      have lg : (behind rs (cs z) 0).natAbs.log2 < 1920 := small_log b0 b1 (by omega)
      walk_at "t_law_is_read_right_2l"
      refine ⟨_, rfl, _, rfl, r, rs, fs, z, rfl, (hrq.keep0 k6).sub (fun _ m => nomatch m), g, hs, hz, fun H7 k7 => ?_⟩
      have k07 := k6.trans k7
      refine ⟨_, rfl, _, rfl, _, _, rfl, .inr ⟨rs, fs, (htq.keep0 k07).sub (fun _ m => nomatch m), g, .inr ⟨z, rfl, hs, hz, fun H8 k8 => ⟨_, rfl, lg, _, rfl, _, rfl, lg, rfl, _, rfl, ?_⟩⟩⟩⟩
      rw [decide_eq_true rfl]
      have k08 := k07.trans k8
      refine if0 rfl ⟨_, rfl, _, rfl, _, _, rfl, .inr ⟨rs, fs, (htq.keep0 k08).sub (fun _ m => nomatch m), g, .inr ⟨z, rfl, hs, hz, fun H9 k9 => ?_⟩⟩⟩
      have k09 := k08.trans k9
      obtain ⟨af, fv, rfl, _, hff, gf⟩ := hfq.keep0 k09
      rw [gf.bools] at hff
      have hl9 : (behind rs (cs z) 0).toNat < fs.length := by rw [g3]; omega
      have ef := List.getElem?_eq_getElem hl9
      rw [ef]
      refine ⟨_, rfl, _, rfl, _, rfl, s_ixL (.of hff) (atI_int b0 (by rw [List.getElem?_map, ef]; rfl)) ⟨_, rfl, rfl, _, rfl, ?_⟩⟩
      rw [Option.getD_some]
      generalize fs[(behind rs (cs z) 0).toNat] = bb
      cases bb <;> exact if0 (by decide +kernel) ⟨_, _, rfl, k09⟩
    · rintro σ H6 ⟨v5, v6, rfl, k6⟩
      walk_at "rd"
      have B6 := Bq.keep k6 (fun z => nomatch z) (fun z => nomatch z)
      refine ⟨_, rfl, _, rfl, _, rfl, b, c, r, f, rs, fs, rfl, B6, hrq.keep0 k6, hfq.keep0 k6, g, fun H7 v k7 B7 bad => ⟨_, rfl, 97, 301, rfl, rfl, by decide, by show 1 ≤ sizeLine; decide, fun a1 p1 => ⟨by show 6 ≤ sizeLine; decide, fun a2 p2 => ?_⟩⟩⟩
      have n1 := B7.notin p1
      have n2 := (B7.new p1).notin p2
      refine ⟨b, c, .ref a2, _, rfl, (B7.new p1).new p2, by show 1 ≤ 6; decide, by show 6 ≤ 1000000; decide, .inl ⟨a2, rfl, fun q => n2 (by rw [q]; simp), upd_same⟩, fun H8 u mu k8 B8 => ⟨by show 2 ≤ sizeLine; decide, fun a3 p3 => ⟨a3, _, rfl, .of upd_same, rfl, v, _, rfl, u, _, rfl, rfl, ?_⟩⟩⟩
      have e1 : H8 a1 = some (.tup [.str "a"]) := k8 _ _ (Keep.new (S := [b]) p2 _ _ upd_same n1) n1
      have k78 : Keep [b] H7 H8 := ((Keep.new p1).trans (Keep.new p2)).trans k8
      have kq8 : Keep [b] Hq H8 := (k6.of0.trans k7).trans k78
      have tb8 := Bq.tabs kq8 tbq
      have bad8 := bad.keep k78
      have ht8 := htq.keep kq8
      obtain ⟨du, hu, fu, bu⟩ : ∃ du, Dv [b] H8 du u ∧ fits du = true ∧ isTxt du = false := by
        simp only [List.mem_cons, List.not_mem_nil, or_false] at mu
        rcases mu with rfl | rfl | rfl | rfl | rfl | rfl
        · exact ⟨.none, rfl, rfl, rfl⟩
        · exact ⟨.str "e", rfl, by decide +kernel, not_txt (c := 101) (by decide) (by decide)⟩
        · refine ⟨.str ⟨(List.replicate 301 97).toArray⟩, rfl, by decide +kernel, ?_⟩
          show (decide (((⟨(List.replicate 301 97).toArray⟩ : Str).length : Int) ≤ 300) && (cs (⟨(List.replicate 301 97).toArray⟩ : Str)).all fun c => decide (c ∈ cs "abcd")) = false
          have : (⟨(List.replicate 301 97).toArray⟩ : Str).length = 301 := by
            rw [len_cs]
            show ((List.replicate 301 97).toArray.toList).length = 301
            rw [List.toList_toArray, List.length_replicate]
          rw [this, decide_eq_false (by decide), Bool.false_and]
        · exact ⟨.int 3, rfl, rfl, rfl⟩
        · exact ⟨.tuple [.str "a"], ⟨a1, _, rfl, n1, e1, _, _, rfl, rfl, rfl⟩, by decide +kernel, rfl⟩
        · exact ⟨.str "A", rfl, by decide +kernel, not_txt (c := 65) (by decide) (by decide)⟩
      have ka3 : Keep [] H8 (upd H8 a3 (.tup [v, u])) := Keep.new p3
      have tb9 := Keep.tabs ka3 tb8
      have bad9 := bad8.keep ka3.of0
      have ht9 := ht8.keep0 ka3
      have hu9 := hu.keep0 ka3
      have B9 : Bag M.K (upd H8 a3 (.tup [v, u])) b c := B8.new p3
      clear tb8 bad8 ht8 hu e1 k78 kq8 ka3
      generalize upd H8 a3 (.tup [v, u]) = H9 at *
      have one : SignsOnly "a" := fun c' m => by
        have m : c' ∈ [97] := m
        rw [List.mem_singleton.mp m]; decide
      dsimp only [LamX.tLam, TT_law_error]
      refine ⟨tb9, fun Ha ea ta => ⟨_, rfl, _, rfl, v, u, rfl, .inl ⟨(bad9.ext ea).sub, fun Hb kb => ⟨rfl, .inl ⟨rfl, fun Hc kc => ⟨by show 1 ≤ sizeLine; decide, fun w hw => ?_⟩⟩⟩⟩⟩⟩
      have kab := kb.trans kc
      have e9c : LamX.ExtN H9 Hc := ea.trans (Keep.ext kab)
      have e9d : LamX.ExtN H9 (upd Hc w (.lst [.str "table"])) := e9c.trans (Keep.ext (Keep.new hw))
      have wd : (upd Hc w (.lst [.str "table"])) w = some (.lst [.str "table"]) := upd_same
      have td := Keep.tabs (kab.trans (Keep.new (o := .lst [.str "table"]) hw)) ta
      generalize upd Hc w (.lst [.str "table"]) = Hd at *
      refine ⟨_, rfl, .inl ⟨rfl, _, .of wd⟩, td, fun He ee te => ⟨_, rfl, v, .str "a", rfl, .inl ⟨(bad9.ext (e9d.trans ee)).sub, fun Hf kf => ⟨rfl, .inl ⟨rfl, fun Hg kg => ?_⟩⟩⟩⟩⟩
      have kfg := kf.trans kg
      have wg := kfg.at (ee _ _ wd fun _ q => nomatch q)
      refine s_app wg (by show 1 < sizeLine; decide) ?_
      have e9g := extPut (o := .lst ([.str "table"] ++ [.str "table"])) e9c hw ((e9d.trans ee).trans (Keep.ext kfg))
      have wh : (upd Hg w (.lst ([.str "table"] ++ [.str "table"]))) w = some (.lst ([.str "table"] ++ [.str "table"])) := upd_same
      have th : LamX.Tabs M.tabs (upd Hg w (.lst ([.str "table"] ++ [.str "table"]))) := Tabs.put (Keep.tabs kfg te) wg
      generalize upd Hg w (.lst ([.str "table"] ++ [.str "table"])) = Hh at *
      refine ⟨_, rfl, .inl ⟨rfl, _, .of wh⟩, th, fun Hi ei ti => ⟨_, rfl, _, rfl, _, u, rfl, .inr ⟨rs, fs, (ht9.ext (e9g.trans ei)).sub (fun _ m => nomatch m), g, .inl ⟨du, (hu9.ext (e9g.trans ei)).sub (fun _ m => nomatch m), fu, bu, fun Hj kj => ⟨rfl, .inr ⟨rfl, fun Hk kk => ?_⟩⟩⟩⟩⟩⟩
      have kjk := kj.trans kk
      have wk := kjk.at (ei _ _ wh fun _ q => nomatch q)
      refine s_app wk (by show 2 < sizeLine; decide) ?_
      have e9k := extPut (o := .lst (([.str "table"] ++ [.str "table"]) ++ [.str "text"])) e9c hw ((e9g.trans ei).trans (Keep.ext kjk))
      have wl : (upd Hk w (.lst (([.str "table"] ++ [.str "table"]) ++ [.str "text"]))) w = some (.lst (([.str "table"] ++ [.str "table"]) ++ [.str "text"])) := upd_same
      have tl : LamX.Tabs M.tabs (upd Hk w (.lst (([.str "table"] ++ [.str "table"]) ++ [.str "text"]))) := Tabs.put (Keep.tabs kjk ti) wk
      generalize upd Hk w (.lst (([.str "table"] ++ [.str "table"]) ++ [.str "text"])) = Hl at *
      refine ⟨_, rfl, .inl ⟨rfl, _, .of wl⟩, tl, fun Hm em tm => ⟨_, rfl, _, rfl, _, u, rfl, .inr ⟨rs, fs, (ht9.ext (e9k.trans em)).sub (fun _ m => nomatch m), g, .inl ⟨du, (hu9.ext (e9k.trans em)).sub (fun _ m => nomatch m), fu, bu, fun Hn kn => ⟨rfl, .inr ⟨rfl, fun Ho ko => ?_⟩⟩⟩⟩⟩⟩
      have kno := kn.trans ko
      have wo := kno.at (em _ _ wl fun _ q => nomatch q)
      refine s_app wo (by show 3 < sizeLine; decide) ?_
      have e9o := extPut (o := .lst ((([.str "table"] ++ [.str "table"]) ++ [.str "text"]) ++ [.str "text"])) e9c hw ((e9k.trans em).trans (Keep.ext kno))
      have wp : (upd Ho w (.lst ((([.str "table"] ++ [.str "table"]) ++ [.str "text"]) ++ [.str "text"]))) w = some (.lst [.str "table", .str "table", .str "text", .str "text"]) := upd_same
      have tp : LamX.Tabs M.tabs (upd Ho w (.lst ((([.str "table"] ++ [.str "table"]) ++ [.str "text"]) ++ [.str "text"]))) := Tabs.put (Keep.tabs kno tm) wo
      generalize upd Ho w (.lst ((([.str "table"] ++ [.str "table"]) ++ [.str "text"]) ++ [.str "text"])) = Hp at *
      refine ⟨_, rfl, by show 4 ≤ sizeLine; decide, fun y hy => ?_⟩
      have ky : Keep [] Hp (upd Hp y (.lst [.str "table", .str "table", .str "text", .str "text"])) := Keep.new hy
      refine ⟨.list [.str "table", .str "table", .str "text", .str "text"], .list [.str "table", .str "table", .str "text", .str "text"], .lst (.of (ky.at wp)) (.cons (.str _) (.cons (.str _) (.cons (.str _) (.cons (.str _) .nil)))), .lst (.of upd_same) (.cons (.str _) (.cons (.str _) (.cons (.str _) (.cons (.str _) .nil)))), by decide +kernel, by decide +kernel, ?_⟩
      rw [show PyData.eqv (.list [.str "table", .str "table", .str "text", .str "text"]) (.list [.str "table", .str "table", .str "text", .str "text"]) = true from by decide +kernel]
      have e9y := e9o.trans (Keep.ext ky)
      have fin : ∀ Hr, Keep [] (upd Hp y (.lst [.str "table", .str "table", .str "text", .str "text"])) Hr → ∃ v_1, [some (V.ref b), some r, some f, some (V.ref p), some (V.str z0), v5, v6, some v, some u, some (V.ref w), none][3]? = some (some v_1) ∧ sp_is_table M ([v_1] ++ []) Hr (fun x H1 => rIsB x (.bl true) H1 Q) E0 := fun Hr kr => by
        refine ⟨_, rfl, .inl ⟨_, _, rfl, ((ht9.ext e9y).keep0 kr).sub (fun _ m => nomatch m), good_fits g, fun Hs ks => ⟨_, _, rfl, rfl, ?_⟩⟩⟩
        rw [good_tab g]
        exact k Hs ((B9.ext e9y).keep (kr.trans ks) (fun z => nomatch z) (fun z => nomatch z)) (Keep.tabs ((ky.trans kr).trans ks) tp)
      refine ⟨_, rfl, if1 rfl ⟨_, rfl, ?_⟩⟩
      rcases Dv.bad (bad9.ext e9y) with ⟨d', q1, q2, q3⟩ | ⟨a', kvs, rfl, q2⟩
      · refine .inl ⟨_, d', rfl, q1, q2, fun Hr kr => ⟨_, _, rfl, rfl, _, rfl, ?_⟩⟩
        rw [q3]
        exact if1 (by decide) (fin Hr kr)
      · exact .inr ⟨_, a', kvs, rfl, rfl, q2, fun Hr kr => ⟨_, _, rfl, rfl, _, rfl, if1 (by decide) (fin Hr kr)⟩⟩

set_option Elab.async false
set_option linter.all false
set_option maxRecDepth 100000
set_option maxHeartbeats 1000000
open PySem PySem.Spec PyProof.Rows L2 FR
def rowsF (n : Nat) (F : Nat → List Int) : List (List Int) := (List.range n).map F
theorem rowsF_at {n i : Nat} {F : Nat → List Int} (h : i < n) : (rowsF n F)[i]? = some (F i) := by
  unfold rowsF
  rw [List.getElem?_map, List.getElem?_range h]; rfl
theorem rowsF_len {n : Nat} {F : Nat → List Int} : (rowsF n F).length = n := by
  unfold rowsF; rw [List.length_map, List.length_range]
theorem rowsF_mem {n : Nat} {F : Nat → List Int} {r : List Int} (h : r ∈ rowsF n F) : ∃ i, i < n ∧ r = F i := by
  obtain ⟨i, hi, rfl⟩ := List.mem_map.mp h
  exact ⟨i, List.mem_range.mp hi, rfl⟩
theorem rows_lc {b : Addr} {n : Nat} {F : Nat → List Int} {j : Nat} {te : TE} {vs : List Nat} {σ : L2.St} {H : Hp} {D : Addr} {Qd : Hp → Prop} (hn : n ≤ 1000) (nb : NN [b] H) (hD : H D = none) (hw : ∀ x, wipe ((wipe σ vs).set j (some x)) vs = wipe σ vs)
    (he : ∀ (i : Nat) (H1 : Hp), i < n → ∀ R : VK, (∀ p, H1 p = none → R (.ref p) (upd H1 p (.tup ((F i).map V.int)))) → te ((wipe σ vs).set j (some (.int (0 + (i : Nat))))) H1 R)
    (q : ∀ H' acc, Keep [] H H' → NN [b] H' → H' D = some (.lst acc) → Dvs [b] H' ((rowsF n F).map rowD) acc → Qd H') :
    ∃ W : Nat → Nat → Hp → Prop, (∃ m, W 0 m (upd H D (.lst []))) ∧ ∀ i m H, W i m H →
      ((Itr 0 n).stop i H ∧ Qd H) ∨ ((Itr 0 n).go i H ∧ ∃ Nx : Hp → Prop, (∀ H', Nx H' → ∃ m', m' < m ∧ W (i + 1) m' H') ∧ ∀ x H', (Itr 0 n).yld i H x H' → gName j x (wipe σ vs) H' fun σ2 H2 => wipe σ2 vs = wipe σ vs ∧ tYes σ2 H2 fun b H3 =>
        if b = true then te σ2 H3 fun y H4 => ∃ acc, H4 D = some (.lst acc) ∧ acc.length < sizeLine ∧ Nx (upd H4 D (.lst (acc ++ [y]))) else Nx H3) := by
  refine lc_data walk_range (S := [b]) (fun H' => NN [b] H' ∧ Keep [] H H') ((rowsF n F).map rowD) (by rw [List.length_map, rowsF_len]) (by omega) hD (nb.notin hD) ⟨nb, Keep.refl⟩ (fun H2 o _ g => ⟨g.1.upd, g.2.own hD⟩) (fun _ _ _ => True.intro) hw
    (fun i H1 x H2 d hi hd _ g1 hDn y => ?_) (fun H' acc _ g e a => q H' acc g.2 g.1 e (Dvs.sub a fun _ m => List.mem_cons_of_mem _ m))
  obtain ⟨rfl, rfl⟩ := y
  refine ⟨rfl, fun R r => he i _ hi R fun p hp => ?_⟩
  rw [List.getElem?_map, rowsF_at hi] at hd
  cases (Option.some.inj hd : rowD (F i) = d)
  refine r (.ref p) _ (Keep.new hp) ⟨g1.1.upd, g1.2.own (g1.2.none hp)⟩ ⟨p, _, rfl, fun m => ?_, upd_same, Dvs.ofInts⟩
  rcases List.mem_cons.mp m with m | m
  · rw [m] at hp; exact hDn hp
  · exact g1.1.notin hp m
theorem rep_flat {v : V} : ∀ n : Nat, (List.replicate n [v]).flatten = List.replicate n v
  | 0 => rfl
  | n + 1 => by
    rw [List.replicate_succ, List.flatten_cons, rep_flat n, List.replicate_succ]
    rfl
theorem map_rep {α β : Type} {f : α → β} {a : α} : ∀ n : Nat, (List.replicate n a).map f = List.replicate n (f a) := fun n => List.map_replicate
/-- (flag,) * many -/
theorem s_flags {K : PySem.W.Frag} {H : Hp} {Q : VK} {l : Addr} {fl : Bool} {n : Nat} (h : H l = some (.tup [.bl fl])) (h2 : 2 ≤ n) (h3 : n ≤ 1000) (q : ∀ p H', Keep [] H H' → H' p = some (.tup ((List.replicate n fl).map V.bl)) → H p = none → Q (.ref p) H') : rRepT K (.ref l) (.int n) H Q :=
  ⟨l, n, [.bl fl], rfl, rfl, .of h, by simp, by omega, by omega, by show 1 ≤ 1000; decide, fun p hp => by
    rw [Int.toNat_natCast, rep_flat, ← map_rep (f := V.bl)]
    exact q p _ (Keep.new hp) upd_same hp⟩
/-- a table of new rows and flags -/
theorem tab_new {b t ar af : Addr} {H : Hp} {rs : List (List Int)} {fs : List Bool} {acc : List V} (nn : NN [b] H) (ht : H t = none) (ha : H ar = some (.tup acc)) (hf : H af = some (.tup (fs.map V.bl))) (na : ar ∉ [b]) (nf : af ∉ [b]) (d : Dvs [b] H (rs.map rowD) acc) : Dv [b] (upd H t (.tup [.ref ar, .ref af])) (tabD rs fs) (.ref t) := by
  have kt : Keep [] H (upd H t (.tup [.ref ar, .ref af])) := Keep.new ht
  exact ⟨t, _, rfl, nn.notin ht, upd_same, .ref ar, _, rfl, ⟨ar, acc, rfl, na, kt.at ha, d.keep0 kt⟩, .ref af, _, rfl, ⟨af, _, rfl, nf, kt.at hf, Dvs.ofBools⟩, rfl⟩
def F1 (step : Int) (m : Nat) (i : Nat) : List Int := [(0 + (i : Int) + step) % m, 0 + (i : Int), ((0 + (i : Int)) * 7) % m, 0]
theorem F1_good {step : Int} {m : Nat} {fs : List Bool} (h1 : 1 ≤ m) (h3 : m ≤ 300) (hf : fs.length = m) : Good (rowsF m (F1 step m)) fs := by
  refine ⟨by rw [rowsF_len]; exact h1, by rw [rowsF_len]; exact h3, by rw [rowsF_len]; exact hf, fun r hr => ?_, fun r hr i hi => ?_⟩
  · obtain ⟨j, _, rfl⟩ := rowsF_mem hr; rfl
  · obtain ⟨j, hj, rfl⟩ := rowsF_mem hr
    rw [rowsF_len]
    unfold F1 at hi
    simp only [List.mem_cons, List.not_mem_nil, or_false] at hi
    rcases hi with rfl | rfl | rfl | rfl
    · exact ⟨Int.emod_nonneg _ (by omega), Int.emod_lt_of_pos _ (by omega)⟩
    · omega
    · exact ⟨Int.emod_nonneg _ (by omega), Int.emod_lt_of_pos _ (by omega)⟩
    · omega
def F2 (i : Nat) : List Int := [if 299 < 0 + (i : Int) + 1 then 299 else 0 + (i : Int) + 1, 0, 0 + (i : Int), 299 - (0 + (i : Int))]
theorem F2_good {fs : List Bool} (hf : fs.length = 300) : Good (rowsF 300 F2) fs := by
  refine ⟨by rw [rowsF_len]; decide, by rw [rowsF_len]; decide, by rw [rowsF_len]; exact hf, fun r hr => ?_, fun r hr i hi => ?_⟩
  · obtain ⟨j, _, rfl⟩ := rowsF_mem hr; rfl
  · obtain ⟨j, hj, rfl⟩ := rowsF_mem hr
    rw [rowsF_len]
    unfold F2 at hi
    simp only [List.mem_cons, List.not_mem_nil, or_false] at hi
    rcases hi with rfl | rfl | rfl | rfl
    · split <;> omega
    · omega
    · omega
    · omega
theorem F2_step {here : Int} (h0 : 0 ≤ here) (h1 : here < 300) : step (rowsF 300 F2) here 97 = (if 299 < here + 1 then 299 else here + 1) ∧ step (rowsF 300 F2) here 100 = 299 - here := by
  have e : (rowsF 300 F2)[here.toNat]? = some (F2 here.toNat) := rowsF_at (by omega)
  have eh : (0 : Int) + (here.toNat : Int) = here := by omega
  unfold step
  rw [e]
  unfold F2
  rw [eh]
  exact ⟨rfl, rfl⟩
theorem F2_many : ∀ n : Nat, behind (rowsF 300 F2) (List.replicate n 97) 0 = (if (299 : Int) < n then 299 else (n : Int))
  | 0 => by rfl
  | n + 1 => by
    have ih := F2_many n
    rw [List.replicate_succ']
    unfold behind at ih ⊢
    rw [List.foldl_append, ih]
    show step (rowsF 300 F2) (if (299 : Int) < n then 299 else (n : Int)) 97 = _
    rw [(F2_step (by split <;> omega) (by split <;> omega)).1]
    push_cast
    split <;> (try split) <;> (try split) <;> omega
theorem fits_tabF {n : Nat} {F : Nat → List Int} {fs : List Bool} (h : n ≤ 1000) (h4 : ∀ i, (F i).length = 4) (hf : fs.length ≤ 1000) : fits (tabD (rowsF n F) fs) = true := by
  refine fits_of_tup (by show 2 ≤ 1000; decide) fun d m => ?_
  simp only [List.mem_cons, List.not_mem_nil, or_false] at m
  rcases m with rfl | rfl
  · exact fits_rows (by rw [rowsF_len]; exact h) fun r hr => by
      obtain ⟨i, _, rfl⟩ := rowsF_mem hr
      rw [h4 i]; decide
  · exact fits_flags hf
theorem signsOnly_of {z : Str} (h : ((cs z).all fun c => decide (c ∈ cs "abcd")) = true) : SignsOnly z := fun c m => of_decide_eq_true (List.all_eq_true.mp h c m)
theorem p_law_are_bounds_right {M : Pm} (vs : List V) (H : Hp) (Q : VK) (E : XK) (h : sp_law_are_bounds_right M vs H Q E) : t_law_are_bounds_right M { nx := fun _ H' => Q .non H', rt := Q } (L2.start ["bag", "step", "flag", "many", "is_let", "rows", "table", "at"] vs) H := by
  obtain ⟨b, c, rfl, B, tb, k⟩ := h
  walk_at "t_law_are_bounds_right"
  refine ⟨_, rfl, b, c, 299, rfl, B, by decide, by decide, fun H1 d1 k1 B1 d10 d11 => ⟨_, _, rfl, rfl, _, rfl, b, c, 2, rfl, B1, by decide, by decide, fun H2 d2 k2 B2 d20 d21 => ⟨rfl, by show 2 ≤ sizeLine; decide, fun a1 p1 => ⟨a1, _, rfl, .of upd_same, rfl, _, _, rfl, _, _, rfl, rfl, ?_⟩⟩⟩⟩
  generalize decide (V.int d2 = V.int 1) = fl
  have tb3 := Keep.tabs (Keep.new (o := .tup [.int (1 + d1), .bl fl]) p1) (B.tabs (k1.trans k2) tb)
  have B3 := B2.new (o := .tup [.int (1 + d1), .bl fl]) p1
  generalize upd H2 a1 (.tup [.int (1 + d1), .bl fl]) = H3 at *
  refine ⟨by show 2 ≤ sizeLine; decide, fun a2 p2 => ⟨by show 2 ≤ sizeLine; decide, fun a3 p3 => ⟨by show 2 ≤ sizeLine; decide, fun a4 p4 => ?_⟩⟩⟩
  have q2 : Keep [] H3 (upd H3 a2 (.tup [.int 300, .bl true])) := Keep.new p2
  have q3 : Keep [] (upd H3 a2 (.tup [.int 300, .bl true])) (upd (upd H3 a2 (.tup [.int 300, .bl true])) a3 (.tup [.int 301, .bl false])) := Keep.new p3
  have q4 : Keep [] (upd (upd H3 a2 (.tup [.int 300, .bl true])) a3 (.tup [.int 301, .bl false])) (upd (upd (upd H3 a2 (.tup [.int 300, .bl true])) a3 (.tup [.int 301, .bl false])) a4 (.lst [.ref a2, .ref a3])) := Keep.new p4
  have e2 : (upd (upd (upd H3 a2 (.tup [.int 300, .bl true])) a3 (.tup [.int 301, .bl false])) a4 (.lst [.ref a2, .ref a3])) a2 = some (.tup [.int 300, .bl true]) := (q3.trans q4).at upd_same
  have e3 : (upd (upd (upd H3 a2 (.tup [.int 300, .bl true])) a3 (.tup [.int 301, .bl false])) a4 (.lst [.ref a2, .ref a3])) a3 = some (.tup [.int 301, .bl false]) := q4.at upd_same
  have e4 : (upd (upd (upd H3 a2 (.tup [.int 300, .bl true])) a3 (.tup [.int 301, .bl false])) a4 (.lst [.ref a2, .ref a3])) a4 = some (.lst [.ref a2, .ref a3]) := upd_same
  have tb4 := Keep.tabs ((q2.trans q3).trans q4) tb3
  have B4 : Bag M.K (upd (upd (upd H3 a2 (.tup [.int 300, .bl true])) a3 (.tup [.int 301, .bl false])) a4 (.lst [.ref a2, .ref a3])) b c := ((B3.new p2).new p3).new p4
  clear q2 q3 q4
  generalize upd (upd (upd H3 a2 (.tup [.int 300, .bl true])) a3 (.tup [.int 301, .bl false])) a4 (.lst [.ref a2, .ref a3]) = H4 at *
  refine ⟨a4, rfl, ⟨_, .of e4⟩, for_list (K := M.K) (a := a4) (xs := [.ref a2, .ref a3]) (fun i σ H' => ∃ v3 v4 v5 v6 : Option V, σ = [some (.ref b), some (.int (1 + d1)), some (.bl fl), v3, v4, v5, v6, none] ∧ LamX.ExtN H4 H' ∧ LamX.Tabs M.tabs H')
    ⟨none, none, none, none, rfl, LamX.ExtN.refl _, tb4⟩ (fun i σ H' _ ⟨_, _, _, _, _, ee, _⟩ => .of (ee _ _ e4 fun _ q => nomatch q)) ?_ ?_⟩
  · rintro i x σ H5 hi ⟨v3, v4, v5, v6, rfl, ee, t5⟩
    obtain ⟨a, m, l, rfl, ea, hm⟩ : ∃ (a : Addr) (m : Nat) (l : Bool), x = .ref a ∧ H5 a = some (.tup [.int m, .bl l]) ∧ ((m = 300 ∧ l = true) ∨ (m = 301 ∧ l = false)) := by
      have mm := List.mem_of_getElem? hi
      simp only [List.mem_cons, List.not_mem_nil, or_false] at mm
      rcases mm with rfl | rfl
      · exact ⟨a2, 300, true, rfl, (ee _ _ e2 fun _ q => nomatch q), .inl ⟨rfl, rfl⟩⟩
      · exact ⟨a3, 301, false, rfl, (ee _ _ e3 fun _ q => nomatch q), .inr ⟨rfl, rfl⟩⟩
    have m0 : 2 ≤ m ∧ m ≤ 301 := by rcases hm with ⟨rfl, _⟩ | ⟨rfl, _⟩ <;> decide
    have B5 := B4.ext ee
    have n5 : NN [b] H5 := fun s mm => by rw [List.mem_singleton.mp mm]; exact B5.has
    refine ⟨a, _, rfl, .of ea, rfl, _, _, rfl, _, _, rfl, rfl, ?_⟩
    walk_at "t_law_are_bounds_right_1l"
    refine ⟨_, rfl, _, rfl, by omega, by omega, fun D hD => rows_lc (b := b) (n := m) (F := F1 (1 + d1) m) (by omega) n5 hD (fun _ => rfl) (fun i H6 hi R r => ?_) (fun H6 acc k6 n6 eD gD => ?_)⟩
    · walk_at "rd"
      exact ⟨_, rfl, _, rfl, _, _, rfl, rfl, .inl ⟨_, rfl, _, rfl, _, _, rfl, rfl, by omega, _, rfl, _, rfl, _, _, rfl, rfl, .inr ⟨by decide, by decide⟩, .inl ⟨_, rfl, _, rfl, _, _, rfl, rfl, by omega, by show 4 ≤ sizeLine; decide, fun p hp => r p hp⟩⟩⟩
    · refine s_tupK (.of eD) fun t H7 k7 e7 h7 => ⟨_, rfl, _, rfl, by show 1 ≤ sizeLine; decide, fun a5 p5 => ⟨_, rfl, s_flags (n := m) upd_same m0.1 (by omega) fun a6 H8 k8 e8 h8 => ⟨by show 2 ≤ sizeLine; decide, fun a7 p7 => ?_⟩⟩⟩
      have q5 : Keep [] H7 (upd H7 a5 (.tup [.bl fl])) := Keep.new p5
      have k78 := q5.trans k8
      have n7 := n6.keep0 k7
      have n75 := n7.keep0 q5
      have n8 := n7.keep0 k78
      have ht := tab_new (fs := List.replicate m fl) n8 p7 (k78.at e7) e8 (n6.notin h7) (n75.notin h8) ((gD.keep0 k7).keep0 k78)
      have k59 : Keep [] H5 (upd H8 a7 (.tup [.ref t, .ref a6])) := ((k6.trans k7).trans k78).trans (Keep.new p7)
      generalize upd H8 a7 (.tup [.ref t, .ref a6]) = H9 at *
      have ft : fits (tabD (rowsF m (F1 (1 + d1) m)) (List.replicate m fl)) = true := fits_tabF (by omega) (fun _ => rfl) (by rw [List.length_replicate]; omega)
      have hl : isTab (tabD (rowsF m (F1 (1 + d1) m)) (List.replicate m fl)) = l := by
        rcases hm with ⟨rfl, rfl⟩ | ⟨rfl, rfl⟩
        · exact good_tab (F1_good (by decide) (by decide) (List.length_replicate ..))
        · show isTab (.tuple [.tuple ((rowsF 301 (F1 (1 + d1) 301)).map rowD), .tuple ((List.replicate 301 fl).map .bool)]) = false
          rw [isTab_eq, List.length_map, rowsF_len, decide_eq_false (by decide : ¬ 301 ≤ 300), Bool.and_false, Bool.false_and, Bool.false_and, Bool.false_and]
      refine ⟨_, rfl, .inl ⟨_, _, rfl, ht.sub (fun _ m => nomatch m), ft, fun H10 k10 => ⟨_, rfl, _, rfl, _, rfl, rfl, _, rfl, ?_⟩⟩⟩
      rw [hl]
      have k5_10 := k59.trans k10
      have t10 := Keep.tabs k5_10 t5
      have ht10 := ht.keep0 k10
      have e410 : LamX.ExtN H4 H10 := ee.trans (Keep.ext k5_10)
      dsimp only [LamX.tLam, TT_law_error]
      rcases hm with ⟨rfl, rfl⟩ | ⟨rfl, rfl⟩
      · refine if0 (by decide +kernel) ⟨t10, fun Hx ex tx => ⟨_, rfl, _, _, rfl, .inr ⟨_, _, (ht10.ext ex).sub (fun _ m => nomatch m), F1_good (by decide) (by decide) (List.length_replicate ..), .inr ⟨"ab", rfl, signsOnly_of (by decide +kernel), by decide, fun Hy ky => ⟨_, rfl, _, rfl, _, rfl, if1 rfl ⟨rfl, _, rfl, if0 (by decide +kernel) ?_⟩⟩⟩⟩⟩⟩
        exact ⟨_, _, _, _, rfl, (e410.trans ex).trans (Keep.ext ky), Keep.tabs ky tx⟩
      · refine if0 (by decide +kernel) ⟨t10, fun Hx ex tx => ⟨_, rfl, _, _, rfl, .inl ⟨.inl ⟨_, (ht10.ext ex).sub (fun _ m => nomatch m), ft, hl⟩, fun Hy ky => ⟨rfl, .inl ⟨rfl, fun Hz kz => ⟨_, rfl, _, rfl, if0 rfl ⟨rfl, _, rfl, if0 (by decide +kernel) ?_⟩⟩⟩⟩⟩⟩⟩
        exact ⟨_, _, _, _, rfl, (e410.trans ex).trans (Keep.ext (ky.trans kz)), Keep.tabs (ky.trans kz) tx⟩
  · rintro σ H5 ⟨v3, v4, v5, v6, rfl, ee, t5⟩
    walk_at "rd"
    have B5 := B4.ext ee
    have n5 : NN [b] H5 := fun s mm => by rw [List.mem_singleton.mp mm]; exact B5.has
    refine ⟨_, rfl, by decide, by decide, fun D hD => rows_lc (b := b) (n := 300) (F := F2) (by decide) n5 hD (fun _ => rfl) (fun i H6 hi R r => ?_) (fun H6 acc k6 n6 eD gD => ?_)⟩
    · walk_at "rd"
      exact ⟨_, rfl, _, _, rfl, rfl, _, _, rfl, _, rfl, _, rfl, _, _, rfl, rfl, by show 4 ≤ sizeLine; decide, fun p hp => r p hp⟩
    · refine s_tupK (.of eD) fun t H7 k7 e7 h7 => ⟨_, rfl, b, c, 301, rfl, B5.keep (k6.trans k7) (fun z => nomatch z) (fun z => nomatch z), by decide, by decide, fun H8 n k8 B8 n0 n1 => ⟨_, rfl, by show 1 ≤ sizeLine; decide, fun a5 p5 => s_flags (n := 300) upd_same (by decide) (by decide) fun a6 H9 k9 e9 h9 => ⟨by show 2 ≤ sizeLine; decide, fun a7 p7 => ?_⟩⟩⟩
      obtain ⟨n, rfl⟩ : ∃ nn : Nat, n = nn := ⟨n.toNat, by omega⟩
      have nt := n6.notin h7
      have n8 : NN [b] H8 := fun s mm => by rw [List.mem_singleton.mp mm]; exact B8.has
      have q5 : Keep [] H8 (upd H8 a5 (.tup [.bl true])) := Keep.new p5
      have k89 := q5.trans k9
      have n9 := n8.keep0 k89
      have e8t := k8 _ _ e7 nt
      have g8 := (gD.keep0 k7).keep k8
      have ht := tab_new (fs := List.replicate 300 true) n9 p7 (k89.at e8t) e9 nt ((n8.keep0 q5).notin h9) (g8.keep0 k89)
      have kA : Keep [] H8 (upd H9 a7 (.tup [.ref t, .ref a6])) := k89.trans (Keep.new p7)
      generalize upd H9 a7 (.tup [.ref t, .ref a6]) = HA at *
      have gA : Good (rowsF 300 F2) (List.replicate 300 true) := F2_good (List.length_replicate ..)
      have sA : SignsOnly (⟨(List.replicate n 97).toArray⟩ : Str) := fun c' m => by
        have m : c' ∈ (List.replicate n 97).toArray.toList := m
        rw [List.toList_toArray] at m
        rw [(List.mem_replicate.mp m).2]; decide
      have lA : (⟨(List.replicate n 97).toArray⟩ : Str).length ≤ 300 := by
        rw [len_cs]
        show ((List.replicate n 97).toArray.toList).length ≤ 300
        rw [List.toList_toArray, List.length_replicate]; omega
      refine ⟨_, rfl, 97, n, rfl, rfl, by omega, _, _, rfl, .inr ⟨_, _, ht.sub (fun _ m => nomatch m), gA, .inr ⟨_, rfl, sA, lA, fun HB kB => ⟨_, rfl, _, _, rfl, rfl, _, rfl, ?_⟩⟩⟩⟩
      have eb : behind (rowsF 300 F2) (cs (⟨(List.replicate n 97).toArray⟩ : Str)) 0 = (if (299 : Int) < n then 299 else (n : Int)) := by
        show behind (rowsF 300 F2) ((List.replicate n 97).toArray.toList) 0 = _
        rw [List.toList_toArray]
        exact F2_many n
      rw [eb]
      have k8B := kA.trans kB
      refine if1 (decide_eq_true rfl) ⟨_, rfl, _, rfl, by show 1 ≤ sizeLine; decide, fun a8 p8 => s_flags (n := 300) upd_same (by decide) (by decide) fun a9 HC kC eC hC => ⟨by show 2 ≤ sizeLine; decide, fun a10 p10 => ?_⟩⟩
      have nB := n8.keep0 k8B
      have q8 : Keep [] HB (upd HB a8 (.tup [.bl fl])) := Keep.new p8
      have kBC := q8.trans kC
      have ht2 := tab_new (fs := List.replicate 300 fl) (nB.keep0 kBC) p10 ((k8B.trans kBC).at e8t) eC nt ((nB.keep0 q8).notin hC) (g8.keep0 (k8B.trans kBC))
      refine ⟨_, _, rfl, .inr ⟨_, _, ht2.sub (fun _ m => nomatch m), F2_good (List.length_replicate ..), .inr ⟨"d", rfl, signsOnly_of (by decide +kernel), by decide, fun HD kD => ⟨rfl, ?_⟩⟩⟩⟩
      have ed : behind (rowsF 300 F2) (cs "d") 0 = 299 := by
        show step (rowsF 300 F2) 0 100 = 299
        rw [(F2_step (Int.le_refl 0) (by decide)).2]; rfl
      rw [ed]
      exact k _

set_option Elab.async false
set_option linter.all false
set_option maxRecDepth 100000
set_option maxHeartbeats 1000000
open PySem PySem.Spec PyProof.Rows L2 FR
theorem p_law {M : Pm} (vs : List V) (H : Hp) (Q : VK) (E : XK) (h : sp_law M vs H Q E) : t_law M { nx := fun _ H' => Q .non H', rt := Q } (L2.start ["script", "bag", "known", "lap", "rows", "flags"] vs) H := by
  obtain ⟨a, ns, rfl, ha, hn, tb, k⟩ := h
  walk_at "t_law"
  refine ⟨_, rfl, a, ns, rfl, ha, hn, fun H1 b c hb k1 B1 => ⟨by show 4 ≤ sizeLine; decide, fun p1 q1 => ⟨by show 4 ≤ sizeLine; decide, fun p2 q2 => ⟨by show 2 ≤ sizeLine; decide, fun p3 q3 => ⟨by show 2 ≤ sizeLine; decide, fun p4 q4 => ⟨by show 2 ≤ sizeLine; decide, fun p5 q5 => ?_⟩⟩⟩⟩⟩⟩
  have m1 : Keep [] H1 (upd H1 p1 (.tup [.int 0, .int 1, .int 0, .int 0])) := Keep.new q1
  have m2 : Keep [] (upd H1 p1 (.tup [.int 0, .int 1, .int 0, .int 0])) (upd (upd H1 p1 (.tup [.int 0, .int 1, .int 0, .int 0])) p2 (.tup [.int 1, .int 1, .int 1, .int 0])) := Keep.new q2
  have m3 : Keep [] (upd (upd H1 p1 (.tup [.int 0, .int 1, .int 0, .int 0])) p2 (.tup [.int 1, .int 1, .int 1, .int 0])) (upd (upd (upd H1 p1 (.tup [.int 0, .int 1, .int 0, .int 0])) p2 (.tup [.int 1, .int 1, .int 1, .int 0])) p3 (.tup [.ref p1, .ref p2])) := Keep.new q3
  have m4 : Keep [] (upd (upd (upd H1 p1 (.tup [.int 0, .int 1, .int 0, .int 0])) p2 (.tup [.int 1, .int 1, .int 1, .int 0])) p3 (.tup [.ref p1, .ref p2])) (upd (upd (upd (upd H1 p1 (.tup [.int 0, .int 1, .int 0, .int 0])) p2 (.tup [.int 1, .int 1, .int 1, .int 0])) p3 (.tup [.ref p1, .ref p2])) p4 (.tup [.bl false, .bl true])) := Keep.new q4
  have m5 : Keep [] (upd (upd (upd (upd H1 p1 (.tup [.int 0, .int 1, .int 0, .int 0])) p2 (.tup [.int 1, .int 1, .int 1, .int 0])) p3 (.tup [.ref p1, .ref p2])) p4 (.tup [.bl false, .bl true])) (upd (upd (upd (upd (upd H1 p1 (.tup [.int 0, .int 1, .int 0, .int 0])) p2 (.tup [.int 1, .int 1, .int 1, .int 0])) p3 (.tup [.ref p1, .ref p2])) p4 (.tup [.bl false, .bl true])) p5 (.tup [.ref p3, .ref p4])) := Keep.new q5
  have e1 := (((m2.trans m3).trans m4).trans m5).at (upd_same (H := H1) (a := p1))
  have e2 := ((m3.trans m4).trans m5).at (upd_same (a := p2))
  have e3 := (m4.trans m5).at (upd_same (a := p3))
  have e4 := m5.at (upd_same (a := p4))
  have e5 : (upd (upd (upd (upd (upd H1 p1 (.tup [.int 0, .int 1, .int 0, .int 0])) p2 (.tup [.int 1, .int 1, .int 1, .int 0])) p3 (.tup [.ref p1, .ref p2])) p4 (.tup [.bl false, .bl true])) p5 (.tup [.ref p3, .ref p4])) p5 = some (.tup [.ref p3, .ref p4]) := upd_same
  have k15 := (((m1.trans m2).trans m3).trans m4).trans m5
  clear m1 m2 m3 m4 m5 q1 q2 q3 q4 q5
  generalize upd (upd (upd (upd (upd H1 p1 (.tup [.int 0, .int 1, .int 0, .int 0])) p2 (.tup [.int 1, .int 1, .int 1, .int 0])) p3 (.tup [.ref p1, .ref p2])) p4 (.tup [.bl false, .bl true])) p5 (.tup [.ref p3, .ref p4]) = H5 at *
  have nil : ∀ x : Addr, x ∉ ([] : List Addr) := fun _ m => nomatch m
  have hk : Dv [] H5 (tabD [[0, 1, 0, 0], [1, 1, 1, 0]] [false, true]) (.ref p5) := by
    refine ⟨p5, _, rfl, nil _, e5, .ref p3, _, rfl, ⟨p3, _, rfl, nil _, e3, .ref p1, _, rfl, ⟨p1, _, rfl, nil _, e1, ?_⟩, .ref p2, _, rfl, ⟨p2, _, rfl, nil _, e2, ?_⟩, rfl⟩, .ref p4, _, rfl, ⟨p4, _, rfl, nil _, e4, ?_⟩, rfl⟩
    · exact Dvs.ofInts (bs := [0, 1, 0, 0])
    · exact Dvs.ofInts (bs := [1, 1, 1, 0])
    · exact Dvs.ofBools (bs := [false, true])
  have gk : Good [[0, 1, 0, 0], [1, 1, 1, 0]] [false, true] := by
    refine ⟨by decide, by decide, rfl, fun r hr => ?_, fun r hr i hi => ?_⟩
    · simp only [List.mem_cons, List.not_mem_nil, or_false] at hr
      rcases hr with rfl | rfl <;> rfl
    · simp only [List.mem_cons, List.not_mem_nil, or_false] at hr
      rcases hr with rfl | rfl <;> (simp only [List.mem_cons, List.not_mem_nil, or_false] at hi; rcases hi with rfl | rfl | rfl | rfl <;> decide)
  have b1 : ([false, true][(behind [[0, 1, 0, 0], [1, 1, 1, 0]] (cs "ab") 0).toNat]?).getD false = true := by decide +kernel
  have b2 : behind [[0, 1, 0, 0], [1, 1, 1, 0]] (cs "abd") 0 = 0 := by decide +kernel
  refine ⟨_, rfl, _, _, rfl, .inr ⟨_, _, hk, gk, .inr ⟨"ab", rfl, signsOnly_of (by decide +kernel), by decide, fun H6 k6 => ⟨_, _, rfl, rfl, _, rfl, ?_⟩⟩⟩⟩
  rw [b1]
  refine if0 rfl ⟨_, rfl, _, _, rfl, .inr ⟨_, _, hk.keep0 k6, gk, .inr ⟨"abd", rfl, signsOnly_of (by decide +kernel), by decide, fun H7 k7 => ⟨rfl, _, rfl, ?_⟩⟩⟩⟩
  rw [b2]
  refine if0 (by decide) ⟨_, rfl, .inl ⟨_, _, rfl, hk.keep0 (k6.trans k7), good_fits gk, fun H8 k8 => ⟨_, _, rfl, rfl, _, rfl, ?_⟩⟩⟩
  rw [good_tab gk]
  have k08 : Keep [] H1 H8 := ((k15.trans k6).trans k7).trans k8
  have B8 : Bag M.K H8 b c := B1.keep k08 (fun z => nomatch z) (fun z => nomatch z)
  have t8 := Keep.tabs (k1.trans k08) tb
  refine if0 rfl ⟨_, rfl, by decide, by decide, for_range (lo := 0) (n := 4) (fun i σ H' => ∃ v3 v4 v5 : Option V, σ = [some (.ref a), some (.ref b), some (.ref p5), v3, v4, v5] ∧ Bag M.K H' b c ∧ LamX.Tabs M.tabs H') ⟨none, none, none, rfl, B8, t8⟩ ?_ ?_⟩
  · rintro i σ H9 hi ⟨v3, v4, v5, rfl, B9, t9⟩
    walk_at "t_law_3l"
    refine ⟨_, rfl, b, c, 20, rfl, B9, by decide, by decide, fun Ha p rs fs ka Ba hp g _ => ?_⟩
    obtain ⟨a', _, hv, na, ea, u, w1, rfl, hr, u2, w2, rfl, hf, rfl⟩ := hp
    cases hv
    refine ⟨_, _, rfl, .of ea, rfl, u, _, rfl, u2, _, rfl, rfl, _, rfl, _, rfl, _, rfl, b, c, u, u2, rs, fs, rfl, Ba, hr, hf, g, B9.tabs ka t9, fun Hb Bb tb' => ⟨_, rfl, if0 rfl ?_⟩⟩
    exact ⟨_, _, _, rfl, Bb, tb'⟩
  · rintro σ H9 ⟨v3, v4, v5, rfl, B9, t9⟩
    walk_at "rd"
    exact ⟨_, rfl, b, c, rfl, B9, t9, fun H' => k H'⟩

set_option Elab.async false
set_option linter.all false
set_option maxRecDepth 100000
set_option maxHeartbeats 4000000
open PySem PySem.Spec PyProof.Rows L2 FR
section
theorem len_is_integer (M : Pm) : ∀ vs H Q E, sp_is_integer M vs H Q E → vs.length = (["thing"] : List Str).length := fun vs H Q E h => by
  have h : sp_is_integer M vs H Q E := h
  unfold sp_is_integer at h
  first | (rcases h with ⟨_, rfl, _⟩; rfl; done) | (rcases h with ⟨_, _, rfl, _⟩; rfl; done) | (rcases h with ⟨_, _, _, rfl, _⟩; rfl; done) | (rcases h with ⟨_, _, _, _, rfl, _⟩; rfl; done) | (rcases h with ⟨_, _, _, _, _, rfl, _⟩; rfl; done) | (rcases h with ⟨_, _, _, _, _, _, rfl, _⟩; rfl; done) | (rcases h with ⟨_, _, _, _, _, _, _, rfl, _⟩; rfl; done) | (rcases h with ⟨_, _, _, _, _, _, _, _, rfl, _⟩; rfl; done) | (rcases h with ⟨_, rfl, _⟩ | ⟨_, rfl, _⟩ <;> rfl; done) | (rcases h with ⟨_, rfl, _⟩ | ⟨_, _, rfl, _⟩ <;> rfl; done) | (rcases h with ⟨_, rfl, _⟩ | ⟨_, _, _, rfl, _⟩ <;> rfl; done) | (rcases h with ⟨_, rfl, _⟩ | ⟨_, _, _, _, rfl, _⟩ <;> rfl; done) | (rcases h with ⟨_, _, rfl, _⟩ | ⟨_, rfl, _⟩ <;> rfl; done) | (rcases h with ⟨_, _, rfl, _⟩ | ⟨_, _, rfl, _⟩ <;> rfl; done) | (rcases h with ⟨_, _, rfl, _⟩ | ⟨_, _, _, rfl, _⟩ <;> rfl; done) | (rcases h with ⟨_, _, rfl, _⟩ | ⟨_, _, _, _, rfl, _⟩ <;> rfl; done) | (rcases h with ⟨_, _, _, rfl, _⟩ | ⟨_, rfl, _⟩ <;> rfl; done) | (rcases h with ⟨_, _, _, rfl, _⟩ | ⟨_, _, rfl, _⟩ <;> rfl; done) | (rcases h with ⟨_, _, _, rfl, _⟩ | ⟨_, _, _, rfl, _⟩ <;> rfl; done) | (rcases h with ⟨_, _, _, rfl, _⟩ | ⟨_, _, _, _, rfl, _⟩ <;> rfl; done) | (rcases h with ⟨_, _, _, _, rfl, _⟩ | ⟨_, rfl, _⟩ <;> rfl; done) | (rcases h with ⟨_, _, _, _, rfl, _⟩ | ⟨_, _, rfl, _⟩ <;> rfl; done) | (rcases h with ⟨_, _, _, _, rfl, _⟩ | ⟨_, _, _, rfl, _⟩ <;> rfl; done) | (rcases h with ⟨_, _, _, _, rfl, _⟩ | ⟨_, _, _, _, rfl, _⟩ <;> rfl; done)
theorem len_is_within (M : Pm) : ∀ vs H Q E, sp_is_within M vs H Q E → vs.length = (["thing", "low", "high"] : List Str).length := fun vs H Q E h => by
  have h : sp_is_within M vs H Q E := h
  unfold sp_is_within at h
  first | (rcases h with ⟨_, rfl, _⟩; rfl; done) | (rcases h with ⟨_, _, rfl, _⟩; rfl; done) | (rcases h with ⟨_, _, _, rfl, _⟩; rfl; done) | (rcases h with ⟨_, _, _, _, rfl, _⟩; rfl; done) | (rcases h with ⟨_, _, _, _, _, rfl, _⟩; rfl; done) | (rcases h with ⟨_, _, _, _, _, _, rfl, _⟩; rfl; done) | (rcases h with ⟨_, _, _, _, _, _, _, rfl, _⟩; rfl; done) | (rcases h with ⟨_, _, _, _, _, _, _, _, rfl, _⟩; rfl; done) | (rcases h with ⟨_, rfl, _⟩ | ⟨_, rfl, _⟩ <;> rfl; done) | (rcases h with ⟨_, rfl, _⟩ | ⟨_, _, rfl, _⟩ <;> rfl; done) | (rcases h with ⟨_, rfl, _⟩ | ⟨_, _, _, rfl, _⟩ <;> rfl; done) | (rcases h with ⟨_, rfl, _⟩ | ⟨_, _, _, _, rfl, _⟩ <;> rfl; done) | (rcases h with ⟨_, _, rfl, _⟩ | ⟨_, rfl, _⟩ <;> rfl; done) | (rcases h with ⟨_, _, rfl, _⟩ | ⟨_, _, rfl, _⟩ <;> rfl; done) | (rcases h with ⟨_, _, rfl, _⟩ | ⟨_, _, _, rfl, _⟩ <;> rfl; done) | (rcases h with ⟨_, _, rfl, _⟩ | ⟨_, _, _, _, rfl, _⟩ <;> rfl; done) | (rcases h with ⟨_, _, _, rfl, _⟩ | ⟨_, rfl, _⟩ <;> rfl; done) | (rcases h with ⟨_, _, _, rfl, _⟩ | ⟨_, _, rfl, _⟩ <;> rfl; done) | (rcases h with ⟨_, _, _, rfl, _⟩ | ⟨_, _, _, rfl, _⟩ <;> rfl; done) | (rcases h with ⟨_, _, _, rfl, _⟩ | ⟨_, _, _, _, rfl, _⟩ <;> rfl; done) | (rcases h with ⟨_, _, _, _, rfl, _⟩ | ⟨_, rfl, _⟩ <;> rfl; done) | (rcases h with ⟨_, _, _, _, rfl, _⟩ | ⟨_, _, rfl, _⟩ <;> rfl; done) | (rcases h with ⟨_, _, _, _, rfl, _⟩ | ⟨_, _, _, rfl, _⟩ <;> rfl; done) | (rcases h with ⟨_, _, _, _, rfl, _⟩ | ⟨_, _, _, _, rfl, _⟩ <;> rfl; done)
theorem len_are_signs (M : Pm) : ∀ vs H Q E, sp_are_signs M vs H Q E → vs.length = (["thing", "most"] : List Str).length := fun vs H Q E h => by
  have h : sp_are_signs M vs H Q E := h
  unfold sp_are_signs at h
  first | (rcases h with ⟨_, rfl, _⟩; rfl; done) | (rcases h with ⟨_, _, rfl, _⟩; rfl; done) | (rcases h with ⟨_, _, _, rfl, _⟩; rfl; done) | (rcases h with ⟨_, _, _, _, rfl, _⟩; rfl; done) | (rcases h with ⟨_, _, _, _, _, rfl, _⟩; rfl; done) | (rcases h with ⟨_, _, _, _, _, _, rfl, _⟩; rfl; done) | (rcases h with ⟨_, _, _, _, _, _, _, rfl, _⟩; rfl; done) | (rcases h with ⟨_, _, _, _, _, _, _, _, rfl, _⟩; rfl; done) | (rcases h with ⟨_, rfl, _⟩ | ⟨_, rfl, _⟩ <;> rfl; done) | (rcases h with ⟨_, rfl, _⟩ | ⟨_, _, rfl, _⟩ <;> rfl; done) | (rcases h with ⟨_, rfl, _⟩ | ⟨_, _, _, rfl, _⟩ <;> rfl; done) | (rcases h with ⟨_, rfl, _⟩ | ⟨_, _, _, _, rfl, _⟩ <;> rfl; done) | (rcases h with ⟨_, _, rfl, _⟩ | ⟨_, rfl, _⟩ <;> rfl; done) | (rcases h with ⟨_, _, rfl, _⟩ | ⟨_, _, rfl, _⟩ <;> rfl; done) | (rcases h with ⟨_, _, rfl, _⟩ | ⟨_, _, _, rfl, _⟩ <;> rfl; done) | (rcases h with ⟨_, _, rfl, _⟩ | ⟨_, _, _, _, rfl, _⟩ <;> rfl; done) | (rcases h with ⟨_, _, _, rfl, _⟩ | ⟨_, rfl, _⟩ <;> rfl; done) | (rcases h with ⟨_, _, _, rfl, _⟩ | ⟨_, _, rfl, _⟩ <;> rfl; done) | (rcases h with ⟨_, _, _, rfl, _⟩ | ⟨_, _, _, rfl, _⟩ <;> rfl; done) | (rcases h with ⟨_, _, _, rfl, _⟩ | ⟨_, _, _, _, rfl, _⟩ <;> rfl; done) | (rcases h with ⟨_, _, _, _, rfl, _⟩ | ⟨_, rfl, _⟩ <;> rfl; done) | (rcases h with ⟨_, _, _, _, rfl, _⟩ | ⟨_, _, rfl, _⟩ <;> rfl; done) | (rcases h with ⟨_, _, _, _, rfl, _⟩ | ⟨_, _, _, rfl, _⟩ <;> rfl; done) | (rcases h with ⟨_, _, _, _, rfl, _⟩ | ⟨_, _, _, _, rfl, _⟩ <;> rfl; done)
theorem len_is_text (M : Pm) : ∀ vs H Q E, sp_is_text M vs H Q E → vs.length = (["thing"] : List Str).length := fun vs H Q E h => by
  have h : sp_is_text M vs H Q E := h
  unfold sp_is_text at h
  first | (rcases h with ⟨_, rfl, _⟩; rfl; done) | (rcases h with ⟨_, _, rfl, _⟩; rfl; done) | (rcases h with ⟨_, _, _, rfl, _⟩; rfl; done) | (rcases h with ⟨_, _, _, _, rfl, _⟩; rfl; done) | (rcases h with ⟨_, _, _, _, _, rfl, _⟩; rfl; done) | (rcases h with ⟨_, _, _, _, _, _, rfl, _⟩; rfl; done) | (rcases h with ⟨_, _, _, _, _, _, _, rfl, _⟩; rfl; done) | (rcases h with ⟨_, _, _, _, _, _, _, _, rfl, _⟩; rfl; done) | (rcases h with ⟨_, rfl, _⟩ | ⟨_, rfl, _⟩ <;> rfl; done) | (rcases h with ⟨_, rfl, _⟩ | ⟨_, _, rfl, _⟩ <;> rfl; done) | (rcases h with ⟨_, rfl, _⟩ | ⟨_, _, _, rfl, _⟩ <;> rfl; done) | (rcases h with ⟨_, rfl, _⟩ | ⟨_, _, _, _, rfl, _⟩ <;> rfl; done) | (rcases h with ⟨_, _, rfl, _⟩ | ⟨_, rfl, _⟩ <;> rfl; done) | (rcases h with ⟨_, _, rfl, _⟩ | ⟨_, _, rfl, _⟩ <;> rfl; done) | (rcases h with ⟨_, _, rfl, _⟩ | ⟨_, _, _, rfl, _⟩ <;> rfl; done) | (rcases h with ⟨_, _, rfl, _⟩ | ⟨_, _, _, _, rfl, _⟩ <;> rfl; done) | (rcases h with ⟨_, _, _, rfl, _⟩ | ⟨_, rfl, _⟩ <;> rfl; done) | (rcases h with ⟨_, _, _, rfl, _⟩ | ⟨_, _, rfl, _⟩ <;> rfl; done) | (rcases h with ⟨_, _, _, rfl, _⟩ | ⟨_, _, _, rfl, _⟩ <;> rfl; done) | (rcases h with ⟨_, _, _, rfl, _⟩ | ⟨_, _, _, _, rfl, _⟩ <;> rfl; done) | (rcases h with ⟨_, _, _, _, rfl, _⟩ | ⟨_, rfl, _⟩ <;> rfl; done) | (rcases h with ⟨_, _, _, _, rfl, _⟩ | ⟨_, _, rfl, _⟩ <;> rfl; done) | (rcases h with ⟨_, _, _, _, rfl, _⟩ | ⟨_, _, _, rfl, _⟩ <;> rfl; done) | (rcases h with ⟨_, _, _, _, rfl, _⟩ | ⟨_, _, _, _, rfl, _⟩ <;> rfl; done)
theorem len_check_text (M : Pm) : ∀ vs H Q E, sp_check_text M vs H Q E → vs.length = (["thing"] : List Str).length := fun vs H Q E h => by
  have h : sp_check_text M vs H Q E := h
  unfold sp_check_text at h
  first | (rcases h with ⟨_, rfl, _⟩; rfl; done) | (rcases h with ⟨_, _, rfl, _⟩; rfl; done) | (rcases h with ⟨_, _, _, rfl, _⟩; rfl; done) | (rcases h with ⟨_, _, _, _, rfl, _⟩; rfl; done) | (rcases h with ⟨_, _, _, _, _, rfl, _⟩; rfl; done) | (rcases h with ⟨_, _, _, _, _, _, rfl, _⟩; rfl; done) | (rcases h with ⟨_, _, _, _, _, _, _, rfl, _⟩; rfl; done) | (rcases h with ⟨_, _, _, _, _, _, _, _, rfl, _⟩; rfl; done) | (rcases h with ⟨_, rfl, _⟩ | ⟨_, rfl, _⟩ <;> rfl; done) | (rcases h with ⟨_, rfl, _⟩ | ⟨_, _, rfl, _⟩ <;> rfl; done) | (rcases h with ⟨_, rfl, _⟩ | ⟨_, _, _, rfl, _⟩ <;> rfl; done) | (rcases h with ⟨_, rfl, _⟩ | ⟨_, _, _, _, rfl, _⟩ <;> rfl; done) | (rcases h with ⟨_, _, rfl, _⟩ | ⟨_, rfl, _⟩ <;> rfl; done) | (rcases h with ⟨_, _, rfl, _⟩ | ⟨_, _, rfl, _⟩ <;> rfl; done) | (rcases h with ⟨_, _, rfl, _⟩ | ⟨_, _, _, rfl, _⟩ <;> rfl; done) | (rcases h with ⟨_, _, rfl, _⟩ | ⟨_, _, _, _, rfl, _⟩ <;> rfl; done) | (rcases h with ⟨_, _, _, rfl, _⟩ | ⟨_, rfl, _⟩ <;> rfl; done) | (rcases h with ⟨_, _, _, rfl, _⟩ | ⟨_, _, rfl, _⟩ <;> rfl; done) | (rcases h with ⟨_, _, _, rfl, _⟩ | ⟨_, _, _, rfl, _⟩ <;> rfl; done) | (rcases h with ⟨_, _, _, rfl, _⟩ | ⟨_, _, _, _, rfl, _⟩ <;> rfl; done) | (rcases h with ⟨_, _, _, _, rfl, _⟩ | ⟨_, rfl, _⟩ <;> rfl; done) | (rcases h with ⟨_, _, _, _, rfl, _⟩ | ⟨_, _, rfl, _⟩ <;> rfl; done) | (rcases h with ⟨_, _, _, _, rfl, _⟩ | ⟨_, _, _, rfl, _⟩ <;> rfl; done) | (rcases h with ⟨_, _, _, _, rfl, _⟩ | ⟨_, _, _, _, rfl, _⟩ <;> rfl; done)
theorem len_is_table (M : Pm) : ∀ vs H Q E, sp_is_table M vs H Q E → vs.length = (["thing"] : List Str).length := fun vs H Q E h => by
  have h : sp_is_table M vs H Q E := h
  unfold sp_is_table at h
  first | (rcases h with ⟨_, rfl, _⟩; rfl; done) | (rcases h with ⟨_, _, rfl, _⟩; rfl; done) | (rcases h with ⟨_, _, _, rfl, _⟩; rfl; done) | (rcases h with ⟨_, _, _, _, rfl, _⟩; rfl; done) | (rcases h with ⟨_, _, _, _, _, rfl, _⟩; rfl; done) | (rcases h with ⟨_, _, _, _, _, _, rfl, _⟩; rfl; done) | (rcases h with ⟨_, _, _, _, _, _, _, rfl, _⟩; rfl; done) | (rcases h with ⟨_, _, _, _, _, _, _, _, rfl, _⟩; rfl; done) | (rcases h with ⟨_, rfl, _⟩ | ⟨_, rfl, _⟩ <;> rfl; done) | (rcases h with ⟨_, rfl, _⟩ | ⟨_, _, rfl, _⟩ <;> rfl; done) | (rcases h with ⟨_, rfl, _⟩ | ⟨_, _, _, rfl, _⟩ <;> rfl; done) | (rcases h with ⟨_, rfl, _⟩ | ⟨_, _, _, _, rfl, _⟩ <;> rfl; done) | (rcases h with ⟨_, _, rfl, _⟩ | ⟨_, rfl, _⟩ <;> rfl; done) | (rcases h with ⟨_, _, rfl, _⟩ | ⟨_, _, rfl, _⟩ <;> rfl; done) | (rcases h with ⟨_, _, rfl, _⟩ | ⟨_, _, _, rfl, _⟩ <;> rfl; done) | (rcases h with ⟨_, _, rfl, _⟩ | ⟨_, _, _, _, rfl, _⟩ <;> rfl; done) | (rcases h with ⟨_, _, _, rfl, _⟩ | ⟨_, rfl, _⟩ <;> rfl; done) | (rcases h with ⟨_, _, _, rfl, _⟩ | ⟨_, _, rfl, _⟩ <;> rfl; done) | (rcases h with ⟨_, _, _, rfl, _⟩ | ⟨_, _, _, rfl, _⟩ <;> rfl; done) | (rcases h with ⟨_, _, _, rfl, _⟩ | ⟨_, _, _, _, rfl, _⟩ <;> rfl; done) | (rcases h with ⟨_, _, _, _, rfl, _⟩ | ⟨_, rfl, _⟩ <;> rfl; done) | (rcases h with ⟨_, _, _, _, rfl, _⟩ | ⟨_, _, rfl, _⟩ <;> rfl; done) | (rcases h with ⟨_, _, _, _, rfl, _⟩ | ⟨_, _, _, rfl, _⟩ <;> rfl; done) | (rcases h with ⟨_, _, _, _, rfl, _⟩ | ⟨_, _, _, _, rfl, _⟩ <;> rfl; done)
theorem len_check_table (M : Pm) : ∀ vs H Q E, sp_check_table M vs H Q E → vs.length = (["thing"] : List Str).length := fun vs H Q E h => by
  have h : sp_check_table M vs H Q E := h
  unfold sp_check_table at h
  first | (rcases h with ⟨_, rfl, _⟩; rfl; done) | (rcases h with ⟨_, _, rfl, _⟩; rfl; done) | (rcases h with ⟨_, _, _, rfl, _⟩; rfl; done) | (rcases h with ⟨_, _, _, _, rfl, _⟩; rfl; done) | (rcases h with ⟨_, _, _, _, _, rfl, _⟩; rfl; done) | (rcases h with ⟨_, _, _, _, _, _, rfl, _⟩; rfl; done) | (rcases h with ⟨_, _, _, _, _, _, _, rfl, _⟩; rfl; done) | (rcases h with ⟨_, _, _, _, _, _, _, _, rfl, _⟩; rfl; done) | (rcases h with ⟨_, rfl, _⟩ | ⟨_, rfl, _⟩ <;> rfl; done) | (rcases h with ⟨_, rfl, _⟩ | ⟨_, _, rfl, _⟩ <;> rfl; done) | (rcases h with ⟨_, rfl, _⟩ | ⟨_, _, _, rfl, _⟩ <;> rfl; done) | (rcases h with ⟨_, rfl, _⟩ | ⟨_, _, _, _, rfl, _⟩ <;> rfl; done) | (rcases h with ⟨_, _, rfl, _⟩ | ⟨_, rfl, _⟩ <;> rfl; done) | (rcases h with ⟨_, _, rfl, _⟩ | ⟨_, _, rfl, _⟩ <;> rfl; done) | (rcases h with ⟨_, _, rfl, _⟩ | ⟨_, _, _, rfl, _⟩ <;> rfl; done) | (rcases h with ⟨_, _, rfl, _⟩ | ⟨_, _, _, _, rfl, _⟩ <;> rfl; done) | (rcases h with ⟨_, _, _, rfl, _⟩ | ⟨_, rfl, _⟩ <;> rfl; done) | (rcases h with ⟨_, _, _, rfl, _⟩ | ⟨_, _, rfl, _⟩ <;> rfl; done) | (rcases h with ⟨_, _, _, rfl, _⟩ | ⟨_, _, _, rfl, _⟩ <;> rfl; done) | (rcases h with ⟨_, _, _, rfl, _⟩ | ⟨_, _, _, _, rfl, _⟩ <;> rfl; done) | (rcases h with ⟨_, _, _, _, rfl, _⟩ | ⟨_, rfl, _⟩ <;> rfl; done) | (rcases h with ⟨_, _, _, _, rfl, _⟩ | ⟨_, _, rfl, _⟩ <;> rfl; done) | (rcases h with ⟨_, _, _, _, rfl, _⟩ | ⟨_, _, _, rfl, _⟩ <;> rfl; done) | (rcases h with ⟨_, _, _, _, rfl, _⟩ | ⟨_, _, _, _, rfl, _⟩ <;> rfl; done)
theorem len_raw_row_behind (M : Pm) : ∀ vs H Q E, sp_raw_row_behind M vs H Q E → vs.length = (["table", "text"] : List Str).length := fun vs H Q E h => by
  have h : sp_raw_row_behind M vs H Q E := h
  unfold sp_raw_row_behind at h
  first | (rcases h with ⟨_, rfl, _⟩; rfl; done) | (rcases h with ⟨_, _, rfl, _⟩; rfl; done) | (rcases h with ⟨_, _, _, rfl, _⟩; rfl; done) | (rcases h with ⟨_, _, _, _, rfl, _⟩; rfl; done) | (rcases h with ⟨_, _, _, _, _, rfl, _⟩; rfl; done) | (rcases h with ⟨_, _, _, _, _, _, rfl, _⟩; rfl; done) | (rcases h with ⟨_, _, _, _, _, _, _, rfl, _⟩; rfl; done) | (rcases h with ⟨_, _, _, _, _, _, _, _, rfl, _⟩; rfl; done) | (rcases h with ⟨_, rfl, _⟩ | ⟨_, rfl, _⟩ <;> rfl; done) | (rcases h with ⟨_, rfl, _⟩ | ⟨_, _, rfl, _⟩ <;> rfl; done) | (rcases h with ⟨_, rfl, _⟩ | ⟨_, _, _, rfl, _⟩ <;> rfl; done) | (rcases h with ⟨_, rfl, _⟩ | ⟨_, _, _, _, rfl, _⟩ <;> rfl; done) | (rcases h with ⟨_, _, rfl, _⟩ | ⟨_, rfl, _⟩ <;> rfl; done) | (rcases h with ⟨_, _, rfl, _⟩ | ⟨_, _, rfl, _⟩ <;> rfl; done) | (rcases h with ⟨_, _, rfl, _⟩ | ⟨_, _, _, rfl, _⟩ <;> rfl; done) | (rcases h with ⟨_, _, rfl, _⟩ | ⟨_, _, _, _, rfl, _⟩ <;> rfl; done) | (rcases h with ⟨_, _, _, rfl, _⟩ | ⟨_, rfl, _⟩ <;> rfl; done) | (rcases h with ⟨_, _, _, rfl, _⟩ | ⟨_, _, rfl, _⟩ <;> rfl; done) | (rcases h with ⟨_, _, _, rfl, _⟩ | ⟨_, _, _, rfl, _⟩ <;> rfl; done) | (rcases h with ⟨_, _, _, rfl, _⟩ | ⟨_, _, _, _, rfl, _⟩ <;> rfl; done) | (rcases h with ⟨_, _, _, _, rfl, _⟩ | ⟨_, rfl, _⟩ <;> rfl; done) | (rcases h with ⟨_, _, _, _, rfl, _⟩ | ⟨_, _, rfl, _⟩ <;> rfl; done) | (rcases h with ⟨_, _, _, _, rfl, _⟩ | ⟨_, _, _, rfl, _⟩ <;> rfl; done) | (rcases h with ⟨_, _, _, _, rfl, _⟩ | ⟨_, _, _, _, rfl, _⟩ <;> rfl; done)
theorem len_table_reads (M : Pm) : ∀ vs H Q E, sp_table_reads M vs H Q E → vs.length = (["table", "text"] : List Str).length := fun vs H Q E h => by
  have h : sp_table_reads M vs H Q E := h
  unfold sp_table_reads at h
  first | (rcases h with ⟨_, rfl, _⟩; rfl; done) | (rcases h with ⟨_, _, rfl, _⟩; rfl; done) | (rcases h with ⟨_, _, _, rfl, _⟩; rfl; done) | (rcases h with ⟨_, _, _, _, rfl, _⟩; rfl; done) | (rcases h with ⟨_, _, _, _, _, rfl, _⟩; rfl; done) | (rcases h with ⟨_, _, _, _, _, _, rfl, _⟩; rfl; done) | (rcases h with ⟨_, _, _, _, _, _, _, rfl, _⟩; rfl; done) | (rcases h with ⟨_, _, _, _, _, _, _, _, rfl, _⟩; rfl; done) | (rcases h with ⟨_, rfl, _⟩ | ⟨_, rfl, _⟩ <;> rfl; done) | (rcases h with ⟨_, rfl, _⟩ | ⟨_, _, rfl, _⟩ <;> rfl; done) | (rcases h with ⟨_, rfl, _⟩ | ⟨_, _, _, rfl, _⟩ <;> rfl; done) | (rcases h with ⟨_, rfl, _⟩ | ⟨_, _, _, _, rfl, _⟩ <;> rfl; done) | (rcases h with ⟨_, _, rfl, _⟩ | ⟨_, rfl, _⟩ <;> rfl; done) | (rcases h with ⟨_, _, rfl, _⟩ | ⟨_, _, rfl, _⟩ <;> rfl; done) | (rcases h with ⟨_, _, rfl, _⟩ | ⟨_, _, _, rfl, _⟩ <;> rfl; done) | (rcases h with ⟨_, _, rfl, _⟩ | ⟨_, _, _, _, rfl, _⟩ <;> rfl; done) | (rcases h with ⟨_, _, _, rfl, _⟩ | ⟨_, rfl, _⟩ <;> rfl; done) | (rcases h with ⟨_, _, _, rfl, _⟩ | ⟨_, _, rfl, _⟩ <;> rfl; done) | (rcases h with ⟨_, _, _, rfl, _⟩ | ⟨_, _, _, rfl, _⟩ <;> rfl; done) | (rcases h with ⟨_, _, _, rfl, _⟩ | ⟨_, _, _, _, rfl, _⟩ <;> rfl; done) | (rcases h with ⟨_, _, _, _, rfl, _⟩ | ⟨_, rfl, _⟩ <;> rfl; done) | (rcases h with ⟨_, _, _, _, rfl, _⟩ | ⟨_, _, rfl, _⟩ <;> rfl; done) | (rcases h with ⟨_, _, _, _, rfl, _⟩ | ⟨_, _, _, rfl, _⟩ <;> rfl; done) | (rcases h with ⟨_, _, _, _, rfl, _⟩ | ⟨_, _, _, _, rfl, _⟩ <;> rfl; done)
theorem len_row_behind (M : Pm) : ∀ vs H Q E, sp_row_behind M vs H Q E → vs.length = (["table", "text"] : List Str).length := fun vs H Q E h => by
  have h : sp_row_behind M vs H Q E := h
  unfold sp_row_behind at h
  first | (rcases h with ⟨_, rfl, _⟩; rfl; done) | (rcases h with ⟨_, _, rfl, _⟩; rfl; done) | (rcases h with ⟨_, _, _, rfl, _⟩; rfl; done) | (rcases h with ⟨_, _, _, _, rfl, _⟩; rfl; done) | (rcases h with ⟨_, _, _, _, _, rfl, _⟩; rfl; done) | (rcases h with ⟨_, _, _, _, _, _, rfl, _⟩; rfl; done) | (rcases h with ⟨_, _, _, _, _, _, _, rfl, _⟩; rfl; done) | (rcases h with ⟨_, _, _, _, _, _, _, _, rfl, _⟩; rfl; done) | (rcases h with ⟨_, rfl, _⟩ | ⟨_, rfl, _⟩ <;> rfl; done) | (rcases h with ⟨_, rfl, _⟩ | ⟨_, _, rfl, _⟩ <;> rfl; done) | (rcases h with ⟨_, rfl, _⟩ | ⟨_, _, _, rfl, _⟩ <;> rfl; done) | (rcases h with ⟨_, rfl, _⟩ | ⟨_, _, _, _, rfl, _⟩ <;> rfl; done) | (rcases h with ⟨_, _, rfl, _⟩ | ⟨_, rfl, _⟩ <;> rfl; done) | (rcases h with ⟨_, _, rfl, _⟩ | ⟨_, _, rfl, _⟩ <;> rfl; done) | (rcases h with ⟨_, _, rfl, _⟩ | ⟨_, _, _, rfl, _⟩ <;> rfl; done) | (rcases h with ⟨_, _, rfl, _⟩ | ⟨_, _, _, _, rfl, _⟩ <;> rfl; done) | (rcases h with ⟨_, _, _, rfl, _⟩ | ⟨_, rfl, _⟩ <;> rfl; done) | (rcases h with ⟨_, _, _, rfl, _⟩ | ⟨_, _, rfl, _⟩ <;> rfl; done) | (rcases h with ⟨_, _, _, rfl, _⟩ | ⟨_, _, _, rfl, _⟩ <;> rfl; done) | (rcases h with ⟨_, _, _, rfl, _⟩ | ⟨_, _, _, _, rfl, _⟩ <;> rfl; done) | (rcases h with ⟨_, _, _, _, rfl, _⟩ | ⟨_, rfl, _⟩ <;> rfl; done) | (rcases h with ⟨_, _, _, _, rfl, _⟩ | ⟨_, _, rfl, _⟩ <;> rfl; done) | (rcases h with ⟨_, _, _, _, rfl, _⟩ | ⟨_, _, _, rfl, _⟩ <;> rfl; done) | (rcases h with ⟨_, _, _, _, rfl, _⟩ | ⟨_, _, _, _, rfl, _⟩ <;> rfl; done)
theorem len_law_bag (M : Pm) : ∀ vs H Q E, sp_law_bag M vs H Q E → vs.length = (["script"] : List Str).length := fun vs H Q E h => by
  have h : sp_law_bag M vs H Q E := h
  unfold sp_law_bag at h
  first | (rcases h with ⟨_, rfl, _⟩; rfl; done) | (rcases h with ⟨_, _, rfl, _⟩; rfl; done) | (rcases h with ⟨_, _, _, rfl, _⟩; rfl; done) | (rcases h with ⟨_, _, _, _, rfl, _⟩; rfl; done) | (rcases h with ⟨_, _, _, _, _, rfl, _⟩; rfl; done) | (rcases h with ⟨_, _, _, _, _, _, rfl, _⟩; rfl; done) | (rcases h with ⟨_, _, _, _, _, _, _, rfl, _⟩; rfl; done) | (rcases h with ⟨_, _, _, _, _, _, _, _, rfl, _⟩; rfl; done) | (rcases h with ⟨_, rfl, _⟩ | ⟨_, rfl, _⟩ <;> rfl; done) | (rcases h with ⟨_, rfl, _⟩ | ⟨_, _, rfl, _⟩ <;> rfl; done) | (rcases h with ⟨_, rfl, _⟩ | ⟨_, _, _, rfl, _⟩ <;> rfl; done) | (rcases h with ⟨_, rfl, _⟩ | ⟨_, _, _, _, rfl, _⟩ <;> rfl; done) | (rcases h with ⟨_, _, rfl, _⟩ | ⟨_, rfl, _⟩ <;> rfl; done) | (rcases h with ⟨_, _, rfl, _⟩ | ⟨_, _, rfl, _⟩ <;> rfl; done) | (rcases h with ⟨_, _, rfl, _⟩ | ⟨_, _, _, rfl, _⟩ <;> rfl; done) | (rcases h with ⟨_, _, rfl, _⟩ | ⟨_, _, _, _, rfl, _⟩ <;> rfl; done) | (rcases h with ⟨_, _, _, rfl, _⟩ | ⟨_, rfl, _⟩ <;> rfl; done) | (rcases h with ⟨_, _, _, rfl, _⟩ | ⟨_, _, rfl, _⟩ <;> rfl; done) | (rcases h with ⟨_, _, _, rfl, _⟩ | ⟨_, _, _, rfl, _⟩ <;> rfl; done) | (rcases h with ⟨_, _, _, rfl, _⟩ | ⟨_, _, _, _, rfl, _⟩ <;> rfl; done) | (rcases h with ⟨_, _, _, _, rfl, _⟩ | ⟨_, rfl, _⟩ <;> rfl; done) | (rcases h with ⟨_, _, _, _, rfl, _⟩ | ⟨_, _, rfl, _⟩ <;> rfl; done) | (rcases h with ⟨_, _, _, _, rfl, _⟩ | ⟨_, _, _, rfl, _⟩ <;> rfl; done) | (rcases h with ⟨_, _, _, _, rfl, _⟩ | ⟨_, _, _, _, rfl, _⟩ <;> rfl; done)
theorem len_law_pick (M : Pm) : ∀ vs H Q E, sp_law_pick M vs H Q E → vs.length = (["bag", "width"] : List Str).length := fun vs H Q E h => by
  have h : sp_law_pick M vs H Q E := h
  unfold sp_law_pick at h
  first | (rcases h with ⟨_, rfl, _⟩; rfl; done) | (rcases h with ⟨_, _, rfl, _⟩; rfl; done) | (rcases h with ⟨_, _, _, rfl, _⟩; rfl; done) | (rcases h with ⟨_, _, _, _, rfl, _⟩; rfl; done) | (rcases h with ⟨_, _, _, _, _, rfl, _⟩; rfl; done) | (rcases h with ⟨_, _, _, _, _, _, rfl, _⟩; rfl; done) | (rcases h with ⟨_, _, _, _, _, _, _, rfl, _⟩; rfl; done) | (rcases h with ⟨_, _, _, _, _, _, _, _, rfl, _⟩; rfl; done) | (rcases h with ⟨_, rfl, _⟩ | ⟨_, rfl, _⟩ <;> rfl; done) | (rcases h with ⟨_, rfl, _⟩ | ⟨_, _, rfl, _⟩ <;> rfl; done) | (rcases h with ⟨_, rfl, _⟩ | ⟨_, _, _, rfl, _⟩ <;> rfl; done) | (rcases h with ⟨_, rfl, _⟩ | ⟨_, _, _, _, rfl, _⟩ <;> rfl; done) | (rcases h with ⟨_, _, rfl, _⟩ | ⟨_, rfl, _⟩ <;> rfl; done) | (rcases h with ⟨_, _, rfl, _⟩ | ⟨_, _, rfl, _⟩ <;> rfl; done) | (rcases h with ⟨_, _, rfl, _⟩ | ⟨_, _, _, rfl, _⟩ <;> rfl; done) | (rcases h with ⟨_, _, rfl, _⟩ | ⟨_, _, _, _, rfl, _⟩ <;> rfl; done) | (rcases h with ⟨_, _, _, rfl, _⟩ | ⟨_, rfl, _⟩ <;> rfl; done) | (rcases h with ⟨_, _, _, rfl, _⟩ | ⟨_, _, rfl, _⟩ <;> rfl; done) | (rcases h with ⟨_, _, _, rfl, _⟩ | ⟨_, _, _, rfl, _⟩ <;> rfl; done) | (rcases h with ⟨_, _, _, rfl, _⟩ | ⟨_, _, _, _, rfl, _⟩ <;> rfl; done) | (rcases h with ⟨_, _, _, _, rfl, _⟩ | ⟨_, rfl, _⟩ <;> rfl; done) | (rcases h with ⟨_, _, _, _, rfl, _⟩ | ⟨_, _, rfl, _⟩ <;> rfl; done) | (rcases h with ⟨_, _, _, _, rfl, _⟩ | ⟨_, _, _, rfl, _⟩ <;> rfl; done) | (rcases h with ⟨_, _, _, _, rfl, _⟩ | ⟨_, _, _, _, rfl, _⟩ <;> rfl; done)
theorem len_law_some (M : Pm) : ∀ vs H Q E, sp_law_some M vs H Q E → vs.length = (["bag", "things"] : List Str).length := fun vs H Q E h => by
  have h : sp_law_some M vs H Q E := h
  unfold sp_law_some at h
  first | (rcases h with ⟨_, rfl, _⟩; rfl; done) | (rcases h with ⟨_, _, rfl, _⟩; rfl; done) | (rcases h with ⟨_, _, _, rfl, _⟩; rfl; done) | (rcases h with ⟨_, _, _, _, rfl, _⟩; rfl; done) | (rcases h with ⟨_, _, _, _, _, rfl, _⟩; rfl; done) | (rcases h with ⟨_, _, _, _, _, _, rfl, _⟩; rfl; done) | (rcases h with ⟨_, _, _, _, _, _, _, rfl, _⟩; rfl; done) | (rcases h with ⟨_, _, _, _, _, _, _, _, rfl, _⟩; rfl; done) | (rcases h with ⟨_, rfl, _⟩ | ⟨_, rfl, _⟩ <;> rfl; done) | (rcases h with ⟨_, rfl, _⟩ | ⟨_, _, rfl, _⟩ <;> rfl; done) | (rcases h with ⟨_, rfl, _⟩ | ⟨_, _, _, rfl, _⟩ <;> rfl; done) | (rcases h with ⟨_, rfl, _⟩ | ⟨_, _, _, _, rfl, _⟩ <;> rfl; done) | (rcases h with ⟨_, _, rfl, _⟩ | ⟨_, rfl, _⟩ <;> rfl; done) | (rcases h with ⟨_, _, rfl, _⟩ | ⟨_, _, rfl, _⟩ <;> rfl; done) | (rcases h with ⟨_, _, rfl, _⟩ | ⟨_, _, _, rfl, _⟩ <;> rfl; done) | (rcases h with ⟨_, _, rfl, _⟩ | ⟨_, _, _, _, rfl, _⟩ <;> rfl; done) | (rcases h with ⟨_, _, _, rfl, _⟩ | ⟨_, rfl, _⟩ <;> rfl; done) | (rcases h with ⟨_, _, _, rfl, _⟩ | ⟨_, _, rfl, _⟩ <;> rfl; done) | (rcases h with ⟨_, _, _, rfl, _⟩ | ⟨_, _, _, rfl, _⟩ <;> rfl; done) | (rcases h with ⟨_, _, _, rfl, _⟩ | ⟨_, _, _, _, rfl, _⟩ <;> rfl; done) | (rcases h with ⟨_, _, _, _, rfl, _⟩ | ⟨_, rfl, _⟩ <;> rfl; done) | (rcases h with ⟨_, _, _, _, rfl, _⟩ | ⟨_, _, rfl, _⟩ <;> rfl; done) | (rcases h with ⟨_, _, _, _, rfl, _⟩ | ⟨_, _, _, rfl, _⟩ <;> rfl; done) | (rcases h with ⟨_, _, _, _, rfl, _⟩ | ⟨_, _, _, _, rfl, _⟩ <;> rfl; done)
theorem len_law_drawn_table (M : Pm) : ∀ vs H Q E, sp_law_drawn_table M vs H Q E → vs.length = (["bag", "most"] : List Str).length := fun vs H Q E h => by
  have h : sp_law_drawn_table M vs H Q E := h
  unfold sp_law_drawn_table at h
  first | (rcases h with ⟨_, rfl, _⟩; rfl; done) | (rcases h with ⟨_, _, rfl, _⟩; rfl; done) | (rcases h with ⟨_, _, _, rfl, _⟩; rfl; done) | (rcases h with ⟨_, _, _, _, rfl, _⟩; rfl; done) | (rcases h with ⟨_, _, _, _, _, rfl, _⟩; rfl; done) | (rcases h with ⟨_, _, _, _, _, _, rfl, _⟩; rfl; done) | (rcases h with ⟨_, _, _, _, _, _, _, rfl, _⟩; rfl; done) | (rcases h with ⟨_, _, _, _, _, _, _, _, rfl, _⟩; rfl; done) | (rcases h with ⟨_, rfl, _⟩ | ⟨_, rfl, _⟩ <;> rfl; done) | (rcases h with ⟨_, rfl, _⟩ | ⟨_, _, rfl, _⟩ <;> rfl; done) | (rcases h with ⟨_, rfl, _⟩ | ⟨_, _, _, rfl, _⟩ <;> rfl; done) | (rcases h with ⟨_, rfl, _⟩ | ⟨_, _, _, _, rfl, _⟩ <;> rfl; done) | (rcases h with ⟨_, _, rfl, _⟩ | ⟨_, rfl, _⟩ <;> rfl; done) | (rcases h with ⟨_, _, rfl, _⟩ | ⟨_, _, rfl, _⟩ <;> rfl; done) | (rcases h with ⟨_, _, rfl, _⟩ | ⟨_, _, _, rfl, _⟩ <;> rfl; done) | (rcases h with ⟨_, _, rfl, _⟩ | ⟨_, _, _, _, rfl, _⟩ <;> rfl; done) | (rcases h with ⟨_, _, _, rfl, _⟩ | ⟨_, rfl, _⟩ <;> rfl; done) | (rcases h with ⟨_, _, _, rfl, _⟩ | ⟨_, _, rfl, _⟩ <;> rfl; done) | (rcases h with ⟨_, _, _, rfl, _⟩ | ⟨_, _, _, rfl, _⟩ <;> rfl; done) | (rcases h with ⟨_, _, _, rfl, _⟩ | ⟨_, _, _, _, rfl, _⟩ <;> rfl; done) | (rcases h with ⟨_, _, _, _, rfl, _⟩ | ⟨_, rfl, _⟩ <;> rfl; done) | (rcases h with ⟨_, _, _, _, rfl, _⟩ | ⟨_, _, rfl, _⟩ <;> rfl; done) | (rcases h with ⟨_, _, _, _, rfl, _⟩ | ⟨_, _, _, rfl, _⟩ <;> rfl; done) | (rcases h with ⟨_, _, _, _, rfl, _⟩ | ⟨_, _, _, _, rfl, _⟩ <;> rfl; done)
theorem len_law_table (M : Pm) : ∀ vs H Q E, sp_law_table M vs H Q E → vs.length = (["rows", "flags"] : List Str).length := fun vs H Q E h => by
  have h : sp_law_table M vs H Q E := h
  unfold sp_law_table at h
  first | (rcases h with ⟨_, rfl, _⟩; rfl; done) | (rcases h with ⟨_, _, rfl, _⟩; rfl; done) | (rcases h with ⟨_, _, _, rfl, _⟩; rfl; done) | (rcases h with ⟨_, _, _, _, rfl, _⟩; rfl; done) | (rcases h with ⟨_, _, _, _, _, rfl, _⟩; rfl; done) | (rcases h with ⟨_, _, _, _, _, _, rfl, _⟩; rfl; done) | (rcases h with ⟨_, _, _, _, _, _, _, rfl, _⟩; rfl; done) | (rcases h with ⟨_, _, _, _, _, _, _, _, rfl, _⟩; rfl; done) | (rcases h with ⟨_, rfl, _⟩ | ⟨_, rfl, _⟩ <;> rfl; done) | (rcases h with ⟨_, rfl, _⟩ | ⟨_, _, rfl, _⟩ <;> rfl; done) | (rcases h with ⟨_, rfl, _⟩ | ⟨_, _, _, rfl, _⟩ <;> rfl; done) | (rcases h with ⟨_, rfl, _⟩ | ⟨_, _, _, _, rfl, _⟩ <;> rfl; done) | (rcases h with ⟨_, _, rfl, _⟩ | ⟨_, rfl, _⟩ <;> rfl; done) | (rcases h with ⟨_, _, rfl, _⟩ | ⟨_, _, rfl, _⟩ <;> rfl; done) | (rcases h with ⟨_, _, rfl, _⟩ | ⟨_, _, _, rfl, _⟩ <;> rfl; done) | (rcases h with ⟨_, _, rfl, _⟩ | ⟨_, _, _, _, rfl, _⟩ <;> rfl; done) | (rcases h with ⟨_, _, _, rfl, _⟩ | ⟨_, rfl, _⟩ <;> rfl; done) | (rcases h with ⟨_, _, _, rfl, _⟩ | ⟨_, _, rfl, _⟩ <;> rfl; done) | (rcases h with ⟨_, _, _, rfl, _⟩ | ⟨_, _, _, rfl, _⟩ <;> rfl; done) | (rcases h with ⟨_, _, _, rfl, _⟩ | ⟨_, _, _, _, rfl, _⟩ <;> rfl; done) | (rcases h with ⟨_, _, _, _, rfl, _⟩ | ⟨_, rfl, _⟩ <;> rfl; done) | (rcases h with ⟨_, _, _, _, rfl, _⟩ | ⟨_, _, rfl, _⟩ <;> rfl; done) | (rcases h with ⟨_, _, _, _, rfl, _⟩ | ⟨_, _, _, rfl, _⟩ <;> rfl; done) | (rcases h with ⟨_, _, _, _, rfl, _⟩ | ⟨_, _, _, _, rfl, _⟩ <;> rfl; done)
theorem len_law_behind_text (M : Pm) : ∀ vs H Q E, sp_law_behind_text M vs H Q E → vs.length = (["rows", "text"] : List Str).length := fun vs H Q E h => by
  have h : sp_law_behind_text M vs H Q E := h
  unfold sp_law_behind_text at h
  first | (rcases h with ⟨_, rfl, _⟩; rfl; done) | (rcases h with ⟨_, _, rfl, _⟩; rfl; done) | (rcases h with ⟨_, _, _, rfl, _⟩; rfl; done) | (rcases h with ⟨_, _, _, _, rfl, _⟩; rfl; done) | (rcases h with ⟨_, _, _, _, _, rfl, _⟩; rfl; done) | (rcases h with ⟨_, _, _, _, _, _, rfl, _⟩; rfl; done) | (rcases h with ⟨_, _, _, _, _, _, _, rfl, _⟩; rfl; done) | (rcases h with ⟨_, _, _, _, _, _, _, _, rfl, _⟩; rfl; done) | (rcases h with ⟨_, rfl, _⟩ | ⟨_, rfl, _⟩ <;> rfl; done) | (rcases h with ⟨_, rfl, _⟩ | ⟨_, _, rfl, _⟩ <;> rfl; done) | (rcases h with ⟨_, rfl, _⟩ | ⟨_, _, _, rfl, _⟩ <;> rfl; done) | (rcases h with ⟨_, rfl, _⟩ | ⟨_, _, _, _, rfl, _⟩ <;> rfl; done) | (rcases h with ⟨_, _, rfl, _⟩ | ⟨_, rfl, _⟩ <;> rfl; done) | (rcases h with ⟨_, _, rfl, _⟩ | ⟨_, _, rfl, _⟩ <;> rfl; done) | (rcases h with ⟨_, _, rfl, _⟩ | ⟨_, _, _, rfl, _⟩ <;> rfl; done) | (rcases h with ⟨_, _, rfl, _⟩ | ⟨_, _, _, _, rfl, _⟩ <;> rfl; done) | (rcases h with ⟨_, _, _, rfl, _⟩ | ⟨_, rfl, _⟩ <;> rfl; done) | (rcases h with ⟨_, _, _, rfl, _⟩ | ⟨_, _, rfl, _⟩ <;> rfl; done) | (rcases h with ⟨_, _, _, rfl, _⟩ | ⟨_, _, _, rfl, _⟩ <;> rfl; done) | (rcases h with ⟨_, _, _, rfl, _⟩ | ⟨_, _, _, _, rfl, _⟩ <;> rfl; done) | (rcases h with ⟨_, _, _, _, rfl, _⟩ | ⟨_, rfl, _⟩ <;> rfl; done) | (rcases h with ⟨_, _, _, _, rfl, _⟩ | ⟨_, _, rfl, _⟩ <;> rfl; done) | (rcases h with ⟨_, _, _, _, rfl, _⟩ | ⟨_, _, _, rfl, _⟩ <;> rfl; done) | (rcases h with ⟨_, _, _, _, rfl, _⟩ | ⟨_, _, _, _, rfl, _⟩ <;> rfl; done)
theorem len_law_odd_table (M : Pm) : ∀ vs H Q E, sp_law_odd_table M vs H Q E → vs.length = (["bag", "rows", "flags"] : List Str).length := fun vs H Q E h => by
  have h : sp_law_odd_table M vs H Q E := h
  unfold sp_law_odd_table at h
  first | (rcases h with ⟨_, rfl, _⟩; rfl; done) | (rcases h with ⟨_, _, rfl, _⟩; rfl; done) | (rcases h with ⟨_, _, _, rfl, _⟩; rfl; done) | (rcases h with ⟨_, _, _, _, rfl, _⟩; rfl; done) | (rcases h with ⟨_, _, _, _, _, rfl, _⟩; rfl; done) | (rcases h with ⟨_, _, _, _, _, _, rfl, _⟩; rfl; done) | (rcases h with ⟨_, _, _, _, _, _, _, rfl, _⟩; rfl; done) | (rcases h with ⟨_, _, _, _, _, _, _, _, rfl, _⟩; rfl; done) | (rcases h with ⟨_, rfl, _⟩ | ⟨_, rfl, _⟩ <;> rfl; done) | (rcases h with ⟨_, rfl, _⟩ | ⟨_, _, rfl, _⟩ <;> rfl; done) | (rcases h with ⟨_, rfl, _⟩ | ⟨_, _, _, rfl, _⟩ <;> rfl; done) | (rcases h with ⟨_, rfl, _⟩ | ⟨_, _, _, _, rfl, _⟩ <;> rfl; done) | (rcases h with ⟨_, _, rfl, _⟩ | ⟨_, rfl, _⟩ <;> rfl; done) | (rcases h with ⟨_, _, rfl, _⟩ | ⟨_, _, rfl, _⟩ <;> rfl; done) | (rcases h with ⟨_, _, rfl, _⟩ | ⟨_, _, _, rfl, _⟩ <;> rfl; done) | (rcases h with ⟨_, _, rfl, _⟩ | ⟨_, _, _, _, rfl, _⟩ <;> rfl; done) | (rcases h with ⟨_, _, _, rfl, _⟩ | ⟨_, rfl, _⟩ <;> rfl; done) | (rcases h with ⟨_, _, _, rfl, _⟩ | ⟨_, _, rfl, _⟩ <;> rfl; done) | (rcases h with ⟨_, _, _, rfl, _⟩ | ⟨_, _, _, rfl, _⟩ <;> rfl; done) | (rcases h with ⟨_, _, _, rfl, _⟩ | ⟨_, _, _, _, rfl, _⟩ <;> rfl; done) | (rcases h with ⟨_, _, _, _, rfl, _⟩ | ⟨_, rfl, _⟩ <;> rfl; done) | (rcases h with ⟨_, _, _, _, rfl, _⟩ | ⟨_, _, rfl, _⟩ <;> rfl; done) | (rcases h with ⟨_, _, _, _, rfl, _⟩ | ⟨_, _, _, rfl, _⟩ <;> rfl; done) | (rcases h with ⟨_, _, _, _, rfl, _⟩ | ⟨_, _, _, _, rfl, _⟩ <;> rfl; done)
theorem len_law_is_read_right (M : Pm) : ∀ vs H Q E, sp_law_is_read_right M vs H Q E → vs.length = (["bag", "rows", "flags"] : List Str).length := fun vs H Q E h => by
  have h : sp_law_is_read_right M vs H Q E := h
  unfold sp_law_is_read_right at h
  first | (rcases h with ⟨_, rfl, _⟩; rfl; done) | (rcases h with ⟨_, _, rfl, _⟩; rfl; done) | (rcases h with ⟨_, _, _, rfl, _⟩; rfl; done) | (rcases h with ⟨_, _, _, _, rfl, _⟩; rfl; done) | (rcases h with ⟨_, _, _, _, _, rfl, _⟩; rfl; done) | (rcases h with ⟨_, _, _, _, _, _, rfl, _⟩; rfl; done) | (rcases h with ⟨_, _, _, _, _, _, _, rfl, _⟩; rfl; done) | (rcases h with ⟨_, _, _, _, _, _, _, _, rfl, _⟩; rfl; done) | (rcases h with ⟨_, rfl, _⟩ | ⟨_, rfl, _⟩ <;> rfl; done) | (rcases h with ⟨_, rfl, _⟩ | ⟨_, _, rfl, _⟩ <;> rfl; done) | (rcases h with ⟨_, rfl, _⟩ | ⟨_, _, _, rfl, _⟩ <;> rfl; done) | (rcases h with ⟨_, rfl, _⟩ | ⟨_, _, _, _, rfl, _⟩ <;> rfl; done) | (rcases h with ⟨_, _, rfl, _⟩ | ⟨_, rfl, _⟩ <;> rfl; done) | (rcases h with ⟨_, _, rfl, _⟩ | ⟨_, _, rfl, _⟩ <;> rfl; done) | (rcases h with ⟨_, _, rfl, _⟩ | ⟨_, _, _, rfl, _⟩ <;> rfl; done) | (rcases h with ⟨_, _, rfl, _⟩ | ⟨_, _, _, _, rfl, _⟩ <;> rfl; done) | (rcases h with ⟨_, _, _, rfl, _⟩ | ⟨_, rfl, _⟩ <;> rfl; done) | (rcases h with ⟨_, _, _, rfl, _⟩ | ⟨_, _, rfl, _⟩ <;> rfl; done) | (rcases h with ⟨_, _, _, rfl, _⟩ | ⟨_, _, _, rfl, _⟩ <;> rfl; done) | (rcases h with ⟨_, _, _, rfl, _⟩ | ⟨_, _, _, _, rfl, _⟩ <;> rfl; done) | (rcases h with ⟨_, _, _, _, rfl, _⟩ | ⟨_, rfl, _⟩ <;> rfl; done) | (rcases h with ⟨_, _, _, _, rfl, _⟩ | ⟨_, _, rfl, _⟩ <;> rfl; done) | (rcases h with ⟨_, _, _, _, rfl, _⟩ | ⟨_, _, _, rfl, _⟩ <;> rfl; done) | (rcases h with ⟨_, _, _, _, rfl, _⟩ | ⟨_, _, _, _, rfl, _⟩ <;> rfl; done)
theorem len_law_are_bounds_right (M : Pm) : ∀ vs H Q E, sp_law_are_bounds_right M vs H Q E → vs.length = (["bag"] : List Str).length := fun vs H Q E h => by
  have h : sp_law_are_bounds_right M vs H Q E := h
  unfold sp_law_are_bounds_right at h
  first | (rcases h with ⟨_, rfl, _⟩; rfl; done) | (rcases h with ⟨_, _, rfl, _⟩; rfl; done) | (rcases h with ⟨_, _, _, rfl, _⟩; rfl; done) | (rcases h with ⟨_, _, _, _, rfl, _⟩; rfl; done) | (rcases h with ⟨_, _, _, _, _, rfl, _⟩; rfl; done) | (rcases h with ⟨_, _, _, _, _, _, rfl, _⟩; rfl; done) | (rcases h with ⟨_, _, _, _, _, _, _, rfl, _⟩; rfl; done) | (rcases h with ⟨_, _, _, _, _, _, _, _, rfl, _⟩; rfl; done) | (rcases h with ⟨_, rfl, _⟩ | ⟨_, rfl, _⟩ <;> rfl; done) | (rcases h with ⟨_, rfl, _⟩ | ⟨_, _, rfl, _⟩ <;> rfl; done) | (rcases h with ⟨_, rfl, _⟩ | ⟨_, _, _, rfl, _⟩ <;> rfl; done) | (rcases h with ⟨_, rfl, _⟩ | ⟨_, _, _, _, rfl, _⟩ <;> rfl; done) | (rcases h with ⟨_, _, rfl, _⟩ | ⟨_, rfl, _⟩ <;> rfl; done) | (rcases h with ⟨_, _, rfl, _⟩ | ⟨_, _, rfl, _⟩ <;> rfl; done) | (rcases h with ⟨_, _, rfl, _⟩ | ⟨_, _, _, rfl, _⟩ <;> rfl; done) | (rcases h with ⟨_, _, rfl, _⟩ | ⟨_, _, _, _, rfl, _⟩ <;> rfl; done) | (rcases h with ⟨_, _, _, rfl, _⟩ | ⟨_, rfl, _⟩ <;> rfl; done) | (rcases h with ⟨_, _, _, rfl, _⟩ | ⟨_, _, rfl, _⟩ <;> rfl; done) | (rcases h with ⟨_, _, _, rfl, _⟩ | ⟨_, _, _, rfl, _⟩ <;> rfl; done) | (rcases h with ⟨_, _, _, rfl, _⟩ | ⟨_, _, _, _, rfl, _⟩ <;> rfl; done) | (rcases h with ⟨_, _, _, _, rfl, _⟩ | ⟨_, rfl, _⟩ <;> rfl; done) | (rcases h with ⟨_, _, _, _, rfl, _⟩ | ⟨_, _, rfl, _⟩ <;> rfl; done) | (rcases h with ⟨_, _, _, _, rfl, _⟩ | ⟨_, _, _, rfl, _⟩ <;> rfl; done) | (rcases h with ⟨_, _, _, _, rfl, _⟩ | ⟨_, _, _, _, rfl, _⟩ <;> rfl; done)
theorem len_law (M : Pm) : ∀ vs H Q E, sp_law M vs H Q E → vs.length = (["script"] : List Str).length := fun vs H Q E h => by
  have h : sp_law M vs H Q E := h
  unfold sp_law at h
  first | (rcases h with ⟨_, rfl, _⟩; rfl; done) | (rcases h with ⟨_, _, rfl, _⟩; rfl; done) | (rcases h with ⟨_, _, _, rfl, _⟩; rfl; done) | (rcases h with ⟨_, _, _, _, rfl, _⟩; rfl; done) | (rcases h with ⟨_, _, _, _, _, rfl, _⟩; rfl; done) | (rcases h with ⟨_, _, _, _, _, _, rfl, _⟩; rfl; done) | (rcases h with ⟨_, _, _, _, _, _, _, rfl, _⟩; rfl; done) | (rcases h with ⟨_, _, _, _, _, _, _, _, rfl, _⟩; rfl; done) | (rcases h with ⟨_, rfl, _⟩ | ⟨_, rfl, _⟩ <;> rfl; done) | (rcases h with ⟨_, rfl, _⟩ | ⟨_, _, rfl, _⟩ <;> rfl; done) | (rcases h with ⟨_, rfl, _⟩ | ⟨_, _, _, rfl, _⟩ <;> rfl; done) | (rcases h with ⟨_, rfl, _⟩ | ⟨_, _, _, _, rfl, _⟩ <;> rfl; done) | (rcases h with ⟨_, _, rfl, _⟩ | ⟨_, rfl, _⟩ <;> rfl; done) | (rcases h with ⟨_, _, rfl, _⟩ | ⟨_, _, rfl, _⟩ <;> rfl; done) | (rcases h with ⟨_, _, rfl, _⟩ | ⟨_, _, _, rfl, _⟩ <;> rfl; done) | (rcases h with ⟨_, _, rfl, _⟩ | ⟨_, _, _, _, rfl, _⟩ <;> rfl; done) | (rcases h with ⟨_, _, _, rfl, _⟩ | ⟨_, rfl, _⟩ <;> rfl; done) | (rcases h with ⟨_, _, _, rfl, _⟩ | ⟨_, _, rfl, _⟩ <;> rfl; done) | (rcases h with ⟨_, _, _, rfl, _⟩ | ⟨_, _, _, rfl, _⟩ <;> rfl; done) | (rcases h with ⟨_, _, _, rfl, _⟩ | ⟨_, _, _, _, rfl, _⟩ <;> rfl; done) | (rcases h with ⟨_, _, _, _, rfl, _⟩ | ⟨_, rfl, _⟩ <;> rfl; done) | (rcases h with ⟨_, _, _, _, rfl, _⟩ | ⟨_, _, rfl, _⟩ <;> rfl; done) | (rcases h with ⟨_, _, _, _, rfl, _⟩ | ⟨_, _, _, rfl, _⟩ <;> rfl; done) | (rcases h with ⟨_, _, _, _, rfl, _⟩ | ⟨_, _, _, _, rfl, _⟩ <;> rfl; done)
end
variable {P : Program} {w : World} {mg : Str → Option Value} {M : Pm}
theorem the_law {fa : Addr} {c_law_is_read_right P_law_is_read_right : Addr} {c_law_are_bounds_right P_law_are_bounds_right : Addr} (T : Tx M mg) (hfa : mg "law" = some (.ref fa)) (D_is_integer : DefIn M.K mg "is_integer" s_is_integer) (D_is_within : DefIn M.K mg "is_within" s_is_within) (D_are_signs : DefIn M.K mg "are_signs" s_are_signs) (D_is_text : DefIn M.K mg "is_text" s_is_text) (D_check_text : DefIn M.K mg "check_text" s_check_text) (D_is_table : DefIn M.K mg "is_table" s_is_table) (D_check_table : DefIn M.K mg "check_table" s_check_table) (D_raw_row_behind : DefIn M.K mg "raw_row_behind" s_raw_row_behind) (D_table_reads : DefIn M.K mg "table_reads" s_table_reads) (D_row_behind : DefIn M.K mg "row_behind" s_row_behind) (D_law_bag : DefIn M.K mg "_law_bag" s_law_bag) (D_law_pick : DefIn M.K mg "_law_pick" s_law_pick) (D_law_some : DefIn M.K mg "_law_some" s_law_some) (D_law_drawn_table : DefIn M.K mg "_law_drawn_table" s_law_drawn_table) (D_law_table : DefIn M.K mg "_law_table" s_law_table) (D_law_error : DefIn M.K mg "_law_error" s_law_error) (D_law_behind_text : DefIn M.K mg "_law_behind_text" s_law_behind_text) (D_law_odd_table : DefIn M.K mg "_law_odd_table" s_law_odd_table) (D_law_is_read_right : DefT M.K mg "_law_is_read_right" s_law_is_read_right c_law_is_read_right) (D_law_are_bounds_right : DefT M.K mg "_law_are_bounds_right" s_law_are_bounds_right c_law_are_bounds_right) (D_law : DefIn M.K mg "law" s_law) (hm_law_is_read_right : (P_law_is_read_right, ("_law_is_read_right" : Str) ++ ".<locals>." ++ "<lambda>") ∈ M.tabs) (hu_law_is_read_right : ∀ p ∈ M.tabs, p.1 = P_law_is_read_right → p.2 = ("_law_is_read_right" : Str) ++ ".<locals>." ++ "<lambda>") (hm_law_are_bounds_right : (P_law_are_bounds_right, ("_law_are_bounds_right" : Str) ++ ".<locals>." ++ "<lambda>") ∈ M.tabs) (hu_law_are_bounds_right : ∀ p ∈ M.tabs, p.1 = P_law_are_bounds_right → p.2 = ("_law_are_bounds_right" : Str) ++ ".<locals>." ++ "<lambda>") :
    ∃ fd : FuncData, (∀ (s : Shared) (u : Value), BindsTo s fd ⟨[u], []⟩ [("script", u)]) ∧ ∀ base : Heap, (∀ p ∈ ([(c_law_is_read_right, P_law_is_read_right), (c_law_are_bounds_right, P_law_are_bounds_right)] : List (Addr × Addr)), LamX.TabB base mg p.1 p.2) → FnG P w M.K mg base CX0 11 fa fd ["script"] (sp_law M) := by
  obtain ⟨fd, h1, h2⟩ := D_law.lawN (P := P) (w := w) (k := 10) (N := ["script", "bag", "known", "lap", "rows", "flags"]) (sp := sp_law M) hfa sc_law (fun _ _ _ _ _ _ us hl => match us, hl with | [_], _ => rfl) (len_law M)
  refine ⟨fd, h1, fun base TB => h2 base ?_⟩
  have TB_law_is_read_right : LamX.TabB base mg c_law_is_read_right P_law_is_read_right := TB (c_law_is_read_right, P_law_is_read_right) (.head _)
  have TB_law_are_bounds_right : LamX.TabB base mg c_law_are_bounds_right P_law_are_bounds_right := TB (c_law_are_bounds_right, P_law_are_bounds_right) (.tail _ (.head _))
  have G_is_integer : Has P w M.K mg base CX0 "is_integer" 1 ["thing"] (sp_is_integer M) := D_is_integer.has (N := ["thing"]) sc_is_integer (fun _ _ _ _ _ _ us hl => match us, hl with | [_], _ => rfl) (len_is_integer M) (fun f cdv A outer s H vs Q E hr h => ⟨t_is_integer M, d_is_integer T hr, p_is_integer vs H Q E h⟩)
  have G_is_within : Has P w M.K mg base CX0 "is_within" 2 ["thing", "low", "high"] (sp_is_within M) := D_is_within.has (N := ["thing", "low", "high"]) sc_is_within (fun _ _ _ _ _ _ us hl => match us, hl with | [_, _, _], _ => rfl) (len_is_within M) (fun f cdv A outer s H vs Q E hr h => ⟨t_is_within M, d_is_within T hr G_is_integer, p_is_within vs H Q E h⟩)
  have G_are_signs : Has P w M.K mg base CX0 "are_signs" 1 ["thing", "most"] (sp_are_signs M) := D_are_signs.has (N := ["thing", "most", "sign"]) sc_are_signs (fun _ _ _ _ _ _ us hl => match us, hl with | [_, _], _ => rfl) (len_are_signs M) (fun f cdv A outer s H vs Q E hr h => ⟨t_are_signs M, d_are_signs T hr, p_are_signs vs H Q E h⟩)
  have G_is_text : Has P w M.K mg base CX0 "is_text" 2 ["thing"] (sp_is_text M) := D_is_text.has (N := ["thing"]) sc_is_text (fun _ _ _ _ _ _ us hl => match us, hl with | [_], _ => rfl) (len_is_text M) (fun f cdv A outer s H vs Q E hr h => ⟨t_is_text M, d_is_text T hr G_are_signs, p_is_text vs H Q E h⟩)
  have G_check_text : Has P w M.K mg base (L2.CX P w) "check_text" 3 ["thing"] (sp_check_text M) := D_check_text.hasX (N := ["thing"]) sc_check_text (fun _ _ _ _ _ _ us hl => match us, hl with | [_], _ => rfl) (len_check_text M) (fun f cdv A outer s H vs Q E hr h => ⟨t_check_text M E, d_check_text T hr G_is_text, p_check_text vs H Q E h⟩)
  have G_is_table : Has P w M.K mg base CX0 "is_table" 3 ["thing"] (sp_is_table M) := D_is_table.has (N := ["thing", "rows", "flags", "one", "row"]) sc_is_table (fun _ _ _ _ _ _ us hl => match us, hl with | [_], _ => rfl) (len_is_table M) (fun f cdv A outer s H vs Q E hr h => ⟨t_is_table M, d_is_table T hr G_is_within, p_is_table vs H Q E h⟩)
  have G_check_table : Has P w M.K mg base (L2.CX P w) "check_table" 4 ["thing"] (sp_check_table M) := D_check_table.hasX (N := ["thing"]) sc_check_table (fun _ _ _ _ _ _ us hl => match us, hl with | [_], _ => rfl) (len_check_table M) (fun f cdv A outer s H vs Q E hr h => ⟨t_check_table M E, d_check_table T hr G_is_table, p_check_table vs H Q E h⟩)
  have G_raw_row_behind : Has P w M.K mg base CX0 "raw_row_behind" 1 ["table", "text"] (sp_raw_row_behind M) := D_raw_row_behind.has (N := ["table", "text", "here", "sign"]) sc_raw_row_behind (fun _ _ _ _ _ _ us hl => match us, hl with | [_, _], _ => rfl) (len_raw_row_behind M) (fun f cdv A outer s H vs Q E hr h => ⟨t_raw_row_behind M, d_raw_row_behind T hr, p_raw_row_behind vs H Q E h⟩)
  have G_table_reads : Has P w M.K mg base (L2.CX P w) "table_reads" 5 ["table", "text"] (sp_table_reads M) := D_table_reads.hasX (N := ["table", "text"]) sc_table_reads (fun _ _ _ _ _ _ us hl => match us, hl with | [_, _], _ => rfl) (len_table_reads M) (fun f cdv A outer s H vs Q E hr h => ⟨t_table_reads M E, d_table_reads T hr G_check_table G_check_text G_raw_row_behind, p_table_reads vs H Q E h⟩)
  have G_row_behind : Has P w M.K mg base (L2.CX P w) "row_behind" 5 ["table", "text"] (sp_row_behind M) := D_row_behind.hasX (N := ["table", "text"]) sc_row_behind (fun _ _ _ _ _ _ us hl => match us, hl with | [_, _], _ => rfl) (len_row_behind M) (fun f cdv A outer s H vs Q E hr h => ⟨t_row_behind M E, d_row_behind T hr G_check_table G_check_text G_raw_row_behind, p_row_behind vs H Q E h⟩)
  have G__law_bag : Has P w M.K mg base CX0 "_law_bag" 1 ["script"] (sp_law_bag M) := D_law_bag.has (N := ["script", "cells", "cell"]) sc_law_bag (fun _ _ _ _ _ _ us hl => match us, hl with | [_], _ => rfl) (len_law_bag M) (fun f cdv A outer s H vs Q E hr h => ⟨t_law_bag M, d_law_bag T hr, p_law_bag vs H Q E h⟩)
  have G__law_pick : Has P w M.K mg base CX0 "_law_pick" 1 ["bag", "width"] (sp_law_pick M) := D_law_pick.has (N := ["bag", "width", "cell", "digit", "number"]) sc_law_pick (fun _ _ _ _ _ _ us hl => match us, hl with | [_, _], _ => rfl) (len_law_pick M) (fun f cdv A outer s H vs Q E hr h => ⟨t_law_pick M, d_law_pick T hr, p_law_pick vs H Q E h⟩)
  have G__law_some : Has P w M.K mg base CX0 "_law_some" 2 ["bag", "things"] (sp_law_some M) := D_law_some.has (N := ["bag", "things"]) sc_law_some (fun _ _ _ _ _ _ us hl => match us, hl with | [_, _], _ => rfl) (len_law_some M) (fun f cdv A outer s H vs Q E hr h => ⟨t_law_some M, d_law_some T hr G__law_pick, p_law_some vs H Q E h⟩)
  have G__law_drawn_table : Has P w M.K mg base CX0 "_law_drawn_table" 3 ["bag", "most"] (sp_law_drawn_table M) := D_law_drawn_table.has (N := ["bag", "most", "many", "rows", "at", "near", "sign"]) sc_law_drawn_table (fun _ _ _ _ _ _ us hl => match us, hl with | [_, _], _ => rfl) (len_law_drawn_table M) (fun f cdv A outer s H vs Q E hr h => ⟨t_law_drawn_table M, d_law_drawn_table T hr G__law_pick G__law_some, p_law_drawn_table vs H Q E h⟩)
  have G__law_table : Has P w M.K mg base CX0 "_law_table" 1 ["rows", "flags"] (sp_law_table M) := D_law_table.has (N := ["rows", "flags", "row"]) sc_law_table (fun _ _ _ _ _ _ us hl => match us, hl with | [_, _], _ => rfl) (len_law_table M) (fun f cdv A outer s H vs Q E hr h => ⟨t_law_table M, d_law_table T hr, p_law_table vs H Q E h⟩)
  have G__law_error : HasL M.K mg "_law_error" "call" s_law_error ["call", "found", "error", "flags"] := D_law_error.hasL sc_law_error (fun _ _ _ _ _ _ us hl => match us, hl with | [_], _ => rfl) rfl (by first | exact Or.inl rfl | exact Or.inr rfl)
  have G__law_behind_text : Has P w M.K mg base CX0 "_law_behind_text" 1 ["rows", "text"] (sp_law_behind_text M) := D_law_behind_text.has (N := ["rows", "text", "at", "sign"]) sc_law_behind_text (fun _ _ _ _ _ _ us hl => match us, hl with | [_, _], _ => rfl) (len_law_behind_text M) (fun f cdv A outer s H vs Q E hr h => ⟨t_law_behind_text M, d_law_behind_text T hr, p_law_behind_text vs H Q E h⟩)
  have G__law_odd_table : Has P w M.K mg base CX0 "_law_odd_table" 3 ["bag", "rows", "flags"] (sp_law_odd_table M) := D_law_odd_table.has (N := ["bag", "rows", "flags", "at", "turn", "place", "told", "many", "row", "odd", "flag", "others"]) sc_law_odd_table (fun _ _ _ _ _ _ us hl => match us, hl with | [_, _, _], _ => rfl) (len_law_odd_table M) (fun f cdv A outer s H vs Q E hr h => ⟨t_law_odd_table M, d_law_odd_table T hr G__law_pick G__law_some, p_law_odd_table vs H Q E h⟩)
  have G__law_is_read_right : Has P w M.K mg base CX0 "_law_is_read_right" 10 ["bag", "rows", "flags"] (sp_law_is_read_right M) := D_law_is_read_right.has (N := ["bag", "rows", "flags", "table", "text", "told", "due", "wrong", "odd", "words", "turn"]) sc_law_is_read_right (fun _ _ _ _ _ _ us hl => match us, hl with | [_, _, _], _ => rfl) (len_law_is_read_right M) (fun f A outer s H vs Q E hr h => ⟨t_law_is_read_right M, d_law_is_read_right T hr G__law_behind_text G__law_error G__law_odd_table G__law_pick G__law_some G__law_table G_is_table G_row_behind G_table_reads (cT := c_law_is_read_right) (PT := P_law_is_read_right) TB_law_is_read_right rfl hm_law_is_read_right hu_law_is_read_right, p_law_is_read_right vs H Q E h⟩)
  have G__law_are_bounds_right : Has P w M.K mg base CX0 "_law_are_bounds_right" 10 ["bag"] (sp_law_are_bounds_right M) := D_law_are_bounds_right.has (N := ["bag", "step", "flag", "many", "is_let", "rows", "table", "at"]) sc_law_are_bounds_right (fun _ _ _ _ _ _ us hl => match us, hl with | [_], _ => rfl) (len_law_are_bounds_right M) (fun f A outer s H vs Q E hr h => ⟨t_law_are_bounds_right M, d_law_are_bounds_right T hr G__law_error G__law_pick G_is_table G_row_behind (cT := c_law_are_bounds_right) (PT := P_law_are_bounds_right) TB_law_are_bounds_right rfl hm_law_are_bounds_right hu_law_are_bounds_right, p_law_are_bounds_right vs H Q E h⟩)
  exact fun f cdv A outer s H vs Q E hgd hr h => ⟨t_law M, d_law T hr G__law_are_bounds_right G__law_bag G__law_drawn_table G__law_is_read_right G_is_table G_row_behind G_table_reads, p_law vs H Q E h⟩
/-! ### the row -/
def clsOf (C_NoTable C_NoText C_ReadError : Addr) : Str → Addr := fun x => if x == ("NoTable" : Str) then C_NoTable else if x == ("NoText" : Str) then C_NoText else C_ReadError
theorem cls_NoTable {C_NoTable C_NoText C_ReadError : Addr} : clsOf C_NoTable C_NoText C_ReadError "NoTable" = C_NoTable := if_pos (by decide +kernel)
theorem cls_NoText {C_NoTable C_NoText C_ReadError : Addr} : clsOf C_NoTable C_NoText C_ReadError "NoText" = C_NoText := (if_neg (by decide +kernel)).trans (if_pos (by decide +kernel))
theorem cls_ReadError {C_NoTable C_NoText C_ReadError : Addr} : clsOf C_NoTable C_NoText C_ReadError "ReadError" = C_ReadError := (if_neg (by decide +kernel)).trans ((if_neg (by decide +kernel)).trans (rfl))
theorem row_mk {K : PySem.W.Frag} {q : Program} {lo : List Str} {mean : ExcName → Option Value} {mb : Str → Option Value} {h : Heap} {fa : Addr} {C_NoTable : Addr} {C_NoText : Addr} {C_ReadError : Addr} {c_law_is_read_right P_law_is_read_right : Addr} {c_law_are_bounds_right P_law_are_bounds_right : Addr} (KX : K.In h) (TT : Top q lo mean mg mb h) (hfa : mg "law" = some (.ref fa))
    (e_NoTable : ErrC K mg "NoTable" C_NoTable)
    (e_NoText : ErrC K mg "NoText" C_NoText)
    (e_ReadError : ErrC K mg "ReadError" C_ReadError)
    (sub1 : PySem.W.subIn K (.ref C_NoTable) (.ref C_ReadError) = some true)
    (sub2 : PySem.W.subIn K (.ref C_NoText) (.ref C_ReadError) = some true)
    (kit1 : PySem.W.kitOne K (.ref C_NoTable) (.ref C_NoTable) = some true)
    (kit2 : PySem.W.kitOne K (.ref C_NoTable) (.ref C_NoText) = some false)
    (kit3 : PySem.W.kitOne K (.ref C_NoTable) (.type "ValueError") = some true)
    (kit4 : PySem.W.kitOne K (.ref C_NoText) (.ref C_NoTable) = some false)
    (kit5 : PySem.W.kitOne K (.ref C_NoText) (.ref C_NoText) = some true)
    (kit6 : PySem.W.kitOne K (.ref C_NoText) (.type "ValueError") = some true)
    (n_ValueError : mg "ValueError" = none)
    (n_all : mg "all" = none)
    (n_bool : mg "bool" = none)
    (n_int : mg "int" = none)
    (n_isinstance : mg "isinstance" = none)
    (n_len : mg "len" = none)
    (n_list : mg "list" = none)
    (n_min : mg "min" = none)
    (n_range : mg "range" = none)
    (n_repr : mg "repr" = none)
    (n_str : mg "str" = none)
    (n_tuple : mg "tuple" = none)
    (g_MOST_ROWS : ∃ t, mg "MOST_ROWS" = some (.int 300 t))
    (g_MOST_TEXT : ∃ t, mg "MOST_TEXT" = some (.int 300 t))
    (g_SIGNS : ∃ t, mg "SIGNS" = some (.str "abcd" t))
    (D_is_integer : DefIn K mg "is_integer" s_is_integer)
    (D_is_within : DefIn K mg "is_within" s_is_within)
    (D_are_signs : DefIn K mg "are_signs" s_are_signs)
    (D_is_text : DefIn K mg "is_text" s_is_text)
    (D_check_text : DefIn K mg "check_text" s_check_text)
    (D_is_table : DefIn K mg "is_table" s_is_table)
    (D_check_table : DefIn K mg "check_table" s_check_table)
    (D_raw_row_behind : DefIn K mg "raw_row_behind" s_raw_row_behind)
    (D_table_reads : DefIn K mg "table_reads" s_table_reads)
    (D_row_behind : DefIn K mg "row_behind" s_row_behind)
    (D_law_bag : DefIn K mg "_law_bag" s_law_bag)
    (D_law_pick : DefIn K mg "_law_pick" s_law_pick)
    (D_law_some : DefIn K mg "_law_some" s_law_some)
    (D_law_drawn_table : DefIn K mg "_law_drawn_table" s_law_drawn_table)
    (D_law_table : DefIn K mg "_law_table" s_law_table)
    (D_law_error : DefIn K mg "_law_error" s_law_error)
    (D_law_behind_text : DefIn K mg "_law_behind_text" s_law_behind_text)
    (D_law_odd_table : DefIn K mg "_law_odd_table" s_law_odd_table)
    (D_law_is_read_right : DefT K mg "_law_is_read_right" s_law_is_read_right c_law_is_read_right)
    (D_law_are_bounds_right : DefT K mg "_law_are_bounds_right" s_law_are_bounds_right c_law_are_bounds_right)
    (D_law : DefIn K mg "law" s_law)
    (tb_law_is_read_right : PySem.W.tabIn K "_law_is_read_right" = some (c_law_is_read_right, P_law_is_read_right))
    (rc_law_is_read_right : ((recsOf q).any fun e => e.name == ("_law_is_read_right" : Str)) = true)
    (tb_law_are_bounds_right : PySem.W.tabIn K "_law_are_bounds_right" = some (c_law_are_bounds_right, P_law_are_bounds_right))
    (rc_law_are_bounds_right : ((recsOf q).any fun e => e.name == ("_law_are_bounds_right" : Str)) = true)
    (nt : PySem.W.noTabs K = true)
    (ne_law_is_read_right_law_are_bounds_right : P_law_is_read_right ≠ P_law_are_bounds_right)
    : LawG P w K 11 63 "script" mg fa h := by
  have T : Tx ⟨K, clsOf C_NoTable C_NoText C_ReadError, [(P_law_is_read_right, ("_law_is_read_right" : Str) ++ ".<locals>." ++ "<lambda>"), (P_law_are_bounds_right, ("_law_are_bounds_right" : Str) ++ ".<locals>." ++ "<lambda>")]⟩ mg := { n_ValueError := n_ValueError, n_all := n_all, n_bool := n_bool, n_int := n_int, n_isinstance := n_isinstance, n_len := n_len, n_list := n_list, n_min := n_min, n_range := n_range, n_repr := n_repr, n_str := n_str, n_tuple := n_tuple, g_MOST_ROWS := g_MOST_ROWS, g_MOST_TEXT := g_MOST_TEXT, g_SIGNS := g_SIGNS, e_NoTable := by (simp only [cls_NoTable, cls_NoText, cls_ReadError]; exact e_NoTable), e_NoText := by (simp only [cls_NoTable, cls_NoText, cls_ReadError]; exact e_NoText), e_ReadError := by (simp only [cls_NoTable, cls_NoText, cls_ReadError]; exact e_ReadError), sub1 := by (simp only [cls_NoTable, cls_NoText, cls_ReadError]; exact sub1), sub2 := by (simp only [cls_NoTable, cls_NoText, cls_ReadError]; exact sub2), kit1 := by (simp only [cls_NoTable, cls_NoText, cls_ReadError]; exact kit1), kit2 := by (simp only [cls_NoTable, cls_NoText, cls_ReadError]; exact kit2), kit3 := by (simp only [cls_NoTable, cls_NoText, cls_ReadError]; exact kit3), kit4 := by (simp only [cls_NoTable, cls_NoText, cls_ReadError]; exact kit4), kit5 := by (simp only [cls_NoTable, cls_NoText, cls_ReadError]; exact kit5), kit6 := by (simp only [cls_NoTable, cls_NoText, cls_ReadError]; exact kit6) }
  obtain ⟨fd, hb, hF⟩ := the_law (P := P) (w := w) T hfa D_is_integer D_is_within D_are_signs D_is_text D_check_text D_is_table D_check_table D_raw_row_behind D_table_reads D_row_behind D_law_bag D_law_pick D_law_some D_law_drawn_table D_law_table D_law_error D_law_behind_text D_law_odd_table D_law_is_read_right D_law_are_bounds_right D_law (.head _) (fun p m e => by (rcases List.mem_cons.mp m with rfl | m2; exact rfl; rcases List.mem_cons.mp m2 with rfl | m3; exact absurd e ne_law_is_read_right_law_are_bounds_right.symm; exact absurd m3 List.not_mem_nil)) (.tail _ (.head _)) (fun p m e => by (rcases List.mem_cons.mp m with rfl | m2; exact absurd e ne_law_is_read_right_law_are_bounds_right; rcases List.mem_cons.mp m2 with rfl | m3; exact rfl; exact absurd m3 List.not_mem_nil))
  refine ⟨⟨fd, [(c_law_is_read_right, P_law_is_read_right), (c_law_are_bounds_right, P_law_are_bounds_right)], sp_law _, fun p m => ?_, hb, fun H a ns hl ht hs => ⟨a, ns, rfl, hs, hl, tabs_nil fun p m => ?_, fun _ => rfl⟩, fun base _ _ TB => hF base TB⟩⟩
  · simp only [List.mem_cons, List.not_mem_nil, or_false] at m
    rcases m with rfl | rfl
    · exact tab_any TT KX rc_law_is_read_right tb_law_is_read_right nt
    · exact tab_any TT KX rc_law_are_bounds_right tb_law_are_bounds_right nt
  · simp only [List.mem_cons, List.not_mem_nil, or_false] at m
    rcases m with rfl | rfl
    · exact ht (c_law_is_read_right, P_law_is_read_right) (.head _)
    · exact ht (c_law_are_bounds_right, P_law_are_bounds_right) (.tail _ (.head _))
end K13

set_option Elab.async false
set_option linter.all false
set_option maxRecDepth 100000
open PySem PySem.W PyProof.Rows
set_option maxHeartbeats 0 in
theorem PySem.Challenge.cw_firstreads_k13_whole_tables_judged_and_r_holds : PySem.Challenge.rw_firstreads_k13_whole_tables_judged_and_r.Holds := by
  w_on; o_law; k_head; (case hw => w_witness2)
  k_fill
  refine FR.walk_G (l := PySem.Challenge.rw_firstreads_k13_whole_tables_judged_and_r) (n := 63) (k := 11) (x := "script") rfl (by decide) rfl ⟨rfl, by decide, by decide⟩ (fun w h Y => by first | exact PySem.W.km_in_of Y | exact PySem.W.kIn_of Y) ?F
  case F =>
    intro w lo mean mg mb fa h KX TT e
    refine' K13.row_mk KX TT e ?e_NoTable ?e_NoText ?e_ReadError ?sub1 ?sub2 ?kit1 ?kit2 ?kit3 ?kit4 ?kit5 ?kit6 ?n_ValueError ?n_all ?n_bool ?n_int ?n_isinstance ?n_len ?n_list ?n_min ?n_range ?n_repr ?n_str ?n_tuple ?g_MOST_ROWS ?g_MOST_TEXT ?g_SIGNS ?D_is_integer ?D_is_within ?D_are_signs ?D_is_text ?D_check_text ?D_is_table ?D_check_table ?D_raw_row_behind ?D_table_reads ?D_row_behind ?D_law_bag ?D_law_pick ?D_law_some ?D_law_drawn_table ?D_law_table ?D_law_error ?D_law_behind_text ?D_law_odd_table ?D_law_is_read_right ?D_law_are_bounds_right ?D_law ?tb_law_is_read_right ?rc_law_is_read_right ?tb_law_are_bounds_right ?rc_law_are_bounds_right ?nt ?ne_law_is_read_right_law_are_bounds_right
    (case e_NoTable => (refine' FR.errC_of KX TT.g ?a ?xc ?kc ?bc ?tc ?ic ?h1 ?h2 ?h4 ?h5 ?h6 ?h7 ?h8; (case a => k_is); (case xc => k_exc); (case kc => k_is); (case bc => k_is); (case tc => k_is); (case ic => k_is); (case h1 => k_is); (case h2 => k_is); (case h4 => k_is); (case h5 => k_is); (case h6 => k_is); (case h7 => k_is); (case h8 => k_is)))
    (case e_NoText => (refine' FR.errC_of KX TT.g ?a ?xc ?kc ?bc ?tc ?ic ?h1 ?h2 ?h4 ?h5 ?h6 ?h7 ?h8; (case a => k_is); (case xc => k_exc); (case kc => k_is); (case bc => k_is); (case tc => k_is); (case ic => k_is); (case h1 => k_is); (case h2 => k_is); (case h4 => k_is); (case h5 => k_is); (case h6 => k_is); (case h7 => k_is); (case h8 => k_is)))
    (case e_ReadError => (refine' FR.errC_of KX TT.g ?a ?xc ?kc ?bc ?tc ?ic ?h1 ?h2 ?h4 ?h5 ?h6 ?h7 ?h8; (case a => k_is); (case xc => k_exc); (case kc => k_is); (case bc => k_is); (case tc => k_is); (case ic => k_is); (case h1 => k_is); (case h2 => k_is); (case h4 => k_is); (case h5 => k_is); (case h6 => k_is); (case h7 => k_is); (case h8 => k_is)))
    (case sub1 => first | k_is | rfl)
    (case sub2 => first | k_is | rfl)
    (case kit1 => first | k_is | rfl)
    (case kit2 => first | k_is | rfl)
    (case kit3 => first | k_is | rfl)
    (case kit4 => first | k_is | rfl)
    (case kit5 => first | k_is | rfl)
    (case kit6 => first | k_is | rfl)
    (case n_ValueError => (refine' PySem.W.mg_none_of KX TT.g ?a; (case a => k_is)))
    (case n_all => (refine' PySem.W.mg_none_of KX TT.g ?a; (case a => k_is)))
    (case n_bool => (refine' PySem.W.mg_none_of KX TT.g ?a; (case a => k_is)))
    (case n_int => (refine' PySem.W.mg_none_of KX TT.g ?a; (case a => k_is)))
    (case n_isinstance => (refine' PySem.W.mg_none_of KX TT.g ?a; (case a => k_is)))
    (case n_len => (refine' PySem.W.mg_none_of KX TT.g ?a; (case a => k_is)))
    (case n_list => (refine' PySem.W.mg_none_of KX TT.g ?a; (case a => k_is)))
    (case n_min => (refine' PySem.W.mg_none_of KX TT.g ?a; (case a => k_is)))
    (case n_range => (refine' PySem.W.mg_none_of KX TT.g ?a; (case a => k_is)))
    (case n_repr => (refine' PySem.W.mg_none_of KX TT.g ?a; (case a => k_is)))
    (case n_str => (refine' PySem.W.mg_none_of KX TT.g ?a; (case a => k_is)))
    (case n_tuple => (refine' PySem.W.mg_none_of KX TT.g ?a; (case a => k_is)))
    (case g_MOST_ROWS => (refine' FR.int_at KX TT.g ?a ?e; (case a => k_is); (case e => first | decide +kernel | rfl)))
    (case g_MOST_TEXT => (refine' FR.int_at KX TT.g ?a ?e; (case a => k_is); (case e => first | decide +kernel | rfl)))
    (case g_SIGNS => (refine' FR.str_at KX TT.g ?a ?e; (case a => k_is); (case e => first | decide +kernel | rfl)))
    (case D_is_integer => (refine' FR.def_in KX TT.g ?a ?l ?c ?k; (case a => k_is); (case l => k_is); (case c => k_is); (case k => k_is)))
    (case D_is_within => (refine' FR.def_in KX TT.g ?a ?l ?c ?k; (case a => k_is); (case l => k_is); (case c => k_is); (case k => k_is)))
    (case D_are_signs => (refine' FR.def_in KX TT.g ?a ?l ?c ?k; (case a => k_is); (case l => k_is); (case c => k_is); (case k => k_is)))
    (case D_is_text => (refine' FR.def_in KX TT.g ?a ?l ?c ?k; (case a => k_is); (case l => k_is); (case c => k_is); (case k => k_is)))
    (case D_check_text => (refine' FR.def_in KX TT.g ?a ?l ?c ?k; (case a => k_is); (case l => k_is); (case c => k_is); (case k => k_is)))
    (case D_is_table => (refine' FR.def_in KX TT.g ?a ?l ?c ?k; (case a => k_is); (case l => k_is); (case c => k_is); (case k => k_is)))
    (case D_check_table => (refine' FR.def_in KX TT.g ?a ?l ?c ?k; (case a => k_is); (case l => k_is); (case c => k_is); (case k => k_is)))
    (case D_raw_row_behind => (refine' FR.def_in KX TT.g ?a ?l ?c ?k; (case a => k_is); (case l => k_is); (case c => k_is); (case k => k_is)))
    (case D_table_reads => (refine' FR.def_in KX TT.g ?a ?l ?c ?k; (case a => k_is); (case l => k_is); (case c => k_is); (case k => k_is)))
    (case D_row_behind => (refine' FR.def_in KX TT.g ?a ?l ?c ?k; (case a => k_is); (case l => k_is); (case c => k_is); (case k => k_is)))
    (case D_law_bag => (refine' FR.def_in KX TT.g ?a ?l ?c ?k; (case a => k_is); (case l => k_is); (case c => k_is); (case k => k_is)))
    (case D_law_pick => (refine' FR.def_in KX TT.g ?a ?l ?c ?k; (case a => k_is); (case l => k_is); (case c => k_is); (case k => k_is)))
    (case D_law_some => (refine' FR.def_in KX TT.g ?a ?l ?c ?k; (case a => k_is); (case l => k_is); (case c => k_is); (case k => k_is)))
    (case D_law_drawn_table => (refine' FR.def_in KX TT.g ?a ?l ?c ?k; (case a => k_is); (case l => k_is); (case c => k_is); (case k => k_is)))
    (case D_law_table => (refine' FR.def_in KX TT.g ?a ?l ?c ?k; (case a => k_is); (case l => k_is); (case c => k_is); (case k => k_is)))
    (case D_law_error => (refine' FR.def_in KX TT.g ?a ?l ?c ?k; (case a => k_is); (case l => k_is); (case c => k_is); (case k => k_is)))
    (case D_law_behind_text => (refine' FR.def_in KX TT.g ?a ?l ?c ?k; (case a => k_is); (case l => k_is); (case c => k_is); (case k => k_is)))
    (case D_law_odd_table => (refine' FR.def_in KX TT.g ?a ?l ?c ?k; (case a => k_is); (case l => k_is); (case c => k_is); (case k => k_is)))
    (case D_law_is_read_right => (refine' FR.def_t KX TT.g ?a ?l ?c ?k; (case a => k_is); (case l => k_is); (case c => k_is); (case k => k_is)))
    (case D_law_are_bounds_right => (refine' FR.def_t KX TT.g ?a ?l ?c ?k; (case a => k_is); (case l => k_is); (case c => k_is); (case k => k_is)))
    (case D_law => (refine' FR.def_in KX TT.g ?a ?l ?c ?k; (case a => k_is); (case l => k_is); (case c => k_is); (case k => k_is)))
    (case tb_law_is_read_right => first | k_is | rfl)
    (case rc_law_is_read_right => kernel_rfl)
    (case tb_law_are_bounds_right => first | k_is | rfl)
    (case rc_law_are_bounds_right => kernel_rfl)
    (case nt => kernel_rfl)
    (case ne_law_is_read_right_law_are_bounds_right => decide)
