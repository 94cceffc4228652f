import PyProof.Rows.All
import Wide.All
import OpenK.AllK
import Wide.FinOn
import HandS.ForMost
import HandS.ForExc
import HandS.Style
import HandS.Walk
import HandS.IsInst
import HandS.ExcIs
import HandS.Lambda
import HandS.EndTab
import HandS.Flow
import HandS.TupMul
import HandS.TupAny
import HandS.Steps
import HandS.SetFor
import HandS.RaiseMore
import HandS.Replace
import KE.GoesZip
import KE.GoesMore
import KE.GoesEnum
import HandS.Zip
import HandS.Small
import HandS.Conv
import PySem.Challenge.RW_firstreads_k01_whole_nodes_and_their_num
set_option Elab.async false
set_option linter.all false
set_option maxRecDepth 100000
set_option maxHeartbeats 4000000
/-! FRA: short words for calls, operators; exceptions without arguments; repr. -/
namespace FR
open PySem PySem.Spec PyProof.Rows L2

/-! ### a def that can be called, by its name -/
structure Has (P : Program) (w : World) (K : PySem.W.Frag) (mg : Str → Option Value) (base : Heap) (CX : CXT) (x : Str) (k : Nat) (ps : List Str) (sp : Sp) : Prop where
  ex : ∃ f fd, mg x = some (.ref f) ∧ PySem.W.keepIn K (.ref f) = true ∧ Binds K fd ps [] ∧ FnOk P w K mg base CX k f fd ps sp
theorem Has.imp {P : Program} {w : World} {K : PySem.W.Frag} {mg : Str → Option Value} {base : Heap} {CX : CXT} {x : Str} {k : Nat} {ps : List Str} {sp sp' : Sp} (h : Has P w K mg base CX x k ps sp)
    (i : ∀ vs H Q E, sp' vs H Q E → sp vs H Q E) : Has P w K mg base CX x k ps sp' := by
  obtain ⟨f, fd, a, b, c, d⟩ := h.ex
  exact ⟨f, fd, a, b, c, d.imp i⟩
section
variable {X : Cx} {CX : CXT} {k : Nat} {ps : List Str} {sp : Sp} {x : Str} {p pos : Pos} {e : Expr} {es : List Expr} {t : TA}
theorem pc {E : XK} (h : Has X.prog X.w X.K X.mg X.base CX x k ps sp) (hr : Room k X.A) (hg : Gl X x) (hx : Passes CX X E) (ha : PA X (e :: es) t)
    (hdb : (x == ("__debug__" : Str)) = false := by decide) (he : starEach (e :: es) X.env = (false, eval e X.env) :: starEach es X.env := by rfl) (hpl : (backTo pos (starEach es X.env)).any (·.1) = false := by rfl) :
    PE X (.Call (.Name x p) (e :: es) [] pos) (tCall sp [] E t) := by
  obtain ⟨f, fd, a, b, c, d⟩ := h.ex
  exact pe_call d hr hg a b c .nil hx ha hdb he hpl
theorem pc0 {E : XK} (h : Has X.prog X.w X.K X.mg X.base CX x k ps sp) (hr : Room k X.A) (hg : Gl X x) (hx : Passes CX X E)
    (hdb : (x == ("__debug__" : Str)) = false := by decide) : PE X (.Call (.Name x p) [] [] pos) (tCall sp [] E tNil) := by
  obtain ⟨f, fd, a, b, c, d⟩ := h.ex
  exact pe_call0 d hr hg a b c .nil hx hdb
/-- within a try -/
theorem pcS {E : L2.St → XK} (h : Has X.prog X.w X.K X.mg X.base CX x k ps sp) (hr : Room k X.A) (hg : Gl X x) (hx : ∀ σ, PassesAt CX X σ (E σ)) (ha : PA X (e :: es) t)
    (hdb : (x == ("__debug__" : Str)) = false := by decide) (he : starEach (e :: es) X.env = (false, eval e X.env) :: starEach es X.env := by rfl) (hpl : (backTo pos (starEach es X.env)).any (·.1) = false := by rfl) :
    PE X (.Call (.Name x p) (e :: es) [] pos) (tCallS sp E t) := by
  obtain ⟨f, fd, a, b, c, d⟩ := h.ex
  exact pe_callS d hr hg a b c hx ha hdb he hpl
end

/-! ### operators by name -/
abbrev rAddI : R2 := rI0 fun i j => .int (i + j)
abbrev rSubI : R2 := rI0 fun i j => .int (i - j)
abbrev rMulI : R2 := rI CMul fun i j => .int (i * j)
abbrev rFdivI : R2 := rI CDiv fun i j => .int (i / j)
abbrev rModI : R2 := rI (fun _ j => 0 < j) fun i j => .int (i % j)
abbrev rPowI : R2 := rI CPow fun i j => .int (i ^ j.toNat)
abbrev rLtI : R2 := rI0 fun i j => .bl (decide (i < j))
abbrev rLeI : R2 := rI0 fun i j => .bl (decide (i ≤ j))
abbrev rGtI : R2 := rI0 fun i j => .bl (decide (j < i))
abbrev rGeI : R2 := rI0 fun i j => .bl (decide (j ≤ i))
abbrev rNegI : V → Hp → VK → Prop := rU fun i => .int (-i)
abbrev rAddStr : R2 := fun x y H Q => ∃ i j, x = .str i ∧ y = .str j ∧ i.length + j.length ≤ sizeLine ∧ Q (.str (i ++ j)) H
abbrev rInStr : R2 := fun x y H Q => ∃ i j, x = .str i ∧ y = .str j ∧ Q (.bl (!(Builtin.Str.occurrences j i 0 j.length 1).isEmpty)) H
abbrev rNotInStr : R2 := fun x y H Q => ∃ i j, x = .str i ∧ y = .str j ∧ Q (.bl (!(!(Builtin.Str.occurrences j i 0 j.length 1).isEmpty))) H
abbrev rIsNon : R2 := fun x y H Q => y = .non ∧ Q (.bl (decide (x = .non))) H
abbrev rNotNon : R2 := fun x y H Q => y = .non ∧ Q (.bl (!decide (x = .non))) H
abbrev rLenV (K : PySem.W.Frag) : List V → Hp → VK → Prop := fun xs H Q => ∃ x n, xs = [x] ∧ LenV K x H n ∧ Q (.int n) H
abbrev rInt1 : List V → Hp → VK → Prop := fun xs H Q => (∃ i, xs = [.int i] ∧ Q (.int i) H) ∨ ∃ k, xs = [.bl k] ∧ Q (.int (if k then 1 else 0)) H
abbrev rAbs1 : List V → Hp → VK → Prop := fun xs H Q => ∃ i, xs = [.int i] ∧ Q (.int (if i < 0 then -i else i)) H
abbrev rTupOf (K : PySem.W.Frag) : List V → Hp → VK → Prop := fun xs H Q => ∃ p ys, xs = [.ref p] ∧ ((SqL K H p ys ∧ ∀ l, H l = none → Q (.ref l) (upd H l (.tup ys))) ∨ (SqT K H p ys ∧ Q (.ref p) H))
abbrev rLstOf (K : PySem.W.Frag) : List V → Hp → VK → Prop := fun xs H Q => ∃ p ys, xs = [.ref p] ∧ (SqL K H p ys ∨ SqT K H p ys) ∧ ∀ l, H l = none → Q (.ref l) (upd H l (.lst ys))
abbrev rJoin (K : PySem.W.Frag) : V → List V → Hp → VK → Prop := fun x xs H Q => ∃ a p, ∃ ys : List Str, x = .str a ∧ xs = [.ref p] ∧ (SqL K H p (ys.map V.str) ∨ SqT K H p (ys.map V.str)) ∧
    (ys.map (·.length)).sum + ys.length * a.length ≤ 16777216 ∧ Q (.str (Txt.join a ys)) H

/-! ### X(), an exception of an own class without arguments -/
section
variable {X : Cx} {C : Addr} {bmB : List Value} {B newId initId : String}
theorem pmk_own0 {x : Str} {p pos : Pos} (F : ExcBaseFacts B newId initId bmB) (q : PySem.W.excIn X.K C bmB newId = true) (gC : X.mg x = some (.ref C)) (kC : PySem.W.keepIn X.K (.ref C) = true) (r : Raises X (.ref C)) (hg : Gl X x)
    (hdb : (x == ("__debug__" : Str)) = false := by decide) : PMk X (.Call (.Name x p) [] [] pos) (fun _ H Q => Q (.ref C) none H) := by
  intro pins s σ H Q I h
  refine wpAny_Call_Name_kw (ld_glob I hg gC ?_ hdb)
  refine PySem.W.callWith_K0 I.kIn kC ?_
  obtain ⟨bm, N, nm, qn, bs, hdct, sn, sub, ab, col, dd, k0, k1, k2, k3, k5, mN, hC, hN, hni, T⟩ := exc_obj I.kIn q
  refine wpAny_call_exc_subT F T hC hN hni (fun h' e hm => ?_) (by show 0 ≤ sizeLine; exact Nat.zero_le _)
  exact mk_of I hm r h (I.hok.gone hm.new)
end
end FR

set_option Elab.async false
set_option linter.all false
set_option maxRecDepth 100000
set_option maxHeartbeats 4000000
/-! FRB: defs that lean on the guards being known (repr of tuples and lists); repr of data. -/
namespace FR
open PySem PySem.Spec PyProof.Rows L2
/-- as FnOk, where no repr is under way -/
structure FnG (P : Program) (w : World) (K : PySem.W.Frag) (mg : Str → Option Value) (base : Heap) (CX : CXT) (k : Nat) (f : Addr) (fd : FuncData) (ps : List Str) (sp : Sp) : Prop where
  len : ∀ vs H Q E, sp vs H Q E → vs.length = ps.length
  run : ∀ (A : Around) (outer : List Env) (s : Shared) (H : Hp) (args : Args) (us : List Value) (vs : List V) (Q : VK) (E : XK), A.guards = some [] → Room k A →
    Env0 P w K mg base A outer s H → BindsTo s fd args (ps.zip us) → Vals vs us → sp vs H Q E → codeAny (model P w) A (.call (.ref f) args) (CR CX outer P w H s Q E) s
theorem FnG.of {P : Program} {w : World} {K : PySem.W.Frag} {mg : Str → Option Value} {base : Heap} {CX : CXT} {k : Nat} {f : Addr} {fd : FuncData} {ps : List Str} {sp : Sp}
    (F : FnOk P w K mg base CX k f fd ps sp) : FnG P w K mg base CX k f fd ps sp := ⟨F.len, fun A outer s H args us vs Q E _ => F.run A outer s H args us vs Q E⟩
structure HasG (P : Program) (w : World) (K : PySem.W.Frag) (mg : Str → Option Value) (base : Heap) (CX : CXT) (x : Str) (k : Nat) (ps : List Str) (sp : Sp) : Prop where
  ex : ∃ f fd, mg x = some (.ref f) ∧ PySem.W.keepIn K (.ref f) = true ∧ Binds K fd ps [] ∧ FnG P w K mg base CX k f fd ps sp
section
variable {X : Cx} {CX : CXT} {k : Nat} {ps : List Str} {sp : Sp} {x : Str} {p pos : Pos} {e : Expr} {es : List Expr} {t : TA}
theorem runG {f : Addr} {fd : FuncData} {E : XK} {pins : List (Addr × Obj)} {σ : L2.St} {H : Hp} {s : Shared} {Q : VK} {us : List Value} {vs : List V} (F : FnG X.prog X.w X.K X.mg X.base CX k f fd ps sp) (hgd : X.A.guards = some []) (hr : Room k X.A)
    (hb : Binds X.K fd ps []) (hx : Passes CX X E) (I : Inv X pins σ H s) (r : Vals vs us) (h : sp vs H Q E) : wpAny (model X.prog X.w) X.A (call (.ref f) us) (EP X pins σ Q) X.xe s := by
  have hl : (us ++ []).length = ps.length := by
    rw [List.append_nil, ← r.length]
    exact F.len _ _ _ _ h
  have hbt := hb s us I.kIn hl
  rw [List.append_nil] at hbt
  refine wpAny_call (codeAny_mono (F.run X.A X.stack s H ⟨us, []⟩ us vs Q E hgd hr I.env0 hbt r h) fun res s' hq => ?_)
  match res, hq with
  | .error err, hq => exact hx pins σ H s err s' I hq
  | .ok (.ret u), hq => exact I.after hq
  | .ok .next, hq => exact hq.elim
  | .ok .brk, hq => exact hq.elim
  | .ok .cont, hq => exact hq.elim
theorem pcG {E : XK} (h : HasG X.prog X.w X.K X.mg X.base CX x k ps sp) (hgd : X.A.guards = some []) (hr : Room k X.A) (hg : Gl X x) (hx : Passes CX X E) (ha : PA X (e :: es) t)
    (hdb : (x == ("__debug__" : Str)) = false := by decide) (he : starEach (e :: es) X.env = (false, eval e X.env) :: starEach es X.env := by rfl) (hpl : (backTo pos (starEach es X.env)).any (·.1) = false := by rfl) :
    PE X (.Call (.Name x p) (e :: es) [] pos) (tCall sp [] E t) := by
  obtain ⟨f, fd, hm, hk, hb, F⟩ := h.ex
  refine ⟨fun pins s σ H Q I hw => wpAny_Call_Name_kw (ld_glob I hg hm ?_ hdb)⟩
  refine PySem.W.callWith_K (h₀ := X.base) I.ok.mod.kin hk (thn (ha.run pos pins s σ H _ I hw) fun us s1 hh => ?_) he hpl
  obtain ⟨vs, H1, I1, r, q⟩ := hh
  rw [List.append_nil] at q
  exact ⟨I1.kIn, runG F hgd hr hb hx I1 r q⟩
end
/-- a def's body keeps its promise -/
theorem fnG_of {CX : CXT} {P : Program} {w : World} {K : PySem.W.Frag} {mg : Str → Option Value} {base : Heap} {k : Nat} {f : Addr} {name qual : Str} {params : Arguments} {body : List Stmt} {scope : Scope} {dV kV doc pm cdv ct oc : Value} {an od : Option Addr}
    {osl : Array (Option Value)} {N ps : List Str} {sp : Sp} (lk : K.lookup f = some ⟨oc, od, .func (PySem.W.fnOf name qual params body scope dV kV doc pm an cdv ct), osl⟩) (hcd : PySem.W.codeIn K cdv qual = true) (S : FnScope N ps scope)
    (len : ∀ vs H Q E, sp vs H Q E → vs.length = ps.length)
    (hbody : ∀ (A : Around) (outer : List Env) (s : Shared) (H : Hp) (vs : List V) (Q : VK) (E : XK), A.guards = some [] → Room k (A.deeper (envOfC qual scope s.heap.objs.size f cdv)) → sp vs H Q E →
      ∃ t, PSs (cxOf CX P w K mg base N qual scope f cdv A outer s H E) body t ∧ t { nx := fun _ H' => Q .non H', rt := Q } (L2.start N vs) H) :
    FnG P w K mg base CX (k + 1) f (PySem.W.fnOf name qual params body scope dV kV doc pm an cdv ct) ps sp := by
  refine ⟨len, fun A outer s H args us vs Q E hgd hr e0 hb r hsp => ?_⟩
  exact LamX.run_ofS lk hcd S hr e0 hb r (len _ _ _ _ hsp) fun hr' => hbody A outer s H vs Q E hgd hr' hsp
theorem Fun.okG {P : Program} {w : World} {K : PySem.W.Frag} {mg : Str → Option Value} {base : Heap} {x qual : Str} {st : Stmt} {f : Addr} {fd : FuncData} {N ps : List Str} {k : Nat} {sp : Sp} (F : Fun K x qual st f fd) (S : FnScope N ps (defScope st))
    (len : ∀ vs H Q E, sp vs H Q E → vs.length = ps.length)
    (hbody : ∀ (cdv : Value) (A : Around) (outer : List Env) (s : Shared) (H : Hp) (vs : List V) (Q : VK) (E : XK), A.guards = some [] → Room k (A.deeper (envOfC qual (defScope st) s.heap.objs.size f cdv)) → sp vs H Q E →
      ∃ t, PSs (cxOf CX0 P w K mg base N qual (defScope st) f cdv A outer s H E).nox (defBody st) t ∧ t { nx := fun _ H' => Q .non H', rt := Q } (L2.start N vs) H) : FnG P w K mg base CX0 (k + 1) f fd ps sp := by
  obtain ⟨oc, od, kV, doc, pm, an, cdv, ct, osl, hfd, lk, hcd⟩ := F.ex
  subst hfd
  refine fnG_of lk hcd S len fun A outer s H vs Q E hgd hr hsp => ?_
  obtain ⟨t, ht, hq⟩ := hbody cdv A outer s H vs Q E hgd hr hsp
  exact ⟨t, ht.nox, hq⟩
/-! ### repr of data -/
theorem Dp.noDict {K : PySem.W.Frag} {H : Hp} : ∀ (d : PyData) (v : V), Dp K H v d → d.hasDict = false
  | .none, _, _ => rfl
  | .bool _, _, _ => rfl
  | .int _, _, _ => rfl
  | .str _, _, _ => rfl
  | .list ds, _, h => by
    cases h with
    | lst _ ha =>
      show PyData.hasDictAll ds = false
      exact go ds _ ha
  | .tuple ds, _, h => by
    cases h with
    | tup _ ha =>
      show PyData.hasDictAll ds = false
      exact go ds _ ha
  | .dict _, _, h => by cases h
where
  go : ∀ (ds : List PyData) (vs : List V), DpAll K H vs ds → PyData.hasDictAll ds = false
  | [], _, _ => rfl
  | d :: ds, _, h => by
    cases h with
    | cons h1 h2 =>
      show (d.hasDict || PyData.hasDictAll ds) = false
      rw [Dp.noDict d _ h1, go ds _ h2]
      rfl
def rReprD (K : PySem.W.Frag) : List V → Hp → VK → Prop := fun xs H Q => ∃ (a : Addr) (d : PyData), xs = [.ref a] ∧ Dp K H (.ref a) d ∧ d.showable = true ∧ d.depth ≤ 30 ∧ d.shown.length ≤ sizeLine ∧ Q (.str d.shown) H
theorem call_reprD {X : Cx} (hgd : X.A.guards = some []) (hu : X.A.units + 64 < cLine) : CallR X (.builtin "repr") (rReprD X.K) := by
  intro pins s σ H xs us Q I r h
  obtain ⟨a, d, rfl, hd, hs, hdp, hz, q⟩ := h
  cases r with
  | cons rx rn =>
    cases rn
    cases rx
    obtain ⟨as, rr⟩ := Dp.reads I d _ _ hd rfl
    refine repr_of_reads' rr hs (fun z => ?_) hgd (by omega) (fun _ _ e => e) (fun h' u tk hk => ?_) hz
    · rw [Dp.noDict d _ hd] at z
      cases z
    · exact ⟨.str d.shown, H, I.kept (h' := h') (t' := tk) hk, ⟨u, rfl⟩, q⟩
theorem hu64 {A : Around} {k : Nat} (hr : Room k A) : A.units + 64 < cLine := hr.units
end FR

set_option Elab.async false
set_option linter.all false
set_option maxRecDepth 100000
set_option maxHeartbeats 4000000
/-! FRC: what a law's defs share: the written part, the classes' addresses, the tables of lambdas; a def that calls the lambda it got. -/
namespace FR
open PySem PySem.Spec PyProof.Rows L2
/-- the written part, where the classes stand, the tables of the defs that make lambdas -/
structure Pm where
  K : PySem.W.Frag
  cls : Str → Addr
  tabs : List (Addr × Str)
/-- a wish that holds only at slots of the frame's own length -/
theorem takes_len {X : Cx} {W : WX} (t : Takes X W) : Takes X (fun cls d σ H => σ.length = X.N.length → W cls d σ H) := fun u s' h => by
  obtain ⟨a, B, sI, pins, σ, H, cls, d, e, I, nb, up, sky, na, os, ag, h⟩ := h
  exact t u s' ⟨a, B, sI, pins, σ, H, cls, d, e, I, nb, up, sky, na, os, ag, h I.len⟩
/-- an own class of errors -/
structure ErrC (K : PySem.W.Frag) (mg : Str → Option Value) (x : Str) (C : Addr) : Prop where
  g : mg x = some (.ref C)
  x : PySem.W.excIn K C [.type "ValueError", .type "Exception", .type "BaseException", .type "object"] "ValueError.__new__" = true
  k : PySem.W.keepIn K (.ref C) = true
  b : PySem.W.subIn K (.ref C) (.type "BaseException") = some true
  t : PySem.W.typeIn K (.ref C) = some (.type "type")
  i : PySem.W.isClsIn K C = true
  c : ExcC K C
/-- a def that is handed a lambda -/
structure HasL (K : PySem.W.Frag) (mg : Str → Option Value) (x a : Str) (st : Stmt) (Ng : List Str) : Prop where
  ex : ∃ (g : Addr) (oc : Value) (od : Option Addr) (dV kV doc pm : Value) (an : Option Addr) (cdv ct : Value) (osl : Array (Option Value)),
    mg x = some (.ref g) ∧ PySem.W.keepIn K (.ref g) = true ∧ K.lookup g = some ⟨oc, od, .func (PySem.W.fnOf x x (defArgs st) (defBody st) (defScope st) dV kV doc pm an cdv ct), osl⟩ ∧
      PySem.W.codeIn K cdv x = true ∧ L2.Binds K (PySem.W.fnOf x x (defArgs st) (defBody st) (defScope st) dV kV doc pm an cdv ct) [a] []
  sc : FnScope Ng [a] (defScope st)
  n0 : Ng[0]? = some a
  vis : Vis (defScope st) a
section
variable {X : Cx}
theorem plam {T : List (Addr × Str)} {TT : (XK → Hp → VK → Prop) → Hp → VK → Prop} {x a : Str} {c P : Addr} {k : Nat} {st : Stmt} {Ng : List Str} {params : Arguments} {body : Expr} {scope : Scope} {t : XK → TE} {p lpos pos : Pos}
    (h : HasL X.K X.mg x a st Ng) (hG : ∀ (g : Addr) (cdv : Value), LamX.GivesTo X Ng x (defScope st) g cdv (defBody st) a (X.env.qual ++ "<lambda>") TT) (hg : Gl X x)
    (TB : LamX.TabB X.base X.mg c P) (hcode : X.env.code = .ref c) (hmT : (P, X.env.qual ++ "<lambda>") ∈ T) (hu : ∀ p ∈ T, p.1 = P → p.2 = X.env.qual ++ "<lambda>") (hr : Room (k + 2) X.A)
    (L : LamX.LamS X.env.scope scope) (hdef : defaultsOf params X.env = ([], []))
    (hbind : ∀ (q : Str) (cl : List (Str × Addr)) (pm cv ctv : Value), bindArgs (PySem.W.kla_fn "<lambda>" q params body scope cl pm cv ctv) ⟨[], []⟩ = pure [])
    (hbody : ∀ (A : Around) (outer : List Env) (s : Shared) (H : Hp) (E : XK) (f c' : Addr), Room k (A.deeper (LamX.lamEnv X scope s.heap.objs.size f c')) → PE (LamX.lamCx X A outer s H E scope f c') body (t E))
    (hdb : (x == ("__debug__" : Str)) = false := by decide) (hd : (a == ("__debug__" : Str)) = false := by decide) (hcd : (a == ("__classdict__" : Str)) = false := by decide) :
    PE X (.Call (.Name x p) [.Lambda params body scope lpos] [] pos) (LamX.tLam T TT t) := by
  obtain ⟨g, oc, od, dV, kV, doc, pm, an, cdv, ct, osl, h1, h2, h3, h4, h5⟩ := h.ex
  exact LamX.pe_lamcall hg h1 h2 h3 h4 h5 h.sc h.n0 h.vis (hG g cdv) TB hcode hmT hu hr L hdef hbind hbody hdb hd hcd
/-- what leaves a lambda's body is what its caller wishes -/
theorem passLam {A : Around} {outer : List Env} {s : Shared} {H : Hp} {E : XK} {scope : Scope} {f c' : Addr} : Passes (L2.CX X.prog X.w) (LamX.lamCx X A outer s H E scope f c') E :=
  passes_call (W := fun cls d _ H => E cls d H) (takes_of rfl rfl rfl rfl) fun _ _ _ _ h => h
end
/-- isinstance(error, C) in the suite, the error's class being told -/
abbrev rIsErr (K : PySem.W.Frag) (a : Addr) (cls : Value) (d : Option Addr) : List V → Hp → VK → Prop := fun xs H Q => ∃ (D : Addr) (c : V) (cv : Value) (b : Bool), cls = .ref D ∧ d = none ∧ ExcC K D ∧ xs = [.ref a, c] ∧ (∀ u, RelV c u → u = cv) ∧ PySem.W.kitOne K (.ref D) cv = some b ∧ Q (.bl b) H
theorem call_isErr {X : Cx} {a : Addr} {cls : Value} {d : Option Addr} {oe : Obj} {pn : List (Addr × Obj)} (hz : Zc cls d oe) (hf : ∃ vs, oe.data = .fields vs) : CallR (X.suite a ((a, oe) :: pn)) (.builtin "isinstance") (rIsErr X.K a cls d) := by
  intro pins s σ H xs us Q I r h
  obtain ⟨D, c, cv, b, e1, e2, C, e3, e4, e5, q⟩ := h
  subst e1 e2
  exact call_isE C hz hf pins s σ H xs us Q I r ⟨c, cv, b, e3, e4, e5, q⟩
end FR

set_option Elab.async false
set_option linter.all false
set_option maxRecDepth 100000
set_option maxHeartbeats 4000000
/-! FRM: what a reading's steps want: heaps that keep what they hold, tests, codes of texts. -/
namespace FR
open PySem PySem.Spec PyProof.Rows L2
/-! ### heaps -/
/-- all that was tracked stands, but at S -/
def Keep (S : List Addr) (H H' : Hp) : Prop := ∀ b o, H b = some o → b ∉ S → H' b = some o
theorem Keep.refl {S : List Addr} {H : Hp} : Keep S H H := fun _ _ h _ => h
theorem Keep.trans {S : List Addr} {H H1 H2 : Hp} (a : Keep S H H1) (b : Keep S H1 H2) : Keep S H H2 := fun c o h n => b c o (a c o h n) n
theorem Keep.mono {S T : List Addr} {H H1 : Hp} (a : Keep S H H1) (h : ∀ x ∈ S, x ∈ T) : Keep T H H1 := fun c o e n => a c o e fun z => n (h c z)
theorem Keep.of0 {T : List Addr} {H H1 : Hp} (a : Keep [] H H1) : Keep T H H1 := a.mono fun _ z => nomatch z
theorem Keep.new {S : List Addr} {H : Hp} {p : Addr} {o : HO} (h : H p = none) : Keep S H (upd H p o) := fun b u e _ => by
  rw [upd_ne (ne_of_none e h)]
  exact e
theorem Keep.put {S : List Addr} {H : Hp} {p : Addr} {o : HO} (h : p ∈ S) : Keep S H (upd H p o) := fun b u e n => by
  rw [upd_ne (fun z => n (by rw [z]; exact h))]
  exact e
theorem Keep.at {S : List Addr} {H H1 : Hp} {p : Addr} {o : HO} (k : Keep S H H1) (e : H p = some o) (n : p ∉ S := by simp) : H1 p = some o := k p o e n
/-- what was new is changed: nothing else is -/
theorem Keep.own {S : List Addr} {H H1 : Hp} {p : Addr} {o : HO} (k : Keep S H H1) (h : H p = none) : Keep S H (upd H1 p o) := fun b u e n => by
  rw [upd_ne (ne_of_none e h)]
  exact k b u e n
/-- changes at what was not there ahead are none -/
theorem Keep.drop {S : List Addr} {H H1 H2 : Hp} {p : Addr} (k : Keep S H H1) (k2 : Keep (p :: S) H1 H2) (h : H p = none) : Keep S H H2 := fun b u e n =>
  k2 b u (k b u e n) fun z => by
    rcases List.mem_cons.mp z with z | z
    · exact ne_of_none e h z
    · exact n z
theorem Keep.none {S : List Addr} {H H1 : Hp} {p : Addr} (k : Keep S H H1) (hp : H1 p = Option.none) (n : p ∉ S := by simp) : H p = Option.none := by
  cases q : H p with
  | none => rfl
  | some o => rw [k p o q n] at hp; cases hp
theorem Keep.sqT {S : List Addr} {H H1 : Hp} {K : PySem.W.Frag} {a : Addr} {xs : List V} (k : Keep S H H1) (h : SqT K H a xs) (n : a ∉ S := by simp) : SqT K H1 a xs := by
  rcases h with (h | ⟨o, h⟩) | h
  · exact .inl (.inl (k _ _ h n))
  · exact .inl (.inr ⟨o, k _ _ h n⟩)
  · exact .inr h
theorem Keep.sqL {S : List Addr} {H H1 : Hp} {K : PySem.W.Frag} {a : Addr} {xs : List V} (k : Keep S H H1) (h : SqL K H a xs) (n : a ∉ S := by simp) : SqL K H1 a xs := by
  rcases h with (h | ⟨o, h⟩) | h
  · exact .inl (.inl (k _ _ h n))
  · exact .inl (.inr ⟨o, k _ _ h n⟩)
  · exact .inr h
/-! ### tests -/
theorem iteB {A B : Prop} {c : Bool} (h1 : c = true → A) (h2 : c = false → B) : if c = true then A else B := by
  cases c with
  | true => rw [if_pos rfl]; exact h1 rfl
  | false => rw [if_neg Bool.false_ne_true]; exact h2 rfl
theorem if1 {A B : Prop} {c : Bool} (hc : c = true) (h : A) : if c = true then A else B := by
  rw [if_pos hc]; exact h
theorem if0 {A B : Prop} {c : Bool} (hc : c = false) (h : B) : if c = true then A else B := by
  rw [hc, if_neg Bool.false_ne_true]; exact h
/-! ### codes -/
abbrev cs (z : Str) : List Nat := z.cps.toList
theorem str_ext {x y : Str} (h : cs x = cs y) : x = y := by
  cases x; cases y
  simp only [cs] at h
  congr
  exact Array.toList_inj.mp h
theorem len_cs (z : Str) : z.length = (cs z).length := (Array.length_toList (xs := z.cps)).symm
theorem cs_cut1 (z : Str) : cs (cutS z (some 1) none) = (cs z).drop 1 := by
  show (((z.cps.toList.drop (HT.sIx z.length 0 (some ((1 : Nat) : Int)))).take (HT.sIx z.length z.length none - HT.sIx z.length 0 (some ((1 : Nat) : Int)))).toArray).toList = _
  rw [List.toList_toArray, HT.sIx_nat, HT.sIx_none, len_cs]
  rcases h : cs z with _ | ⟨a, r⟩
  · simp [show z.cps.toList = [] from h]
  · rw [show z.cps.toList = a :: r from h]
    simp
theorem cs_head1 (z : Str) : cs (cutS z none (some 1)) = (cs z).take 1 := by
  show (((z.cps.toList.drop (HT.sIx z.length 0 none)).take (HT.sIx z.length z.length (some ((1 : Nat) : Int)) - HT.sIx z.length 0 none)).toArray).toList = _
  rw [List.toList_toArray, HT.sIx_nat, HT.sIx_none, len_cs]
  rcases h : cs z with _ | ⟨a, r⟩
  · simp [show z.cps.toList = [] from h]
  · rw [show z.cps.toList = a :: r from h]
    simp
theorem one_eq {c d : Nat} : decide (V.str ⟨#[c]⟩ = V.str ⟨#[d]⟩) = decide (c = d) := by
  by_cases h : c = d
  · subst h; simp
  · rw [decide_eq_false h, decide_eq_false]
    intro z
    injection z with z
    injection z with z
    simp at z
    exact h z
theorem str_eq {x y : Str} : decide (V.str x = V.str y) = decide (x = y) := by
  by_cases h : x = y
  · subst h; simp
  · rw [decide_eq_false h, decide_eq_false]
    intro z
    injection z with z
    exact h z
theorem atI_head {z : Str} {c : Nat} {r : List Nat} (h : cs z = c :: r) : atI z.cps.toList 0 = some c := by
  rw [show z.cps.toList = c :: r from h]
  exact atI_nat (j := 0) rfl
theorem sz_of {n m : Nat} (h : n ≤ m) (hm : m ≤ 16777216 := by decide) : n ≤ sizeLine := by
  rw [sizeLine_eq]; exact Nat.le_trans h hm
theorem szl_of {n m : Nat} (h : n ≤ m) (hm : m < 16777216 := by decide) : n < sizeLine := by
  rw [sizeLine_eq]; exact Nat.lt_of_le_of_lt h hm
theorem take_more {α : Type} : ∀ {l : List α} {i : Nat} {x : α}, l[i]? = some x → l.take (i + 1) = l.take i ++ [x]
  | [], i, x, h => by simp at h
  | a :: l, 0, x, h => by
    have e : a = x := Option.some.inj h
    subst e
    rfl
  | a :: l, i + 1, x, h => by
    have ih := take_more (l := l) (i := i) (x := x) h
    show a :: l.take (i + 1) = a :: l.take i ++ [x]
    rw [ih]
    rfl
end FR

set_option Elab.async false
set_option linter.all false
set_option maxRecDepth 100000
set_option maxHeartbeats 4000000
/-! FRS: the readings' steps, one lemma a rule. -/
namespace FR
open PySem PySem.Spec PyProof.Rows L2
section
variable {K : PySem.W.Frag} {H : Hp} {Q : VK} {a : Addr} {xs ys : List V} {v x y : V} {z : Str} {i : Int}
theorem s_ixL (h : SqL K H a xs) (e : atI xs i = some v) (q : Q v H) : rIxL K (.ref a) (.int i) H Q := ⟨a, xs, i, v, rfl, rfl, h, e, q⟩
theorem s_ixT (h : SqT K H a xs) (e : atI xs i = some v) (q : Q v H) : rIxT K (.ref a) (.int i) H Q := ⟨a, xs, i, v, rfl, rfl, h, e, q⟩
theorem s_ixS {c : Nat} (h : z.length ≤ sizeLine) (e : atI z.cps.toList i = some c) (q : Q (.str ⟨#[c]⟩) H) : rIxS (.str z) (.int i) H Q := ⟨z, i, c, rfl, rfl, h, e, q⟩
theorem s_lenS (h : z.length ≤ sizeLine) (q : Q (.int z.length) H) : rLenV K [.str z] H Q := ⟨_, _, rfl, ⟨h, rfl⟩, q⟩
theorem s_lenL (h : SqL K H a xs) (q : Q (.int xs.length) H) : rLenV K [.ref a] H Q := ⟨_, _, rfl, .inl ⟨_, h, rfl⟩, q⟩
theorem s_lenT (h : SqT K H a xs) (q : Q (.int xs.length) H) : rLenV K [.ref a] H Q := ⟨_, _, rfl, .inr ⟨_, h, rfl⟩, q⟩
theorem s_isi {A T : String} {b : Bool} (t : TyX K H v (.type A)) (k : kitB A T = some b) (q : Q (.bl b) H) : rIsi K [v, .ty T] H Q := ⟨v, .ty T, _, _, b, rfl, .ty T, t, kit_ty k, q⟩
theorem s_isiS {T : String} {b : Bool} (k : kitB "str" T = some b) (q : Q (.bl b) H) : rIsi K [.str z, .ty T] H Q := s_isi (.base (.str z)) k q
theorem s_app {l : Addr} (h : H l = some (.lst xs)) (hz : xs.length < sizeLine) (q : Q .non (upd H l (.lst (xs ++ [v])))) : rAppend (.ref l) [v] H Q := ⟨l, xs, v, rfl, rfl, h, hz, q⟩
theorem s_pop {l : Addr} (h : H l = some (.lst (xs ++ [v]))) (q : Q v (upd H l (.lst xs))) : rPop (.ref l) [] H Q := by
  refine ⟨l, xs ++ [v], v, rfl, rfl, h, by simp, ?_⟩
  rw [List.dropLast_concat]
  exact q
theorem s_all {bs : List Bool} (h : SqL K H a (bs.map V.bl)) (q : Q (.bl (bs.all id)) H) : rAll K [.ref a] H Q := ⟨a, bs, rfl, h, q⟩
theorem s_join {w : Str} {zs : List Str} (h : SqL K H a (zs.map V.str)) (hz : (zs.map (·.length)).sum + zs.length * w.length ≤ 16777216) (q : Q (.str (Txt.join w zs)) H) : rJoin K (.str w) [.ref a] H Q :=
  ⟨w, a, zs, rfl, rfl, .inl h, hz, q⟩
theorem s_cutL {lo hi : Option Int} (h : SqL K H a xs) (q : ∀ p, H p = none → Q (.ref p) (upd H p (.lst (cutV xs lo hi)))) : rSlL K (.ref a) lo hi H Q := ⟨a, xs, rfl, h, q⟩
theorem s_cutS {lo hi : Option Int} (h : z.length ≤ sizeLine) (q : Q (.str (cutS z lo hi)) H) : rSlS (.str z) lo hi H Q := ⟨z, rfl, h, q⟩
theorem s_cat {b : Addr} (h : H a = some (.lst xs)) (h2 : H b = some (.lst ys)) (hz : xs.length + ys.length ≤ sizeLine) (q : ∀ p, H p = none → Q (.ref p) (upd H p (.lst (xs ++ ys)))) : rCat (.ref a) (.ref b) H Q := ⟨a, b, xs, ys, rfl, rfl, h, h2, hz, q⟩
theorem s_tupL (h : SqL K H a xs) (q : ∀ l, H l = none → Q (.ref l) (upd H l (.tup xs))) : rTupOf K [.ref a] H Q := ⟨a, xs, rfl, .inl ⟨h, q⟩⟩
theorem s_inT (h : SqT K H a xs) (hx : flatV x = true) (hs : xs.all flatV = true) (q : Q (.bl (inV x xs)) H) : rIn K false x (.ref a) H Q := ⟨a, xs, rfl, .inr h, hx, hs, q⟩
theorem s_ninT (h : SqT K H a xs) (hx : flatV x = true) (hs : xs.all flatV = true) (q : Q (.bl (!inV x xs)) H) : rIn K true x (.ref a) H Q := ⟨a, xs, rfl, .inr h, hx, hs, q⟩
theorem s_setL {l : Addr} {j : Nat} {R : Hp → Prop} (h : H l = some (.lst xs)) (e : ixN xs.length i = some j) (q : R (upd H l (.lst (xs.set j v)))) : rSetL (.ref l) (.int i) v H R := ⟨l, xs, i, j, rfl, rfl, h, e, q⟩
end
theorem kTT : kitB "tuple" "tuple" = some true := by decide +kernel
theorem kTS : kitB "tuple" "str" = some false := by decide +kernel
theorem kSS : kitB "str" "str" = some true := by decide +kernel
theorem kST : kitB "str" "tuple" = some false := by decide +kernel
theorem kNS : kitB "NoneType" "str" = some false := by decide +kernel
theorem kNT : kitB "NoneType" "tuple" = some false := by decide +kernel
theorem kIS : kitB "int" "str" = some false := by decide +kernel
theorem kIT : kitB "int" "tuple" = some false := by decide +kernel
theorem kBT : kitB "bool" "tuple" = some false := by decide +kernel
theorem kBS : kitB "bool" "str" = some false := by decide +kernel
theorem kLT : kitB "list" "tuple" = some false := by decide +kernel
theorem kDT : kitB "dict" "tuple" = some false := by decide +kernel
/-! ### data without lists, over heaps that keep the tuples -/
mutual
def noL : PyData → Bool
  | .list _ => false
  | .tuple xs => noLs xs
  | .dict _ => false
  | _ => true
def noLs : List PyData → Bool
  | [] => true
  | d :: r => noL d && noLs r
end
mutual
theorem Dp.tk {K : PySem.W.Frag} {H H' : Hp} (tk : ∀ b xs, SqT K H b xs → SqT K H' b xs) : ∀ (d : PyData) (v : V), noL d = true → Dp K H v d → Dp K H' v d
  | .none, _, _, h => by cases h; exact .non
  | .bool b, _, _, h => by cases h; exact .bl b
  | .int i, _, _, h => by cases h; exact .int i
  | .str x, _, _, h => by cases h; exact .str x
  | .list _, _, n, _ => by cases n
  | .dict _, _, n, _ => by cases n
  | .tuple ds, _, n, h => by
    cases h with
    | tup hs ha => exact .tup (tk _ _ hs) (DpAll.tk tk ds _ n ha)
theorem DpAll.tk {K : PySem.W.Frag} {H H' : Hp} (tk : ∀ b xs, SqT K H b xs → SqT K H' b xs) : ∀ (ds : List PyData) (vs : List V), noLs ds = true → DpAll K H vs ds → DpAll K H' vs ds
  | [], _, _, h => by cases h; exact .nil
  | d :: r, _, n, h => by
    have n' : noL d = true ∧ noLs r = true := Bool.and_eq_true_iff.mp n
    cases h with
    | cons h1 h2 => exact .cons (Dp.tk tk d _ n'.1 h1) (DpAll.tk tk r _ n'.2 h2)
end
theorem DpAll.app {K : PySem.W.Frag} {H : Hp} : ∀ {vs ws : List V} {ds es : List PyData}, DpAll K H vs ds → DpAll K H ws es → DpAll K H (vs ++ ws) (ds ++ es)
  | [], _, [], _, _, h => h
  | _ :: _, _, _ :: _, _, .cons a b, h => .cons a (DpAll.app b h)
  | [], _, _ :: _, _, h, _ => by cases h
  | _ :: _, _, [], _, h, _ => by cases h
theorem DpAll.length {K : PySem.W.Frag} {H : Hp} : ∀ {vs : List V} {ds : List PyData}, DpAll K H vs ds → vs.length = ds.length
  | [], [], _ => rfl
  | _ :: _, _ :: _, .cons _ b => congrArg (· + 1) (DpAll.length b)
  | [], _ :: _, h => by cases h
  | _ :: _, [], h => by cases h
theorem noLs_app {a b : List PyData} (h : noLs a = true) (h' : noLs b = true) : noLs (a ++ b) = true := by
  induction a with
  | nil => exact h'
  | cons d r ih =>
    have n : noL d = true ∧ noLs r = true := Bool.and_eq_true_iff.mp h
    exact Bool.and_eq_true_iff.mpr ⟨n.1, ih n.2⟩
theorem Keep.tk {S : List Addr} {H H' : Hp} {K : PySem.W.Frag} (k : Keep S H H') (hS : ∀ s ∈ S, ∃ xs, H s = some (.lst xs)) (b : Addr) (xs : List V) (h : SqT K H b xs) : SqT K H' b xs := by
  rcases h with (h | ⟨o, h⟩) | h
  · refine .inl (.inl (k _ _ h fun m => ?_))
    obtain ⟨ys, e⟩ := hS b m
    rw [h] at e; cases e
  · refine .inl (.inr ⟨o, k _ _ h fun m => ?_⟩)
    obtain ⟨ys, e⟩ := hS b m
    rw [h] at e; cases e
  · exact .inr h
/-! ### comprehensions that change nothing -/
section
variable {J : It} {n : Nat} {G : Hp → Prop} {Y : Nat → Hp → V → Hp → Prop}
def pick (f : V → Bool) (g : V → V) (xs : List V) : List V := (xs.filter f).map g
theorem pick_yes {f : V → Bool} {g : V → V} {xs : List V} {x : V} (h : f x = true) : pick f g (xs ++ [x]) = pick f g xs ++ [g x] := by
  unfold pick
  rw [List.filter_append, List.map_append]
  simp [h]
theorem pick_no {f : V → Bool} {g : V → V} {xs : List V} {x : V} (h : f x = false) : pick f g (xs ++ [x]) = pick f g xs := by
  unfold pick
  rw [List.filter_append]
  simp [h]
theorem pick_len {f : V → Bool} {g : V → V} {xs : List V} : (pick f g xs).length ≤ xs.length := by
  unfold pick
  rw [List.length_map]
  exact List.length_filter_le _ _
theorem lc_pure (w : Walk J n G Y) {xs : List V} (hn : xs.length = n) (hY : ∀ i H x H', i < n → Y i H x H' → H' = H ∧ xs[i]? = some x) (hz : n ≤ 1000000) {j : Nat} {tt : TT} {te : TE} {vs : List Nat} {σ : L2.St} {H : Hp} {D : Addr} {Qd : Hp → Prop}
    (f : V → Bool) (g : V → V) (hD : H D = none) (hG : ∀ H', Keep [] H H' → G H') (hw : ∀ x, wipe ((wipe σ vs).set j (some x)) vs = wipe σ vs)
    (ht : ∀ x H1, x ∈ xs → Keep [] H H1 → ∀ R : Bool → Hp → Prop, (∀ H2, Keep [] H1 H2 → R (f x) H2) → tt ((wipe σ vs).set j (some x)) H1 R)
    (he : ∀ x H1, x ∈ xs → f x = true → Keep [] H H1 → ∀ R : VK, (∀ H2, Keep [] H1 H2 → R (g x) H2) → te ((wipe σ vs).set j (some x)) H1 R)
    (q : ∀ H', Keep [] H H' → H' D = some (.lst (pick f g xs)) → Qd H') :
    ∃ W : Nat → Nat → Hp → Prop, (∃ m, W 0 m (upd H D (.lst []))) ∧ ∀ i m H, W i m H →
      (J.stop i H ∧ Qd H) ∨ (J.go i H ∧ ∃ Nx : Hp → Prop, (∀ H', Nx H' → ∃ m', m' < m ∧ W (i + 1) m' H') ∧ ∀ x H', J.yld i H x H' → gName j x (wipe σ vs) H' fun σ2 H2 => wipe σ2 vs = wipe σ vs ∧ tt σ2 H2 fun b H3 =>
        if b = true then te σ2 H3 fun y H4 => ∃ acc, H4 D = some (.lst acc) ∧ acc.length < sizeLine ∧ Nx (upd H4 D (.lst (acc ++ [y]))) else Nx H3) := by
  refine lc_it w (fun i H' => Keep [] H H' ∧ H' D = some (.lst (pick f g (xs.take i)))) ⟨Keep.new hD, upd_same⟩ (fun i H' _ p => hG H' p.1) ?_ ?_
  · rintro i x H1 H2 hi ⟨k, e⟩ y
    obtain ⟨rfl, hx⟩ := hY i H1 x H2 hi y
    have tk := take_more hx
    have mem : x ∈ xs := List.mem_of_getElem? hx
    refine ⟨hw x, ht x _ mem k _ fun H3 k3 => ?_⟩
    have lz : (pick f g (xs.take i)).length < sizeLine := szl_of (Nat.le_trans pick_len (by rw [List.length_take]; omega) : _ ≤ 1000000)
    refine iteB (fun hf => he x _ mem hf (k.trans k3) _ fun H4 k4 => ⟨_, (k3.trans k4).at e, lz, ?_, ?_⟩) (fun hf => ⟨k.trans k3, ?_⟩)
    · exact ((k.trans k3).trans k4).own hD
    · rw [upd_same, tk, pick_yes hf]
    · rw [tk, pick_no hf]
      exact k3.at e
  · rintro H' ⟨k, e⟩
    refine q H' k ?_
    rw [e, ← hn, List.take_length]
end
section
variable {K : PySem.W.Frag} {σ : L2.St} {H : Hp} {Q : VK} {j : Nat} {tt : TT} {te : TE} {vs : List Nat} {a : Addr} {xs : List V} {z : Str}
theorem lcL {tl : TE} (f : V → Bool) (g : V → V) (hl : ∀ R : VK, (∀ a H0, Keep [] H H0 → SqL K H0 a xs → R (.ref a) H0) → tl σ H R) (hz : xs.length ≤ 1000000) (hw : ∀ x, wipe ((wipe σ vs).set j (some x)) vs = wipe σ vs)
    (ht : ∀ x H1, x ∈ xs → Keep [] H H1 → ∀ R : Bool → Hp → Prop, (∀ H2, Keep [] H1 H2 → R (f x) H2) → tt ((wipe σ vs).set j (some x)) H1 R)
    (he : ∀ x H1, x ∈ xs → f x = true → Keep [] H H1 → ∀ R : VK, (∀ H2, Keep [] H1 H2 → R (g x) H2) → te ((wipe σ vs).set j (some x)) H1 R)
    (q : ∀ D H', H D = none → Keep [] H H' → H' D = some (.lst (pick f g xs)) → Q (.ref D) H') : tLc (iList K tl) (gName j) tt te vs σ H Q :=
  hl _ fun a H0 k0 hs => ⟨a, rfl, ⟨xs, hs⟩, fun D hD => lc_pure walk_list rfl (fun i H x H' _ y => y) hz f g hD (fun H' k => k.sqL hs) hw
    (fun x H1 m k => ht x H1 m (k0.trans k)) (fun x H1 m hf k => he x H1 m hf (k0.trans k)) fun H' k e => q D H' (k0.none hD) (k0.trans k) e⟩
theorem lcT {tl : TE} (f : V → Bool) (g : V → V) (hl : ∀ R : VK, (∀ a H0, Keep [] H H0 → SqT K H0 a xs → R (.ref a) H0) → tl σ H R) (hz : xs.length ≤ 1000000) (hw : ∀ x, wipe ((wipe σ vs).set j (some x)) vs = wipe σ vs)
    (ht : ∀ x H1, x ∈ xs → Keep [] H H1 → ∀ R : Bool → Hp → Prop, (∀ H2, Keep [] H1 H2 → R (f x) H2) → tt ((wipe σ vs).set j (some x)) H1 R)
    (he : ∀ x H1, x ∈ xs → f x = true → Keep [] H H1 → ∀ R : VK, (∀ H2, Keep [] H1 H2 → R (g x) H2) → te ((wipe σ vs).set j (some x)) H1 R)
    (q : ∀ D H', H D = none → Keep [] H H' → H' D = some (.lst (pick f g xs)) → Q (.ref D) H') : tLc (iTup K tl) (gName j) tt te vs σ H Q :=
  hl _ fun a H0 k0 hs => ⟨a, rfl, ⟨xs, hs⟩, fun D hD => lc_pure walk_tup rfl (fun i H x H' _ y => y) hz f g hD (fun H' k => k.sqT hs) hw
    (fun x H1 m k => ht x H1 m (k0.trans k)) (fun x H1 m hf k => he x H1 m hf (k0.trans k)) fun H' k e => q D H' (k0.none hD) (k0.trans k) e⟩
/-- a text's signs as values -/
def signsV (z : Str) : List V := (cs z).map fun c => .str ⟨#[c]⟩
theorem lcS {tl : TE} (f : V → Bool) (g : V → V) (hl : ∀ R : VK, (∀ H0, Keep [] H H0 → R (.str z) H0) → tl σ H R) (hz : (cs z).length ≤ 1000000) (hw : ∀ x, wipe ((wipe σ vs).set j (some x)) vs = wipe σ vs)
    (ht : ∀ x H1, x ∈ signsV z → Keep [] H H1 → ∀ R : Bool → Hp → Prop, (∀ H2, Keep [] H1 H2 → R (f x) H2) → tt ((wipe σ vs).set j (some x)) H1 R)
    (he : ∀ x H1, x ∈ signsV z → f x = true → Keep [] H H1 → ∀ R : VK, (∀ H2, Keep [] H1 H2 → R (g x) H2) → te ((wipe σ vs).set j (some x)) H1 R)
    (q : ∀ D H', H D = none → Keep [] H H' → H' D = some (.lst (pick f g (signsV z))) → Q (.ref D) H') : tLc (iStr tl) (gName j) tt te vs σ H Q :=
  hl _ fun H0 k0 => ⟨z, rfl, fun D hD => lc_pure walk_str (xs := signsV z) (by unfold signsV; rw [List.length_map]; exact Array.length_toList) (fun i H x H' _ y => by
      obtain ⟨e, c, h1, h2⟩ := y
      refine ⟨e, ?_⟩
      unfold signsV
      rw [List.getElem?_map, Array.getElem?_toList, h1, h2]
      rfl) (by rw [← Array.length_toList]; exact hz) f g hD (fun _ _ => True.intro) hw
    (fun x H1 m k => ht x H1 m (k0.trans k)) (fun x H1 m hf k => he x H1 m hf (k0.trans k)) fun H' k e => q D H' (k0.none hD) (k0.trans k) e⟩
end
/-- a comprehension over a range whose turns change S and keep G -/
theorem lc_rng {S : List Addr} {n : Nat} (G : Hp → Prop) (Pv : V → Prop) {j : Nat} {te : TE} {vs : List Nat} {σ : L2.St} {H : Hp} {D : Addr} {Qd : Hp → Prop} (hD : H D = none) (hS : D ∉ S) (g0 : G H) (gU : ∀ H2 o, Keep S H H2 → G H2 → G (upd H2 D o)) (hn : n ≤ 1000000)
    (hw : ∀ x, wipe ((wipe σ vs).set j (some x)) vs = wipe σ vs)
    (he : ∀ (i : Nat) H2, i < n → Keep S H H2 → G H2 → ∀ R : VK, (∀ v H3, Keep S H2 H3 → G H3 → Pv v → R v H3) → te ((wipe σ vs).set j (some (.int (0 + (i : Nat))))) H2 R)
    (q : ∀ H' acc, Keep S H H' → G H' → H' D = some (.lst acc) → (∀ v ∈ acc, Pv v) → acc.length = n → Qd H') :
    ∃ W : Nat → Nat → Hp → Prop, (∃ m, W 0 m (upd H D (.lst []))) ∧ ∀ i m H, W i m H →
      ((Itr 0 n).stop i H ∧ Qd H) ∨ ((Itr 0 n).go i H ∧ ∃ Nx : Hp → Prop, (∀ H', Nx H' → ∃ m', m' < m ∧ W (i + 1) m' H') ∧ ∀ x H', (Itr 0 n).yld i H x H' → gName j x (wipe σ vs) H' fun σ2 H2 => wipe σ2 vs = wipe σ vs ∧ tYes σ2 H2 fun b H3 =>
        if b = true then te σ2 H3 fun y H4 => ∃ acc, H4 D = some (.lst acc) ∧ acc.length < sizeLine ∧ Nx (upd H4 D (.lst (acc ++ [y]))) else Nx H3) := by
  refine lc_range (fun i H' => Keep S H H' ∧ G H' ∧ ∃ acc, H' D = some (.lst acc) ∧ (∀ v ∈ acc, Pv v) ∧ acc.length = i) ⟨Keep.new hD, gU H _ Keep.refl g0, [], upd_same, fun _ m => (nomatch m), rfl⟩ ?_ ?_
  · rintro i H1 hi ⟨k, g, acc, e, ha, hl⟩
    refine ⟨hw _, ?_⟩
    dsimp only [tYes]
    rw [if_pos rfl]
    refine he i H1 hi k g _ fun v H3 k3 g3 hv => ⟨acc, k3 _ _ e hS, szl_of (by omega : acc.length ≤ 1000000), (k.trans k3).own hD, gU H3 _ (k.trans k3) g3, _, upd_same, fun v' m => ?_, ?_⟩
    · rcases List.mem_append.mp m with m | m
      · exact ha v' m
      · rw [List.mem_singleton.mp m]; exact hv
    · rw [List.length_append, hl]; rfl
  · rintro H' ⟨k, g, acc, e, ha, hl⟩
    exact q H' acc k g e ha hl
/-! ### what join makes -/
theorem cs_join0 : ∀ zs : List Str, cs (Txt.join "" zs) = (zs.map cs).flatten := fun zs => by
  rw [TL.join_eq]
  show TL.tl (Str.join "" zs) = _
  rw [TL.tl_join]
  have go : ∀ ps : List (List Nat), TL.joinL (TL.tl "") ps = ps.flatten := by
    intro ps
    induction ps with
    | nil => rfl
    | cons p r ih =>
      cases r with
      | nil => simp [TL.joinL]
      | cons p' r' =>
        show p ++ ((TL.tl "") ++ TL.joinL (TL.tl "") (p' :: r')) = _
        rw [ih]
        rfl
  exact go _
/-! ### lists of texts compared -/
def okS (z : Str) : Bool := PySem.PyData.canLay0 (.str z)
theorem okS_of {z : Str} (h : ∀ c ∈ cs z, c < 1114112) : okS z = true := by
  show (z.cps.all fun c => decide (c < 0x110000)) = true
  rw [← Array.all_toList]
  exact List.all_eq_true.mpr fun c hc => decide_eq_true (h c hc)
theorem dpStrs {K : PySem.W.Frag} {H : Hp} : ∀ os : List Str, DpAll K H (os.map V.str) (os.map PyData.str)
  | [] => .nil
  | o :: r => .cons (.str o) (dpStrs r)
theorem layStrs : ∀ {os : List Str}, (∀ m ∈ os, okS m = true) → PyData.canLayAll0 (os.map PyData.str) = true ∧ PyData.depthAll (os.map PyData.str) = 0
  | [], _ => ⟨rfl, rfl⟩
  | o :: r, h => by
    obtain ⟨a, b⟩ := layStrs (os := r) fun m hm => h m (List.mem_cons_of_mem _ hm)
    refine ⟨?_, ?_⟩
    · show (PyData.canLay0 (.str o) && PyData.canLayAll0 (r.map PyData.str)) = true
      rw [a, show PyData.canLay0 (.str o) = true from h o List.mem_cons_self]
      rfl
    · show max (PyData.depth (.str o)) (PyData.depthAll (r.map PyData.str)) = 0
      rw [b]
      rfl
theorem shapedStrs {os : List Str} (h : ∀ m ∈ os, okS m = true) : SeqAt.shaped (.list (os.map PyData.str)) = true := by
  obtain ⟨a, b⟩ := layStrs h
  unfold SeqAt.shaped
  rw [show PyData.canLay0 (.list (os.map PyData.str)) = PyData.canLayAll0 (os.map PyData.str) from rfl, a, show PyData.depth (.list (os.map PyData.str)) = PyData.depthAll (os.map PyData.str) + 1 from rfl, b]
  rfl
theorem eqvNil : ∀ os : List Str, PyData.eqv (.list (os.map PyData.str)) (.list []) = os.isEmpty
  | [] => rfl
  | _ :: _ => rfl
section
variable {K : PySem.W.Frag} {H : Hp} {Q : VK} {a b : Addr} {os : List Str}
theorem s_eqNil (h : SqL K H a (os.map V.str)) (h2 : SqL K H b []) (ok : ∀ m ∈ os, okS m = true) (q : Q (.bl os.isEmpty) H) : rEqD K (.ref a) (.ref b) H Q :=
  ⟨.list (os.map PyData.str), .list [], .lst h (dpStrs os), .lst h2 .nil, shapedStrs ok, rfl, by rw [eqvNil]; exact q⟩
theorem s_neNil (h : SqL K H a (os.map V.str)) (h2 : SqL K H b []) (ok : ∀ m ∈ os, okS m = true) (q : Q (.bl (!os.isEmpty)) H) : rNeD K (.ref a) (.ref b) H Q :=
  ⟨.list (os.map PyData.str), .list [], .lst h (dpStrs os), .lst h2 .nil, shapedStrs ok, rfl, by rw [eqvNil]; exact q⟩
end
end FR

set_option Elab.async false
set_option linter.all false
set_option maxRecDepth 100000
set_option maxHeartbeats 4000000
/-! FRE: the end of a law's row: from a promise that leans on the guards to the row's walk, with tables of lambdas. -/
namespace FR
open PySem PySem.Spec PyProof.Rows L2
abbrev tob : Obj := { cls := .none, data := .fields #[] }
abbrev sob (vs : List Value) : Obj := { cls := .type "list", data := .seq vs.toArray }
open Classical in
/-- what is tracked as the law is called: the tables, and the script unless it is written -/
noncomputable def hp0 (K : PySem.W.Frag) (T : List Addr) (a : Addr) (vs : List Value) (xs : List V) : Hp := fun b =>
  if b ∈ T then some (.tbl #[]) else if b = a ∧ K.lookup a = none then some (.frz (sob vs) (.lst xs)) else none
theorem hp0_inv {K : PySem.W.Frag} {T : List Addr} {a b : Addr} {vs : List Value} {xs : List V} {u : HO} (h : hp0 K T a vs xs b = some u) : (b ∈ T ∧ u = .tbl #[]) ∨ (b = a ∧ K.lookup a = none ∧ u = .frz (sob vs) (.lst xs)) := by
  unfold hp0 at h
  by_cases h1 : b ∈ T
  · rw [if_pos h1] at h
    exact .inl ⟨h1, (Option.some.inj h).symm⟩
  · rw [if_neg h1] at h
    by_cases h2 : b = a ∧ K.lookup a = none
    · rw [if_pos h2] at h
      exact .inr ⟨h2.1, h2.2, (Option.some.inj h).symm⟩
    · rw [if_neg h2] at h
      cases h
section
variable {P : Program} {w : World} {K : PySem.W.Frag} {mg mb : Str → Option Value} {k : Nat} {fa a : Addr} {cs : List (Addr × Addr)} {fd : FuncData} {x : Str} {sp : Sp} {s : Shared} {vs : List Value} {ns : List Int}
theorem law_callG (KX : K.In s.heap) (gn : s.heap.Ns mainGlobals mg) (bn : s.heap.Ns builtinsNs mb) (bb : ∀ x : Str, x ≠ "__name__" → mb x = bootBuiltins x) (nl : s.heap.NoLimit) (ng : s.gens = #[])
    (tT : ∀ p ∈ cs, s.heap.get? p.2 = some tob) (tK : ∀ p ∈ cs, K.lookup p.2 = none) (tC : ∀ p ∈ cs, PySem.W.CodeHd s.heap p.1 p.2)
    (tM : ∃ bm ob, mg "__builtins__" = some (.ref bm) ∧ bm ≠ builtinsNs ∧ s.heap.get? bm = some ob ∧ ob.cls = .type "module" ∧ ob.dict = some builtinsNs ∧ ob.data = .plain)
    (sa : s.heap.get? a = some (sob vs)) (si : IntsAre vs ns) (sl : ns.length ≤ sizeLine) (hr : Room k callerA)
    (F : ∀ base : Heap, K.In base → base.Ns mainGlobals mg → (∀ p ∈ cs, LamX.TabB base mg p.1 p.2) → FnG P w K mg base CX0 k fa fd [x] sp) (hb : ∀ u : Value, BindsTo s fd ⟨[u], []⟩ [(x, u)])
    (law : ∀ H : Hp, (∀ p ∈ cs, H p.2 = some (.tbl #[])) → SqL K H a (ns.map V.int) → sp [.ref a] H (fun v _ => v = .bl true) fun _ _ _ => False) :
    codeAny (model P w) callerA (.call (.ref fa) ⟨[.ref a], []⟩) (fun r s' => r = .ok (.ret (.bool true)) ∧ OldK s.heap s'.heap ∧ s'.os = s.os ∧ AllBare s'.gens) s := by
  have rv := vals_ints si
  have vl : vs.length = ns.length := si.length
  have mT : ∀ p ∈ cs, p.2 ∈ cs.map (·.2) := fun p m => List.mem_map_of_mem m
  have oT : ∀ b ∈ cs.map (·.2), s.heap.get? b = some tob := fun b m => by
    obtain ⟨p, hp, rfl⟩ := List.mem_map.mp m
    exact tT p hp
  have so_ne : sob vs ≠ tob := fun q => nomatch congrArg Obj.cls q
  have aT : a ∉ cs.map (·.2) := fun m => so_ne (Option.some.inj (sa.symm.trans (oT a m)))
  generalize hH : hp0 K (cs.map (·.2)) a vs (ns.map V.int) = H
  have inv : ∀ {b u}, H b = some u → (b ∈ cs.map (·.2) ∧ u = .tbl #[]) ∨ (b = a ∧ K.lookup a = none ∧ u = .frz (sob vs) (.lst (ns.map V.int))) := fun {b u} e => by
    rw [← hH] at e
    exact hp0_inv e
  have HT : ∀ b ∈ cs.map (·.2), H b = some (.tbl #[]) := fun b m => by
    rw [← hH]
    exact if_pos m
  -- what is no table and no list of the script's is not tracked
  have free : ∀ {b o}, s.heap.get? b = some o → o ≠ tob → o ≠ sob vs → H b = none := fun {b o} e n1 n2 => by
    cases q : H b with
    | none => rfl
    | some u =>
      rcases inv q with ⟨m, _⟩ | ⟨rfl, _⟩
      · exact absurd (Option.some.inj (e.symm.trans (oT b m))) n1
      · exact absurd (Option.some.inj (e.symm.trans sa)) n2
  have stay : ∀ {b o}, s.heap.get? b = some o → o ≠ tob → o ≠ sob vs → (hidT s.heap H).get? b = some o := fun e n1 n2 => hidT_get e (free e n1 n2)
  have nsS : ∀ {b : Addr} {m : Str → Option Value}, s.heap.Ns b m → (hidT s.heap H).Ns b m := fun ⟨o, es, ep, e, d, r⟩ =>
    ⟨o, es, ep, stay e (fun q => by rw [q] at d; cases d) (fun q => by rw [q] at d; cases d), d, r⟩
  have sq : SqL K H a (ns.map V.int) := by
    cases q : K.lookup a with
    | none =>
      refine .inl (.inr ⟨sob vs, ?_⟩)
      rw [← hH]
      exact (if_neg aT).trans (if_pos ⟨rfl, q⟩)
    | some o =>
      have e := Option.some.inj ((KX a o q).symm.trans sa)
      subst e
      exact .inr ⟨_, vs.toArray, _, q, rfl, rfl, rfl, by rw [List.size_toArray, vl]; exact sl, by simpa using rv⟩
  have KB : K.In (hidT s.heap H) := fun b o e => by
    refine hidT_get (KX b o e) ?_
    cases q : H b with
    | none => rfl
    | some u =>
      rcases inv q with ⟨m, _⟩ | ⟨rfl, n, _⟩
      · obtain ⟨p, hp, rfl⟩ := List.mem_map.mp m
        rw [tK p hp] at e; cases e
      · rw [n] at e; cases e
  have ok : HOk P w H s.heap := fun b u e => by
    rcases inv e with ⟨m, rfl⟩ | ⟨rfl, _, rfl⟩
    · exact oT b m
    · exact ⟨sa, by rw [List.length_map]; exact sl, vs, _, rv, sa⟩
  have TB : ∀ p ∈ cs, LamX.TabB (hidT s.heap H) mg p.1 p.2 := fun p hp => by
    refine ⟨?_, ?_, fun q => ?_⟩
    · obtain ⟨o, us, file, tf, flags, tg, inF, text, tt, e1, r1, r2, r3, rest⟩ := tC p hp
      refine ⟨o, us, file, tf, flags, tg, inF, text, tt, stay e1 (fun q => ?_) (fun q => ?_), r1, r2, r3, rest⟩
      · rw [q] at r1; cases r1
      · rw [q] at r2; cases r2
    · obtain ⟨bm, ob, b1, b2, b3, b4, b5, b6⟩ := tM
      refine ⟨bm, ob, b1, b2, fun q => ?_, fun q => ?_, stay b3 (fun q => ?_) (fun q => ?_), b4, b5, b6⟩
      · obtain ⟨o, es, ep, e, d, _⟩ := gn
        have z := Option.some.inj ((q ▸ b3).symm.trans e)
        rw [← z, b6] at d; cases d
      · have z := Option.some.inj ((q ▸ b3).symm.trans (tT p hp))
        rw [z] at b6; cases b6
      · rw [q] at b6; cases b6
      · rw [q] at b6; cases b6
    · obtain ⟨o, es, ep, e, d, _⟩ := gn
      have z := Option.some.inj ((q ▸ e).symm.trans (tT p hp))
      rw [z] at d; cases d
  have md : L2.Mod K mg (hidT s.heap H) := ⟨KB, nsS gn, ⟨mb, nsS bn, bb⟩, let ⟨mc, h1, h2⟩ := nl; ⟨mc, nsS h1, h2⟩⟩
  have e0 : Env0 P w K mg (hidT s.heap H) callerA [] s H :=
    { frames := rfl, mod := md, bs := fun b o e => of_hidT e, bsz := Nat.le_of_eq (hidT_size _ _), funs := trivial, frf := fun b m => (nomatch m), hok := ok, bare := .of_eq ng }
  refine codeAny_mono ((F _ KB (nsS gn) TB).run callerA [] s H ⟨[.ref a], []⟩ [.ref a] [.ref a] _ _ rfl hr e0 (hb (.ref a)) (.cons rfl .nil) (law H (fun p hp => HT _ (mT p hp)) sq)) fun r s' h => ?_
  match r, h with
  | .error e, h => exact (h : CX0 [] H s _ e s').elim
  | .ok .next, h => exact False.elim h
  | .ok .brk, h => exact False.elim h
  | .ok .cont, h => exact False.elim h
  | .ok (.ret u), h =>
    obtain ⟨v, H', os, bare, un, ok', r', q⟩ := h
    have q : v = .bl true := q
    subst q
    have r' : u = Value.bool true := r'
    subst r'
    have same : ∀ {b o}, b ∉ cs.map (·.2) → s.heap.get? b = some o → s'.heap.get? b = some o := fun {b o} n e => by
      cases z : H b with
      | none => exact un.keep b o e z (fun m => nomatch m) (fun m => nomatch m)
      | some u =>
        rcases inv z with ⟨m, _⟩ | ⟨rfl, _, rfl⟩
        · exact absurd m n
        · have z' := (ok' _ _ (un.frzs _ _ _ z)).1
          rw [← Option.some.inj (sa.symm.trans e)]
          exact z'
    have more : ∀ p ∈ cs, ∃ more : Array Value, s'.heap.get? p.2 = some { cls := .none, data := .fields more } := fun p hp => by
      obtain ⟨m, z⟩ := un.tbls p.2 #[] (HT _ (mT p hp))
      exact ⟨_, ok' _ _ z⟩
    refine ⟨rfl, ⟨fun b o e => ?_, fun b o e => ?_⟩, os, bare⟩
    · by_cases m : b ∈ cs.map (·.2)
      · obtain ⟨p, hp, rfl⟩ := List.mem_map.mp m
        obtain ⟨arr, z⟩ := more p hp
        have eo := Option.some.inj (e.symm.trans (tT p hp))
        subst eo
        exact .inr (.inl ⟨((tC p hp).tab (tT p hp)).isCodeTable, rfl, #[], arr, rfl, by rw [Array.empty_append]; exact z⟩)
      · exact .inl (same m e)
    · by_cases m : b ∈ cs.map (·.2)
      · obtain ⟨p, hp, rfl⟩ := List.mem_map.mp m
        obtain ⟨arr, z⟩ := more p hp
        exact ⟨_, z⟩
      · exact ⟨o, same m e⟩
end
/-- what is told of the law's promise at the heap h behind the top -/
structure LawG (P : Program) (w : World) (K : PySem.W.Frag) (k n : Nat) (x : Str) (mg : Str → Option Value) (fa : Addr) (h : Heap) : Prop where
  ex : ∃ (fd : FuncData) (cs : List (Addr × Addr)) (sp : Sp), (∀ p ∈ cs, PySem.W.CodeHd h p.1 p.2 ∧ h.get? p.2 = some tob ∧ K.lookup p.2 = none) ∧ (∀ (s : Shared) (u : Value), BindsTo s fd ⟨[u], []⟩ [(x, u)]) ∧
    (∀ (H : Hp) (a : Addr) (ns : List Int), ns.length ≤ n → (∀ p ∈ cs, H p.2 = some (.tbl #[])) → SqL K H a (ns.map V.int) → sp [.ref a] H (fun v _ => v = .bl true) fun _ _ _ => False) ∧
    ∀ base : Heap, K.In base → base.Ns mainGlobals mg → (∀ p ∈ cs, LamX.TabB base mg p.1 p.2) → FnG P w K mg base CX0 k fa fd [x] sp
theorem walk_G {l : PySem.W.OpenLaw} {n k : Nat} {q : Program} {loose : List Str} {XP : (Str → Option Value) → Heap → Prop} {YP : World → Heap → Prop} {d : DefRec} {K : Params → PySem.W.Frag} {x : Str}
    (hn : l.most = some n) (hn2 : n ≤ sizeLine) (hdf : d.params.defaults = []) (hr : Room k callerA) (hY : ∀ (w : World) (h : Heap), YP w h → (K w.params).In h)
    (F : ∀ (w : World) (lo : List Str) (mean : ExcName → Option Value) (mg mb : Str → Option Value) (fa : Addr) (h : Heap), (K w.params).In h → Top q lo mean mg mb h → mg d.name = some (.ref fa) → LawG l.prog w (K w.params) k n x mg fa h) :
    PySem.W.WalkO q loose XP YP l.row.toRowW d [] (fun f vs => PySem.call f vs) := by
  refine Att.attach_callB hn hdf fun w _ s mg mb fa _ _ _ _ a vs ns G Y _ _ _ e1 e2 e3 e4 _ e5 => ?_
  obtain ⟨fd, cs, sp, h1, h2, h3, h4⟩ := (F w _ _ mg mb fa _ (hY w _ Y) G.T e1).ex
  exact law_callG (hY w _ Y) G.T.g G.T.b G.T.builtins G.T.nolimit e5 (fun p m => (h1 p m).2.1) (fun p m => (h1 p m).2.2) (fun p m => (h1 p m).1) G.T.bmain e2 e3 (Nat.le_trans e4 hn2) hr h4 (h2 s) fun H hH hs => h3 H a ns e4 hH hs
/-! ### defs that stand in the written part -/
structure DefIn (K : PySem.W.Frag) (mg : Str → Option Value) (x : Str) (st : Stmt) : Prop where
  ex : ∃ f fd, mg x = some (.ref f) ∧ Fun K x x st f fd
/-- a def whose code is at c -/
structure DefT (K : PySem.W.Frag) (mg : Str → Option Value) (x : Str) (st : Stmt) (c : Addr) : Prop where
  ex : ∃ (f : Addr) (oc : Value) (od : Option Addr) (kV doc pm : Value) (an : Option Addr) (ct : Value) (osl : Array (Option Value)), mg x = some (.ref f) ∧ PySem.W.keepIn K (.ref f) = true ∧
    K.lookup f = some ⟨oc, od, .func (PySem.W.fnOf x x (defArgs st) (defBody st) (defScope st) .none kV doc pm an (.ref c) ct), osl⟩ ∧ PySem.W.codeIn K (.ref c) x = true
section
variable {P : Program} {w : World} {K : PySem.W.Frag} {mg : Str → Option Value} {base h : Heap} {x : Str} {st : Stmt} {f c : Addr} {oc : Value} {od an : Option Addr} {osl : Array (Option Value)} {kV doc pm cdv ct : Value} {N ps : List Str} {k : Nat} {sp : Sp}
theorem def_in (X : K.In h) (G : h.Ns mainGlobals mg) (a : PySem.W.nsIn K mainGlobals x = some (some (.ref f)))
    (l : K.lookup f = some ⟨oc, od, .func (PySem.W.fnOf x x (defArgs st) (defBody st) (defScope st) .none kV doc pm an cdv ct), osl⟩) (c : PySem.W.codeIn K cdv x = true) (k : PySem.W.keepIn K (.ref f) = true) : DefIn K mg x st :=
  ⟨⟨f, _, PySem.W.mg_of X G a, fun_mk l c k⟩⟩
theorem def_t (X : K.In h) (G : h.Ns mainGlobals mg) (a : PySem.W.nsIn K mainGlobals x = some (some (.ref f)))
    (l : K.lookup f = some ⟨oc, od, .func (PySem.W.fnOf x x (defArgs st) (defBody st) (defScope st) .none kV doc pm an (.ref c) ct), osl⟩) (hc : PySem.W.codeIn K (.ref c) x = true) (k : PySem.W.keepIn K (.ref f) = true) : DefT K mg x st c :=
  ⟨⟨f, oc, od, kV, doc, pm, an, ct, osl, PySem.W.mg_of X G a, k, l, hc⟩⟩
abbrev BindsBy (x : Str) (st : Stmt) (ps : List Str) : Prop := ∀ (kV doc pm : Value) (an : Option Addr) (cdv ct : Value) (us : List Value), us.length = ps.length → bindArgs (PySem.W.fnOf x x (defArgs st) (defBody st) (defScope st) .none kV doc pm an cdv ct) ⟨us, []⟩ = pure (ps.zip us)
theorem DefIn.has (D : DefIn K mg x st) (S : FnScope N ps (defScope st)) (b : BindsBy x st ps) (len : ∀ vs H Q E, sp vs H Q E → vs.length = ps.length)
    (hbody : ∀ (f : Addr) (cdv : Value) (A : Around) (outer : List Env) (s : Shared) (H : Hp) (vs : List V) (Q : VK) (E : XK), Room k (A.deeper (envOfC x (defScope st) s.heap.objs.size f cdv)) → sp vs H Q E →
      ∃ t, PSs (cxOf CX0 P w K mg base N x (defScope st) f cdv A outer s H E).nox (defBody st) t ∧ t { nx := fun _ H' => Q .non H', rt := Q } (L2.start N vs) H) : Has P w K mg base CX0 x (k + 1) ps sp := by
  obtain ⟨f, fd, m, F⟩ := D.ex
  exact ⟨⟨f, fd, m, F.kp, F.binds b, F.ok S len (hbody f)⟩⟩
theorem DefIn.hasX (D : DefIn K mg x st) (S : FnScope N ps (defScope st)) (b : BindsBy x st ps) (len : ∀ vs H Q E, sp vs H Q E → vs.length = ps.length)
    (hbody : ∀ (f : Addr) (cdv : Value) (A : Around) (outer : List Env) (s : Shared) (H : Hp) (vs : List V) (Q : VK) (E : XK), Room k (A.deeper (envOfC x (defScope st) s.heap.objs.size f cdv)) → sp vs H Q E →
      ∃ t, PSs (cxOf (L2.CX P w) P w K mg base N x (defScope st) f cdv A outer s H E) (defBody st) t ∧ t { nx := fun _ H' => Q .non H', rt := Q } (L2.start N vs) H) : Has P w K mg base (L2.CX P w) x (k + 1) ps sp := by
  obtain ⟨f, fd, m, F⟩ := D.ex
  exact ⟨⟨f, fd, m, F.kp, F.binds b, F.okX S len (hbody f)⟩⟩
theorem DefIn.hasG (D : DefIn K mg x st) (S : FnScope N ps (defScope st)) (b : BindsBy x st ps) (len : ∀ vs H Q E, sp vs H Q E → vs.length = ps.length)
    (hbody : ∀ (f : Addr) (cdv : Value) (A : Around) (outer : List Env) (s : Shared) (H : Hp) (vs : List V) (Q : VK) (E : XK), A.guards = some [] → Room k (A.deeper (envOfC x (defScope st) s.heap.objs.size f cdv)) → sp vs H Q E →
      ∃ t, PSs (cxOf CX0 P w K mg base N x (defScope st) f cdv A outer s H E).nox (defBody st) t ∧ t { nx := fun _ H' => Q .non H', rt := Q } (L2.start N vs) H) : HasG P w K mg base CX0 x (k + 1) ps sp := by
  obtain ⟨f, fd, m, F⟩ := D.ex
  exact ⟨⟨f, fd, m, F.kp, F.binds b, Fun.okG (N := N) F S len (hbody f)⟩⟩
theorem DefIn.hasL {a : Str} (D : DefIn K mg x st) (S : FnScope N [a] (defScope st)) (b : BindsBy x st [a]) (n0 : N[0]? = some a) (v : Vis (defScope st) a) : HasL K mg x a st N := by
  obtain ⟨f, fd, m, F⟩ := D.ex
  have bb := F.binds b
  obtain ⟨oc, od, kV, doc, pm, an, cdv, ct, osl, e, lk, hcd⟩ := F.ex
  subst e
  exact ⟨⟨f, oc, od, .none, kV, doc, pm, an, cdv, ct, osl, m, F.kp, lk, hcd, bb⟩, S, n0, v⟩
theorem DefT.hasG (D : DefT K mg x st c) (S : FnScope N ps (defScope st)) (b : BindsBy x st ps) (len : ∀ vs H Q E, sp vs H Q E → vs.length = ps.length)
    (hbody : ∀ (f : Addr) (A : Around) (outer : List Env) (s : Shared) (H : Hp) (vs : List V) (Q : VK) (E : XK), A.guards = some [] → Room k (A.deeper (envOfC x (defScope st) s.heap.objs.size f (.ref c))) → sp vs H Q E →
      ∃ t, PSs (cxOf CX0 P w K mg base N x (defScope st) f (.ref c) A outer s H E).nox (defBody st) t ∧ t { nx := fun _ H' => Q .non H', rt := Q } (L2.start N vs) H) : HasG P w K mg base CX0 x (k + 1) ps sp := by
  obtain ⟨f, oc, od, kV, doc, pm, an, ct, osl, m, kp, lk, cd⟩ := D.ex
  refine ⟨⟨f, _, m, kp, .all (b kV doc pm an (.ref c) ct), fnG_of lk cd S len fun A outer s H vs Q E hgd hr hsp => ?_⟩⟩
  obtain ⟨t, ht, hq⟩ := hbody f A outer s H vs Q E hgd hr hsp
  exact ⟨t, ht.nox, hq⟩
theorem DefT.has (D : DefT K mg x st c) (S : FnScope N ps (defScope st)) (b : BindsBy x st ps) (len : ∀ vs H Q E, sp vs H Q E → vs.length = ps.length)
    (hbody : ∀ (f : Addr) (A : Around) (outer : List Env) (s : Shared) (H : Hp) (vs : List V) (Q : VK) (E : XK), Room k (A.deeper (envOfC x (defScope st) s.heap.objs.size f (.ref c))) → sp vs H Q E →
      ∃ t, PSs (cxOf CX0 P w K mg base N x (defScope st) f (.ref c) A outer s H E).nox (defBody st) t ∧ t { nx := fun _ H' => Q .non H', rt := Q } (L2.start N vs) H) : Has P w K mg base CX0 x (k + 1) ps sp := by
  obtain ⟨f, oc, od, kV, doc, pm, an, ct, osl, m, kp, lk, cd⟩ := D.ex
  refine ⟨⟨f, _, m, kp, .all (b kV doc pm an (.ref c) ct), fn_of lk cd S len fun A outer s H vs Q E hr hsp => ?_⟩⟩
  obtain ⟨t, ht, hq⟩ := hbody f A outer s H vs Q E hr hsp
  exact ⟨t, ht.nox, hq⟩
/-- the law's own def without a table -/
theorem DefIn.lawN {a : Str} {fa : Addr} (D : DefIn K mg x st) (hfa : mg x = some (.ref fa)) (S : FnScope N [a] (defScope st)) (b : BindsBy x st [a]) (len : ∀ vs H Q E, sp vs H Q E → vs.length = 1) :
    ∃ fd : FuncData, (∀ (s : Shared) (u : Value), BindsTo s fd ⟨[u], []⟩ [(a, u)]) ∧ ∀ base : Heap,
      (∀ (f : Addr) (cdv : Value) (A : Around) (outer : List Env) (s : Shared) (H : Hp) (vs : List V) (Q : VK) (E : XK), A.guards = some [] → Room k (A.deeper (envOfC x (defScope st) s.heap.objs.size f cdv)) → sp vs H Q E →
        ∃ t, PSs (cxOf CX0 P w K mg base N x (defScope st) f cdv A outer s H E).nox (defBody st) t ∧ t { nx := fun _ H' => Q .non H', rt := Q } (L2.start N vs) H) → FnG P w K mg base CX0 (k + 1) fa fd [a] sp := by
  obtain ⟨f, fd, m, F⟩ := D.ex
  have e := Option.some.inj (hfa.symm.trans m)
  injection e with e
  subst e
  refine ⟨fd, fun s u => ?_, fun base hbody => Fun.okG (N := N) F S len (hbody fa)⟩
  obtain ⟨oc, od, kV, doc, pm, an, cdv, ct, osl, e, lk, hcd⟩ := F.ex
  subst e
  exact .of_eq (b kV doc pm an cdv ct [u] rfl)
/-- the law's own def, with the data of its function told -/
theorem DefT.law {a : Str} {fa : Addr} (D : DefT K mg x st c) (hfa : mg x = some (.ref fa)) (S : FnScope N [a] (defScope st)) (b : BindsBy x st [a]) (len : ∀ vs H Q E, sp vs H Q E → vs.length = 1) :
    ∃ fd : FuncData, (∀ (s : Shared) (u : Value), BindsTo s fd ⟨[u], []⟩ [(a, u)]) ∧ ∀ base : Heap,
      (∀ (f : Addr) (A : Around) (outer : List Env) (s : Shared) (H : Hp) (vs : List V) (Q : VK) (E : XK), A.guards = some [] → Room k (A.deeper (envOfC x (defScope st) s.heap.objs.size f (.ref c))) → sp vs H Q E →
        ∃ t, PSs (cxOf CX0 P w K mg base N x (defScope st) f (.ref c) A outer s H E).nox (defBody st) t ∧ t { nx := fun _ H' => Q .non H', rt := Q } (L2.start N vs) H) → FnG P w K mg base CX0 (k + 1) fa fd [a] sp := by
  obtain ⟨f, oc, od, kV, doc, pm, an, ct, osl, m, kp, lk, cd⟩ := D.ex
  have e := Option.some.inj (hfa.symm.trans m)
  injection e with e
  subst e
  refine ⟨_, fun s u => .of_eq (b kV doc pm an (.ref c) ct [u] rfl), fun base hbody => fnG_of lk cd S len fun A outer s H vs Q E hgd hr hsp => ?_⟩
  obtain ⟨t, ht, hq⟩ := hbody fa A outer s H vs Q E hgd hr hsp
  exact ⟨t, ht.nox, hq⟩
end
theorem tab_any {p : Program} {lo : List Str} {mean : ExcName → Option Value} {mg mb : Str → Option Value} {h : Heap} {K : PySem.W.Frag} {x : Str} {c P : Addr} (T : Top p lo mean mg mb h) (X : K.In h) (hr : ((recsOf p).any fun e => e.name == x) = true)
    (ht : PySem.W.tabIn K x = some (c, P)) (hn : PySem.W.noTabs K = true) : PySem.W.CodeHd h c P ∧ h.get? P = some tob ∧ K.lookup P = none := by
  obtain ⟨d, hd⟩ : ∃ d, (recsOf p).find? (fun e => e.name == x) = some d := by
    obtain ⟨d, m, e⟩ := List.any_eq_true.mp hr
    exact Option.isSome_iff_exists.mp (List.find?_isSome.mpr ⟨d, m, e⟩)
  obtain ⟨h1, h2⟩ := PySem.W.tab_of T X hd ht
  refine ⟨h1, h2, ?_⟩
  cases q : K.lookup P with
  | none => rfl
  | some o =>
    have e := Option.some.inj ((X P o q).symm.trans h2)
    subst e
    exact absurd (List.all_eq_true.mp hn _ (PySem.W.mem_of_lookupK q)) Bool.false_ne_true
theorem tabs_nil {T : List (Addr × Str)} {H : Hp} (h : ∀ p ∈ T, H p.1 = some (.tbl #[])) : LamX.Tabs T H := fun p hp => ⟨#[], h p hp, by trivial, fun pos cv e => by cases e⟩
/-- an own error's class by what is written -/
theorem errC_of {K : PySem.W.Frag} {mg : Str → Option Value} {h : Heap} {x : Str} {C : Addr} (X : K.In h) (G : h.Ns mainGlobals mg) (a : PySem.W.nsIn K mainGlobals x = some (some (.ref C)))
    (xc : PySem.W.excIn K C [.type "ValueError", .type "Exception", .type "BaseException", .type "object"] "ValueError.__new__" = true) (kc : PySem.W.keepIn K (.ref C) = true) (bc : PySem.W.subIn K (.ref C) (.type "BaseException") = some true)
    (tc : PySem.W.typeIn K (.ref C) = some (.type "type")) (ic : PySem.W.isClsIn K C = true)
    (h1 : PySem.W.findIn K (.ref C) "__getattribute__" = some (some (.builtin "BaseException.__getattribute__"))) (h2 : PySem.W.findIn K (.ref C) "__getattr__" = some none) (h4 : PySem.W.hasDictIn K C = true)
    (h5 : PySem.W.findIn K (.ref C) "__class__" = some (some (.builtin "object.__class__"))) (h6 : PySem.W.specialIn K (.builtin "object.__class__") "__get__" = some (some (.builtin "getset_descriptor.__get__")))
    (h7 : PySem.W.takesIn K (.builtin "object.__class__") = some true) (h8 : PySem.W.mroIn K C (.type "object") = some true) : ErrC K mg x C :=
  ⟨PySem.W.mg_of X G a, xc, kc, bc, tc, ic, ⟨h1, h2, bc, h4, h5, h6, h7, h8⟩⟩
theorem str_at {K : PySem.W.Frag} {mg : Str → Option Value} {h : Heap} {x z z' : Str} {t : Tok} (X : K.In h) (G : h.Ns mainGlobals mg) (a : PySem.W.nsIn K mainGlobals x = some (some (.str z' t))) (e : (z' == z) = true) : ∃ t, mg x = some (.str z t) := by
  rw [← eq_of_beq e]
  exact ⟨t, PySem.W.mg_of X G a⟩
theorem int_at {K : PySem.W.Frag} {mg : Str → Option Value} {h : Heap} {x : Str} {z z' : Int} {t : Tok} (X : K.In h) (G : h.Ns mainGlobals mg) (a : PySem.W.nsIn K mainGlobals x = some (some (.int z' t))) (e : (z' == z) = true) : ∃ t, mg x = some (.int z t) := by
  rw [← eq_of_beq e]
  exact ⟨t, PySem.W.mg_of X G a⟩
end FR

set_option Elab.async false
set_option linter.all false
set_option maxRecDepth 100000
set_option maxHeartbeats 4000000
/-! FRX: more rules: a sign times a number, True counted in a list of bools, repr of bools. -/
namespace FR
open PySem PySem.Spec PyProof.Rows L2
abbrev rRepS : R2 := fun x y H Q => ∃ (c : Nat) (k : Nat), x = .str ⟨#[c]⟩ ∧ y = .int k ∧ k ≤ 1000 ∧ Q (.str ⟨(List.replicate k c).toArray⟩) H
theorem mul_sign {c : Nat} : ∀ k : Nat, Txt.mul ⟨#[c]⟩ (k : Int) = ⟨(List.replicate k c).toArray⟩ := fun k => by
  unfold Txt.mul
  have l1 : (⟨#[c]⟩ : Str).length = 1 := rfl
  by_cases h : (k : Int) < 1
  · have : k = 0 := by omega
    subst this
    rw [if_pos h]; rfl
  · rw [if_neg h]
    by_cases h1 : k = 1
    · subst h1; rfl
    · have e : ((k : Int) == 1 || (⟨#[c]⟩ : Str).length == 0) = false := by
        rw [l1]
        simp
        omega
      rw [e, if_neg Bool.false_ne_true]
      congr 1
      have go : ∀ (n : Nat) (acc : Array Nat), (List.replicate n #[c]).foldl (· ++ ·) acc = acc ++ (List.replicate n c).toArray := by
        intro n
        induction n with
        | zero => intro acc; simp
        | succ m ih =>
          intro acc
          rw [List.replicate_succ, List.foldl_cons, ih, List.replicate_succ]
          refine Array.toList_inj.mp ?_
          simp
      show (List.replicate (k : Int).toNat #[c]).foldl (· ++ ·) #[] = _
      rw [go, Int.toNat_natCast]
      simp
theorem op_repS {X : Cx} : OpR X (binaryOp .Mult) rRepS := by
  intro pins s σ H x y v u Q I rx ry h
  obtain ⟨c, k, rfl, rfl, hk, q⟩ := h
  obtain ⟨t, rfl⟩ := rx
  obtain ⟨t', rfl⟩ := ry
  refine SB.mul ⟨?_, fun _ _ => ?_, fun _ _ => ?_⟩ fun t' k' => ⟨.str _, H, I.tok _, ⟨_, rfl⟩, by rw [mul_sign]; exact q⟩
  · rw [decide_eq_false (by omega), decide_eq_false (by omega)]; rfl
  · have l1 : ((⟨#[c]⟩ : Str).length : Int) = 1 := rfl
    rw [l1]
    have : (1 : Int) ≤ (2 ^ 63 - 1) / (k : Int) := (Int.le_ediv_iff_mul_le (by omega)).mpr (by omega)
    omega
  · have l1 : (⟨#[c]⟩ : Str).length = 1 := rfl
    rw [l1, Int.toNat_natCast]
    exact decide_eq_false (by rw [sizeLine_eq]; omega)
abbrev rReprI : List V → Hp → VK → Prop := fun xs H Q => ∃ i, xs = [.int i] ∧ i.natAbs.log2 < 1920 ∧ Q (.str (toString i)) H
abbrev rReprB : List V → Hp → VK → Prop := fun xs H Q => ∃ b, xs = [.bl b] ∧ Q (.str (if b then "True" else "False")) H
theorem call_reprB {X : Cx} : CallR X (.builtin "repr") rReprB := by
  intro pins s σ H xs us Q I r h
  obtain ⟨b, rfl, q⟩ := h
  obtain ⟨u, rfl, e⟩ := vals1 r
  cases e
  exact PySem.P.repr_of_bool ⟨.str _, H, I.tok _, ⟨_, rfl⟩, q⟩
theorem call_reprI {X : Cx} : CallR X (.builtin "repr") rReprI := SkE.call_repr_int
abbrev rSIndex : V → List V → Hp → VK → Prop := fun x xs H Q => ∃ a b i rest, x = .str a ∧ xs = [.str b] ∧ Builtin.Str.occurrences a b 0 a.length 1 = i :: rest ∧ Q (.int (i : Nat)) H
abbrev rCntB (K : PySem.W.Frag) : V → List V → Hp → VK → Prop := fun x xs H Q => ∃ (p : Addr) (bs : List Bool), x = .ref p ∧ xs = [.bl true] ∧ SqL K H p (bs.map V.bl) ∧ Q (.int (bs.count true : Nat)) H
def eqT : Value → Bool
  | .bool b => b
  | _ => false
theorem eqT_count : ∀ {us : List Value} {bs : List Bool}, Vals (bs.map V.bl) us → us.countP eqT = bs.count true ∧ ∀ y ∈ us, ∃ b, y = .bool b
  | us, [], h => by cases h; exact ⟨rfl, fun _ m => nomatch m⟩
  | us, b :: r, h => by
    cases h with
    | cons h1 h2 =>
      obtain ⟨i1, i2⟩ := eqT_count h2
      cases h1
      refine ⟨?_, fun y hy => ?_⟩
      · rw [List.countP_cons, List.count_cons, i1]
        cases b <;> rfl
      · rcases List.mem_cons.mp hy with e | e
        · exact ⟨b, e⟩
        · exact i2 y e
theorem mt_countB {X : Cx} : MtR X "list.count" (rCntB X.K) := by
  intro pins s σ H x xs v us Q I rx rxs h
  obtain ⟨p, bs, rfl, rfl, hs, q⟩ := h
  cases rx
  obtain ⟨u, rfl, ru⟩ := rxs.one
  cases ru
  obtain ⟨its, rv, ⟨⟨cls, dd, data, sl⟩, n, ho, hc, hdn, hd⟩, hlen⟩ := I.list hs
  simp only at hc hd
  subst hc hd
  obtain ⟨e1, e2⟩ := eqT_count rv
  refine call_meets PySem.F.slot_list_count ⟨_, ho, rfl⟩ PySem.F.entry_list_count (PySem.F.args_list_count_2 _ _)
    (SeqAt.list_countAt p its.toArray n dd sl (.bool true) eqT) ⟨ho, fun y hy => ?_, ?_⟩
  · obtain ⟨b, rfl⟩ := e2 y (by simpa using hy)
    have := eqAt_V (A := X.A.in1) (s := s) (y := .bl b) (x := .bl true) (u := .bool b) (v := .bool true) rfl rfl rfl rfl
    have e : eqT (.bool b) = eqV (.bl b) (.bl true) := by cases b <;> rfl
    rw [e]
    exact this
  · refine ⟨.int (bs.count true : Nat), H, I.tok _, ⟨s.toks, ?_⟩, q⟩
    show Value.int ((its.toArray.toList.countP eqT : Nat) : Int) s.toks = Value.int ((bs.count true : Nat) : Int) s.toks
    rw [show its.toArray.toList.countP eqT = bs.count true from e1]
abbrev rMin2 : List V → Hp → VK → Prop := fun xs H Q => ∃ i j, xs = [.int i, .int j] ∧ Q (.int (if j < i then j else i)) H
end FR

set_option Elab.async false
set_option linter.all false
set_option maxRecDepth 100000
set_option maxHeartbeats 4000000
/-! FRD: data that stands in the heap off the places S; comprehensions that make data. -/
namespace FR
open PySem PySem.Spec PyProof.Rows L2
mutual
def Dv (S : List Addr) (H : Hp) : PyData → V → Prop
  | .none, v => v = .non
  | .bool b, v => v = .bl b
  | .int i, v => v = .int i
  | .str z, v => v = .str z
  | .list ds, v => ∃ a vs, v = .ref a ∧ a ∉ S ∧ H a = some (.lst vs) ∧ Dvs S H ds vs
  | .tuple ds, v => ∃ a vs, v = .ref a ∧ a ∉ S ∧ H a = some (.tup vs) ∧ Dvs S H ds vs
  | .dict _, _ => False
def Dvs (S : List Addr) (H : Hp) : List PyData → List V → Prop
  | [], vs => vs = []
  | d :: r, vs => ∃ v ws, vs = v :: ws ∧ Dv S H d v ∧ Dvs S H r ws
end
section
variable {S T : List Addr} {H H' : Hp}
mutual
theorem Dv.step (hS : ∀ a, a ∉ S → a ∉ T) (k : ∀ b o, H b = some o → (∀ ps, o ≠ .tbl ps) → b ∉ S → H' b = some o) : ∀ (d : PyData) (v : V), Dv S H d v → Dv T H' d v
  | .none, _, h => h
  | .bool _, _, h => h
  | .int _, _, h => h
  | .str _, _, h => h
  | .dict _, _, h => h.elim
  | .list ds, _, ⟨a, vs, e, n, g, r⟩ => ⟨a, vs, e, hS a n, k a _ g (fun _ q => nomatch q) n, Dvs.step hS k ds vs r⟩
  | .tuple ds, _, ⟨a, vs, e, n, g, r⟩ => ⟨a, vs, e, hS a n, k a _ g (fun _ q => nomatch q) n, Dvs.step hS k ds vs r⟩
theorem Dvs.step (hS : ∀ a, a ∉ S → a ∉ T) (k : ∀ b o, H b = some o → (∀ ps, o ≠ .tbl ps) → b ∉ S → H' b = some o) : ∀ (ds : List PyData) (vs : List V), Dvs S H ds vs → Dvs T H' ds vs
  | [], _, h => h
  | d :: r, _, ⟨v, ws, e, h1, h2⟩ => ⟨v, ws, e, Dv.step hS k d v h1, Dvs.step hS k r ws h2⟩
end
theorem Dv.keep {d : PyData} {v : V} (h : Dv S H d v) (k : Keep S H H') : Dv S H' d v := Dv.step (fun _ n => n) (fun b o e _ n => k b o e n) d v h
theorem Dv.keep0 {d : PyData} {v : V} (h : Dv S H d v) (k : Keep [] H H') : Dv S H' d v := h.keep k.of0
theorem Dv.ext {d : PyData} {v : V} (h : Dv S H d v) (k : LamX.ExtN H H') : Dv S H' d v := Dv.step (fun _ n => n) (fun b o e n _ => k b o e n) d v h
theorem Dv.sub {d : PyData} {v : V} (h : Dv S H d v) (s : ∀ a ∈ T, a ∈ S) : Dv T H d v := Dv.step (fun a n m => n (s a m)) (fun b o e _ _ => e) d v h
theorem Dvs.keep {d : List PyData} {v : List V} (h : Dvs S H d v) (k : Keep S H H') : Dvs S H' d v := Dvs.step (fun _ n => n) (fun b o e _ n => k b o e n) d v h
theorem Dvs.keep0 {d : List PyData} {v : List V} (h : Dvs S H d v) (k : Keep [] H H') : Dvs S H' d v := h.keep k.of0
theorem Dvs.ext {d : List PyData} {v : List V} (h : Dvs S H d v) (k : LamX.ExtN H H') : Dvs S H' d v := Dvs.step (fun _ n => n) (fun b o e n _ => k b o e n) d v h
theorem Dvs.sub {d : List PyData} {v : List V} (h : Dvs S H d v) (s : ∀ a ∈ T, a ∈ S) : Dvs T H d v := Dvs.step (fun a n m => n (s a m)) (fun b o e _ _ => e) d v h
theorem Dvs.length : ∀ {ds : List PyData} {vs : List V}, Dvs S H ds vs → vs.length = ds.length
  | [], _, h => by subst h; rfl
  | d :: r, _, ⟨v, ws, e, h1, h2⟩ => by subst e; rw [List.length_cons, List.length_cons, Dvs.length h2]
theorem Dvs.at : ∀ {ds : List PyData} {vs : List V} {i : Nat} {v : V}, Dvs S H ds vs → vs[i]? = some v → ∃ d, ds[i]? = some d ∧ Dv S H d v
  | [], _, i, v, h, e => by subst h; simp at e
  | d :: r, _, 0, v, ⟨u, ws, q, h1, h2⟩, e => by
    subst q
    cases (Option.some.inj e : u = v)
    exact ⟨d, rfl, h1⟩
  | d :: r, _, i + 1, v, ⟨u, ws, q, h1, h2⟩, e => by
    subst q
    exact Dvs.at (ds := r) h2 (i := i) e
theorem Dvs.app : ∀ {ds es : List PyData} {vs ws : List V}, Dvs S H ds vs → Dvs S H es ws → Dvs S H (ds ++ es) (vs ++ ws)
  | [], _, _, _, h, g => by subst h; exact g
  | d :: r, _, _, _, ⟨v, us, e, h1, h2⟩, g => by subst e; exact ⟨v, _, rfl, h1, Dvs.app h2 g⟩
theorem Dvs.one {d : PyData} {v : V} (h : Dv S H d v) : Dvs S H [d] [v] := ⟨v, [], rfl, h, rfl⟩
mutual
theorem Dv.dp {K : PySem.W.Frag} : ∀ (d : PyData) (v : V), Dv S H d v → Dp K H v d
  | .none, _, h => by cases h; exact .non
  | .bool b, _, h => by cases h; exact .bl b
  | .int i, _, h => by cases h; exact .int i
  | .str x, _, h => by cases h; exact .str x
  | .dict _, _, h => h.elim
  | .list ds, _, ⟨a, vs, e, n, g, r⟩ => by subst e; exact .lst (.of g) (Dvs.dp ds vs r)
  | .tuple ds, _, ⟨a, vs, e, n, g, r⟩ => by subst e; exact .tup (.of g) (Dvs.dp ds vs r)
theorem Dvs.dp {K : PySem.W.Frag} : ∀ (ds : List PyData) (vs : List V), Dvs S H ds vs → DpAll K H vs ds
  | [], _, h => by cases h; exact .nil
  | d :: r, _, ⟨v, ws, e, h1, h2⟩ => by subst e; exact .cons (Dv.dp d v h1) (Dvs.dp r ws h2)
end
def tyD : PyData → String
  | .none => "NoneType"
  | .bool _ => "bool"
  | .int _ => "int"
  | .str _ => "str"
  | .list _ => "list"
  | .tuple _ => "tuple"
  | .dict _ => "dict"
theorem Dv.ty {K : PySem.W.Frag} : ∀ {d : PyData} {v : V}, Dv S H d v → TyX K H v (.type (tyD d))
  | .none, _, h => by cases h; exact .base .non
  | .bool b, _, h => by cases h; exact .base (.bl b)
  | .int i, _, h => by cases h; exact .base (.int i)
  | .str x, _, h => by cases h; exact .base (.str x)
  | .dict _, _, h => h.elim
  | .list ds, _, ⟨a, vs, e, n, g, r⟩ => by subst e; exact .base (.lst g)
  | .tuple ds, _, ⟨a, vs, e, n, g, r⟩ => by subst e; exact .base (.tup g)
def isTyD (t : String) (d : PyData) : Bool := (kitB (tyD d) t).getD false
theorem isTy_some {d : PyData} {t : String} (h : (kitB (tyD d) t).isSome = true) : kitB (tyD d) t = some (isTyD t d) := by
  unfold isTyD
  cases q : kitB (tyD d) t with
  | none => rw [q] at h; cases h
  | some b => rfl
theorem kit_all (d : PyData) : (kitB (tyD d) "tuple").isSome = true ∧ (kitB (tyD d) "bool").isSome = true ∧ (kitB (tyD d) "int").isSome = true ∧ (kitB (tyD d) "str").isSome = true := by
  cases d <;> (simp only [tyD]; decide +kernel)
theorem s_isT {K : PySem.W.Frag} {Q : VK} {d : PyData} {v : V} (h : Dv S H d v) (q : Q (.bl (isTyD "tuple" d)) H) : rIsi K [v, .ty "tuple"] H Q := s_isi h.ty (isTy_some (kit_all d).1) q
theorem s_isB {K : PySem.W.Frag} {Q : VK} {d : PyData} {v : V} (h : Dv S H d v) (q : Q (.bl (isTyD "bool" d)) H) : rIsi K [v, .ty "bool"] H Q := s_isi h.ty (isTy_some (kit_all d).2.1) q
theorem s_isIn {K : PySem.W.Frag} {Q : VK} {d : PyData} {v : V} (h : Dv S H d v) (q : Q (.bl (isTyD "int" d)) H) : rIsi K [v, .ty "int"] H Q := s_isi h.ty (isTy_some (kit_all d).2.2.1) q
theorem s_isSt {K : PySem.W.Frag} {Q : VK} {d : PyData} {v : V} (h : Dv S H d v) (q : Q (.bl (isTyD "str" d)) H) : rIsi K [v, .ty "str"] H Q := s_isi h.ty (isTy_some (kit_all d).2.2.2) q
/-- the bools that a list of bools holds -/
theorem Dvs.bools : ∀ {bs : List Bool} {vs : List V}, Dvs S H (bs.map PyData.bool) vs → vs = bs.map V.bl
  | [], _, h => h
  | b :: r, _, ⟨v, ws, e, h1, h2⟩ => by
    have h1 : v = .bl b := h1
    subst e h1
    rw [List.map_cons, Dvs.bools h2]
theorem Dvs.ofBools : ∀ {bs : List Bool}, Dvs S H (bs.map PyData.bool) (bs.map V.bl)
  | [] => rfl
  | b :: r => ⟨_, _, rfl, rfl, Dvs.ofBools⟩
end
/-! ### comprehensions that make data -/
section
variable {J : It} {n : Nat} {G : Hp → Prop} {Y : Nat → Hp → V → Hp → Prop}
theorem lc_data (w : Walk J n G Y) {S : List Addr} (G' : Hp → Prop) (ds : List PyData) (hds : ds.length = n) {j : Nat} {te : TE} {vs : List Nat} {σ : L2.St} {H : Hp} {D : Addr} {Qd : Hp → Prop} (hz : n ≤ 1000000) (hD : H D = none) (hS : D ∉ S) (g0 : G' H)
    (gU : ∀ H2 o, Keep S H H2 → G' H2 → G' (upd H2 D o)) (hG : ∀ H', Keep S H H' → G' H' → G H') (hw : ∀ x, wipe ((wipe σ vs).set j (some x)) vs = wipe σ vs)
    (he : ∀ (i : Nat) (H1 : Hp) (x : V) (H2 : Hp) (d : PyData), i < n → ds[i]? = some d → Keep S H H1 → G' H1 → H1 D ≠ none → Y i H1 x H2 → H2 = H1 ∧ ∀ R : VK, (∀ v H3, Keep S H1 H3 → G' H3 → Dv (D :: S) H3 d v → R v H3) → te ((wipe σ vs).set j (some x)) H1 R)
    (q : ∀ H' acc, Keep S H H' → G' H' → H' D = some (.lst acc) → Dvs (D :: S) H' ds acc → Qd H') :
    ∃ W : Nat → Nat → Hp → Prop, (∃ m, W 0 m (upd H D (.lst []))) ∧ ∀ i m H, W i m H →
      (J.stop i H ∧ Qd H) ∨ (J.go i H ∧ ∃ Nx : Hp → Prop, (∀ H', Nx H' → ∃ m', m' < m ∧ W (i + 1) m' H') ∧ ∀ x H', J.yld i H x H' → gName j x (wipe σ vs) H' fun σ2 H2 => wipe σ2 vs = wipe σ vs ∧ tYes σ2 H2 fun b H3 =>
        if b = true then te σ2 H3 fun y H4 => ∃ acc, H4 D = some (.lst acc) ∧ acc.length < sizeLine ∧ Nx (upd H4 D (.lst (acc ++ [y]))) else Nx H3) := by
  refine lc_it w (fun i H' => Keep S H H' ∧ G' H' ∧ ∃ acc, H' D = some (.lst acc) ∧ Dvs (D :: S) H' (ds.take i) acc) ⟨Keep.new hD, gU H _ Keep.refl g0, [], upd_same, rfl⟩ (fun i H' _ p => hG H' p.1 p.2.1) ?_ ?_
  · rintro i x H1 H2 hi ⟨k, g, acc, e, a⟩ y
    have hlt : i < ds.length := by omega
    have hd : ds[i]? = some ds[i] := List.getElem?_eq_getElem hlt
    obtain ⟨rfl, hh⟩ := he i H1 x H2 ds[i] hi hd k g (by rw [e]; simp) y
    refine ⟨hw x, ?_⟩
    dsimp only [tYes]
    rw [if_pos rfl]
    refine hh _ fun v H3 k3 g3 hv => ⟨acc, k3 _ _ e hS, szl_of (by rw [a.length, List.length_take]; omega : _ ≤ 1000000), (k.trans k3).own hD, gU H3 _ (k.trans k3) g3, _, upd_same, ?_⟩
    have kU : Keep (D :: S) H3 (upd H3 D (.lst (acc ++ [v]))) := Keep.put List.mem_cons_self
    rw [take_more hd]
    exact (((a.keep (k3.mono fun _ m => List.mem_cons_of_mem _ m)).app (Dvs.one hv))).keep kU
  · rintro H' ⟨k, g, acc, e, a⟩
    rw [← hds, List.take_length] at a
    exact q H' acc k g e a
end
section
variable {K : PySem.W.Frag} {σ : L2.St} {H : Hp} {Q : VK} {j : Nat} {te : TE} {vs : List Nat} {a : Addr} {xs : List V} {z : Str} {S : List Addr}
/-- over a list that stays -/
theorem ldL {tl : TE} (G : Hp → Prop) (ds : List PyData) (hds : ds.length = xs.length) (hl : ∀ R : VK, (∀ a H0, Keep [] H H0 → SqL K H0 a xs → a ∉ S → G H0 → R (.ref a) H0) → tl σ H R) (hz : xs.length ≤ 1000000) (gS : ∀ D H0, H0 D = none → G H0 → D ∉ S)
    (gU : ∀ D H0 H2 o, H0 D = none → G H0 → Keep S H0 H2 → G H2 → G (upd H2 D o)) (hw : ∀ x, wipe ((wipe σ vs).set j (some x)) vs = wipe σ vs)
    (he : ∀ (i : Nat) (x : V) (d : PyData) (D : Addr) (H1 : Hp), xs[i]? = some x → ds[i]? = some d → Keep S H H1 → G H1 → H1 D ≠ none → ∀ R : VK, (∀ v H3, Keep S H1 H3 → G H3 → Dv (D :: S) H3 d v → R v H3) → te ((wipe σ vs).set j (some x)) H1 R)
    (q : ∀ D H' acc, H D = none → Keep S H H' → G H' → H' D = some (.lst acc) → Dvs (D :: S) H' ds acc → Q (.ref D) H') : tLc (iList K tl) (gName j) tYes te vs σ H Q :=
  hl _ fun a H0 k0 hs hna g0 => ⟨a, rfl, ⟨xs, hs⟩, fun D hD => lc_data walk_list (S := S) G ds hds hz hD (gS D H0 hD g0) g0 (fun H2 o k g => gU D H0 H2 o hD g0 k g) (fun H' k _ => k.sqL hs hna) hw
    (fun i H1 x H2 d hi hd k g n y => ⟨y.1, fun R r => he i x d D H1 y.2 hd (k0.of0.trans k) g n R r⟩) fun H' acc k g e b => q D H' acc (k0.none hD) (k0.of0.trans k) g e b⟩
/-- over a tuple -/
theorem ldT {tl : TE} (G : Hp → Prop) (ds : List PyData) (hds : ds.length = xs.length) (hl : ∀ R : VK, (∀ a H0, Keep [] H H0 → SqT K H0 a xs → a ∉ S → G H0 → R (.ref a) H0) → tl σ H R) (hz : xs.length ≤ 1000000) (gS : ∀ D H0, H0 D = none → G H0 → D ∉ S)
    (gU : ∀ D H0 H2 o, H0 D = none → G H0 → Keep S H0 H2 → G H2 → G (upd H2 D o)) (hw : ∀ x, wipe ((wipe σ vs).set j (some x)) vs = wipe σ vs)
    (he : ∀ (i : Nat) (x : V) (d : PyData) (D : Addr) (H1 : Hp), xs[i]? = some x → ds[i]? = some d → Keep S H H1 → G H1 → H1 D ≠ none → ∀ R : VK, (∀ v H3, Keep S H1 H3 → G H3 → Dv (D :: S) H3 d v → R v H3) → te ((wipe σ vs).set j (some x)) H1 R)
    (q : ∀ D H' acc, H D = none → Keep S H H' → G H' → H' D = some (.lst acc) → Dvs (D :: S) H' ds acc → Q (.ref D) H') : tLc (iTup K tl) (gName j) tYes te vs σ H Q :=
  hl _ fun a H0 k0 hs hna g0 => ⟨a, rfl, ⟨xs, hs⟩, fun D hD => lc_data walk_tup (S := S) G ds hds hz hD (gS D H0 hD g0) g0 (fun H2 o k g => gU D H0 H2 o hD g0 k g) (fun H' k _ => k.sqT hs hna) hw
    (fun i H1 x H2 d hi hd k g n y => ⟨y.1, fun R r => he i x d D H1 y.2 hd (k0.of0.trans k) g n R r⟩) fun H' acc k g e b => q D H' acc (k0.none hD) (k0.of0.trans k) g e b⟩
end
/-! ### slices and sums with what they keep -/
theorem mem_cutV {xs : List V} {lo hi : Option Int} {v : V} (h : v ∈ cutV xs lo hi) : v ∈ xs := by
  unfold cutV at h
  exact List.mem_of_mem_drop (List.mem_of_mem_take h)
theorem newK {H : Hp} {o : HO} {Q : VK} (q : ∀ p H', Keep [] H H' → H' p = some o → H p = none → Q (.ref p) H') : ∀ p, H p = none → Q (.ref p) (upd H p o) :=
  fun p hp => q p _ (Keep.new hp) upd_same hp
section
variable {K : PySem.W.Frag} {H : Hp} {Q : VK} {a b : Addr} {xs ys : List V} {lo hi : Option Int}
theorem s_cutK (h : SqL K H a xs) (q : ∀ p H', Keep [] H H' → H' p = some (.lst (cutV xs lo hi)) → H p = none → Q (.ref p) H') : rSlL K (.ref a) lo hi H Q := s_cutL h (newK q)
theorem s_catK (h : H a = some (.lst xs)) (h2 : H b = some (.lst ys)) (hz : xs.length + ys.length ≤ sizeLine) (q : ∀ p H', Keep [] H H' → H' p = some (.lst (xs ++ ys)) → H p = none → Q (.ref p) H') : rCat (.ref a) (.ref b) H Q := s_cat h h2 hz (newK q)
end
end FR

set_option Elab.async false
set_option linter.all false
set_option maxRecDepth 100000
set_option maxHeartbeats 2000000
/-! FZ: zip of two, enumerate, of lists, tuples and texts in any mix; a walk over any of them. -/
namespace FR
open PySem PySem.Spec PyProof.Rows L2
/-- what is walked: a list, a tuple, a text -/
inductive ZV where
  | lst (a : Addr)
  | tpl (a : Addr)
  | txt (x : Str)
def ZV.v : ZV → V
  | .lst a => .ref a
  | .tpl a => .ref a
  | .txt x => .str x
def ZV.seq (K : PySem.W.Frag) (H : Hp) : ZV → List V → Prop
  | .lst a, xs => SqL K H a xs
  | .tpl a, xs => SqT K H a xs
  | .txt x, xs => xs = signsV x
/-- the value behind it -/
def ZV.u : ZV → Tok → Value
  | .lst a, _ => .ref a
  | .tpl a, _ => .ref a
  | .txt x, t => .str x t
def ZV.cell : ZV → Tok → Obj
  | .lst a, _ => { cls := .type "list_iterator", data := .fields #[.ref a, .int 0 0] }
  | .tpl a, _ => { cls := .type "tuple_iterator", data := .fields #[.ref a, .int 0 0] }
  | .txt x, t => { cls := .type (strIterType x), data := .fields #[.str x t, .int 0 0] }
def ZV.It (z : ZV) (t : Tok) (it : Addr) (i : Nat) (h : Heap) : Prop := match z with
  | .lst a => h.IsListIter it a i
  | .tpl a => h.IsTupleIter it a i
  | .txt x => h.IsStrIter it (strIterType x) x t i
/-- it lies apart from what it walks -/
def ZV.ap (z : ZV) (b : Addr) : Prop := ∀ a, z.v = .ref a → a ≠ b
theorem ZV.rel (z : ZV) {u : Value} (r : RelV z.v u) : ∃ t, u = z.u t := by
  cases z with
  | lst a => exact ⟨0, r⟩
  | tpl a => exact ⟨0, r⟩
  | txt x => exact r
section
variable {X : Cx} {pins : List (Addr × Obj)} {σ : L2.St} {H : Hp} {s : Shared} {xs ys : List V}
theorem ZV.inj (I : Inv X pins σ H s) (z : ZV) (h : z.seq X.K H xs) (h' : z.seq X.K H ys) : xs = ys := by
  cases z with
  | lst a => exact I.list_inj h h'
  | tpl a => exact I.tuple_inj h h'
  | txt x => exact h.trans h'.symm
theorem ZV.begins (I : Inv X pins σ H s) (z : ZV) (t : Tok) (h : z.seq X.K H xs) : ∃ B : Heap → Prop, Begins (z.u t) (z.cell t) B ∧ B s.heap := by
  cases z with
  | lst a =>
    obtain ⟨its, rv, p, _⟩ := I.list h
    exact ⟨_, begins_list a its.toArray, p.isList⟩
  | tpl a =>
    obtain ⟨its, rv, p, _⟩ := I.tuple h
    exact ⟨_, begins_tuple a its.toArray, p⟩
  | txt x => exact ⟨_, begins_text x t, trivial⟩
theorem ZV.it0 (z : ZV) (t : Tok) {it : Addr} {h : Heap} (e : h.get? it = some (z.cell t)) : z.It t it 0 h := by
  cases z with
  | lst a => exact ⟨_, e, rfl, rfl⟩
  | tpl a => exact ⟨_, e, rfl, rfl⟩
  | txt x => exact ⟨_, e, rfl, rfl⟩
theorem ZV.lt (I : Inv X pins σ H s) (z : ZV) (h : z.seq X.K H xs) : ∀ a, z.v = .ref a → a < s.heap.objs.size := by
  cases z with
  | lst a =>
    obtain ⟨its, rv, p, _⟩ := I.list h
    intro b e; cases e; exact p.lt
  | tpl a =>
    obtain ⟨its, rv, p, _⟩ := I.tuple h
    obtain ⟨o, ho, _⟩ := id p
    intro b e; cases e; exact Heap.lt_size ho
  | txt x => intro b e; cases e
/-- what its iterator draws -/
theorem ZV.draws (I : Inv X pins σ H s) {A : Around} (hh : A.handled = none) (z : ZV) (t : Tok) (it : Addr) (h : z.seq X.K H xs) (ha : z.ap it) : ∃ (fp : List Addr) (P : Nat → Value → Prop) (St : Nat → Heap → Prop), Draws X.prog X.w A it fp xs.length P St ∧ it ∈ fp ∧
    (∀ c ∈ fp, c = it ∨ z.v = .ref c) ∧ (∀ i, z.It t it i s.heap → St i s.heap) ∧ (∀ i h, St i h → z.It t it i h) ∧ ∀ i v, P i v → ∃ x, xs[i]? = some x ∧ RelV x v := by
  cases z with
  | lst a =>
    obtain ⟨its, rv, p, _⟩ := I.list h
    have D := Draws.list (prog := X.prog) (w := X.w) (A := A) hh it a (ha a rfl) its.toArray
    rw [List.size_toArray, ← rv.length] at D
    refine ⟨_, _, _, D, .head _, fun c m => ?_, fun i q => ⟨q, p.isList⟩, fun i h q => q.1, fun i v e => ?_⟩
    · rcases List.mem_cons.mp m with m | m
      · exact .inl m
      · rw [List.mem_singleton.mp m]; exact .inr rfl
    · obtain ⟨x, ex⟩ : ∃ x, xs[i]? = some x := by
        have l := (Array.getElem?_eq_some_iff.mp e).1
        rw [List.size_toArray, ← rv.length] at l
        exact ⟨_, List.getElem?_eq_getElem l⟩
      obtain ⟨u, eu, ru⟩ := rv.get ex
      have e : its.toArray[i]? = some v := e
      rw [List.getElem?_toArray, eu] at e
      cases e
      exact ⟨x, ex, ru⟩
  | tpl a =>
    obtain ⟨its, rv, p, _⟩ := I.tuple h
    have D := Draws.tuple (prog := X.prog) (w := X.w) (A := A) hh it a (ha a rfl) its.toArray
    rw [List.size_toArray, ← rv.length] at D
    refine ⟨_, _, _, D, .head _, fun c m => ?_, fun i q => ⟨q, p⟩, fun i h q => q.1, fun i v e => ?_⟩
    · rcases List.mem_cons.mp m with m | m
      · exact .inl m
      · rw [List.mem_singleton.mp m]; exact .inr rfl
    · obtain ⟨x, ex⟩ : ∃ x, xs[i]? = some x := by
        have l := (Array.getElem?_eq_some_iff.mp e).1
        rw [List.size_toArray, ← rv.length] at l
        exact ⟨_, List.getElem?_eq_getElem l⟩
      obtain ⟨u, eu, ru⟩ := rv.get ex
      have e : its.toArray[i]? = some v := e
      rw [List.getElem?_toArray, eu] at e
      cases e
      exact ⟨x, ex, ru⟩
  | txt x =>
    have h : xs = signsV x := h
    subst h
    have D := Draws.text (prog := X.prog) (w := X.w) (A := A) hh it x t
    have e : x.cps.size = (signsV x).length := by
      unfold signsV
      rw [List.length_map]; exact Array.length_toList.symm
    rw [e] at D
    refine ⟨_, _, _, D, .head _, fun c m => .inl (List.mem_singleton.mp m), fun i q => q, fun i h q => q, fun i v ⟨c, u, h1, h2⟩ => ⟨.str ⟨#[c]⟩, ?_, u, h2⟩⟩
    unfold signsV
    rw [List.getElem?_map, Array.getElem?_toList, h1]
    rfl
end
/-! ### zip -/
def ItzM (K : PySem.W.Frag) (p q : ZV) : It :=
  ⟨fun i H => ∃ (xs ys : List V) (x y : V), p.seq K H xs ∧ q.seq K H ys ∧ xs[i]? = some x ∧ ys[i]? = some y,
    fun i H v H' => ∃ T x y, v = .ref T ∧ H T = none ∧ H' = upd H T (.tup [x, y]) ∧ (∀ xs, p.seq K H xs → xs[i]? = some x) ∧ ∀ ys, q.seq K H ys → ys[i]? = some y,
    fun i H => ∃ xs ys : List V, p.seq K H xs ∧ q.seq K H ys ∧ i ≤ xs.length ∧ i ≤ ys.length ∧ (i = xs.length ∨ i = ys.length)⟩
/-- the cells of a zip lie apart -/
structure ZAp (z TI TO i1 i2 : Addr) (p q : ZV) : Prop where
  nd : [z, TI, TO, i1, i2].Nodup
  p : ∀ b ∈ [z, TI, TO, i1, i2], p.ap b
  q : ∀ b ∈ [z, TI, TO, i1, i2], q.ap b
theorem ZAp.sep {z TI TO i1 i2 : Addr} {p q : ZV} {fp1 fp2 : List Addr} (D : ZAp z TI TO i1 i2 p q) (m1 : i1 ∈ fp1) (m2 : i2 ∈ fp2) (f1 : ∀ c ∈ fp1, c = i1 ∨ p.v = .ref c) (f2 : ∀ c ∈ fp2, c = i2 ∨ q.v = .ref c) : ZipSep2 z TI TO i1 i2 fp1 fp2 := by
  have nd := D.nd
  simp only [List.nodup_cons, List.mem_cons, List.not_mem_nil, or_false, not_or, not_false_eq_true, List.nodup_nil, and_true] at nd
  obtain ⟨⟨a1, a2, a3, a4⟩, ⟨b1, b2, b3⟩, ⟨c1, c2⟩, d1⟩ := nd
  have n1 : ∀ c, c ∈ [z, TI, TO, i1, i2] → c ≠ i1 → c ∉ fp1 := fun c m n q => (f1 c q).elim n fun e => D.p c m c e rfl
  have n2 : ∀ c, c ∈ [z, TI, TO, i1, i2] → c ≠ i2 → c ∉ fp2 := fun c m n q => (f2 c q).elim n fun e => D.q c m c e rfl
  exact ⟨fun e => a1 e.symm, fun e => a2 e.symm, b1, b2, m1, n1 z (by simp) a3, n1 TO (by simp) c1, b3, m2, n2 z (by simp) a4, n2 TO (by simp) c2, n2 i1 (by simp) d1, n1 i2 (by simp) fun e => d1 e.symm⟩
theorem ZV.at_ {z : ZV} {t : Tok} {it : Addr} {i : Nat} {h h' : Heap} (q : z.It t it i h) (k : ∀ o, h.get? it = some o → h'.get? it = some o) : z.It t it i h' := by
  cases z with
  | lst a => exact Heap.IsListIter.at q k
  | tpl a => exact Heap.IsTupleIter.at q k
  | txt x => obtain ⟨o, e, r⟩ := q; exact ⟨o, k o e, r⟩
theorem ZV.obj {z : ZV} {t : Tok} {it : Addr} {i : Nat} {h : Heap} (q : z.It t it i h) : ∃ o, h.get? it = some o ∧ ∀ v, o.data ≠ .cell v := by
  cases z with
  | lst a => obtain ⟨o, e, _, d⟩ := q; exact ⟨o, e, fun v q => by rw [d] at q; cases q⟩
  | tpl a => obtain ⟨o, e, _, d⟩ := q; exact ⟨o, e, fun v q => by rw [d] at q; cases q⟩
  | txt x => obtain ⟨o, e, _, d⟩ := q; exact ⟨o, e, fun v q => by rw [d] at q; cases q⟩
theorem turn_zipM {P : Program} {w : World} {K : PySem.W.Frag} {elts : List Expr} {kk : Nat} {tpos : Pos} {p q : ZV} {t1 t2 : Tok} {z TI TO i1 i2 : Addr} (D : ZAp z TI TO i1 i2 p q) :
    Turn P w K (.Tuple elts kk tpos) (ItzM K p q) [z, TI, TO, i1, i2] z (fun i h => IsZip h z TI TO .none ∧ IsTupOf2 h TI (.ref i1) (.ref i2) ∧ (∃ x y, IsTupOf2 h TO x y) ∧ p.It t1 i1 i h ∧ q.It t2 i2 i h) where
  mem := by simp
  obj := fun i h st c hc => by
    obtain ⟨hz, hTI, ⟨x, y, hTO⟩, h1, h2⟩ := st
    have e' : c = z ∨ c = TI ∨ c = TO ∨ c = i1 ∨ c = i2 := by simpa using hc
    rcases e' with q | q | q | q | q
    · rw [q]; exact ⟨_, hz, fun v q => nomatch q⟩
    · rw [q]; exact ⟨_, hTI, fun v q => nomatch q⟩
    · rw [q]; exact ⟨_, hTO, fun v q => nomatch q⟩
    · rw [q]; exact ZV.obj h1
    · rw [q]; exact ZV.obj h2
  keep := fun i h h' st k => by
    obtain ⟨hz, hTI, ⟨x, y, hTO⟩, h1, h2⟩ := st
    exact ⟨k z (by simp) _ hz, k TI (by simp) _ hTI, ⟨x, y, k TO (by simp) _ hTO⟩, ZV.at_ h1 fun o q => k i1 (by simp) o q, ZV.at_ h2 fun o q => k i2 (by simp) o q⟩
  item := by
    intro X hP hw hK hc i pins s σ H E I hf st hg
    subst hP hw hK
    obtain ⟨hz, hTI, ⟨x0, y0, hTO⟩, h1, h2⟩ := st
    obtain ⟨xs, ys, x, y, hqx, hqy, hx, hy⟩ := hg
    have hd : X.A.in1.handled = none := by show X.A.handled = none; exact I.ok.hd hc
    obtain ⟨fp1, P1, St1, D1, m1, f1, s1, b1, r1⟩ := p.draws I (A := X.A.in1) hd t1 i1 hqx (D.p i1 (by simp))
    obtain ⟨fp2, P2, St2, D2, m2, f2, s2, b2, r2⟩ := q.draws I (A := X.A.in1) hd t2 i2 hqy (D.q i2 (by simp))
    have S := D.sep m1 m2 f1 f2
    have hzl : z < s.heap.objs.size := Heap.lt_size hz
    refine wpAny_pyNext_zipD2_item S D1 D2 hz hTI hTO (s1 i h1) (s2 i h2) (List.getElem?_eq_some_iff.mp hx).1 (List.getElem?_eq_some_iff.mp hy).1 fun u u2 h' tk hu hu2 z' TO' h1' h2' hT hsz hk => ?_
    obtain ⟨x', ex, ru⟩ := r1 i u hu
    obtain ⟨y', ey, ru2⟩ := r2 i u2 hu2
    rw [hx] at ex; cases ex
    rw [hy] at ey; cases ey
    refine ⟨_, rfl, wpAny_letOwnedTupleGo_zip (s := { s with heap := h', toks := tk }) z' fun h'' z'' sb => ?_⟩
    have hT2 : h''.get? s.heap.objs.size = some { cls := .type "tuple", data := .seq #[u, u2] } := (sb.2 _ (Nat.ne_of_gt hzl)).trans hT
    have new : ObjOk X.prog X.w (upd H s.heap.objs.size (.tup [x, y])) h'' s.heap.objs.size (.tup [x, y]) :=
      ⟨by show 2 ≤ sizeLine; decide, [u, u2], .cons ru (.cons ru2 .nil), ⟨_, hT2, rfl, _, rfl⟩⟩
    have I1 : Inv X pins σ (upd H s.heap.objs.size (.tup [x, y])) { s with heap := h'', toks := tk } :=
      I.turnedNew (t' := tk) (ch := [z, TI, TO, i1, i2]) (fun c o hb q => (sb.2 c (fun q' => hb (by simp [q']))).trans (hk c o (fun q' => hb (by simp [q'])) (fun q' => hb (by simp [q'])) (fun q' => hb (by simp [q'])) (fun q' => hb (by simp [q'])) q)) hf (Nat.le_refl _) new
    refine ⟨.ref s.heap.objs.size, _, I1, rfl, ⟨_, x, y, rfl, I.hok.fresh (Nat.le_refl _), rfl, fun l hl => by rw [p.inj I hl hqx]; exact hx, fun l hl => by rw [q.inj I hl hqy]; exact hy⟩, ⟨z'', ?_, ⟨u, u2, ?_⟩, ?_, ?_⟩, fun c hcm => ?_⟩
    · exact (sb.2 _ S.TIz).trans (hk _ _ S.TIz S.TITO S.TIi1 S.TIi2 hTI)
    · exact (sb.2 _ S.TOz).trans TO'
    · exact ZV.at_ (b1 _ _ h1') fun o q => (sb.2 _ S.zi1.symm).trans q
    · exact ZV.at_ (b2 _ _ h2') fun o q => (sb.2 _ S.zi2.symm).trans q
    · have hlt : c < s.heap.objs.size := by
        have e' : c = z ∨ c = TI ∨ c = TO ∨ c = i1 ∨ c = i2 := by simpa using hcm
        rcases e' with q | q | q | q | q
        · rw [q]; exact hzl
        · rw [q]; exact Heap.lt_size hTI
        · rw [q]; exact Heap.lt_size hTO
        · rw [q]; obtain ⟨_, e1, _⟩ := ZV.obj h1; exact Heap.lt_size e1
        · rw [q]; obtain ⟨_, e2, _⟩ := ZV.obj h2; exact Heap.lt_size e2
      rw [upd_ne (Nat.ne_of_lt hlt)]
      exact (hf c hcm).1
  done := by
    intro X hP hw hK hc i pins s σ H E I hf st hg
    subst hP hw hK
    obtain ⟨hz, hTI, ⟨x0, y0, hTO⟩, h1, h2⟩ := st
    obtain ⟨xs, ys, hqx, hqy, l1, l2, hend⟩ := hg
    have hd : X.A.in1.handled = none := by show X.A.handled = none; exact I.ok.hd hc
    obtain ⟨fp1, P1, St1, D1, m1, f1, s1, b1, r1⟩ := p.draws I (A := X.A.in1) hd t1 i1 hqx (D.p i1 (by simp))
    obtain ⟨fp2, P2, St2, D2, m2, f2, s2, b2, r2⟩ := q.draws I (A := X.A.in1) hd t2 i2 hqy (D.q i2 (by simp))
    exact wpAny_pyNext_zipD2_end (D.sep m1 m2 f1 f2) D1 D2 hz hTI hTO (s1 i h1) (s2 i h2) l1 l2 hend fun h' tk hk => ⟨rfl, I.turnedL (t' := tk) (ch := [z, TI, TO, i1, i2]) (fun c o hb q =>
      hk c o (fun q' => hb (by simp [q'])) (fun q' => hb (by simp [q'])) (fun q' => hb (by simp [q'])) (fun q' => hb (by simp [q'])) q) hf⟩
  self := fun A i s Q E st h => wpAny_pyIter_zip st.1 h
def iZipM (K : PySem.W.Frag) (ta : TA) : TI := fun σ H R => ta σ H fun vs H1 => ∃ (p q : ZV) (xs ys : List V), vs = [p.v, q.v] ∧ p.seq K H1 xs ∧ q.seq K H1 ys ∧ R (ItzM K p q) H1
theorem pi_zipM {X : Cx} {e e2 : Expr} {ta : TA} {p pos tpos : Pos} {elts : List Expr} {kk : Nat} (hg : Gl X "zip") (hm : X.mg "zip" = none) (ha : PA X [e, e2] ta)
    (hs : starEach [e, e2] X.env = (false, eval e X.env) :: starEach [e2] X.env := by rfl) (hpl : (backTo pos (starEach [e2] X.env)).any (·.1) = false := by rfl) :
    PI X (.Tuple elts kk tpos) (.Call (.Name "zip" p) [e, e2] [] pos) (iZipM X.K ta) := by
  refine ⟨fun pins s σ H R I h => ?_⟩
  refine Call_ (ld_blt I hg hm PyProof.Rows.boot_zip (PyProof.Rows.callWith_type1 (thn (ha.run pos pins s σ H _ I h) fun us s1 ⟨vs, H1, I1, r1, q1⟩ => ?_) hs hpl))
  obtain ⟨p, q, xs, ys, ex, hqx, hqy, q1⟩ := q1
  subst ex
  cases r1 with
  | cons r rr =>
    cases rr with
    | cons r' rr =>
      cases rr
      obtain ⟨t1, rfl⟩ := p.rel r
      obtain ⟨t2, rfl⟩ := q.rel r'
      obtain ⟨B1, hB1, b1⟩ := p.begins I1 t1 hqx
      obtain ⟨B2, hB2, b2⟩ := q.begins I1 t2 hqy
      refine zip_begins2 hB1 hB2 b1 b2 fun h' hz hTI hTO g1 g2 hsz hk => wpAny_pyIter_zip hz ?_
      have I2 : Inv X pins σ H1 { s1 with heap := h' } := I1.kept (t' := s1.toks) hk
      have le : ∀ b ∈ [s1.heap.objs.size + 4, s1.heap.objs.size + 2, s1.heap.objs.size + 3, s1.heap.objs.size, s1.heap.objs.size + 1], s1.heap.objs.size ≤ b := fun b m => by
        have e' : b = s1.heap.objs.size + 4 ∨ b = s1.heap.objs.size + 2 ∨ b = s1.heap.objs.size + 3 ∨ b = s1.heap.objs.size ∨ b = s1.heap.objs.size + 1 := by simpa using m
        omega
      have ap : ZAp (s1.heap.objs.size + 4) (s1.heap.objs.size + 2) (s1.heap.objs.size + 3) s1.heap.objs.size (s1.heap.objs.size + 1) p q := by
        refine ⟨by simp, fun b m a e => Nat.ne_of_lt (Nat.lt_of_lt_of_le (p.lt I1 hqx a e) (le b m)), fun b m a e => Nat.ne_of_lt (Nat.lt_of_lt_of_le (q.lt I1 hqy a e) (le b m))⟩
      exact ⟨s1.heap.objs.size + 4, [s1.heap.objs.size + 4, s1.heap.objs.size + 2, s1.heap.objs.size + 3, s1.heap.objs.size, s1.heap.objs.size + 1], _, _, H1, rfl, I2, turn_zipM (t1 := t1) (t2 := t2) ap, ⟨hz, hTI, ⟨_, _, hTO⟩, p.it0 t1 g1, q.it0 t2 g2⟩, fun c m => I1.fpOk (le c m) (I1.hok.fresh (le c m)), q1⟩
/-! ### enumerate -/
def IteM (K : PySem.W.Frag) (p : ZV) : It :=
  ⟨fun i H => ∃ (xs : List V) (x : V), p.seq K H xs ∧ xs[i]? = some x, fun i H v H' => ∃ T x, v = .ref T ∧ H T = none ∧ H' = upd H T (.tup [.int (i : Nat), x]) ∧ ∀ xs, p.seq K H xs → xs[i]? = some x, fun i H => ∃ xs : List V, p.seq K H xs ∧ i = xs.length⟩
theorem turn_enumM {P : Program} {w : World} {K : PySem.W.Frag} {elts : List Expr} {kk : Nat} {tpos : Pos} {p : ZV} {t : Tok} {e it : Addr} (hne : e ≠ it) (ae : p.ap e) (ai : p.ap it) :
    Turn P w K (.Tuple elts kk tpos) (IteM K p) [e, it] e (fun i h => (∃ old, IsEnum h e it ((i : Nat) : Int) old) ∧ p.It t it i h) where
  mem := by simp
  obj := fun i h st b hb => by
    obtain ⟨⟨old, he⟩, h1⟩ := st
    have e' : b = e ∨ b = it := by simpa using hb
    rcases e' with z | z
    · rw [z]; exact ⟨_, he, fun v q => nomatch q⟩
    · rw [z]; exact ZV.obj h1
  keep := fun i h h' st k => let ⟨⟨old, he⟩, h1⟩ := st; ⟨⟨old, k e (by simp) _ he⟩, ZV.at_ h1 fun o q => k it (by simp) o q⟩
  item := by
    intro X hP hw hK hc i pins s σ H E I hf st hg
    subst hP hw hK
    obtain ⟨⟨old, he⟩, h1⟩ := st
    obtain ⟨xs, x, hq, hx⟩ := hg
    have hd : X.A.in1.handled = none := by show X.A.handled = none; exact I.ok.hd hc
    obtain ⟨fp, P1, St1, D, m, f, s1, b1, r1⟩ := p.draws I (A := X.A.in1) hd t it hq ai
    have hel : e < s.heap.objs.size := Heap.lt_size he
    have hil : it < s.heap.objs.size := by obtain ⟨_, q, _⟩ := ZV.obj h1; exact Heap.lt_size q
    have hef : e ∉ fp := fun mm => (f e mm).elim hne fun z => ae e z rfl
    refine wpAny_pyNext_enum_itemD D he (s1 i h1) (List.getElem?_eq_some_iff.mp hx).1 hne hef fun u h' tk hu ho st' hT hsz hk => ?_
    obtain ⟨x', ex, ru⟩ := r1 i u hu
    rw [hx] at ex; cases ex
    refine ⟨_, rfl, wpAny_letOwnedTupleGo_enum (s := { s with heap := h', toks := tk + 1 }) ho fun h'' he' sb => ?_⟩
    have hT2 : h''.get? s.heap.objs.size = some { cls := .type "tuple", data := .seq #[.int i tk, u] } := (sb.2 _ (Nat.ne_of_gt hel)).trans hT
    have new : ObjOk X.prog X.w (upd H s.heap.objs.size (.tup [.int (i : Nat), x])) h'' s.heap.objs.size (.tup [.int (i : Nat), x]) :=
      ⟨by show 2 ≤ sizeLine; decide, [.int i tk, u], .cons ⟨_, rfl⟩ (.cons ru .nil), ⟨_, hT2, rfl, _, rfl⟩⟩
    have I1 : Inv X pins σ (upd H s.heap.objs.size (.tup [.int (i : Nat), x])) { s with heap := h'', toks := tk + 1 } :=
      I.turnedNew (ch := [e, it]) (fun b ob hb q => (sb.2 b (fun z => hb (by simp [z]))).trans (hk b ob (fun z => hb (by simp [z])) (fun z => hb (by simp [z])) q)) hf (Nat.le_refl _) new
    refine ⟨.ref s.heap.objs.size, _, I1, rfl, ⟨_, x, rfl, I.hok.fresh (Nat.le_refl _), rfl, fun ys hy => by rw [p.inj I hy hq]; exact hx⟩, ⟨⟨u, ?_⟩, ZV.at_ (b1 _ _ st') fun o q => (sb.2 it (Ne.symm hne)).trans q⟩, fun b hb => ?_⟩
    · have e1 : ((i + 1 : Nat) : Int) = (i : Int) + 1 := by omega
      rw [e1]; exact he'
    · have hb' : b < s.heap.objs.size := by
        have e' : b = e ∨ b = it := by simpa using hb
        rcases e' with z | z
        · rw [z]; exact hel
        · rw [z]; exact hil
      rw [upd_ne (Nat.ne_of_lt hb')]
      exact (hf b hb).1
  done := by
    intro X hP hw hK hc i pins s σ H E I hf st hg
    subst hP hw hK
    obtain ⟨⟨old, he⟩, h1⟩ := st
    obtain ⟨xs, hq, hx⟩ := hg
    have hd : X.A.in1.handled = none := by show X.A.handled = none; exact I.ok.hd hc
    obtain ⟨fp, P1, St1, D, m, f, s1, b1, r1⟩ := p.draws I (A := X.A.in1) hd t it hq ai
    obtain ⟨f0, f1, f2, f3, f4, f5⟩ := hf it (by simp)
    subst hx
    exact wpAny_pyNext_enum_endD D he (s1 _ h1) fun h' eb => ⟨rfl, I.turned (t' := s.toks) (fun b o hb q => eb b o hb q) f0 f1 f3 f4 f5⟩
  self := fun A i s Q E st h => let ⟨⟨_, he⟩, _⟩ := st; wpAny_pyIter_enum he h
theorem meets_enumerate_new1 {v : Value} {o : Obj} {H : Heap → Prop} (B : Begins v o H) :
    Meets (Builtin.«enumerate.__new__» ⟨[.type "enumerate", v], []⟩) (fun _ R s => H s.heap ∧
      R (.ok (.ret (.ref (s.heap.push o).objs.size))) { s with heap := (s.heap.push o).push { cls := .type "enumerate", data := .fields #[.none, .bool false, .ref s.heap.objs.size, rawInt 0, .none, .none] } }) :=
  .of_wp fun prog w A R s h => by
    obtain ⟨hp, g, d, tk, os⟩ := s; obtain ⟨h1, h⟩ := h
    have hsub := sub_enumerate
    have q1 : ∀ {A' : Around} {E : Value → Shared → Prop} {Q : Value → Shared → Prop}, Q (.ref hp.objs.size) ⟨hp.push o, g, d, tk, os⟩ → wpAny (model prog w) A' (pyIter v) Q E ⟨hp, g, d, tk, os⟩ :=
      fun q => B.iter prog w _ _ ⟨hp, g, d, tk, os⟩ _ h1 q
    wp_walk using q1
    refine wpAny_stack_any fun st => wpAny_pure ?_
    split
    · rename_i c _ _ _ _ _
      cases (c == Value.type "enumerate")
      · wp_walk using q1
        exact ⟨_, rfl, h⟩
      · wp_walk using q1
        exact ⟨_, rfl, h⟩
    · wp_walk using q1
      exact ⟨_, rfl, h⟩
def iEnumM (K : PySem.W.Frag) (ta : TA) : TI := fun σ H R => ta σ H fun vs H1 => ∃ (p : ZV) (xs : List V), vs = [p.v] ∧ p.seq K H1 xs ∧ R (IteM K p) H1
theorem pi_enumM {X : Cx} {e : Expr} {ta : TA} {p pos tpos : Pos} {elts : List Expr} {kk : Nat} (hg : Gl X "enumerate") (hm : X.mg "enumerate" = none) (ha : PA X [e] ta) (hs : starEach [e] X.env = [(false, eval e X.env)] := by rfl) :
    PI X (.Tuple elts kk tpos) (.Call (.Name "enumerate" p) [e] [] pos) (iEnumM X.K ta) := by
  refine ⟨fun pins s σ H R I h => ?_⟩
  refine Call_ (ld_blt I hg hm boot_enumerate (PyProof.Rows.callWith_type1 (thn (ha.run pos pins s σ H _ I h) fun us s1 ⟨vs, H1, I1, r1, q1⟩ => ?_) hs rfl))
  obtain ⟨p, xs, ex, hq, q⟩ := q1
  subst ex
  cases r1 with
  | cons r rr =>
    cases rr
    obtain ⟨t, rfl⟩ := p.rel r
    obtain ⟨B1, hB1, b1⟩ := p.begins I1 t hq
    refine callType_new F.called_enumerate (by decide) (F.typeCall_enumerate_1 _) (F.newCall_enumerate_1 _) (fun obj => F.args_object_init_2 obj _) F.entry_enumerate_new (meets_enumerate_new1 hB1) ⟨b1, ?_⟩
    have hz : (s1.heap.push (p.cell t)).objs.size = s1.heap.objs.size + 1 := Heap.size_push ..
    have he : IsEnum ((s1.heap.push (p.cell t)).push { cls := .type "enumerate", data := .fields #[.none, .bool false, .ref s1.heap.objs.size, rawInt 0, .none, .none] }) (s1.heap.objs.size + 1) s1.heap.objs.size 0 .none := by
      have := Heap.get?_push_size (s1.heap.push (p.cell t)) (o := { cls := .type "enumerate", data := .fields #[.none, .bool false, .ref s1.heap.objs.size, rawInt 0, .none, .none] }) rfl
      rw [hz] at this; exact this
    show _ ∧ _
    rw [hz]
    refine ⟨⟨_, he, rfl⟩, wpAny_pyIter_enum he ?_⟩
    have I2 := I1.kept (h' := (s1.heap.push (p.cell t)).push { cls := .type "enumerate", data := .fields #[.none, .bool false, .ref s1.heap.objs.size, rawInt 0, .none, .none] }) (t' := s1.toks) fun b o x => Heap.get?_push_of_some _ (Heap.get?_push_of_some _ x)
    have le : ∀ b ∈ [s1.heap.objs.size + 1, s1.heap.objs.size], s1.heap.objs.size ≤ b := fun b m => by
      have e' : b = s1.heap.objs.size + 1 ∨ b = s1.heap.objs.size := by simpa using m
      omega
    have ap : ∀ b, s1.heap.objs.size ≤ b → p.ap b := fun b l a e => Nat.ne_of_lt (Nat.lt_of_lt_of_le (p.lt I1 hq a e) l)
    refine ⟨s1.heap.objs.size + 1, [s1.heap.objs.size + 1, s1.heap.objs.size], _, _, H1, rfl, I2, turn_enumM (t := t) (Nat.succ_ne_self _) (ap _ (Nat.le_add_right _ _)) (ap _ (Nat.le_refl _)), ⟨⟨.none, he⟩, p.it0 t (Heap.get?_push_of_some _ (Heap.get?_push_size _ hB1.free))⟩, fun c m => I1.fpOk (le c m) (I1.hok.fresh (le c m)), q⟩
/-! ### a list, a tuple or a text walked -/
def iAny (K : PySem.W.Frag) (te : TE) : TI := fun σ H R => te σ H fun x H1 => (∃ a, x = .ref a ∧ (∃ xs, SqL K H1 a xs) ∧ R (Itl K a) H1) ∨ (∃ a, x = .ref a ∧ (∃ xs, SqT K H1 a xs) ∧ R (Itt K a) H1) ∨ ∃ z, x = .str z ∧ R (Its z) H1
theorem pi_any {X : Cx} {tg l : Expr} {tl : TE} (hl : PE X l tl) : PI X tg l (iAny X.K tl) := by
  refine ⟨fun pins s σ H R I h => ?_⟩
  refine thn (hl.run pins s σ H _ I h) fun v s1 ⟨x, H1, I1, r1, q1⟩ => ?_
  rcases q1 with ⟨a, e, ⟨xs, hq⟩, q⟩ | ⟨a, e, ⟨xs, hq⟩, q⟩ | ⟨z, e, q⟩
  · subst e
    cases r1
    obtain ⟨its, rv, p, hz⟩ := I1.list hq
    refine wpAny_pyIter_list p.isList ?_
    refine ⟨s1.heap.objs.size, [s1.heap.objs.size], _, _, H1, rfl, I1.kept (t' := s1.toks) fun b o e => Heap.get?_push_of_some _ e, turn_list a _, ⟨_, Heap.get?_push_size _ rfl, rfl, rfl⟩, fun b hb => ?_, q⟩
    have e : b = s1.heap.objs.size := by simpa using hb
    subst e
    exact I1.fpOk (Nat.le_refl _) (I1.hok.fresh (Nat.le_refl _))
  · subst e
    cases r1
    obtain ⟨its, rv, p, hz⟩ := I1.tuple hq
    refine wpAny_pyIter_tuple (show s1.heap.IsTuple a its.toArray from p) ?_
    refine ⟨s1.heap.objs.size, [s1.heap.objs.size], _, _, H1, rfl, I1.kept (t' := s1.toks) fun b o e => Heap.get?_push_of_some _ e, turn_tuple a _, ⟨_, Heap.get?_push_size _ rfl, rfl, rfl⟩, fun b hb => ?_, q⟩
    have e : b = s1.heap.objs.size := by simpa using hb
    subst e
    exact I1.fpOk (Nat.le_refl _) (I1.hok.fresh (Nat.le_refl _))
  · subst e
    obtain ⟨t, rfl⟩ := r1
    cases ha : z.cps.all (· < 128)
    · exact wpAny_pyIter_wide ha (pi_one (tk := s1.toks) I1 _ (turn_str _ z t "str_iterator" (.inr rfl)) ⟨_, Heap.get?_push_size _ rfl, rfl, rfl⟩ q)
    · exact wpAny_pyIter_ascii ha (pi_one (tk := s1.toks) I1 _ (turn_str _ z t "str_ascii_iterator" (.inl rfl)) ⟨_, Heap.get?_push_size _ rfl, rfl, rfl⟩ q)
end FR

set_option Elab.async false
set_option linter.all false
set_option maxRecDepth 100000
set_option maxHeartbeats 2000000
/-! VA: data in the heap; a frame's state told by data alone (cells), and the relation of both. -/
namespace MV
open PySem PySem.Spec PyProof.Rows L2 FR
/-! ### data -/
def keyD : Key → PyData
  | .inl i => .int i
  | .inr z => .str z
/-- a dict at a: its pairs in order; of one with tuples as keys a mark goes ahead -/
def DicAt (H : Hp) (a : Addr) (kvs : List (PyData × V)) : Prop :=
  (∃ ks : List (Key × V), H a = some (.dK ks) ∧ ks.map (fun p => (keyD p.1, p.2)) = kvs) ∨
  (∃ ks : List (List Key × V), H a = some (.dT ks) ∧ (PyData.none, V.non) :: ks.map (fun p => (PyData.tuple (p.1.map keyD), p.2)) = kvs)
/-- a tuple of the written part -/
def KT (K : PySem.W.Frag) (a : Addr) (xs : List V) : Prop := ∃ (o : Obj) (its : Array Value) (n : Nat), K.lookup a = some o ∧ o.cls = .type "tuple" ∧ o.data = .seq its n ∧ its.size ≤ sizeLine ∧ Vals xs its.toList
mutual
/-- the value v is the data d, nothing of it at S -/
def Dv (K : PySem.W.Frag) (S : List Addr) (H : Hp) : PyData → V → Prop
  | .none, v => v = .non
  | .bool b, v => v = .bl b
  | .int i, v => v = .int i
  | .str z, v => v = .str z
  | .list ds, v => ∃ a vs, v = .ref a ∧ (a ∉ S ∧ H a = some (.lst vs)) ∧ Dvs K S H ds vs
  | .tuple ds, v => ∃ a vs, v = .ref a ∧ (a ∉ S ∧ H a = some (.tup vs) ∨ KT K a vs) ∧ Dvs K S H ds vs
  | .dict ks, v => ∃ a vs, v = .ref a ∧ a ∉ S ∧ DicAt H a vs ∧ Dks K S H ks vs
def Dvs (K : PySem.W.Frag) (S : List Addr) (H : Hp) : List PyData → List V → Prop
  | [], vs => vs = []
  | d :: r, vs => ∃ v ws, vs = v :: ws ∧ Dv K S H d v ∧ Dvs K S H r ws
def Dks (K : PySem.W.Frag) (S : List Addr) (H : Hp) : List (PyData × PyData) → List (PyData × V) → Prop
  | [], vs => vs = []
  | (k, d) :: r, vs => ∃ v ws, vs = (k, v) :: ws ∧ Dv K S H d v ∧ Dks K S H r ws
end
/-- all but the tables and S stays -/
def Kp (T : List (Addr × Str)) (S : List Addr) (H H' : Hp) : Prop := (∀ b o, H b = some o → (∀ ps, o ≠ .tbl ps) → b ∉ S → H' b = some o) ∧ (LamX.Tabs T H → LamX.Tabs T H')
/-- a thing stands there, no table -/
def NT (H : Hp) (a : Addr) : Prop := ∃ o, H a = some o ∧ ∀ ps, o ≠ .tbl ps
section
variable {K : PySem.W.Frag} {T : List (Addr × Str)} {S S' : List Addr} {H H' H1 : Hp}
theorem DicAt.some {a : Addr} {kvs : List (PyData × V)} (h : DicAt H a kvs) : ∃ o, H a = Option.some o ∧ (∀ ps, o ≠ .tbl ps) := by
  rcases h with ⟨ks, h, _⟩ | ⟨ks, h, _⟩ <;> exact ⟨_, h, fun _ q => nomatch q⟩
theorem DicAt.to {a : Addr} {kvs : List (PyData × V)} (h : DicAt H a kvs) (k : ∀ o, H a = Option.some o → (∀ ps, o ≠ .tbl ps) → H' a = Option.some o) : DicAt H' a kvs := by
  rcases h with ⟨ks, h, e⟩ | ⟨ks, h, e⟩
  · exact .inl ⟨ks, k _ h (fun _ q => nomatch q), e⟩
  · exact .inr ⟨ks, k _ h (fun _ q => nomatch q), e⟩
mutual
theorem Dv.step (hS : ∀ a, a ∉ S → NT H a → a ∉ S') (k : ∀ b o, H b = some o → (∀ ps, o ≠ .tbl ps) → b ∉ S → H' b = some o) : ∀ (d : PyData) (v : V), Dv K S H d v → Dv K S' H' d v
  | .none, _, h => h
  | .bool _, _, h => h
  | .int _, _, h => h
  | .str _, _, h => h
  | .list ds, _, ⟨a, vs, e, ⟨n, g⟩, r⟩ => ⟨a, vs, e, ⟨hS a n ⟨_, g, fun _ q => nomatch q⟩, k a _ g (fun _ q => nomatch q) n⟩, Dvs.step hS k ds vs r⟩
  | .tuple ds, _, ⟨a, vs, e, .inl ⟨n, g⟩, r⟩ => ⟨a, vs, e, .inl ⟨hS a n ⟨_, g, fun _ q => nomatch q⟩, k a _ g (fun _ q => nomatch q) n⟩, Dvs.step hS k ds vs r⟩
  | .tuple ds, _, ⟨a, vs, e, .inr n, r⟩ => ⟨a, vs, e, .inr n, Dvs.step hS k ds vs r⟩
  | .dict ks, _, ⟨a, vs, e, n, g, r⟩ => ⟨a, vs, e, hS a n g.some, g.to fun o q z => k a o q z n, Dks.step hS k ks vs r⟩
theorem Dvs.step (hS : ∀ a, a ∉ S → NT H a → a ∉ S') (k : ∀ b o, H b = some o → (∀ ps, o ≠ .tbl ps) → b ∉ S → H' b = some o) : ∀ (ds : List PyData) (vs : List V), Dvs K S H ds vs → Dvs K S' H' ds vs
  | [], _, h => h
  | d :: r, _, ⟨v, ws, e, h1, h2⟩ => ⟨v, ws, e, Dv.step hS k d v h1, Dvs.step hS k r ws h2⟩
theorem Dks.step (hS : ∀ a, a ∉ S → NT H a → a ∉ S') (k : ∀ b o, H b = some o → (∀ ps, o ≠ .tbl ps) → b ∉ S → H' b = some o) : ∀ (ds : List (PyData × PyData)) (vs : List (PyData × V)), Dks K S H ds vs → Dks K S' H' ds vs
  | [], _, h => h
  | (x, d) :: r, _, ⟨v, ws, e, h1, h2⟩ => ⟨v, ws, e, Dv.step hS k d v h1, Dks.step hS k r ws h2⟩
end
/-- a step of the heap and of what is owned -/
structure Stp (S S' : List Addr) (H H' : Hp) : Prop where
  s : ∀ a, a ∉ S → NT H a → a ∉ S'
  k : ∀ b o, H b = some o → (∀ ps, o ≠ .tbl ps) → b ∉ S → H' b = some o
theorem Stp.dv (z : Stp S S' H H') {d : PyData} {v : V} (h : Dv K S H d v) : Dv K S' H' d v := Dv.step z.s z.k d v h
theorem Stp.dvs (z : Stp S S' H H') {d : List PyData} {v : List V} (h : Dvs K S H d v) : Dvs K S' H' d v := Dvs.step z.s z.k d v h
theorem Stp.dks (z : Stp S S' H H') {d : List (PyData × PyData)} {v : List (PyData × V)} (h : Dks K S H d v) : Dks K S' H' d v := Dks.step z.s z.k d v h
theorem Stp.of (k : Kp T S H H') : Stp S S H H' := ⟨fun _ n _ => n, k.1⟩
theorem Stp.sub (s : ∀ a ∈ S', a ∈ S) : Stp S S' H H := ⟨fun a n _ m => n (s a m), fun _ _ e _ _ => e⟩
theorem Stp.new {p : Addr} {o : HO} (h : H p = Option.none) : Stp S (p :: S) H (upd H p o) := ⟨fun a n t m => by
    rcases List.mem_cons.mp m with m | m
    · obtain ⟨o, t, _⟩ := t; rw [m, h] at t; cases t
    · exact n m, fun b o e _ _ => by rw [upd_ne (ne_of_none e h)]; exact e⟩
theorem Stp.new0 {p : Addr} {o : HO} (h : H p = Option.none) : Stp S S H (upd H p o) := ⟨fun a n _ => n, fun b o e _ _ => by rw [upd_ne (ne_of_none e h)]; exact e⟩
theorem Stp.put {p : Addr} {o : HO} (h : p ∈ S) : Stp S S H (upd H p o) := ⟨fun a n _ => n, fun b o e _ n => by rw [upd_ne (fun z => n (by rw [z]; exact h))]; exact e⟩
theorem Kp.refl : Kp T S H H := ⟨fun _ _ e _ _ => e, fun t => t⟩
theorem Kp.trans {H2 : Hp} (a : Kp T S H H1) (b : Kp T S H1 H2) : Kp T S H H2 := ⟨fun c o e t n => b.1 c o (a.1 c o e t n) t n, fun t => b.2 (a.2 t)⟩
theorem Kp.mono (a : Kp T S H H1) (h : ∀ x ∈ S, x ∈ S') : Kp T S' H H1 := ⟨fun c o e t n => a.1 c o e t fun z => n (h c z), a.2⟩
theorem tabs_upd {p : Addr} {o : HO} (h : ∀ q, H p ≠ some (.tbl q)) (h2 : ∀ φ, H p ≠ some (.ext φ)) (t : LamX.Tabs T H) : LamX.Tabs T (upd H p o) := fun e he => by
  obtain ⟨ps, h1, ok, h3⟩ := t e he
  refine ⟨ps, ?_, ok, fun pos cv hc => ?_⟩
  · rw [upd_ne (fun z => h ps (by rw [← z]; exact h1))]; exact h1
  · obtain ⟨c, e1, e2⟩ := h3 pos cv hc
    refine ⟨c, e1, ?_⟩
    rw [upd_ne (fun z => h2 _ (by rw [← z]; exact e2))]; exact e2
theorem Kp.new {p : Addr} {o : HO} (h : H p = Option.none) : Kp T S H (upd H p o) := ⟨fun b o e _ _ => by rw [upd_ne (ne_of_none e h)]; exact e, tabs_upd (fun q => by rw [h]; exact fun z => nomatch z) (fun q => by rw [h]; exact fun z => nomatch z)⟩
/-- what can be changed: a list, a dict, an instance -/
def Mu (H : Hp) (a : Addr) : Prop := (∃ vs, H a = some (.lst vs)) ∨ (∃ ks, H a = some (.dK ks)) ∨ (∃ ks, H a = some (.dT ks)) ∨ (∃ C dx fs, H a = some (.ins C dx fs)) ∨ ∃ x, H a = some (.own x)
theorem Mu.tab {a : Addr} (m : Mu H a) : (∀ q, H a ≠ some (.tbl q)) ∧ (∀ φ, H a ≠ some (.ext φ)) ∧ H a ≠ Option.none := by
  rcases m with ⟨_, m⟩ | ⟨_, m⟩ | ⟨_, m⟩ | ⟨_, _, _, m⟩ | ⟨_, m⟩ <;> rw [m] <;> exact ⟨fun _ z => (nomatch z), fun _ z => (nomatch z), fun z => (nomatch z)⟩
theorem Mu.nt {a : Addr} (m : Mu H a) : NT H a := by
  rcases m with ⟨_, m⟩ | ⟨_, m⟩ | ⟨_, m⟩ | ⟨_, _, _, m⟩ | ⟨_, m⟩ <;> exact ⟨_, m, fun _ z => (nomatch z)⟩
theorem Kp.put {p : Addr} {o : HO} (m : Mu H p) (h : p ∈ S) : Kp T S H (upd H p o) := ⟨fun b o e _ n => by rw [upd_ne (fun z => n (by rw [z]; exact h))]; exact e, tabs_upd m.tab.1 m.tab.2.1⟩
/-- further changes at S, or at what was not there -/
theorem Kp.then {R : List Addr} {H2 : Hp} (a : Kp T S H H1) (b : Kp T R H1 H2) (h : ∀ x ∈ R, x ∈ S ∨ ¬ NT H x) : Kp T S H H2 := ⟨fun c o e t n => b.1 c o (a.1 c o e t n) t fun m => (h c m).elim n (fun z => z ⟨o, e, t⟩), fun t => b.2 (a.2 t)⟩
theorem Kp.nt {p : Addr} (k : Kp T S H H1) (h : NT H p) (n : p ∉ S) : NT H1 p := by
  obtain ⟨o, e, t⟩ := h
  exact ⟨o, k.1 p o e t n, t⟩
theorem Kp.at {p : Addr} (k : Kp T S H H1) (h : NT H p) (n : p ∉ S) : H1 p = H p := by
  obtain ⟨o, e, t⟩ := h
  rw [e]; exact k.1 p o e t n
theorem nt_none {p : Addr} (h : H p = none) : ¬ NT H p := fun ⟨o, e, _⟩ => by rw [h] at e; cases e
theorem Kp.sqL {a : Addr} {xs : List V} (k : Kp T S H H1) (h : SqL K H a xs) (n : a ∉ S) : SqL K H1 a xs := by
  rcases h with (h | ⟨o, h⟩) | h
  · exact .inl (.inl (k.1 _ _ h (fun _ q => nomatch q) n))
  · exact .inl (.inr ⟨o, k.1 _ _ h (fun _ q => nomatch q) n⟩)
  · exact .inr h
theorem Dvs.length : ∀ {ds : List PyData} {vs : List V}, Dvs K S H ds vs → vs.length = ds.length
  | [], _, h => by cases h; rfl
  | d :: r, _, ⟨v, ws, e, h1, h2⟩ => by subst e; rw [List.length_cons, List.length_cons, Dvs.length h2]
theorem Dvs.at : ∀ {ds : List PyData} {vs : List V} {i : Nat} {v : V}, Dvs K S H ds vs → vs[i]? = some v → ∃ d, ds[i]? = some d ∧ Dv K S H d v
  | [], _, i, v, h, e => by cases h; simp at e
  | d :: r, _, 0, v, ⟨u, ws, q, h1, h2⟩, e => by
    subst q
    cases (Option.some.inj e : u = v)
    exact ⟨d, rfl, h1⟩
  | d :: r, _, i + 1, v, ⟨u, ws, q, h1, h2⟩, e => by
    subst q
    exact Dvs.at (ds := r) h2 (i := i) e
theorem Dvs.to : ∀ {ds : List PyData} {vs : List V} {i : Nat} {d : PyData}, Dvs K S H ds vs → ds[i]? = some d → ∃ v, vs[i]? = some v ∧ Dv K S H d v
  | [], _, i, v, h, e => by simp at e
  | d :: r, _, 0, v, ⟨u, ws, q, h1, h2⟩, e => by
    subst q
    cases (Option.some.inj e : d = v)
    exact ⟨u, rfl, h1⟩
  | d :: r, _, i + 1, v, ⟨u, ws, q, h1, h2⟩, e => by
    subst q
    exact Dvs.to (ds := r) h2 (i := i) e
theorem Dvs.app : ∀ {ds es : List PyData} {vs ws : List V}, Dvs K S H ds vs → Dvs K S H es ws → Dvs K S H (ds ++ es) (vs ++ ws)
  | [], _, _, _, h, g => by cases h; exact g
  | d :: r, _, _, _, ⟨v, us, e, h1, h2⟩, g => by subst e; exact ⟨v, _, rfl, h1, Dvs.app h2 g⟩
theorem Dvs.one {d : PyData} {v : V} (h : Dv K S H d v) : Dvs K S H [d] [v] := ⟨v, [], rfl, h, rfl⟩
theorem Dvs.app_inv : ∀ {ds es : List PyData} {us : List V}, Dvs K S H (ds ++ es) us → ∃ vs ws, us = vs ++ ws ∧ Dvs K S H ds vs ∧ Dvs K S H es ws
  | [], _, us, h => ⟨[], us, rfl, rfl, h⟩
  | d :: r, _, _, ⟨v, us, e, h1, h2⟩ => by
    obtain ⟨vs, ws, e2, a, b⟩ := Dvs.app_inv (ds := r) h2
    subst e e2
    exact ⟨v :: vs, ws, rfl, ⟨v, vs, rfl, h1, a⟩, b⟩
theorem Dvs.take : ∀ {ds : List PyData} {vs : List V} (n : Nat), Dvs K S H ds vs → Dvs K S H (ds.take n) (vs.take n)
  | [], _, n, h => by cases h; cases n <;> exact rfl
  | d :: r, _, 0, ⟨v, ws, e, h1, h2⟩ => rfl
  | d :: r, _, n + 1, ⟨v, ws, e, h1, h2⟩ => by subst e; exact ⟨v, ws.take n, rfl, h1, Dvs.take n h2⟩
theorem Dvs.drop : ∀ {ds : List PyData} {vs : List V} (n : Nat), Dvs K S H ds vs → Dvs K S H (ds.drop n) (vs.drop n)
  | [], _, n, h => by cases h; cases n <;> exact rfl
  | d :: r, _, 0, h => h
  | d :: r, _, n + 1, ⟨v, ws, e, h1, h2⟩ => by subst e; exact Dvs.drop n h2
theorem Dvs.set : ∀ {ds : List PyData} {vs : List V} (n : Nat) {d : PyData} {v : V}, Dvs K S H ds vs → Dv K S H d v → Dvs K S H (ds.set n d) (vs.set n v)
  | [], _, n, _, _, h, g => by cases h; exact rfl
  | d :: r, _, 0, _, _, ⟨v, ws, e, h1, h2⟩, g => by subst e; exact ⟨_, ws, rfl, g, h2⟩
  | d :: r, _, n + 1, _, _, ⟨v, ws, e, h1, h2⟩, g => by subst e; exact ⟨v, _, rfl, h1, Dvs.set n h2 g⟩
theorem Dvs.rev : ∀ {ds : List PyData} {vs : List V}, Dvs K S H ds vs → Dvs K S H ds.reverse vs.reverse
  | [], _, h => by cases h; exact rfl
  | d :: r, _, ⟨v, ws, e, h1, h2⟩ => by
    subst e
    rw [List.reverse_cons, List.reverse_cons]
    exact (Dvs.rev h2).app (Dvs.one h1)
theorem Dks.length : ∀ {ds : List (PyData × PyData)} {vs : List (PyData × V)}, Dks K S H ds vs → vs.length = ds.length
  | [], _, h => by cases h; rfl
  | (k, d) :: r, _, ⟨v, ws, e, h1, h2⟩ => by subst e; rw [List.length_cons, List.length_cons, Dks.length h2]
mutual
theorem Dv.dp : ∀ (d : PyData) (v : V), d.hasDict = false → Dv K S H d v → Dp K H v d
  | .none, _, _, h => by cases h; exact .non
  | .bool b, _, _, h => by cases h; exact .bl b
  | .int i, _, _, h => by cases h; exact .int i
  | .str x, _, _, h => by cases h; exact .str x
  | .dict _, _, n, h => by cases n
  | .list ds, _, n, ⟨a, vs, e, g, r⟩ => by subst e; exact .lst (.of g.2) (Dvs.dp ds vs n r)
  | .tuple ds, _, n, ⟨a, vs, e, g, r⟩ => by subst e; exact .tup (g.elim (fun g => .of g.2) .inr) (Dvs.dp ds vs n r)
theorem Dvs.dp : ∀ (ds : List PyData) (vs : List V), PyData.hasDictAll ds = false → Dvs K S H ds vs → DpAll K H vs ds
  | [], _, _, h => by cases h; exact .nil
  | d :: r, _, n, ⟨v, ws, e, h1, h2⟩ => by
    have n' : d.hasDict = false ∧ PyData.hasDictAll r = false := Bool.or_eq_false_iff.mp n
    subst e; exact .cons (Dv.dp d v n'.1 h1) (Dvs.dp r ws n'.2 h2)
end
def tyD : PyData → String
  | .none => "NoneType"
  | .bool _ => "bool"
  | .int _ => "int"
  | .str _ => "str"
  | .list _ => "list"
  | .tuple _ => "tuple"
  | .dict _ => "dict"
def isTyD (t : String) (d : PyData) : Bool := (kitB (tyD d) t).getD false
end
/-! ### what a def's frame is told by -/
inductive Cell where
  /-- shared: never changed -/
  | sh (d : PyData)
  /-- lent by the caller: read alone -/
  | bo (d : PyData)
  /-- a list or dict of one's own -/
  | ow (d : PyData)
  /-- the caller's, to be changed -/
  | io (d : PyData)
  /-- the script -/
  | sc (d : PyData)
def Cell.d : Cell → PyData
  | .sh d | .bo d | .ow d | .io d | .sc d => d
def Cell.rd : Cell → Option PyData
  | .sh d | .bo d | .ow d | .io d => some d
  | .sc _ => none
abbrev MS := List (Option Cell)
/-- a def's contract: the classes' addresses, the tables, the slots' number, the slots of what is the caller's, whether it hands back a new one -/
structure Ct where
  cls : Str → Addr
  T : List (Addr × Str)
  n : Nat
  ps : List Nat
  rk : Bool
/-- the frame's entry -/
structure Dy where
  H0 : Hp
  Sin : List Addr
  S0 : List Addr
  pin : List (Nat × Addr)
def OwR (K : PySem.W.Frag) (S : List Addr) (H : Hp) (d : PyData) (a : Addr) : Prop :=
  (∃ ds vs, d = .list ds ∧ H a = some (.lst vs) ∧ Dvs K S H ds vs) ∨ ∃ ks vs, d = .dict ks ∧ DicAt H a vs ∧ Dks K S H ks vs
/-- read alone: where it stands in H0, what it holds in H -/
def RdR (K : PySem.W.Frag) (H0 : Hp) (S : List Addr) (H : Hp) (d : PyData) (a : Addr) : Prop :=
  (∃ ds vs, d = .list ds ∧ H0 a = some (.lst vs) ∧ Dvs K S H ds vs) ∨ ∃ ks vs, d = .dict ks ∧ DicAt H0 a vs ∧ Dks K S H ks vs
def BoV (K : PySem.W.Frag) (S : List Addr) (H : Hp) (d : PyData) (v : V) : Prop := Dv K S H d v ∨ ∃ a, v = .ref a ∧ RdR K H S H d a
def CR (K : PySem.W.Frag) (y : Dy) (S : List Addr) (H : Hp) (v : V) : Cell → Prop
  | .sh d => Dv K S H d v
  | .bo d => Dv K S H d v ∨ ∃ a, v = .ref a ∧ a ∉ y.Sin ∧ RdR K y.H0 S H d a
  | .ow d => ∃ a, v = .ref a ∧ a ∈ S ∧ ¬ NT y.H0 a ∧ OwR K S H d a
  | .io d => ∃ a, v = .ref a ∧ a ∈ S ∧ a ∈ y.Sin ∧ OwR K S H d a
  | .sc d => ∃ a ds vs, v = .ref a ∧ a ∉ y.Sin ∧ d = .list ds ∧ SqL K y.H0 a vs ∧ Dvs K S H ds vs
def CellR (K : PySem.W.Frag) (y : Dy) (S : List Addr) (H : Hp) (o : Option (Option V)) (c : Option (Option Cell)) : Prop := ∀ cell, c = some (some cell) → ∃ v, o = some (some v) ∧ CR K y S H v cell
def isOwn : Option (Option Cell) → Bool
  | some (some (.ow _)) => true
  | some (some (.io _)) => true
  | _ => false
theorem isOwn_ex {c : Option (Option Cell)} (h : isOwn c = true) : ∃ d, c = some (some (.ow d)) ∨ c = some (some (.io d)) := by
  rcases c with _ | _ | c
  · cases h
  · cases h
  · cases c with
    | sh d => cases h
    | bo d => cases h
    | ow d => exact ⟨d, .inl rfl⟩
    | io d => exact ⟨d, .inr rfl⟩
    | sc d => cases h
def Owns (σ : L2.St) (st : MS) (i : Nat) (a : Addr) : Prop := σ[i]? = some (some (.ref a)) ∧ isOwn st[i]? = true
structure Rel (K : PySem.W.Frag) (C : Ct) (y : Dy) (G : List (PyData × V)) (W : List (PyData × Addr)) (S : List Addr) (H : Hp) (σ : L2.St) (st : MS) : Prop where
  ls : σ.length = C.n
  lt : st.length = C.n
  kp : Kp C.T y.Sin y.H0 H
  s0 : ∀ a ∈ y.S0, a ∈ S ∧ NT y.H0 a
  sin : ∀ a ∈ y.Sin, a ∈ y.S0
  dom : ∀ a ∈ S, Mu H a
  cell : ∀ i : Nat, CellR K y S H σ[i]? st[i]?
  gd : ∀ g ∈ G, Dv K S H g.1 g.2
  tg : ∀ t ∈ W, t.2 ∈ S ∧ ¬ NT y.H0 t.2 ∧ OwR K S H t.1 t.2
  sep : ∀ (i j : Nat) (a : Addr), Owns σ st i a → Owns σ st j a → i = j
  sept : ∀ (i : Nat) (a : Addr), Owns σ st i a → ∀ t ∈ W, t.2 ≠ a
  tnd : (W.map (·.2)).Nodup
  pin : ∀ p ∈ y.pin, C.ps.contains p.1 = true ∧ σ[p.1]? = some (some (.ref p.2)) ∧ isOwn st[p.1]? = true
  tabs : LamX.Tabs C.T H
end MV

set_option Elab.async false
set_option linter.all false
set_option maxRecDepth 100000
set_option maxHeartbeats 2000000
/-! VB: steps of the relation; the judgements RE, RT, RA, RI, RS. -/
namespace MV
open PySem PySem.Spec PyProof.Rows L2 FR
section
variable {K : PySem.W.Frag} {C : Ct} {y : Dy} {G : List (PyData × V)} {W : List (PyData × Addr)} {S S' : List Addr} {H H' H0 : Hp} {σ : L2.St} {st st' : MS} {d d' : PyData} {a p : Addr} {v : V} {i : Nat}
theorem OwR.step (h : OwR K S H d a) (z : Stp S S' H H') (e : H' a = H a) : OwR K S' H' d a := by
  rcases h with ⟨ds, vs, rfl, h, r⟩ | ⟨ks, vs, rfl, h, r⟩
  · exact .inl ⟨ds, vs, rfl, by rw [e]; exact h, z.dvs r⟩
  · exact .inr ⟨ks, vs, rfl, h.to (fun o q _ => by rw [e]; exact q), z.dks r⟩
theorem DicAt.mu {kvs : List (PyData × V)} (h : DicAt H a kvs) : Mu H a := by
  rcases h with ⟨ks, h, _⟩ | ⟨ks, h, _⟩
  · exact .inr (.inl ⟨_, h⟩)
  · exact .inr (.inr (.inl ⟨_, h⟩))
theorem OwR.mu (h : OwR K S H d a) : Mu H a := by
  rcases h with ⟨ds, vs, rfl, h, r⟩ | ⟨ks, vs, rfl, h, r⟩
  · exact .inl ⟨_, h⟩
  · exact h.mu
theorem RdR.step (h : RdR K H0 S H d a) (z : Stp S S' H H') : RdR K H0 S' H' d a := by
  rcases h with ⟨ds, vs, rfl, h, r⟩ | ⟨ks, vs, rfl, h, r⟩
  · exact .inl ⟨ds, vs, rfl, h, z.dvs r⟩
  · exact .inr ⟨ks, vs, rfl, h, z.dks r⟩
theorem OwR.rd (h : OwR K S H d a) : RdR K H S H d a := by
  rcases h with ⟨ds, vs, rfl, h, r⟩ | ⟨ks, vs, rfl, h, r⟩
  · exact .inl ⟨ds, vs, rfl, h, r⟩
  · exact .inr ⟨ks, vs, rfl, h, r⟩
theorem OwR.dv (h : OwR K S H d a) (z : Stp S S' H H) (n : a ∉ S') : Dv K S' H d (.ref a) := by
  rcases h with ⟨ds, vs, rfl, h, r⟩ | ⟨ks, vs, rfl, h, r⟩
  · exact ⟨a, vs, rfl, ⟨n, h⟩, z.dvs r⟩
  · exact ⟨a, vs, rfl, n, h, z.dks r⟩
theorem cell_own {o : Option (Option V)} {c : Option (Option Cell)} (h : CellR K y S H o c) (q : isOwn c = true) : ∃ a d, o = some (some (.ref a)) ∧ a ∈ S ∧ OwR K S H d a ∧ (c = some (some (.ow d)) ∧ ¬ NT y.H0 a ∨ c = some (some (.io d)) ∧ a ∈ y.Sin) := by
  obtain ⟨d, e | e⟩ := isOwn_ex q
  · obtain ⟨v, e2, a, e3, m, n, r⟩ := h _ e
    subst e3; exact ⟨a, d, e2, m, r, .inl ⟨e, n⟩⟩
  · obtain ⟨v, e2, a, e3, m, n, r⟩ := h _ e
    subst e3; exact ⟨a, d, e2, m, r, .inr ⟨e, n⟩⟩
theorem CellR.step {o : Option (Option V)} {c : Option (Option Cell)} (h : CellR K y S H o c) (z : Stp S S' H H') (hw : ∀ a, o = some (some (.ref a)) → isOwn c = true → a ∈ S → a ∈ S' ∧ H' a = H a) : CellR K y S' H' o c := by
  intro cell e
  obtain ⟨v, e2, r⟩ := h cell e
  refine ⟨v, e2, ?_⟩
  cases cell with
  | sh d => exact z.dv r
  | bo d =>
    rcases r with r | ⟨a, e, n, r⟩
    · exact .inl (z.dv r)
    · exact .inr ⟨a, e, n, r.step z⟩
  | ow d =>
    obtain ⟨a, e3, m, n, r⟩ := r
    subst e3
    have := hw a e2 (by rw [e]; rfl) m
    exact ⟨a, rfl, this.1, n, r.step z this.2⟩
  | io d =>
    obtain ⟨a, e3, m, n, r⟩ := r
    subst e3
    have := hw a e2 (by rw [e]; rfl) m
    exact ⟨a, rfl, this.1, n, r.step z this.2⟩
  | sc d =>
    obtain ⟨a, ds, vs, e1, n, e2, s, r⟩ := r
    exact ⟨a, ds, vs, e1, n, e2, s, z.dvs r⟩
namespace Rel
theorem go (R : Rel K C y G W S H σ st) (z : Stp S S' H H') (hS : ∀ a, (a ∈ S ∧ (a ∈ y.S0 ∨ (∃ i, Owns σ st i a) ∨ ∃ t ∈ W, t.2 = a)) → a ∈ S' ∧ H' a = H a) (dom : ∀ a ∈ S', Mu H' a) (kp : Kp C.T y.Sin y.H0 H') (tabs : LamX.Tabs C.T H') : Rel K C y G W S' H' σ st where
  ls := R.ls
  lt := R.lt
  kp := kp
  s0 := fun a m => ⟨(hS a ⟨(R.s0 a m).1, .inl m⟩).1, (R.s0 a m).2⟩
  sin := R.sin
  dom := dom
  cell := fun i => (R.cell i).step z fun a e q m => hS a ⟨m, .inr (.inl ⟨i, e, q⟩)⟩
  gd := fun g m => z.dv (R.gd g m)
  tg := fun t m => ⟨(hS t.2 ⟨(R.tg t m).1, .inr (.inr ⟨t, m, rfl⟩)⟩).1, (R.tg t m).2.1, (R.tg t m).2.2.step z (hS t.2 ⟨(R.tg t m).1, .inr (.inr ⟨t, m, rfl⟩)⟩).2⟩
  sep := R.sep
  sept := R.sept
  tnd := R.tnd
  pin := R.pin
  tabs := tabs
theorem nS0 (R : Rel K C y G W S H σ st) (h : ¬ NT y.H0 a) : a ∉ y.S0 := fun m => h (R.s0 a m).2
theorem nSin (R : Rel K C y G W S H σ st) (h : ¬ NT y.H0 a) : a ∉ y.Sin := fun m => R.nS0 h (R.sin a m)
theorem fresh (R : Rel K C y G W S H σ st) (h : H p = none) : ¬ NT y.H0 p ∧ p ∉ S := by
  have n : p ∉ S := fun m => (R.dom p m).tab.2.2 h
  refine ⟨fun t => ?_, n⟩
  have : p ∉ y.Sin := fun m => n (R.s0 p (R.sin p m)).1
  obtain ⟨o, e, _⟩ := R.kp.nt t this
  rw [h] at e; cases e
theorem keep (R : Rel K C y G W S H σ st) (k : Kp C.T [] H H') : Rel K C y G W S H' σ st :=
  R.go (.of (k.mono fun _ m => nomatch m)) (fun a m => ⟨m.1, k.at (R.dom a m.1).nt (fun m => nomatch m)⟩) (fun a m => by
    have e := k.at (R.dom a m).nt (fun m => nomatch m)
    unfold Mu; rw [e]; exact R.dom a m) (R.kp.trans (k.mono fun _ m => nomatch m)) (k.2 R.tabs)
theorem new (R : Rel K C y G W S H σ st) {o : HO} (h : H p = none) : Rel K C y G W S (upd H p o) σ st := R.keep (.new h)
/-- a new thing of one's own -/
theorem newT (R : Rel K C y G W S H σ st) {o : HO} (h : H p = none) (r : OwR K (p :: S) (upd H p o) d p) : Rel K C y G ((d, p) :: W) (p :: S) (upd H p o) σ st := by
  obtain ⟨f1, f2⟩ := R.fresh h
  have ne : ∀ a ∈ S, a ≠ p := fun a m e => f2 (e ▸ m)
  have z : Rel K C y G W (p :: S) (upd H p o) σ st := R.go (.new h) (fun a m => ⟨.tail _ m.1, upd_ne (ne a m.1)⟩) (fun a m => by
    rcases List.mem_cons.mp m with m | m
    · rw [m]; exact r.mu
    · unfold Mu; rw [upd_ne (ne a m)]; exact R.dom a m) (R.kp.trans (.new h)) ((Kp.new (S := []) h).2 R.tabs)
  refine { z with tg := fun t m => ?_, sept := fun i a q t m => ?_, tnd := ?_ }
  · rcases List.mem_cons.mp m with m | m
    · subst m; exact ⟨.head _, f1, r⟩
    · exact z.tg t m
  · rcases List.mem_cons.mp m with m | m
    · subst m
      obtain ⟨a', d', e, m, _⟩ := cell_own (R.cell i) q.2
      rw [q.1] at e; cases e
      exact (ne a m).symm
    · exact R.sept i a q t m
  · rw [List.map_cons, List.nodup_cons]
    refine ⟨fun m => ?_, R.tnd⟩
    obtain ⟨t, m, e⟩ := List.mem_map.mp m
    exact ne _ (R.tg t m).1 e
theorem subG {G' : List (PyData × V)} (R : Rel K C y G W S H σ st) (h : ∀ g ∈ G', g ∈ G) : Rel K C y G' W S H σ st := { R with gd := fun g m => R.gd g (h g m) }
theorem tl {g : PyData × V} (R : Rel K C y (g :: G) W S H σ st) : Rel K C y G W S H σ st := R.subG fun _ m => .tail _ m
theorem addG (R : Rel K C y G W S H σ st) (h : Dv K S H d v) : Rel K C y ((d, v) :: G) W S H σ st := { R with gd := fun g m => (List.mem_cons.mp m).elim (fun m => m ▸ h) (R.gd g) }
theorem hd (R : Rel K C y ((d, v) :: G) W S H σ st) : Dv K S H d v := R.gd _ (.head _)
theorem tlW {t : PyData × Addr} (R : Rel K C y G (t :: W) S H σ st) : Rel K C y G W S H σ st := { R with tg := fun t m => R.tg t (.tail _ m), sept := fun i a q t m => R.sept i a q t (.tail _ m), tnd := (List.nodup_cons.mp R.tnd).2 }
theorem flt (R : Rel K C y G W S H σ st) (h0 : ¬ NT y.H0 a) (hn : ∀ i, ¬ Owns σ st i a) (hw : ∀ t ∈ W, t.2 ≠ a) : Rel K C y G W (S.filter fun b => !decide (b = a)) H σ st ∧ a ∉ (S.filter fun b => !decide (b = a)) := by
  refine ⟨R.go (.sub fun b m => (List.mem_filter.mp m).1) (fun b m => ⟨List.mem_filter.mpr ⟨m.1, ?_⟩, rfl⟩) (fun b m => R.dom b (List.mem_filter.mp m).1) R.kp R.tabs, fun m => ?_⟩
  · have : b ≠ a := fun e => by
      subst e
      rcases m.2 with m | ⟨i, m⟩ | ⟨t, m, e⟩
      · exact R.nS0 h0 m
      · exact hn i m
      · exact hw t m e
    simp [this]
  · have := (List.mem_filter.mp m).2
    simp at this
/-- a new thing is shared from now on -/
theorem frT (R : Rel K C y G ((d, a) :: W) S H σ st) : ∃ S', Rel K C y ((d, .ref a) :: G) W S' H σ st := by
  obtain ⟨m, n, r⟩ := R.tg _ (.head _)
  obtain ⟨z, q⟩ := R.tlW.flt n (fun i o => R.sept i a o _ (.head _) rfl) (fun t m e => (List.nodup_cons.mp R.tnd).1 (List.mem_map.mpr ⟨t, m, e⟩))
  exact ⟨_, z.addG (r.dv (.sub fun b m => (List.mem_filter.mp m).1) q)⟩
/-- other cells, what is owned as it was -/
theorem chg (R : Rel K C y G W S H σ st) (z : Stp S S' H H') (kp : Kp C.T y.Sin y.H0 H') (tabs : LamX.Tabs C.T H') (s0 : ∀ a ∈ y.S0, a ∈ S') (dom : ∀ a ∈ S', Mu H' a) (cell : ∀ i : Nat, CellR K y S' H' σ[i]? st'[i]?) (lt : st'.length = st.length)
    (own : ∀ i : Nat, isOwn st'[i]? = true → isOwn st[i]? = true) (tg : ∀ t ∈ W, t.2 ∈ S' ∧ OwR K S' H' t.1 t.2) (pin : ∀ i : Nat, isOwn st[i]? = true → isOwn st'[i]? = true) : Rel K C y G W S' H' σ st' where
  ls := R.ls
  lt := lt.trans R.lt
  kp := kp
  s0 := fun a m => ⟨s0 a m, (R.s0 a m).2⟩
  sin := R.sin
  dom := dom
  cell := cell
  gd := fun g m => z.dv (R.gd g m)
  tg := fun t m => ⟨(tg t m).1, (R.tg t m).2.1, (tg t m).2⟩
  sep := fun i j a p q => R.sep i j a ⟨p.1, own i p.2⟩ ⟨q.1, own j q.2⟩
  sept := fun i a p => R.sept i a ⟨p.1, own i p.2⟩
  tnd := R.tnd
  pin := fun p m => ⟨(R.pin p m).1, (R.pin p m).2.1, pin _ (R.pin p m).2.2⟩
  tabs := tabs
end Rel
/-- what is put for a thing of one's own -/
def putD (st : MS) (i : Nat) (d : PyData) : MS := match st[i]? with
  | some (some (.ow _)) => st.set i (some (.ow d))
  | some (some (.io _)) => st.set i (some (.io d))
  | _ => st
theorem putD_len : (putD st i d).length = st.length := by
  unfold putD; split <;> simp
theorem putD_ne {j : Nat} (h : i ≠ j) : (putD st i d)[j]? = st[j]? := by
  unfold putD; split <;> simp [List.getElem?_set_ne h]
theorem putD_own {j : Nat} : isOwn (putD st i d)[j]? = isOwn st[j]? := by
  by_cases h : i = j
  · subst h
    unfold putD
    split
    · rename_i e
      rw [List.getElem?_set_self (List.getElem?_eq_some_iff.mp e).1, e]; rfl
    · rename_i e
      rw [List.getElem?_set_self (List.getElem?_eq_some_iff.mp e).1, e]; rfl
    · rfl
  · rw [putD_ne h]
theorem putD_io {j : Nat} (h : ∃ d, st[j]? = some (some (.io d))) : ∃ e, (putD st i d)[j]? = some (some (.io e)) := by
  obtain ⟨d0, h⟩ := h
  by_cases q : i = j
  · subst q
    refine ⟨d, ?_⟩
    unfold putD
    rw [h]
    exact List.getElem?_set_self (List.getElem?_eq_some_iff.mp h).1
  · exact ⟨d0, by rw [putD_ne q]; exact h⟩
theorem cell_put {o : Option (Option V)} (h : CellR K y S H o st[i]?) (q : isOwn st[i]? = true) (e : o = some (some (.ref a))) (m : a ∈ S') (r : OwR K S' H' d a) : CellR K y S' H' o (putD st i d)[i]? := by
  obtain ⟨a', d', e', m', r', z⟩ := cell_own h q
  rw [e] at e'; cases e'
  subst e
  unfold putD
  rcases z with ⟨z, n⟩ | ⟨z, n⟩
  · rw [z]
    show CellR K y S' H' _ (st.set i _)[i]?
    rw [List.getElem?_set_self (List.getElem?_eq_some_iff.mp z).1]
    intro cell e; cases e
    exact ⟨_, rfl, a, rfl, m, n, r⟩
  · rw [z]
    show CellR K y S' H' _ (st.set i _)[i]?
    rw [List.getElem?_set_self (List.getElem?_eq_some_iff.mp z).1]
    intro cell e; cases e
    exact ⟨_, rfl, a, rfl, m, n, r⟩
namespace Rel
/-- a thing of one's own is changed -/
theorem muV (R : Rel K C y G W S H σ st) (o : Owns σ st i a) {u : HO} (h : OwR K S (upd H a u) d a) : Rel K C y G W S (upd H a u) σ (putD st i d) := by
  obtain ⟨a', d', e', m, r', q⟩ := cell_own (R.cell i) o.2
  rw [o.1] at e'; cases e'
  have kp : Kp C.T y.Sin y.H0 (upd H a u) := by
    refine R.kp.then (.put r'.mu (List.mem_singleton.mpr rfl)) fun x mx => ?_
    rw [List.mem_singleton.mp mx]
    exact q.elim (fun q => .inr q.2) fun q => .inl q.2
  refine R.chg (.put m) kp ((Kp.put r'.mu (S := [a]) (T := C.T) (List.mem_singleton.mpr rfl)).2 R.tabs) (fun b mb => (R.s0 b mb).1) (fun b mb => ?_) (fun j => ?_) putD_len (fun j q => by rw [putD_own] at q; exact q) (fun t mt => ?_) (fun j q => by rw [putD_own]; exact q)
  · by_cases e : b = a
    · subst e; exact h.mu
    · unfold Mu; rw [upd_ne e]; exact R.dom b mb
  · by_cases e : i = j
    · subst e
      exact cell_put (R.cell i) o.2 o.1 m h
    · rw [putD_ne e]
      refine (R.cell j).step (.put m) fun b eb qb mb => ⟨mb, upd_ne fun z => e (R.sep i j a o ⟨by rw [← z]; exact eb, qb⟩)⟩
  · exact ⟨(R.tg t mt).1, (R.tg t mt).2.2.step (.put m) (upd_ne (R.sept i a o t mt))⟩
/-- a new thing is changed -/
theorem mutT (R : Rel K C y G ((d, a) :: W) S H σ st) {u : HO} {d' : PyData} (h : OwR K S (upd H a u) d' a) : Rel K C y G ((d', a) :: W) S (upd H a u) σ st := by
  obtain ⟨m, n, r⟩ := R.tg _ (.head _)
  have kp : Kp C.T y.Sin y.H0 (upd H a u) := R.kp.then (.put r.mu (List.mem_singleton.mpr rfl)) fun x mx => by
    rw [List.mem_singleton.mp mx]; exact .inr n
  have nd := List.nodup_cons.mp R.tnd
  have z : Rel K C y G W S (upd H a u) σ st := R.tlW.chg (.put m) kp ((Kp.put r.mu (S := [a]) (T := C.T) (List.mem_singleton.mpr rfl)).2 R.tabs) (fun b mb => (R.s0 b mb).1) (fun b mb => by
      by_cases e : b = a
      · subst e; exact h.mu
      · unfold Mu; rw [upd_ne e]; exact R.dom b mb)
    (fun j => (R.cell j).step (.put m) fun b eb qb mb => ⟨mb, upd_ne fun z => R.sept j b ⟨eb, qb⟩ _ (.head _) z.symm⟩) rfl (fun _ q => q)
    (fun t mt => ⟨(R.tg t (.tail _ mt)).1, (R.tg t (.tail _ mt)).2.2.step (.put m) (upd_ne fun e => nd.1 (List.mem_map.mpr ⟨t, mt, e⟩))⟩) (fun _ q => q)
  exact { z with
    tg := fun t mt => by
      rcases List.mem_cons.mp mt with q | q
      · subst q; exact ⟨m, n, h⟩
      · exact z.tg t q
    sept := fun i b q t mt => by
      rcases List.mem_cons.mp mt with e | e
      · subst e; exact R.sept i b q (d, a) (.head _)
      · exact R.sept i b q t (.tail _ e)
    tnd := List.nodup_cons.mpr nd }
theorem pinned (R : Rel K C y G W S H σ st) (h : C.ps.contains i = false) : ∀ p ∈ y.pin, p.1 ≠ i := fun p m e => by
  have := (R.pin p m).1
  rw [e, h] at this; cases this
/-- a name is given a shared value -/
theorem setS (R : Rel K C y ((d, v) :: G) W S H σ st) (hi : i < C.n) (hp : C.ps.contains i = false) : Rel K C y ((d, v) :: G) W S H (σ.set i (some v)) (st.set i (some (.sh d))) := by
  have h1 : i < σ.length := by rw [R.ls]; exact hi
  have h2 : i < st.length := by rw [R.lt]; exact hi
  have ow : ∀ j a, Owns (σ.set i (some v)) (st.set i (some (.sh d))) j a → Owns σ st j a := fun j a q => by
    by_cases e : i = j
    · subst e
      have := q.2
      rw [List.getElem?_set_self h2] at this; cases this
    · exact ⟨by rw [← q.1, List.getElem?_set_ne e], by rw [← q.2, List.getElem?_set_ne e]⟩
  refine { R with ls := ?_, lt := ?_, cell := fun j => ?_, sep := fun j k a p q => R.sep j k a (ow j a p) (ow k a q), sept := fun j a q => R.sept j a (ow j a q), pin := fun p m => ?_ }
  · rw [List.length_set]; exact R.ls
  · rw [List.length_set]; exact R.lt
  · by_cases e : i = j
    · subst e
      rw [List.getElem?_set_self h1, List.getElem?_set_self h2]
      intro cell e; cases e
      exact ⟨_, rfl, R.hd⟩
    · rw [List.getElem?_set_ne e, List.getElem?_set_ne e]; exact R.cell j
  · have e := (R.pinned hp p m).symm
    rw [List.getElem?_set_ne e, List.getElem?_set_ne e]; exact R.pin p m
/-- a name is given a new thing -/
theorem setT (R : Rel K C y G ((d, a) :: W) S H σ st) (hi : i < C.n) (hp : C.ps.contains i = false) : Rel K C y G W S H (σ.set i (some (.ref a))) (st.set i (some (.ow d))) := by
  obtain ⟨m, n, r⟩ := R.tg _ (.head _)
  have h1 : i < σ.length := by rw [R.ls]; exact hi
  have h2 : i < st.length := by rw [R.lt]; exact hi
  have ow : ∀ j b, Owns (σ.set i (some (.ref a))) (st.set i (some (.ow d))) j b → (j = i ∧ b = a) ∨ (j ≠ i ∧ Owns σ st j b) := fun j b q => by
    by_cases e : i = j
    · subst e
      have := q.1
      rw [List.getElem?_set_self h1] at this; cases this
      exact .inl ⟨rfl, rfl⟩
    · exact .inr ⟨fun z => e z.symm, by rw [← q.1, List.getElem?_set_ne e], by rw [← q.2, List.getElem?_set_ne e]⟩
  have na : ∀ j, ¬ Owns σ st j a := fun j o => R.sept j a o _ (.head _) rfl
  have nd := List.nodup_cons.mp R.tnd
  refine { R.tlW with ls := ?_, lt := ?_, cell := fun j => ?_, sep := fun j k b p q => ?_, sept := fun j b q t mt => ?_, pin := fun p m => ?_ }
  · rw [List.length_set]; exact R.ls
  · rw [List.length_set]; exact R.lt
  · by_cases e : i = j
    · subst e
      rw [List.getElem?_set_self h1, List.getElem?_set_self h2]
      intro cell e; cases e
      exact ⟨_, rfl, a, rfl, m, n, r⟩
    · rw [List.getElem?_set_ne e, List.getElem?_set_ne e]; exact R.cell j
  · rcases ow j b p with ⟨e1, e2⟩ | ⟨e1, o1⟩
    · rcases ow k b q with ⟨e3, e4⟩ | ⟨e3, o3⟩
      · rw [e1, e3]
      · subst e2; exact absurd o3 (na k)
    · rcases ow k b q with ⟨e3, e4⟩ | ⟨e3, o3⟩
      · subst e4; exact absurd o1 (na j)
      · exact R.sep j k b o1 o3
  · rcases ow j b q with ⟨e1, e2⟩ | ⟨e1, o1⟩
    · subst e2; exact fun e => nd.1 (List.mem_map.mpr ⟨t, mt, e⟩)
    · exact R.sept j b o1 t (.tail _ mt)
  · have e := (R.pinned hp p m).symm
    rw [List.getElem?_set_ne e, List.getElem?_set_ne e]; exact R.pin p m
/-- what is known of a name is forgotten -/
theorem drop (R : Rel K C y G W S H σ st) (hi : i < C.n) (hp : C.ps.contains i = false) : Rel K C y G W S H σ (st.set i none) := by
  have h2 : i < st.length := by rw [R.lt]; exact hi
  have ow : ∀ j a, Owns σ (st.set i none) j a → Owns σ st j a := fun j a q => by
    by_cases e : i = j
    · subst e
      have := q.2
      rw [List.getElem?_set_self h2] at this; cases this
    · exact ⟨q.1, by rw [← q.2, List.getElem?_set_ne e]⟩
  refine { R with lt := ?_, cell := fun j => ?_, sep := fun j k a p q => R.sep j k a (ow j a p) (ow k a q), sept := fun j a q => R.sept j a (ow j a q), pin := fun p m => ?_ }
  · rw [List.length_set]; exact R.lt
  · by_cases e : i = j
    · subst e
      rw [List.getElem?_set_self h2]
      intro cell e; cases e
    · rw [List.getElem?_set_ne e]; exact R.cell j
  · have e := (R.pinned hp p m).symm
    rw [List.getElem?_set_ne e]; exact R.pin p m
/-- a thing of one's own is taken out of its name -/
theorem takeV (R : Rel K C y G W S H σ st) (hi : i < C.n) (hp : C.ps.contains i = false) (h : st[i]? = some (some (.ow d))) : ∃ a, σ[i]? = some (some (.ref a)) ∧ Rel K C y G ((d, a) :: W) S H σ (st.set i none) := by
  obtain ⟨a, d', e, m, r, q⟩ := cell_own (R.cell i) (by rw [h]; rfl)
  rw [h] at q
  have q : d = d' ∧ ¬ NT y.H0 a := by
    rcases q with ⟨q, n⟩ | ⟨q, n⟩
    · cases q; exact ⟨rfl, n⟩
    · cases q
  obtain ⟨q, n⟩ := q
  subst q
  have o : Owns σ st i a := ⟨e, by rw [h]; rfl⟩
  have z := R.drop hi hp
  have h2 : i < st.length := by rw [R.lt]; exact hi
  refine ⟨a, e, { z with tg := fun t mt => ?_, sept := fun j b q t mt => ?_, tnd := ?_ }⟩
  · rcases List.mem_cons.mp mt with q | q
    · subst q; exact ⟨m, n, r⟩
    · exact R.tg t q
  · rcases List.mem_cons.mp mt with e' | e'
    · subst e'
      intro eb
      have eb : a = b := eb
      subst eb
      by_cases ij : i = j
      · subst ij
        have := q.2
        rw [List.getElem?_set_self h2] at this; cases this
      · exact ij (R.sep i j a o ⟨q.1, by rw [← q.2, List.getElem?_set_ne ij]⟩)
    · exact z.sept j b q t e'
  · rw [List.map_cons, List.nodup_cons]
    exact ⟨fun mm => by
      obtain ⟨t, mt, et⟩ := List.mem_map.mp mm
      exact R.sept i a o t mt et, R.tnd⟩
/-- .. and is shared -/
theorem frV (R : Rel K C y G W S H σ st) (hi : i < C.n) (hp : C.ps.contains i = false) (h : st[i]? = some (some (.ow d))) : ∃ a S', σ[i]? = some (some (.ref a)) ∧ Rel K C y ((d, .ref a) :: G) W S' H σ (st.set i (some (.sh d))) := by
  obtain ⟨a, e, z⟩ := R.takeV hi hp h
  obtain ⟨S', z⟩ := z.frT
  have z2 := z.setS hi hp
  have e2 : σ.set i (some (.ref a)) = σ := List.ext_getElem? fun j => by
    by_cases ij : i = j
    · subst ij
      rw [List.getElem?_set_self (by rw [R.ls]; exact hi), e]
    · rw [List.getElem?_set_ne ij]
  rw [e2, List.set_set] at z2
  exact ⟨a, S', e, z2⟩
/-- what a name holds, to be read -/
theorem bo {c : Cell} {d : PyData} (R : Rel K C y G W S H σ st) (h : st[i]? = some (some c)) (hd : c.rd = some d) : ∃ v, σ[i]? = some (some v) ∧ BoV K S H d v := by
  obtain ⟨v, e, r⟩ := R.cell i c h
  refine ⟨v, e, ?_⟩
  cases c with
  | sc d => cases hd
  | sh d => cases hd; exact .inl r
  | bo d =>
    cases hd
    rcases r with r | ⟨a, e, n, r⟩
    · exact .inl r
    · refine .inr ⟨a, e, ?_⟩
      rcases r with ⟨ds, vs, e1, s, r⟩ | ⟨ks, vs, e1, s, r⟩
      · exact .inl ⟨ds, vs, e1, R.kp.1 _ _ s (fun _ q => nomatch q) n, r⟩
      · exact .inr ⟨ks, vs, e1, s.to fun o q t => R.kp.1 _ _ q t n, r⟩
  | ow d => cases hd; obtain ⟨a, e, m, n, r⟩ := r; exact .inr ⟨a, e, r.rd⟩
  | io d => cases hd; obtain ⟨a, e, m, n, r⟩ := r; exact .inr ⟨a, e, r.rd⟩
end Rel
end
/-! ### outcomes, judgements -/
inductive Out (α : Type) where
  | ok (a : α) (st : MS)
  | err (c : Str) (fs : List (Str × PyData)) (st : MS)
  | bad
inductive SOut where
  | nx (st : MS)
  | ret (d : PyData) (st : MS)
  | brk (st : MS)
  | ct (st : MS)
  | err (c : Str) (fs : List (Str × PyData)) (st : MS)
  | bad
/-- s: a shared value; b: to be read alone; f: a new thing of one's own -/
inductive Md where
  | s | b | f
def atV : PyData → V
  | .bool b => .bl b
  | .int i => .int i
  | .str z => .str z
  | _ => .non
/-- an error that is raised -/
def ErrV (cls : Str → Addr) (c : Str) (fs : List (Str × PyData)) (cl : Value) (dx : Option Addr) (H : Hp) : Prop :=
  cl = .ref (cls c) ∧ ((fs = [] ∧ dx = none) ∨ (fs ≠ [] ∧ ∃ p, dx = some p ∧ H p = some (.xd (fs.map fun q => (q.1, atV q.2)))))
section
variable (K : PySem.W.Frag) (C : Ct) (E : WX) (y : Dy) (G : List (PyData × V)) (W : List (PyData × Addr)) (σ : L2.St)
def PostE (c : Str) (fs : List (Str × PyData)) (st : MS) : Prop := ∀ S H cl dx, Rel K C y G W S H σ st → ErrV C.cls c fs cl dx H → E cl dx σ H
def Post : Md → Out PyData → VK → Prop
  | .s, .ok d st, Q => ∀ S v H, Rel K C y ((d, v) :: G) W S H σ st → Q v H
  | .b, .ok d st, Q => ∀ S v H, Rel K C y G W S H σ st → BoV K S H d v → Q v H
  | .f, .ok d st, Q => ∀ S a H, Rel K C y G ((d, a) :: W) S H σ st → Q (.ref a) H
  | _, .err c fs st, _ => PostE K C E y G W σ c fs st
  | _, .bad, _ => False
def PostT : Out Bool → (Bool → Hp → Prop) → Prop
  | .ok b st, Q => ∀ S H, Rel K C y G W S H σ st → Q b H
  | .err c fs st, _ => PostE K C E y G W σ c fs st
  | .bad, _ => False
/-- arguments: shared ones, or names whose things are lent -/
inductive AC (σ : L2.St) : List (Option Nat) → List PyData → List V → List (PyData × V) → Prop
  | nil : AC σ [] [] [] []
  | sh {sp ds vs g d v} : AC σ sp ds vs g → AC σ (none :: sp) (d :: ds) (v :: vs) ((d, v) :: g)
  | va {sp ds vs g d v i} : σ[i]? = some (some v) → AC σ sp ds vs g → AC σ (some i :: sp) (d :: ds) (v :: vs) g
def PostA (sp : List (Option Nat)) : Out (List PyData) → (List V → Hp → Prop) → Prop
  | .ok ds st, Q => ∀ S vs g H, AC σ sp ds vs g → Rel K C y (g ++ G) W S H σ st → Q vs H
  | .err c fs st, _ => PostE K C E y G W σ c fs st
  | .bad, _ => False
/-- an iterator that gives just these -/
def Items (J : It) (g : List (PyData × V)) (ds : List PyData) : Prop := ∀ (S : List Addr) (H : Hp), (∀ a ∈ S, H a ≠ none) → (∀ q ∈ g, Dv K S H q.1 q.2) → ∀ i : Nat, (∀ d, ds[i]? = some d → J.go i H ∧ ∀ x H', J.yld i H x H' → (H' = H ∨ ∃ p vs, H p = none ∧ H' = upd H p (.tup vs)) ∧ Dv K S H' d x) ∧ (i = ds.length → J.stop i H)
def PostI : Out (List PyData) → (It → Hp → Prop) → Prop
  | .ok ds st, R => ∀ S H J g, Rel K C y (g ++ G) W S H σ st → Items K J g ds → R J H
  | .err c fs st, _ => PostE K C E y G W σ c fs st
  | .bad, _ => False
def RetR (S : List Addr) (H : Hp) (d : PyData) (v : V) : Prop := if C.rk = true then ∃ a, v = .ref a ∧ a ∈ S ∧ ¬ NT y.H0 a ∧ OwR K (a :: y.S0) H d a else Dv K y.S0 H d v
def PostS : SOut → Ends → Prop
  | .nx st, D => ∀ S σ H, Rel K C y G W S H σ st → D.nx σ H
  | .brk st, D => ∀ S σ H, Rel K C y G W S H σ st → D.bk σ H
  | .ct st, D => ∀ S σ H, Rel K C y G W S H σ st → D.ct σ H
  | .ret d st, D => ∀ S σ H v, Rel K C y G W S H σ st → RetR K C y S H d v → D.rt v H
  | .err c fs st, _ => ∀ S σ H cl dx, Rel K C y G W S H σ st → ErrV C.cls c fs cl dx H → E cl dx σ H
  | .bad, _ => False
def RE (md : Md) (te : TE) (m : MS → Out PyData) : Prop := ∀ y G W S H σ st Q, Rel K C y G W S H σ st → Post K C E y G W σ md (m st) Q → te σ H Q
def RT (tt : TT) (m : MS → Out Bool) : Prop := ∀ y G W S H σ st Q, Rel K C y G W S H σ st → PostT K C E y G W σ (m st) Q → tt σ H Q
def RA (sp : List (Option Nat)) (ta : TA) (m : MS → Out (List PyData)) : Prop := ∀ y G W S H σ st Q, Rel K C y G W S H σ st → PostA K C E y G W σ sp (m st) Q → ta σ H Q
def RI (wi : TI) (m : MS → Out (List PyData)) : Prop := ∀ y G W S H σ st R, Rel K C y G W S H σ st → PostI K C E y G W σ (m st) R → wi σ H R
def RS (ts : TS) (m : MS → SOut) : Prop := ∀ y G W S H σ st D, Rel K C y G W S H σ st → PostS K C E y G W (m st) D → ts D σ H
end
end MV

set_option Elab.async false
set_option linter.all false
set_option maxRecDepth 100000
set_option maxHeartbeats 2000000
/-! VC: expressions: what each piece's reading asks, told by data. -/
namespace MV
open PySem PySem.Spec PyProof.Rows L2 FR
/-! ### outcomes in a row -/
class EB (β : Type) where
  err : Str → List (Str × PyData) → MS → β
  bad : β
instance : EB (Out α) := ⟨.err, .bad⟩
instance : EB SOut := ⟨.err, .bad⟩
def Out.bd {α β : Type} [EB β] (o : Out α) (k : α → MS → β) : β := match o with
  | .ok a st => k a st
  | .err c fs st => EB.err c fs st
  | .bad => EB.bad
def ofO {α : Type} (o : Option α) (st : MS) : Out α := match o with
  | some a => .ok a st
  | none => .bad
section
variable {K : PySem.W.Frag} {C : Ct} {E : WX} {y : Dy} {G G' : List (PyData × V)} {W W' : List (PyData × Addr)} {S S' : List Addr} {H H' H0 : Hp} {σ : L2.St} {st st' : MS} {d d' : PyData} {a p : Addr} {v x z : V} {i : Nat} {md : Md} {Q : VK} {te ta tb tc : TE} {m ma mb mc : MS → Out PyData}
def Wk (K : PySem.W.Frag) (C : Ct) (y : Dy) (G : List (PyData × V)) (W : List (PyData × Addr)) (G' : List (PyData × V)) (W' : List (PyData × Addr)) : Prop := ∀ S H σ st, Rel K C y G' W' S H σ st → Rel K C y G W S H σ st
theorem Wk.rfl : Wk K C y G W G W := fun _ _ _ _ r => r
theorem Wk.g {g : PyData × V} (w : Wk K C y G W G' W') : Wk K C y G W (g :: G') W' := fun _ _ _ _ r => w _ _ _ _ r.tl
theorem Wk.t {t : PyData × Addr} (w : Wk K C y G W G' W') : Wk K C y G W G' (t :: W') := fun _ _ _ _ r => w _ _ _ _ r.tlW
theorem Wk.app {g : List (PyData × V)} (w : Wk K C y G W G' W') : Wk K C y G W (g ++ G') W' := fun _ _ _ _ r => w _ _ _ _ (r.subG fun _ m => List.mem_append_right _ m)
/-- what an end asks of errors -/
structure IP {β : Type} [EB β] (K : PySem.W.Frag) (C : Ct) (E : WX) (y : Dy) (G : List (PyData × V)) (W : List (PyData × Addr)) (σ : L2.St) (P : β → Prop) : Prop where
  e : ∀ c fs st, P (EB.err c fs st) → PostE K C E y G W σ c fs st
  b : ¬ P EB.bad
theorem ipP : IP K C E y G W σ (fun o => Post K C E y G W σ md o Q) := by cases md <;> exact ⟨fun _ _ _ h => h, fun h => h⟩
theorem ipT {Q : Bool → Hp → Prop} : IP K C E y G W σ (fun o => PostT K C E y G W σ o Q) := ⟨fun _ _ _ h => h, fun h => h⟩
theorem ipA {sp : List (Option Nat)} {Q : List V → Hp → Prop} : IP K C E y G W σ (fun o => PostA K C E y G W σ sp o Q) := ⟨fun _ _ _ h => h, fun h => h⟩
theorem ipI {Q : It → Hp → Prop} : IP K C E y G W σ (fun o => PostI K C E y G W σ o Q) := ⟨fun _ _ _ h => h, fun h => h⟩
theorem ipS {D : Ends} : IP K C E y G W σ (fun o : SOut => PostS K C E y G W o D) := ⟨fun _ _ _ h S H cl dx => h S σ H cl dx, fun h => h⟩
section
variable {β : Type} [EB β] {P : β → Prop}
theorem IP.er (ip : IP K C E y G W σ P) (w : Wk K C y G W G' W') {c : Str} {fs : List (Str × PyData)} (h : P (EB.err c fs st)) : PostE K C E y G' W' σ c fs st := fun S H cl dx R e => ip.e c fs st h S H cl dx (w _ _ _ _ R) e
theorem RE.uS (r : RE K C E .s te m) {k : PyData → MS → β} (ip : IP K C E y G W σ P) (w : Wk K C y G W G' W') (R : Rel K C y G' W' S H σ st) (h : P ((m st).bd k)) (nx : ∀ d st' S' v H', Rel K C y ((d, v) :: G') W' S' H' σ st' → P (k d st') → Q v H') : te σ H Q := by
  refine r y G' W' S H σ st Q R ?_
  generalize m st = o at h ⊢
  cases o with
  | ok d st' => exact fun S' v H' R' => nx d st' S' v H' R' h
  | err c fs st' => exact ip.er w h
  | bad => exact ip.b h
theorem RE.uB (r : RE K C E .b te m) {k : PyData → MS → β} (ip : IP K C E y G W σ P) (w : Wk K C y G W G' W') (R : Rel K C y G' W' S H σ st) (h : P ((m st).bd k)) (nx : ∀ d st' S' v H', Rel K C y G' W' S' H' σ st' → BoV K S' H' d v → P (k d st') → Q v H') : te σ H Q := by
  refine r y G' W' S H σ st Q R ?_
  generalize m st = o at h ⊢
  cases o with
  | ok d st' => exact fun S' v H' R' b => nx d st' S' v H' R' b h
  | err c fs st' => exact ip.er w h
  | bad => exact ip.b h
theorem RE.uF (r : RE K C E .f te m) {k : PyData → MS → β} (ip : IP K C E y G W σ P) (w : Wk K C y G W G' W') (R : Rel K C y G' W' S H σ st) (h : P ((m st).bd k)) (nx : ∀ d st' S' a H', Rel K C y G' ((d, a) :: W') S' H' σ st' → P (k d st') → Q (.ref a) H') : te σ H Q := by
  refine r y G' W' S H σ st Q R ?_
  generalize m st = o at h ⊢
  cases o with
  | ok d st' => exact fun S' v H' R' => nx d st' S' v H' R' h
  | err c fs st' => exact ip.er w h
  | bad => exact ip.b h
theorem RT.u {tt : TT} {m : MS → Out Bool} {Q : Bool → Hp → Prop} (r : RT K C E tt m) {k : Bool → MS → β} (ip : IP K C E y G W σ P) (w : Wk K C y G W G' W') (R : Rel K C y G' W' S H σ st) (h : P ((m st).bd k)) (nx : ∀ b st' S' H', Rel K C y G' W' S' H' σ st' → P (k b st') → Q b H') : tt σ H Q := by
  refine r y G' W' S H σ st Q R ?_
  generalize m st = o at h ⊢
  cases o with
  | ok d st' => exact fun S' H' R' => nx d st' S' H' R' h
  | err c fs st' => exact ip.er w h
  | bad => exact ip.b h
theorem RA.u {sp : List (Option Nat)} {ta : TA} {m : MS → Out (List PyData)} {Q : List V → Hp → Prop} (r : RA K C E sp ta m) {k : List PyData → MS → β} (ip : IP K C E y G W σ P) (w : Wk K C y G W G' W') (R : Rel K C y G' W' S H σ st) (h : P ((m st).bd k)) (nx : ∀ ds st' S' vs g H', AC σ sp ds vs g → Rel K C y (g ++ G') W' S' H' σ st' → P (k ds st') → Q vs H') : ta σ H Q := by
  refine r y G' W' S H σ st Q R ?_
  generalize m st = o at h ⊢
  cases o with
  | ok d st' => exact fun S' vs g H' ac R' => nx d st' S' vs g H' ac R' h
  | err c fs st' => exact ip.er w h
  | bad => exact ip.b h
theorem RI.u {wi : TI} {m : MS → Out (List PyData)} {Q : It → Hp → Prop} (r : RI K C E wi m) {k : List PyData → MS → β} (ip : IP K C E y G W σ P) (w : Wk K C y G W G' W') (R : Rel K C y G' W' S H σ st) (h : P ((m st).bd k)) (nx : ∀ ds st' S' H' J g, Rel K C y (g ++ G') W' S' H' σ st' → Items K J g ds → P (k ds st') → Q J H') : wi σ H Q := by
  refine r y G' W' S H σ st Q R ?_
  generalize m st = o at h ⊢
  cases o with
  | ok d st' => exact fun S' H' J g R' it => nx d st' S' H' J g R' it h
  | err c fs st' => exact ip.er w h
  | bad => exact ip.b h
end
/-! ### of one mode the other -/
theorem RE.sb (r : RE K C E .s te m) : RE K C E .b te m := by
  intro y G W S H σ st Q R h
  refine r y G W S H σ st Q R ?_
  generalize m st = o at h ⊢
  cases o with
  | ok d st' => exact fun S' v H' R' => h S' v H' R'.tl (.inl R'.hd)
  | err c fs st' => exact h
  | bad => exact h
theorem RE.fs (r : RE K C E .f te m) : RE K C E .s te m := by
  intro y G W S H σ st Q R h
  refine r y G W S H σ st Q R ?_
  generalize m st = o at h ⊢
  cases o with
  | ok d st' =>
    intro S' v H' R'
    obtain ⟨S2, R2⟩ := R'.frT
    exact h S2 _ H' R2
  | err c fs st' => exact h
  | bad => exact h
theorem RE.fb (r : RE K C E .f te m) : RE K C E .b te m := r.fs.sb
/-! ### ends -/
theorem post_at (R : Rel K C y G W S H σ st) (h : Post K C E y G W σ .s (.ok d st) Q) (hd : Dv K S H d v) : Q v H := h S v H (R.addG hd)
theorem post_tup {ds : List PyData} {vs : List V} (R : Rel K C y G W S H σ st) (h : Post K C E y G W σ .s (.ok (.tuple ds) st) Q) (hp : H p = none) (r : Dvs K S H ds vs) : Q (.ref p) (upd H p (.tup vs)) :=
  h S _ _ ((R.new hp).addG ⟨p, vs, rfl, .inl ⟨(R.fresh hp).2, upd_same⟩, (Stp.new0 hp).dvs r⟩)
theorem post_lst {ds : List PyData} {vs : List V} (R : Rel K C y G W S H σ st) (h : Post K C E y G W σ .s (.ok (.list ds) st) Q) (hp : H p = none) (r : Dvs K S H ds vs) : Q (.ref p) (upd H p (.lst vs)) :=
  h S _ _ ((R.new hp).addG ⟨p, vs, rfl, ⟨(R.fresh hp).2, upd_same⟩, (Stp.new0 hp).dvs r⟩)
theorem post_lstF {ds : List PyData} {vs : List V} (R : Rel K C y G W S H σ st) (h : Post K C E y G W σ .f (.ok (.list ds) st) Q) (hp : H p = none) (r : Dvs K S H ds vs) : Q (.ref p) (upd H p (.lst vs)) :=
  h _ _ _ (R.newT hp (.inl ⟨ds, vs, rfl, upd_same, (Stp.new hp).dvs r⟩))
/-! ### what data is, read alone -/
theorem BoV.lst {ds : List PyData} (h : BoV K S H (.list ds) v) : ∃ a vs, v = .ref a ∧ H a = some (.lst vs) ∧ Dvs K S H ds vs := by
  rcases h with ⟨a, vs, e, ⟨_, g⟩, r⟩ | ⟨a, e, ⟨ds', vs, e', g, r⟩ | ⟨ks, vs, e', _⟩⟩
  · exact ⟨a, vs, e, g, r⟩
  · cases e'; exact ⟨a, vs, e, g, r⟩
  · cases e'
theorem BoV.tup {ds : List PyData} (h : BoV K S H (.tuple ds) v) : ∃ a vs, v = .ref a ∧ SqT K H a vs ∧ Dvs K S H ds vs := by
  rcases h with ⟨a, vs, e, g, r⟩ | ⟨a, e, ⟨ds', vs, e', g, r⟩ | ⟨ks, vs, e', _⟩⟩
  · exact ⟨a, vs, e, g.elim (fun g => .of g.2) .inr, r⟩
  · cases e'
  · cases e'
theorem BoV.dic {ks : List (PyData × PyData)} (h : BoV K S H (.dict ks) v) : ∃ a vs, v = .ref a ∧ DicAt H a vs ∧ Dks K S H ks vs := by
  rcases h with ⟨a, vs, e, _, g, r⟩ | ⟨a, e, ⟨ds', vs, e', g, r⟩ | ⟨ks', vs, e', g, r⟩⟩
  · exact ⟨a, vs, e, g, r⟩
  · cases e'
  · cases e'; exact ⟨a, vs, e, g, r⟩
theorem BoV.int {i : Int} (h : BoV K S H (.int i) v) : v = .int i := by
  rcases h with h | ⟨a, e, ⟨ds', vs, e', g, r⟩ | ⟨ks', vs, e', g, r⟩⟩
  · exact h
  · cases e'
  · cases e'
theorem BoV.str {i : Str} (h : BoV K S H (.str i) v) : v = .str i := by
  rcases h with h | ⟨a, e, ⟨ds', vs, e', g, r⟩ | ⟨ks', vs, e', g, r⟩⟩
  · exact h
  · cases e'
  · cases e'
theorem BoV.bl {i : Bool} (h : BoV K S H (.bool i) v) : v = .bl i := by
  rcases h with h | ⟨a, e, ⟨ds', vs, e', g, r⟩ | ⟨ks', vs, e', g, r⟩⟩
  · exact h
  · cases e'
  · cases e'
theorem BoV.non (h : BoV K S H .none v) : v = .non := by
  rcases h with h | ⟨a, e, ⟨ds', vs, e', g, r⟩ | ⟨ks', vs, e', g, r⟩⟩
  · exact h
  · cases e'
  · cases e'
theorem BoV.dp (n : d.hasDict = false) (h : BoV K S H d v) : Dp K H v d := by
  rcases h with h | ⟨a, e, ⟨ds', vs, e', g, r⟩ | ⟨ks', vs, e', g, r⟩⟩
  · exact Dv.dp d v n h
  · subst e e'
    exact .lst (.of g) (Dvs.dp _ _ n r)
  · subst e'; cases n
theorem Dv.ty (h : Dv K S H d v) : TyX K H v (.type (tyD d)) := by
  cases d with
  | none => cases h; exact .base .non
  | bool b => cases h; exact .base (.bl b)
  | int b => cases h; exact .base (.int b)
  | str b => cases h; exact .base (.str b)
  | list b => obtain ⟨a, vs, e, ⟨n, g⟩, r⟩ := h; subst e; exact .base (.lst g)
  | tuple b =>
    obtain ⟨a, vs, e, ⟨n, g⟩ | ⟨o, its, n, h1, h2, h3⟩, r⟩ := h
    · subst e; exact .base (.tup g)
    · subst e; exact .kTuple h1 h2
  | dict b =>
    obtain ⟨a, vs, e, n, g, r⟩ := h
    subst e
    rcases g with ⟨ks, g, _⟩ | ⟨ks, g, _⟩
    · exact .base (.dK g)
    · exact .base (.dT g)
theorem BoV.ty (h : BoV K S H d v) : TyX K H v (.type (tyD d)) := by
  rcases h with h | ⟨a, e, ⟨ds', vs, e', g, r⟩ | ⟨ks', vs, e', g, r⟩⟩
  · exact h.ty
  · subst e e'; exact .base (.lst g)
  · subst e e'
    rcases g with ⟨ks, g, _⟩ | ⟨ks, g, _⟩
    · exact .base (.dK g)
    · exact .base (.dT g)
/-! ### names, constants -/
/-- a shared value of a name; a thing of one's own is shared from now on -/
def mV (i : Nat) (st : MS) : Out PyData := match st[i]? with
  | some (some (.sh d)) => .ok d st
  | some (some (.ow d)) => .ok d (st.set i (some (.sh d)))
  | _ => .bad
def mB (i : Nat) (st : MS) : Out PyData := match st[i]? with
  | some (some c) => ofO c.rd st
  | _ => .bad
def mMv (i : Nat) (st : MS) : Out PyData := match st[i]? with
  | some (some (.ow d)) => .ok d (st.set i none)
  | _ => .bad
def mK (d : PyData) (st : MS) : Out PyData := .ok d st
theorem Rel.shV (R : Rel K C y G W S H σ st) (h : st[i]? = some (some (.sh d))) : ∃ v, σ[i]? = some (some v) ∧ Dv K S H d v := R.cell i _ h
theorem re_v (hi : i < C.n := by decide) (hp : C.ps.contains i = false := by rfl) : RE K C E .s (tVar i) (mV i) := by
  intro y G W S H σ st Q R h
  unfold mV at h
  split at h
  · rename_i d e
    obtain ⟨v, e1, r⟩ := R.shV e
    exact ⟨v, e1, post_at R h r⟩
  · rename_i d e
    obtain ⟨a, S', e1, R'⟩ := R.frV hi hp e
    exact ⟨_, e1, h S' _ H R'⟩
  · exact h.elim
theorem re_b : RE K C E .b (tVar i) (mB i) := by
  intro y G W S H σ st Q R h
  unfold mB at h
  split at h
  · rename_i c e
    cases hc : c.rd with
    | none => rw [hc] at h; exact h.elim
    | some d =>
      rw [hc] at h
      obtain ⟨v, e1, r⟩ := R.bo e hc
      exact ⟨v, e1, h S v H R r⟩
  · exact h.elim
theorem re_mv (hi : i < C.n := by decide) (hp : C.ps.contains i = false := by rfl) : RE K C E .f (tVar i) (mMv i) := by
  intro y G W S H σ st Q R h
  unfold mMv at h
  split at h
  · rename_i d e
    obtain ⟨a, e1, R'⟩ := R.takeV hi hp e
    exact ⟨_, e1, h S a H R'⟩
  · exact h.elim
theorem re_c (hd : ∀ S H, Dv K S H d v := by exact fun _ _ => rfl) : RE K C E .s (tC v) (mK d) := fun y G W S H σ st Q R h => post_at R h (hd S H)
/-! ### operators -/
def OpOk (K : PySem.W.Frag) (C : Ct) (md : Md) (r : R2) (f : PyData → PyData → Option PyData) : Prop := ∀ E y G W S H σ st x z dx dz Q, Rel K C y G W S H σ st → BoV K S H dx x → BoV K S H dz z → Post K C E y G W σ md (ofO (f dx dz) st) Q → r x z H Q
def mOp (f : PyData → PyData → Option PyData) (ma mb : MS → Out PyData) (st : MS) : Out PyData := (ma st).bd fun x s1 => (mb s1).bd fun z s2 => ofO (f x z) s2
def mOpB (f : PyData → PyData → Option PyData) (i : Nat) (mb : MS → Out PyData) (st : MS) : Out PyData := match st[i]? with
  | some (some _) => (mb st).bd fun z s2 => (mB i s2).bd fun x s3 => ofO (f x z) s3
  | _ => .bad
theorem post_w {o : Out PyData} (w : Wk K C y G W G' W') (hg : ∀ g ∈ G, g ∈ G') (hw : W = W') (h : Post K C E y G W σ md o Q) : Post K C E y G' W' σ md o Q := by
  subst hw
  cases o with
  | ok d st =>
    cases md with
    | s => exact fun S v H R => h S v H (R.subG fun g m => (List.mem_cons.mp m).elim (fun e => e ▸ .head _) fun m => .tail _ (hg g m))
    | b => exact fun S v H R => h S v H (R.subG hg)
    | f => exact fun S v H R => h S v H (R.subG hg)
  | err c fs st => cases md <;> exact fun S H cl dx R => h S H cl dx (w _ _ _ _ R)
  | bad => cases md <;> exact h
theorem re_op {r : R2} {f : PyData → PyData → Option PyData} (ra : RE K C E .s ta ma) (rb : RE K C E .b tb mb) (ok : OpOk K C md r f) : RE K C E md (tOp r ta tb) (mOp f ma mb) := by
  intro y G W S H σ st Q R h
  show ta σ H _
  refine ra.uS (P := fun o => Post K C E y G W σ md o Q) ipP .rfl R h fun dx s1 S1 x H1 R1 h1 => ?_
  refine rb.uB (P := fun o => Post K C E y G W σ md o Q) ipP (.g .rfl) R1 h1 fun dz s2 S2 z H2 R2 b2 h2 => ?_
  exact ok E y G W S2 H2 σ s2 x z dx dz Q R2.tl (.inl R2.hd) b2 h2
theorem re_opB {r : R2} {f : PyData → PyData → Option PyData} (rb : RE K C E .b tb mb) (ok : OpOk K C md r f) : RE K C E md (tOp r (tVar i) tb) (mOpB f i mb) := by
  intro y G W S H σ st Q R h
  unfold mOpB at h
  split at h
  · rename_i c e
    obtain ⟨v, e1, r⟩ := R.cell i _ e
    refine ⟨v, e1, ?_⟩
    refine rb.uB (P := fun o => Post K C E y G W σ md o Q) ipP .rfl R h fun dz s2 S2 z H2 R2 b2 h2 => ?_
    have h2 : Post K C E y G W σ md ((mB i s2).bd fun x s3 => ofO (f x dz) s3) Q := h2
    unfold mB at h2
    split at h2
    · rename_i c' e'
      cases hc : c'.rd with
      | none => rw [hc] at h2; cases md <;> exact h2.elim
      | some dx =>
        rw [hc] at h2
        obtain ⟨v', e2, r2⟩ := R2.bo e' hc
        rw [e1] at e2; cases e2
        exact ok E y G W S2 H2 σ s2 v z dx dz Q R2 r2 b2 h2
    · cases md <;> exact h2.elim
  · cases md <;> exact h.elim
end
end MV

set_option Elab.async false
set_option linter.all false
set_option maxRecDepth 100000
set_option maxHeartbeats 2000000
/-! VD: operators, by data. -/
namespace MV
open PySem PySem.Spec PyProof.Rows L2 FR
def LIM : Nat := 16777216
theorem lim_eq : sizeLine = LIM := sizeLine_eq
def big (i : Int) : Bool := !(decide (-(2 ^ 64) < i) && decide (i < 2 ^ 64))
def addD : PyData → PyData → Option PyData
  | .int i, .int j => some (.int (i + j))
  | .str x, .str z => if x.length + z.length ≤ LIM then some (.str (x ++ z)) else none
  | .list xs, .list zs => if xs.length + zs.length ≤ LIM then some (.list (xs ++ zs)) else none
  | .tuple xs, .tuple zs => if xs.length + zs.length ≤ LIM then some (.tuple (xs ++ zs)) else none
  | _, _ => none
def subD : PyData → PyData → Option PyData
  | .int i, .int j => some (.int (i - j))
  | _, _ => none
def mulD : PyData → PyData → Option PyData
  | .int i, .int j => if big i = true ∧ big j = true then none else some (.int (i * j))
  | .str ⟨⟨[c]⟩⟩, .int k => if 0 ≤ k ∧ k ≤ 1000 then some (.str ⟨(List.replicate k.toNat c).toArray⟩) else none
  | .list xs, .int k => if -(2 ^ 63) ≤ k ∧ k < 2 ^ 63 ∧ xs.length * k.toNat ≤ LIM then some (.list (List.replicate k.toNat xs).flatten) else none
  | .tuple xs, .int k => if xs ≠ [] ∧ 2 ≤ k ∧ k ≤ 1000 ∧ xs.length ≤ 1000 then some (.tuple (List.replicate k.toNat xs).flatten) else none
  | _, _ => none
def fdivD : PyData → PyData → Option PyData
  | .int i, .int j => if 0 < j ∧ j < 1073741824 then some (.int (i / j)) else none
  | _, _ => none
def modD : PyData → PyData → Option PyData
  | .int i, .int j => if 0 < j then some (.int (i % j)) else none
  | _, _ => none
def powD : PyData → PyData → Option PyData
  | .int i, .int j => if 0 ≤ j ∧ j ≤ 1000000 ∧ i.natAbs < 2 ^ 64 then some (.int (i ^ j.toNat)) else none
  | _, _ => none
def shlD : PyData → PyData → Option PyData
  | .int i, .int j => if 0 ≤ j ∧ j ≤ 1000000 ∧ i.natAbs < 2 ^ 64 then some (.int (i * 2 ^ j.toNat)) else none
  | _, _ => none
def shrD : PyData → PyData → Option PyData
  | .int i, .int j => if 0 ≤ j then some (.int (i / 2 ^ j.toNat)) else none
  | _, _ => none
def andD : PyData → PyData → Option PyData
  | .int i, .int j => some (.int (Builtin.bitAnd i j))
  | _, _ => none
/-- which of two texts is less, by signs -/
def ltS (x z : Str) : Bool := decide (x.cps.toList < z.cps.toList)
def intsD : List PyData → Option (List Int)
  | [] => some []
  | .int i :: r => (intsD r).map (i :: ·)
  | _ :: _ => none
def cmpD (fi : Int → Int → Bool) (fs : Str → Str → Bool) : PyData → PyData → Option PyData
  | .int i, .int j => some (.bool (fi i j))
  | .str x, .str z => some (.bool (fs x z))
  | _, _ => none
def ltD := cmpD (fun i j => decide (i < j)) ltS
def leD := cmpD (fun i j => decide (i ≤ j)) (fun x z => !ltS z x)
def gtD := cmpD (fun i j => decide (j < i)) (fun x z => ltS z x)
def geD := cmpD (fun i j => decide (j ≤ i)) (fun x z => !ltS x z)
def atomD : PyData → Bool
  | .none | .bool _ | .int _ | .str _ => true
  | _ => false
/-- what can be compared -/
def eqOk (d e : PyData) : Bool := (atomD d && atomD e) || (SeqAt.shaped d && SeqAt.shaped e)
def eqD (d e : PyData) : Option PyData := if eqOk d e = true then some (.bool (PyData.eqv d e)) else none
def neD (d e : PyData) : Option PyData := if eqOk d e = true then some (.bool (!PyData.eqv d e)) else none
def isTupD : PyData → Bool
  | .tuple _ => true
  | _ => false
/-- x in s -/
def inB : PyData → PyData → Option Bool
  | .str ⟨⟨[c]⟩⟩, .str z => some (decide (c ∈ z.cps.toList))
  | .str x, .str z => some (!(Builtin.Str.occurrences z x 0 z.length 1).isEmpty)
  | d, .list ds => if atomD d && ds.all atomD then some (ds.any fun e => PyData.eqv e d) else none
  | d, .tuple ds => if atomD d && ds.all atomD then some (ds.any fun e => PyData.eqv e d) else none
  | _, _ => none
def inD (d e : PyData) : Option PyData := (inB d e).map .bool
def ninD (d e : PyData) : Option PyData := (inB d e).map fun b => .bool (!b)
def isNone : PyData → Bool
  | .none => true
  | _ => false
def isND (d e : PyData) : Option PyData := match e with
  | .none => some (.bool (isNone d))
  | _ => none
def isntND (d e : PyData) : Option PyData := match e with
  | .none => some (.bool (!isNone d))
  | _ => none
def isBD : PyData → PyData → Option PyData
  | .bool a, .bool b => some (.bool (decide (a = b)))
  | _, _ => none
def isntBD : PyData → PyData → Option PyData
  | .bool a, .bool b => some (.bool (!decide (a = b)))
  | _, _ => none
/-- x[i] -/
def ixD : PyData → PyData → Option PyData
  | .list ds, .int i => atI ds i
  | .tuple ds, .int i => atI ds i
  | .str z, .int i => if z.length ≤ LIM then (atI z.cps.toList i).map fun c => .str ⟨#[c]⟩ else none
  | _, _ => none
section
variable {K : PySem.W.Frag} {C : Ct} {E : WX} {y : Dy} {G G' : List (PyData × V)} {W W' : List (PyData × Addr)} {S S' : List Addr} {H H' H0 : Hp} {σ : L2.St} {st st' : MS} {d d' : PyData} {a p : Addr} {v x z : V} {i : Nat} {md : Md} {Q : VK} {te ta tb tc : TE} {m ma mb mc : MS → Out PyData}
theorem ofO_none (h : Post K C E y G W σ md (ofO none st) Q) : False := by cases md <;> exact h
theorem post_if {c : Prop} [Decidable c] (h : Post K C E y G W σ md (ofO (if c then some d else none) st) Q) : c ∧ Post K C E y G W σ md (.ok d st) Q := by
  by_cases q : c
  · rw [if_pos q] at h; exact ⟨q, h⟩
  · rw [if_neg q] at h; exact (ofO_none h).elim
abbrev rAddG (K : PySem.W.Frag) : R2 := fun x z H Q => rAddI x z H Q ∨ rAddStr x z H Q ∨ rCat x z H Q ∨ rCatA K x z H Q
abbrev rLtStr : R2 := fun x y H Q => ∃ i j, x = .str i ∧ y = .str j ∧ Q (.bl (decide (i.cps.toList < j.cps.toList))) H
abbrev rLeStr : R2 := fun x y H Q => ∃ i j, x = .str i ∧ y = .str j ∧ Q (.bl (!decide (j.cps.toList < i.cps.toList))) H
abbrev rGtStr : R2 := fun x y H Q => ∃ i j, x = .str i ∧ y = .str j ∧ Q (.bl (decide (j.cps.toList < i.cps.toList))) H
abbrev rGeStr : R2 := fun x y H Q => ∃ i j, x = .str i ∧ y = .str j ∧ Q (.bl (!decide (i.cps.toList < j.cps.toList))) H
abbrev rShlI : R2 := rI CPow fun i j => .int (i * 2 ^ j.toNat)
abbrev rShrI : R2 := rI (fun _ j => 0 ≤ j) fun i j => .int (i / 2 ^ j.toNat)
abbrev rAndI : R2 := rI0 fun i j => .int (Builtin.bitAnd i j)
abbrev orR (r r' : R2) : R2 := fun x z H Q => r x z H Q ∨ r' x z H Q
section
variable {X : Cx}
theorem op_addG : OpR X (binaryOp .Add) (rAddG X.K) := op_add.or (op_add_str.or (op_cat.or op_catA))
theorem op_mulG : OpR X (binaryOp .Mult) (orR rMulI (orR rRepS (orR rRep (rRepT X.K)))) := op_mul.or (op_repS.or (op_rep.or op_repT))
theorem op_ltG : OpR X (compareOp .Lt) (orR rLtI rLtStr) := op_lt.or op_lt_str
theorem op_leG : OpR X (compareOp .LtE) (orR rLeI rLeStr) := op_le.or op_le_str
theorem op_gtG : OpR X (compareOp .Gt) (orR rGtI rGtStr) := op_gt.or op_gt_str
theorem op_geG : OpR X (compareOp .GtE) (orR rGeI rGeStr) := op_ge.or op_ge_str
theorem op_eqG (hu : X.A.units + 64 < cLine) : OpR X (compareOp .Eq) (orR rEq (rEqD X.K)) := op_eq.or (op_eqD hu)
theorem op_neG (hu : X.A.units + 64 < cLine) : OpR X (compareOp .NotEq) (orR rNe (rNeD X.K)) := op_ne.or (op_neD hu)
theorem op_inG : OpR X (compareOp .In) (orR rInS (orR rInStr (rIn X.K false))) := op_in_sign.or (op_in_str.or op_in_seq)
theorem op_ninG : OpR X (compareOp .NotIn) (orR rNotInS (orR rNotInStr (rIn X.K true))) := op_notIn_sign.or (op_notin_str.or op_notIn_seq)
end
theorem BoV.tupDv {ds : List PyData} (h : BoV K S H (.tuple ds) v) : Dv K S H (.tuple ds) v := by
  rcases h with h | ⟨a, e, ⟨ds', vs, e', g, r⟩ | ⟨ks, vs, e', _⟩⟩
  · exact h
  · cases e'
  · cases e'
theorem Dvs.nilD {ds : List PyData} (r : Dvs K S H ds []) : ds = [] := List.length_eq_zero_iff.mp r.length.symm
theorem ok_addG : OpOk K C .s (rAddG K) addD := by
  intro E y G W S H σ st x z dx dz Q R bx bz h
  cases dx <;> cases dz <;> try exact h.elim
  · exact .inl ⟨_, _, bx.int, bz.int, post_at R h rfl⟩
  · obtain ⟨l, h⟩ := post_if h
    exact .inr (.inl ⟨_, _, bx.str, bz.str, by rw [lim_eq]; exact l, post_at R h rfl⟩)
  · obtain ⟨l, h⟩ := post_if h
    obtain ⟨a, vs, rfl, ga, ra⟩ := bx.lst
    obtain ⟨b, ws, rfl, gb, rb⟩ := bz.lst
    exact .inr (.inr (.inl ⟨a, b, vs, ws, rfl, rfl, ga, gb, by rw [lim_eq, ra.length, rb.length]; exact l, fun p hp => post_lst R h hp (ra.app rb)⟩))
  · obtain ⟨l, h⟩ := post_if h
    obtain ⟨a, vs, rfl, ga, ra⟩ := bx.tup
    obtain ⟨b, ws, rfl, gb, rb⟩ := bz.tup
    refine .inr (.inr (.inr ⟨a, b, vs, ws, rfl, rfl, ga, gb, by rw [lim_eq, ra.length, rb.length]; exact l, fun e => ?_, fun _ e => ?_, fun _ _ p hp => post_tup R h hp (ra.app rb)⟩))
    · subst e
      have q := ra.nilD
      subst q
      exact post_at R h bz.tupDv
    · subst e
      have q := rb.nilD
      subst q
      rw [List.append_nil] at h
      exact post_at R h bx.tupDv
def catD : PyData → PyData → Option PyData
  | .list xs, .list zs => if xs.length + zs.length ≤ LIM then some (.list (xs ++ zs)) else none
  | _, _ => none
/-- two lists put together, a new one -/
theorem ok_catF : OpOk K C .f rCat catD := by
  intro E y G W S H σ st x z dx dz Q R bx bz h
  cases dx <;> cases dz <;> try exact h.elim
  obtain ⟨l, h⟩ := post_if h
  obtain ⟨a, vs, rfl, ga, ra⟩ := bx.lst
  obtain ⟨b, ws, rfl, gb, rb⟩ := bz.lst
  exact ⟨a, b, vs, ws, rfl, rfl, ga, gb, by rw [lim_eq, ra.length, rb.length]; exact l, fun p hp => post_lstF R h hp (ra.app rb)⟩
theorem Dvs.rep {ds : List PyData} {vs : List V} (h : Dvs K S H ds vs) : ∀ n : Nat, Dvs K S H (List.replicate n ds).flatten (List.replicate n vs).flatten
  | 0 => rfl
  | n + 1 => by
    rw [List.replicate_succ, List.replicate_succ, List.flatten_cons, List.flatten_cons]
    exact h.app (Dvs.rep h n)
def repD : PyData → PyData → Option PyData
  | .list xs, .int k => if -(2 ^ 63) ≤ k ∧ k < 2 ^ 63 ∧ xs.length * k.toNat ≤ LIM then some (.list (List.replicate k.toNat xs).flatten) else none
  | _, _ => none
theorem ok_repF : OpOk K C .f rRep repD := by
  intro E y G W S H σ st x z dx dz Q R bx bz h
  cases dx <;> cases dz <;> try exact h.elim
  obtain ⟨⟨l1, l2, l3⟩, h⟩ := post_if h
  obtain ⟨a, vs, rfl, ga, ra⟩ := bx.lst
  exact ⟨a, _, vs, rfl, bz.int, ga, l1, l2, by rw [lim_eq, ra.length]; exact l3, fun p hp => post_lstF R h hp (ra.rep _)⟩
theorem ok_int2 {r : R2} {f : PyData → PyData → Option PyData} (hf : ∀ dx dz d, f dx dz = some d → ∃ i j, dx = .int i ∧ dz = .int j ∧ ∃ v, (∀ S H, Dv K S H d v) ∧ ∀ H Q, Q v H → r (.int i) (.int j) H Q) : OpOk K C .s r f := by
  intro E y G W S H σ st x z dx dz Q R bx bz h
  cases e : f dx dz with
  | none => rw [e] at h; exact h.elim
  | some d =>
    rw [e] at h
    obtain ⟨i, j, e1, e2, v, hd, hr⟩ := hf _ _ _ e
    subst e1 e2
    rw [bx.int, bz.int]
    exact hr H Q (post_at R h (hd S H))
theorem ok_sub : OpOk K C .s rSubI subD := ok_int2 fun dx dz d e => by
  cases dx <;> cases dz <;> try cases e
  exact ⟨_, _, rfl, rfl, _, fun _ _ => rfl, fun H Q q => ⟨_, _, rfl, rfl, q⟩⟩
theorem some_if {α : Type} {c : Prop} [Decidable c] {a b : α} (h : (if c then some a else none) = some b) : c ∧ a = b := by
  by_cases q : c
  · rw [if_pos q] at h; exact ⟨q, Option.some.inj h⟩
  · rw [if_neg q] at h; cases h
theorem ok_fdiv : OpOk K C .s rFdivI fdivD := ok_int2 fun dx dz d e => by
  cases dx <;> cases dz <;> try cases e
  obtain ⟨c, e⟩ := some_if e
  subst e
  exact ⟨_, _, rfl, rfl, _, fun _ _ => rfl, fun H Q q => ⟨_, _, rfl, rfl, c, q⟩⟩
theorem ok_mod : OpOk K C .s rModI modD := ok_int2 fun dx dz d e => by
  cases dx <;> cases dz <;> try cases e
  obtain ⟨c, e⟩ := some_if e
  subst e
  exact ⟨_, _, rfl, rfl, _, fun _ _ => rfl, fun H Q q => ⟨_, _, rfl, rfl, c, q⟩⟩
theorem ok_pow : OpOk K C .s rPowI powD := ok_int2 fun dx dz d e => by
  cases dx <;> cases dz <;> try cases e
  obtain ⟨c, e⟩ := some_if e
  subst e
  exact ⟨_, _, rfl, rfl, _, fun _ _ => rfl, fun H Q q => ⟨_, _, rfl, rfl, c, q⟩⟩
theorem ok_shl : OpOk K C .s rShlI shlD := ok_int2 fun dx dz d e => by
  cases dx <;> cases dz <;> try cases e
  obtain ⟨c, e⟩ := some_if e
  subst e
  exact ⟨_, _, rfl, rfl, _, fun _ _ => rfl, fun H Q q => ⟨_, _, rfl, rfl, c, q⟩⟩
theorem ok_shr : OpOk K C .s rShrI shrD := ok_int2 fun dx dz d e => by
  cases dx <;> cases dz <;> try cases e
  obtain ⟨c, e⟩ := some_if e
  subst e
  exact ⟨_, _, rfl, rfl, _, fun _ _ => rfl, fun H Q q => ⟨_, _, rfl, rfl, c, q⟩⟩
theorem ok_and : OpOk K C .s rAndI andD := ok_int2 fun dx dz d e => by
  cases dx <;> cases dz <;> try cases e
  exact ⟨_, _, rfl, rfl, _, fun _ _ => rfl, fun H Q q => ⟨_, _, rfl, rfl, q⟩⟩
theorem big_mul {i j : Int} (h : ¬ (big i = true ∧ big j = true)) : CMul i j := by
  unfold big at h
  simp at h
  unfold CMul
  by_cases q : -(2 ^ 64) < i ∧ i < 2 ^ 64
  · exact .inl q
  · refine .inr ?_
    have := h (by omega)
    exact ⟨by omega, by omega⟩
theorem ok_mul : OpOk K C .s (orR rMulI (orR rRepS (orR rRep (rRepT K)))) mulD := by
  intro E y G W S H σ st x z dx dz Q R bx bz h
  unfold mulD at h
  split at h
  · split at h
    · exact h.elim
    · rename_i i j c
      rw [bx.int, bz.int]
      exact .inl ⟨_, _, rfl, rfl, big_mul c, post_at R h rfl⟩
  · obtain ⟨⟨l1, l2⟩, h⟩ := post_if h
    exact .inr (.inl ⟨_, Int.toNat _, bx.str, by rw [bz.int, Int.toNat_of_nonneg l1], by omega, post_at R h rfl⟩)
  · obtain ⟨⟨l1, l2, l3⟩, h⟩ := post_if h
    obtain ⟨a, vs, rfl, ga, ra⟩ := bx.lst
    exact .inr (.inr (.inl ⟨a, _, vs, rfl, bz.int, ga, l1, l2, by rw [lim_eq, ra.length]; exact l3, fun p hp => post_lst R h hp (ra.rep _)⟩))
  · obtain ⟨⟨l1, l2, l3, l4⟩, h⟩ := post_if h
    obtain ⟨a, vs, rfl, ga, ra⟩ := bx.tup
    refine .inr (.inr (.inr ⟨a, _, vs, rfl, bz.int, ga, fun e => l1 (List.length_eq_zero_iff.mp (by rw [← ra.length, e]; rfl)), l2, l3, by rw [ra.length]; exact l4, fun p hp => post_tup R h hp (ra.rep _)⟩))
  · exact h.elim
theorem ok_cmp {r r' : R2} {fi : Int → Int → Bool} {fs : Str → Str → Bool} (hi : ∀ i j H (Q : VK), Q (.bl (fi i j)) H → r (.int i) (.int j) H Q) (hs : ∀ i j H (Q : VK), Q (.bl (fs i j)) H → r' (.str i) (.str j) H Q) : OpOk K C .s (orR r r') (cmpD fi fs) := by
  intro E y G W S H σ st x z dx dz Q R bx bz h
  cases dx <;> cases dz <;> try exact h.elim
  · rw [bx.int, bz.int]; exact .inl (hi _ _ _ _ (post_at R h rfl))
  · rw [bx.str, bz.str]; exact .inr (hs _ _ _ _ (post_at R h rfl))
theorem ok_lt : OpOk K C .s (orR rLtI rLtStr) ltD := ok_cmp (fun _ _ _ _ q => ⟨_, _, rfl, rfl, q⟩) (fun _ _ _ _ q => ⟨_, _, rfl, rfl, q⟩)
theorem ok_le : OpOk K C .s (orR rLeI rLeStr) leD := ok_cmp (fun _ _ _ _ q => ⟨_, _, rfl, rfl, q⟩) (fun _ _ _ _ q => ⟨_, _, rfl, rfl, q⟩)
theorem ok_gt : OpOk K C .s (orR rGtI rGtStr) gtD := ok_cmp (fun _ _ _ _ q => ⟨_, _, rfl, rfl, q⟩) (fun _ _ _ _ q => ⟨_, _, rfl, rfl, q⟩)
theorem ok_ge : OpOk K C .s (orR rGeI rGeStr) geD := ok_cmp (fun _ _ _ _ q => ⟨_, _, rfl, rfl, q⟩) (fun _ _ _ _ q => ⟨_, _, rfl, rfl, q⟩)
theorem BoV.at (h : atomD d = true) (b : BoV K S H d v) : v = atV d ∧ ∀ S H, Dv K S H d v := by
  cases d with
  | none => rw [b.non]; exact ⟨rfl, fun _ _ => rfl⟩
  | bool => rw [b.bl]; exact ⟨rfl, fun _ _ => rfl⟩
  | int => rw [b.int]; exact ⟨rfl, fun _ _ => rfl⟩
  | str => rw [b.str]; exact ⟨rfl, fun _ _ => rfl⟩
  | list => cases h
  | tuple => cases h
  | dict => cases h
theorem str_beq {x z : Str} : (x == z) = decide (x = z) := by
  by_cases h : x = z
  · subst h; simp
  · rw [decide_eq_false h]; exact beq_false_of_ne h
theorem scal_eqv {d e : PyData} (hd : atomD d = true) (he : atomD e = true) : (scal (atV d) (atV e) = true ∧ PyData.eqv d e = decide (atV d = atV e)) ∨ (SeqAt.shaped d = true ∧ SeqAt.shaped e = true) := by
  cases d <;> cases e <;> first
    | (cases hd; done) | (cases he; done)
    | (refine .inl ⟨rfl, ?_⟩; simp [PyData.eqv, atV, str_beq]; done)
    | exact .inr ⟨rfl, rfl⟩
theorem noD_all : ∀ ds : List PyData, PyData.canLayAll0 ds = true → PyData.hasDictAll ds = false
  | [], _ => rfl
  | d :: r, h => by
    have h' := Bool.and_eq_true_iff.mp h
    exact Bool.or_eq_false_iff.mpr ⟨go d h'.1, noD_all r h'.2⟩
where go : ∀ d : PyData, d.canLay0 = true → d.hasDict = false
  | .none, _ => rfl
  | .bool _, _ => rfl
  | .int _, _ => rfl
  | .str _, _ => rfl
  | .list ds, h => noD_all ds h
  | .tuple ds, h => noD_all ds h
  | .dict _, h => by cases h
theorem noD_of {d : PyData} (h : SeqAt.shaped d = true) : d.hasDict = false := noD_all.go d (SeqAt.canLay_of_shaped h)
theorem eq_both (h : eqOk d d' = true) (bx : BoV K S H d x) (bz : BoV K S H d' z) : (scal x z = true ∧ PyData.eqv d d' = decide (x = z)) ∨ (Dp K H x d ∧ Dp K H z d' ∧ SeqAt.shaped d = true ∧ SeqAt.shaped d' = true) := by
  have sh : SeqAt.shaped d = true ∧ SeqAt.shaped d' = true → Dp K H x d ∧ Dp K H z d' ∧ SeqAt.shaped d = true ∧ SeqAt.shaped d' = true := fun ⟨a, b⟩ => ⟨bx.dp (noD_of a), bz.dp (noD_of b), a, b⟩
  rcases Bool.or_eq_true_iff.mp h with h | h
  · obtain ⟨h1, h2⟩ := Bool.and_eq_true_iff.mp h
    rw [(bx.at h1).1, (bz.at h2).1]
    rcases scal_eqv h1 h2 with q | q
    · exact .inl q
    · refine .inr ?_
      rw [← (bx.at h1).1, ← (bz.at h2).1]
      exact sh q
  · exact .inr (sh (Bool.and_eq_true_iff.mp h))
theorem ok_eq : OpOk K C .s (orR rEq (rEqD K)) eqD := by
  intro E y G W S H σ st x z dx dz Q R bx bz h
  obtain ⟨l, h⟩ := post_if h
  rcases eq_both l bx bz with ⟨q, e⟩ | ⟨q1, q2, q3, q4⟩
  · exact .inl ⟨q, by rw [← e]; exact post_at R h rfl⟩
  · exact .inr ⟨_, _, q1, q2, q3, q4, post_at R h rfl⟩
theorem ok_ne : OpOk K C .s (orR rNe (rNeD K)) neD := by
  intro E y G W S H σ st x z dx dz Q R bx bz h
  obtain ⟨l, h⟩ := post_if h
  rcases eq_both l bx bz with ⟨q, e⟩ | ⟨q1, q2, q3, q4⟩
  · exact .inl ⟨q, by rw [← e]; exact post_at R h rfl⟩
  · exact .inr ⟨_, _, q1, q2, q3, q4, post_at R h rfl⟩
theorem flat_at : ∀ {d : PyData}, atomD d = true → flatV (atV d) = true
  | .none, _ => rfl
  | .bool _, _ => rfl
  | .int _, _ => rfl
  | .str _, _ => rfl
theorem eqv_at : ∀ {d e : PyData}, atomD d = true → atomD e = true → eqV (atV d) (atV e) = PyData.eqv d e := fun {d e} hd he => by
  cases d <;> cases e <;> first | (cases hd; done) | (cases he; done) | rfl
theorem atoms_of {ds : List PyData} {vs : List V} : ds.all atomD = true → Dvs K S H ds vs → vs = ds.map atV := by
  induction ds generalizing vs with
  | nil => intro _ h; cases h; rfl
  | cons d r ih =>
    rintro h ⟨v, ws, e, h1, h2⟩
    rw [List.all_cons, Bool.and_eq_true] at h
    subst e
    rw [List.map_cons, ← ih h.2 h2, (BoV.at h.1 (.inl h1)).1]
theorem inV_at {ds : List PyData} (hd : atomD d = true) (h : ds.all atomD = true) : flatV (atV d) = true ∧ (ds.map atV).all flatV = true ∧ inV (atV d) (ds.map atV) = ds.any fun e => PyData.eqv e d := by
  refine ⟨flat_at hd, ?_, ?_⟩
  · rw [List.all_map]
    exact List.all_eq_true.mpr fun e m => flat_at (List.all_eq_true.mp h e m)
  · unfold inV
    rw [List.any_map]
    induction ds with
    | nil => rfl
    | cons e r ih =>
      rw [List.all_cons, Bool.and_eq_true] at h
      rw [List.any_cons, List.any_cons, ih h.2]
      show (eqV (atV e) (atV d) || _) = _
      rw [eqv_at h.1 hd]
theorem in_cases {b : Bool} (h : inB d d' = some b) (bx : BoV K S H d x) (bz : BoV K S H d' z) :
    (∃ c w, x = .str ⟨#[c]⟩ ∧ z = .str w ∧ b = decide (c ∈ w.cps.toList)) ∨ (∃ i j, x = .str i ∧ z = .str j ∧ b = !(Builtin.Str.occurrences j i 0 j.length 1).isEmpty) ∨ ∃ p xs, z = .ref p ∧ (SqL K H p xs ∨ SqT K H p xs) ∧ flatV x = true ∧ xs.all flatV = true ∧ b = inV x xs := by
  unfold inB at h
  split at h
  · cases h; exact .inl ⟨_, _, bx.str, bz.str, rfl⟩
  · cases h; exact .inr (.inl ⟨_, _, bx.str, bz.str, rfl⟩)
  · obtain ⟨c, e⟩ := some_if h
    obtain ⟨c1, c2⟩ := Bool.and_eq_true_iff.mp c
    obtain ⟨a, vs, e1, ga, ra⟩ := bz.lst
    have := atoms_of c2 ra
    subst this
    obtain ⟨i1, i2, i3⟩ := inV_at c1 c2
    rw [← (bx.at c1).1] at i1 i3
    exact .inr (.inr ⟨a, _, e1, .inl (.of ga), i1, i2, by rw [i3]; exact e.symm⟩)
  · obtain ⟨c, e⟩ := some_if h
    obtain ⟨c1, c2⟩ := Bool.and_eq_true_iff.mp c
    obtain ⟨a, vs, e1, ga, ra⟩ := bz.tup
    have := atoms_of c2 ra
    subst this
    obtain ⟨i1, i2, i3⟩ := inV_at c1 c2
    rw [← (bx.at c1).1] at i1 i3
    exact .inr (.inr ⟨a, _, e1, .inr ga, i1, i2, by rw [i3]; exact e.symm⟩)
  · cases h
theorem ok_in : OpOk K C .s (orR rInS (orR rInStr (rIn K false))) inD := by
  intro E y G W S H σ st x z dx dz Q R bx bz h
  unfold inD at h
  cases e : inB dx dz with
  | none => rw [e] at h; exact h.elim
  | some b =>
    rw [e] at h
    have q := post_at R h rfl
    rcases in_cases e bx bz with ⟨c, w, e1, e2, e3⟩ | ⟨i, j, e1, e2, e3⟩ | ⟨p, xs, e1, e2, e3, e4, e5⟩
    · exact .inl ⟨c, w, e1, e2, by rw [← e3]; exact q⟩
    · exact .inr (.inl ⟨i, j, e1, e2, by rw [← e3]; exact q⟩)
    · exact .inr (.inr ⟨p, xs, e1, e2, e3, e4, by rw [← e5]; exact q⟩)
theorem ok_nin : OpOk K C .s (orR rNotInS (orR rNotInStr (rIn K true))) ninD := by
  intro E y G W S H σ st x z dx dz Q R bx bz h
  unfold ninD at h
  cases e : inB dx dz with
  | none => rw [e] at h; exact h.elim
  | some b =>
    rw [e] at h
    have q := post_at R h rfl
    rcases in_cases e bx bz with ⟨c, w, e1, e2, e3⟩ | ⟨i, j, e1, e2, e3⟩ | ⟨p, xs, e1, e2, e3, e4, e5⟩
    · exact .inl ⟨c, w, e1, e2, by rw [← e3]; exact q⟩
    · exact .inr (.inl ⟨i, j, e1, e2, by rw [← e3]; exact q⟩)
    · exact .inr (.inr ⟨p, xs, e1, e2, e3, e4, by rw [← e5]; exact q⟩)
theorem isNone_v (b : BoV K S H d x) : decide (x = .non) = isNone d := by
  cases d with
  | none => rw [b.non]; rfl
  | bool => rw [b.bl]; rfl
  | int => rw [b.int]; rfl
  | str => rw [b.str]; rfl
  | list => obtain ⟨a, vs, e, _⟩ := b.lst; rw [e]; rfl
  | tuple => obtain ⟨a, vs, e, _⟩ := b.tup; rw [e]; rfl
  | dict => obtain ⟨a, vs, e, _⟩ := b.dic; rw [e]; rfl
theorem ok_isN : OpOk K C .s rIsNon isND := by
  intro E y G W S H σ st x z dx dz Q R bx bz h
  cases dz <;> try exact h.elim
  exact ⟨bz.non, by rw [isNone_v bx]; exact post_at R h rfl⟩
theorem ok_isntN : OpOk K C .s rNotNon isntND := by
  intro E y G W S H σ st x z dx dz Q R bx bz h
  cases dz <;> try exact h.elim
  exact ⟨bz.non, by rw [isNone_v bx]; exact post_at R h rfl⟩
theorem ok_isB : OpOk K C .s rIsB isBD := by
  intro E y G W S H σ st x z dx dz Q R bx bz h
  cases dx <;> cases dz <;> try exact h.elim
  exact ⟨_, _, bx.bl, bz.bl, post_at R h rfl⟩
theorem ok_isntB : OpOk K C .s rNotB isntBD := by
  intro E y G W S H σ st x z dx dz Q R bx bz h
  cases dx <;> cases dz <;> try exact h.elim
  exact ⟨_, _, bx.bl, bz.bl, post_at R h rfl⟩
theorem Dvs.atI {ds : List PyData} {vs : List V} {i : Int} (r : Dvs K S H ds vs) (h : L2.atI ds i = some d) : ∃ v, L2.atI vs i = some v ∧ Dv K S H d v := by
  unfold L2.atI at h ⊢
  rw [r.length]
  cases q : ixN ds.length i with
  | none => rw [q] at h; cases h
  | some j => rw [q] at h; exact r.to h
theorem ok_ix : OpOk K C .s (rIx K) ixD := by
  intro E y G W S H σ st x z dx dz Q R bx bz h
  unfold ixD at h
  split at h
  · rename_i ds i
    cases e : L2.atI ds i with
    | none => rw [e] at h; exact h.elim
    | some d =>
      rw [e] at h
      obtain ⟨a, vs, rfl, ga, ra⟩ := bx.lst
      obtain ⟨v, e1, r⟩ := ra.atI e
      exact .inl ⟨a, vs, i, v, rfl, bz.int, .of ga, e1, post_at R h r⟩
  · rename_i ds i
    cases e : L2.atI ds i with
    | none => rw [e] at h; exact h.elim
    | some d =>
      rw [e] at h
      obtain ⟨a, vs, rfl, ga, ra⟩ := bx.tup
      obtain ⟨v, e1, r⟩ := ra.atI e
      exact .inr (.inl ⟨a, vs, i, v, rfl, bz.int, ga, e1, post_at R h r⟩)
  · rename_i w i
    split at h
    · rename_i l
      cases e : L2.atI w.cps.toList i with
      | none => rw [e] at h; exact h.elim
      | some c =>
        rw [e] at h
        exact .inr (.inr ⟨w, i, c, bx.str, bz.int, by rw [lim_eq]; exact l, e, post_at R h rfl⟩)
    · exact h.elim
  · exact h.elim
end
end MV

set_option Elab.async false
set_option linter.all false
set_option maxRecDepth 100000
set_option maxHeartbeats 2000000
/-! VE: tests, displays, slices, built-ins, by data. -/
namespace MV
open PySem PySem.Spec PyProof.Rows L2 FR
/-- truth -/
def truB : PyData → Option Bool
  | .none => some false
  | .bool b => some b
  | .int i => some (i != 0)
  | .str z => if z.length ≤ LIM then some ((z.length : Int) != 0) else none
  | .list ds => some (!ds.isEmpty)
  | .tuple ds => some (!ds.isEmpty)
  | .dict _ => none
def boolB : PyData → Option Bool
  | .bool b => some b
  | _ => none
def mTest (m : MS → Out PyData) (st : MS) : Out Bool := (m st).bd fun d s => ofO (boolB d) s
def mTru (m : MS → Out PyData) (st : MS) : Out Bool := (m st).bd fun d s => ofO (truB d) s
def mAnd (a b : MS → Out Bool) (st : MS) : Out Bool := (a st).bd fun c s => if c = true then b s else .ok false s
def mOr (a b : MS → Out Bool) (st : MS) : Out Bool := (a st).bd fun c s => if c = true then .ok true s else b s
def mNot (a : MS → Out Bool) (st : MS) : Out Bool := (a st).bd fun c s => .ok (!c) s
def mNotV (a : MS → Out PyData) (st : MS) : Out PyData := (a st).bd fun d s => ofO ((boolB d).map fun b => .bool (!b)) s
def mAndV (a b : MS → Out PyData) (st : MS) : Out PyData := (a st).bd fun d s => (ofO (boolB d) s).bd fun c s => if c = true then b s else .ok (.bool false) s
def mOrV (a b : MS → Out PyData) (st : MS) : Out PyData := (a st).bd fun d s => (ofO (boolB d) s).bd fun c s => if c = true then .ok (.bool true) s else b s
def mIf (c : MS → Out Bool) (a b : MS → Out PyData) (st : MS) : Out PyData := (c st).bd fun q s => if q = true then a s else b s
def mChain (f g : PyData → PyData → Option PyData) (a b c : MS → Out PyData) (st : MS) : Out PyData :=
  (a st).bd fun x s => (b s).bd fun y s => (ofO ((f x y).bind boolB) s).bd fun q s => if q = true then (c s).bd fun z s => ofO (g y z) s else .ok (.bool false) s
def mU (f : PyData → Option PyData) (a : MS → Out PyData) (st : MS) : Out PyData := (a st).bd fun x s => ofO (f x) s
def mU2 (f : PyData → PyData → Option PyData) (a b : MS → Out PyData) (st : MS) : Out PyData := (a st).bd fun x s => (b s).bd fun y s => ofO (f x y) s
def mNil (st : MS) : Out (List PyData) := .ok [] st
def mCons (a : MS → Out PyData) (r : MS → Out (List PyData)) (st : MS) : Out (List PyData) := (a st).bd fun x s => (r s).bd fun xs s => .ok (x :: xs) s
/-- a name, lent -/
def mConsV (i : Nat) (r : MS → Out (List PyData)) (st : MS) : Out (List PyData) := match st[i]? with
  | some (some _) => (r st).bd fun xs s => .ok (.none :: xs) s
  | _ => .bad
def mTup (a : MS → Out (List PyData)) (st : MS) : Out PyData := (a st).bd fun xs s => if xs.length ≤ LIM then .ok (.tuple xs) s else .bad
def mLst (a : MS → Out (List PyData)) (st : MS) : Out PyData := (a st).bd fun xs s => if xs.length ≤ LIM then .ok (.list xs) s else .bad
def intB : PyData → Option Int
  | .int i => some i
  | _ => none
def mNoP (st : MS) : Out (Option Int) := .ok none st
def mPart (a : MS → Out PyData) (st : MS) : Out (Option Int) := (a st).bd fun x s => ofO ((intB x).map some) s
def cutL {α : Type} (xs : List α) (lo hi : Option Int) : List α := (xs.drop (HT.sIx xs.length 0 lo)).take (HT.sIx xs.length xs.length hi - HT.sIx xs.length 0 lo)
def slD (lo hi : Option Int) : PyData → Option PyData
  | .list ds => some (.list (cutL ds lo hi))
  | .tuple ds => some (.tuple (cutL ds lo hi))
  | .str z => if z.length ≤ LIM then some (.str (cutS z lo hi)) else none
  | _ => none
def slLD (lo hi : Option Int) : PyData → Option PyData
  | .list ds => some (.list (cutL ds lo hi))
  | _ => none
def mSl (f : Option Int → Option Int → PyData → Option PyData) (a : MS → Out PyData) (l u : MS → Out (Option Int)) (st : MS) : Out PyData := (a st).bd fun x s => (l s).bd fun lo s => (u s).bd fun hi s => ofO (f lo hi x) s
def mSlB (f : Option Int → Option Int → PyData → Option PyData) (i : Nat) (l u : MS → Out (Option Int)) (st : MS) : Out PyData := match st[i]? with
  | some (some _) => (l st).bd fun lo s => (u s).bd fun hi s => (mB i s).bd fun x s => ofO (f lo hi x) s
  | _ => .bad
/-- the script cut -/
def mSlW (i : Nat) (l u : MS → Out (Option Int)) (st : MS) : Out PyData := match st[i]? with
  | some (some (.sc (.list _))) => (l st).bd fun lo s => (u s).bd fun hi s => match s[i]? with
    | some (some (.sc (.list ds))) => .ok (.list (cutL ds lo hi)) s
    | _ => .bad
  | _ => .bad
section
variable {K : PySem.W.Frag} {C : Ct} {E : WX} {y : Dy} {G G' : List (PyData × V)} {W W' : List (PyData × Addr)} {S S' : List Addr} {H H' H0 : Hp} {σ : L2.St} {st st' : MS} {d d' : PyData} {a p : Addr} {v x z : V} {i : Nat} {md : Md} {Q : VK} {te ta tb tc : TE} {m ma mb mc : MS → Out PyData} {tt tt' : TT} {mt mt' : MS → Out Bool}
theorem ofO_ex {α β : Type} [EB β] {P : β → Prop} {o : Option α} {k : α → MS → β} (b : ¬ P EB.bad) (h : P ((ofO o st).bd k)) : ∃ a, o = some a ∧ P (k a st) := by
  cases o with
  | none => exact absurd h b
  | some a => exact ⟨a, rfl, h⟩
/-! ### tests -/
theorem rt_test (r : RE K C E .s te m) : RT K C E (tTest te) (mTest m) := by
  intro y G W S H σ st Q R h
  show te σ H _
  refine r.uS (P := fun o => PostT K C E y G W σ o Q) ipT .rfl R h fun d s S1 v H1 R1 h1 => ?_
  cases d <;> try exact h1.elim
  exact ⟨_, R1.hd, h1 S1 H1 R1.tl⟩
theorem rt_b (r : RE K C E .s te m) : RT K C E (tB te) (mTest m) := rt_test r
theorem tru_of {b : Bool} (h : truB d = some b) (bo : BoV K S H d v) : TruV K v H b := by
  cases d with
  | none => rw [bo.non]; cases h; rfl
  | bool c => rw [bo.bl]; cases h; rfl
  | int c => rw [bo.int]; cases h; rfl
  | str c =>
    obtain ⟨l, e⟩ := some_if h
    rw [bo.str]; exact ⟨by rw [lim_eq]; exact l, e.symm⟩
  | list c =>
    obtain ⟨a, vs, e, g, r⟩ := bo.lst
    cases h
    subst e
    refine .inl ⟨vs, .of g, ?_⟩
    have := r.length
    cases vs <;> cases c <;> simp at this ⊢
  | tuple c =>
    obtain ⟨a, vs, e, g, r⟩ := bo.tup
    cases h
    subst e
    refine .inr (.inl ⟨vs, g, ?_⟩)
    have := r.length
    cases vs <;> cases c <;> simp at this ⊢
  | dict c => cases h
theorem rt_tru (r : RE K C E .b te m) : RT K C E (tTru K te) (mTru m) := by
  intro y G W S H σ st Q R h
  show te σ H _
  refine r.uB (P := fun o => PostT K C E y G W σ o Q) ipT .rfl R h fun d s S1 v H1 R1 b1 h1 => ?_
  cases e : truB d with
  | none => rw [e] at h1; exact h1.elim
  | some b => rw [e] at h1; exact ⟨b, tru_of e b1, h1 S1 H1 R1⟩
theorem rt_not (r : RT K C E tt mt) : RT K C E (tNot tt) (mNot mt) := by
  intro y G W S H σ st Q R h
  show tt σ H _
  exact r.u (P := fun o => PostT K C E y G W σ o Q) ipT .rfl R h fun b s S1 H1 R1 h1 => h1 S1 H1 R1
theorem rt_and (r : RT K C E tt mt) (r' : RT K C E tt' mt') : RT K C E (tAnd tt tt') (mAnd mt mt') := by
  intro y G W S H σ st Q R h
  show tt σ H _
  refine r.u (P := fun o => PostT K C E y G W σ o Q) ipT .rfl R h fun b s S1 H1 R1 h1 => ?_
  cases b with
  | true => exact (if_pos rfl).mpr (r' y G W S1 H1 σ s Q R1 h1)
  | false => exact (if_neg Bool.false_ne_true).mpr (h1 S1 H1 R1)
theorem rt_or (r : RT K C E tt mt) (r' : RT K C E tt' mt') : RT K C E (tOr tt tt') (mOr mt mt') := by
  intro y G W S H σ st Q R h
  show tt σ H _
  refine r.u (P := fun o => PostT K C E y G W σ o Q) ipT .rfl R h fun b s S1 H1 R1 h1 => ?_
  cases b with
  | true => exact (if_pos rfl).mpr (h1 S1 H1 R1)
  | false => exact (if_neg Bool.false_ne_true).mpr (r' y G W S1 H1 σ s Q R1 h1)
theorem rt_yes : RT K C E tYes (fun st => .ok true st) := fun y G W S H σ st Q R h => h S H R
/-! ### of tests, values -/
theorem boolB_ex {b : Bool} (h : boolB d = some b) : d = .bool b := by
  cases d <;> try cases h
  rfl
theorem re_not (r : RE K C E .s te m) : RE K C E .s (tNotV te) (mNotV m) := by
  intro y G W S H σ st Q R h
  show te σ H _
  refine r.uS (P := fun o => Post K C E y G W σ .s o Q) ipP .rfl R h fun d s S1 v H1 R1 h1 => ?_
  cases d <;> try exact h1.elim
  exact ⟨_, R1.hd, post_at R1.tl h1 rfl⟩
theorem re_and (r : RE K C E .s ta ma) (r' : RE K C E .s tb mb) : RE K C E .s (tAndV ta tb) (mAndV ma mb) := by
  intro y G W S H σ st Q R h
  show ta σ H _
  refine r.uS (P := fun o => Post K C E y G W σ .s o Q) ipP .rfl R h fun d s S1 v H1 R1 h1 => ?_
  cases d <;> try exact h1.elim
  rename_i b
  refine ⟨b, R1.hd, ?_⟩
  cases b with
  | true => exact (if_pos rfl).mpr (r' y G W S1 H1 σ s Q R1.tl h1)
  | false => exact (if_neg Bool.false_ne_true).mpr (post_at R1.tl h1 rfl)
theorem re_or (r : RE K C E .s ta ma) (r' : RE K C E .s tb mb) : RE K C E .s (tOrV ta tb) (mOrV ma mb) := by
  intro y G W S H σ st Q R h
  show ta σ H _
  refine r.uS (P := fun o => Post K C E y G W σ .s o Q) ipP .rfl R h fun d s S1 v H1 R1 h1 => ?_
  cases d <;> try exact h1.elim
  rename_i b
  refine ⟨b, R1.hd, ?_⟩
  cases b with
  | true => exact (if_pos rfl).mpr (post_at R1.tl h1 rfl)
  | false => exact (if_neg Bool.false_ne_true).mpr (r' y G W S1 H1 σ s Q R1.tl h1)
theorem re_if (r : RT K C E tt mt) (ra : RE K C E md ta ma) (rb : RE K C E md tb mb) : RE K C E md (tIf tt ta tb) (mIf mt ma mb) := by
  intro y G W S H σ st Q R h
  show tt σ H _
  refine r.u (P := fun o => Post K C E y G W σ md o Q) ipP .rfl R h fun b s S1 H1 R1 h1 => ?_
  cases b with
  | true => exact (if_pos rfl).mpr (ra y G W S1 H1 σ s Q R1 h1)
  | false => exact (if_neg Bool.false_ne_true).mpr (rb y G W S1 H1 σ s Q R1 h1)
theorem re_chain {r r' : R2} {f g : PyData → PyData → Option PyData} (ra : RE K C E .s ta ma) (rb : RE K C E .s tb mb) (rc : RE K C E .b tc mc) (ok : OpOk K C .s r f) (ok' : OpOk K C .s r' g) : RE K C E .s (tChain r r' ta tb tc) (mChain f g ma mb mc) := by
  intro y G W S H σ st Q R h
  show ta σ H _
  refine ra.uS (P := fun o => Post K C E y G W σ .s o Q) ipP .rfl R h fun dx s1 S1 x H1 R1 h1 => ?_
  refine rb.uS (P := fun o => Post K C E y G W σ .s o Q) ipP (.g .rfl) R1 h1 fun dy s2 S2 z H2 R2 h2 => ?_
  obtain ⟨q, e, h2⟩ := ofO_ex (P := fun o : Out PyData => Post K C E y G W σ .s o Q) ipP.b h2
  cases e1 : f dx dy with
  | none => rw [e1] at e; cases e
  | some d =>
    rw [e1] at e
    have e := boolB_ex e
    subst e
    refine ok E y _ W S2 H2 σ s2 x z dx dy _ R2 (.inl (R2.gd _ (.tail _ (.head _)))) (.inl R2.hd) (by
      rw [e1]
      intro S3 v H3 R3
      refine ⟨q, R3.hd, ?_⟩
      cases q with
      | true =>
        refine (if_pos rfl).mpr ?_
        refine rc.uB (P := fun o => Post K C E y G W σ .s o Q) ipP (.g (.g (.g .rfl))) R3 h2 fun dw s4 S4 w H4 R4 b4 h4 => ?_
        exact ok' E y G W S4 H4 σ s4 z w dy dw Q R4.tl.tl.tl (.inl (R4.gd _ (.tail _ (.head _)))) b4 h4
      | false => exact (if_neg Bool.false_ne_true).mpr (post_at R3.tl.tl.tl h2 rfl))
/-! ### one argument -/
def CbOk (K : PySem.W.Frag) (C : Ct) (md : Md) (r : List V → Hp → VK → Prop) (f : PyData → Option PyData) : Prop := ∀ E y G W S H σ st x dx Q, Rel K C y G W S H σ st → BoV K S H dx x → Post K C E y G W σ md (ofO (f dx) st) Q → r [x] H Q
def UnOk (K : PySem.W.Frag) (C : Ct) (md : Md) (r : V → Hp → VK → Prop) (f : PyData → Option PyData) : Prop := ∀ E y G W S H σ st x dx Q, Rel K C y G W S H σ st → BoV K S H dx x → Post K C E y G W σ md (ofO (f dx) st) Q → r x H Q
def Cb2Ok (K : PySem.W.Frag) (C : Ct) (md : Md) (r : List V → Hp → VK → Prop) (f : PyData → PyData → Option PyData) : Prop := ∀ E y G W S H σ st x z dx dz Q, Rel K C y G W S H σ st → BoV K S H dx x → BoV K S H dz z → Post K C E y G W σ md (ofO (f dx dz) st) Q → r [x, z] H Q
theorem re_un {r : V → Hp → VK → Prop} {f : PyData → Option PyData} (ra : RE K C E .b ta ma) (ok : UnOk K C md r f) : RE K C E md (tUn r ta) (mU f ma) := by
  intro y G W S H σ st Q R h
  show ta σ H _
  exact ra.uB (P := fun o => Post K C E y G W σ md o Q) ipP .rfl R h fun dx s1 S1 x H1 R1 b1 h1 => ok E y G W S1 H1 σ s1 x dx Q R1 b1 h1
theorem re_cb {r : List V → Hp → VK → Prop} {f : PyData → Option PyData} (ra : RE K C E .b ta ma) (ok : CbOk K C md r f) : RE K C E md (tCB r (tCons ta tNil)) (mU f ma) := by
  intro y G W S H σ st Q R h
  show ta σ H _
  exact ra.uB (P := fun o => Post K C E y G W σ md o Q) ipP .rfl R h fun dx s1 S1 x H1 R1 b1 h1 => ok E y G W S1 H1 σ s1 x dx Q R1 b1 h1
theorem re_cb2 {r : List V → Hp → VK → Prop} {f : PyData → PyData → Option PyData} (ra : RE K C E .s ta ma) (rb : RE K C E .b tb mb) (ok : Cb2Ok K C md r f) : RE K C E md (tCB r (tCons ta (tCons tb tNil))) (mU2 f ma mb) := by
  intro y G W S H σ st Q R h
  show ta σ H _
  refine ra.uS (P := fun o => Post K C E y G W σ md o Q) ipP .rfl R h fun dx s1 S1 x H1 R1 h1 => ?_
  exact rb.uB (P := fun o => Post K C E y G W σ md o Q) ipP (.g .rfl) R1 h1 fun dz s2 S2 z H2 R2 b2 h2 => ok E y G W S2 H2 σ s2 x z dx dz Q R2.tl (.inl R2.hd) b2 h2
def negD : PyData → Option PyData
  | .int i => some (.int (-i))
  | _ => none
theorem ok_neg : UnOk K C .s rNegI negD := by
  intro E y G W S H σ st x dx Q R b h
  cases dx <;> try exact h.elim
  rw [b.int]
  exact ⟨_, rfl, post_at R h rfl⟩
def isiD (t : String) (d : PyData) : Option PyData := (kitB (tyD d) t).map .bool
/-- isinstance(x, T) -/
theorem re_isi {t : String} (ra : RE K C E .b ta ma) : RE K C E .s (tCB (rIsi K) (tCons ta (tCons (tC (.ty t)) tNil))) (mU (isiD t) ma) := by
  intro y G W S H σ st Q R h
  show ta σ H _
  refine ra.uB (P := fun o => Post K C E y G W σ .s o Q) ipP .rfl R h fun dx s1 S1 x H1 R1 b1 h1 => ?_
  unfold isiD at h1
  cases e : kitB (tyD dx) t with
  | none => rw [e] at h1; exact h1.elim
  | some b =>
    rw [e] at h1
    exact ⟨x, .ty t, _, _, b, rfl, .ty t, b1.ty, kit_ty e, post_at R1 h1 rfl⟩
def lenD : PyData → Option PyData
  | .str z => if z.length ≤ LIM then some (.int z.length) else none
  | .list ds => some (.int ds.length)
  | .tuple ds => some (.int ds.length)
  | _ => none
theorem ok_len : CbOk K C .s (rLenV K) lenD := by
  intro E y G W S H σ st x dx Q R b h
  cases dx <;> try exact h.elim
  · obtain ⟨l, h⟩ := post_if h
    rw [b.str]
    exact ⟨_, _, rfl, ⟨by rw [lim_eq]; exact l, rfl⟩, post_at R h rfl⟩
  · obtain ⟨a, vs, e, g, r⟩ := b.lst
    subst e
    exact ⟨_, _, rfl, .inl ⟨vs, .of g, rfl⟩, post_at R h (by rw [r.length]; rfl)⟩
  · obtain ⟨a, vs, e, g, r⟩ := b.tup
    subst e
    exact ⟨_, _, rfl, .inr ⟨vs, g, rfl⟩, post_at R h (by rw [r.length]; rfl)⟩
def intD : PyData → Option PyData
  | .int i => some (.int i)
  | .bool k => some (.int (if k then 1 else 0))
  | _ => none
theorem ok_int : CbOk K C .s rInt1 intD := by
  intro E y G W S H σ st x dx Q R b h
  cases dx <;> try exact h.elim
  · rw [b.bl]; exact .inr ⟨_, rfl, post_at R h rfl⟩
  · rw [b.int]; exact .inl ⟨_, rfl, post_at R h rfl⟩
def absD : PyData → Option PyData
  | .int i => some (.int (if i < 0 then -i else i))
  | _ => none
theorem ok_abs : CbOk K C .s rAbs1 absD := by
  intro E y G W S H σ st x dx Q R b h
  cases dx <;> try exact h.elim
  rw [b.int]; exact ⟨_, rfl, post_at R h rfl⟩
def boolsD : List PyData → Option (List Bool)
  | [] => some []
  | .bool b :: r => (boolsD r).map (b :: ·)
  | _ :: _ => none
theorem boolsD_ex : ∀ {ds : List PyData} {bs : List Bool}, boolsD ds = some bs → ds = bs.map .bool
  | [], bs, h => by cases h; rfl
  | d :: r, bs, h => by
    cases d <;> try cases h
    rename_i b
    unfold boolsD at h
    cases e : boolsD r with
    | none => rw [e] at h; cases h
    | some bs' => rw [e] at h; cases h; rw [boolsD_ex e]; rfl
theorem Dvs.bools : ∀ {bs : List Bool} {vs : List V}, Dvs K S H (bs.map PyData.bool) vs → vs = bs.map V.bl
  | [], _, h => by cases h; rfl
  | b :: r, _, ⟨v, ws, e, h1, h2⟩ => by
    cases (h1 : v = .bl b)
    subst e
    rw [List.map_cons, Dvs.bools h2]
def allD : PyData → Option PyData
  | .list ds => (boolsD ds).map fun bs => .bool (bs.all id)
  | _ => none
def anyD : PyData → Option PyData
  | .list ds => (boolsD ds).map fun bs => .bool (bs.any id)
  | _ => none
theorem ok_all : CbOk K C .s (rAll K) allD := by
  intro E y G W S H σ st x dx Q R b h
  cases dx <;> try exact h.elim
  rename_i ds
  dsimp only [allD] at h
  cases e : boolsD ds with
  | none => rw [e] at h; exact h.elim
  | some bs =>
    rw [e] at h
    obtain ⟨a, vs, e1, g, r⟩ := b.lst
    rw [boolsD_ex e] at r
    subst e1
    exact ⟨a, bs, rfl, .of (by rw [g, r.bools]), post_at R h rfl⟩
theorem ok_any : CbOk K C .s (rAny K) anyD := by
  intro E y G W S H σ st x dx Q R b h
  cases dx <;> try exact h.elim
  rename_i ds
  dsimp only [anyD] at h
  cases e : boolsD ds with
  | none => rw [e] at h; exact h.elim
  | some bs =>
    rw [e] at h
    obtain ⟨a, vs, e1, g, r⟩ := b.lst
    rw [boolsD_ex e] at r
    subst e1
    exact ⟨a, bs, rfl, .of (by rw [g, r.bools]), post_at R h rfl⟩
theorem intsD_ex : ∀ {ds : List PyData} {bs : List Int}, intsD ds = some bs → ds = bs.map .int
  | [], bs, h => by cases h; rfl
  | d :: r, bs, h => by
    cases d <;> try cases h
    rename_i b
    unfold intsD at h
    cases e : intsD r with
    | none => rw [e] at h; cases h
    | some bs' => rw [e] at h; cases h; rw [intsD_ex e]; rfl
theorem Dvs.ints : ∀ {bs : List Int} {vs : List V}, Dvs K S H (bs.map PyData.int) vs → vs = bs.map V.int
  | [], _, h => by cases h; rfl
  | b :: r, _, ⟨v, ws, e, h1, h2⟩ => by
    cases (h1 : v = .int b)
    subst e
    rw [List.map_cons, Dvs.ints h2]
def sumD : PyData → Option PyData
  | .list ds => (intsD ds).map fun bs => .int bs.sum
  | _ => none
theorem ok_sum : CbOk K C .s (rSum K) sumD := by
  intro E y G W S H σ st x dx Q R b h
  cases dx <;> try exact h.elim
  rename_i ds
  dsimp only [sumD] at h
  cases e : intsD ds with
  | none => rw [e] at h; exact h.elim
  | some bs =>
    rw [e] at h
    obtain ⟨a, vs, e1, g, r⟩ := b.lst
    rw [intsD_ex e] at r
    subst e1
    exact ⟨a, bs, rfl, .of (by rw [g, r.ints]), post_at R h rfl⟩
def tupD : PyData → Option PyData
  | .list ds => some (.tuple ds)
  | .tuple ds => some (.tuple ds)
  | _ => none
theorem ok_tup : CbOk K C .s (rTupOf K) tupD := by
  intro E y G W S H σ st x dx Q R b h
  cases dx <;> try exact h.elim
  · obtain ⟨a, vs, e1, g, r⟩ := b.lst
    subst e1
    exact ⟨a, vs, rfl, .inl ⟨.of g, fun l hl => post_tup R h hl r⟩⟩
  · obtain ⟨a, vs, e1, g, r⟩ := b.tup
    subst e1
    exact ⟨a, vs, rfl, .inr ⟨g, post_at R h b.tupDv⟩⟩
def lstD : PyData → Option PyData
  | .list ds => some (.list ds)
  | .tuple ds => some (.list ds)
  | _ => none
theorem ok_lst : CbOk K C .f (rLstOf K) lstD := by
  intro E y G W S H σ st x dx Q R b h
  cases dx <;> try exact h.elim
  · obtain ⟨a, vs, e1, g, r⟩ := b.lst
    subst e1
    exact ⟨a, vs, rfl, .inl (.of g), fun l hl => post_lstF R h hl r⟩
  · obtain ⟨a, vs, e1, g, r⟩ := b.tup
    subst e1
    exact ⟨a, vs, rfl, .inr g, fun l hl => post_lstF R h hl r⟩
def strD : PyData → Option PyData
  | .int i => if i.natAbs.log2 < 1920 then some (.str (toString i)) else none
  | _ => none
abbrev rStrI : List V → Hp → VK → Prop := fun xs H Q => ∃ i, xs = [.int i] ∧ i.natAbs.log2 < 1920 ∧ Q (.str (toString i)) H
theorem ok_str : CbOk K C .s rStrI strD := by
  intro E y G W S H σ st x dx Q R b h
  cases dx <;> try exact h.elim
  obtain ⟨l, h⟩ := post_if h
  rw [b.int]; exact ⟨_, rfl, l, post_at R h rfl⟩
def max2D : PyData → PyData → Option PyData
  | .int i, .int j => some (.int (if j > i then j else i))
  | _, _ => none
def min2D : PyData → PyData → Option PyData
  | .int i, .int j => some (.int (if j < i then j else i))
  | _, _ => none
abbrev rMax2 : List V → Hp → VK → Prop := fun xs H Q => ∃ i j, xs = [.int i, .int j] ∧ Q (.int (if j > i then j else i)) H
theorem ok_max2 : Cb2Ok K C .s rMax2 max2D := by
  intro E y G W S H σ st x z dx dz Q R b b' h
  cases dx <;> cases dz <;> try exact h.elim
  rw [b.int, b'.int]; exact ⟨_, _, rfl, post_at R h rfl⟩
theorem ok_min2 : Cb2Ok K C .s rMin2 min2D := by
  intro E y G W S H σ st x z dx dz Q R b b' h
  cases dx <;> cases dz <;> try exact h.elim
  rw [b.int, b'.int]; exact ⟨_, _, rfl, post_at R h rfl⟩
/-! ### displays -/
theorem AC.dvs : ∀ {n : Nat} {ds : List PyData} {vs : List V} {g : List (PyData × V)}, AC σ (List.replicate n none) ds vs g → (∀ q ∈ g, Dv K S H q.1 q.2) → Dvs K S H ds vs
  | 0, _, _, _, .nil, _ => rfl
  | n + 1, _, _, _, .sh r, h => ⟨_, _, rfl, h _ (.head _), AC.dvs r fun q m => h q (.tail _ m)⟩
theorem ra_nil : RA K C E [] tNil mNil := fun y G W S H σ st Q R h => h S [] [] H .nil R
theorem ra_cons {sp : List (Option Nat)} {tr : TA} {mr : MS → Out (List PyData)} (r : RE K C E .s ta ma) (r' : RA K C E sp tr mr) : RA K C E (none :: sp) (tCons ta tr) (mCons ma mr) := by
  intro y G W S H σ st Q R h
  show ta σ H _
  refine r.uS (P := fun o => PostA K C E y G W σ _ o Q) ipA .rfl R h fun d s S1 v H1 R1 h1 => ?_
  refine r'.u (P := fun o => PostA K C E y G W σ _ o Q) ipA (.g .rfl) R1 h1 fun ds s2 S2 vs g H2 ac R2 h2 => ?_
  exact h2 S2 _ _ H2 (.sh ac) (R2.subG fun q m => by
    rcases List.mem_cons.mp m with m | m
    · subst m; exact List.mem_append_right _ (.head _)
    · rcases List.mem_append.mp m with m | m
      · exact List.mem_append_left _ m
      · exact List.mem_append_right _ (.tail _ m))
theorem ra_consV {sp : List (Option Nat)} {tr : TA} {mr : MS → Out (List PyData)} (r' : RA K C E sp tr mr) : RA K C E (some i :: sp) (tCons (tVar i) tr) (mConsV i mr) := by
  intro y G W S H σ st Q R h
  unfold mConsV at h
  split at h
  · rename_i c e
    obtain ⟨v, e1, r⟩ := R.cell i _ e
    refine ⟨v, e1, ?_⟩
    exact r'.u (P := fun o => PostA K C E y G W σ _ o Q) ipA .rfl R h fun ds s2 S2 vs g H2 ac R2 h2 => h2 S2 _ _ H2 (.va e1 ac) R2
  · exact h.elim
theorem re_tup {n : Nat} {t : TA} {mr : MS → Out (List PyData)} (r : RA K C E (List.replicate n none) t mr) : RE K C E .s (tTup t) (mTup mr) := by
  intro y G W S H σ st Q R h
  show t σ H _
  refine r.u (P := fun o => Post K C E y G W σ .s o Q) ipP .rfl R h fun ds s2 S2 vs g H2 ac R2 h2 => ?_
  have dv := ac.dvs (K := K) (S := S2) (H := H2) fun q m => R2.gd q (List.mem_append_left _ m)
  split at h2
  · rename_i l
    exact ⟨by rw [lim_eq, dv.length]; exact l, fun p hp => post_tup (R2.subG fun _ m => List.mem_append_right _ m) h2 hp dv⟩
  · exact h2.elim
theorem re_lst {n : Nat} {t : TA} {mr : MS → Out (List PyData)} (r : RA K C E (List.replicate n none) t mr) : RE K C E .f (tLst t) (mLst mr) := by
  intro y G W S H σ st Q R h
  show t σ H _
  refine r.u (P := fun o => Post K C E y G W σ .f o Q) ipP .rfl R h fun ds s2 S2 vs g H2 ac R2 h2 => ?_
  have dv := ac.dvs (K := K) (S := S2) (H := H2) fun q m => R2.gd q (List.mem_append_left _ m)
  split at h2
  · rename_i l
    exact ⟨by rw [lim_eq, dv.length]; exact l, fun p hp => post_lstF (R2.subG fun _ m => List.mem_append_right _ m) h2 hp dv⟩
  · exact h2.elim
/-! ### slices -/
def RO (K : PySem.W.Frag) (C : Ct) (E : WX) (to : TO) (m : MS → Out (Option Int)) : Prop := ∀ {β : Type} [EB β] {P : β → Prop} {y : Dy} {G G' : List (PyData × V)} {W W' : List (PyData × Addr)} {S : List Addr} {H : Hp} {σ : L2.St} {st : MS} {Q : Option Int → Hp → Prop} {k : Option Int → MS → β},
  IP K C E y G W σ P → Wk K C y G W G' W' → Rel K C y G' W' S H σ st → P ((m st).bd k) → (∀ o st' S' H', Rel K C y G' W' S' H' σ st' → P (k o st') → Q o H') → to σ H Q
theorem ro_no : RO K C E tNoPart mNoP := fun ip w R h nx => nx none _ _ _ R h
theorem ro_part (r : RE K C E .s te m) : RO K C E (tPart te) (mPart m) := by
  intro β _ P y G G' W W' S H σ st Q k ip w R h nx
  have h : P ((m st).bd fun x s => (ofO ((intB x).map some) s).bd k) := by
    unfold mPart at h
    cases e : m st with
    | ok d s => rw [e] at h; exact h
    | err c fs s => rw [e] at h; exact h
    | bad => rw [e] at h; exact h
  show te σ H _
  refine r.uS ip w R h fun d s S1 v H1 R1 h1 => ?_
  cases d with
  | int j => exact ⟨j, R1.hd, nx (some j) s S1 H1 R1.tl h1⟩
  | _ => exact absurd h1 ip.b
def SlOk (K : PySem.W.Frag) (C : Ct) (md : Md) (r : V → Option Int → Option Int → Hp → VK → Prop) (f : Option Int → Option Int → PyData → Option PyData) : Prop := ∀ E y G W S H σ st x dx lo hi Q, Rel K C y G W S H σ st → BoV K S H dx x → Post K C E y G W σ md (ofO (f lo hi dx) st) Q → r x lo hi H Q
theorem re_sl {r : V → Option Int → Option Int → Hp → VK → Prop} {f : Option Int → Option Int → PyData → Option PyData} {tl tu : TO} {ml mu : MS → Out (Option Int)} (ra : RE K C E .s ta ma) (rl : RO K C E tl ml) (ru : RO K C E tu mu) (ok : SlOk K C md r f) : RE K C E md (tSl r ta tl tu) (mSl f ma ml mu) := by
  intro y G W S H σ st Q R h
  show ta σ H _
  refine ra.uS (P := fun o => Post K C E y G W σ md o Q) ipP .rfl R h fun d s S1 v H1 R1 h1 => ?_
  refine rl (P := fun o => Post K C E y G W σ md o Q) ipP (.g .rfl) R1 h1 fun lo s2 S2 H2 R2 h2 => ?_
  refine ru (P := fun o => Post K C E y G W σ md o Q) ipP (.g .rfl) R2 h2 fun hi s3 S3 H3 R3 h3 => ?_
  exact ok E y G W S3 H3 σ s3 v d lo hi Q R3.tl (.inl R3.hd) h3
theorem re_slB {r : V → Option Int → Option Int → Hp → VK → Prop} {f : Option Int → Option Int → PyData → Option PyData} {tl tu : TO} {ml mu : MS → Out (Option Int)} (rl : RO K C E tl ml) (ru : RO K C E tu mu) (ok : SlOk K C md r f) : RE K C E md (tSl r (tVar i) tl tu) (mSlB f i ml mu) := by
  intro y G W S H σ st Q R h
  unfold mSlB at h
  split at h
  · rename_i c e
    obtain ⟨v, e1, r⟩ := R.cell i _ e
    refine ⟨v, e1, ?_⟩
    refine rl (P := fun o => Post K C E y G W σ md o Q) ipP .rfl R h fun lo s2 S2 H2 R2 h2 => ?_
    refine ru (P := fun o => Post K C E y G W σ md o Q) ipP .rfl R2 h2 fun hi s3 S3 H3 R3 h3 => ?_
    have h3 : Post K C E y G W σ md ((mB i s3).bd fun x s => ofO (f lo hi x) s) Q := h3
    unfold mB at h3
    split at h3
    · rename_i c' e'
      cases hc : c'.rd with
      | none => rw [hc] at h3; cases md <;> exact h3.elim
      | some dx =>
        rw [hc] at h3
        obtain ⟨v', e2, r2⟩ := R3.bo e' hc
        rw [e1] at e2; cases e2
        exact ok E y G W S3 H3 σ s3 v dx lo hi Q R3 r2 h3
    · cases md <;> exact h3.elim
  · cases md <;> exact h.elim
abbrev rSlG (K : PySem.W.Frag) : V → Option Int → Option Int → Hp → VK → Prop := fun x lo hi H Q => rSlL K x lo hi H Q ∨ rSlS x lo hi H Q ∨ rSlA K x lo hi H Q
theorem sl_G {X : Cx} : SlR X (rSlG X.K) := sl_list.or (sl_str.or sl_tupA)
theorem Dvs.cut {ds : List PyData} {vs : List V} (r : Dvs K S H ds vs) (lo hi : Option Int) : Dvs K S H (cutL ds lo hi) (cutV vs lo hi) := by
  unfold cutL cutV
  rw [r.length]
  exact (r.drop _).take _
theorem ok_slG : SlOk K C .s (rSlG K) slD := by
  intro E y G W S H σ st x dx lo hi Q R b h
  cases dx <;> try exact h.elim
  · obtain ⟨l, h⟩ := post_if h
    exact .inr (.inl ⟨_, b.str, by rw [lim_eq]; exact l, post_at R h rfl⟩)
  · obtain ⟨a, vs, e1, g, r⟩ := b.lst
    exact .inl ⟨a, vs, e1, .of g, fun p hp => post_lst R h hp (r.cut lo hi)⟩
  · obtain ⟨a, vs, e1, g, r⟩ := b.tup
    refine .inr (.inr ⟨a, vs, e1, g, fun q => ?_, fun _ p hp => post_tup R h hp (r.cut lo hi)⟩)
    rename_i ds
    have e : cutL ds lo hi = ds := by
      unfold cutL
      rw [r.length] at q
      rw [q.1, q.2]
      simp
    have h : Post K C E y G W σ .s (.ok (.tuple (cutL ds lo hi)) st) Q := h
    rw [e] at h
    rw [← e1]
    exact post_at R h b.tupDv
theorem ok_slF : SlOk K C .f (rSlL K) slLD := by
  intro E y G W S H σ st x dx lo hi Q R b h
  cases dx <;> try exact h.elim
  obtain ⟨a, vs, e1, g, r⟩ := b.lst
  exact ⟨a, vs, e1, .of g, fun p hp => post_lstF R h hp (r.cut lo hi)⟩
theorem re_slW {tl tu : TO} {ml mu : MS → Out (Option Int)} (rl : RO K C E tl ml) (ru : RO K C E tu mu) : RE K C E .f (tSl (rSlL K) (tVar i) tl tu) (mSlW i ml mu) := by
  intro y G W S H σ st Q R h
  unfold mSlW at h
  split at h
  · rename_i ds e
    obtain ⟨v, e1, r⟩ := R.cell i _ e
    refine ⟨v, e1, ?_⟩
    refine rl (P := fun o => Post K C E y G W σ .f o Q) ipP .rfl R h fun lo s2 S2 H2 R2 h2 => ?_
    refine ru (P := fun o => Post K C E y G W σ .f o Q) ipP .rfl R2 h2 fun hi s3 S3 H3 R3 h3 => ?_
    split at h3
    · rename_i ds' e'
      obtain ⟨v', e2, a, ds2, vs, e3, n, e4, sq, r2⟩ := R3.cell i _ e'
      rw [e1] at e2; cases e2
      cases e4
      exact ⟨a, vs, e3, R3.kp.sqL sq n, fun p hp => post_lstF R3 h3 hp (r2.cut lo hi)⟩
    · exact h3.elim
  · exact h.elim
def revD : PyData → Option PyData
  | .list ds => some (.list ds.reverse)
  | _ => none
theorem re_revL (ra : RE K C E .b ta ma) : RE K C E .f (tRevL K ta) (mU revD ma) := by
  intro y G W S H σ st Q R h
  show ta σ H _
  refine ra.uB (P := fun o => Post K C E y G W σ .f o Q) ipP .rfl R h fun dx s1 S1 x H1 R1 b1 h1 => ?_
  cases dx <;> try exact h1.elim
  obtain ⟨a, vs, e1, g, r⟩ := b1.lst
  exact ⟨a, vs, e1, .of g, fun p hp => post_lstF R1 h1 hp r.rev⟩
/-! ### methods that change nothing -/
def mJoin (z : Str) (ds : List PyData) : Option PyData := (strsD ds).bind fun ys => if (ys.map (·.length)).sum + ys.length * z.length ≤ LIM then some (.str (Txt.join z ys)) else none
where strsD : List PyData → Option (List Str)
  | [] => some []
  | .str b :: r => (strsD r).map (b :: ·)
  | _ :: _ => none
theorem strsD_ex : ∀ {ds : List PyData} {bs : List Str}, mJoin.strsD ds = some bs → ds = bs.map .str
  | [], bs, h => by cases h; rfl
  | d :: r, bs, h => by
    cases d <;> try cases h
    rename_i b
    unfold mJoin.strsD at h
    cases e : mJoin.strsD r with
    | none => rw [e] at h; cases h
    | some bs' => rw [e] at h; cases h; rw [strsD_ex e]; rfl
theorem Dvs.strs : ∀ {bs : List Str} {vs : List V}, Dvs K S H (bs.map PyData.str) vs → vs = bs.map V.str
  | [], _, h => by cases h; rfl
  | b :: r, _, ⟨v, ws, e, h1, h2⟩ => by
    cases (h1 : v = .str b)
    subst e
    rw [List.map_cons, Dvs.strs h2]
def joinD : PyData → PyData → Option PyData
  | .str z, .list ds => mJoin z ds
  | .str z, .tuple ds => mJoin z ds
  | _, _ => none
/-- x.m(z), by values -/
def MtOk (K : PySem.W.Frag) (C : Ct) (md : Md) (T : String) (r : V → List V → Hp → VK → Prop) (f : PyData → PyData → Option PyData) : Prop := (∀ S H x dx dz d, f dx dz = some d → Dv K S H dx x → tyV K T x H) ∧
  ∀ E y G W S H σ st x z dx dz Q, Rel K C y G W S H σ st → BoV K S H dx x → BoV K S H dz z → Post K C E y G W σ md (ofO (f dx dz) st) Q → r x [z] H Q
def mMt (f : PyData → PyData → Option PyData) (t : PyData → Bool) (a b : MS → Out PyData) (st : MS) : Out PyData := (a st).bd fun x s => if t x = true then (b s).bd fun z s => ofO (f x z) s else .bad
def isStrD : PyData → Bool
  | .str _ => true
  | _ => false
def isLstD : PyData → Bool
  | .list _ => true
  | _ => false
theorem re_mtS {r : V → List V → Hp → VK → Prop} {f : PyData → PyData → Option PyData} (ra : RE K C E .s ta ma) (rb : RE K C E .b tb mb) (ok : ∀ E y G W S H σ st x z dx dz Q, Rel K C y G W S H σ st → BoV K S H dx x → BoV K S H dz z → Post K C E y G W σ md (ofO (f dx dz) st) Q → r x [z] H Q) :
    RE K C E md (tBM K "str" r ta (tCons tb tNil)) (mMt f isStrD ma mb) := by
  intro y G W S H σ st Q R h
  show ta σ H _
  refine ra.uS (P := fun o => Post K C E y G W σ md o Q) ipP .rfl R h fun dx s1 S1 x H1 R1 h1 => ?_
  split at h1
  · rename_i c
    have ty : tyV K "str" x H1 := by
      cases dx <;> try cases c
      rw [show x = _ from R1.hd]; rfl
    exact ⟨ty, rb.uB (P := fun o => Post K C E y G W σ md o Q) ipP (.g .rfl) R1 h1 fun dz s2 S2 z H2 R2 b2 h2 => ok E y G W S2 H2 σ s2 x z dx dz Q R2.tl (.inl R2.hd) b2 h2⟩
  · cases md <;> exact h1.elim
theorem re_mtL {r : V → List V → Hp → VK → Prop} {f : PyData → PyData → Option PyData} (ra : RE K C E .s ta ma) (rb : RE K C E .b tb mb) (ok : ∀ E y G W S H σ st x z dx dz Q, Rel K C y G W S H σ st → BoV K S H dx x → BoV K S H dz z → Post K C E y G W σ md (ofO (f dx dz) st) Q → r x [z] H Q) :
    RE K C E md (tBM K "list" r ta (tCons tb tNil)) (mMt f isLstD ma mb) := by
  intro y G W S H σ st Q R h
  show ta σ H _
  refine ra.uS (P := fun o => Post K C E y G W σ md o Q) ipP .rfl R h fun dx s1 S1 x H1 R1 h1 => ?_
  split at h1
  · rename_i c
    have ty : tyV K "list" x H1 := by
      cases dx <;> try cases c
      obtain ⟨a, vs, e, g, _⟩ := R1.hd
      rw [e]; exact .inl ⟨rfl, vs, .of g.2⟩
    exact ⟨ty, rb.uB (P := fun o => Post K C E y G W σ md o Q) ipP (.g .rfl) R1 h1 fun dz s2 S2 z H2 R2 b2 h2 => ok E y G W S2 H2 σ s2 x z dx dz Q R2.tl (.inl R2.hd) b2 h2⟩
  · cases md <;> exact h1.elim
theorem ok_join : ∀ E y G W S H σ st x z dx dz Q, Rel K C y G W S H σ st → BoV K S H dx x → BoV K S H dz z → Post K C E y G W σ .s (ofO (joinD dx dz) st) Q → rJoin K x [z] H Q := by
  intro E y G W S H σ st x z dx dz Q R bx bz h
  have go : ∀ w ds, Post K C E y G W σ .s (ofO (mJoin w ds) st) Q → ∃ ys : List Str, ds = ys.map .str ∧ (ys.map (·.length)).sum + ys.length * w.length ≤ LIM ∧ Q (.str (Txt.join w ys)) H := fun w ds h => by
    dsimp only [mJoin] at h
    cases e : mJoin.strsD ds with
    | none => rw [e] at h; exact h.elim
    | some ys =>
      rw [e] at h
      obtain ⟨l, h⟩ := post_if h
      exact ⟨ys, strsD_ex e, l, post_at R h rfl⟩
  cases dx <;> cases dz <;> try exact h.elim
  · obtain ⟨ys, e, l, q⟩ := go _ _ h
    subst e
    obtain ⟨a, vs, e1, g, r⟩ := bz.lst
    rw [r.strs] at g
    exact ⟨_, a, ys, bx.str, by rw [e1], .inl (.of g), l, q⟩
  · obtain ⟨ys, e, l, q⟩ := go _ _ h
    subst e
    obtain ⟨a, vs, e1, g, r⟩ := bz.tup
    rw [r.strs] at g
    exact ⟨_, a, ys, bx.str, by rw [e1], .inr g, l, q⟩
/-- where a sign stands first in a text -/
def sIndexD : PyData → PyData → Option PyData
  | .str a, .str b => match Builtin.Str.occurrences a b 0 a.length 1 with
    | i :: _ => some (.int (i : Nat))
    | [] => none
  | _, _ => none
theorem ok_sIndex : ∀ E y G W S H σ st x z dx dz Q, Rel K C y G W S H σ st → BoV K S H dx x → BoV K S H dz z → Post K C E y G W σ .s (ofO (sIndexD dx dz) st) Q → rSIndex x [z] H Q := by
  intro E y G W S H σ st x z dx dz Q R bx bz h
  unfold sIndexD at h
  split at h
  · split at h
    · rename_i a b _ i r e
      exact ⟨a, b, i, r, bx.str, by rw [bz.str], e, post_at R h rfl⟩
    · exact h.elim
  · exact h.elim
def idxD (d : PyData) : List PyData → Option Nat
  | [] => none
  | e :: r => if PyData.eqv e d = true then some 0 else (idxD d r).map (· + 1)
def lIndexD : PyData → PyData → Option PyData
  | .list ds, d => if atomD d && ds.all atomD then (idxD d ds).map fun j => .int (j : Nat) else none
  | _, _ => none
theorem idxD_ex : ∀ {ds : List PyData} {j : Nat}, idxD d ds = some j → ∃ e, ds[j]? = some e ∧ PyData.eqv e d = true ∧ ∀ m e', m < j → ds[m]? = some e' → PyData.eqv e' d = false
  | [], j, h => by cases h
  | e :: r, j, h => by
    unfold idxD at h
    split at h
    · rename_i c
      cases h
      exact ⟨e, rfl, c, fun m _ h => absurd h (Nat.not_lt_zero _)⟩
    · rename_i c
      cases q : idxD d r with
      | none => rw [q] at h; cases h
      | some k =>
        rw [q] at h
        cases h
        obtain ⟨e', h1, h2, h3⟩ := idxD_ex q
        refine ⟨e', h1, h2, fun m e2 hm he => ?_⟩
        cases m with
        | zero => cases he; exact Bool.eq_false_iff.mpr c
        | succ m => exact h3 m e2 (Nat.lt_of_succ_lt_succ hm) he
theorem ok_lIndex : ∀ E y G W S H σ st x z dx dz Q, Rel K C y G W S H σ st → BoV K S H dx x → BoV K S H dz z → Post K C E y G W σ .s (ofO (lIndexD dx dz) st) Q → rIndex K x [z] H Q := by
  intro E y G W S H σ st x z dx dz Q R bx bz h
  unfold lIndexD at h
  split at h
  · split at h
    · rename_i ds c
      obtain ⟨c1, c2⟩ := Bool.and_eq_true_iff.mp c
      cases e : idxD dz ds with
      | none => rw [e] at h; exact h.elim
      | some j =>
        rw [e] at h
        obtain ⟨e', h1, h2, h3⟩ := idxD_ex e
        obtain ⟨a, vs, e1, g, r⟩ := bx.lst
        have := atoms_of c2 r
        subst this
        obtain ⟨i1, i2, _⟩ := inV_at c1 c2
        have at' : ∀ e ∈ ds, eqV (atV e) (atV dz) = PyData.eqv e dz := fun e m => eqv_at (List.all_eq_true.mp c2 e m) c1
        refine ⟨a, _, z, j, atV e', e1, rfl, .of g, by rw [(bz.at c1).1]; exact i1, i2, by rw [List.getElem?_map, h1]; rfl, by rw [(bz.at c1).1, at' e' (List.mem_of_getElem? h1)]; exact h2, fun m z' hm hz => ?_, post_at R h rfl⟩
        rw [List.getElem?_map] at hz
        cases q : ds[m]? with
        | none => rw [q] at hz; cases hz
        | some e2 =>
          rw [q] at hz
          cases hz
          rw [(bz.at c1).1, at' e2 (List.mem_of_getElem? q)]
          exact h3 m e2 hm q
    · exact h.elim
  · exact h.elim
end
end MV

set_option Elab.async false
set_option linter.all false
set_option maxRecDepth 100000
set_option maxHeartbeats 2000000
/-! VF: statements, by data. -/
namespace MV
open PySem PySem.Spec PyProof.Rows L2 FR
abbrev MSt := MS → SOut
def SOut.sq (o : SOut) (k : MSt) : SOut := match o with
  | .nx s => k s
  | o => o
def mSeq (a b : MSt) (st : MS) : SOut := (a st).sq b
def mNext (st : MS) : SOut := .nx st
def mBrk (st : MS) : SOut := .brk st
def mCt (st : MS) : SOut := .ct st
def mIfS (c : MS → Out Bool) (a b : MSt) (st : MS) : SOut := (c st).bd fun q s => if q = true then a s else b s
def mDrop (m : MS → Out PyData) (st : MS) : SOut := (m st).bd fun _ s => .nx s
def mRet (m : MS → Out PyData) (st : MS) : SOut := (m st).bd fun d s => .ret d s
def mRetN (st : MS) : SOut := .ret .none st
def mSet (i : Nat) (m : MS → Out PyData) (st : MS) : SOut := (m st).bd fun d s => .nx (s.set i (some (.sh d)))
def mOwn (i : Nat) (m : MS → Out PyData) (st : MS) : SOut := (m st).bd fun d s => .nx (s.set i (some (.ow d)))
def mTgt (mg : PyData → MS → Option MS) (m : MS → Out PyData) (st : MS) : SOut := (m st).bd fun d s => (ofO (mg d s) s).bd fun s _ => .nx s
def mAug (f : PyData → PyData → Option PyData) (i : Nat) (m : MS → Out PyData) (st : MS) : SOut := match st[i]? with
  | some (some (.sh x)) => (m st).bd fun d s => (ofO (f x d) s).bd fun d s => .nx (s.set i (some (.sh d)))
  | _ => .bad
def cellOf : Md → PyData → Cell
  | .f, d => .ow d
  | _, d => .sh d
def mPar (i j : Nat) (p q : Md) (a b : MS → Out PyData) (st : MS) : SOut := (a st).bd fun d s => (b s).bd fun e s => .nx ((s.set i (some (cellOf p d))).set j (some (cellOf q e)))
def mPar3 (i j l : Nat) (p q r : Md) (a b c : MS → Out PyData) (st : MS) : SOut := (a st).bd fun d s => (b s).bd fun e s => (c s).bd fun f s => .nx (((s.set i (some (cellOf p d))).set j (some (cellOf q e))).set l (some (cellOf r f)))
/-- a list of one's own at a name -/
def ownL (st : MS) (i : Nat) : Option (List PyData) := match st[i]? with
  | some (some (.ow (.list ds))) => some ds
  | some (some (.io (.list ds))) => some ds
  | _ => none
def mApp (i : Nat) (m : MS → Out PyData) (st : MS) : SOut := match ownL st i with
  | none => .bad
  | some _ => (m st).bd fun d s => match ownL s i with
    | some ds => if ds.length < LIM then .nx (putD s i (.list (ds ++ [d]))) else .bad
    | none => .bad
def mExt (i : Nat) (m : MS → Out PyData) (st : MS) : SOut := match ownL st i with
  | none => .bad
  | some _ => (m st).bd fun d s => match ownL s i, d with
    | some ds, .list es => if ds.length + es.length ≤ LIM then .nx (putD s i (.list (ds ++ es))) else .bad
    | _, _ => .bad
def mPop (i : Nat) (st : MS) : Out PyData := match ownL st i with
  | some ds => match ds.getLast? with
    | some d => .ok d (putD st i (.list ds.dropLast))
    | none => .bad
  | none => .bad
def mSetIx (i : Nat) (k m : MS → Out PyData) (st : MS) : SOut := (m st).bd fun d s => match ownL s i with
  | none => .bad
  | some _ => (k s).bd fun j s => match ownL s i, j with
    | some ds, .int j => (ofO (ixN ds.length j) s).bd fun j s => .nx (putD s i (.list (ds.set j d)))
    | _, _ => .bad
def whileN (c : MS → Out Bool) (b : MSt) : Nat → MSt
  | 0, _ => .bad
  | n + 1, st => (c st).bd fun q s => if q = true then (match b s with
      | .nx s => whileN c b n s
      | .ct s => whileN c b n s
      | .brk s => .nx s
      | o => o) else .nx s
/-- turns enough -/
@[irreducible] def fuel : Nat := 1000000000
theorem fuel_eq : fuel = 1000000000 := by unfold fuel; rfl
def mWhile (c : MS → Out Bool) (b : MSt) : MSt := whileN c b fuel
def forL (mg : PyData → MS → Option MS) (b : MSt) : List PyData → MSt
  | [], st => .nx st
  | d :: r, st => match mg d st with
    | none => .bad
    | some s => match b s with
      | .nx s => forL mg b r s
      | .ct s => forL mg b r s
      | .brk s => .nx s
      | o => o
def mFor (mi : MS → Out (List PyData)) (mg : PyData → MS → Option MS) (b : MSt) (st : MS) : SOut := (mi st).bd fun ds s => forL mg b ds s
/-! targets -/
def gN (i : Nat) (d : PyData) (st : MS) : Option MS := some (st.set i (some (.sh d)))
def gL : List (PyData → MS → Option MS) → List PyData → MS → Option MS
  | [], [], st => some st
  | g :: gs, d :: ds, st => (g d st).bind (gL gs ds)
  | _, _, _ => none
def gT (gs : List (PyData → MS → Option MS)) (d : PyData) (st : MS) : Option MS := match d with
  | .tuple ds => gL gs ds st
  | _ => none
section
variable {K : PySem.W.Frag} {C : Ct} {E : WX} {y : Dy} {G G' : List (PyData × V)} {W W' : List (PyData × Addr)} {S S' : List Addr} {H H' H0 : Hp} {σ : L2.St} {st st' : MS} {d d' : PyData} {a p : Addr} {v x z : V} {i j l : Nat} {md : Md} {Q : VK} {te ta tb tc : TE} {m ma mb mc : MS → Out PyData} {tt tt' : TT} {mt mt' : MS → Out Bool} {t t1 t2 : TS} {s1 s2 : MSt}
theorem postS_w {o : SOut} {D : Ends} (w : Wk K C y G W G' W') (h : PostS K C E y G W o D) : PostS K C E y G' W' o D := by
  cases o with
  | nx st => exact fun S σ H R => h S σ H (w _ _ _ _ R)
  | brk st => exact fun S σ H R => h S σ H (w _ _ _ _ R)
  | ct st => exact fun S σ H R => h S σ H (w _ _ _ _ R)
  | ret d st => exact fun S σ H v R => h S σ H v (w _ _ _ _ R)
  | err c fs st => exact fun S σ H cl dx R => h S σ H cl dx (w _ _ _ _ R)
  | bad => exact h
theorem rs_seq (r1 : RS K C E t1 s1) (r2 : RS K C E t2 s2) : RS K C E (tSeq t1 t2) (mSeq s1 s2) := by
  intro y G W S H σ st D R h
  refine r1 y G W S H σ st { D with nx := t2 D } R ?_
  unfold mSeq at h
  generalize s1 st = o at h ⊢
  cases o with
  | nx s => exact fun S σ' H' R' => r2 y G W S H' σ' s D R' h
  | _ => exact h
theorem rs_next : RS K C E tNext mNext := fun y G W S H σ st D R h => h S σ H R
theorem rs_brk : RS K C E tBreak mBrk := fun y G W S H σ st D R h => h S σ H R
theorem rs_ct : RS K C E tCont mCt := fun y G W S H σ st D R h => h S σ H R
theorem rs_if (r : RT K C E tt mt) (r1 : RS K C E t1 s1) (r2 : RS K C E t2 s2) : RS K C E (tIfS tt t1 t2) (mIfS mt s1 s2) := by
  intro y G W S H σ st D R h
  show tt σ H _
  refine r.u (P := fun o => PostS K C E y G W o D) ipS .rfl R h fun b s S1 H1 R1 h1 => ?_
  cases b with
  | true => exact (if_pos rfl).mpr (r1 y G W S1 H1 σ s D R1 h1)
  | false => exact (if_neg Bool.false_ne_true).mpr (r2 y G W S1 H1 σ s D R1 h1)
theorem rs_drop (r : RE K C E .s te m) : RS K C E (tDrop te) (mDrop m) := by
  intro y G W S H σ st D R h
  show te σ H _
  exact r.uS (P := fun o => PostS K C E y G W o D) ipS .rfl R h fun d s S1 v H1 R1 h1 => h1 S1 σ H1 R1.tl
theorem rs_ret (r : RE K C E .s te m) (hk : C.rk = false := by rfl) : RS K C E (tRet te) (mRet m) := by
  intro y G W S H σ st D R h
  show te σ H _
  refine r.uS (P := fun o => PostS K C E y G W o D) ipS .rfl R h fun d s S1 v H1 R1 h1 => h1 S1 σ H1 v R1.tl ?_
  unfold RetR
  rw [if_neg (by rw [hk]; exact Bool.false_ne_true)]
  exact (Stp.sub fun a m => (R1.s0 a m).1).dv R1.hd
theorem rs_retF (r : RE K C E .f te m) (hk : C.rk = true := by rfl) : RS K C E (tRet te) (mRet m) := by
  intro y G W S H σ st D R h
  show te σ H _
  refine r.uF (P := fun o => PostS K C E y G W o D) ipS .rfl R h fun d s S1 a H1 R1 h1 => h1 S1 σ H1 _ R1.tlW ?_
  obtain ⟨m, n, o⟩ := R1.tg _ (.head _)
  unfold RetR
  rw [if_pos hk]
  refine ⟨a, rfl, m, n, o.step (Stp.sub fun b mb => ?_) rfl⟩
  rcases List.mem_cons.mp mb with e | e
  · rw [e]; exact m
  · exact (R1.s0 b e).1
theorem rs_retN (hk : C.rk = false := by rfl) : RS K C E tRetN mRetN := fun y G W S H σ st D R h => h S σ H .non R (by unfold RetR; rw [if_neg (by rw [hk]; exact Bool.false_ne_true)]; exact rfl)
theorem Rel.setV (R : Rel K C y G W S H σ st) (h : Dv K S H d v) (hi : i < C.n) (hp : C.ps.contains i = false) : Rel K C y G W S H (σ.set i (some v)) (st.set i (some (.sh d))) := ((R.addG h).setS hi hp).tl
theorem rs_set (r : RE K C E .s te m) (hi : i < C.n := by decide) (hp : C.ps.contains i = false := by rfl) : RS K C E (tAsg te (gName i)) (mSet i m) := by
  intro y G W S H σ st D R h
  show te σ H _
  exact r.uS (P := fun o => PostS K C E y G W o D) ipS .rfl R h fun d s S1 v H1 R1 h1 => h1 S1 _ H1 (R1.setS hi hp).tl
theorem rs_own (r : RE K C E .f te m) (hi : i < C.n := by decide) (hp : C.ps.contains i = false := by rfl) : RS K C E (tAsg te (gName i)) (mOwn i m) := by
  intro y G W S H σ st D R h
  show te σ H _
  exact r.uF (P := fun o => PostS K C E y G W o D) ipS .rfl R h fun d s S1 a H1 R1 h1 => h1 S1 _ H1 (R1.setT hi hp)
/-! ### targets -/
def RG (K : PySem.W.Frag) (C : Ct) (js : List Nat) (g : TG) (mg : PyData → MS → Option MS) : Prop := ∀ y G W S H σ st d v (Q : L2.St → Hp → Prop), Rel K C y G W S H σ st → Dv K S H d v →
  (∃ st', mg d st = some st' ∧ ∀ σ', Rel K C y G W S H σ' st' → (∀ vs : List Nat, js.all vs.contains = true → wipe σ' vs = wipe σ vs) → Q σ' H) → g v σ H Q
theorem wipe_get {σ : L2.St} : ∀ {vs : List Nat} {i : Nat}, (wipe σ vs)[i]? = if i ∈ vs ∧ i < σ.length then some none else σ[i]?
  | [], i => by simp [wipe]
  | v :: vs, i => by
    unfold wipe
    rw [List.getElem?_set, wipe_length]
    by_cases e : v = i
    · subst e
      by_cases l : v < σ.length
      · simp [l]
      · simp [l]
    · rw [if_neg e, wipe_get (vs := vs)]
      have : (i ∈ v :: vs) ↔ i ∈ vs := ⟨fun z => (List.mem_cons.mp z).elim (fun q => absurd q.symm e) id, .tail _⟩
      simp only [this]
theorem wipe_set {vs : List Nat} (h : i ∈ vs) : wipe (σ.set i x) vs = wipe σ vs := by
  refine List.ext_getElem? fun k => ?_
  rw [wipe_get, wipe_get, List.length_set]
  by_cases e : k ∈ vs ∧ k < σ.length
  · rw [if_pos e, if_pos e]
  · rw [if_neg e, if_neg e]
    by_cases q : i = k
    · subst q
      have l : ¬ i < σ.length := fun l => e ⟨h, l⟩
      rw [List.getElem?_eq_none_iff.mpr (by rw [List.length_set]; omega), List.getElem?_eq_none_iff.mpr (by omega)]
    · rw [List.getElem?_set_ne q]
theorem rg_n (hi : i < C.n := by decide) (hp : C.ps.contains i = false := by rfl) : RG K C [i] (gName i) (gN i) := by
  intro y G W S H σ st d v Q R h q
  obtain ⟨st', e, q⟩ := q
  cases e
  refine q _ (R.setV h hi hp) fun vs hv => wipe_set ?_
  simpa using hv
def RGs (K : PySem.W.Frag) (C : Ct) (js : List Nat) (g : TGs) (mg : List PyData → MS → Option MS) : Prop := ∀ y G W S H σ st ds vs (Q : L2.St → Hp → Prop), Rel K C y G W S H σ st → Dvs K S H ds vs →
  (∃ st', mg ds st = some st' ∧ ∀ σ', Rel K C y G W S H σ' st' → (∀ vs : List Nat, js.all vs.contains = true → wipe σ' vs = wipe σ vs) → Q σ' H) → g vs σ H Q
theorem rgs_nil : RGs K C [] gNil (gL []) := by
  intro y G W S H σ st ds vs Q R h q
  obtain ⟨st', e, q⟩ := q
  cases ds with
  | nil => cases e; cases h; exact ⟨rfl, q _ R fun _ _ => rfl⟩
  | cons => cases e
theorem rgs_cons {js js' : List Nat} {g : TG} {gs : TGs} {mg : PyData → MS → Option MS} {ms : List (PyData → MS → Option MS)} (r : RG K C js g mg) (r' : RGs K C js' gs (gL ms)) : RGs K C (js ++ js') (gCons g gs) (gL (mg :: ms)) := by
  intro y G W S H σ st ds vs Q R h q
  obtain ⟨st', e, q⟩ := q
  cases ds with
  | nil => cases e
  | cons d r2 =>
    obtain ⟨v, ws, rfl, h1, h2⟩ := h
    unfold gL at e
    cases e1 : mg d st with
    | none => rw [e1] at e; cases e
    | some s1 =>
      rw [e1] at e
      refine ⟨v, ws, rfl, ?_⟩
      refine r y G W S H σ st d v _ R h1 ⟨s1, e1, fun σ1 R1 w1 => ?_⟩
      refine r' y G W S H σ1 s1 r2 ws _ R1 h2 ⟨st', e, fun σ2 R2 w2 => q σ2 R2 fun vs hv => ?_⟩
      rw [List.all_append, Bool.and_eq_true] at hv
      rw [w2 vs hv.2, w1 vs hv.1]
theorem rg_t {js : List Nat} {n : Nat} {gs : TGs} {ms : List (PyData → MS → Option MS)} (r : RGs K C js gs (gL ms)) (hn : ms.length = n := by rfl) : RG K C js (gTup K n gs) (gT ms) := by
  intro y G W S H σ st d v Q R h q
  obtain ⟨st', e, q⟩ := q
  cases d <;> try cases e
  rename_i ds
  have len : ∀ {ms : List (PyData → MS → Option MS)} {ds : List PyData} {s s' : MS}, gL ms ds s = some s' → ds.length = ms.length := fun {ms} => by
    induction ms with
    | nil => intro ds s s' h; cases ds with | nil => rfl | cons => cases h
    | cons g gs ih =>
      intro ds s s' h
      cases ds with
      | nil => cases h
      | cons d r =>
        unfold gL at h
        cases e : g d s with
        | none => rw [e] at h; cases h
        | some s1 => rw [e] at h; rw [List.length_cons, List.length_cons, ih h]
  obtain ⟨a, vs, e1, g, r2⟩ := h
  exact ⟨a, vs, e1, g.elim (fun g => .of g.2) .inr, by rw [r2.length, len e, hn], r y G W S H σ st ds vs _ R r2 ⟨st', e, q⟩⟩
theorem rs_tgt {js : List Nat} {g : TG} {mg : PyData → MS → Option MS} (r : RE K C E .s te m) (rg : RG K C js g mg) : RS K C E (tAsg te g) (mTgt mg m) := by
  intro y G W S H σ st D R h
  show te σ H _
  refine r.uS (P := fun o => PostS K C E y G W o D) ipS .rfl R h fun d s S1 v H1 R1 h1 => ?_
  obtain ⟨s', e, h1⟩ := ofO_ex (P := fun o : SOut => PostS K C E y G W o D) (ipS (σ := σ) (G := G) (W := W)).b h1
  exact rg y G W S1 H1 σ s d v _ R1.tl R1.hd ⟨s', e, fun σ' R' _ => h1 S1 σ' H1 R'⟩
theorem rs_aug {r : TIp} {f : PyData → PyData → Option PyData} (rb : RE K C E .b te m) (ok : OpOk K C .s r f) (hi : i < C.n := by decide) (hp : C.ps.contains i = false := by rfl) : RS K C E (tAug i te r) (mAug f i m) := by
  intro y G W S H σ st D R h
  unfold mAug at h
  split at h
  · rename_i dx e
    obtain ⟨v, e1, r1⟩ := R.shV e
    refine ⟨v, e1, ?_⟩
    refine rb.uB (P := fun o => PostS K C E y G W o D) ipS (.g .rfl) (R.addG r1) h fun dz s S1 z H1 R1 b1 h1 => ?_
    obtain ⟨d, e2, h1⟩ := ofO_ex (P := fun o : SOut => PostS K C E y G W o D) (ipS (σ := σ) (G := G) (W := W)).b h1
    refine ok E y G W S1 H1 σ s v z dx dz _ R1.tl (.inl R1.hd) b1 ?_
    rw [e2]
    exact fun S2 v2 H2 R2 => h1 S2 _ H2 (R2.setS hi hp).tl
  · exact h.elim
/-! ### two, three names at once -/
def tmpG : Md → PyData → V → List (PyData × V) → List (PyData × V)
  | .f, _, _, G => G
  | _, d, v, G => (d, v) :: G
def tmpW : Md → PyData → Addr → List (PyData × Addr) → List (PyData × Addr)
  | .f, d, a, W => (d, a) :: W
  | _, _, _, W => W
/-- s or f -/
def isSF : Md → Bool
  | .b => false
  | _ => true
theorem wkTmp (w : Wk K C y G W G' W') : Wk K C y G W (tmpG md d v G') (tmpW md d a W') := by
  cases md
  · exact w.g
  · exact w.g
  · exact w.t
theorem use_tmp {β : Type} [EB β] {P : β → Prop} (hm : isSF md = true) (r : RE K C E md te m) {k : PyData → MS → β} (ip : IP K C E y G W σ P) (w : Wk K C y G W G' W') (R : Rel K C y G' W' S H σ st) (h : P ((m st).bd k)) (nx : ∀ d st' S' v a H', (md = .f → v = .ref a) → Rel K C y (tmpG md d v G') (tmpW md d a W') S' H' σ st' → P (k d st') → Q v H') : te σ H Q := by
  cases md with
  | b => cases hm
  | s => exact r.uS ip w R h fun d s S1 v H1 R1 h1 => nx d s S1 v 0 H1 (fun e => by cases e) R1 h1
  | f => exact r.uF ip w R h fun d s S1 a H1 R1 h1 => nx d s S1 _ a H1 (fun _ => rfl) R1 h1
theorem Rel.setM (hm : isSF md = true) (R : Rel K C y (tmpG md d v G) (tmpW md d a W) S H σ st) (e : md = .f → v = .ref a) (hi : i < C.n) (hp : C.ps.contains i = false) : Rel K C y G W S H (σ.set i (some v)) (st.set i (some (cellOf md d))) := by
  cases md with
  | b => cases hm
  | s => exact (Rel.setS R hi hp).tl
  | f => rw [e rfl]; exact Rel.setT R hi hp
theorem rs_par {p q : Md} (ra : RE K C E p ta ma) (rb : RE K C E q tb mb) (hp : isSF p = true := by rfl) (hq : isSF q = true := by rfl) (hi : i < C.n := by decide) (hj : j < C.n := by decide) (hij : i ≠ j := by decide) (h1 : C.ps.contains i = false := by rfl) (h2 : C.ps.contains j = false := by rfl) :
    RS K C E (tPar i j (tCons ta (tCons tb tNil))) (mPar i j p q ma mb) := by
  intro y G W S H σ st D R h
  show ta σ H _
  refine use_tmp hp ra (P := fun o => PostS K C E y G W o D) ipS .rfl R h fun d s S1 v a H1 ea R1 h1' => ?_
  refine use_tmp hq rb (P := fun o => PostS K C E y G W o D) ipS (wkTmp .rfl) R1 h1' fun e s2 S2 w b H2 eb R2 h2' => ?_
  refine ⟨v, w, rfl, ?_⟩
  have z := (R2.setM hq eb hj h2).setM hp ea hi h1
  rw [List.set_comm _ _ hij.symm, List.set_comm _ _ hij.symm] at z
  exact h2' S2 _ H2 z
theorem rs_par3 {p q r : Md} (ra : RE K C E p ta ma) (rb : RE K C E q tb mb) (rc : RE K C E r tc mc) (hp : isSF p = true := by rfl) (hq : isSF q = true := by rfl) (hr : isSF r = true := by rfl) (hi : i < C.n := by decide) (hj : j < C.n := by decide) (hl : l < C.n := by decide) (hij : i ≠ j := by decide) (hil : i ≠ l := by decide) (hjl : j ≠ l := by decide)
    (h1 : C.ps.contains i = false := by rfl) (h2 : C.ps.contains j = false := by rfl) (h3 : C.ps.contains l = false := by rfl) :
    RS K C E (tPar3 i j l (tCons ta (tCons tb (tCons tc tNil)))) (mPar3 i j l p q r ma mb mc) := by
  intro y G W S H σ st D R h
  show ta σ H _
  refine use_tmp hp ra (P := fun o => PostS K C E y G W o D) ipS .rfl R h fun d s S1 v a H1 ea R1 h1' => ?_
  refine use_tmp hq rb (P := fun o => PostS K C E y G W o D) ipS (wkTmp .rfl) R1 h1' fun e s2 S2 w b H2 eb R2 h2' => ?_
  refine use_tmp hr rc (P := fun o => PostS K C E y G W o D) ipS (wkTmp (wkTmp .rfl)) R2 h2' fun f s3 S3 u c H3 ec R3 h3' => ?_
  refine ⟨v, w, u, rfl, ?_⟩
  have z := ((R3.setM hr ec hl h3).setM hq eb hj h2).setM hp ea hi h1
  rw [List.set_comm _ _ hjl.symm, List.set_comm _ _ hil.symm, List.set_comm _ _ hij.symm, List.set_comm _ _ hjl.symm, List.set_comm _ _ hil.symm, List.set_comm _ _ hij.symm] at z
  exact h3' S3 _ H3 z
/-! ### lists of one's own -/
theorem Rel.ownL (R : Rel K C y G W S H σ st) {ds : List PyData} (h : MV.ownL st i = some ds) : ∃ a vs, Owns σ st i a ∧ H a = some (.lst vs) ∧ Dvs K S H ds vs ∧ a ∈ S := by
  have q : isOwn st[i]? = true ∧ ∀ d, (st[i]? = some (some (.ow d)) ∨ st[i]? = some (some (.io d))) → d = .list ds := by
    unfold MV.ownL at h
    split at h
    · rename_i ds' e
      cases h
      refine ⟨by rw [e]; rfl, fun d q => ?_⟩
      rcases q with q | q <;> rw [e] at q <;> cases q; rfl
    · rename_i ds' e
      cases h
      refine ⟨by rw [e]; rfl, fun d q => ?_⟩
      rcases q with q | q <;> rw [e] at q <;> cases q; rfl
    · cases h
  obtain ⟨a, d, e, m, r, z⟩ := cell_own (R.cell i) q.1
  have e2 : d = .list ds := q.2 d (z.imp And.left And.left)
  subst e2
  rcases r with ⟨ds', vs, e3, g, r⟩ | ⟨ks, vs, e3, _⟩
  · cases e3; exact ⟨a, vs, ⟨e, q.1⟩, g, r, m⟩
  · cases e3
theorem Rel.ownSt (R : Rel K C y G W S H σ st) (o : Owns σ st' i a) {ds : List PyData} (h : MV.ownL st i = some ds) : ∃ vs, Owns σ st i a ∧ H a = some (.lst vs) ∧ Dvs K S H ds vs ∧ a ∈ S := by
  obtain ⟨b, vs, ob, g, r, m⟩ := R.ownL h
  have := ob.1
  rw [o.1] at this
  cases this
  exact ⟨vs, ob, g, r, m⟩
theorem rs_app (r : RE K C E .s te m) : RS K C E (tDrop (tBM K "list" rAppend (tVar i) (tCons te tNil))) (mApp i m) := by
  intro y G W S H σ st D R h
  unfold mApp at h
  split at h
  · exact h.elim
  · rename_i ds0 e0
    obtain ⟨a, vs0, o, g0, r0, m0⟩ := R.ownL e0
    refine ⟨_, o.1, .inl ⟨rfl, vs0, .of g0⟩, ?_⟩
    refine r.uS (P := fun o => PostS K C E y G W o D) ipS .rfl R h fun d s S1 v H1 R1 h1 => ?_
    split at h1
    · rename_i ds e
      split at h1
      · rename_i l
        obtain ⟨vs, o1, g1, r1, m1⟩ := R1.ownSt o e
        refine ⟨a, vs, v, rfl, rfl, g1, by rw [lim_eq, r1.length]; exact l, ?_⟩
        exact h1 S1 σ _ (R1.muV o1 (.inl ⟨_, _, rfl, upd_same, (Stp.put m1).dvs (r1.app (Dvs.one R1.hd))⟩)).tl
      · exact h1.elim
    · exact h1.elim
theorem rs_ext (r : RE K C E .s te m) : RS K C E (tDrop (tBM K "list" rExtend (tVar i) (tCons te tNil))) (mExt i m) := by
  intro y G W S H σ st D R h
  unfold mExt at h
  split at h
  · exact h.elim
  · rename_i ds0 e0
    obtain ⟨a, vs0, o, g0, r0, m0⟩ := R.ownL e0
    refine ⟨_, o.1, .inl ⟨rfl, vs0, .of g0⟩, ?_⟩
    refine r.uS (P := fun o => PostS K C E y G W o D) ipS .rfl R h fun d s S1 v H1 R1 h1 => ?_
    split at h1
    · rename_i ds es e
      split at h1
      · rename_i l
        obtain ⟨vs, o1, g1, r1, m1⟩ := R1.ownSt o e
        obtain ⟨b, ws, e3, ⟨_, g3⟩, r3⟩ := R1.hd
        refine ⟨a, b, vs, ws, rfl, by rw [e3], g1, g3, by rw [lim_eq, r1.length, r3.length]; exact l, ?_⟩
        exact h1 S1 σ _ (R1.muV o1 (.inl ⟨_, _, rfl, upd_same, (Stp.put m1).dvs (r1.app r3)⟩)).tl
      · exact h1.elim
    · exact h1.elim
theorem re_pop : RE K C E .s (tBM0 K "list" rPop (tVar i)) (mPop i) := by
  intro y G W S H σ st Q R h
  unfold mPop at h
  split at h
  · rename_i ds e
    split at h
    · rename_i d e2
      obtain ⟨a, vs, o, g, r, mm⟩ := R.ownL e
      obtain ⟨pre, rfl⟩ := List.getLast?_eq_some_iff.mp e2
      obtain ⟨v1, v2, rfl, r1, v, ws, e4, r2, e5⟩ := r.app_inv
      cases e5
      subst e4
      refine ⟨_, o.1, .inl ⟨rfl, _, .of g⟩, a, _, v, rfl, rfl, g, by simp, ?_⟩
      rw [List.dropLast_concat]
      rw [List.dropLast_concat] at h
      have z := (R.addG r2).muV o (u := .lst v1) (d := .list pre) (.inl ⟨_, _, rfl, upd_same, (Stp.put mm).dvs r1⟩)
      exact h S v _ z
    · exact h.elim
  · exact h.elim
theorem rs_setIx {tk : TE} {k : MS → Out PyData} (r : RE K C E .s te m) (rk : RE K C E .s tk k) : RS K C E (tAsg te (gSub (tVar i) tk rSetL)) (mSetIx i k m) := by
  intro y G W S H σ st D R h
  show te σ H _
  refine r.uS (P := fun o => PostS K C E y G W o D) ipS .rfl R h fun d s S1 v H1 R1 h1 => ?_
  split at h1
  · exact h1.elim
  · rename_i ds0 e0
    obtain ⟨a, vs0, o, g0, r0, m0⟩ := R1.ownL e0
    refine ⟨_, o.1, ?_⟩
    refine rk.uS (P := fun o => PostS K C E y G W o D) ipS (.g .rfl) R1 h1 fun dj s2 S2 w H2 R2 h2 => ?_
    split at h2
    · rename_i ds j e
      obtain ⟨vs, o1, g1, r1, m1⟩ := R2.ownSt o e
      obtain ⟨n, e2, h2⟩ := ofO_ex (P := fun o : SOut => PostS K C E y G W o D) (ipS (σ := σ) (G := G) (W := W)).b h2
      refine ⟨a, vs, j, n, rfl, R2.hd, g1, by rw [r1.length]; exact e2, ?_⟩
      exact h2 S2 σ _ ((R2.tl).muV o1 (.inl ⟨_, _, rfl, upd_same, (Stp.put m1).dvs (r1.set n R2.tl.hd)⟩)).tl
    · exact h2.elim
/-! ### loops -/
theorem rs_while (rc : RT K C E tt mt) (rb : RS K C E t s1) : RS K C E (tWhile tt t) (mWhile mt s1) := by
  intro y G W S H σ st D R h
  unfold mWhile at h
  refine ⟨fun n σ H => ∃ S st, Rel K C y G W S H σ st ∧ PostS K C E y G W (whileN mt s1 n st) D, ⟨fuel, S, st, R, h⟩, ?_⟩
  rintro n σ1 H1 ⟨S1, st1, R1, h1⟩
  cases n with
  | zero => exact h1.elim
  | succ n =>
    unfold whileN at h1
    refine rc.u (P := fun o => PostS K C E y G W o D) ipS .rfl R1 h1 fun b s S2 H2 R2 h2 => ?_
    cases b with
    | false => exact (if_neg Bool.false_ne_true).mpr (h2 S2 σ1 H2 R2)
    | true =>
      refine (if_pos rfl).mpr ⟨fun σ H => ∃ S st, Rel K C y G W S H σ st ∧ PostS K C E y G W (whileN mt s1 n st) D, fun σ' H' q => ⟨n, Nat.lt_succ_self n, q⟩, ?_⟩
      refine rb y G W S2 H2 σ1 s _ R2 ?_
      rw [if_pos rfl] at h2
      generalize s1 s = o at h2 ⊢
      cases o with
      | nx s2 => exact fun S3 σ3 H3 R3 => ⟨S3, s2, R3, h2⟩
      | ct s2 => exact fun S3 σ3 H3 R3 => ⟨S3, s2, R3, h2⟩
      | _ => exact h2
theorem items_dv {J : It} {g : List (PyData × V)} {ds : List PyData} (h : Items K J g ds) (R : Rel K C y (g ++ G) W S H σ st) : ∀ n : Nat, (∀ d, ds[n]? = some d → J.go n H ∧ ∀ x H', J.yld n H x H' → Rel K C y (g ++ G) W S H' σ st ∧ Dv K S H' d x) ∧ (n = ds.length → J.stop n H) := fun n => by
  obtain ⟨h1, h2⟩ := h S H (fun a m => (R.dom a m).tab.2.2) (fun q m => R.gd q (List.mem_append_left _ m)) n
  refine ⟨fun d e => ⟨(h1 d e).1, fun x H' y' => ?_⟩, h2⟩
  obtain ⟨q, r⟩ := (h1 d e).2 x H' y'
  rcases q with q | ⟨p, vs, hp, q⟩
  · subst q; exact ⟨R, r⟩
  · subst q; exact ⟨R.new hp, r⟩
theorem rs_for {js : List Nat} {wi : TI} {mi : MS → Out (List PyData)} {g : TG} {mg : PyData → MS → Option MS} (ri : RI K C E wi mi) (rg : RG K C js g mg) (rb : RS K C E t s1) : RS K C E (tFor wi g t) (mFor mi mg s1) := by
  intro y G W S H σ st D R h
  show wi σ H _
  refine ri.u (P := fun o => PostS K C E y G W o D) ipS .rfl R h fun ds s S1 H1 J gg R1 it h1 => ?_
  refine ⟨fun n m σ H => n + m = ds.length ∧ ∃ S st, Rel K C y (gg ++ G) W S H σ st ∧ PostS K C E y G W (forL mg s1 (ds.drop n) st) D, ⟨ds.length, by omega, S1, s, R1, h1⟩, ?_⟩
  rintro n m σ2 H2 ⟨hl, S2, s2, R2, h2⟩
  obtain ⟨i1, i2⟩ := items_dv it R2 n
  cases e : ds[n]? with
  | none =>
    have l := List.getElem?_eq_none_iff.mp e
    rw [List.drop_eq_nil_of_le l] at h2
    exact .inl ⟨i2 (by omega), h2 S2 σ2 H2 (Wk.app .rfl _ _ _ _ R2)⟩
  | some d =>
    have l := (List.getElem?_eq_some_iff.mp e).1
    obtain ⟨j1, j2⟩ := i1 d e
    have ed : ds.drop n = d :: ds.drop (n + 1) := by
      rw [List.drop_eq_getElem_cons l, (List.getElem?_eq_some_iff.mp e).2]
    rw [ed] at h2
    unfold forL at h2
    cases eg : mg d s2 with
    | none => rw [eg] at h2; exact h2.elim
    | some s3 =>
      rw [eg] at h2
      refine .inr ⟨j1, fun σ H => ∃ S st, Rel K C y (gg ++ G) W S H σ st ∧ PostS K C E y G W (forL mg s1 (ds.drop (n + 1)) st) D, fun σ' H' q => ⟨m - 1, by omega, by omega, q⟩, fun x H3 y3 => ?_⟩
      obtain ⟨R3, dv⟩ := j2 x H3 y3
      refine rg y (gg ++ G) W S2 H3 σ2 s2 d x _ R3 dv ⟨s3, eg, fun σ3 R4 _ => ?_⟩
      refine rb y (gg ++ G) W S2 H3 σ3 s3 _ R4 ?_
      have h2 : PostS K C E y G W (match s1 s3 with
        | .nx s => forL mg s1 (ds.drop (n + 1)) s
        | .ct s => forL mg s1 (ds.drop (n + 1)) s
        | .brk s => .nx s
        | o => o) D := h2
      generalize s1 s3 = o at h2 ⊢
      cases o with
      | nx s4 => exact fun S4 σ4 H4 R5 => ⟨S4, s4, R5, h2⟩
      | ct s4 => exact fun S4 σ4 H4 R5 => ⟨S4, s4, R5, h2⟩
      | brk s4 => exact fun S4 σ4 H4 R5 => h2 S4 σ4 H4 (Wk.app .rfl _ _ _ _ R5)
      | ret d s4 => exact postS_w (o := .ret d s4) (D := { D with nx := _, ct := _, bk := _ }) (Wk.app .rfl) h2
      | err c fs s4 => exact postS_w (o := .err c fs s4) (D := { D with nx := _, ct := _, bk := _ }) (Wk.app .rfl) h2
      | bad => exact h2
end
end MV

set_option Elab.async false
set_option linter.all false
set_option maxRecDepth 100000
set_option maxHeartbeats 2000000
/-! VG: what a loop walks, comprehensions, calls, a def's body. -/
namespace MV
open PySem PySem.Spec PyProof.Rows L2 FR
/-- a list, a tuple or a text, item by item -/
def seqD : PyData → Option (List PyData)
  | .list ds => some ds
  | .tuple ds => some ds
  | .str z => some (z.cps.toList.map fun c => .str ⟨#[c]⟩)
  | _ => none
def mIt (m : MS → Out PyData) (st : MS) : Out (List PyData) := (m st).bd fun d s => ofO (seqD d) s
def rngB (lo hi : Int) : List PyData := (List.range (hi - lo).toNat).map fun i => .int (lo + (i : Nat))
def small (i : Int) : Bool := decide (-(2 ^ 62) ≤ i) && decide (i < 2 ^ 62)
def mRng1 (m : MS → Out PyData) (st : MS) : Out (List PyData) := (m st).bd fun d s => match d with
  | .int j => if small j = true then .ok (rngB 0 j) s else .bad
  | _ => .bad
def mRng2 (a b : MS → Out PyData) (st : MS) : Out (List PyData) := (a st).bd fun d s => (b s).bd fun e s => match d, e with
  | .int i, .int j => if small i = true ∧ small j = true then .ok (rngB i j) s else .bad
  | _, _ => .bad
def pairs : List PyData → List PyData → List PyData
  | d :: ds, e :: es => .tuple [d, e] :: pairs ds es
  | _, _ => []
def mZip (a b : MS → Out PyData) (st : MS) : Out (List PyData) := (a st).bd fun d s => (b s).bd fun e s => match seqD d, seqD e with
  | some ds, some es => .ok (pairs ds es) s
  | _, _ => .bad
def enumF (k : Nat) : List PyData → List PyData
  | [] => []
  | d :: r => .tuple [.int (k : Nat), d] :: enumF (k + 1) r
def mEnum (a : MS → Out PyData) (st : MS) : Out (List PyData) := (a st).bd fun d s => ofO ((seqD d).map (enumF 0)) s
section
variable {K : PySem.W.Frag} {C : Ct} {E : WX} {y : Dy} {G G' : List (PyData × V)} {W W' : List (PyData × Addr)} {S S' : List Addr} {H H' H0 : Hp} {σ : L2.St} {st st' : MS} {d d' : PyData} {a p : Addr} {v x z : V} {i j l : Nat} {md : Md} {Q : VK} {te ta tb tc : TE} {m ma mb mc : MS → Out PyData}
theorem ri_any (r : RE K C E .s te m) : RI K C E (iAny K te) (mIt m) := by
  intro y G W S H σ st R0 R h
  show te σ H _
  refine r.uS (P := fun o => PostI K C E y G W σ o R0) ipI .rfl R h fun d s S1 v H1 R1 h1 => ?_
  cases d <;> try exact h1.elim
  · rename_i w
    refine .inr (.inr ⟨w, R1.hd, h1 S1 H1 _ [] R1.tl fun S H _ hg i => ?_⟩)
    refine ⟨fun d e => ?_, fun l => by show w.cps.size ≤ i; rw [List.length_map, Array.length_toList] at l; omega⟩
    rw [List.getElem?_map] at e
    cases q : w.cps.toList[i]? with
    | none => rw [q] at e; cases e
    | some c =>
      rw [q] at e; cases e
      have hc : w.cps[i]? = some c := by rw [← Array.getElem?_toList]; exact q
      refine ⟨(Array.getElem?_eq_some_iff.mp hc).1, fun x' H' ⟨e1, c', h1, h2⟩ => ?_⟩
      rw [hc] at h1; cases h1
      subst e1 h2
      exact ⟨.inl rfl, rfl⟩
  · rename_i ds
    obtain ⟨a, vs, e, ⟨n, g⟩, rd⟩ := R1.hd
    subst e
    refine .inl ⟨a, rfl, ⟨vs, .of g⟩, h1 S1 H1 _ [(.list ds, .ref a)] R1 fun S H _ hg i => ?_⟩
    obtain ⟨a', vs, e, ⟨n, g⟩, rd⟩ := hg _ (.head _)
    cases e
    refine ⟨fun d e => ?_, fun l => ⟨vs, .of g, by rw [rd.length]; omega⟩⟩
    obtain ⟨x, ex, rx⟩ := rd.to e
    refine ⟨⟨vs, x, .of g, ex⟩, fun x' H' ⟨e1, e2⟩ => ?_⟩
    subst e1
    have := e2 vs (.of g)
    rw [ex] at this; cases this
    exact ⟨.inl rfl, rx⟩
  · rename_i ds
    obtain ⟨a, vs, e, q, rd⟩ := R1.hd
    have g : SqT K H1 a vs := q.elim (fun q => .of q.2) .inr
    subst e
    refine .inr (.inl ⟨a, rfl, ⟨vs, g⟩, h1 S1 H1 _ [(.tuple ds, .ref a)] R1 fun S H _ hg i => ?_⟩)
    obtain ⟨a', vs, e, q, rd⟩ := hg _ (.head _)
    have g : SqT K H a' vs := q.elim (fun q => .of q.2) .inr
    cases e
    refine ⟨fun d e => ?_, fun l => ⟨vs, g, by rw [rd.length]; omega⟩⟩
    obtain ⟨x, ex, rx⟩ := rd.to e
    refine ⟨⟨vs, x, g, ex⟩, fun x' H' ⟨e1, e2⟩ => ?_⟩
    subst e1
    have := e2 vs g
    rw [ex] at this; cases this
    exact ⟨.inl rfl, rx⟩
theorem rng_items {lo : Int} {n : Nat} : Items K (Itr lo n) [] ((List.range n).map fun i => .int (lo + (i : Nat))) := fun S H _ _ i => by
  refine ⟨fun d e => ?_, fun l => by rw [List.length_map, List.length_range] at l; exact Nat.le_of_eq l.symm⟩
  rw [List.getElem?_map] at e
  cases q : (List.range n)[i]? with
  | none => rw [q] at e; cases e
  | some k =>
    rw [q] at e; cases e
    obtain ⟨l, q⟩ := List.getElem?_eq_some_iff.mp q
    rw [List.getElem_range] at q
    subst q
    rw [List.length_range] at l
    exact ⟨l, fun x H' ⟨e1, e2⟩ => ⟨.inl e1, e2⟩⟩
theorem small_of {i : Int} (h : small i = true) : -(2 ^ 62) ≤ i ∧ i < 2 ^ 62 := by
  unfold small at h
  simpa using h
theorem ri_rng1 (r : RE K C E .s ta ma) : RI K C E (iRng1 (tCons ta tNil)) (mRng1 ma) := by
  intro y G W S H σ st R0 R h
  show ta σ H _
  refine r.uS (P := fun o => PostI K C E y G W σ o R0) ipI .rfl R h fun d s S1 v H1 R1 h1 => ?_
  cases d <;> try exact h1.elim
  rename_i j
  have h1 : PostI K C E y G W σ (if small j = true then .ok (rngB 0 j) s else .bad) R0 := h1
  split at h1
  · rename_i c
    exact ⟨j, by rw [show v = _ from R1.hd], (small_of c).1, (small_of c).2, h1 S1 H1 _ [] R1.tl (by
      unfold rngB
      rw [Int.sub_zero]
      exact rng_items)⟩
  · exact h1.elim
theorem ri_rng2 (r : RE K C E .s ta ma) (r' : RE K C E .s tb mb) : RI K C E (iRng2 (tCons ta (tCons tb tNil))) (mRng2 ma mb) := by
  intro y G W S H σ st R0 R h
  show ta σ H _
  refine r.uS (P := fun o => PostI K C E y G W σ o R0) ipI .rfl R h fun d s S1 v H1 R1 h1 => ?_
  refine r'.uS (P := fun o => PostI K C E y G W σ o R0) ipI (.g .rfl) R1 h1 fun e s2 S2 w H2 R2 h2 => ?_
  split at h2
  · rename_i i j
    split at h2
    · rename_i c
      exact ⟨i, j, by rw [show v = _ from R2.tl.hd, show w = _ from R2.hd], ⟨(small_of c.1).1, (small_of c.1).2, (small_of c.2).1, (small_of c.2).2⟩, h2 S2 H2 _ [] R2.tl.tl rng_items⟩
    · exact h2.elim
  · exact h2.elim
theorem pairs_at : ∀ {ds es : List PyData} {i : Nat} {d : PyData}, (pairs ds es)[i]? = some d → ∃ a b, ds[i]? = some a ∧ es[i]? = some b ∧ d = .tuple [a, b]
  | [], _, i, d, h => by cases h
  | _ :: _, [], i, d, h => by cases h
  | a :: ds, b :: es, 0, d, h => by cases h; exact ⟨a, b, rfl, rfl, rfl⟩
  | a :: ds, b :: es, i + 1, d, h => pairs_at (ds := ds) (es := es) (i := i) h
theorem pairs_len : ∀ {ds es : List PyData}, (pairs ds es).length = min ds.length es.length
  | [], _ => by simp [pairs]
  | _ :: _, [] => by simp [pairs]
  | a :: ds, b :: es => by
    show (pairs ds es).length + 1 = _
    rw [pairs_len, List.length_cons, List.length_cons]
    omega
theorem dv_pair {b : V} {d' : PyData} (hp : H p = none) (n : p ∉ S) (h1 : Dv K S H d v) (h2 : Dv K S H d' b) : Dv K S (upd H p (.tup [v, b])) (.tuple [d, d']) (.ref p) :=
  ⟨p, _, rfl, .inl ⟨n, upd_same⟩, _, _, rfl, (Stp.new0 hp).dv h1, _, _, rfl, (Stp.new0 hp).dv h2, rfl⟩
/-- of one value one kind -/
def zvOf : PyData → V → ZV
  | .list _, .ref a => .lst a
  | .tuple _, .ref a => .tpl a
  | .str z, _ => .txt z
  | _, _ => .txt ⟨#[]⟩
theorem seq_zv2 {ds : List PyData} (h : seqD d = some ds) (r : Dv K S H d v) : v = (zvOf d v).v ∧ ∃ xs : List V, (zvOf d v).seq K H xs ∧ Dvs K S H ds xs := by
  cases d <;> try cases h
  · rename_i z
    have r : v = .str z := r
    refine ⟨r, signsV z, rfl, ?_⟩
    unfold signsV
    have go : ∀ l : List Nat, Dvs K S H (l.map fun c => PyData.str ⟨#[c]⟩) (l.map fun c => V.str ⟨#[c]⟩) := fun l => by
      induction l with
      | nil => exact rfl
      | cons c l ih => exact ⟨_, _, rfl, rfl, ih⟩
    exact go _
  · obtain ⟨a, vs, e, ⟨n, g⟩, rd⟩ := r
    subst e
    exact ⟨rfl, vs, .of g, rd⟩
  · obtain ⟨a, vs, e, q, rd⟩ := r
    subst e
    exact ⟨rfl, vs, q.elim (fun q => .of q.2) .inr, rd⟩
theorem ri_zip (r : RE K C E .s ta ma) (r' : RE K C E .s tb mb) : RI K C E (iZipM K (tCons ta (tCons tb tNil))) (mZip ma mb) := by
  intro y G W S H σ st R0 R h
  show ta σ H _
  refine r.uS (P := fun o => PostI K C E y G W σ o R0) ipI .rfl R h fun d s S1 v H1 R1 h1 => ?_
  refine r'.uS (P := fun o => PostI K C E y G W σ o R0) ipI (.g .rfl) R1 h1 fun e s2 S2 w H2 R2 h2 => ?_
  cases ed : seqD d with
  | none => rw [ed] at h2; exact h2.elim
  | some ds =>
    cases ee : seqD e with
    | none => rw [ed, ee] at h2; exact h2.elim
    | some es =>
      rw [ed, ee] at h2
      obtain ⟨e1, xs, q1, _⟩ := seq_zv2 ed R2.tl.hd
      obtain ⟨e2, ys, q2, _⟩ := seq_zv2 ee R2.hd
      refine ⟨zvOf d v, zvOf e w, xs, ys, by rw [← e1, ← e2], q1, q2, h2 S2 H2 _ [(e, w), (d, v)] R2 fun S H hS hg i => ?_⟩
      obtain ⟨_, xs, q1, r1⟩ := seq_zv2 ed (hg _ (.tail _ (.head _)))
      obtain ⟨_, ys, q2, r2⟩ := seq_zv2 ee (hg _ (.head _))
      refine ⟨fun d e => ?_, fun l => ⟨xs, ys, q1, q2, ?_⟩⟩
      · obtain ⟨d1, d2, e1, e2, rfl⟩ := pairs_at e
        obtain ⟨x, ex, rx⟩ := r1.to e1
        obtain ⟨z, ez, rz⟩ := r2.to e2
        refine ⟨⟨xs, ys, x, z, q1, q2, ex, ez⟩, fun x' H' ⟨T, x2, z2, e3, hT, e4, k1, k2⟩ => ?_⟩
        have k1 := k1 xs q1
        have k2 := k2 ys q2
        rw [ex] at k1; cases k1
        rw [ez] at k2; cases k2
        subst e3 e4
        exact ⟨.inr ⟨T, _, hT, rfl⟩, dv_pair hT (fun m => hS T m hT) rx rz⟩
      · rw [pairs_len] at l
        rw [r1.length, r2.length]
        omega
theorem enumF_at : ∀ {ds : List PyData} {k i : Nat} {d : PyData}, (enumF k ds)[i]? = some d → ∃ a, ds[i]? = some a ∧ d = .tuple [.int ((k + i : Nat) : Int), a]
  | [], _, i, d, h => by cases h
  | a :: ds, k, 0, d, h => by cases h; exact ⟨a, rfl, rfl⟩
  | a :: ds, k, i + 1, d, h => by
    obtain ⟨b, e1, e2⟩ := enumF_at (ds := ds) (k := k + 1) (i := i) h
    exact ⟨b, e1, by rw [e2]; congr 3; omega⟩
theorem enumF_len : ∀ {ds : List PyData} {k : Nat}, (enumF k ds).length = ds.length
  | [], _ => rfl
  | a :: ds, k => by
    show (enumF (k + 1) ds).length + 1 = _
    rw [enumF_len]; rfl
theorem ri_enum (r : RE K C E .s ta ma) : RI K C E (iEnumM K (tCons ta tNil)) (mEnum ma) := by
  intro y G W S H σ st R0 R h
  show ta σ H _
  refine r.uS (P := fun o => PostI K C E y G W σ o R0) ipI .rfl R h fun d s S1 v H1 R1 h1 => ?_
  cases ed : seqD d with
  | none => rw [ed] at h1; exact h1.elim
  | some ds =>
    rw [ed] at h1
    obtain ⟨e1, xs, q1, _⟩ := seq_zv2 ed R1.hd
    refine ⟨zvOf d v, xs, by rw [← e1], q1, h1 S1 H1 _ [(d, v)] R1 fun S H hS hg i => ?_⟩
    obtain ⟨_, xs, q1, r1⟩ := seq_zv2 ed (hg _ (.head _))
    refine ⟨fun d e => ?_, fun l => ⟨xs, q1, by rw [enumF_len] at l; rw [r1.length]; exact l⟩⟩
    obtain ⟨d1, e1, rfl⟩ := enumF_at e
    obtain ⟨x, ex, rx⟩ := r1.to e1
    refine ⟨⟨xs, x, q1, ex⟩, fun x' H' ⟨T, x2, e3, hT, e4, k1⟩ => ?_⟩
    have k1 := k1 xs q1
    rw [ex] at k1; cases k1
    subst e3 e4
    refine ⟨.inr ⟨T, _, hT, rfl⟩, dv_pair hT (fun m => hS T m hT) ?_ rx⟩
    rw [Nat.zero_add]
    exact rfl
/-! ### comprehensions -/
def wipeM (st : MS) : List Nat → MS
  | [] => st
  | v :: vs => (wipeM st vs).set v none
def restM (s0 s : MS) : List Nat → MS
  | [] => s
  | v :: vs => (restM s0 s vs).set v (s0[v]?).join
def shC : Option (Option Cell) → Bool
  | some (some (.sh _)) => true
  | some (some _) => false
  | _ => true
def shOnly (s : MS) (vs : List Nat) : Bool := vs.all fun v => shC s[v]?
/-- nothing is raised out of a comprehension -/
def noE {α : Type} : Out α → Out α
  | .ok a s => .ok a s
  | _ => .bad
def lcL (mg : PyData → MS → Option MS) (mt : MS → Out Bool) (me : MS → Out PyData) (vs : List Nat) : List PyData → List PyData → MS → Out (List PyData)
  | [], acc, st => .ok acc st
  | d :: r, acc, st => match mg d st with
    | none => .bad
    | some s => (noE (mt s)).bd fun b s => if b = true then (noE (me s)).bd fun e s => if acc.length < LIM then lcL mg mt me vs r (acc ++ [e]) (wipeM s vs) else .bad else lcL mg mt me vs r acc (wipeM s vs)
def mLc (mi : MS → Out (List PyData)) (mg : PyData → MS → Option MS) (mt : MS → Out Bool) (me : MS → Out PyData) (vs : List Nat) (st : MS) : Out PyData :=
  (mi st).bd fun ds s0 => if shOnly s0 vs = true then (lcL mg mt me vs ds [] (wipeM s0 vs)).bd fun acc s => .ok (.list acc) (restM s0 s vs) else .bad
theorem wipeM_len : ∀ {vs : List Nat}, (wipeM st vs).length = st.length
  | [] => rfl
  | v :: vs => by unfold wipeM; rw [List.length_set, wipeM_len]
theorem wipeM_get : ∀ {vs : List Nat} {i : Nat}, (wipeM st vs)[i]? = if i ∈ vs ∧ i < st.length then some none else st[i]?
  | [], i => by simp [wipeM]
  | v :: vs, i => by
    unfold wipeM
    rw [List.getElem?_set, wipeM_len]
    by_cases e : v = i
    · subst e
      by_cases l : v < st.length
      · simp [l]
      · simp [l]
    · rw [if_neg e, wipeM_get (vs := vs)]
      have : (i ∈ v :: vs) ↔ i ∈ vs := ⟨fun z => (List.mem_cons.mp z).elim (fun q => absurd q.symm e) id, .tail _⟩
      simp only [this]
theorem restM_len {s0 s : MS} : ∀ {vs : List Nat}, (restM s0 s vs).length = s.length
  | [] => rfl
  | v :: vs => by unfold restM; rw [List.length_set, restM_len]
theorem restM_get {s0 s : MS} : ∀ {vs : List Nat} {i : Nat}, (restM s0 s vs)[i]? = if i ∈ vs ∧ i < s.length then some (s0[i]?).join else s[i]?
  | [], i => by simp [restM]
  | v :: vs, i => by
    unfold restM
    rw [List.getElem?_set, restM_len]
    by_cases e : v = i
    · subst e
      by_cases l : v < s.length
      · simp [l]
      · simp [l]
    · rw [if_neg e, restM_get (vs := vs)]
      have : (i ∈ v :: vs) ↔ i ∈ vs := ⟨fun z => (List.mem_cons.mp z).elim (fun q => absurd q.symm e) id, .tail _⟩
      simp only [this]
theorem join_some {α : Type} {o : Option (Option α)} {c : α} (h : some o.join = some (some c)) : o = some (some c) := by
  cases o with
  | none => cases h
  | some q => cases q with
    | none => cases h
    | some c' => cases h; rfl
def unps (C : Ct) (vs : List Nat) : Bool := vs.all fun v => !C.ps.contains v
theorem unps_ne {vs : List Nat} (h : unps C vs = true) (R : Rel K C y G W S H σ st) : ∀ p ∈ y.pin, p.1 ∉ vs := fun p m n => by
  have := List.all_eq_true.mp h p.1 n
  rw [(R.pin p m).1] at this; cases this
theorem Rel.wipeR (R : Rel K C y G W S H σ st) {vs : List Nat} (h : unps C vs = true) : Rel K C y G W S H (wipe σ vs) (wipeM st vs) := by
  have ow : ∀ j a, Owns (wipe σ vs) (wipeM st vs) j a → Owns σ st j a := fun j a q => by
    have q2 := q.2
    have q1 := q.1
    rw [wipeM_get] at q2
    rw [wipe_get] at q1
    by_cases e : j ∈ vs ∧ j < st.length
    · rw [if_pos e] at q2; cases q2
    · rw [if_neg e] at q2
      rw [if_neg (by rw [R.ls, ← R.lt]; exact e)] at q1
      exact ⟨q1, q2⟩
  refine { R with ls := by rw [wipe_length]; exact R.ls, lt := by rw [wipeM_len]; exact R.lt, cell := fun j => ?_, sep := fun j k a p q => R.sep j k a (ow j a p) (ow k a q), sept := fun j a q => R.sept j a (ow j a q), pin := fun p m => ?_ }
  · rw [wipeM_get, wipe_get, R.ls, R.lt]
    by_cases e : j ∈ vs ∧ j < C.n
    · rw [if_pos e, if_pos e]
      intro c q; cases q
    · rw [if_neg e, if_neg e]; exact R.cell j
  · have n := unps_ne h R p m
    rw [wipeM_get, wipe_get, if_neg (fun z => n z.1), if_neg (fun z => n z.1)]
    exact R.pin p m
/-- the block's names as they were -/
theorem Rel.guards {s0 : MS} (R : Rel K C y G W S H σ s0) : ∀ vs : List Nat, shOnly s0 vs = true → ∃ g : List (PyData × V), (∀ q ∈ g, Dv K S H q.1 q.2) ∧ ∀ v ∈ vs, ∀ c, s0[v]? = some (some c) → ∃ d w, c = .sh d ∧ σ[v]? = some (some w) ∧ (d, w) ∈ g
  | [], _ => ⟨[], (fun _ m => nomatch m), fun _ m => nomatch m⟩
  | v :: vs, h => by
    have h' := Bool.and_eq_true_iff.mp (show (shC s0[v]? && shOnly s0 vs) = true from h)
    obtain ⟨g, g1, g2⟩ := R.guards vs h'.2
    have other : (∀ c, s0[v]? ≠ some (some c)) → ∃ g : List (PyData × V), (∀ q ∈ g, Dv K S H q.1 q.2) ∧ ∀ u ∈ v :: vs, ∀ c, s0[u]? = some (some c) → ∃ d w, c = .sh d ∧ σ[u]? = some (some w) ∧ (d, w) ∈ g := fun ne => ⟨g, g1, fun u m c e => (List.mem_cons.mp m).elim (fun z => by subst z; exact absurd e (ne c)) fun m => g2 u m c e⟩
    cases q : s0[v]? with
    | none => exact other fun c e => by rw [q] at e; cases e
    | some o =>
      cases o with
      | none => exact other fun c e => by rw [q] at e; cases e
      | some c =>
        obtain ⟨w, e1, r⟩ := R.cell v c q
        cases c with
        | sh d =>
          refine ⟨(d, w) :: g, fun z m => (List.mem_cons.mp m).elim (fun m => m ▸ r) (g1 z), fun u m c e => (List.mem_cons.mp m).elim (fun z => ?_) fun m => ?_⟩
          · subst z; rw [q] at e; cases e; exact ⟨d, w, rfl, e1, .head _⟩
          · obtain ⟨d', w', h1, h2, h3⟩ := g2 u m c e
            exact ⟨d', w', h1, h2, .tail _ h3⟩
        | _ => rw [q] at h'; cases h'.1
theorem Rel.rest {s0 s : MS} {g : List (PyData × V)} {vs : List Nat} (hl : σ.length = C.n) (h0 : s0.length = C.n) (h : unps C vs = true) (hs : shOnly s0 vs = true) (hg : ∀ v ∈ vs, ∀ c, s0[v]? = some (some c) → ∃ d w, c = .sh d ∧ σ[v]? = some (some w) ∧ (d, w) ∈ g)
    (R : Rel K C y (g ++ G) W S H (wipe σ vs) s) : Rel K C y G W S H σ (restM s0 s vs) := by
  have ow : ∀ j a, Owns σ (restM s0 s vs) j a → Owns (wipe σ vs) s j a := fun j a q => by
    have q2 := q.2
    rw [restM_get] at q2
    by_cases e : j ∈ vs ∧ j < s.length
    · rw [if_pos e] at q2
      obtain ⟨d, z⟩ := isOwn_ex q2
      have z2 : shC s0[j]? = true := List.all_eq_true.mp hs j e.1
      rcases z with z | z <;> (rw [join_some z] at z2; cases z2)
    · rw [if_neg e] at q2
      refine ⟨?_, q2⟩
      rw [wipe_get, if_neg (by rw [hl, ← R.lt]; exact e)]
      exact q.1
  refine { R.subG (G' := G) (fun _ m => List.mem_append_right _ m) with ls := hl, lt := by rw [restM_len]; exact R.lt, cell := fun j => ?_, sep := fun j k a p q => R.sep j k a (ow j a p) (ow k a q), sept := fun j a q => R.sept j a (ow j a q), pin := fun p m => ?_ }
  · rw [restM_get, R.lt]
    by_cases e : j ∈ vs ∧ j < C.n
    · rw [if_pos e]
      intro c q
      obtain ⟨d, w, e1, e2, m⟩ := hg j e.1 c (join_some q)
      subst e1
      exact ⟨w, e2, R.gd _ (List.mem_append_left _ m)⟩
    · rw [if_neg e]
      have := R.cell j
      rw [wipe_get, hl, if_neg e] at this
      exact this
  · have n := unps_ne h R p m
    have := R.pin p m
    rw [wipe_get, if_neg (fun z => n z.1)] at this
    rw [restM_get, if_neg (fun z => n z.1)]
    exact this
theorem Rel.wipeM2 {vs : List Nat} {σ2 : L2.St} (R : Rel K C y G W S H σ2 st) (h : unps C vs = true) (e : wipe σ2 vs = wipe σ vs) : Rel K C y G W S H (wipe σ vs) (wipeM st vs) := by
  rw [← e]; exact R.wipeR h
theorem re_lc {js vs : List Nat} {wi : TI} {mi : MS → Out (List PyData)} {g : TG} {mg : PyData → MS → Option MS} {tt : TT} {mt : MS → Out Bool} (ri : RI K C E wi mi) (rg : RG K C js g mg) (rt : RT K C E tt mt) (re : RE K C E .s te m)
    (hj : js.all vs.contains = true := by rfl) (hu : unps C vs = true := by rfl) : RE K C E .f (tLc wi g tt te vs) (mLc mi mg mt m vs) := by
  intro y G W S H σ st Q R h
  show wi σ H _
  refine ri.u (P := fun o => Post K C E y G W σ .f o Q) ipP .rfl R h fun ds s S1 H1 J gg R1 it h1 => ?_
  intro D hD
  have hs : shOnly s vs = true := by
    by_cases c : shOnly s vs = true
    · exact c
    · rw [if_neg c] at h1; exact h1.elim
  rw [if_pos hs] at h1
  obtain ⟨gv, gv1, gv2⟩ := R1.guards vs hs
  have ls : σ.length = C.n := R1.ls
  have l0 : s.length = C.n := R1.lt
  -- the loop's state: the list so far at D
  have R2 : Rel K C y (gv ++ (gg ++ G)) ((.list [], D) :: W) (D :: S1) (upd H1 D (.lst [])) (wipe σ vs) (wipeM s vs) := by
    have z : Rel K C y (gv ++ (gg ++ G)) W S1 H1 σ s := { R1 with gd := fun q m => (List.mem_append.mp m).elim (gv1 q) (R1.gd q) }
    exact (z.newT hD (.inl ⟨[], [], rfl, upd_same, rfl⟩)).wipeR hu
  have fin : ∀ acc s2, Post K C E y G W σ .f (.ok (.list acc) (restM s s2 vs)) Q → ∀ S2 H2, Rel K C y (gv ++ (gg ++ G)) ((.list acc, D) :: W) S2 H2 (wipe σ vs) s2 → Q (.ref D) H2 := fun acc s2 h2 S2 H2 R3 =>
    h2 S2 D H2 ((Rel.rest ls l0 hu hs gv2 R3).subG fun _ m => List.mem_append_right _ m)
  refine ⟨fun n mm H => n + mm = ds.length ∧ ∃ S acc st, Rel K C y (gv ++ (gg ++ G)) ((.list acc, D) :: W) S H (wipe σ vs) st ∧ Post K C E y G W σ .f ((lcL mg mt m vs (ds.drop n) acc st).bd fun acc s2 => .ok (.list acc) (restM s s2 vs)) Q,
    ⟨ds.length, by omega, D :: S1, [], wipeM s vs, R2, h1⟩, ?_⟩
  rintro n mm H2 ⟨hl, S2, acc, s2, R2, h2⟩
  have R2' : Rel K C y (gg ++ (gv ++ G)) ((.list acc, D) :: W) S2 H2 (wipe σ vs) s2 := R2.subG fun q mq => by
    rcases List.mem_append.mp mq with mq | mq
    · exact List.mem_append_right _ (List.mem_append_left _ mq)
    · rcases List.mem_append.mp mq with mq | mq
      · exact List.mem_append_left _ mq
      · exact List.mem_append_right _ (List.mem_append_right _ mq)
  have back : ∀ {S H σ2 st2 acc}, Rel K C y (gg ++ (gv ++ G)) ((.list acc, D) :: W) S H σ2 st2 → Rel K C y (gv ++ (gg ++ G)) ((.list acc, D) :: W) S H σ2 st2 := fun R => R.subG fun q mq => by
    rcases List.mem_append.mp mq with mq | mq
    · exact List.mem_append_right _ (List.mem_append_left _ mq)
    · rcases List.mem_append.mp mq with mq | mq
      · exact List.mem_append_left _ mq
      · exact List.mem_append_right _ (List.mem_append_right _ mq)
  obtain ⟨i1, i2⟩ := items_dv it R2' n
  cases e : ds[n]? with
  | none =>
    have l := List.getElem?_eq_none_iff.mp e
    rw [List.drop_eq_nil_of_le l] at h2
    exact .inl ⟨i2 (by omega), fin acc s2 h2 S2 H2 R2⟩
  | some d =>
    have l := (List.getElem?_eq_some_iff.mp e).1
    obtain ⟨j1, j2⟩ := i1 d e
    have ed : ds.drop n = d :: ds.drop (n + 1) := by
      rw [List.drop_eq_getElem_cons l, (List.getElem?_eq_some_iff.mp e).2]
    rw [ed] at h2
    unfold lcL at h2
    cases eg : mg d s2 with
    | none => rw [eg] at h2; exact h2.elim
    | some s3 =>
      rw [eg] at h2
      have h2 : Post K C E y G W σ .f (((noE (mt s3)).bd fun b s => if b = true then (noE (m s)).bd fun e s => if acc.length < LIM then lcL mg mt m vs (ds.drop (n + 1)) (acc ++ [e]) (wipeM s vs) else .bad else lcL mg mt m vs (ds.drop (n + 1)) acc (wipeM s vs)).bd fun acc s2 => .ok (.list acc) (restM s s2 vs)) Q := h2
      refine .inr ⟨j1, fun H => ∃ S acc st, Rel K C y (gv ++ (gg ++ G)) ((.list acc, D) :: W) S H (wipe σ vs) st ∧ Post K C E y G W σ .f ((lcL mg mt m vs (ds.drop (n + 1)) acc st).bd fun acc s2 => .ok (.list acc) (restM s s2 vs)) Q, fun H' q => ⟨mm - 1, by omega, by omega, q⟩, fun x H3 y3 => ?_⟩
      obtain ⟨R3, dv⟩ := j2 x H3 y3
      refine rg y _ _ S2 H3 (wipe σ vs) s2 d x _ R3 dv ⟨s3, eg, fun σ3 R4 w4 => ⟨(w4 vs hj).trans ?_, ?_⟩⟩
      · -- wiped twice
        refine List.ext_getElem? fun k => ?_
        rw [wipe_get, wipe_get, wipe_length]
        by_cases q : k ∈ vs ∧ k < σ.length
        · rw [if_pos q, if_pos q]
        · rw [if_neg q, if_neg q]
      have ww : wipe σ3 vs = wipe σ vs := (w4 vs hj).trans (List.ext_getElem? fun k => by
        rw [wipe_get, wipe_get, wipe_length]
        by_cases q : k ∈ vs ∧ k < σ.length
        · rw [if_pos q, if_pos q]
        · rw [if_neg q, if_neg q])
      refine rt _ _ _ S2 H3 σ3 s3 _ R4 ?_
      generalize mt s3 = o at h2 ⊢
      cases o with
      | err c fs s4 => exact h2.elim
      | bad => exact h2
      | ok b s4 =>
        intro S4 H4 R5
        cases b with
        | false => exact (if_neg Bool.false_ne_true).mpr ⟨S4, acc, _, (back R5).wipeM2 hu ww, h2⟩
        | true =>
          refine (if_pos rfl).mpr ?_
          have h2 : Post K C E y G W σ .f (((noE (m s4)).bd fun e s => if acc.length < LIM then lcL mg mt m vs (ds.drop (n + 1)) (acc ++ [e]) (wipeM s vs) else .bad).bd fun acc s2 => .ok (.list acc) (restM s s2 vs)) Q := h2
          refine re _ _ _ S4 H4 σ3 s4 _ R5 ?_
          generalize m s4 = o at h2 ⊢
          cases o with
          | err c fs s5 => exact h2.elim
          | bad => exact h2
          | ok e s5 =>
            intro S5 v5 H5 R6
            have h2 : Post K C E y G W σ .f ((if acc.length < LIM then lcL mg mt m vs (ds.drop (n + 1)) (acc ++ [e]) (wipeM s5 vs) else .bad).bd fun acc s2 => .ok (.list acc) (restM s s2 vs)) Q := h2
            obtain ⟨m1, m2, o⟩ := R6.tg _ (.head _)
            obtain ⟨vs', g1, r1⟩ : ∃ vs', H5 D = some (.lst vs') ∧ Dvs K S5 H5 acc vs' := by
              rcases o with ⟨ds', vs', e1, g1, r1⟩ | ⟨ks, vs', e1, _⟩
              · cases e1; exact ⟨vs', g1, r1⟩
              · cases e1
            split at h2
            · rename_i la
              refine ⟨vs', g1, by rw [lim_eq, r1.length]; exact la, S5, acc ++ [e], _, (back (R6.mutT (d' := .list (acc ++ [e])) (.inl ⟨_, _, rfl, upd_same, (Stp.put m1).dvs (r1.app (Dvs.one R6.hd))⟩)).tl).wipeM2 hu ww, h2⟩
            · exact h2.elim
end
end MV

set_option Elab.async false
set_option linter.all false
set_option maxRecDepth 100000
set_option maxHeartbeats 2000000
/-! VH: calls of defs, a def's promise and body. -/
namespace MV
open PySem PySem.Spec PyProof.Rows L2 FR
/-- an argument: shared, lent to be read, lent to be changed, the script -/
inductive AK where
  | sh | bo | io | sc
inductive FOut where
  | ok (r : PyData) (outs : List PyData)
  | err (c : Str) (fs : List (Str × PyData)) (outs : List PyData)
  | bad
def iosOf : List AK → List V → List Addr
  | .io :: ks, .ref a :: vs => a :: iosOf ks vs
  | _ :: ks, _ :: vs => iosOf ks vs
  | _, _ => []
def ArgR (K : PySem.W.Frag) (S : List Addr) (H : Hp) (ios : List Addr) (k : AK) (v : V) (d : PyData) : Prop := match k with
  | .sh => Dv K S H d v
  | .bo => Dv K S H d v ∨ ∃ a, v = .ref a ∧ a ∉ ios ∧ RdR K H S H d a
  | .io => ∃ a, v = .ref a ∧ a ∈ S ∧ OwR K S H d a
  | .sc => ios = [] ∧ ∃ a ds vs, v = .ref a ∧ d = .list ds ∧ SqL K H a vs ∧ Dvs K S H ds vs
def ArgsR (K : PySem.W.Frag) (S : List Addr) (H : Hp) (ios : List Addr) : List AK → List V → List PyData → Prop
  | [], [], [] => True
  | k :: ks, v :: vs, d :: ds => ArgR K S H ios k v d ∧ ArgsR K S H ios ks vs ds
  | _, _, _ => False
def OutsR (K : PySem.W.Frag) (S : List Addr) (H : Hp) : List AK → List V → List PyData → Prop
  | [], [], [] => True
  | .io :: ks, v :: vs, d :: ds => (∃ a, v = .ref a ∧ OwR K S H d a) ∧ OutsR K S H ks vs ds
  | .sh :: ks, _ :: vs, ds => OutsR K S H ks vs ds
  | .bo :: ks, _ :: vs, ds => OutsR K S H ks vs ds
  | .sc :: ks, _ :: vs, ds => OutsR K S H ks vs ds
  | _, _, _ => False
def RetV (K : PySem.W.Frag) (S : List Addr) (H H' : Hp) (ks : List AK) (vs : List V) (outs : List PyData) (rk : Bool) (r : PyData) (v : V) : Prop := if rk = true then ∃ a, v = .ref a ∧ ¬ NT H a ∧ OutsR K (a :: S) H' ks vs outs ∧ OwR K (a :: S) H' r a else OutsR K S H' ks vs outs ∧ Dv K S H' r v
/-- a def's promise by its mirror -/
def spOf (M : Pm) (ks : List AK) (rk : Bool) (m : List PyData → FOut) : Sp := fun vs H Q E => ∃ S ds, ArgsR M.K S H (iosOf ks vs) ks vs ds ∧ (iosOf ks vs).Nodup ∧ (∀ a ∈ S, Mu H a) ∧ LamX.Tabs M.tabs H ∧ match m ds with
  | .ok r outs => ∀ H' v, Kp M.tabs (iosOf ks vs) H H' → RetV M.K S H H' ks vs outs rk r v → Q v H'
  | .err c fs outs => ∀ H' cl dx, Kp M.tabs (iosOf ks vs) H H' → OutsR M.K S H' ks vs outs → ErrV M.cls c fs cl dx H' → E cl dx H'
  | .bad => False
/-- what is handed over -/
def fillA (st : MS) : List (Option Nat) → List AK → List PyData → Option (List PyData)
  | [], [], [] => some []
  | none :: sp, .sh :: ks, d :: ds => (fillA st sp ks ds).map (d :: ·)
  | none :: sp, .bo :: ks, d :: ds => (fillA st sp ks ds).map (d :: ·)
  | some i :: sp, .bo :: ks, _ :: ds => match st[i]? with
    | some (some c) => c.rd.bind fun d => (fillA st sp ks ds).map (d :: ·)
    | _ => none
  | some i :: sp, .io :: ks, _ :: ds => match st[i]? with
    | some (some (.ow d)) => (fillA st sp ks ds).map (d :: ·)
    | some (some (.io d)) => (fillA st sp ks ds).map (d :: ·)
    | _ => none
  | some i :: sp, .sc :: ks, _ :: ds => match st[i]? with
    | some (some (.sc d)) => (fillA st sp ks ds).map (d :: ·)
    | _ => none
  | _, _, _ => none
def backA : List (Option Nat) → List AK → List PyData → MS → MS
  | some i :: sp, .io :: ks, d :: outs, st => backA sp ks outs (putD st i d)
  | _ :: sp, .sh :: ks, outs, st => backA sp ks outs st
  | _ :: sp, .bo :: ks, outs, st => backA sp ks outs st
  | _ :: sp, .sc :: ks, outs, st => backA sp ks outs st
  | _, _, _, st => st
/-- the slots lent to be changed; those lent to be read -/
def ioS : List (Option Nat) → List AK → List Nat
  | some i :: sp, .io :: ks => i :: ioS sp ks
  | _ :: sp, _ :: ks => ioS sp ks
  | _, _ => []
def boS : List (Option Nat) → List AK → List Nat
  | some i :: sp, .bo :: ks => i :: boS sp ks
  | _ :: sp, _ :: ks => boS sp ks
  | _, _ => []
def hasSc : List AK → Bool
  | .sc :: _ => true
  | _ :: ks => hasSc ks
  | [] => false
def nodupB : List Nat → Bool
  | [] => true
  | a :: r => !r.contains a && nodupB r
/-- each argument fits its place -/
def okK : List (Option Nat) → List AK → Bool
  | [], [] => true
  | none :: sp, .sh :: ks => okK sp ks
  | none :: sp, .bo :: ks => okK sp ks
  | some _ :: sp, .bo :: ks => okK sp ks
  | some _ :: sp, .io :: ks => okK sp ks
  | some _ :: sp, .sc :: ks => okK sp ks
  | _, _ => false
def okSp (sp : List (Option Nat)) (ks : List AK) : Bool := okK sp ks && (nodupB (ioS sp ks) && (boS sp ks).all (fun i => !(ioS sp ks).contains i) && (!hasSc ks || (ioS sp ks).isEmpty))
def mCall (f : List PyData → FOut) (sp : List (Option Nat)) (ks : List AK) (m : MS → Out (List PyData)) (st : MS) : Out PyData := (m st).bd fun ds s => match fillA s sp ks ds with
  | none => .bad
  | some as => match f as with
    | .ok r outs => .ok r (backA sp ks outs s)
    | .err c fs outs => .err c fs (backA sp ks outs s)
    | .bad => .bad
theorem nodupB_of : ∀ {l : List Nat}, nodupB l = true → l.Nodup
  | [], _ => List.nodup_nil
  | a :: r, h => by
    have h' := Bool.and_eq_true_iff.mp h
    refine List.nodup_cons.mpr ⟨fun m => ?_, nodupB_of h'.2⟩
    have := h'.1
    simp at this
    exact this m
section
variable {K : PySem.W.Frag} {C : Ct} {E : WX} {y : Dy} {G G' : List (PyData × V)} {W W' : List (PyData × Addr)} {S S' : List Addr} {H H' H0 : Hp} {σ : L2.St} {st st' : MS} {d d' : PyData} {a p : Addr} {v x z : V} {i j l : Nat} {md : Md} {Q : VK} {te ta tb tc : TE} {m ma mb mc : MS → Out PyData}
def OwnAt (y : Dy) (S : List Addr) (σ : L2.St) (s : MS) (i : Nat) : Prop := ∃ a, σ[i]? = some (some (.ref a)) ∧ a ∈ S ∧ ((∃ d, s[i]? = some (some (.ow d))) ∧ ¬ NT y.H0 a ∨ (∃ d, s[i]? = some (some (.io d))) ∧ a ∈ y.Sin)
theorem own_at (R : Rel K C y G W S H σ st) (h : isOwn st[i]? = true) : OwnAt y S σ st i := by
  obtain ⟨a, d, e, m, r, q⟩ := cell_own (R.cell i) h
  exact ⟨a, e, m, q.imp (fun q => ⟨⟨d, q.1⟩, q.2⟩) fun q => ⟨⟨d, q.1⟩, q.2⟩⟩
theorem put_at (o : OwnAt y S' σ st i) (e : σ[i]? = some (some (.ref a))) (r : OwR K S' H' d a) : CellR K y S' H' σ[i]? (putD st i d)[i]? := by
  obtain ⟨b, e2, m, q⟩ := o
  rw [e] at e2; cases e2
  unfold putD
  rcases q with ⟨⟨d0, q⟩, n⟩ | ⟨⟨d0, q⟩, n⟩
  · rw [q]
    show CellR K y S' H' _ (st.set i _)[i]?
    rw [List.getElem?_set_self (List.getElem?_eq_some_iff.mp q).1]
    intro c ec; cases ec
    exact ⟨_, e, a, rfl, m, n, r⟩
  · rw [q]
    show CellR K y S' H' _ (st.set i _)[i]?
    rw [List.getElem?_set_self (List.getElem?_eq_some_iff.mp q).1]
    intro c ec; cases ec
    exact ⟨_, e, a, rfl, m, n, r⟩
theorem own_put (o : OwnAt y S' σ st j) : OwnAt y S' σ (putD st i d) j := by
  obtain ⟨b, e2, m, q⟩ := o
  refine ⟨b, e2, m, ?_⟩
  by_cases ij : i = j
  · subst ij
    rcases q with ⟨⟨d0, q⟩, n⟩ | ⟨⟨d0, q⟩, n⟩
    · refine .inl ⟨⟨d, ?_⟩, n⟩
      unfold putD; rw [q]
      exact List.getElem?_set_self (List.getElem?_eq_some_iff.mp q).1
    · refine .inr ⟨⟨d, ?_⟩, n⟩
      unfold putD; rw [q]
      exact List.getElem?_set_self (List.getElem?_eq_some_iff.mp q).1
  · rw [putD_ne ij]; exact q
/-- behind a call all names hold what is due -/
theorem back_ok : ∀ {sp : List (Option Nat)} {ks : List AK} {ds : List PyData} {vs : List V} {g : List (PyData × V)} {outs : List PyData} {s : MS}, okK sp ks = true → AC σ sp ds vs g → OutsR K S' H' ks vs outs → (ioS sp ks).Nodup →
    (∀ i ∈ ioS sp ks, OwnAt y S' σ s i) → (∀ j : Nat, j ∉ ioS sp ks → CellR K y S' H' σ[j]? s[j]?) →
    (∀ j : Nat, CellR K y S' H' σ[j]? (backA sp ks outs s)[j]?) ∧ (backA sp ks outs s).length = s.length ∧ ∀ j : Nat, isOwn (backA sp ks outs s)[j]? = isOwn s[j]?
  | [], [], ds, vs, g, outs, s, hk, ac, o, nd, ho, hc => ⟨fun j => hc j (fun m => nomatch m), rfl, fun j => rfl⟩
  | [], _ :: _, ds, vs, g, outs, s, hk, ac, o, nd, ho, hc => by cases hk
  | sp0 :: sp, [], ds, vs, g, outs, s, hk, ac, o, nd, ho, hc => by cases sp0 <;> cases hk
  | sp0 :: sp, k :: ks, ds, vs, g, outs, s, hk, ac, o, nd, ho, hc => by
    cases ac with
    | sh ac =>
      cases k with
      | sh => exact back_ok (sp := sp) (ks := ks) hk ac o nd ho hc
      | bo => exact back_ok (sp := sp) (ks := ks) hk ac o nd ho hc
      | sc => cases hk
      | io => cases hk
    | va e ac =>
      cases k with
      | sh => cases hk
      | bo => exact back_ok (sp := sp) (ks := ks) hk ac o nd ho hc
      | sc => exact back_ok (sp := sp) (ks := ks) hk ac o nd ho hc
      | io =>
        cases outs with
        | nil => exact o.elim
        | cons d outs =>
          obtain ⟨⟨a, ea, r⟩, o⟩ := o
          subst ea
          rename_i i
          have nd' := List.nodup_cons.mp nd
          obtain ⟨b1, b2, b3⟩ := back_ok (sp := sp) (ks := ks) (s := putD s i d) hk ac o nd'.2 (fun j m => own_put (ho j (.tail _ m))) fun j n => by
            by_cases ij : i = j
            · subst ij; exact put_at (ho i (.head _)) e r
            · rw [putD_ne ij]
              exact hc j fun m => (List.mem_cons.mp m).elim (fun q => ij q.symm) n
          refine ⟨b1, b2.trans putD_len, fun j => (b3 j).trans putD_own⟩
/-- what is lent to be changed -/
theorem ios_of : ∀ {sp : List (Option Nat)} {ks : List AK} {ds : List PyData} {vs : List V} {g : List (PyData × V)}, okK sp ks = true → AC σ sp ds vs g → (∀ i ∈ ioS sp ks, ∃ a, σ[i]? = some (some (.ref a))) →
    ∀ a, a ∈ iosOf ks vs → ∃ i ∈ ioS sp ks, σ[i]? = some (some (.ref a))
  | [], [], _, _, _, hk, ac, _, a, m => by cases ac; cases m
  | [], _ :: _, _, _, _, hk, ac, _, a, m => by cases hk
  | sp0 :: sp, [], _, _, _, hk, ac, _, a, m => by cases sp0 <;> cases hk
  | sp0 :: sp, k :: ks, _, _, _, hk, ac, h, a, m => by
    cases ac with
    | sh ac =>
      cases k with
      | io => cases hk
      | sh => exact ios_of (sp := sp) (ks := ks) hk ac h a m
      | bo => exact ios_of (sp := sp) (ks := ks) hk ac h a m
      | sc => cases hk
    | va e ac =>
      cases k with
      | sh => cases hk
      | bo => exact ios_of (sp := sp) (ks := ks) hk ac h a m
      | sc => exact ios_of (sp := sp) (ks := ks) hk ac h a m
      | io =>
        rename_i i
        obtain ⟨b, eb⟩ := h i (.head _)
        rw [e] at eb; cases eb
        rcases List.mem_cons.mp m with q | q
        · subst q; exact ⟨i, .head _, e⟩
        · obtain ⟨j, mj, ej⟩ := ios_of (sp := sp) (ks := ks) hk ac (fun i m => h i (.tail _ m)) a q
          exact ⟨j, .tail _ mj, ej⟩
theorem ios_nd : ∀ {sp : List (Option Nat)} {ks : List AK} {ds : List PyData} {vs : List V} {g : List (PyData × V)}, okK sp ks = true → AC σ sp ds vs g → (∀ i ∈ ioS sp ks, ∃ a, σ[i]? = some (some (.ref a))) → (ioS sp ks).Nodup →
    (∀ i j a, i ∈ ioS sp ks → j ∈ ioS sp ks → σ[i]? = some (some (.ref a)) → σ[j]? = some (some (.ref a)) → i = j) → (iosOf ks vs).Nodup
  | [], [], _, _, _, hk, ac, _, _, _ => by cases ac; exact List.nodup_nil
  | [], _ :: _, _, _, _, hk, ac, _, _, _ => by cases hk
  | sp0 :: sp, [], _, _, _, hk, ac, _, _, _ => by cases sp0 <;> cases hk
  | sp0 :: sp, k :: ks, _, _, _, hk, ac, h, nd, sep => by
    cases ac with
    | sh ac =>
      cases k with
      | io => cases hk
      | sh => exact ios_nd (sp := sp) (ks := ks) hk ac h nd sep
      | bo => exact ios_nd (sp := sp) (ks := ks) hk ac h nd sep
      | sc => cases hk
    | va e ac =>
      cases k with
      | sh => cases hk
      | bo => exact ios_nd (sp := sp) (ks := ks) hk ac h nd sep
      | sc => exact ios_nd (sp := sp) (ks := ks) hk ac h nd sep
      | io =>
        rename_i i
        obtain ⟨b, eb⟩ := h i (.head _)
        rw [e] at eb; cases eb
        have nd' := List.nodup_cons.mp nd
        refine List.nodup_cons.mpr ⟨fun mm => ?_, ios_nd (sp := sp) (ks := ks) hk ac (fun i m => h i (.tail _ m)) nd'.2 fun i j a mi mj => sep i j a (.tail _ mi) (.tail _ mj)⟩
        obtain ⟨j, mj, ej⟩ := ios_of (sp := sp) (ks := ks) hk ac (fun i m => h i (.tail _ m)) b mm
        exact nd'.1 (by rw [sep i j b (.head _) (.tail _ mj) e ej]; exact mj)
theorem outs_mu : ∀ {ks : List AK} {vs : List V} {outs : List PyData}, OutsR K S' H' ks vs outs → ∀ a ∈ iosOf ks vs, ∃ d, OwR K S' H' d a
  | [], vs, _, _, a, m => by cases vs <;> exact absurd m List.not_mem_nil
  | k :: ks, [], _, o, a, m => by cases k <;> exact absurd m List.not_mem_nil
  | k :: ks, v :: vs, outs, o, a, m => by
    cases k with
    | sh => exact outs_mu (ks := ks) o a m
    | bo => exact outs_mu (ks := ks) o a m
    | sc => exact outs_mu (ks := ks) o a m
    | io =>
      cases outs with
      | nil => exact o.elim
      | cons d outs =>
        obtain ⟨⟨b, e, r⟩, o⟩ := o
        subst e
        rcases List.mem_cons.mp m with q | q
        · subst q; exact ⟨d, r⟩
        · exact outs_mu (ks := ks) o a q
theorem args_of {ios : List Addr} (R : Rel K C y G W S H σ st) (hio : ∀ a ∈ ios, ∃ i, Owns σ st i a) : ∀ {sp : List (Option Nat)} {ks : List AK} {ds : List PyData} {vs : List V} {g : List (PyData × V)} {as : List PyData}, AC σ sp ds vs g → (∀ q ∈ g, Dv K S H q.1 q.2) → fillA st sp ks ds = some as →
    (∀ i ∈ boS sp ks, ∀ a, Owns σ st i a → a ∉ ios) → (hasSc ks = true → ios = []) → ArgsR K S H ios ks vs as
  | [], ks, _, _, _, as, ac, hg, hf, _, _ => by
    cases ac
    cases ks with
    | nil => cases hf; trivial
    | cons k => cases k <;> cases hf
  | sp0 :: sp, [], _, _, _, as, ac, hg, hf, _, _ => by cases ac <;> cases hf
  | sp0 :: sp, k :: ks, _, _, _, as, ac, hg, hf, hb, hs => by
    have fin : ∀ {o : Option (List PyData)} {d : PyData}, o.map (d :: ·) = some as → ∃ r, o = some r ∧ as = d :: r := fun {o d} h => by
      cases o with
      | none => cases h
      | some r => cases h; exact ⟨r, rfl, rfl⟩
    cases ac with
    | sh ac =>
      cases k with
      | io => cases hf
      | sc => cases hf
      | sh =>
        obtain ⟨r, e1, e2⟩ := fin hf
        subst e2
        exact ⟨hg _ (.head _), args_of R hio (sp := sp) (ks := ks) ac (fun q m => hg q (.tail _ m)) e1 hb hs⟩
      | bo =>
        obtain ⟨r, e1, e2⟩ := fin hf
        subst e2
        exact ⟨.inl (hg _ (.head _)), args_of R hio (sp := sp) (ks := ks) ac (fun q m => hg q (.tail _ m)) e1 hb hs⟩
    | va e ac =>
      rename_i ds0 vs0 d0 v0 i
      cases k with
      | sh => cases hf
      | bo =>
        unfold fillA at hf
        cases ec : st[i]? with
        | none => rw [ec] at hf; cases hf
        | some oc =>
          cases oc with
          | none => rw [ec] at hf; cases hf
          | some c =>
            rw [ec] at hf
            have hf : (c.rd.bind fun d => (fillA st sp ks ds0).map (d :: ·)) = some as := hf
            cases er : c.rd with
            | none => rw [er] at hf; cases hf
            | some d =>
              rw [er] at hf
              obtain ⟨r, e1, e2⟩ := fin hf
              subst e2
              refine ⟨?_, args_of R hio (sp := sp) (ks := ks) ac hg e1 (fun j m => hb j (.tail _ m)) hs⟩
              obtain ⟨w, e3, q⟩ := R.cell i c ec
              rw [e] at e3; cases e3
              cases c with
              | sc d => cases er
              | sh d => cases er; exact .inl q
              | bo d =>
                cases er
                rcases q with q | ⟨a, e4, n, q⟩
                · exact .inl q
                · obtain ⟨w', e5, bo⟩ := R.bo ec rfl
                  rw [e] at e5; cases e5
                  have nt : NT y.H0 a := by
                    rcases q with ⟨ds, vs, _, g, _⟩ | ⟨ks, vs, _, g, _⟩
                    · exact ⟨_, g, fun _ z => nomatch z⟩
                    · exact g.some
                  refine bo.imp id fun ⟨b, e6, q2⟩ => ⟨b, e6, fun mi => ?_, q2⟩
                  rw [e4] at e6; cases e6
                  obtain ⟨j, oj⟩ := hio a mi
                  obtain ⟨b', d', e7, _, _, z⟩ := cell_own (R.cell j) oj.2
                  rw [oj.1] at e7; cases e7
                  rcases z with ⟨_, z⟩ | ⟨_, z⟩
                  · exact z nt
                  · exact n z
              | ow d =>
                cases er
                obtain ⟨a, e4, m, n, q⟩ := q
                subst e4
                exact .inr ⟨a, rfl, hb i (.head _) a ⟨e, by rw [ec]; rfl⟩, q.rd⟩
              | io d =>
                cases er
                obtain ⟨a, e4, m, n, q⟩ := q
                subst e4
                exact .inr ⟨a, rfl, hb i (.head _) a ⟨e, by rw [ec]; rfl⟩, q.rd⟩
      | io =>
        have q : ∃ d, isOwn st[i]? = true ∧ (∀ d', (st[i]? = some (some (.ow d')) ∨ st[i]? = some (some (.io d'))) → d' = d) ∧ (fillA st sp ks ds0).map (d :: ·) = some as := by
          unfold fillA at hf
          split at hf
          · rename_i d ed
            exact ⟨d, by rw [ed]; rfl, fun d' z => by rcases z with z | z <;> rw [ed] at z <;> cases z; rfl, hf⟩
          · rename_i d ed
            exact ⟨d, by rw [ed]; rfl, fun d' z => by rcases z with z | z <;> rw [ed] at z <;> cases z; rfl, hf⟩
          · cases hf
        obtain ⟨d, q1, q2, q3⟩ := q
        obtain ⟨r, e1, e2⟩ := fin q3
        subst e2
        obtain ⟨a, d', e4, m, o, z⟩ := cell_own (R.cell i) q1
        rw [e] at e4; cases e4
        have := q2 d' (z.imp And.left And.left)
        subst this
        exact ⟨⟨a, rfl, m, o⟩, args_of R hio (sp := sp) (ks := ks) ac hg e1 hb hs⟩
      | sc =>
        unfold fillA at hf
        split at hf
        · rename_i d ed
          obtain ⟨r, e1, e2⟩ := fin hf
          subst e2
          obtain ⟨w, e3, a, ds, vs, e4, n, e5, sq, rd⟩ := R.cell i _ ed
          rw [e] at e3; cases e3
          exact ⟨⟨hs rfl, a, ds, vs, e4, e5, R.kp.sqL sq n, rd⟩, args_of R hio (sp := sp) (ks := ks) ac hg e1 hb fun _ => hs rfl⟩
        · cases hf
theorem fill_own : ∀ {sp : List (Option Nat)} {ks : List AK} {ds as : List PyData}, fillA st sp ks ds = some as → ∀ i ∈ ioS sp ks, isOwn st[i]? = true
  | [], ks, ds, as, h => fun i m => by cases ks <;> cases m
  | sp0 :: sp, [], ds, as, h => fun i m => by cases sp0 <;> cases m
  | sp0 :: sp, k :: ks, [], as, h => by cases sp0 <;> cases k <;> cases h
  | sp0 :: sp, k :: ks, d :: ds, as, h => by
    have fin : ∀ {o : Option (List PyData)} {d : PyData}, o.map (d :: ·) = some as → ∃ r, o = some r := fun {o d} h => by
      cases o with
      | none => cases h
      | some r => exact ⟨r, rfl⟩
    cases sp0 with
    | none =>
      cases k with
      | io => cases h
      | sc => cases h
      | sh =>
        obtain ⟨r, e⟩ := fin h
        exact fill_own (sp := sp) (ks := ks) e
      | bo =>
        obtain ⟨r, e⟩ := fin h
        exact fill_own (sp := sp) (ks := ks) e
    | some i =>
      cases k with
      | sh => cases h
      | bo =>
        unfold fillA at h
        split at h
        · rename_i c ec
          cases er : c.rd with
          | none => rw [er] at h; cases h
          | some d =>
            rw [er] at h
            obtain ⟨r, e⟩ := fin h
            exact fill_own (sp := sp) (ks := ks) e
        · cases h
      | sc =>
        unfold fillA at h
        split at h
        · obtain ⟨r, e⟩ := fin h
          exact fill_own (sp := sp) (ks := ks) e
        · cases h
      | io =>
        unfold fillA at h
        split at h
        · rename_i d ed
          obtain ⟨r, e⟩ := fin h
          exact fun j m => (List.mem_cons.mp m).elim (fun q => by rw [q, ed]; rfl) (fill_own (sp := sp) (ks := ks) e j)
        · rename_i d ed
          obtain ⟨r, e⟩ := fin h
          exact fun j m => (List.mem_cons.mp m).elim (fun q => by rw [q, ed]; rfl) (fill_own (sp := sp) (ks := ks) e j)
        · cases h
theorem backA_own : ∀ {sp : List (Option Nat)} {ks : List AK} {outs : List PyData} {s : MS} {j : Nat}, isOwn (backA sp ks outs s)[j]? = isOwn s[j]?
  | [], ks, outs, s, j => by cases ks <;> rfl
  | sp0 :: sp, [], outs, s, j => by cases sp0 <;> rfl
  | sp0 :: sp, k :: ks, outs, s, j => by
    cases sp0 with
    | none =>
      cases k with
      | io => cases outs <;> rfl
      | _ => exact backA_own (sp := sp) (ks := ks)
    | some i =>
      cases k with
      | io =>
        cases outs with
        | nil => rfl
        | cons d outs => exact (backA_own (sp := sp) (ks := ks) (outs := outs) (s := putD s i d)).trans putD_own
      | _ => exact backA_own (sp := sp) (ks := ks)
/-- a call of a def that keeps its promise -/
theorem call_core {M : Pm} {ks : List AK} {rk : Bool} {f : List PyData → FOut} {sp : List (Option Nat)} {ds : List PyData} {vs : List V} {g : List (PyData × V)} {s : MS} {Ex : XK} {F : Md} (hK : K = M.K) (hc : C.cls = M.cls) (hT : C.T = M.tabs) (hok : okSp sp ks = true)
    (hx : ∀ cl dx H, E cl dx σ H → Ex cl dx H) (ac : AC σ sp ds vs g) (R : Rel K C y (g ++ G) W S H σ s) (hF : F = if rk = true then .f else .s)
    (h : Post K C E y G W σ F (match fillA s sp ks ds with
      | none => .bad
      | some as => match f as with
        | .ok r outs => .ok r (backA sp ks outs s)
        | .err c fs outs => .err c fs (backA sp ks outs s)
        | .bad => .bad) Q) : spOf M ks rk f vs H Q Ex := by
  subst hK
  obtain ⟨hk, hok'⟩ := Bool.and_eq_true_iff.mp hok
  obtain ⟨hok2, hsc⟩ := Bool.and_eq_true_iff.mp hok'
  obtain ⟨hnd, hbo⟩ := Bool.and_eq_true_iff.mp hok2
  have nd := nodupB_of hnd
  cases ef : fillA s sp ks ds with
  | none => rw [ef] at h; cases F <;> exact h.elim
  | some as =>
    rw [ef] at h
    have own := fill_own ef
    have oa : ∀ i ∈ ioS sp ks, OwnAt y S σ s i := fun i m => own_at R (own i m)
    have hr : ∀ i ∈ ioS sp ks, ∃ a, σ[i]? = some (some (.ref a)) := fun i m => by
      obtain ⟨a, e, _⟩ := oa i m
      exact ⟨a, e⟩
    have hio := ios_of hk ac hr
    have hio2 : ∀ a ∈ iosOf ks vs, ∃ i, Owns σ s i a := fun a m => by
      obtain ⟨i, mi, e⟩ := hio a m
      exact ⟨i, e, own i mi⟩
    have hnio := ios_nd hk ac hr nd fun i j a mi mj ei ej => R.sep i j a ⟨ei, own i mi⟩ ⟨ej, own j mj⟩
    have iosS : ∀ a ∈ iosOf ks vs, a ∈ S ∧ (a ∈ y.Sin ∨ ¬ NT y.H0 a) := fun a m => by
      obtain ⟨i, mi, e⟩ := hio a m
      obtain ⟨b, eb, mb, z⟩ := oa i mi
      rw [e] at eb; cases eb
      exact ⟨mb, z.elim (fun z => .inr z.2) fun z => .inl z.2⟩
    have args : ArgsR M.K S H (iosOf ks vs) ks vs as := args_of R hio2 ac (fun q m => R.gd q (List.mem_append_left _ m)) ef (fun i mi a oi ma => by
        obtain ⟨j, mj, ej⟩ := hio a ma
        have := R.sep i j a oi ⟨ej, own j mj⟩
        subst this
        have z := List.all_eq_true.mp hbo i mi
        simp at z
        exact z mj) fun q => by
      rw [q] at hsc
      have e : ioS sp ks = [] := List.isEmpty_iff.mp (by simpa using hsc)
      cases z : iosOf ks vs with
      | nil => rfl
      | cons a r =>
        obtain ⟨i, mi, _⟩ := hio a (by rw [z]; exact .head _)
        rw [e] at mi; cases mi
    -- behind the call
    have behind : ∀ H' S' outs, Kp M.tabs (iosOf ks vs) H H' → OutsR M.K S' H' ks vs outs → (∀ a ∈ S, a ∈ S') → (∀ a ∈ S', a ∈ S ∨ Mu H' a) → Stp S S' H H' → Rel M.K C y G W S' H' σ (backA sp ks outs s) := fun H' S' outs kp o sub dom z => by
      have R0 : Rel M.K C y G W S H σ s := R.subG fun _ m => List.mem_append_right _ m
      have same : ∀ a ∈ S, a ∉ iosOf ks vs → H' a = H a := fun a m n => kp.at (R0.dom a m).nt n
      have oa' : ∀ i ∈ ioS sp ks, OwnAt y S' σ s i := fun i m => by
        obtain ⟨a, e, m, q⟩ := oa i m
        exact ⟨a, e, sub a m, q⟩
      obtain ⟨b1, b2, b3⟩ := back_ok (y := y) (s := s) hk ac o nd oa' fun j n => (R0.cell j).step z fun a e q m => ⟨sub a m, same a m fun ma => by
        obtain ⟨i, mi, ei⟩ := hio a ma
        exact n (by rw [R.sep j i a ⟨e, q⟩ ⟨ei, own i mi⟩]; exact mi)⟩
      refine R0.chg z (R0.kp.then (by rw [hT]; exact kp) fun x m => (iosS x m).2) (by rw [hT]; exact kp.2 (by rw [← hT]; exact R0.tabs)) (fun a m => sub a (R0.s0 a m).1) (fun a m => ?_) b1 b2 (fun i q => by rw [b3] at q; exact q) (fun t mt => ⟨sub _ (R0.tg t mt).1, (R0.tg t mt).2.2.step z (same _ (R0.tg t mt).1 fun ma => ?_)⟩) fun i q => by rw [b3]; exact q
      · rcases dom a m with m | m
        · by_cases n : a ∈ iosOf ks vs
          · obtain ⟨d, r⟩ := outs_mu o a n
            exact r.mu
          · unfold Mu; rw [same a m n]; exact R0.dom a m
        · exact m
      · obtain ⟨i, oi⟩ := hio2 _ ma
        exact R0.sept i _ oi t mt rfl
    refine ⟨S, as, args, hnio, R.dom, by rw [← hT]; exact R.tabs, ?_⟩
    have h : Post M.K C E y G W σ F (match f as with
        | .ok r outs => .ok r (backA sp ks outs s)
        | .err c fs outs => .err c fs (backA sp ks outs s)
        | .bad => .bad) Q := h
    cases ea : f as with
    | bad => rw [ea] at h; cases F <;> exact h.elim
    | err c fs outs =>
      rw [ea] at h
      intro H' cl dx kp o ev
      have z := behind H' S outs kp o (fun _ m => m) (fun a m => .inl m) (.of (kp.mono fun a m => (iosS a m).1))
      have h : PostE M.K C E y G W σ c fs (backA sp ks outs s) := by cases F <;> exact h
      exact hx cl dx H' (h S H' cl dx z (by rw [hc]; exact ev))
    | ok r outs =>
      rw [ea] at h
      intro H' v kp rv
      have st0 : Stp S S H H' := .of (kp.mono fun a m => (iosS a m).1)
      cases rk with
      | false =>
        subst hF
        obtain ⟨o, rv⟩ : OutsR M.K S H' ks vs outs ∧ Dv M.K S H' r v := rv
        have z := behind H' S outs kp o (fun _ m => m) (fun a m => .inl m) st0
        exact h S v H' (z.addG rv)
      | true =>
        subst hF
        obtain ⟨a, e, n, o, ro⟩ : ∃ a, v = .ref a ∧ ¬ NT H a ∧ OutsR M.K (a :: S) H' ks vs outs ∧ OwR M.K (a :: S) H' r a := rv
        subst e
        have nS : a ∉ S := fun m => n (R.dom a m).nt
        have stp : Stp S (a :: S) H H' := ⟨fun b nb nt m => (List.mem_cons.mp m).elim (fun e => n (e ▸ nt)) nb, st0.k⟩
        have z := behind H' (a :: S) outs kp o (fun _ m => .tail _ m) (fun b m => (List.mem_cons.mp m).elim (fun e => .inr (e ▸ ro.mu)) .inl) stp
        have n0 : ¬ NT y.H0 a := fun nt => n (R.kp.nt nt fun m => nS (R.s0 a (R.sin a m)).1)
        refine h (a :: S) a H' { z with tg := fun t mt => ?_, sept := fun i b q t mt => ?_, tnd := ?_ }
        · rcases List.mem_cons.mp mt with q | q
          · subst q; exact ⟨.head _, n0, ro⟩
          · exact z.tg t q
        · rcases List.mem_cons.mp mt with e | e
          · subst e
            intro eb
            have eb : a = b := eb
            subst eb
            obtain ⟨c, d, ec, mc, _⟩ := cell_own (R.cell i) (by rw [← backA_own (outs := outs) (sp := sp) (ks := ks)]; exact q.2)
            rw [q.1] at ec; cases ec
            exact nS mc
          · exact z.sept i b q t e
        · rw [List.map_cons, List.nodup_cons]
          exact ⟨fun mm => by
            obtain ⟨t, mt, e⟩ := List.mem_map.mp mm
            have e : t.2 = a := e
            exact nS (by rw [← e]; exact (R.tg t mt).1), R.tnd⟩
end
end MV

set_option Elab.async false
set_option linter.all false
set_option maxRecDepth 100000
set_option maxHeartbeats 2000000
/-! VI: a call as an expression; a def's body keeps its mirror's promise. -/
namespace MV
open PySem PySem.Spec PyProof.Rows L2 FR
def rkMd (rk : Bool) : Md := if rk = true then .f else .s
section
variable {K : PySem.W.Frag} {C : Ct} {E : WX} {y : Dy} {G : List (PyData × V)} {W : List (PyData × Addr)} {S S' : List Addr} {H H' : Hp} {σ : L2.St} {st : MS} {M : Pm} {ks : List AK} {rk : Bool} {f : List PyData → FOut} {sp : List (Option Nat)} {ta : TA} {ma : MS → Out (List PyData)} {Q : VK}
theorem re_call {Ex : XK} (ra : RA K C E sp ta ma) (hok : okSp sp ks = true := by rfl) (hK : K = M.K := by rfl) (hc : C.cls = M.cls := by rfl) (hT : C.T = M.tabs := by rfl) (hx : ∀ cl dx σ H, E cl dx σ H → Ex cl dx H := by exact fun _ _ _ _ h => h) :
    RE K C E (rkMd rk) (tCall (spOf M ks rk f) [] Ex ta) (mCall f sp ks ma) := by
  intro y G W S H σ st Q R h
  show ta σ H _
  refine ra.u (P := fun o => Post K C E y G W σ (rkMd rk) o Q) ipP .rfl R h fun ds s S1 vs g H1 ac R1 h1 => ?_
  rw [List.append_nil]
  exact call_core hK hc hT hok (hx · · σ ·) ac R1 rfl h1
theorem re_callS {Ex : L2.St → XK} (ra : RA K C E sp ta ma) (hok : okSp sp ks = true := by rfl) (hK : K = M.K := by rfl) (hc : C.cls = M.cls := by rfl) (hT : C.T = M.tabs := by rfl) (hx : ∀ cl dx σ H, E cl dx σ H → Ex σ cl dx H := by exact fun _ _ _ _ h => h) :
    RE K C E (rkMd rk) (tCallS (spOf M ks rk f) Ex ta) (mCall f sp ks ma) := by
  intro y G W S H σ st Q R h
  show ta σ H _
  refine ra.u (P := fun o => Post K C E y G W σ (rkMd rk) o Q) ipP .rfl R h fun ds s S1 vs g H1 ac R1 h1 => ?_
  exact call_core hK hc hT hok (hx · · σ ·) ac R1 rfl h1
end
/-! ### a def's body -/
def cell0 : AK → PyData → Cell
  | .sh, d => .sh d
  | .bo, d => .bo d
  | .io, d => .io d
  | .sc, d => .sc d
def cells0 : List AK → List PyData → MS
  | k :: ks, d :: ds => some (cell0 k d) :: cells0 ks ds
  | _, _ => []
def initM (n : Nat) (ks : List AK) (ds : List PyData) : MS := cells0 ks ds ++ List.replicate (n - ks.length) none
def ioN : List AK → Nat → List Nat
  | .io :: ks, k => k :: ioN ks (k + 1)
  | _ :: ks, k => ioN ks (k + 1)
  | [], _ => []
def ownD (st : MS) (i : Nat) : PyData := match st[i]? with
  | some (some (.ow d)) => d
  | some (some (.io d)) => d
  | _ => .none
def outsA : List AK → Nat → MS → List PyData
  | .io :: ks, k, st => ownD st k :: outsA ks (k + 1) st
  | _ :: ks, k, st => outsA ks (k + 1) st
  | [], _, _ => []
def runF (n : Nat) (ks : List AK) (rk : Bool) (ms : MSt) (ds : List PyData) : FOut := match ms (initM n ks ds) with
  | .nx st => if rk = true then .bad else .ok .none (outsA ks 0 st)
  | .ret d st => .ok d (outsA ks 0 st)
  | .err c fs st => .err c fs (outsA ks 0 st)
  | _ => .bad
def pins : List AK → List V → Nat → List (Nat × Addr)
  | .io :: ks, .ref a :: vs, k => (k, a) :: pins ks vs (k + 1)
  | _ :: ks, _ :: vs, k => pins ks vs (k + 1)
  | _, _, _ => []
section
variable {K : PySem.W.Frag} {S S' : List Addr} {H H' : Hp} {ios : List Addr} {a : Addr}
theorem args_len : ∀ {ks : List AK} {vs : List V} {ds : List PyData}, ArgsR K S H ios ks vs ds → vs.length = ks.length ∧ ds.length = ks.length
  | [], [], [], _ => ⟨rfl, rfl⟩
  | k :: ks, v :: vs, d :: ds, h => by
    obtain ⟨h1, h2⟩ := args_len (ks := ks) h.2
    exact ⟨congrArg (· + 1) h1, congrArg (· + 1) h2⟩
  | [], _ :: _, _, h => h.elim
  | [], [], _ :: _, h => h.elim
  | _ :: _, [], _, h => h.elim
  | _ :: _, _ :: _, [], h => h.elim
theorem args_at : ∀ {ks : List AK} {vs : List V} {ds : List PyData} {i : Nat} {c : Cell}, ArgsR K S H ios ks vs ds → (cells0 ks ds)[i]? = some (some c) → ∃ k v d, ks[i]? = some k ∧ vs[i]? = some v ∧ c = cell0 k d ∧ ArgR K S H ios k v d
  | [], vs, ds, i, c, _, e => by cases ds <;> cases e
  | k :: ks, [], ds, i, c, h, e => h.elim
  | k :: ks, v :: vs, [], i, c, h, e => h.elim
  | k :: ks, v :: vs, d :: ds, 0, c, h, e => by cases e; exact ⟨k, v, d, rfl, rfl, rfl, h.1⟩
  | k :: ks, v :: vs, d :: ds, i + 1, c, h, e => args_at (ks := ks) (i := i) h.2 e
theorem cells0_len : ∀ {ks : List AK} {ds : List PyData}, ds.length = ks.length → (cells0 ks ds).length = ks.length
  | [], [], _ => rfl
  | k :: ks, d :: ds, h => congrArg (· + 1) (cells0_len (Nat.succ.inj h))
  | [], _ :: _, h => by cases h
  | _ :: _, [], h => by cases h
theorem ios_in : ∀ {ks : List AK} {vs : List V} {ds : List PyData}, ArgsR K S H ios ks vs ds → ∀ a ∈ iosOf ks vs, a ∈ S
  | [], vs, _, h, a, m => by cases vs <;> exact absurd m List.not_mem_nil
  | k :: ks, [], _, h, a, m => h.elim
  | k :: ks, v :: vs, [], h, a, m => h.elim
  | k :: ks, v :: vs, d :: ds, h, a, m => by
    cases k with
    | io =>
      obtain ⟨⟨b, e, mb, _⟩, h⟩ := h
      subst e
      rcases List.mem_cons.mp m with q | q
      · rw [q]; exact mb
      · exact ios_in (ks := ks) h a q
    | sh => exact ios_in (ks := ks) h.2 a m
    | bo => exact ios_in (ks := ks) h.2 a m
    | sc => exact ios_in (ks := ks) h.2 a m
theorem ios_mem : ∀ {ks : List AK} {vs : List V} {i : Nat}, ks[i]? = some .io → vs[i]? = some (.ref a) → a ∈ iosOf ks vs
  | [], _, i, h, _ => by cases h
  | k :: ks, [], i, _, h => by cases h
  | k :: ks, v :: vs, 0, h, e => by cases h; cases e; exact .head _
  | k :: ks, v :: vs, i + 1, h, e => by
    have m := ios_mem (ks := ks) (vs := vs) (i := i) h e
    cases k with
    | io => cases v <;> first | exact .tail _ m | exact m
    | _ => exact m
theorem ios_inj : ∀ {ks : List AK} {vs : List V} {i j : Nat}, (iosOf ks vs).Nodup → ks[i]? = some .io → vs[i]? = some (.ref a) → ks[j]? = some .io → vs[j]? = some (.ref a) → i = j
  | [], _, i, j, _, h, _, _, _ => by cases h
  | k :: ks, [], i, j, _, _, h, _, _ => by cases h
  | k :: ks, v :: vs, 0, 0, _, _, _, _, _ => rfl
  | k :: ks, v :: vs, 0, j + 1, nd, h, e, h', e' => by
    cases h; cases e
    exact absurd (ios_mem (ks := ks) (i := j) h' e') (List.nodup_cons.mp nd).1
  | k :: ks, v :: vs, i + 1, 0, nd, h, e, h', e' => by
    cases h'; cases e'
    exact absurd (ios_mem (ks := ks) (i := i) h e) (List.nodup_cons.mp nd).1
  | k :: ks, v :: vs, i + 1, j + 1, nd, h, e, h', e' => by
    have nd' : (iosOf ks vs).Nodup := by
      cases k with
      | io => cases v <;> first | exact (List.nodup_cons.mp nd).2 | exact nd
      | _ => exact nd
    rw [ios_inj (ks := ks) (i := i) (j := j) nd' h e h' e']
theorem pins_at : ∀ {ks : List AK} {vs : List V} {k : Nat} {p : Nat × Addr}, p ∈ pins ks vs k → p.1 ∈ ioN ks k ∧ k ≤ p.1 ∧ ks[p.1 - k]? = some .io ∧ vs[p.1 - k]? = some (.ref p.2)
  | [], vs, k, p, m => by cases vs <;> exact absurd m List.not_mem_nil
  | q :: ks, [], k, p, m => by cases q <;> exact absurd m List.not_mem_nil
  | q :: ks, v :: vs, k, p, m => by
    have up : ∀ {i : Nat}, k + 1 ≤ i → i - k = (i - (k + 1)) + 1 := fun h => by omega
    have go : p ∈ pins ks vs (k + 1) → (p.1 ∈ ioN ks (k + 1) ∧ k ≤ p.1 ∧ (q :: ks)[p.1 - k]? = some .io ∧ (v :: vs)[p.1 - k]? = some (.ref p.2)) := fun m => by
      obtain ⟨h1, h2, h3, h4⟩ := pins_at (ks := ks) (vs := vs) m
      exact ⟨h1, by omega, by rw [up h2]; exact h3, by rw [up h2]; exact h4⟩
    cases q with
    | io =>
      have tl : p ∈ pins ks vs (k + 1) → _ := fun m => (⟨.tail _ (go m).1, (go m).2⟩ : p.1 ∈ ioN (.io :: ks) k ∧ k ≤ p.1 ∧ (AK.io :: ks)[p.1 - k]? = some .io ∧ (v :: vs)[p.1 - k]? = some (.ref p.2))
      cases v with
      | ref a =>
        rcases List.mem_cons.mp m with e | m
        · subst e
          exact ⟨.head _, Nat.le_refl _, by simp, by simp⟩
        · exact tl m
      | _ => exact tl m
    | _ => exact go m
/-- what is handed back of the places lent -/
theorem outs_ok {P : Nat → Addr → Prop} {st : MS} (hP : ∀ i a, P i a → OwR K S H' (ownD st i) a) : ∀ {ks : List AK} {vs : List V} {k : Nat}, (∀ (i : Nat) (v : V), ks[i]? = some AK.io → vs[i]? = some v → ∃ a, v = V.ref a) → vs.length = ks.length → (∀ p ∈ pins ks vs k, P p.1 p.2) → OutsR K S H' ks vs (outsA ks k st)
  | [], [], k, _, _, _ => trivial
  | [], _ :: _, k, _, h, _ => by cases h
  | _ :: _, [], k, _, h, _ => by cases h
  | q :: ks, v :: vs, k, hr, hl, hp => by
    have hr' : ∀ (i : Nat) (v : V), ks[i]? = some AK.io → vs[i]? = some v → ∃ a, v = V.ref a := fun i w h e => hr (i + 1) w h e
    cases q with
    | io =>
      obtain ⟨a, e⟩ := hr 0 v rfl rfl
      subst e
      exact ⟨⟨a, rfl, hP k a (hp (k, a) (.head _))⟩, outs_ok hP (ks := ks) hr' (Nat.succ.inj hl) fun p m => hp p (.tail _ m)⟩
    | sh => exact outs_ok hP (ks := ks) hr' (Nat.succ.inj hl) hp
    | bo => exact outs_ok hP (ks := ks) hr' (Nat.succ.inj hl) hp
    | sc => exact outs_ok hP (ks := ks) hr' (Nat.succ.inj hl) hp
end
theorem start_get {N : List Str} {vs : List V} (h : vs.length ≤ N.length) (i : Nat) : (L2.start N vs)[i]? = if i < vs.length then (vs[i]?).map some else if i < N.length then some none else none := by
  unfold L2.start
  by_cases l : i < vs.length
  · rw [if_pos l, List.getElem?_append_left (by rw [List.length_map]; exact l), List.getElem?_map]
  · rw [if_neg l, List.getElem?_append_right (by rw [List.length_map]; omega), List.length_map, List.getElem?_replicate]
    by_cases q : i < N.length
    · rw [if_pos q, if_pos (by omega)]
    · rw [if_neg q, if_neg (by omega)]
theorem init_get {n : Nat} {ks : List AK} {ds : List PyData} (hd : ds.length = ks.length) {i : Nat} {c : Cell} (h : (initM n ks ds)[i]? = some (some c)) : i < ks.length ∧ (cells0 ks ds)[i]? = some (some c) := by
  unfold initM at h
  by_cases l : i < ks.length
  · rw [List.getElem?_append_left (by rw [cells0_len hd]; exact l)] at h
    exact ⟨l, h⟩
  · rw [List.getElem?_append_right (by rw [cells0_len hd]; omega), List.getElem?_replicate] at h
    split at h <;> cases h
/-- a def's body keeps its mirror's promise -/
theorem body_ok {M : Pm} {N : List Str} {ks : List AK} {rk : Bool} {ts : TS} {ms : MSt} {n : Nat} {vs : List V} {H : Hp} {Q : VK} {E : XK} (hn : n = N.length) (hl : ks.length ≤ n) (h : RS M.K ⟨M.cls, M.tabs, n, ioN ks 0, rk⟩ (fun cl dx _ H => E cl dx H) ts ms)
    (hw : spOf M ks rk (runF n ks rk ms) vs H Q E) : ts { nx := fun _ H' => Q .non H', rt := Q } (L2.start N vs) H := by
  obtain ⟨S, ds, ar, nd, dom, tabs, hw⟩ := hw
  obtain ⟨lv, ld⟩ := args_len ar
  have lN : vs.length ≤ N.length := by rw [lv, ← hn]; exact hl
  have hi := ios_in ar
  let y : Dy := ⟨H, iosOf ks vs, S, pins ks vs 0⟩
  have slot : ∀ {i : Nat} {v : V}, vs[i]? = some v → (L2.start N vs)[i]? = some (some v) := fun {i v} e => by
    rw [start_get lN, if_pos (List.getElem?_eq_some_iff.mp e).1, e]; rfl
  have io_ref : ∀ (i : Nat) (v : V), ks[i]? = some AK.io → vs[i]? = some v → ∃ a, v = V.ref a := by
    have go : ∀ {ks : List AK} {vs : List V} {ds : List PyData} {ios : List Addr}, ArgsR M.K S H ios ks vs ds → ∀ (i : Nat) (v : V), ks[i]? = some AK.io → vs[i]? = some v → ∃ a, v = V.ref a := fun {ks} => by
      induction ks with
      | nil => intro vs ds ios _ i v h; cases h
      | cons k ks ih =>
        intro vs ds ios h i v e e'
        cases vs with
        | nil => cases e'
        | cons w vs =>
          cases ds with
          | nil => exact h.elim
          | cons d ds =>
            cases i with
            | succ i => exact ih h.2 i v e e'
            | zero =>
              cases e; cases e'
              obtain ⟨a, e, _⟩ := h.1
              exact ⟨a, e⟩
    exact go ar
  have R : Rel M.K ⟨M.cls, M.tabs, n, ioN ks 0, rk⟩ y [] [] S H (L2.start N vs) (initM n ks ds) := {
    ls := by
      unfold L2.start
      rw [List.length_append, List.length_map, List.length_replicate]
      show _ = n
      omega
    lt := by
      unfold initM
      rw [List.length_append, cells0_len ld, List.length_replicate]
      show _ = n
      omega
    kp := .refl
    s0 := fun a m => ⟨m, (dom a m).nt⟩
    sin := hi
    dom := dom
    cell := fun i c e => by
      obtain ⟨_, e⟩ := init_get ld e
      obtain ⟨k, v, d, e1, e2, e3, r⟩ := args_at ar e
      refine ⟨v, slot e2, ?_⟩
      subst e3
      cases k with
      | sh => exact r
      | bo => exact r.imp id fun ⟨a, e, n, r⟩ => ⟨a, e, n, r⟩
      | io =>
        obtain ⟨a, e, m, r⟩ := r
        subst e
        exact ⟨a, rfl, m, ios_mem e1 e2, r⟩
      | sc =>
        obtain ⟨z, a, ds, vs', e, e', sq, r⟩ := r
        exact ⟨a, ds, vs', e, by show a ∉ iosOf ks vs; rw [z]; exact List.not_mem_nil, e', sq, r⟩
    gd := fun _ m => nomatch m
    tg := fun _ m => nomatch m
    sep := fun i j a p q => by
      have go : ∀ i, Owns (L2.start N vs) (initM n ks ds) i a → ks[i]? = some .io ∧ vs[i]? = some (.ref a) := fun i p => by
        obtain ⟨d, e⟩ := isOwn_ex p.2
        have key : ∀ c, (initM n ks ds)[i]? = some (some c) → (∃ d, c = .ow d ∨ c = .io d) → ks[i]? = some .io ∧ vs[i]? = some (.ref a) := fun c e hc => by
          obtain ⟨_, e⟩ := init_get ld e
          obtain ⟨k, v, d, e1, e2, e3, r⟩ := args_at ar e
          have : k = .io := by
            obtain ⟨d', hc⟩ := hc
            subst e3
            cases k <;> rcases hc with hc | hc <;> first | rfl | cases hc
          subst this
          have := slot e2
          rw [p.1] at this; cases this
          exact ⟨e1, e2⟩
        rcases e with e | e
        · exact key _ e ⟨d, .inl rfl⟩
        · exact key _ e ⟨d, .inr rfl⟩
      exact ios_inj nd (go i p).1 (go i p).2 (go j q).1 (go j q).2
    sept := fun _ _ _ _ m => nomatch m
    tnd := List.nodup_nil
    pin := fun p m => by
      obtain ⟨h1, _, h3, h4⟩ := pins_at m
      refine ⟨by show (ioN ks 0).contains p.1 = true; simpa using h1, slot h4, ?_⟩
      have l : p.1 < ks.length := (List.getElem?_eq_some_iff.mp h3).1
      unfold initM
      rw [List.getElem?_append_left (by rw [cells0_len ld]; exact l)]
      have go : ∀ {ks : List AK} {ds : List PyData} {i : Nat}, ds.length = ks.length → ks[i]? = some .io → isOwn (cells0 ks ds)[i]? = true := fun {ks} => by
        induction ks with
        | nil => intro ds i _ h; cases h
        | cons k ks ih =>
          intro ds i hl h
          cases ds with
          | nil => cases hl
          | cons d ds =>
            cases i with
            | zero => cases h; rfl
            | succ i => exact ih (Nat.succ.inj hl) h
      exact go ld h3
    tabs := tabs }
  refine h y [] [] S H _ _ _ R ?_
  -- the end
  have outs : ∀ {S' H' σ' st'}, Rel M.K ⟨M.cls, M.tabs, n, ioN ks 0, rk⟩ y [] [] S' H' σ' st' → ∀ S2, (∀ a ∈ S2, a ∈ S') → OutsR M.K S2 H' ks vs (outsA ks 0 st') := fun {S' H' σ' st'} R' S2 sub =>
    outs_ok (P := fun i a => σ'[i]? = some (some (.ref a)) ∧ isOwn st'[i]? = true) (fun i a ⟨e, o⟩ => by
      obtain ⟨b, d, e2, m, r, z⟩ := cell_own (R'.cell i) o
      rw [e] at e2; cases e2
      have : ownD st' i = d := by
        unfold ownD
        rcases z with ⟨z, _⟩ | ⟨z, _⟩ <;> rw [z]
      rw [this]
      exact r.step (.sub sub) rfl) io_ref lv fun p m => (R'.pin p m).2
  unfold runF at hw
  generalize ms (initM n ks ds) = o at hw ⊢
  cases o with
  | bad => exact hw
  | brk st' => exact hw.elim
  | ct st' => exact hw.elim
  | err c fs st' =>
    intro S' σ' H' cl dx R' ev
    exact hw H' cl dx R'.kp (outs R' S fun a m => (R'.s0 a m).1) ev
  | nx st' =>
    intro S' σ' H' R'
    cases rk with
    | true => exact hw.elim
    | false => exact hw H' .non R'.kp ⟨outs R' S fun a m => (R'.s0 a m).1, rfl⟩
  | ret d st' =>
    intro S' σ' H' v R' rv
    cases rk with
    | true =>
      obtain ⟨a, e, m, nt, r⟩ : ∃ a, v = .ref a ∧ a ∈ S' ∧ ¬ NT y.H0 a ∧ OwR M.K (a :: S) H' d a := rv
      exact hw H' v R'.kp ⟨a, e, nt, outs R' (a :: S) fun b mb => (List.mem_cons.mp mb).elim (fun e => e ▸ m) fun mb => (R'.s0 b mb).1, r⟩
    | false =>
      have rv : Dv M.K S H' d v := rv
      exact hw H' v R'.kp ⟨outs R' S fun a m => (R'.s0 a m).1, rv⟩
theorem len_spOf {M : Pm} {ks : List AK} {rk : Bool} {m : List PyData → FOut} {ps : List Str} (h : ks.length = ps.length) : ∀ vs H Q E, spOf M ks rk m vs H Q E → vs.length = ps.length := fun vs H Q E hw => by
  obtain ⟨S, ds, ar, _⟩ := hw
  rw [(args_len ar).1, h]
end MV

set_option Elab.async false
set_option linter.all false
set_option maxRecDepth 100000
set_option maxHeartbeats 2000000
/-! VQ: a piece of syntax and its mirror. -/
namespace MV
open PySem PySem.Spec PyProof.Rows L2 FR
structure QE (X : Cx) (C : Ct) (E : WX) (md : Md) (e : Expr) (m : MS → Out PyData) : Prop where
  ex : ∃ t, PE X e t ∧ RE X.K C E md t m
structure QT (X : Cx) (C : Ct) (E : WX) (e : Expr) (m : MS → Out Bool) : Prop where
  ex : ∃ t, PT X e t ∧ RT X.K C E t m
structure QW (X : Cx) (C : Ct) (E : WX) (e : Expr) (m : MS → Out Bool) : Prop where
  ex : ∃ t, PW X e t ∧ RT X.K C E t m
structure QA (X : Cx) (C : Ct) (E : WX) (sp : List (Option Nat)) (es : List Expr) (m : MS → Out (List PyData)) : Prop where
  ex : ∃ t, PA X es t ∧ RA X.K C E sp t m
structure QO (X : Cx) (C : Ct) (E : WX) (e : Option Expr) (m : MS → Out (Option Int)) : Prop where
  ex : ∃ t, PO X e t ∧ RO X.K C E t m
structure QI (X : Cx) (C : Ct) (E : WX) (tg it : Expr) (m : MS → Out (List PyData)) : Prop where
  ex : ∃ t, PI X tg it t ∧ RI X.K C E t m
structure QG (X : Cx) (C : Ct) (js : List Nat) (e : Expr) (mg : PyData → MS → Option MS) : Prop where
  ex : ∃ g, PG X e g ∧ RG X.K C js g mg
structure QGs (X : Cx) (C : Ct) (js : List Nat) (es : List Expr) (ms : List (PyData → MS → Option MS)) : Prop where
  ex : ∃ g, PGs X es g ∧ RGs X.K C js g (gL ms)
structure QS (X : Cx) (C : Ct) (E : WX) (st : Stmt) (m : MSt) : Prop where
  ex : ∃ t, PS X st t ∧ RS X.K C E t m
structure QSs (X : Cx) (C : Ct) (E : WX) (sts : List Stmt) (m : MSt) : Prop where
  ex : ∃ t, PSs X sts t ∧ RS X.K C E t m
section
variable {X : Cx} {C : Ct} {E : WX} {md : Md} {a b c o e : Expr} {es : List Expr} {ma mb mc m : MS → Out PyData} {mta mtb : MS → Out Bool} {pos p1 p2 p3 : Pos} {i j l : Nat} {x : Str}
theorem QE.fs (h : QE X C E .f e m) : QE X C E .s e m := by obtain ⟨t, p, r⟩ := h.ex; exact ⟨⟨t, p, r.fs⟩⟩
theorem QE.sb (h : QE X C E .s e m) : QE X C E .b e m := by obtain ⟨t, p, r⟩ := h.ex; exact ⟨⟨t, p, r.sb⟩⟩
theorem QE.fb (h : QE X C E .f e m) : QE X C E .b e m := h.fs.sb
/-! ### names, constants -/
theorem q_v (hN : X.N[i]? = some x := by rfl) (hv : Vis X.env.scope x := by first | exact Or.inl rfl | exact Or.inr (Or.inl rfl) | exact Or.inr (Or.inr rfl)) (hi : i < C.n := by exact Nat.le_of_ble_eq_true rfl) (hp : C.ps.contains i = false := by rfl) (hd : (x == ("__debug__" : Str)) = false := by decide) (hcd : (x == ("__classdict__" : Str)) = false := by decide) : QE X C E .s (.Name x pos) (mV i) := ⟨⟨_, pe_var hN hv hd hcd, re_v hi hp⟩⟩
theorem q_b (hN : X.N[i]? = some x := by rfl) (hv : Vis X.env.scope x := by first | exact Or.inl rfl | exact Or.inr (Or.inl rfl) | exact Or.inr (Or.inr rfl)) (hd : (x == ("__debug__" : Str)) = false := by decide) (hcd : (x == ("__classdict__" : Str)) = false := by decide) : QE X C E .b (.Name x pos) (mB i) := ⟨⟨_, pe_var hN hv hd hcd, re_b⟩⟩
theorem q_mv (hN : X.N[i]? = some x := by rfl) (hv : Vis X.env.scope x := by first | exact Or.inl rfl | exact Or.inr (Or.inl rfl) | exact Or.inr (Or.inr rfl)) (hi : i < C.n := by exact Nat.le_of_ble_eq_true rfl) (hp : C.ps.contains i = false := by rfl) (hd : (x == ("__debug__" : Str)) = false := by decide) (hcd : (x == ("__classdict__" : Str)) = false := by decide) : QE X C E .f (.Name x pos) (mMv i) := ⟨⟨_, pe_var hN hv hd hcd, re_mv hi hp⟩⟩
theorem q_int {k : Int} {u p} : QE X C E .s (.Constant (.int k) u p) (mK (.int k)) := ⟨⟨_, pe_int, re_c⟩⟩
theorem q_bl {k : Bool} {u p} : QE X C E .s (.Constant (.bool k) u p) (mK (.bool k)) := ⟨⟨_, pe_bl, re_c⟩⟩
theorem q_non {u p} : QE X C E .s (.Constant .none u p) (mK .none) := ⟨⟨_, pe_non, re_c⟩⟩
theorem q_str {k : Str} {u p} : QE X C E .s (.Constant (.str k) u p) (mK (.str k)) := ⟨⟨_, pe_str, re_c⟩⟩
theorem q_gs {z : Str} (h : ∃ t, X.mg x = some (.str z t)) (hg : Gl X x) (hd : (x == ("__debug__" : Str)) = false := by decide) : QE X C E .s (.Name x pos) (mK (.str z)) := by
  obtain ⟨t, h⟩ := h
  exact ⟨⟨_, pe_glob (v := .str z) hg h ⟨t, rfl⟩ hd, re_c (v := .str z)⟩⟩
theorem q_gi {z : Int} (h : ∃ t, X.mg x = some (.int z t)) (hg : Gl X x) (hd : (x == ("__debug__" : Str)) = false := by decide) : QE X C E .s (.Name x pos) (mK (.int z)) := by
  obtain ⟨t, h⟩ := h
  exact ⟨⟨_, pe_glob (v := .int z) hg h ⟨t, rfl⟩ hd, re_c (v := .int z)⟩⟩
/-! ### operators -/
section
variable {op : Operator} {r : R2} {f : PyData → PyData → Option PyData}
theorem q_op (ho : OpR X (binaryOp op) r) (ok : OpOk X.K C md r f) (ha : QE X C E .s a ma) (hb : QE X C E .b b mb) : QE X C E md (.BinOp a op b pos) (mOp f ma mb) := by
  obtain ⟨ta, pa, ra⟩ := ha.ex; obtain ⟨tb, pb, rb⟩ := hb.ex
  exact ⟨⟨_, pe_op ho pa pb, re_op ra rb ok⟩⟩
theorem q_opB (ho : OpR X (binaryOp op) r) (ok : OpOk X.K C md r f) (hN : X.N[i]? = some x := by rfl) (hv : Vis X.env.scope x := by first | exact Or.inl rfl | exact Or.inr (Or.inl rfl) | exact Or.inr (Or.inr rfl)) (hb : QE X C E .b b mb) (hd : (x == ("__debug__" : Str)) = false := by decide) (hcd : (x == ("__classdict__" : Str)) = false := by decide) : QE X C E md (.BinOp (.Name x p1) op b pos) (mOpB f i mb) := by
  obtain ⟨tb, pb, rb⟩ := hb.ex
  exact ⟨⟨_, pe_op ho (pe_var hN hv hd hcd) pb, re_opB rb ok⟩⟩
end
section
variable {op op' : CmpOp} {r r' : R2} {f g : PyData → PyData → Option PyData}
theorem q_cmp (ho : OpR X (compareOp op) r) (ok : OpOk X.K C .s r f) (ha : QE X C E .s a ma) (hb : QE X C E .b b mb) (hm : behindInMarks op b = false) : QE X C E .s (.Compare a [op] [b] pos) (mOp f ma mb) := by
  obtain ⟨ta, pa, ra⟩ := ha.ex; obtain ⟨tb, pb, rb⟩ := hb.ex
  exact ⟨⟨_, pe_cmpR ho pa pb hm, re_op ra rb ok⟩⟩
theorem q_cmpB (ho : OpR X (compareOp op) r) (ok : OpOk X.K C .s r f) (hN : X.N[i]? = some x := by rfl) (hv : Vis X.env.scope x := by first | exact Or.inl rfl | exact Or.inr (Or.inl rfl) | exact Or.inr (Or.inr rfl)) (hb : QE X C E .b b mb) (hm : behindInMarks op b = false) (hd : (x == ("__debug__" : Str)) = false := by decide) (hcd : (x == ("__classdict__" : Str)) = false := by decide) : QE X C E .s (.Compare (.Name x p1) [op] [b] pos) (mOpB f i mb) := by
  obtain ⟨tb, pb, rb⟩ := hb.ex
  exact ⟨⟨_, pe_cmpR ho (pe_var hN hv hd hcd) pb hm, re_opB rb ok⟩⟩
theorem q_cmpT (ho : OpR X (compareOp op) r) (ok : OpOk X.K C .s r f) (ha : QE X C E .s a ma) (hb : QE X C E .b b mb) (hm : behindInMarks op b = false) : QT X C E (.Compare a [op] [b] pos) (mTest (mOp f ma mb)) := by
  obtain ⟨ta, pa, ra⟩ := ha.ex; obtain ⟨tb, pb, rb⟩ := hb.ex
  exact ⟨⟨_, pt_cmpR ho pa pb hm, rt_test (re_op ra rb ok)⟩⟩
theorem q_cmpTB (ho : OpR X (compareOp op) r) (ok : OpOk X.K C .s r f) (hN : X.N[i]? = some x := by rfl) (hv : Vis X.env.scope x := by first | exact Or.inl rfl | exact Or.inr (Or.inl rfl) | exact Or.inr (Or.inr rfl)) (hb : QE X C E .b b mb) (hm : behindInMarks op b = false) (hd : (x == ("__debug__" : Str)) = false := by decide) (hcd : (x == ("__classdict__" : Str)) = false := by decide) : QT X C E (.Compare (.Name x p1) [op] [b] pos) (mTest (mOpB f i mb)) := by
  obtain ⟨tb, pb, rb⟩ := hb.ex
  exact ⟨⟨_, pt_cmpR ho (pe_var hN hv hd hcd) pb hm, rt_test (re_opB rb ok)⟩⟩
theorem q_chain (ho : OpR X (compareOp op) r) (ok : OpOk X.K C .s r f) (ho' : OpR X (compareOp op') r') (ok' : OpOk X.K C .s r' g) (ha : QE X C E .s a ma) (hb : QE X C E .s b mb) (hc : QE X C E .b c mc) (hm : lastMarks [op, op'] [b, c] = false := by with_unfolding_all rfl) : QE X C E .s (.Compare a [op, op'] [b, c] pos) (mChain f g ma mb mc) := by
  obtain ⟨ta, pa, ra⟩ := ha.ex; obtain ⟨tb, pb, rb⟩ := hb.ex; obtain ⟨tc, pc, rc⟩ := hc.ex
  exact ⟨⟨_, pe_chain ho ho' pa pb pc hm, re_chain ra rb rc ok ok'⟩⟩
theorem q_chainT (ho : OpR X (compareOp op) r) (ok : OpOk X.K C .s r f) (ho' : OpR X (compareOp op') r') (ok' : OpOk X.K C .s r' g) (ha : QE X C E .s a ma) (hb : QE X C E .s b mb) (hc : QE X C E .b c mc) (hm : lastMarks [op, op'] [b, c] = false := by with_unfolding_all rfl) : QT X C E (.Compare a [op, op'] [b, c] pos) (mTest (mChain f g ma mb mc)) := by
  obtain ⟨ta, pa, ra⟩ := ha.ex; obtain ⟨tb, pb, rb⟩ := hb.ex; obtain ⟨tc, pc, rc⟩ := hc.ex
  exact ⟨⟨_, pt_chain ho ho' pa pb pc hm, rt_test (re_chain ra rb rc ok ok')⟩⟩
end
theorem q_ix (ha : QE X C E .s a ma) (hb : QE X C E .b b mb) (hs : PlainIx b) : QE X C E .s (.Subscript a b pos) (mOp ixD ma mb) := by
  obtain ⟨ta, pa, ra⟩ := ha.ex; obtain ⟨tb, pb, rb⟩ := hb.ex
  exact ⟨⟨_, pe_ix ix_seq pa pb hs, re_op ra rb ok_ix⟩⟩
theorem q_ixB (hN : X.N[i]? = some x := by rfl) (hv : Vis X.env.scope x := by first | exact Or.inl rfl | exact Or.inr (Or.inl rfl) | exact Or.inr (Or.inr rfl)) (hb : QE X C E .b b mb) (hs : PlainIx b) (hd : (x == ("__debug__" : Str)) = false := by decide) (hcd : (x == ("__classdict__" : Str)) = false := by decide) : QE X C E .s (.Subscript (.Name x p1) b pos) (mOpB ixD i mb) := by
  obtain ⟨tb, pb, rb⟩ := hb.ex
  exact ⟨⟨_, pe_ix ix_seq (pe_var hN hv hd hcd) pb hs, re_opB rb ok_ix⟩⟩
theorem q_neg (ha : QE X C E .b a ma) : QE X C E .s (.UnaryOp .USub a pos) (mU negD ma) := by
  obtain ⟨ta, pa, ra⟩ := ha.ex
  exact ⟨⟨_, pe_un un_neg pa, re_un ra ok_neg⟩⟩
/-! ### tests -/
theorem q_val (ha : QE X C E .s a ma) (he : ∀ whole, isTrue a X.env whole = (do let v ← whole; standAt a.pos; holding [v] (truthy v)) := by intro _; rfl) : QT X C E a (mTest ma) := by
  obtain ⟨ta, pa, ra⟩ := ha.ex
  exact ⟨⟨_, pt_val pa he, rt_b ra⟩⟩
theorem q_tru (ha : QE X C E .b a ma) (he : ∀ whole, isTrue a X.env whole = (do let v ← whole; standAt a.pos; holding [v] (truthy v)) := by intro _; rfl) : QT X C E a (mTru ma) := by
  obtain ⟨ta, pa, ra⟩ := ha.ex
  exact ⟨⟨_, pt_truth pa he, rt_tru ra⟩⟩
theorem QW.t (h : QW X C E e mta) : QT X C E e mta := by obtain ⟨t, p, r⟩ := h.ex; exact ⟨⟨t, p.pt, r⟩⟩
theorem q_notT (ha : QT X C E a mta) : QT X C E (.UnaryOp .Not a pos) (mNot mta) := by
  obtain ⟨ta, pa, ra⟩ := ha.ex
  exact ⟨⟨_, pt_not pa, rt_not ra⟩⟩
theorem q_and1 (ha : QT X C E a mta) : QW X C E (.BoolOp .And [a] pos) mta := by
  obtain ⟨ta, pa, ra⟩ := ha.ex
  exact ⟨⟨_, pw_and1 pa, ra⟩⟩
theorem q_or1 (ha : QT X C E a mta) : QW X C E (.BoolOp .Or [a] pos) mta := by
  obtain ⟨ta, pa, ra⟩ := ha.ex
  exact ⟨⟨_, pw_or1 pa, ra⟩⟩
theorem q_andT (ha : QT X C E a mta) (hb : QW X C E (.BoolOp .And (b :: es) pos) mtb) : QW X C E (.BoolOp .And (a :: b :: es) pos) (mAnd mta mtb) := by
  obtain ⟨ta, pa, ra⟩ := ha.ex; obtain ⟨tb, pb, rb⟩ := hb.ex
  exact ⟨⟨_, pw_and pa pb, rt_and ra rb⟩⟩
theorem q_orT (ha : QT X C E a mta) (hb : QW X C E (.BoolOp .Or (b :: es) pos) mtb) : QW X C E (.BoolOp .Or (a :: b :: es) pos) (mOr mta mtb) := by
  obtain ⟨ta, pa, ra⟩ := ha.ex; obtain ⟨tb, pb, rb⟩ := hb.ex
  exact ⟨⟨_, pw_or pa pb, rt_or ra rb⟩⟩
/-! ### and, or, not as values; a if c else b -/
theorem q_one {op} (ha : QE X C E md a ma) : QE X C E md (.BoolOp op [a] pos) ma := by
  obtain ⟨ta, pa, ra⟩ := ha.ex
  exact ⟨⟨_, pe_one pa, ra⟩⟩
theorem q_and (ha : QE X C E .s a ma) (hb : QE X C E .s (.BoolOp .And (b :: es) pos) mb) : QE X C E .s (.BoolOp .And (a :: b :: es) pos) (mAndV ma mb) := by
  obtain ⟨ta, pa, ra⟩ := ha.ex; obtain ⟨tb, pb, rb⟩ := hb.ex
  exact ⟨⟨_, pe_and pa pb, re_and ra rb⟩⟩
theorem q_or (ha : QE X C E .s a ma) (hb : QE X C E .s (.BoolOp .Or (b :: es) pos) mb) : QE X C E .s (.BoolOp .Or (a :: b :: es) pos) (mOrV ma mb) := by
  obtain ⟨ta, pa, ra⟩ := ha.ex; obtain ⟨tb, pb, rb⟩ := hb.ex
  exact ⟨⟨_, pe_or pa pb, re_or ra rb⟩⟩
theorem q_not (ha : QE X C E .s a ma) : QE X C E .s (.UnaryOp .Not a pos) (mNotV ma) := by
  obtain ⟨ta, pa, ra⟩ := ha.ex
  exact ⟨⟨_, pe_not pa, re_not ra⟩⟩
theorem q_if (hc : QT X C E c mta) (ha : QE X C E md a ma) (hb : QE X C E md b mb) : QE X C E md (.IfExp c a b pos) (mIf mta ma mb) := by
  obtain ⟨tc, pc, rc⟩ := hc.ex; obtain ⟨ta, pa, ra⟩ := ha.ex; obtain ⟨tb, pb, rb⟩ := hb.ex
  exact ⟨⟨_, pe_ifExp pc pa pb, re_if rc ra rb⟩⟩
/-! ### arguments, displays -/
section
variable {sp : List (Option Nat)} {mr : MS → Out (List PyData)} {n : Nat}
theorem q_nil : QA X C E [] [] mNil := ⟨⟨_, pa_nil, ra_nil⟩⟩
theorem q_cons (ha : QE X C E .s e m) (hr : QA X C E sp es mr) (hs : starEach (e :: es) X.env = (false, eval e X.env) :: starEach es X.env := by rfl) : QA X C E (none :: sp) (e :: es) (mCons m mr) := by
  obtain ⟨ta, pa, ra⟩ := ha.ex; obtain ⟨tr, pr, rr⟩ := hr.ex
  exact ⟨⟨_, pa_cons pa pr hs, ra_cons ra rr⟩⟩
theorem q_consV (hN : X.N[i]? = some x := by rfl) (hv : Vis X.env.scope x := by first | exact Or.inl rfl | exact Or.inr (Or.inl rfl) | exact Or.inr (Or.inr rfl)) (hr : QA X C E sp es mr) (hs : starEach (.Name x pos :: es) X.env = (false, eval (.Name x pos) X.env) :: starEach es X.env := by rfl) (hd : (x == ("__debug__" : Str)) = false := by decide) (hcd : (x == ("__classdict__" : Str)) = false := by decide) : QA X C E (some i :: sp) (.Name x pos :: es) (mConsV i mr) := by
  obtain ⟨tr, pr, rr⟩ := hr.ex
  exact ⟨⟨_, pa_cons (pe_var hN hv hd hcd) pr hs, ra_consV rr⟩⟩
theorem q_tup {x1} (h : QA X C E (List.replicate n none) es mr) : QE X C E .s (.Tuple es x1 pos) (mTup mr) := by
  obtain ⟨t, p, r⟩ := h.ex
  exact ⟨⟨_, pe_tup p, re_tup r⟩⟩
theorem q_lst (h : QA X C E (List.replicate n none) es mr) : QE X C E .f (.List es pos) (mLst mr) := by
  obtain ⟨t, p, r⟩ := h.ex
  exact ⟨⟨_, pe_lst p, re_lst r⟩⟩
end
/-! ### slices -/
section
variable {lo hi : Option Expr} {ml mu : MS → Out (Option Int)}
theorem q_no : QO X C E none mNoP := ⟨⟨_, po_none, ro_no⟩⟩
theorem q_part (h : QE X C E .s e m) : QO X C E (some e) (mPart m) := by
  obtain ⟨t, p, r⟩ := h.ex
  exact ⟨⟨_, po_some p, ro_part r⟩⟩
theorem q_sl (ha : QE X C E .s a ma) (hl : QO X C E lo ml) (hu : QO X C E hi mu) : QE X C E .s (.Subscript a (.Slice lo hi none p2) pos) (mSl slD ma ml mu) := by
  obtain ⟨ta, pa, ra⟩ := ha.ex; obtain ⟨tl, pl, rl⟩ := hl.ex; obtain ⟨tu, pu, ru⟩ := hu.ex
  exact ⟨⟨_, pe_slice sl_G pa pl pu, re_sl ra rl ru ok_slG⟩⟩
theorem q_slF (ha : QE X C E .s a ma) (hl : QO X C E lo ml) (hu : QO X C E hi mu) : QE X C E .f (.Subscript a (.Slice lo hi none p2) pos) (mSl slLD ma ml mu) := by
  obtain ⟨ta, pa, ra⟩ := ha.ex; obtain ⟨tl, pl, rl⟩ := hl.ex; obtain ⟨tu, pu, ru⟩ := hu.ex
  exact ⟨⟨_, pe_slice sl_list pa pl pu, re_sl ra rl ru ok_slF⟩⟩
theorem q_slB (hN : X.N[i]? = some x := by rfl) (hv : Vis X.env.scope x := by first | exact Or.inl rfl | exact Or.inr (Or.inl rfl) | exact Or.inr (Or.inr rfl)) (hl : QO X C E lo ml) (hu : QO X C E hi mu) (hd : (x == ("__debug__" : Str)) = false := by decide) (hcd : (x == ("__classdict__" : Str)) = false := by decide) : QE X C E .s (.Subscript (.Name x p1) (.Slice lo hi none p2) pos) (mSlB slD i ml mu) := by
  obtain ⟨tl, pl, rl⟩ := hl.ex; obtain ⟨tu, pu, ru⟩ := hu.ex
  exact ⟨⟨_, pe_slice sl_G (pe_var hN hv hd hcd) pl pu, re_slB rl ru ok_slG⟩⟩
theorem q_slBF (hN : X.N[i]? = some x := by rfl) (hv : Vis X.env.scope x := by first | exact Or.inl rfl | exact Or.inr (Or.inl rfl) | exact Or.inr (Or.inr rfl)) (hl : QO X C E lo ml) (hu : QO X C E hi mu) (hd : (x == ("__debug__" : Str)) = false := by decide) (hcd : (x == ("__classdict__" : Str)) = false := by decide) : QE X C E .f (.Subscript (.Name x p1) (.Slice lo hi none p2) pos) (mSlB slLD i ml mu) := by
  obtain ⟨tl, pl, rl⟩ := hl.ex; obtain ⟨tu, pu, ru⟩ := hu.ex
  exact ⟨⟨_, pe_slice sl_list (pe_var hN hv hd hcd) pl pu, re_slB rl ru ok_slF⟩⟩
theorem q_slW (hN : X.N[i]? = some x := by rfl) (hv : Vis X.env.scope x := by first | exact Or.inl rfl | exact Or.inr (Or.inl rfl) | exact Or.inr (Or.inr rfl)) (hl : QO X C E lo ml) (hu : QO X C E hi mu) (hd : (x == ("__debug__" : Str)) = false := by decide) (hcd : (x == ("__classdict__" : Str)) = false := by decide) : QE X C E .f (.Subscript (.Name x p1) (.Slice lo hi none p2) pos) (mSlW i ml mu) := by
  obtain ⟨tl, pl, rl⟩ := hl.ex; obtain ⟨tu, pu, ru⟩ := hu.ex
  exact ⟨⟨_, pe_slice sl_list (pe_var hN hv hd hcd) pl pu, re_slW rl ru⟩⟩
theorem q_revL {k : Nat} (ha : QE X C E .b a ma) : QE X C E .f (.Subscript a (.Slice none none (some (.UnaryOp .USub (.Constant (.int 1) k p1) p2)) p3) pos) (mU revD ma) := by
  obtain ⟨ta, pa, ra⟩ := ha.ex
  exact ⟨⟨_, pe_revL pa, re_revL ra⟩⟩
end
/-! ### built-ins -/
section
variable {id : String} {r : List V → Hp → VK → Prop} {f : PyData → Option PyData} {p : Pos}
theorem q_cb (hc : CallR X (.builtin id) r) (ok : CbOk X.K C md r f) (hm : X.mg x = none) (hg : Gl X x) (hv : bootBuiltins x = some (.builtin id)) (ha : QE X C E .b a ma) (hn : x ≠ "__name__" := by decide) (hdb : (x == ("__debug__" : Str)) = false := by decide)
    (he : starEach [a] X.env = (false, eval a X.env) :: starEach [] X.env := by rfl) (hpl : (backTo pos (starEach [] X.env)).any (·.1) = false := by rfl) : QE X C E md (.Call (.Name x p) [a] [] pos) (mU f ma) := by
  obtain ⟨ta, pa, ra⟩ := ha.ex
  exact ⟨⟨_, pe_callB hc hg hm hv (pa_cons pa pa_nil he) hn hdb he hpl, re_cb ra ok⟩⟩
theorem q_cty {T : String} (hc : CallR X (.type T) r) (ok : CbOk X.K C md r f) (hm : X.mg x = none) (hg : Gl X x) (hv : bootBuiltins x = some (.type T)) (ha : QE X C E .b a ma) (hn : x ≠ "__name__" := by decide) (hdb : (x == ("__debug__" : Str)) = false := by decide)
    (he : starEach [a] X.env = (false, eval a X.env) :: starEach [] X.env := by rfl) (hpl : (backTo pos (starEach [] X.env)).any (·.1) = false := by rfl) : QE X C E md (.Call (.Name x p) [a] [] pos) (mU f ma) := by
  obtain ⟨ta, pa, ra⟩ := ha.ex
  exact ⟨⟨_, pe_callTy hc hg hm hv (pa_cons pa pa_nil he) hn hdb he hpl, re_cb ra ok⟩⟩
theorem q_cb2 {f : PyData → PyData → Option PyData} (hc : CallR X (.builtin id) r) (ok : Cb2Ok X.K C md r f) (hm : X.mg x = none) (hg : Gl X x) (hv : bootBuiltins x = some (.builtin id)) (ha : QE X C E .s a ma) (hb : QE X C E .b b mb) (hn : x ≠ "__name__" := by decide) (hdb : (x == ("__debug__" : Str)) = false := by decide)
    (he : starEach [a, b] X.env = (false, eval a X.env) :: starEach [b] X.env := by rfl) (he2 : starEach [b] X.env = (false, eval b X.env) :: starEach [] X.env := by rfl) (hpl : (backTo pos (starEach [b] X.env)).any (·.1) = false := by rfl) : QE X C E md (.Call (.Name x p) [a, b] [] pos) (mU2 f ma mb) := by
  obtain ⟨ta, pa, ra⟩ := ha.ex; obtain ⟨tb, pb, rb⟩ := hb.ex
  exact ⟨⟨_, pe_callB hc hg hm hv (pa_cons pa (pa_cons pb pa_nil he2) he) hn hdb he hpl, re_cb2 ra rb ok⟩⟩
theorem q_isi {t : Str} {ts : String} (hm : X.mg "isinstance" = none) (hg : Gl X "isinstance") (hmt : X.mg t = none) (hgt : Gl X t) (hvt : bootBuiltins t = some (.type ts)) (ha : QE X C E .b a ma) (hn : t ≠ "__name__" := by decide) (hdt : (t == ("__debug__" : Str)) = false := by decide)
    (he : starEach [a, .Name t p1] X.env = (false, eval a X.env) :: starEach [.Name t p1] X.env := by rfl) (he2 : starEach [.Name t p1] X.env = (false, eval (.Name t p1) X.env) :: starEach [] X.env := by rfl) (hpl : (backTo pos (starEach [.Name t p1] X.env)).any (·.1) = false := by rfl) :
    QE X C E .s (.Call (.Name "isinstance" p) [a, .Name t p1] [] pos) (mU (isiD ts) ma) := by
  obtain ⟨ta, pa, ra⟩ := ha.ex
  exact ⟨⟨_, pe_callB call_isi hg hm (by decide +kernel) (pa_cons pa (pa_cons (pe_bltn (v := .ty ts) hgt hmt hvt rfl hn hdt) pa_nil he2) he) (by decide) (by decide) he hpl, re_isi ra⟩⟩
end
/-! ### methods -/
section
variable {apos cpos : Pos}
theorem q_join (ha : QE X C E .s a ma) (hb : QE X C E .b b mb) (hbase : attributeBase a "join" X.env (eval a X.env) = eval a X.env := by rfl)
    (hfew : ((backTo cpos (starEach [b] X.env)).all (fun x => !x.1) && (backToKw cpos (keywordEach [] X.env)).all (fun x => x.1.isSome)
      && decide (([b] : List Expr).length + ([] : List Keyword).length + (if ([] : List Keyword).isEmpty then 0 else 1) < 30)) = true := by rfl)
    (hline : (apos.endLine == cpos.line) = true := by rfl) (hs : starEach [b] X.env = (false, eval b X.env) :: starEach [] X.env := by rfl) (hplain : (backTo cpos (starEach [] X.env)).any (·.1) = false := by rfl) :
    QE X C E .s (.Call (.Attribute a "join" apos) [b] [] cpos) (mMt joinD isStrD ma mb) := by
  obtain ⟨ta, pa, ra⟩ := ha.ex; obtain ⟨tb, pb, rb⟩ := hb.ex
  exact ⟨⟨_, pe_bm PySem.F.plainAttrs_str PySem.F.slot_str_join PySem.F.type_str_join mt_join pa (pa_cons pb pa_nil hs) hbase hfew hline hs hplain, re_mtS ra rb ok_join⟩⟩
theorem q_sindex (ha : QE X C E .s a ma) (hb : QE X C E .b b mb) (hbase : attributeBase a "index" X.env (eval a X.env) = eval a X.env := by rfl)
    (hfew : ((backTo cpos (starEach [b] X.env)).all (fun x => !x.1) && (backToKw cpos (keywordEach [] X.env)).all (fun x => x.1.isSome)
      && decide (([b] : List Expr).length + ([] : List Keyword).length + (if ([] : List Keyword).isEmpty then 0 else 1) < 30)) = true := by rfl)
    (hline : (apos.endLine == cpos.line) = true := by rfl) (hs : starEach [b] X.env = (false, eval b X.env) :: starEach [] X.env := by rfl) (hplain : (backTo cpos (starEach [] X.env)).any (·.1) = false := by rfl) :
    QE X C E .s (.Call (.Attribute a "index" apos) [b] [] cpos) (mMt sIndexD isStrD ma mb) := by
  obtain ⟨ta, pa, ra⟩ := ha.ex; obtain ⟨tb, pb, rb⟩ := hb.ex
  exact ⟨⟨_, pe_bm PySem.F.plainAttrs_str PySem.F.slot_str_index PySem.F.type_str_index mt_sindex pa (pa_cons pb pa_nil hs) hbase hfew hline hs hplain, re_mtS ra rb ok_sIndex⟩⟩
theorem q_lindex (ha : QE X C E .s a ma) (hb : QE X C E .b b mb) (hbase : attributeBase a "index" X.env (eval a X.env) = eval a X.env := by rfl)
    (hfew : ((backTo cpos (starEach [b] X.env)).all (fun x => !x.1) && (backToKw cpos (keywordEach [] X.env)).all (fun x => x.1.isSome)
      && decide (([b] : List Expr).length + ([] : List Keyword).length + (if ([] : List Keyword).isEmpty then 0 else 1) < 30)) = true := by rfl)
    (hline : (apos.endLine == cpos.line) = true := by rfl) (hs : starEach [b] X.env = (false, eval b X.env) :: starEach [] X.env := by rfl) (hplain : (backTo cpos (starEach [] X.env)).any (·.1) = false := by rfl) :
    QE X C E .s (.Call (.Attribute a "index" apos) [b] [] cpos) (mMt lIndexD isLstD ma mb) := by
  obtain ⟨ta, pa, ra⟩ := ha.ex; obtain ⟨tb, pb, rb⟩ := hb.ex
  exact ⟨⟨_, pe_bm PySem.F.plainAttrs_list PySem.F.slot_list_index PySem.F.type_list_index mt_index pa (pa_cons pb pa_nil hs) hbase hfew hline hs hplain, re_mtL ra rb ok_lIndex⟩⟩
theorem q_pop (hN : X.N[i]? = some x := by rfl) (hv : Vis X.env.scope x := by first | exact Or.inl rfl | exact Or.inr (Or.inl rfl) | exact Or.inr (Or.inr rfl)) (hbase : attributeBase (.Name x p1) "pop" X.env (eval (.Name x p1) X.env) = eval (.Name x p1) X.env := by rfl) (hline : (apos.endLine == cpos.line) = true := by rfl) (hd : (x == ("__debug__" : Str)) = false := by decide) (hcd : (x == ("__classdict__" : Str)) = false := by decide) :
    QE X C E .s (.Call (.Attribute (.Name x p1) "pop" apos) [] [] cpos) (mPop i) :=
  ⟨⟨_, pe_bm0 PySem.F.plainAttrs_list PySem.F.slot_list_pop PySem.F.type_list_pop mt_pop (pe_var hN hv hd hcd) hbase hline, re_pop⟩⟩
end
/-! ### what is walked, comprehensions -/
section
variable {tg it : Expr} {mi : MS → Out (List PyData)} {p : Pos}
theorem q_any (ha : QE X C E .s a ma) : QI X C E tg a (mIt ma) := by
  obtain ⟨ta, pa, ra⟩ := ha.ex
  exact ⟨⟨_, pi_any pa, ri_any ra⟩⟩
theorem q_rng1 (hm : X.mg "range" = none) (hg : Gl X "range") (ha : QE X C E .s a ma) (hs : starEach [a] X.env = [(false, eval a X.env)] := by rfl) : QI X C E tg (.Call (.Name "range" p) [a] [] pos) (mRng1 ma) := by
  obtain ⟨ta, pa, ra⟩ := ha.ex
  exact ⟨⟨_, pi_range1 hg hm (pa_cons pa pa_nil hs) hs, ri_rng1 ra⟩⟩
theorem q_rng2 (hm : X.mg "range" = none) (hg : Gl X "range") (ha : QE X C E .s a ma) (hb : QE X C E .s b mb) (hs : starEach [a, b] X.env = [(false, eval a X.env), (false, eval b X.env)] := by rfl) (hs2 : starEach [b] X.env = [(false, eval b X.env)] := by rfl) : QI X C E tg (.Call (.Name "range" p) [a, b] [] pos) (mRng2 ma mb) := by
  obtain ⟨ta, pa, ra⟩ := ha.ex; obtain ⟨tb, pb, rb⟩ := hb.ex
  exact ⟨⟨_, pi_range2 hg hm (pa_cons pa (pa_cons pb pa_nil hs2) (by rw [hs2]; exact hs)) hs hs2, ri_rng2 ra rb⟩⟩
theorem q_zip {tpos : Pos} {elts : List Expr} {kk : Nat} (hm : X.mg "zip" = none) (hg : Gl X "zip") (ha : QE X C E .s a ma) (hb : QE X C E .s b mb) (hs : starEach [a, b] X.env = (false, eval a X.env) :: starEach [b] X.env := by rfl) (hs2 : starEach [b] X.env = (false, eval b X.env) :: starEach [] X.env := by rfl) (hpl : (backTo pos (starEach [b] X.env)).any (·.1) = false := by rfl) :
    QI X C E (.Tuple elts kk tpos) (.Call (.Name "zip" p) [a, b] [] pos) (mZip ma mb) := by
  obtain ⟨ta, pa, ra⟩ := ha.ex; obtain ⟨tb, pb, rb⟩ := hb.ex
  exact ⟨⟨_, pi_zipM hg hm (pa_cons pa (pa_cons pb pa_nil hs2) hs) hs hpl, ri_zip ra rb⟩⟩
theorem q_enum {tpos : Pos} {elts : List Expr} {kk : Nat} (hm : X.mg "enumerate" = none) (hg : Gl X "enumerate") (ha : QE X C E .s a ma) (hs : starEach [a] X.env = [(false, eval a X.env)] := by rfl) :
    QI X C E (.Tuple elts kk tpos) (.Call (.Name "enumerate" p) [a] [] pos) (mEnum ma) := by
  obtain ⟨ta, pa, ra⟩ := ha.ex
  exact ⟨⟨_, pi_enumM hg hm (pa_cons pa pa_nil hs) hs, ri_enum ra⟩⟩
end
/-! ### targets -/
theorem q_gn (hN : X.N.Nodup) (hi : X.N[i]? = some x) (hx : Loc X.env.scope x) (hl : i < C.n := by exact Nat.le_of_ble_eq_true rfl) (hp : C.ps.contains i = false := by rfl) (hf : X.fn x = true ∨ X.env.scope.names.lookup x = some .local := by first | exact .inl rfl | exact .inr rfl | assumption) : QG X C [i] (.Name x pos) (gN i) := ⟨⟨_, pg_name hN hi hx hf, rg_n hl hp⟩⟩
theorem q_gs0 : QGs X C [] [] [] := ⟨⟨_, pgs_nil, rgs_nil⟩⟩
theorem q_gs1 {js js' : List Nat} {mg : PyData → MS → Option MS} {ms : List (PyData → MS → Option MS)} (ha : QG X C js e mg) (hr : QGs X C js' es ms) (hs : (assignEach (e :: es) X.env).map (·.2) = assign e X.env :: (assignEach es X.env).map (·.2) := by rfl) : QGs X C (js ++ js') (e :: es) (mg :: ms) := by
  obtain ⟨g, p, r⟩ := ha.ex; obtain ⟨g2, p2, r2⟩ := hr.ex
  exact ⟨⟨_, pgs_cons p p2 hs, rgs_cons r r2⟩⟩
theorem q_gt {js : List Nat} {ms : List (PyData → MS → Option MS)} {k : Nat} (hc : X.calm = true) (h : QGs X C js es ms) (hn : (assignEach es X.env).length = ms.length := by rfl) (hst : (assignEach es X.env).findIdx? (·.1) = none := by rfl) : QG X C js (.Tuple es k pos) (gT ms) := by
  obtain ⟨g, p, r⟩ := h.ex
  exact ⟨⟨_, pg_tup hc p hn hst, rg_t r rfl⟩⟩
end
end MV

set_option Elab.async false
set_option linter.all false
set_option maxRecDepth 100000
set_option maxHeartbeats 2000000
/-! VR: comprehensions, statements and calls, each with its mirror. -/
namespace MV
open PySem PySem.Spec PyProof.Rows L2 FR
def canE (K : PySem.W.Frag) (C : Ct) (E : WX) (md : Md) (m : MS → Out PyData) : TE := fun σ H Q => ∃ y G W S st, Rel K C y G W S H σ st ∧ Post K C E y G W σ md (m st) Q
def canT (K : PySem.W.Frag) (C : Ct) (E : WX) (m : MS → Out Bool) : TT := fun σ H Q => ∃ y G W S st, Rel K C y G W S H σ st ∧ PostT K C E y G W σ (m st) Q
def canG (K : PySem.W.Frag) (C : Ct) (js : List Nat) (mg : PyData → MS → Option MS) : TG := fun v σ H Q => ∃ y G W S st d, Rel K C y G W S H σ st ∧ Dv K S H d v ∧ ∃ st', mg d st = some st' ∧ ∀ σ', Rel K C y G W S H σ' st' → (∀ vs : List Nat, js.all vs.contains = true → wipe σ' vs = wipe σ vs) → Q σ' H
structure QTs (X : Cx) (C : Ct) (E : WX) (ifs : List Expr) (m : MS → Out Bool) : Prop where
  ex : ∃ t, PTs X ifs t ∧ RT X.K C E t m
section
variable {X : Cx} {C : Ct} {E : WX} {md : Md} {a b c o e : Expr} {es : List Expr} {ma mb mc m : MS → Out PyData} {mt mta mtb : MS → Out Bool} {pos p1 p2 p3 : Pos} {i j l : Nat} {x : Str}
theorem QE.can (h : QE X C E md e m) : PE X e (canE X.K C E md m) := by
  obtain ⟨t, p, r⟩ := h.ex
  exact ⟨fun pins s σ H Q I ⟨y, G, W, S, st, R, q⟩ => p.run pins s σ H Q I (r y G W S H σ st Q R q)⟩
theorem QTs.can {ifs : List Expr} (h : QTs X C E ifs mt) : PTs X ifs (canT X.K C E mt) := by
  obtain ⟨t, p, r⟩ := h.ex
  exact ⟨fun pins s σ H Q I ⟨y, G, W, S, st, R, q⟩ => p.run pins s σ H Q I (r y G W S H σ st Q R q)⟩
theorem QG.can {js : List Nat} {mg : PyData → MS → Option MS} (h : QG X C js e mg) : PG X e (canG X.K C js mg) := by
  obtain ⟨t, p, r⟩ := h.ex
  exact ⟨fun pins s σ H v u Q I rv ⟨y, G, W, S, st, d, R, dv, q⟩ => p.run pins s σ H v u Q I rv (r y G W S H σ st d v Q R dv q)⟩
theorem re_can {K : PySem.W.Frag} : RE K C E md (canE K C E md m) m := fun y G W S H σ st Q R h => ⟨y, G, W, S, st, R, h⟩
theorem rt_can {K : PySem.W.Frag} : RT K C E (canT K C E mt) mt := fun y G W S H σ st Q R h => ⟨y, G, W, S, st, R, h⟩
theorem rg_can {K : PySem.W.Frag} {js : List Nat} {mg : PyData → MS → Option MS} : RG K C js (canG K C js mg) mg := fun y G W S H σ st d v Q R dv h => ⟨y, G, W, S, st, d, R, dv, h⟩
theorem q_ts0 : QTs X C E [] (fun st => .ok true st) := ⟨⟨_, pts_nil, rt_yes⟩⟩
theorem q_ts1 (h : QT X C E c mt) : QTs X C E [c] mt := by
  obtain ⟨t, p, r⟩ := h.ex
  exact ⟨⟨_, pts_one p, r⟩⟩
section
variable {elt tg iter : Expr} {ifs : List Expr} {scope : Scope} {own : List (Str × Nat)} {mi : MS → Out (List PyData)} {mg : PyData → MS → Option MS} {js : List Nat}
theorem q_lc (hc : X.calm = true) (hN : X.N.Nodup) (hi : QI X C E tg iter mi) (ok : BlkOk X.N X.env.scope scope own)
    (hg : ∀ (s : Shared) (H : Hp) (C' : Addr) (cl : List (Str × Addr)) (fp : List Addr), QG (X.blk s H scope (compEnvC scope cl C' X.env) fp) C js tg mg)
    (ht : ∀ (s : Shared) (H : Hp) (C' : Addr) (cl : List (Str × Addr)) (fp : List Addr), QTs (X.blk s H scope (compEnvC scope cl C' X.env) fp) C E ifs mt)
    (he : ∀ (s : Shared) (H : Hp) (C' : Addr) (cl : List (Str × Addr)) (fp : List Addr), QE (X.blk s H scope (compEnvC scope cl C' X.env) fp) C E .s elt m)
    (hs : ∀ x, foldedSetIterable iter X.env x = pure x := by intro _; rfl) (hj : js.all (own.map (·.2)).contains = true := by rfl) (hu : unps C (own.map (·.2)) = true := by rfl) :
    QE X C E .f (.ListComp elt [⟨tg, iter, ifs, 0⟩] scope pos) (mLc mi mg mt m (own.map (·.2))) := by
  obtain ⟨t, p, r⟩ := hi.ex
  exact ⟨⟨_, pe_lc hc hN p ok (fun s H C' cl fp => (hg s H C' cl fp).can) (fun s H C' cl fp => (ht s H C' cl fp).can) (fun s H C' cl fp => (he s H C' cl fp).can) hs, re_lc r rg_can rt_can re_can hj hu⟩⟩
/-- name = [..] -/
theorem q_setLc {y : Str} {py spos : Pos} (hc : X.calm = true) (hN : X.N.Nodup) (hy : X.N[i]? = some y) (hyl : X.env.scope.names.lookup y = some .local)
    (hsw : swapsWith (.ListComp elt [⟨tg, iter, ifs, 0⟩] scope pos) (some (.Name y py)) spos.line X.env = pure true) (hi : QI X C E tg iter mi) (ok : BlkOk X.N X.env.scope scope own)
    (hg : ∀ (s : Shared) (H : Hp) (C' : Addr) (cl : List (Str × Addr)) (fp : List Addr), QG (X.blk s H scope (compEnvC scope cl C' X.env) fp) C js tg mg)
    (ht : ∀ (s : Shared) (H : Hp) (C' : Addr) (cl : List (Str × Addr)) (fp : List Addr), QTs (X.blk s H scope (compEnvC scope cl C' X.env) fp) C E ifs mt)
    (he : ∀ (s : Shared) (H : Hp) (C' : Addr) (cl : List (Str × Addr)) (fp : List Addr), QE (X.blk s H scope (compEnvC scope cl C' X.env) fp) C E .s elt m)
    (hs : ∀ x, foldedSetIterable iter X.env x = pure x := by intro _; rfl) (hj : js.all (own.map (·.2)).contains = true := by rfl) (hu : unps C (own.map (·.2)) = true := by rfl) (hl : i < C.n := by exact Nat.le_of_ble_eq_true rfl) (hp : C.ps.contains i = false := by rfl) :
    QS X C E (.Assign [.Name y py] (.ListComp elt [⟨tg, iter, ifs, 0⟩] scope pos) spos) (mOwn i (mLc mi mg mt m (own.map (·.2)))) := by
  obtain ⟨t, p, r⟩ := hi.ex
  exact ⟨⟨_, ps_setLc hc hN hy hyl hsw p ok (fun s H C' cl fp => (hg s H C' cl fp).can) (fun s H C' cl fp => (ht s H C' cl fp).can) (fun s H C' cl fp => (he s H C' cl fp).can) hs, rs_own (re_lc r rg_can rt_can re_can hj hu) hl hp⟩⟩
theorem q_setLcS {y : Str} {py spos : Pos} (hc : X.calm = true) (hN : X.N.Nodup) (hy : X.N[i]? = some y) (hyl : X.env.scope.names.lookup y = some .local)
    (hsw : swapsWith (.ListComp elt [⟨tg, iter, ifs, 0⟩] scope pos) (some (.Name y py)) spos.line X.env = pure true) (hi : QI X C E tg iter mi) (ok : BlkOk X.N X.env.scope scope own)
    (hg : ∀ (s : Shared) (H : Hp) (C' : Addr) (cl : List (Str × Addr)) (fp : List Addr), QG (X.blk s H scope (compEnvC scope cl C' X.env) fp) C js tg mg)
    (ht : ∀ (s : Shared) (H : Hp) (C' : Addr) (cl : List (Str × Addr)) (fp : List Addr), QTs (X.blk s H scope (compEnvC scope cl C' X.env) fp) C E ifs mt)
    (he : ∀ (s : Shared) (H : Hp) (C' : Addr) (cl : List (Str × Addr)) (fp : List Addr), QE (X.blk s H scope (compEnvC scope cl C' X.env) fp) C E .s elt m)
    (hs : ∀ x, foldedSetIterable iter X.env x = pure x := by intro _; rfl) (hj : js.all (own.map (·.2)).contains = true := by rfl) (hu : unps C (own.map (·.2)) = true := by rfl) (hl : i < C.n := by exact Nat.le_of_ble_eq_true rfl) (hp : C.ps.contains i = false := by rfl) :
    QS X C E (.Assign [.Name y py] (.ListComp elt [⟨tg, iter, ifs, 0⟩] scope pos) spos) (mSet i (mLc mi mg mt m (own.map (·.2)))) := by
  obtain ⟨t, p, r⟩ := hi.ex
  exact ⟨⟨_, ps_setLc hc hN hy hyl hsw p ok (fun s H C' cl fp => (hg s H C' cl fp).can) (fun s H C' cl fp => (ht s H C' cl fp).can) (fun s H C' cl fp => (he s H C' cl fp).can) hs, rs_set (re_lc r rg_can rt_can re_can hj hu).fs hl hp⟩⟩
end
/-! ### calls of defs -/
section
variable {CX : CXT} {k : Nat} {ps : List Str} {M : Pm} {ks : List AK} {rk : Bool} {f : List PyData → FOut} {sp : List (Option Nat)} {mr : MS → Out (List PyData)} {p : Pos} {Ex : XK}
theorem q_call (h : Has X.prog X.w X.K X.mg X.base CX x k ps (spOf M ks rk f)) (hr : Room k X.A) (hg : Gl X x) (hx : Passes CX X Ex) (ha : QA X C E sp (e :: es) mr) (hok : okSp sp ks = true := by rfl) (hK : X.K = M.K := by rfl) (hc : C.cls = M.cls := by rfl) (hT : C.T = M.tabs := by rfl)
    (hE : ∀ cl dx σ H, E cl dx σ H → Ex cl dx H := by exact fun _ _ _ _ h => h) (hdb : (x == ("__debug__" : Str)) = false := by decide) (he : starEach (e :: es) X.env = (false, eval e X.env) :: starEach es X.env := by rfl) (hpl : (backTo pos (starEach es X.env)).any (·.1) = false := by rfl) :
    QE X C E (rkMd rk) (.Call (.Name x p) (e :: es) [] pos) (mCall f sp ks mr) := by
  obtain ⟨t, pa, ra⟩ := ha.ex
  exact ⟨⟨_, pc h hr hg hx pa hdb he hpl, re_call ra hok hK hc hT hE⟩⟩
theorem q_call0 (h : Has X.prog X.w X.K X.mg X.base CX x k ps (spOf M ks rk f)) (hr : Room k X.A) (hg : Gl X x) (hx : Passes CX X Ex) (hok : okSp [] ks = true := by rfl) (hK : X.K = M.K := by rfl) (hc : C.cls = M.cls := by rfl) (hT : C.T = M.tabs := by rfl)
    (hE : ∀ cl dx σ H, E cl dx σ H → Ex cl dx H := by exact fun _ _ _ _ h => h) (hdb : (x == ("__debug__" : Str)) = false := by decide) :
    QE X C E (rkMd rk) (.Call (.Name x p) [] [] pos) (mCall f [] ks mNil) := ⟨⟨_, pc0 h hr hg hx hdb, re_call ra_nil hok hK hc hT hE⟩⟩
theorem q_callG (h : HasG X.prog X.w X.K X.mg X.base CX x k ps (spOf M ks rk f)) (hgd : X.A.guards = some []) (hr : Room k X.A) (hg : Gl X x) (hx : Passes CX X Ex) (ha : QA X C E sp (e :: es) mr) (hok : okSp sp ks = true := by rfl) (hK : X.K = M.K := by rfl) (hc : C.cls = M.cls := by rfl) (hT : C.T = M.tabs := by rfl)
    (hE : ∀ cl dx σ H, E cl dx σ H → Ex cl dx H := by exact fun _ _ _ _ h => h) (hdb : (x == ("__debug__" : Str)) = false := by decide) (he : starEach (e :: es) X.env = (false, eval e X.env) :: starEach es X.env := by rfl) (hpl : (backTo pos (starEach es X.env)).any (·.1) = false := by rfl) :
    QE X C E (rkMd rk) (.Call (.Name x p) (e :: es) [] pos) (mCall f sp ks mr) := by
  obtain ⟨t, pa, ra⟩ := ha.ex
  exact ⟨⟨_, pcG h hgd hr hg hx pa hdb he hpl, re_call ra hok hK hc hT hE⟩⟩
theorem q_callS (h : Has X.prog X.w X.K X.mg X.base CX x k ps (spOf M ks false f)) (hr : Room k X.A) (hg : Gl X x) (hx : Passes CX X Ex) (ha : QA X C E sp (e :: es) mr) (hok : okSp sp ks = true := by rfl) (hK : X.K = M.K := by rfl) (hc : C.cls = M.cls := by rfl) (hT : C.T = M.tabs := by rfl)
    (hE : ∀ cl dx σ H, E cl dx σ H → Ex cl dx H := by exact fun _ _ _ _ h => h) (hdb : (x == ("__debug__" : Str)) = false := by decide) (he : starEach (e :: es) X.env = (false, eval e X.env) :: starEach es X.env := by rfl) (hpl : (backTo pos (starEach es X.env)).any (·.1) = false := by rfl) :
    QE X C E .s (.Call (.Name x p) (e :: es) [] pos) (mCall f sp ks mr) := by
  obtain ⟨t, pa, ra⟩ := ha.ex
  exact ⟨⟨_, pc h hr hg hx pa hdb he hpl, re_call (rk := false) ra hok hK hc hT hE⟩⟩
theorem q_call0S (h : Has X.prog X.w X.K X.mg X.base CX x k ps (spOf M ks false f)) (hr : Room k X.A) (hg : Gl X x) (hx : Passes CX X Ex) (hok : okSp [] ks = true := by rfl) (hK : X.K = M.K := by rfl) (hc : C.cls = M.cls := by rfl) (hT : C.T = M.tabs := by rfl)
    (hE : ∀ cl dx σ H, E cl dx σ H → Ex cl dx H := by exact fun _ _ _ _ h => h) (hdb : (x == ("__debug__" : Str)) = false := by decide) :
    QE X C E .s (.Call (.Name x p) [] [] pos) (mCall f [] ks mNil) := ⟨⟨_, pc0 h hr hg hx hdb, re_call (rk := false) ra_nil hok hK hc hT hE⟩⟩
theorem q_callGS (h : HasG X.prog X.w X.K X.mg X.base CX x k ps (spOf M ks false f)) (hgd : X.A.guards = some []) (hr : Room k X.A) (hg : Gl X x) (hx : Passes CX X Ex) (ha : QA X C E sp (e :: es) mr) (hok : okSp sp ks = true := by rfl) (hK : X.K = M.K := by rfl) (hc : C.cls = M.cls := by rfl) (hT : C.T = M.tabs := by rfl)
    (hE : ∀ cl dx σ H, E cl dx σ H → Ex cl dx H := by exact fun _ _ _ _ h => h) (hdb : (x == ("__debug__" : Str)) = false := by decide) (he : starEach (e :: es) X.env = (false, eval e X.env) :: starEach es X.env := by rfl) (hpl : (backTo pos (starEach es X.env)).any (·.1) = false := by rfl) :
    QE X C E .s (.Call (.Name x p) (e :: es) [] pos) (mCall f sp ks mr) := by
  obtain ⟨t, pa, ra⟩ := ha.ex
  exact ⟨⟨_, pcG h hgd hr hg hx pa hdb he hpl, re_call (rk := false) ra hok hK hc hT hE⟩⟩
theorem q_callF (h : Has X.prog X.w X.K X.mg X.base CX x k ps (spOf M ks true f)) (hr : Room k X.A) (hg : Gl X x) (hx : Passes CX X Ex) (ha : QA X C E sp (e :: es) mr) (hok : okSp sp ks = true := by rfl) (hK : X.K = M.K := by rfl) (hc : C.cls = M.cls := by rfl) (hT : C.T = M.tabs := by rfl)
    (hE : ∀ cl dx σ H, E cl dx σ H → Ex cl dx H := by exact fun _ _ _ _ h => h) (hdb : (x == ("__debug__" : Str)) = false := by decide) (he : starEach (e :: es) X.env = (false, eval e X.env) :: starEach es X.env := by rfl) (hpl : (backTo pos (starEach es X.env)).any (·.1) = false := by rfl) :
    QE X C E .f (.Call (.Name x p) (e :: es) [] pos) (mCall f sp ks mr) := by
  obtain ⟨t, pa, ra⟩ := ha.ex
  exact ⟨⟨_, pc h hr hg hx pa hdb he hpl, re_call (rk := true) ra hok hK hc hT hE⟩⟩
theorem q_call0F (h : Has X.prog X.w X.K X.mg X.base CX x k ps (spOf M ks true f)) (hr : Room k X.A) (hg : Gl X x) (hx : Passes CX X Ex) (hok : okSp [] ks = true := by rfl) (hK : X.K = M.K := by rfl) (hc : C.cls = M.cls := by rfl) (hT : C.T = M.tabs := by rfl)
    (hE : ∀ cl dx σ H, E cl dx σ H → Ex cl dx H := by exact fun _ _ _ _ h => h) (hdb : (x == ("__debug__" : Str)) = false := by decide) :
    QE X C E .f (.Call (.Name x p) [] [] pos) (mCall f [] ks mNil) := ⟨⟨_, pc0 h hr hg hx hdb, re_call (rk := true) ra_nil hok hK hc hT hE⟩⟩
theorem q_callGF (h : HasG X.prog X.w X.K X.mg X.base CX x k ps (spOf M ks true f)) (hgd : X.A.guards = some []) (hr : Room k X.A) (hg : Gl X x) (hx : Passes CX X Ex) (ha : QA X C E sp (e :: es) mr) (hok : okSp sp ks = true := by rfl) (hK : X.K = M.K := by rfl) (hc : C.cls = M.cls := by rfl) (hT : C.T = M.tabs := by rfl)
    (hE : ∀ cl dx σ H, E cl dx σ H → Ex cl dx H := by exact fun _ _ _ _ h => h) (hdb : (x == ("__debug__" : Str)) = false := by decide) (he : starEach (e :: es) X.env = (false, eval e X.env) :: starEach es X.env := by rfl) (hpl : (backTo pos (starEach es X.env)).any (·.1) = false := by rfl) :
    QE X C E .f (.Call (.Name x p) (e :: es) [] pos) (mCall f sp ks mr) := by
  obtain ⟨t, pa, ra⟩ := ha.ex
  exact ⟨⟨_, pcG h hgd hr hg hx pa hdb he hpl, re_call (rk := true) ra hok hK hc hT hE⟩⟩
end
/-! ### statements -/
section
variable {st : Stmt} {rest : List Stmt} {s1 s2 : MSt} {pos' : Pos} {sts sts2 : List Stmt}
theorem q_ss0 : QSs X C E [] mNext := ⟨⟨_, pss_nil, rs_next⟩⟩
theorem q_ss1 (h : QS X C E st s1) : QSs X C E [st] s1 := by
  obtain ⟨t, p, r⟩ := h.ex
  exact ⟨⟨_, pss_one p, r⟩⟩
theorem q_ss (h : QS X C E st s1) (h2 : QSs X C E rest s2) : QSs X C E (st :: rest) (mSeq s1 s2) := by
  obtain ⟨t, p, r⟩ := h.ex; obtain ⟨t2, p2, r2⟩ := h2.ex
  exact ⟨⟨_, pss_cons p p2, rs_seq r r2⟩⟩
theorem q_pass : QS X C E (.Pass pos) mNext := ⟨⟨_, ps_pass, rs_next⟩⟩
theorem q_break : QS X C E (.Break pos) mBrk := ⟨⟨_, ps_break, rs_brk⟩⟩
theorem q_continue : QS X C E (.Continue pos) mCt := ⟨⟨_, ps_continue, rs_ct⟩⟩
theorem q_expr (h : QE X C E .s e m) (hs : swapsWith e none pos.line X.env = pure false := by rfl) : QS X C E (.Expr e pos) (mDrop m) := by
  obtain ⟨t, p, r⟩ := h.ex
  exact ⟨⟨_, ps_expr p hs, rs_drop r⟩⟩
theorem q_ret (h : QE X C E .s e m) (hk : C.rk = false := by rfl) : QS X C E (.Return (some e) pos) (mRet m) := by
  obtain ⟨t, p, r⟩ := h.ex
  exact ⟨⟨_, ps_ret p, rs_ret r hk⟩⟩
theorem q_retF (h : QE X C E .f e m) (hk : C.rk = true := by rfl) : QS X C E (.Return (some e) pos) (mRet m) := by
  obtain ⟨t, p, r⟩ := h.ex
  exact ⟨⟨_, ps_ret p, rs_retF r hk⟩⟩
theorem q_retN (hk : C.rk = false := by rfl) : QS X C E (.Return none pos) mRetN := ⟨⟨_, ps_retN, rs_retN hk⟩⟩
theorem q_ifS (hc : QT X C E c mt) (ha : QSs X C E sts s1) (hb : QSs X C E sts2 s2) : QS X C E (.If c sts sts2 pos) (mIfS mt s1 s2) := by
  obtain ⟨t, p, r⟩ := hc.ex; obtain ⟨t1, pa, ra⟩ := ha.ex; obtain ⟨t2, pb, rb⟩ := hb.ex
  exact ⟨⟨_, ps_if p pa pb, rs_if r ra rb⟩⟩
theorem q_set (hN : X.N.Nodup) (hi : X.N[i]? = some x) (hx : Loc X.env.scope x) (h : QE X C E .s e m) (hs : swapsWith e (some (.Name x pos')) pos.line X.env = pure false := by rfl) (hf : X.fn x = true ∨ X.env.scope.names.lookup x = some .local := by first | exact .inl rfl | exact .inr rfl | assumption)
    (hl : i < C.n := by exact Nat.le_of_ble_eq_true rfl) (hp : C.ps.contains i = false := by rfl) : QS X C E (.Assign [.Name x pos'] e pos) (mSet i m) := by
  obtain ⟨t, p, r⟩ := h.ex
  exact ⟨⟨_, ps_set hN hi hx p hs hf, rs_set r hl hp⟩⟩
theorem q_own (hN : X.N.Nodup) (hi : X.N[i]? = some x) (hx : Loc X.env.scope x) (h : QE X C E .f e m) (hs : swapsWith e (some (.Name x pos')) pos.line X.env = pure false := by rfl) (hf : X.fn x = true ∨ X.env.scope.names.lookup x = some .local := by first | exact .inl rfl | exact .inr rfl | assumption)
    (hl : i < C.n := by exact Nat.le_of_ble_eq_true rfl) (hp : C.ps.contains i = false := by rfl) : QS X C E (.Assign [.Name x pos'] e pos) (mOwn i m) := by
  obtain ⟨t, p, r⟩ := h.ex
  exact ⟨⟨_, ps_set hN hi hx p hs hf, rs_own r hl hp⟩⟩
theorem q_tgt {tg : Expr} {js : List Nat} {mg : PyData → MS → Option MS} (h : QE X C E .s e m) (hg : QG X C js tg mg) (hs : swapsWithSole [tg] e pos.line X.env = pure false := by rfl) (hw : swappedStores [tg] e X.env = pure none := by rfl)
    (h1 : (assignEach [tg] X.env).map (·.2) = [assign tg X.env] := by rfl) : QS X C E (.Assign [tg] e pos) (mTgt mg m) := by
  obtain ⟨t, p, r⟩ := h.ex; obtain ⟨g, pg, rg⟩ := hg.ex
  exact ⟨⟨_, ps_asg p pg hs hw h1, rs_tgt r rg⟩⟩
theorem q_aug {op : Operator} {r : TIp} {f : PyData → PyData → Option PyData} (hN : X.N.Nodup) (hi : X.N[i]? = some x) (hx : Loc X.env.scope x) (h : QE X C E .b e m) (ho : PIp X op r) (ok : OpOk X.K C .s r f) (hf : X.fn x = true ∨ X.env.scope.names.lookup x = some .local := by first | exact .inl rfl | exact .inr rfl | assumption)
    (hl : i < C.n := by exact Nat.le_of_ble_eq_true rfl) (hp : C.ps.contains i = false := by rfl) : QS X C E (.AugAssign (.Name x pos') op e pos) (mAug f i m) := by
  obtain ⟨t, p, rr⟩ := h.ex
  exact ⟨⟨_, ps_aug hN hi hx p ho hf, rs_aug rr ok hl hp⟩⟩
theorem q_par {p q : Md} {x y : Str} {px py pt : Pos} {kt k2 pt2} (hc : X.calm = true) (hN : X.N.Nodup) (hi : X.N[i]? = some x) (hj : X.N[j]? = some y) (hij : i ≠ j)
    (hx : X.env.scope.names.lookup x = some .local) (hy : X.env.scope.names.lookup y = some .local) (ha : QE X C E p a ma) (hb : QE X C E q b mb)
    (hw : swappedStores [.Tuple [.Name x px, .Name y py] kt pt] (.Tuple [a, b] k2 pt2) X.env = pure (some [x, y]))
    (hs : swapsWithSole [.Tuple [.Name x px, .Name y py] kt pt] (.Tuple [a, b] k2 pt2) pos.line X.env = pure false := by rfl)
    (h0 : starEach [a, b] X.env = (false, eval a X.env) :: starEach [b] X.env := by rfl) (h1 : starEach [b] X.env = (false, eval b X.env) :: starEach [] X.env := by rfl)
    (hp : isSF p = true := by rfl) (hq : isSF q = true := by rfl) (hli : i < C.n := by exact Nat.le_of_ble_eq_true rfl) (hlj : j < C.n := by exact Nat.le_of_ble_eq_true rfl) (hpi : C.ps.contains i = false := by rfl) (hpj : C.ps.contains j = false := by rfl) :
    QS X C E (.Assign [.Tuple [.Name x px, .Name y py] kt pt] (.Tuple [a, b] k2 pt2) pos) (mPar i j p q ma mb) := by
  obtain ⟨ta, pa, ra⟩ := ha.ex; obtain ⟨tb, pb, rb⟩ := hb.ex
  exact ⟨⟨_, ps_par hc hN hi hj hij hx hy (pa_cons pa (pa_cons pb pa_nil h1) h0) hw hs, rs_par ra rb hp hq hli hlj hij hpi hpj⟩⟩
theorem q_par3 {p q r : Md} {x y z : Str} {px py pz pt : Pos} {kt k2 pt2} (hc : X.calm = true) (hN : X.N.Nodup) (hi : X.N[i]? = some x) (hj : X.N[j]? = some y) (hl : X.N[l]? = some z) (hij : i ≠ j) (hil : i ≠ l) (hjl : j ≠ l)
    (hx : X.env.scope.names.lookup x = some .local) (hy : X.env.scope.names.lookup y = some .local) (hz : X.env.scope.names.lookup z = some .local) (ha : QE X C E p a ma) (hb : QE X C E q b mb) (hcc : QE X C E r c mc)
    (hw : swappedStores [.Tuple [.Name x px, .Name y py, .Name z pz] kt pt] (.Tuple [a, b, c] k2 pt2) X.env = pure (some [x, y, z]))
    (hs : swapsWithSole [.Tuple [.Name x px, .Name y py, .Name z pz] kt pt] (.Tuple [a, b, c] k2 pt2) pos.line X.env = pure false := by rfl)
    (h0 : starEach [a, b, c] X.env = (false, eval a X.env) :: starEach [b, c] X.env := by rfl) (h1 : starEach [b, c] X.env = (false, eval b X.env) :: starEach [c] X.env := by rfl) (h2 : starEach [c] X.env = (false, eval c X.env) :: starEach [] X.env := by rfl)
    (hp : isSF p = true := by rfl) (hq : isSF q = true := by rfl) (hr : isSF r = true := by rfl) (hli : i < C.n := by exact Nat.le_of_ble_eq_true rfl) (hlj : j < C.n := by exact Nat.le_of_ble_eq_true rfl) (hll : l < C.n := by exact Nat.le_of_ble_eq_true rfl) (hpi : C.ps.contains i = false := by rfl) (hpj : C.ps.contains j = false := by rfl) (hpl : C.ps.contains l = false := by rfl) :
    QS X C E (.Assign [.Tuple [.Name x px, .Name y py, .Name z pz] kt pt] (.Tuple [a, b, c] k2 pt2) pos) (mPar3 i j l p q r ma mb mc) := by
  obtain ⟨ta, pa, ra⟩ := ha.ex; obtain ⟨tb, pb, rb⟩ := hb.ex; obtain ⟨tc, pc, rc⟩ := hcc.ex
  exact ⟨⟨_, ps_par3 hc hN hi hj hl hij hil hjl hx hy hz (pa_cons pa (pa_cons pb (pa_cons pc pa_nil h2) h1) h0) hw hs, rs_par3 ra rb rc hp hq hr hli hlj hll hij hil hjl hpi hpj hpl⟩⟩
theorem q_for {tg iter : Expr} {mi : MS → Out (List PyData)} {mg : PyData → MS → Option MS} {js : List Nat} (hp : PassesOwn (model X.prog X.w) X.A X.env X.xe) (hc : X.calm = true) (hi : QI X C E tg iter mi) (hg : QG X C js tg mg) (hb : QSs X C E sts s1)
    (hs : ∀ x, foldedSetIterable iter X.env x = pure x := by intro _; rfl) : QS X C E (.For tg iter sts [] pos) (mFor mi mg s1) := by
  obtain ⟨t, p, r⟩ := hi.ex; obtain ⟨g, pg, rg⟩ := hg.ex; obtain ⟨tb, pb, rb⟩ := hb.ex
  exact ⟨⟨_, ps_for hp hc p pg pb hs, rs_for r rg rb⟩⟩
theorem q_while (hp : PassesOwn (model X.prog X.w) X.A X.env X.xe) (hc : QT X C E c mt) (hb : QSs X C E sts s1) : QS X C E (.While c sts [] pos) (mWhile mt s1) := by
  obtain ⟨t, p, r⟩ := hc.ex; obtain ⟨tb, pb, rb⟩ := hb.ex
  exact ⟨⟨_, ps_while hp p pb, rs_while r rb⟩⟩
section
variable {apos cpos : Pos}
theorem q_app (hN : X.N[i]? = some x := by rfl) (hv : Vis X.env.scope x := by first | exact Or.inl rfl | exact Or.inr (Or.inl rfl) | exact Or.inr (Or.inr rfl)) (h : QE X C E .s e m) (hsw : swapsWith (.Call (.Attribute (.Name x p1) "append" apos) [e] [] cpos) none pos.line X.env = pure false := by rfl) (hbase : attributeBase (.Name x p1) "append" X.env (eval (.Name x p1) X.env) = eval (.Name x p1) X.env := by rfl)
    (hfew : ((backTo cpos (starEach [e] X.env)).all (fun x => !x.1) && (backToKw cpos (keywordEach [] X.env)).all (fun x => x.1.isSome)
      && decide (([e] : List Expr).length + ([] : List Keyword).length + (if ([] : List Keyword).isEmpty then 0 else 1) < 30)) = true := by rfl)
    (hline : (apos.endLine == cpos.line) = true := by rfl) (hs : starEach [e] X.env = (false, eval e X.env) :: starEach [] X.env := by rfl) (hplain : (backTo cpos (starEach [] X.env)).any (·.1) = false := by rfl)
    (hd : (x == ("__debug__" : Str)) = false := by decide) (hcd : (x == ("__classdict__" : Str)) = false := by decide) :
    QS X C E (.Expr (.Call (.Attribute (.Name x p1) "append" apos) [e] [] cpos) pos) (mApp i m) := by
  obtain ⟨t, p, r⟩ := h.ex
  exact ⟨⟨_, ps_expr (pe_bm PySem.F.plainAttrs_list PySem.F.slot_list_append PySem.F.type_list_append mt_append (pe_var hN hv hd hcd) (pa_cons p pa_nil hs) hbase hfew hline hs hplain) hsw, rs_app r⟩⟩
theorem q_ext (hN : X.N[i]? = some x := by rfl) (hv : Vis X.env.scope x := by first | exact Or.inl rfl | exact Or.inr (Or.inl rfl) | exact Or.inr (Or.inr rfl)) (h : QE X C E .s e m) (hsw : swapsWith (.Call (.Attribute (.Name x p1) "extend" apos) [e] [] cpos) none pos.line X.env = pure false := by rfl) (hbase : attributeBase (.Name x p1) "extend" X.env (eval (.Name x p1) X.env) = eval (.Name x p1) X.env := by rfl)
    (hfew : ((backTo cpos (starEach [e] X.env)).all (fun x => !x.1) && (backToKw cpos (keywordEach [] X.env)).all (fun x => x.1.isSome)
      && decide (([e] : List Expr).length + ([] : List Keyword).length + (if ([] : List Keyword).isEmpty then 0 else 1) < 30)) = true := by rfl)
    (hline : (apos.endLine == cpos.line) = true := by rfl) (hs : starEach [e] X.env = (false, eval e X.env) :: starEach [] X.env := by rfl) (hplain : (backTo cpos (starEach [] X.env)).any (·.1) = false := by rfl)
    (hd : (x == ("__debug__" : Str)) = false := by decide) (hcd : (x == ("__classdict__" : Str)) = false := by decide) :
    QS X C E (.Expr (.Call (.Attribute (.Name x p1) "extend" apos) [e] [] cpos) pos) (mExt i m) := by
  obtain ⟨t, p, r⟩ := h.ex
  exact ⟨⟨_, ps_expr (pe_bm PySem.F.plainAttrs_list PySem.F.slot_list_extend PySem.F.type_list_extend mt_extend (pe_var hN hv hd hcd) (pa_cons p pa_nil hs) hbase hfew hline hs hplain) hsw, rs_ext r⟩⟩
theorem q_setIx {b : Expr} {mk : MS → Out PyData} (hN : X.N[i]? = some x := by rfl) (hv : Vis X.env.scope x := by first | exact Or.inl rfl | exact Or.inr (Or.inl rfl) | exact Or.inr (Or.inr rfl)) (hb : QE X C E .s b mk) (h : QE X C E .s e m)
    (ha : ∀ v, assign (.Subscript (.Name x p1) b p2) X.env v = (do
      let ov ← holding [v] (eval (.Name x p1) X.env)
      let iv ← holding [v, ov] (eval b X.env)
      standAt p2
      holding [v, ov, iv] (setItem ov iv v)
      release [v, ov, iv] []) := by intro _; rfl)
    (hs : swapsWithSole [.Subscript (.Name x p1) b p2] e pos.line X.env = pure false := by rfl) (hw : swappedStores [.Subscript (.Name x p1) b p2] e X.env = pure none := by rfl)
    (h1 : (assignEach [.Subscript (.Name x p1) b p2] X.env).map (·.2) = [assign (.Subscript (.Name x p1) b p2) X.env] := by rfl) (hd : (x == ("__debug__" : Str)) = false := by decide) (hcd : (x == ("__classdict__" : Str)) = false := by decide) :
    QS X C E (.Assign [.Subscript (.Name x p1) b p2] e pos) (mSetIx i mk m) := by
  obtain ⟨t, p, r⟩ := h.ex; obtain ⟨tb, pb, rb⟩ := hb.ex
  exact ⟨⟨_, ps_asg p (pg_sub (pe_var hN hv hd hcd) pb set_list ha) hs hw h1, rs_setIx r rb⟩⟩
end
end
end
end MV

set_option Elab.async false
set_option linter.all false
set_option maxRecDepth 100000
set_option maxHeartbeats 2000000
/-! VK: dicts. -/
namespace MV
open PySem PySem.Spec PyProof.Rows L2 FR
/-! ### a dict of the module: texts to flat values -/
def EntR (e : DictEntry) (q : Str × PyData) : Prop := (∃ t, e.key = .str q.1 t) ∧ atomD q.2 = true ∧ RelV (atV q.2) e.val
structure KD (K : PySem.W.Frag) (w : World) (mg : Str → Option Value) (x : Str) (a : Addr) (tab : List (Str × PyData)) : Prop where
  g : mg x = some (.ref a)
  ex : ∃ es n, KDict K w a es n ∧ Paired EntR es.toList tab
def tabF (tab : List (Str × PyData)) (z : Str) : Option PyData := (tab.find? fun q => q.1 == z).map (·.2)
def inKD (tab : List (Str × PyData)) : PyData → Option PyData
  | .str z => some (.bool (tabF tab z).isSome)
  | _ => none
def ninKD (tab : List (Str × PyData)) : PyData → Option PyData
  | .str z => some (.bool (!(tabF tab z).isSome))
  | _ => none
def ixKD (tab : List (Str × PyData)) : PyData → Option PyData
  | .str z => tabF tab z
  | _ => none
theorem kd_find {tab : List (Str × PyData)} {z : Str} : ∀ {es : List DictEntry}, Paired EntR es tab → (∃ e d, es.find? (·.key.isStr z) = some e ∧ tabF tab z = some d ∧ atomD d = true ∧ RelV (atV d) e.val) ∨ (es.find? (·.key.isStr z) = none ∧ tabF tab z = none) := by
  intro es h
  induction h with
  | nil => exact .inr ⟨rfl, rfl⟩
  | @cons e q es tab h t ih =>
    obtain ⟨⟨tk, hk⟩, h2, h3⟩ := h
    have ek : e.key.isStr z = (q.1 == z) := by rw [hk]; rfl
    unfold tabF
    rw [List.find?_cons, List.find?_cons, ek]
    cases c : (q.1 == z) with
    | true => exact .inl ⟨e, q.2, rfl, rfl, h2, h3⟩
    | false => exact ih
theorem kd_ref {tab : List (Str × PyData)} : ∀ {es : List DictEntry}, Paired EntR es tab → es.any (·.refKey) = false := by
  intro es h
  induction h with
  | nil => rfl
  | @cons e q es tab h t ih =>
    obtain ⟨⟨tk, hk⟩, _⟩ := h
    rw [List.any_cons, ih]
    unfold DictEntry.refKey
    rw [hk]; rfl
section
variable {K : PySem.W.Frag} {w : World} {mg : Str → Option Value} {C : Ct} {E : WX} {y : Dy} {G : List (PyData × V)} {W : List (PyData × Addr)} {S : List Addr} {H : Hp} {σ : L2.St} {st : MS} {x : Str} {a : Addr} {tab : List (Str × PyData)} {z : Str} {d : PyData} {Q : VK}
theorem KD.ns (D : KD K w mg x a tab) (z : Str) : (∃ u d, PySem.W.nsIn K a z = some (some u) ∧ tabF tab z = some d ∧ atomD d = true ∧ RelV (atV d) u) ∨ (PySem.W.nsIn K a z = some none ∧ tabF tab z = none) := by
  obtain ⟨es, n, kd, p⟩ := D.ex
  unfold PySem.W.nsIn
  rw [kd.at_]
  rcases kd_find (z := z) p with ⟨e, d, h1, h2, h3, h4⟩ | ⟨h1, h2⟩
  · refine .inl ⟨e.val, d, ?_, h2, h3, h4⟩
    dsimp only
    rw [h1]
  · refine .inr ⟨?_, h2⟩
    dsimp only
    rw [h1, kd_ref p]
    rfl
end
section
variable {X : Cx} {C : Ct} {E : WX} {md : Md} {b e o : Expr} {m mo me mf : MS → Out PyData} {pos p1 p2 : Pos} {x : Str} {a : Addr} {tab : List (Str × PyData)}
theorem at_dv {d : PyData} (h : atomD d = true) : ∀ K S H, Dv K S H d (atV d) := by
  cases d <;> first | (intro K S H; exact rfl) | cases h
theorem q_inKD (D : KD X.K X.w X.mg x a tab) (hg : Gl X x) (hb : QE X C E .s b m) (hm : behindInMarks .In (.Name x p1) = false := by rfl) (hd : (x == ("__debug__" : Str)) = false := by decide) : QT X C E (.Compare b [.In] [.Name x p1] pos) (mTest (mU (inKD tab) m)) := by
  obtain ⟨tb, pb, rb⟩ := hb.ex
  obtain ⟨es, n, kd, _⟩ := D.ex
  refine ⟨⟨_, pt_cmpR (op_in_kd kd) pb (pe_glob (v := .ref a) hg D.g rfl hd) hm, rt_test ?_⟩⟩
  intro y G W S H σ st Q R h
  show tb σ H _
  refine rb.uS (P := fun o => Post X.K C E y G W σ .s o Q) ipP .rfl R h fun d s S1 v H1 R1 h1 => ?_
  cases d <;> try exact h1.elim
  rename_i z
  rcases D.ns z with ⟨u, d, e1, e2, _⟩ | ⟨e1, e2⟩
  · exact ⟨z, _, R1.hd, rfl, e1, by
      have h1 : Post X.K C E y G W σ .s (.ok (.bool (tabF tab z).isSome) s) Q := h1
      rw [e2] at h1
      exact post_at R1.tl h1 rfl⟩
  · exact ⟨z, _, R1.hd, rfl, e1, by
      have h1 : Post X.K C E y G W σ .s (.ok (.bool (tabF tab z).isSome) s) Q := h1
      rw [e2] at h1
      exact post_at R1.tl h1 rfl⟩
theorem q_ninKD (D : KD X.K X.w X.mg x a tab) (hg : Gl X x) (hb : QE X C E .s b m) (hm : behindInMarks .NotIn (.Name x p1) = false := by rfl) (hd : (x == ("__debug__" : Str)) = false := by decide) : QT X C E (.Compare b [.NotIn] [.Name x p1] pos) (mTest (mU (ninKD tab) m)) := by
  obtain ⟨tb, pb, rb⟩ := hb.ex
  obtain ⟨es, n, kd, _⟩ := D.ex
  refine ⟨⟨_, pt_cmpR (op_notIn_kd kd) pb (pe_glob (v := .ref a) hg D.g rfl hd) hm, rt_test ?_⟩⟩
  intro y G W S H σ st Q R h
  show tb σ H _
  refine rb.uS (P := fun o => Post X.K C E y G W σ .s o Q) ipP .rfl R h fun d s S1 v H1 R1 h1 => ?_
  cases d <;> try exact h1.elim
  rename_i z
  rcases D.ns z with ⟨u, d, e1, e2, _⟩ | ⟨e1, e2⟩
  · exact ⟨z, _, R1.hd, rfl, e1, by
      have h1 : Post X.K C E y G W σ .s (.ok (.bool (!(tabF tab z).isSome)) s) Q := h1
      rw [e2] at h1
      exact post_at R1.tl h1 rfl⟩
  · exact ⟨z, _, R1.hd, rfl, e1, by
      have h1 : Post X.K C E y G W σ .s (.ok (.bool (!(tabF tab z).isSome)) s) Q := h1
      rw [e2] at h1
      exact post_at R1.tl h1 rfl⟩
/-- d[key] of a written dict -/
theorem ix_kd {es : Array DictEntry} {n : Nat} (D : KDict X.K X.w a es n) : IxR X (fun x y H Q => ∃ (z : Str) (u0 : Value) (d : PyData), x = .ref a ∧ y = .str z ∧ PySem.W.nsIn X.K a z = some (some u0) ∧ atomD d = true ∧ RelV (atV d) u0 ∧ Q (atV d) H) := by
  intro value slice pins s σ H x y v u Q I rx ry q hs
  obtain ⟨z, u0, d, e1, e2, e3, ad, r, q⟩ := q
  subst e1 e2
  cases rx
  obtain ⟨t, rfl⟩ := ry
  refine subscriptTail_builtin_flat (kd_type D I) PySem.F.slot_dict_getitem.lookup ?_ hs
  refine wpAny_getItem_of (PySem.strKind_is X.prog X.w z t) (PySem.W.mapOf_K (prog := X.prog) I.kIn D.at_ D.lit) (PySem.W.find_K D.at_ e3) ⟨fun b eb => ?_, atV d, H, I.tok _, r, q⟩
  subst eb
  cases d <;> first | (cases ad; done) | (obtain ⟨_, r⟩ := r; cases r; done) | cases r
theorem q_ixKD (D : KD X.K X.w X.mg x a tab) (hg : Gl X x) (hb : QE X C E .s b m) (hs : PlainIx b) (hd : (x == ("__debug__" : Str)) = false := by decide) : QE X C E .s (.Subscript (.Name x p1) b pos) (mU (ixKD tab) m) := by
  obtain ⟨tb, pb, rb⟩ := hb.ex
  obtain ⟨es, n, kd, _⟩ := D.ex
  refine ⟨⟨_, pe_ix (ix_kd kd) (pe_glob (v := .ref a) hg D.g rfl hd) pb hs, ?_⟩⟩
  intro y G W S H σ st Q R h
  show tb σ H _
  refine rb.uS (P := fun o => Post X.K C E y G W σ .s o Q) ipP .rfl R h fun d s S1 v H1 R1 h1 => ?_
  cases d <;> try exact h1.elim
  rename_i z
  have h1 : Post X.K C E y G W σ .s (ofO (tabF tab z) s) Q := h1
  rcases D.ns z with ⟨u, d, e1, e2, e3, e4⟩ | ⟨e1, e2⟩
  · rw [e2] at h1
    exact ⟨z, u, d, rfl, R1.hd, e1, e3, e4, post_at R1.tl h1 (at_dv e3 _ _ _)⟩
  · rw [e2] at h1
    exact h1.elim
end
/-! ### dicts as data: a look -/
def lkD (ks : List (PyData × PyData)) (d : PyData) : Option PyData := (ks.find? fun q => PyData.eqv q.1 d).map (·.2)
def keyB : PyData → Option Key
  | .int i => some (.inl i)
  | .str z => some (.inr z)
  | _ => none
theorem keyB_ex {d : PyData} {k : Key} (h : keyB d = some k) : d = keyD k := by
  cases d <;> cases h <;> rfl
theorem key_eqv (a b : Key) : PyData.eqv (keyD a) (keyD b) = decide (a = b) := by
  cases a <;> cases b <;> simp [keyD, PyData.eqv, str_beq]
  rename_i a b
  by_cases h : a = b
  · subst h; simp
  · rw [decide_eq_false h]; exact beq_false_of_ne h
section
variable {K : PySem.W.Frag} {S : List Addr} {H : Hp}
theorem lk_dK {k : Key} : ∀ {ds : List (PyData × PyData)} {ks : List (Key × V)}, Dks K S H ds (ks.map fun p => (keyD p.1, p.2)) → (∃ e v, lkD ds (keyD k) = some e ∧ valV ks k = some v ∧ Dv K S H e v) ∨ (lkD ds (keyD k) = none ∧ valV ks k = none)
  | [], ks, h => by
    cases ks with
    | nil => exact .inr ⟨rfl, rfl⟩
    | cons => cases h
  | (x, d) :: r, [], ⟨v, ws, e, _⟩ => by cases e
  | (x, d) :: r, p :: ks, ⟨v, ws, e, h1, h2⟩ => by
    injection e with e1 e2
    injection e1 with e1 e3
    subst e1 e2 e3
    unfold lkD
    rw [List.find?_cons, show PyData.eqv (keyD p.1) (keyD k) = decide (p.1 = k) from key_eqv _ _]
    by_cases c : p.1 = k
    · rw [decide_eq_true c]
      exact .inl ⟨d, p.2, rfl, valV_pos c, h1⟩
    · rw [decide_eq_false c, valV_neg c]
      exact lk_dK h2
end
def isDic : PyData → Bool
  | .dict _ => true
  | _ => false
/-- d.get(k, z) of a dict with flat keys -/
def getD2 (d k z : PyData) : Option PyData := match d, keyB k with
  | .dict ks, some _ => some ((lkD ks k).getD z)
  | _, _ => none
def mGet2 (mo me mf : MS → Out PyData) (st : MS) : Out PyData := (mo st).bd fun d s => if isDic d = true then (me s).bd fun k s => (mf s).bd fun z s => ofO (getD2 d k z) s else .bad
/-- what dicts of one kind hold: ints and texts as keys -/
def isK (H : Hp) (v : V) : Prop := ∃ a ks, v = .ref a ∧ H a = some (.dK ks)
section
variable {X : Cx} {C : Ct} {E : WX} {md : Md} {b e o f : Expr} {m mo me mf : MS → Out PyData} {pos p1 p2 apos cpos : Pos} {x : Str} {a : Addr}
/-- {k: v, ..} of written texts and flat values, asked by get -/
def constT (tab : List (Str × PyData)) : List (TE × TE) := tab.map fun q => (tC (.str q.1), tC (atV q.2))
def tabV (tab : List (Str × PyData)) : List (Key × V) := tab.map fun q => (.inr q.1, atV q.2)
theorem constT_run {tab : List (Str × PyData)} {σ : L2.St} {H : Hp} {Q : List (V × V) → Hp → Prop} : tPairs (constT tab) σ H Q = Q ((tabV tab).map fun kv => (kV kv.1, kv.2)) H := by
  induction tab generalizing Q with
  | nil => rfl
  | cons q r ih =>
    show tPairs (constT r) σ H (fun ps H3 => Q ((.str q.1, atV q.2) :: ps) H3) = _
    rw [ih]
    rfl
def nodupS : List (Str × PyData) → Bool
  | [] => true
  | q :: r => (r.all fun p => !(p.1 == q.1)) && nodupS r
theorem merge_nodup : ∀ {tab : List (Str × PyData)} {acc : List (Key × V)}, nodupS tab = true → (∀ q ∈ tab, valV acc (.inr q.1) = none) → mergeK acc (tabV tab) = acc ++ tabV tab
  | [], acc, _, _ => by simp [mergeK, tabV]
  | q :: r, acc, h, ha => by
    obtain ⟨h1, h2⟩ := Bool.and_eq_true_iff.mp h
    show mergeK (putK acc (.inr q.1) (atV q.2)) (tabV r) = _
    rw [putK_new _ (ha q (.head _)), merge_nodup h2 fun p m => ?_]
    · simp [tabV]
    · rw [valV_snoc _ _ _ _ (ha q (.head _)), if_neg, ha p (.tail _ m)]
      intro z
      injection z with z
      have := List.all_eq_true.mp h1 p m
      rw [z] at this
      simp at this
theorem tab_dks {K : PySem.W.Frag} {S : List Addr} {H : Hp} : ∀ {tab : List (Str × PyData)}, tab.all (fun q => atomD q.2) = true → Dks K S H (tab.map fun q => (.str q.1, q.2)) ((tabV tab).map fun p => (keyD p.1, p.2))
  | [], _ => rfl
  | q :: r, h => by
    obtain ⟨h1, h2⟩ := Bool.and_eq_true_iff.mp h
    exact ⟨_, _, rfl, at_dv h1 _ _ _, tab_dks h2⟩
theorem q_getT {tab : List (Str × PyData)} {keys : List (Option Expr)} {values : List Expr} (hp : PPs X p2 keys values (constT tab)) (hall : keys.all (·.isSome) = true) (hl : keys.length = values.length) (h0 : keys ≠ []) (h15 : keys.length ≤ 15) (ht : (nodupS tab && tab.all (fun q => atomD q.2) && decide (tab.length ≤ 15) && !tab.isEmpty) = true)
    (hu : X.A.units + 1 < cLine) (he : QE X C E .s e me) (hf : QE X C E .s f mf) (mm : M2 X (.Dict keys values p2) "get" apos e f cpos) :
    QE X C E .s (.Call (.Attribute (.Dict keys values p2) "get" apos) [e, f] [] cpos) (mGet2 (mK (.dict (tab.map fun q => (.str q.1, q.2)))) me mf) := by
  obtain ⟨te, pe, re⟩ := he.ex; obtain ⟨tf, pf, rf⟩ := hf.ex
  refine ⟨⟨_, pe_dget2 hu (pe_disp hp hall hl h0 h15) pe pf mm, ?_⟩⟩
  obtain ⟨ht0, hne⟩ := Bool.and_eq_true_iff.mp ht
  obtain ⟨ht1, ht2⟩ := Bool.and_eq_true_iff.mp ht0
  obtain ⟨hnd, hat⟩ := Bool.and_eq_true_iff.mp ht1
  intro y G W S H σ st Q R h
  intro p hpn
  rw [constT_run]
  refine ⟨upd_same, tabV tab, rfl, by unfold tabV; rw [List.length_map]; exact of_decide_eq_true ht2, ?_⟩
  rw [upd_upd, merge_nodup hnd (fun _ _ => rfl), List.nil_append]
  have R1 : Rel X.K C y ((.dict (tab.map fun q => (.str q.1, q.2)), .ref p) :: G) W S (upd H p (.dK (tabV tab))) σ st := (R.new hpn).addG ⟨p, _, rfl, (R.fresh hpn).2, .inl ⟨_, upd_same, rfl⟩, tab_dks hat⟩
  refine ⟨p, rfl, .inl ⟨_, .inl upd_same⟩, ?_⟩
  have h : Post X.K C E y G W σ .s ((me st).bd fun k s => (mf s).bd fun z s => ofO (getD2 (.dict (tab.map fun q => (.str q.1, q.2))) k z) s) Q := h
  refine re.uS (P := fun o => Post X.K C E y G W σ .s o Q) ipP (.g .rfl) R1 h fun k s2 S2 v2 H2 R2 h2 => ?_
  refine rf.uS (P := fun o => Post X.K C E y G W σ .s o Q) ipP (.g (.g .rfl)) R2 h2 fun z s3 S3 v3 H3 R3 h3 => ?_
  unfold getD2 at h3
  cases ek : keyB k with
  | none => rw [ek] at h3; exact h3.elim
  | some kk =>
    rw [ek] at h3
    have ekd := keyB_ex ek
    subst ekd
    obtain ⟨a', vs, e1, n1, da, dk⟩ := R3.gd _ (.tail _ (.tail _ (.head _)))
    cases e1
    have kv : v2 = kV kk := by
      have := R3.tl.hd
      cases kk <;> exact this
    subst kv
    have h3 : Post X.K C E y G W σ .s (.ok ((lkD (tab.map fun q => (.str q.1, q.2)) (keyD kk)).getD z) s3) Q := h3
    rcases da with ⟨ks, g, ev⟩ | ⟨ks, g, ev⟩
    · subst ev
      rcases lk_dK (k := kk) dk with ⟨e, v, l1, l2, l3⟩ | ⟨l1, l2⟩
      · rw [l1] at h3
        exact ⟨some v, .inl ⟨ks, kk, .inl g, rfl, l2.symm⟩, post_at R3.tl.tl.tl h3 l3⟩
      · rw [l1] at h3
        exact ⟨none, .inl ⟨ks, kk, .inl g, rfl, l2.symm⟩, post_at R3.tl.tl.tl h3 R3.hd⟩
    · subst ev
      cases tab with
      | nil => cases hne
      | cons q r =>
        obtain ⟨v, ws, e, _⟩ := dk
        cases ks with
        | nil => cases e
        | cons p ks =>
          injection e with e _
          injection e with e _
          cases e
end
end MV

set_option Elab.async false
set_option linter.all false
set_option maxRecDepth 100000
set_option maxHeartbeats 2000000
/-! VS: a def keeps the promise of its mirror. -/
namespace MV
open PySem PySem.Spec PyProof.Rows L2 FR
section
variable {P : Program} {w : World} {mg : Str → Option Value} {base : Heap} {x : Str} {st : Stmt} {N ps : List Str} {k n : Nat} {M : Pm} {ks : List AK} {rk : Bool} {m : MSt}
theorem has_of (D : DefIn M.K mg x st) (S : FnScope N ps (defScope st)) (b : BindsBy x st ps)
    (q : ∀ (f : Addr) (cdv : Value) (A : Around) (outer : List Env) (s : Shared) (H : Hp) (E : XK), Room k (A.deeper (envOfC x (defScope st) s.heap.objs.size f cdv)) →
      QSs (cxOf CX0 P w M.K mg base N x (defScope st) f cdv A outer s H E).nox ⟨M.cls, M.tabs, n, ioN ks 0, rk⟩ (fun cl dx _ H => E cl dx H) (defBody st) m) (hn : n = N.length := by rfl) (hl : ks.length = ps.length := by rfl) (hl2 : ks.length ≤ n := by exact Nat.le_of_ble_eq_true rfl) :
    Has P w M.K mg base CX0 x (k + 1) ps (spOf M ks rk (runF n ks rk m)) :=
  D.has S b (len_spOf hl) fun f cdv A outer s H vs Q E hr h => by
    obtain ⟨t, p, r⟩ := (q f cdv A outer s H E hr).ex
    exact ⟨t, p, body_ok hn hl2 r h⟩
theorem hasX_of (D : DefIn M.K mg x st) (S : FnScope N ps (defScope st)) (b : BindsBy x st ps)
    (q : ∀ (f : Addr) (cdv : Value) (A : Around) (outer : List Env) (s : Shared) (H : Hp) (E : XK), Room k (A.deeper (envOfC x (defScope st) s.heap.objs.size f cdv)) →
      QSs (cxOf (L2.CX P w) P w M.K mg base N x (defScope st) f cdv A outer s H E) ⟨M.cls, M.tabs, n, ioN ks 0, rk⟩ (fun cl dx _ H => E cl dx H) (defBody st) m) (hn : n = N.length := by rfl) (hl : ks.length = ps.length := by rfl) (hl2 : ks.length ≤ n := by exact Nat.le_of_ble_eq_true rfl) :
    Has P w M.K mg base (L2.CX P w) x (k + 1) ps (spOf M ks rk (runF n ks rk m)) :=
  D.hasX S b (len_spOf hl) fun f cdv A outer s H vs Q E hr h => by
    obtain ⟨t, p, r⟩ := (q f cdv A outer s H E hr).ex
    exact ⟨t, p, body_ok hn hl2 r h⟩
end
/-- the law answers True -/
def IsTrue (o : FOut) : Prop := ∃ outs, o = .ok (.bool true) outs
theorem ints_dvs {K : PySem.W.Frag} {S : List Addr} {H : Hp} : ∀ ns : List Int, Dvs K S H (ns.map .int) (ns.map V.int)
  | [] => rfl
  | n :: r => ⟨_, _, rfl, rfl, ints_dvs r⟩
theorem law_sp {M : Pm} {f : List PyData → FOut} {H : Hp} {a : Addr} {ns : List Int} (hT : LamX.Tabs M.tabs H) (h : IsTrue (f [.list (ns.map .int)])) (hs : SqL M.K H a (ns.map V.int)) : spOf M [.sc] false f [.ref a] H (fun v _ => v = .bl true) fun _ _ _ => False := by
  obtain ⟨outs, e⟩ := h
  refine ⟨[], [.list (ns.map .int)], ⟨⟨rfl, a, _, _, rfl, rfl, hs, ints_dvs ns⟩, trivial⟩, List.Pairwise.nil, ?_, hT, ?_⟩
  · exact fun _ m => absurd m List.not_mem_nil
  · rw [e]
    exact fun H' v _ r => r.2
/-- a dict of the module, as it stands in the written part -/
theorem kd_of {K : PySem.W.Frag} {w : World} {mg : Str → Option Value} {h : Heap} {x : Str} {C : Addr} {es : Array DictEntry} {n : Nat} {tab : List (Str × PyData)} (X : K.In h) (G : h.Ns mainGlobals mg) (a : PySem.W.nsIn K mainGlobals x = some (some (.ref C)))
    (l : K.lookup C = some ⟨.type "dict", none, .dict es n, #[]⟩) (low : (C == sysModules) = false) (lit : PySem.W.KeysLit w.params es.toList) (p : Paired EntR es.toList tab) : KD K w mg x C tab :=
  ⟨PySem.W.mg_of X G a, _, _, ⟨l, lit, low⟩, p⟩
end MV

set_option Elab.async false
set_option linter.all false
set_option maxRecDepth 100000
set_option maxHeartbeats 2000000
/-! VL: more rules: max of a list, dict displays as values, raising, += of ints and texts. -/
namespace MV
open PySem PySem.Spec PyProof.Rows L2 FR
section
variable {K : PySem.W.Frag} {C : Ct} {S : List Addr} {H : Hp}
def maxI : Int → List Int → Int
  | m, [] => m
  | m, i :: r => maxI (if i > m then i else m) r
theorem maxI_mem : ∀ (r : List Int) (m : Int), maxI m r ∈ m :: r
  | [], m => .head _
  | i :: r, m => by
    unfold maxI
    rcases List.mem_cons.mp (maxI_mem r (if i > m then i else m)) with h | h
    · rw [h]; split
      · exact .tail _ (.head _)
      · exact .head _
    · exact .tail _ (.tail _ h)
theorem maxI_le : ∀ (r : List Int) (m : Int), ∀ y ∈ m :: r, y ≤ maxI m r
  | [], m, y, h => by rcases List.mem_cons.mp h with rfl | h; exact Int.le_refl _; cases h
  | i :: r, m, y, h => by
    unfold maxI
    have q := maxI_le r (if i > m then i else m)
    have q0 := q _ (.head _)
    rcases List.mem_cons.mp h with rfl | h
    · refine Int.le_trans ?_ q0
      split <;> omega
    · rcases List.mem_cons.mp h with rfl | h
      · refine Int.le_trans ?_ q0
        split <;> omega
      · exact q _ (.tail _ h)
def maxLD : PyData → Option PyData
  | .list ds => match intsD ds with
    | some (i :: r) => some (.int (maxI i r))
    | _ => none
  | _ => none
theorem ok_maxL : CbOk K C .s (rMax K) maxLD := by
  intro E y G W S H σ st x dx Q R b h
  cases dx <;> try exact h.elim
  rename_i ds
  dsimp only [maxLD] at h
  split at h
  · rename_i i r e
    obtain ⟨a, vs, e1, g, r'⟩ := b.lst
    rw [intsD_ex e] at r'
    subst e1
    refine ⟨a, i :: r, rfl, .of (by rw [g, r'.ints]), by simp, fun m hm hx => ?_⟩
    have e : m = maxI i r := Int.le_antisymm (maxI_le r i m hm) (hx _ (maxI_mem r i))
    subst e
    exact post_at R h rfl
  · exact h.elim
/-! ### += -/
theorem pip_or {X : Cx} {op : Operator} {r r' : TIp} (h : PIp X op r) (h' : PIp X op r') : PIp X op (orR r r') := by
  intro pins s σ H x y v u Q I r1 r2 q
  rcases q with q | q
  · exact h pins s σ H x y v u Q I r1 r2 q
  · exact h' pins s σ H x y v u Q I r1 r2 q
def rIAddS : TIp := fun x y H Q => ∃ a b : Str, x = .str a ∧ y = .str b ∧ a.length + b.length ≤ LIM ∧ Q (.str (a ++ b)) H
theorem ip_addS {X : Cx} : PIp X .Add rIAddS := by
  intro pins s σ H x y v u Q I r1 r2 h
  obtain ⟨i, j, e1, e2, l, q⟩ := h
  subst e1; subst e2
  obtain ⟨t, rfl⟩ := r1
  obtain ⟨t', rfl⟩ := r2
  exact PyProof.Rows.iadd_str (fun t' tk => ⟨.str _, H, I.tok _, ⟨_, rfl⟩, q⟩) (by rw [← lim_eq] at l; exact l)
theorem ip_addG {X : Cx} : PIp X .Add (orR (L2.ipI fun i j => i + j) rIAddS) := pip_or ip_add ip_addS
def augD : PyData → PyData → Option PyData
  | .int i, .int j => some (.int (i + j))
  | .str i, .str j => if i.length + j.length ≤ LIM then some (.str (i ++ j)) else none
  | _, _ => none
theorem ok_ipadd : OpOk K C .s (orR (L2.ipI fun i j => i + j) rIAddS) augD := by
  intro E y G W S H σ st x z dx dz Q R bx bz h
  cases dx <;> cases dz <;> try exact h.elim
  · exact .inl ⟨_, _, bx.int, bz.int, post_at R h rfl⟩
  · obtain ⟨l, h⟩ := post_if h
    exact .inr ⟨_, _, bx.str, bz.str, l, post_at R h rfl⟩
theorem ok_ipsub : OpOk K C .s (L2.ipI fun i j => i - j) subD := ok_int2 fun dx dz d e => by
  cases dx <;> cases dz <;> cases e
  exact ⟨_, _, rfl, rfl, _, fun _ _ => rfl, fun H Q q => ⟨_, _, rfl, rfl, q⟩⟩
end
/-! ### dict displays as values -/
section
variable {X : Cx} {C : Ct} {E : WX} {md : Md} {pos p2 : Pos} {a : Addr}
theorem q_dic0 : QE X C E .s (.Dict [] [] pos) (mK (.dict [])) := by
  refine ⟨⟨_, pe_dnewK, ?_⟩⟩
  intro y G W S H σ st Q R h
  intro p hp
  exact h S _ _ ((R.new hp).addG ⟨p, [], rfl, (R.fresh hp).2, .inl ⟨[], upd_same, rfl⟩, rfl⟩)
theorem q_dic {tab : List (Str × PyData)} {keys : List (Option Expr)} {values : List Expr} (hp : PPs X p2 keys values (constT tab)) (hall : keys.all (·.isSome) = true) (hl : keys.length = values.length) (h0 : keys ≠ []) (h15 : keys.length ≤ 15) (ht : (nodupS tab && tab.all (fun q => atomD q.2) && decide (tab.length ≤ 15) && !tab.isEmpty) = true) :
    QE X C E .s (.Dict keys values p2) (mK (.dict (tab.map fun q => (.str q.1, q.2)))) := by
  refine ⟨⟨_, pe_disp hp hall hl h0 h15, ?_⟩⟩
  obtain ⟨ht0, hne⟩ := Bool.and_eq_true_iff.mp ht
  obtain ⟨ht1, ht2⟩ := Bool.and_eq_true_iff.mp ht0
  obtain ⟨hnd, hat⟩ := Bool.and_eq_true_iff.mp ht1
  intro y G W S H σ st Q R h
  intro p hpn
  rw [constT_run]
  refine ⟨upd_same, tabV tab, rfl, by unfold tabV; rw [List.length_map]; exact of_decide_eq_true ht2, ?_⟩
  rw [upd_upd, merge_nodup hnd (fun _ _ => rfl), List.nil_append]
  exact h S _ _ ((R.new hpn).addG ⟨p, _, rfl, (R.fresh hpn).2, .inl ⟨_, upd_same, rfl⟩, tab_dks hat⟩)
end
/-! ### raise -/
def mRaise (c : Str) : MSt := fun st => .err c [] st
section
variable {X : Cx} {C : Ct} {E : WX} {md : Md} {pos p2 p3 : Pos} {a : Addr}
theorem q_raise0 {x : Str} {cls : Str → Addr} (e : ErrC X.K X.mg x (cls x)) (hc : X.calm = true) (tk : Takes X E) (hg : Gl X x) (hcl : C.cls = cls := by rfl) (hd : (x == ("__debug__" : Str)) = false := by decide) :
    QS X C E (.Raise (some (.Call (.Name x p2) [] [] p3)) none pos) (mRaise x) := by
  refine ⟨⟨_, ps_raise (W := E) hc tk (pmk_own0 PySem.F.excBase_ValueError e.x e.g e.k (raises_own e.b e.t) hg hd), ?_⟩⟩
  intro y G W S H σ st D R h
  subst hcl
  exact h S σ H _ _ R ⟨rfl, .inl ⟨rfl, rfl⟩⟩
end
end MV

set_option Elab.async false
set_option linter.all false
set_option maxRecDepth 100000
set_option maxHeartbeats 2000000
/-! VW: reckoning with mirrors. -/
namespace MV
open PySem PySem.Spec PyProof.Rows L2 FR
section
variable {α β : Type} {st s : MS} {a : α} {k : α → MS → Out β} {ks : α → MS → SOut} {kk : MSt} {d : PyData} {c : Str} {fs : List (Str × PyData)}
theorem bd_ok : (Out.ok a st).bd k = k a st := rfl
theorem bd_okS : (Out.ok a st).bd ks = ks a st := rfl
theorem bd_err : (Out.err (α := α) c fs st).bd k = .err c fs st := rfl
theorem bd_errS : (Out.err (α := α) c fs st).bd ks = .err c fs st := rfl
theorem bd_bad : (Out.bad (α := α)).bd k = .bad := rfl
theorem bd_badS : (Out.bad (α := α)).bd ks = .bad := rfl
theorem sq_nx : (SOut.nx st).sq kk = kk st := rfl
theorem sq_ret : (SOut.ret d st).sq kk = .ret d st := rfl
theorem sq_err : (SOut.err c fs st).sq kk = .err c fs st := rfl
theorem sq_brk : (SOut.brk st).sq kk = .brk st := rfl
theorem sq_ct : (SOut.ct st).sq kk = .ct st := rfl
theorem ofO_some : ofO (some a) st = .ok a st := rfl
theorem ofO_ite {p : Prop} [Decidable p] (h : p) : ofO (if p then some a else none) st = .ok a st := by rw [if_pos h]; rfl
end
/-! ### lists by places -/
section
variable {α : Type} {xs : List α} {i : Int} {j : Nat} {x : α}
theorem atI_at (h : 0 ≤ i) (h2 : xs[i.toNat]? = some x) : atI xs i = some x := by
  obtain ⟨j, rfl⟩ : ∃ j : Nat, i = j := ⟨i.toNat, by omega⟩
  exact atI_nat h2
theorem atI_last (h : xs ≠ []) : atI xs (-1) = some (xs.getLast h) := by
  have hl : 0 < xs.length := List.length_pos_iff.mpr h
  unfold atI ixN
  rw [if_neg (by decide), if_pos (by omega)]
  have e : (-1 + (xs.length : Int)).toNat = xs.length - 1 := by omega
  show xs[(-1 + (xs.length : Int)).toNat]? = _
  rw [e, List.getLast_eq_getElem, List.getElem?_eq_getElem (by omega)]
theorem atI_mem (h : 0 ≤ i) (h2 : i < xs.length) : ∃ x, atI xs i = some x ∧ x ∈ xs := by
  obtain ⟨j, rfl⟩ : ∃ j : Nat, i = j := ⟨i.toNat, by omega⟩
  exact ⟨xs[j]'(by omega), atI_nat (List.getElem?_eq_getElem _), List.getElem_mem _⟩
end
theorem sIx_none {n dflt : Nat} : HT.sIx n dflt none = dflt := rfl
section
variable {α : Type} {xs : List α} {k : Nat}
theorem sIx_le (h : k ≤ xs.length) (d : Nat) : HT.sIx xs.length d (some (k : Int)) = k := by
  rw [HT.sIx_nat]; omega
theorem cutL_to (h : k ≤ xs.length) : cutL xs none (some (k : Int)) = xs.take k := by
  unfold cutL
  rw [sIx_le h, sIx_none, Nat.sub_zero, List.drop_zero]
theorem cutL_from (h : k ≤ xs.length) : cutL xs (some (k : Int)) none = xs.drop k := by
  unfold cutL
  rw [sIx_le h, sIx_none, List.take_of_length_le]
  rw [List.length_drop]; omega
theorem cutL_mid {j : Nat} (h : j ≤ k) (h2 : k ≤ xs.length) : cutL xs (some (j : Int)) (some (k : Int)) = (xs.drop j).take (k - j) := by
  unfold cutL
  rw [sIx_le h2, sIx_le (Nat.le_trans h h2)]
end
/-! ### loops -/
section
variable {mg : PyData → MS → Option MS} {b : MSt} {c : MS → Out Bool}
/-- a for that always goes on -/
theorem forL_inv {I : List PyData → MS → Prop} (h : ∀ d r st, I (d :: r) st → ∃ s st', mg d st = some s ∧ (b s = .nx st' ∨ b s = .ct st') ∧ I r st') : ∀ ds st, I ds st → ∃ st', forL mg b ds st = .nx st' ∧ I [] st'
  | [], st, i => ⟨st, rfl, i⟩
  | d :: r, st, i => by
    obtain ⟨s, st', e, e2, i'⟩ := h d r st i
    unfold forL
    rw [e]
    rcases e2 with e2 | e2 <;> (dsimp only; rw [e2]; exact forL_inv h r st' i')
/-- a for that may give an answer ahead of the end -/
theorem forL_ret {I : List PyData → MS → Prop} {R : SOut → Prop} (h : ∀ d r st, I (d :: r) st → ∃ s, mg d st = some s ∧ ((∃ st', (b s = .nx st' ∨ b s = .ct st') ∧ I r st') ∨ (∃ d' st', b s = .ret d' st' ∧ R (.ret d' st')) ∨ (∃ c fs st', b s = .err c fs st' ∧ R (.err c fs st')) ∨ ∃ st', b s = .brk st' ∧ R (.nx st')))
    (h0 : ∀ st, I [] st → R (.nx st)) : ∀ ds st, I ds st → R (forL mg b ds st)
  | [], st, i => h0 st i
  | d :: r, st, i => by
    obtain ⟨s, e, e2⟩ := h d r st i
    unfold forL
    rw [e]
    rcases e2 with ⟨st', e2 | e2, i'⟩ | ⟨d', st', e2, q⟩ | ⟨c', fs, st', e2, q⟩ | ⟨st', e2, q⟩
    · dsimp only; rw [e2]; exact forL_ret h h0 r st' i'
    · dsimp only; rw [e2]; exact forL_ret h h0 r st' i'
    · dsimp only; rw [e2]; exact q
    · dsimp only; rw [e2]; exact q
    · dsimp only; rw [e2]; exact q
/-- a while whose measure falls -/
theorem while_ret {I : Nat → MS → Prop} {R : SOut → Prop} (h : ∀ n st, I n st → ∃ q s, c st = .ok q s ∧ ((q = false ∧ R (.nx s)) ∨ (q = true ∧ ((∃ st' m, (b s = .nx st' ∨ b s = .ct st') ∧ m < n ∧ I m st') ∨ (∃ d' st', b s = .ret d' st' ∧ R (.ret d' st')) ∨ (∃ c fs st', b s = .err c fs st' ∧ R (.err c fs st')) ∨ ∃ st', b s = .brk st' ∧ R (.nx st'))))) :
    ∀ (f n : Nat) st, n < f → I n st → R (whileN c b f st)
  | 0, n, st, hf, i => absurd hf (Nat.not_lt_zero n)
  | f + 1, n, st, hf, i => by
    obtain ⟨q, s, e, e2⟩ := h n st i
    unfold whileN
    rw [e]
    rcases e2 with ⟨rfl, q⟩ | ⟨rfl, e2⟩
    · exact q
    · show R (match b s with | .nx s => whileN c b f s | .ct s => whileN c b f s | .brk s => .nx s | o => o)
      rcases e2 with ⟨st', m, e2 | e2, lt, i'⟩ | ⟨d', st', e2, q⟩ | ⟨c', fs, st', e2, q⟩ | ⟨st', e2, q⟩
      · rw [e2]; exact while_ret h f m st' (by omega) i'
      · rw [e2]; exact while_ret h f m st' (by omega) i'
      · rw [e2]; exact q
      · rw [e2]; exact q
      · rw [e2]; exact q
theorem mWhile_ret {I : Nat → MS → Prop} {R : SOut → Prop} (h : ∀ n st, I n st → ∃ q s, c st = .ok q s ∧ ((q = false ∧ R (.nx s)) ∨ (q = true ∧ ((∃ st' m, (b s = .nx st' ∨ b s = .ct st') ∧ m < n ∧ I m st') ∨ (∃ d' st', b s = .ret d' st' ∧ R (.ret d' st')) ∨ (∃ c fs st', b s = .err c fs st' ∧ R (.err c fs st')) ∨ ∃ st', b s = .brk st' ∧ R (.nx st')))))
    {n : Nat} {st : MS} (hn : n < 1000000000) (i : I n st) : R (mWhile c b st) := by
  unfold mWhile
  exact while_ret h fuel n st (by rw [fuel_eq]; exact hn) i
end
/-! ### comprehensions -/
section
variable {mg : PyData → MS → Option MS} {mt : MS → Out Bool} {me : MS → Out PyData} {vs : List Nat}
/-- one whose state changes -/
theorem lcL_inv {I : List PyData → List PyData → MS → Prop} (h : ∀ d r acc st, I (d :: r) acc st → ∃ s b s2, mg d st = some s ∧ mt s = .ok b s2 ∧ ((b = false ∧ I r acc (wipeM s2 vs)) ∨ (b = true ∧ ∃ e s3, me s2 = .ok e s3 ∧ acc.length < LIM ∧ I r (acc ++ [e]) (wipeM s3 vs)))) :
    ∀ ds acc st, I ds acc st → ∃ acc' st', lcL mg mt me vs ds acc st = .ok acc' st' ∧ I [] acc' st'
  | [], acc, st, i => ⟨acc, st, rfl, i⟩
  | d :: r, acc, st, i => by
    obtain ⟨s, b, s2, e1, e2, e3⟩ := h d r acc st i
    unfold lcL
    rw [e1]
    dsimp only
    rw [e2]
    rcases e3 with ⟨rfl, i'⟩ | ⟨rfl, e, s3, e3, l, i'⟩
    · exact lcL_inv h r acc _ i'
    · show ∃ acc' st', ((noE (me s2)).bd fun e s => if acc.length < LIM then lcL mg mt me vs r (acc ++ [e]) (wipeM s vs) else .bad) = .ok acc' st' ∧ I [] acc' st'
      rw [e3]
      show ∃ acc' st', (if acc.length < LIM then lcL mg mt me vs r (acc ++ [e]) (wipeM s3 vs) else .bad) = .ok acc' st' ∧ I [] acc' st'
      rw [if_pos l]
      exact lcL_inv h r _ _ i'
/-- one that changes nothing: a map of what is kept -/
theorem lcL_map {st : MS} {p : PyData → Bool} {f : PyData → PyData} : ∀ (ds : List PyData) (acc : List PyData), (∀ d ∈ ds, ∃ s s2, mg d st = some s ∧ mt s = .ok (p d) s2 ∧ (p d = false → wipeM s2 vs = st) ∧ (p d = true → ∃ s3, me s2 = .ok (f d) s3 ∧ wipeM s3 vs = st)) → acc.length + ds.length ≤ LIM →
    lcL mg mt me vs ds acc st = .ok (acc ++ (ds.filter p).map f) st
  | [], acc, _, _ => by simp [lcL]
  | d :: r, acc, h, l => by
    obtain ⟨s, s2, e1, e2, e3, e4⟩ := h d (.head _)
    rw [List.length_cons] at l
    unfold lcL
    rw [e1]
    dsimp only
    rw [e2]
    show (if p d = true then (noE (me s2)).bd fun e s => if acc.length < LIM then lcL mg mt me vs r (acc ++ [e]) (wipeM s vs) else .bad else lcL mg mt me vs r acc (wipeM s2 vs)) = _
    cases c : p d with
    | false =>
      rw [if_neg (by decide), e3 c, lcL_map r acc (fun d m => h d (.tail _ m)) (by omega), List.filter_cons_of_neg (by simp [c])]
    | true =>
      obtain ⟨s3, e5, e6⟩ := e4 c
      rw [if_pos rfl, e5]
      show (if acc.length < LIM then lcL mg mt me vs r (acc ++ [f d]) (wipeM s3 vs) else .bad) = _
      rw [if_pos (by omega), e6, lcL_map r _ (fun d m => h d (.tail _ m)) (by rw [List.length_append, List.length_singleton]; omega), List.filter_cons_of_pos (by simp [c])]
      simp
end
end MV

set_option Elab.async false
set_option linter.all false
set_option maxRecDepth 100000
set_option maxHeartbeats 2000000
/-! VX: what a mirror gives, step by step. -/
namespace MV
open PySem PySem.Spec PyProof.Rows L2 FR
/-- an end of a range that the machine takes as it is -/
structure Sm (i : Int) : Prop where
  h : small i = true
abbrev ErrM := Str → List (Str × PyData) → MS → Prop
def noErr : ErrM := fun _ _ _ => False
def Out.w {α : Type} (o : Out α) (Q : α → MS → Prop) (e : ErrM) : Prop := match o with
  | .ok a s => Q a s
  | .err c fs s => e c fs s
  | .bad => False
/-- m, begun at st, gives what Q says -/
structure WE {α : Type} (m : MS → Out α) (st : MS) (Q : α → MS → Prop) (e : ErrM) : Prop where
  h : (m st).w Q e
structure EndM where
  nx : MS → Prop
  rt : PyData → MS → Prop
  er : ErrM
  bk : MS → Prop := fun _ => False
  ct : MS → Prop := fun _ => False
/-- go on with k -/
def EndM.th (D : EndM) (k : MS → Prop) : EndM := { nx := k, rt := D.rt, er := D.er, bk := D.bk, ct := D.ct }
/-- within a loop: k holds behind each turn -/
def EndM.lp (D : EndM) (k : MS → Prop) : EndM := { nx := k, rt := D.rt, er := D.er, bk := D.nx, ct := k }
/-- a def's end -/
def fnE (rk : Bool) (ks : List AK) (R : PyData → List PyData → Prop) (er : Str → List (Str × PyData) → List PyData → Prop) : EndM := { nx := fun s => rk = false ∧ R .none (outsA ks 0 s), rt := fun d s => R d (outsA ks 0 s), er := fun c fs s => er c fs (outsA ks 0 s), bk := fun _ => False, ct := fun _ => False }
section
variable {D : EndM} {k : MS → Prop} {s : MS} {d : PyData} {c : Str} {fs : List (Str × PyData)} {rk : Bool} {ks : List AK} {R : PyData → List PyData → Prop} {er : Str → List (Str × PyData) → List PyData → Prop}
theorem th_nx (h : k s) : (D.th k).nx s := h
theorem th_rt (h : D.rt d s) : (D.th k).rt d s := h
theorem th_er (h : D.er c fs s) : (D.th k).er c fs s := h
theorem th_bk (h : D.bk s) : (D.th k).bk s := h
theorem th_ct (h : D.ct s) : (D.th k).ct s := h
theorem lp_nx (h : k s) : (D.lp k).nx s := h
theorem lp_rt (h : D.rt d s) : (D.lp k).rt d s := h
theorem lp_er (h : D.er c fs s) : (D.lp k).er c fs s := h
theorem lp_bk (h : D.nx s) : (D.lp k).bk s := h
theorem lp_ct (h : k s) : (D.lp k).ct s := h
theorem fn_nx (h : rk = false ∧ R .none (outsA ks 0 s)) : (fnE rk ks R er).nx s := h
theorem fn_rt (h : R d (outsA ks 0 s)) : (fnE rk ks R er).rt d s := h
theorem fn_er (h : er c fs (outsA ks 0 s)) : (fnE rk ks R er).er c fs s := h
end
def SOut.w (o : SOut) (D : EndM) : Prop := match o with
  | .nx s => D.nx s
  | .ret d s => D.rt d s
  | .err c fs s => D.er c fs s
  | .brk s => D.bk s
  | .ct s => D.ct s
  | .bad => False
structure WS (m : MSt) (st : MS) (D : EndM) : Prop where
  h : (m st).w D
/-- the rest of a walk over things -/
structure WL (mg : PyData → MS → Option MS) (b : MSt) (ds : List PyData) (st : MS) (D : EndM) : Prop where
  h : (forL mg b ds st).w D
/-- a def's answer -/
def FOut.w (o : FOut) (Q : PyData → List PyData → Prop) (e : Str → List (Str × PyData) → List PyData → Prop) : Prop := match o with
  | .ok r outs => Q r outs
  | .err c fs outs => e c fs outs
  | .bad => False
structure WF (o : FOut) (Q : PyData → List PyData → Prop) (e : Str → List (Str × PyData) → List PyData → Prop) : Prop where
  h : o.w Q e
section
variable {α β : Type} {o : Out α} {Q Q' : α → MS → Prop} {e : ErrM} {st s : MS}
theorem Out.w.mono (h : o.w Q e) (k : ∀ a s, Q a s → Q' a s) : o.w Q' e := by
  cases o with
  | ok a s => exact k a s h
  | err => exact h
  | bad => exact h
theorem WE.mono {m : MS → Out α} {st : MS} (h : WE m st Q e) (k : ∀ a s, Q a s → Q' a s) : (m st).w Q' e := h.h.mono k
theorem w_bd {k : α → MS → Out β} {R : β → MS → Prop} (h : o.w (fun a s => (k a s).w R e) e) : (o.bd k).w R e := by
  cases o with
  | ok a s => exact h
  | err => exact h
  | bad => exact h
theorem w_bdS {k : α → MS → SOut} {D : EndM} (h : o.w (fun a s => (k a s).w D) D.er) : (o.bd k).w D := by
  cases o with
  | ok a s => exact h
  | err => exact h
  | bad => exact h
theorem w_ofO {x : Option α} (h : ∃ a, x = some a ∧ Q a st) : (ofO x st).w Q e := by
  obtain ⟨a, rfl, q⟩ := h; exact q
theorem w_ofOS {x : Option α} {k : α → MS → SOut} {D : EndM} (h : ∃ a, x = some a ∧ (k a st).w D) : ((ofO x st).bd k).w D := by
  obtain ⟨a, rfl, q⟩ := h; exact q
theorem ifT1 {p : Bool} {A B : Prop} (h : p = true) (a : A) : if p = true then A else B := by rw [if_pos h]; exact a
theorem ifT0 {p : Bool} {A B : Prop} (h : p = false) (b : B) : if p = true then A else B := by rw [h, if_neg (by decide)]; exact b
theorem ifB {p : Bool} {A B : Prop} (a : p = true → A) (b : p = false → B) : if p = true then A else B := by
  cases p
  · rw [if_neg (by decide)]; exact b rfl
  · rw [if_pos rfl]; exact a rfl
theorem ifw {p : Bool} {x y : Out α} (h : if p = true then x.w Q e else y.w Q e) : (if p = true then x else y).w Q e := by
  cases p
  · rw [if_neg (by decide)] at h ⊢; exact h
  · rw [if_pos rfl] at h ⊢; exact h
theorem ifwS {p : Bool} {x y : SOut} {D : EndM} (h : if p = true then x.w D else y.w D) : (if p = true then x else y).w D := by
  cases p
  · rw [if_neg (by decide)] at h ⊢; exact h
  · rw [if_pos rfl] at h ⊢; exact h
end
section
variable {st s : MS} {Q : PyData → MS → Prop} {QB : Bool → MS → Prop} {QL : List PyData → MS → Prop} {QO : Option Int → MS → Prop} {e : ErrM} {D : EndM} {a b m : MS → Out PyData} {ta tb c : MS → Out Bool} {al : MS → Out (List PyData)} {l u : MS → Out (Option Int)} {d x : PyData} {i j : Nat} {f g : PyData → PyData → Option PyData} {f1 : PyData → Option PyData} {sa sb : MSt}
theorem w_v (h : ∃ d, st[i]? = some (some (.sh d)) ∧ Q d st) : WE (mV i) st Q e := .mk (by obtain ⟨d, h, q⟩ := h; unfold mV; rw [h]; exact q)
theorem w_vo (h : ∃ d, st[i]? = some (some (.ow d)) ∧ Q d (st.set i (some (.sh d)))) : WE (mV i) st Q e := .mk (by obtain ⟨d, h, q⟩ := h; unfold mV; rw [h]; exact q)
theorem w_b (h : ∃ c d, st[i]? = some (some c) ∧ c.rd = some d ∧ Q d st) : WE (mB i) st Q e := .mk (by obtain ⟨c, d, h, h2, q⟩ := h; unfold mB; rw [h]; dsimp only; rw [h2]; exact q)
theorem w_mv (h : ∃ d, st[i]? = some (some (.ow d)) ∧ Q d (st.set i none)) : WE (mMv i) st Q e := .mk (by obtain ⟨d, h, q⟩ := h; unfold mMv; rw [h]; exact q)
theorem w_k (q : Q d st) : WE (mK d) st Q e := .mk (q)
theorem w_op (h : WE a st (fun x s1 => WE b s1 (fun z s2 => ∃ d, f x z = some d ∧ Q d s2) e) e) : WE (mOp f a b) st Q e := .mk (w_bd (h.mono fun _ _ h => w_bd (h.mono fun _ _ h => w_ofO h)))
theorem w_opB (h : ∃ c, st[i]? = some (some c) ∧ WE b st (fun z s2 => WE (mB i) s2 (fun x s3 => ∃ d, f x z = some d ∧ Q d s3) e) e) : WE (mOpB f i b) st Q e := .mk <| by
  obtain ⟨c, h0, h⟩ := h
  unfold mOpB
  rw [h0]
  exact w_bd (h.mono fun _ _ h => w_bd (h.mono fun _ _ h => w_ofO h))
theorem w_u (h : WE a st (fun x s => ∃ d, f1 x = some d ∧ Q d s) e) : WE (mU f1 a) st Q e := .mk (w_bd (h.mono fun _ _ h => w_ofO h))
theorem w_u2 (h : WE a st (fun x s1 => WE b s1 (fun z s2 => ∃ d, f x z = some d ∧ Q d s2) e) e) : WE (mU2 f a b) st Q e := .mk (w_bd (h.mono fun _ _ h => w_bd (h.mono fun _ _ h => w_ofO h)))
theorem w_test (h : WE a st (fun x s => ∃ b, boolB x = some b ∧ QB b s) e) : WE (mTest a) st QB e := .mk (w_bd (h.mono fun _ _ h => w_ofO h))
theorem w_tru (h : WE a st (fun x s => ∃ b, truB x = some b ∧ QB b s) e) : WE (mTru a) st QB e := .mk (w_bd (h.mono fun _ _ h => w_ofO h))
theorem w_and (h : WE ta st (fun q s => if q = true then WE tb s QB e else QB false s) e) : WE (mAnd ta tb) st QB e := .mk (w_bd (h.mono fun q s h => ifw (by cases q <;> first | exact h | exact WE.h h)))
theorem w_or (h : WE ta st (fun q s => if q = true then QB true s else WE tb s QB e) e) : WE (mOr ta tb) st QB e := .mk (w_bd (h.mono fun q s h => ifw (by cases q <;> first | exact h | exact WE.h h)))
theorem w_not (h : WE ta st (fun q s => QB (!q) s) e) : WE (mNot ta) st QB e := .mk (w_bd (h.mono fun q s h => h))
theorem w_notV (h : WE a st (fun x s => ∃ q, boolB x = some q ∧ Q (.bool (!q)) s) e) : WE (mNotV a) st Q e := .mk (w_bd (h.mono fun x s h => w_ofO (by obtain ⟨q, e, h⟩ := h; exact ⟨_, by rw [e]; rfl, h⟩)))
theorem w_andV (h : WE a st (fun x s => ∃ q, boolB x = some q ∧ if q = true then WE b s Q e else Q (.bool false) s) e) : WE (mAndV a b) st Q e := .mk (w_bd (h.mono fun x s h => w_bd (w_ofO (by obtain ⟨q, e, h⟩ := h; exact ⟨q, e, ifw (by cases q <;> first | exact h | exact WE.h h)⟩))))
theorem w_orV (h : WE a st (fun x s => ∃ q, boolB x = some q ∧ if q = true then Q (.bool true) s else WE b s Q e) e) : WE (mOrV a b) st Q e := .mk (w_bd (h.mono fun x s h => w_bd (w_ofO (by obtain ⟨q, e, h⟩ := h; exact ⟨q, e, ifw (by cases q <;> first | exact h | exact WE.h h)⟩))))
theorem w_if (h : WE c st (fun q s => if q = true then WE a s Q e else WE b s Q e) e) : WE (mIf c a b) st Q e := .mk (w_bd (h.mono fun q s h => ifw (by cases q <;> exact WE.h h)))
theorem w_chain {z : MS → Out PyData} (h : WE a st (fun x s => WE b s (fun y s => ∃ q, (f x y).bind boolB = some q ∧ if q = true then WE z s (fun z s => ∃ d, g y z = some d ∧ Q d s) e else Q (.bool false) s) e) e) : WE (mChain f g a b z) st Q e := .mk <|
  w_bd (h.mono fun x s h => w_bd (h.mono fun y s h => w_bd (w_ofO (by
    obtain ⟨q, e1, h⟩ := h
    refine ⟨q, e1, ifw ?_⟩
    cases q
    · exact h
    · exact w_bd (h.mono fun _ _ h => w_ofO h)))))
theorem w_nil (q : QL [] st) : WE mNil st QL e := .mk (q)
theorem w_cons (h : WE a st (fun x s => WE al s (fun xs s => QL (x :: xs) s) e) e) : WE (mCons a al) st QL e := .mk (w_bd (h.mono fun _ _ h => w_bd (h.mono fun _ _ h => h)))
theorem w_consV (h : ∃ c, st[i]? = some (some c) ∧ WE al st (fun xs s => QL (.none :: xs) s) e) : WE (mConsV i al) st QL e := .mk <| by
  obtain ⟨c, h0, h⟩ := h
  unfold mConsV; rw [h0]; exact w_bd (h.mono fun _ _ h => h)
theorem w_tup (h : WE al st (fun xs s => xs.length ≤ LIM ∧ Q (.tuple xs) s) e) : WE (mTup al) st Q e := .mk (w_bd (h.mono fun xs s h => by rw [if_pos h.1]; exact h.2))
theorem w_lst (h : WE al st (fun xs s => xs.length ≤ LIM ∧ Q (.list xs) s) e) : WE (mLst al) st Q e := .mk (w_bd (h.mono fun xs s h => by rw [if_pos h.1]; exact h.2))
theorem w_noP (q : QO none st) : WE mNoP st QO e := .mk (q)
theorem w_part (h : WE a st (fun x s => ∃ k, x = .int k ∧ QO (some k) s) e) : WE (mPart a) st QO e := .mk (w_bd (h.mono fun x s h => by obtain ⟨k, rfl, q⟩ := h; exact q))
theorem w_sl {F : Option Int → Option Int → PyData → Option PyData} (h : WE a st (fun x s => WE l s (fun lo s => WE u s (fun hi s => ∃ d, F lo hi x = some d ∧ Q d s) e) e) e) : WE (mSl F a l u) st Q e := .mk (w_bd (h.mono fun _ _ h => w_bd (h.mono fun _ _ h => w_bd (h.mono fun _ _ h => w_ofO h))))
theorem w_slB {F : Option Int → Option Int → PyData → Option PyData} (h : ∃ c, st[i]? = some (some c) ∧ WE l st (fun lo s => WE u s (fun hi s => WE (mB i) s (fun x s => ∃ d, F lo hi x = some d ∧ Q d s) e) e) e) : WE (mSlB F i l u) st Q e := .mk <| by
  obtain ⟨c, h0, h⟩ := h
  unfold mSlB; rw [h0]
  exact w_bd (h.mono fun _ _ h => w_bd (h.mono fun _ _ h => w_bd (h.mono fun _ _ h => w_ofO h)))
theorem w_slW (h : ∃ ds, st[i]? = some (some (.sc (.list ds))) ∧ WE l st (fun lo s => WE u s (fun hi s => s[i]? = some (some (.sc (.list ds))) ∧ Q (.list (cutL ds lo hi)) s) e) e) : WE (mSlW i l u) st Q e := .mk <| by
  obtain ⟨ds, h0, h⟩ := h
  unfold mSlW; rw [h0]
  exact w_bd (h.mono fun _ _ h => w_bd (h.mono fun _ _ h => by rw [h.1]; exact h.2))
theorem w_mt {F : PyData → PyData → Option PyData} {t : PyData → Bool} (h : WE a st (fun x s => t x = true ∧ WE b s (fun z s => ∃ d, F x z = some d ∧ Q d s) e) e) : WE (mMt F t a b) st Q e := .mk (w_bd (h.mono fun x s h => by rw [if_pos h.1]; exact w_bd (h.2.mono fun _ _ h => w_ofO h)))
theorem w_get2 {mo me mf : MS → Out PyData} (h : WE mo st (fun d s => isDic d = true ∧ WE me s (fun k s => WE mf s (fun z s => ∃ r, getD2 d k z = some r ∧ Q r s) e) e) e) : WE (mGet2 mo me mf) st Q e := .mk (w_bd (h.mono fun x s h => by rw [if_pos h.1]; exact w_bd (h.2.mono fun _ _ h => w_bd (h.mono fun _ _ h => w_ofO h))))
theorem w_pop (h : ∃ ds, ownL st i = some ds ∧ ∃ d, ds.getLast? = some d ∧ Q d (putD st i (.list ds.dropLast))) : WE (mPop i) st Q e := .mk <| by
  obtain ⟨ds, h, d, h2, q⟩ := h
  unfold mPop; rw [h]; dsimp only; rw [h2]; exact q
/-! things gone over -/
theorem w_it (h : WE a st (fun x s => ∃ ds, seqD x = some ds ∧ QL ds s) e) : WE (mIt a) st QL e := .mk (w_bd (h.mono fun _ _ h => w_ofO h))
theorem w_rng1 (h : WE a st (fun x s => ∃ j, x = .int j ∧ Sm j ∧ QL (rngB 0 j) s) e) : WE (mRng1 a) st QL e := .mk (w_bd (h.mono fun x s h => by obtain ⟨j, rfl, ⟨h1⟩, q⟩ := h; dsimp only; rw [if_pos h1]; exact q))
theorem w_rng2 (h : WE a st (fun x s => WE b s (fun y s => ∃ i j, x = .int i ∧ y = .int j ∧ Sm i ∧ Sm j ∧ QL (rngB i j) s) e) e) : WE (mRng2 a b) st QL e := .mk (w_bd (h.mono fun x s h => w_bd (h.mono fun y s h => by obtain ⟨i, j, rfl, rfl, ⟨h1⟩, ⟨h2⟩, q⟩ := h; dsimp only; rw [if_pos ⟨h1, h2⟩]; exact q)))
theorem w_zip (h : WE a st (fun x s => WE b s (fun y s => ∃ ds es, seqD x = some ds ∧ seqD y = some es ∧ QL (pairs ds es) s) e) e) : WE (mZip a b) st QL e := .mk (w_bd (h.mono fun x s h => w_bd (h.mono fun y s h => by obtain ⟨i, j, h1, h2, q⟩ := h; rw [h1, h2]; exact q)))
theorem w_enum (h : WE a st (fun x s => ∃ ds, seqD x = some ds ∧ QL (enumF 0 ds) s) e) : WE (mEnum a) st QL e := .mk (w_bd (h.mono fun x s h => by obtain ⟨ds, h1, q⟩ := h; rw [h1]; exact q))
/-- a comprehension -/
theorem w_lc {mi : MS → Out (List PyData)} {mg : PyData → MS → Option MS} {mt : MS → Out Bool} {vs : List Nat} (h : WE mi st (fun ds s0 => shOnly s0 vs = true ∧ ∃ acc s, lcL mg mt m vs ds [] (wipeM s0 vs) = .ok acc s ∧ Q (.list acc) (restM s0 s vs)) e) : WE (mLc mi mg mt m vs) st Q e := .mk <|
  w_bd (h.mono fun ds s0 h => by obtain ⟨h1, acc, s, h2, q⟩ := h; rw [if_pos h1, h2]; exact q)
/-! calls -/
theorem w_call {F : List PyData → FOut} {sp : List (Option Nat)} {ks : List AK} (h : WE al st (fun ds s => ∃ as, fillA s sp ks ds = some as ∧ WF (F as) (fun r outs => Q r (backA sp ks outs s)) (fun c fs outs => e c fs (backA sp ks outs s))) e) : WE (mCall F sp ks al) st Q e := .mk <|
  w_bd (h.mono fun ds s h => by
    obtain ⟨as, e1, q⟩ := h
    rw [e1]
    dsimp only
    have q := q.h
    generalize F as = o at q ⊢
    cases o <;> exact q)
theorem wf_of {o : FOut} {P : PyData → List PyData → Prop} {R : PyData → List PyData → Prop} {er : Str → List (Str × PyData) → List PyData → Prop} (h : ∃ r outs, o = .ok r outs ∧ P r outs) (k : ∀ r outs, P r outs → R r outs) : WF o R er := by
  obtain ⟨r, outs, rfl, p⟩ := h; exact ⟨k r outs p⟩
theorem wf_eq {o : FOut} {R : PyData → List PyData → Prop} {er : Str → List (Str × PyData) → List PyData → Prop} {r : PyData} {outs : List PyData} (h : o = .ok r outs) (k : R r outs) : WF o R er := by subst h; exact ⟨k⟩
theorem wf_er {o : FOut} {R : PyData → List PyData → Prop} {er : Str → List (Str × PyData) → List PyData → Prop} {c : Str} {fs : List (Str × PyData)} {outs : List PyData} (h : o = .err c fs outs) (k : er c fs outs) : WF o R er := by subst h; exact ⟨k⟩
/-! ### statements -/
theorem ws_seq (h : WS sa st (D.th fun s => WS sb s D)) : WS (mSeq sa sb) st D := .mk <| by
  have h := h.h
  unfold mSeq SOut.sq
  cases e : sa st <;> (rw [e] at h; first | exact WS.h h | exact h)
theorem ws_next (q : D.nx st) : WS mNext st D := .mk (q)
theorem ws_brk (q : D.bk st) : WS mBrk st D := .mk (q)
theorem ws_ct (q : D.ct st) : WS mCt st D := .mk (q)
theorem ws_if (h : WE c st (fun q s => if q = true then WS sa s D else WS sb s D) D.er) : WS (mIfS c sa sb) st D := .mk (w_bdS (h.mono fun q s h => ifwS (by cases q <;> exact WS.h h)))
theorem ws_drop (h : WE m st (fun _ s => D.nx s) D.er) : WS (mDrop m) st D := .mk (w_bdS h.h)
theorem ws_ret (h : WE m st (fun d s => D.rt d s) D.er) : WS (mRet m) st D := .mk (w_bdS h.h)
theorem ws_retN (q : D.rt .none st) : WS mRetN st D := .mk (q)
theorem ws_set (h : WE m st (fun d s => D.nx (s.set i (some (.sh d)))) D.er) : WS (mSet i m) st D := .mk (w_bdS h.h)
theorem ws_own (h : WE m st (fun d s => D.nx (s.set i (some (.ow d)))) D.er) : WS (mOwn i m) st D := .mk (w_bdS h.h)
theorem ws_tgt {mg : PyData → MS → Option MS} (h : WE m st (fun d s => ∃ s', mg d s = some s' ∧ D.nx s') D.er) : WS (mTgt mg m) st D := .mk (w_bdS (h.mono fun _ _ h => w_ofOS h))
theorem ws_aug {f : PyData → PyData → Option PyData} (h : ∃ x, st[i]? = some (some (.sh x)) ∧ WE m st (fun d s => ∃ r, f x d = some r ∧ D.nx (s.set i (some (.sh r)))) D.er) : WS (mAug f i m) st D := .mk <| by
  obtain ⟨x, h0, h⟩ := h
  unfold mAug; rw [h0]; exact w_bdS (h.mono fun _ _ h => w_ofOS h)
theorem ws_par {p q : Md} (h : WE a st (fun d s => WE b s (fun r s => D.nx ((s.set i (some (cellOf p d))).set j (some (cellOf q r)))) D.er) D.er) : WS (mPar i j p q a b) st D := .mk (w_bdS (h.mono fun _ _ h => w_bdS h.h))
theorem ws_par3 {p q r : Md} {k : Nat} {c : MS → Out PyData} (h : WE a st (fun d s => WE b s (fun r' s => WE c s (fun t s => D.nx (((s.set i (some (cellOf p d))).set j (some (cellOf q r'))).set k (some (cellOf r t)))) D.er) D.er) D.er) : WS (mPar3 i j k p q r a b c) st D := .mk (w_bdS (h.mono fun _ _ h => w_bdS (h.mono fun _ _ h => w_bdS h.h)))
theorem ws_app (h : ∃ ds0, ownL st i = some ds0 ∧ WE m st (fun d s => ∃ ds, ownL s i = some ds ∧ ds.length < LIM ∧ D.nx (putD s i (.list (ds ++ [d])))) D.er) : WS (mApp i m) st D := .mk <| by
  obtain ⟨ds0, h0, h⟩ := h
  unfold mApp; rw [h0]; exact w_bdS (h.mono fun d s h => by obtain ⟨ds, e1, l, q⟩ := h; rw [e1]; dsimp only; rw [if_pos l]; exact q)
theorem ws_ext (h : ∃ ds0, ownL st i = some ds0 ∧ WE m st (fun d s => ∃ ds es, ownL s i = some ds ∧ d = .list es ∧ ds.length + es.length ≤ LIM ∧ D.nx (putD s i (.list (ds ++ es)))) D.er) : WS (mExt i m) st D := .mk <| by
  obtain ⟨ds0, h0, h⟩ := h
  unfold mExt; rw [h0]; exact w_bdS (h.mono fun d s h => by obtain ⟨ds, es, e1, rfl, l, q⟩ := h; rw [e1]; dsimp only; rw [if_pos l]; exact q)
theorem ws_setIx (h : WE m st (fun d s => ∃ ds0, ownL s i = some ds0 ∧ WE a s (fun x s => ∃ ds k j, ownL s i = some ds ∧ x = .int k ∧ ixN ds.length k = some j ∧ D.nx (putD s i (.list (ds.set j d)))) D.er) D.er) : WS (mSetIx i a m) st D := .mk <| w_bdS (h.mono fun d s h => by
  obtain ⟨ds0, e1, h⟩ := h
  rw [e1]
  exact w_bdS (h.mono fun x s h => by obtain ⟨ds, k, j, e1, rfl, e2, q⟩ := h; rw [e1]; dsimp only; rw [e2]; exact q))
theorem ws_raise {c : Str} (q : D.er c [] st) : WS (mRaise c) st D := .mk (q)
theorem ws_for {mi : MS → Out (List PyData)} {mg : PyData → MS → Option MS} (h : WE mi st (fun ds s => WL mg sa ds s D) D.er) : WS (mFor mi mg sa) st D := .mk (w_bdS (h.mono fun _ _ h => h.h))
theorem wl_nil {mg : PyData → MS → Option MS} (q : D.nx st) : WL mg sa [] st D := ⟨q⟩
theorem wl_cons {mg : PyData → MS → Option MS} {r : List PyData} (h : ∃ s, mg d st = some s ∧ WS sa s (D.lp fun s => WL mg sa r s D)) : WL mg sa (d :: r) st D := by
  obtain ⟨s, e1, w⟩ := h
  refine ⟨?_⟩
  unfold forL
  rw [e1]
  dsimp only
  have w := w.h
  cases e : sa s <;> (rw [e] at w; first | exact WL.h w | exact w)
/-- for, by what holds ahead of each turn -/
theorem wl_for {mg : PyData → MS → Option MS} (I : List PyData → MS → Prop) {ds : List PyData} (i0 : I ds st) (h : ∀ d r st, I (d :: r) st → ∃ s, mg d st = some s ∧ WS sa s (D.lp fun s => I r s)) (he : ∀ st, I [] st → D.nx st) : WL mg sa ds st D := by
  refine ⟨?_⟩
  induction ds generalizing st with
  | nil => exact he st i0
  | cons d r ih =>
    obtain ⟨s, e1, w⟩ := h d r st i0
    unfold forL
    rw [e1]
    dsimp only
    have w := w.h
    cases e : sa s <;> (rw [e] at w; first | exact ih w | exact w)
theorem ws_while (I : Nat → MS → Prop) {n : Nat} (hn : n < 1000000000) (i0 : I n st) (h : ∀ n st, I n st → WE c st (fun q s => if q = true then WS sa s (D.lp fun s => ∃ m, m < n ∧ I m s) else D.nx s) D.er) : WS (mWhile c sa) st D := .mk <| by
  have hf : n < fuel := by rw [fuel_eq]; exact hn
  unfold mWhile
  generalize fuel = f at hf
  induction f generalizing n st with
  | zero => exact absurd hf (Nat.not_lt_zero n)
  | succ f ih =>
    unfold whileN
    refine w_bdS ((h n st i0).mono fun q s w => ifwS ?_)
    cases q with
    | false => exact w
    | true =>
      have w : WS sa s (D.lp fun s => ∃ m, m < n ∧ I m s) := w
      have w := w.h
      show (match sa s with | .nx s => whileN c sa f s | .ct s => whileN c sa f s | .brk s => .nx s | o => o).w D
      cases e : sa s with
      | nx s2 => rw [e] at w; obtain ⟨m, lt, i'⟩ := w; exact ih (by omega) i' (by omega)
      | ct s2 => rw [e] at w; obtain ⟨m, lt, i'⟩ := w; exact ih (by omega) i' (by omega)
      | brk s2 => rw [e] at w; exact w
      | ret d s2 => rw [e] at w; exact w
      | err c' fs s2 => rw [e] at w; exact w
      | bad => rw [e] at w; exact w
/-- a comprehension's turns -/
theorem wl_lc {mg : PyData → MS → Option MS} {mt : MS → Out Bool} {vs : List Nat} {R : List PyData → MS → Prop} (I : List PyData → List PyData → MS → Prop) {ds : List PyData} (i0 : I ds [] st)
    (h : ∀ d r acc st, I (d :: r) acc st → ∃ s, mg d st = some s ∧ WE mt s (fun q s => if q = true then WE m s (fun x s => acc.length < LIM ∧ I r (acc ++ [x]) (wipeM s vs)) noErr else I r acc (wipeM s vs)) noErr) (he : ∀ acc st, I [] acc st → R acc st) : ∃ acc s, lcL mg mt m vs ds [] st = .ok acc s ∧ R acc s := by
  obtain ⟨acc, s, e, i⟩ := lcL_inv (I := I) (vs := vs) (mg := mg) (mt := mt) (me := m) (fun d r acc st i => by
    obtain ⟨s, e1, w⟩ := h d r acc st i
    have w := w.h
    cases e2 : mt s with
    | ok q s2 =>
      rw [e2] at w
      refine ⟨s, q, s2, e1, e2, ?_⟩
      cases q with
      | false => exact .inl ⟨rfl, w⟩
      | true =>
        have w : WE m s2 (fun x s => acc.length < LIM ∧ I r (acc ++ [x]) (wipeM s vs)) noErr := w
        have w := w.h
        cases e3 : m s2 with
        | ok x s3 => rw [e3] at w; exact .inr ⟨rfl, x, s3, rfl, w.1, w.2⟩
        | err => rw [e3] at w; exact w.elim
        | bad => rw [e3] at w; exact w.elim
    | err => rw [e2] at w; exact w.elim
    | bad => rw [e2] at w; exact w.elim) ds [] st i0
  exact ⟨acc, s, e, he acc s i⟩
end
section
variable {st : MS} {m : MS → Out PyData} {mg : PyData → MS → Option MS} {mt : MS → Out Bool} {vs : List Nat} {R : List PyData → MS → Prop}
theorem lcL_mapA {α : Type} {h f : α → PyData} : ∀ (cs : List α) (acc : List PyData), (∀ c ∈ cs, ∃ s, mg (h c) st = some s ∧ WE m s (fun x s => x = f c ∧ wipeM s vs = st) noErr) → acc.length + cs.length ≤ LIM → lcL mg (fun st => .ok true st) m vs (cs.map h) acc st = .ok (acc ++ cs.map f) st
  | [], acc, _, _ => by simp [lcL]
  | c :: r, acc, H, l => by
    obtain ⟨s, e1, w⟩ := H c (.head _)
    rw [List.length_cons] at l
    rw [List.map_cons]
    unfold lcL
    rw [e1]
    have w := w.h
    show ((noE (m s)).bd fun e s => if acc.length < LIM then lcL mg (fun st => .ok true st) m vs (r.map h) (acc ++ [e]) (wipeM s vs) else .bad) = _
    cases e2 : m s with
    | ok x s2 =>
      rw [e2] at w
      obtain ⟨rfl, e3⟩ := w
      show (if acc.length < LIM then lcL mg (fun st => .ok true st) m vs (r.map h) (acc ++ [f c]) (wipeM s2 vs) else .bad) = _
      rw [if_pos (by omega), e3, lcL_mapA r _ (fun d m => H d (.tail _ m)) (by rw [List.length_append, List.length_singleton]; omega)]
      simp
    | err => rw [e2] at w; exact w.elim
    | bad => rw [e2] at w; exact w.elim
/-- a comprehension over what is told by cs, without a test -/
theorem wl_map {α : Type} {cs : List α} {h : α → PyData} (f : α → PyData) (H : ∀ c ∈ cs, ∃ s, mg (h c) st = some s ∧ WE m s (fun x s => x = f c ∧ wipeM s vs = st) noErr) (l : cs.length ≤ LIM) (q : R (cs.map f) st) : ∃ acc s, lcL mg (fun st => .ok true st) m vs (cs.map h) [] st = .ok acc s ∧ R acc s :=
  ⟨_, _, lcL_mapA cs [] H (by simpa using l), by simpa using q⟩
theorem lcL_pickA {α : Type} {h f : α → PyData} {p : α → Bool} : ∀ (cs : List α) (acc : List PyData), (∀ c ∈ cs, ∃ s, mg (h c) st = some s ∧ WE mt s (fun q s => q = p c ∧ if q = true then WE m s (fun x s => x = f c ∧ wipeM s vs = st) noErr else wipeM s vs = st) noErr) → acc.length + cs.length ≤ LIM → lcL mg mt m vs (cs.map h) acc st = .ok (acc ++ (cs.filter p).map f) st
  | [], acc, _, _ => by simp [lcL]
  | c :: r, acc, H, l => by
    obtain ⟨s, e1, w⟩ := H c (.head _)
    rw [List.length_cons] at l
    rw [List.map_cons]
    unfold lcL
    rw [e1]
    have w := w.h
    cases e2 : mt s with
    | ok q s2 =>
      rw [e2] at w
      dsimp only
      rw [e2]
      obtain ⟨rfl, w⟩ := w
      show (if p c = true then (noE (m s2)).bd fun e s => if acc.length < LIM then lcL mg mt m vs (r.map h) (acc ++ [e]) (wipeM s vs) else .bad else lcL mg mt m vs (r.map h) acc (wipeM s2 vs)) = _
      cases c' : p c with
      | false =>
        rw [c'] at w
        have w : wipeM s2 vs = st := w
        rw [if_neg (by decide), w, lcL_pickA r acc (fun d m => H d (.tail _ m)) (by omega), List.filter_cons_of_neg (by simp [c'])]
      | true =>
        rw [c'] at w
        have w : WE m s2 (fun x s => x = f c ∧ wipeM s vs = st) noErr := w
        have w := w.h
        rw [if_pos rfl]
        cases e3 : m s2 with
        | ok x s3 =>
          rw [e3] at w
          obtain ⟨rfl, e4⟩ := w
          show (if acc.length < LIM then lcL mg mt m vs (r.map h) (acc ++ [f c]) (wipeM s3 vs) else .bad) = _
          rw [if_pos (by omega), e4, lcL_pickA r _ (fun d m => H d (.tail _ m)) (by rw [List.length_append, List.length_singleton]; omega), List.filter_cons_of_pos (by simp [c'])]
          simp
        | err => rw [e3] at w; exact w.elim
        | bad => rw [e3] at w; exact w.elim
    | err => rw [e2] at w; exact w.elim
    | bad => rw [e2] at w; exact w.elim
theorem wl_pick {α : Type} {cs : List α} {h : α → PyData} (p : α → Bool) (f : α → PyData) (H : ∀ c ∈ cs, ∃ s, mg (h c) st = some s ∧ WE mt s (fun q s => q = p c ∧ if q = true then WE m s (fun x s => x = f c ∧ wipeM s vs = st) noErr else wipeM s vs = st) noErr) (l : cs.length ≤ LIM) (q : R ((cs.filter p).map f) st) : ∃ acc s, lcL mg mt m vs (cs.map h) [] st = .ok acc s ∧ R acc s :=
  ⟨_, _, lcL_pickA cs [] H (by simpa using l), by simpa using q⟩
theorem wl_mapI {cs : List PyData} (f : PyData → PyData) (H : ∀ c ∈ cs, ∃ s, mg c st = some s ∧ WE m s (fun x s => x = f c ∧ wipeM s vs = st) noErr) (l : cs.length ≤ LIM) (q : R (cs.map f) st) : ∃ acc s, lcL mg (fun st => .ok true st) m vs cs [] st = .ok acc s ∧ R acc s := by
  have := wl_map (R := R) (cs := cs) (h := id) f H l q
  rwa [List.map_id] at this
theorem wl_pickI {cs : List PyData} (p : PyData → Bool) (f : PyData → PyData) (H : ∀ c ∈ cs, ∃ s, mg c st = some s ∧ WE mt s (fun q s => q = p c ∧ if q = true then WE m s (fun x s => x = f c ∧ wipeM s vs = st) noErr else wipeM s vs = st) noErr) (l : cs.length ≤ LIM) (q : R ((cs.filter p).map f) st) : ∃ acc s, lcL mg mt m vs cs [] st = .ok acc s ∧ R acc s := by
  have := wl_pick (R := R) (cs := cs) (h := id) p f H l q
  rwa [List.map_id] at this
theorem allD_map {α : Type} (g : α → Bool) : ∀ cs : List α, boolsD (cs.map fun c => .bool (g c)) = some (cs.map g)
  | [] => rfl
  | c :: r => by show (boolsD (r.map fun c => .bool (g c))).map (g c :: ·) = _; rw [allD_map g r]; rfl
theorem allD_of {α : Type} (g : α → Bool) (cs : List α) : allD (.list (cs.map fun c => .bool (g c))) = some (.bool (cs.all g)) := by
  show (boolsD (cs.map fun c => .bool (g c))).map (fun bs => PyData.bool (bs.all id)) = _
  rw [allD_map]
  simp
theorem anyD_of {α : Type} (g : α → Bool) (cs : List α) : anyD (.list (cs.map fun c => .bool (g c))) = some (.bool (cs.any g)) := by
  show (boolsD (cs.map fun c => .bool (g c))).map (fun bs => PyData.bool (bs.any id)) = _
  rw [allD_map]
  simp
end
theorem isi_str {d : PyData} : isiD "str" d = some (.bool (isStrD d)) := by cases d <;> rfl
theorem isi_tup {d : PyData} : isiD "tuple" d = some (.bool (isTupD d)) := by cases d <;> rfl
def chS (c : Nat) : Str := ⟨#[c]⟩
theorem str_len {z : Str} : z.length = z.cps.toList.length := by simp [Str.length]
theorem ixS {z : Str} {k : Int} (h : z.length ≤ LIM) (h0 : 0 ≤ k) (h2 : k < z.length) : ixD (.str z) (.int k) = some (.str (chS (z.cps.toList.getD k.toNat 0))) := by
  show (if z.length ≤ LIM then (atI z.cps.toList k).map fun c => PyData.str ⟨#[c]⟩ else none) = _
  have hj : k.toNat < z.cps.toList.length := by rw [← str_len]; omega
  rw [if_pos h, atI_at h0 (List.getElem?_eq_getElem hj), List.getD_eq_getElem?_getD, List.getElem?_eq_getElem hj]
  rfl
theorem small_nat {n : Nat} (h : n ≤ LIM) : small (n : Int) = true := by
  unfold small LIM at *
  rw [decide_eq_true (by omega), decide_eq_true (by omega)]; rfl
theorem sm_nat {n : Nat} (h : n ≤ LIM) : Sm (n : Int) := ⟨small_nat h⟩
theorem small_in {i : Int} (h : -1000000000 ≤ i) (h2 : i ≤ 1000000000) : small i = true := by
  unfold small
  rw [decide_eq_true (by omega), decide_eq_true (by omega)]; rfl
theorem sm_in {i : Int} (h : -1000000000 ≤ i) (h2 : i ≤ 1000000000) : Sm i := ⟨small_in h h2⟩
theorem rngB_map {lo hi : Int} : rngB lo hi = (List.range (hi - lo).toNat).map fun i => .int (lo + (i : Nat)) := rfl
theorem atI_0 {α : Type} {x : α} {r : List α} : atI (x :: r) 0 = some x := atI_nat (xs := x :: r) (j := 0) rfl
theorem atI_1 {α : Type} {x y : α} {r : List α} : atI (x :: y :: r) 1 = some y := atI_nat (xs := x :: y :: r) (j := 1) rfl
theorem eqv_int {i j : Int} : PyData.eqv (.int i) (.int j) = decide (i = j) := by
  simp [PyData.eqv]
  exact Bool.beq_eq_decide_eq i j
theorem eqD_int {i j : Int} : eqD (.int i) (.int j) = some (.bool (decide (i = j))) := by
  show some (PyData.bool (PyData.eqv (.int i) (.int j))) = _
  rw [eqv_int]
theorem neD_int {i j : Int} : neD (.int i) (.int j) = some (.bool (!decide (i = j))) := by
  show some (PyData.bool (!PyData.eqv (.int i) (.int j))) = _
  rw [eqv_int]
theorem big_no {i : Int} (h : -(2 ^ 64) < i) (h2 : i < 2 ^ 64) : MV.big i = false := by
  unfold MV.big
  rw [decide_eq_true h, decide_eq_true h2]; rfl
theorem mul_l {i j : Int} (h : MV.big i = false) : mulD (.int i) (.int j) = some (.int (i * j)) := by
  show (if MV.big i = true ∧ MV.big j = true then none else some (PyData.int (i * j))) = _
  rw [if_neg (by rw [h]; simp)]
theorem mul_r {i j : Int} (h : MV.big j = false) : mulD (.int i) (.int j) = some (.int (i * j)) := by
  show (if MV.big i = true ∧ MV.big j = true then none else some (PyData.int (i * j))) = _
  rw [if_neg (by rw [h]; simp)]
theorem last_ex {α : Type} {xs : List α} (h : xs ≠ []) : ∃ r x, xs = r ++ [x] := ⟨xs.dropLast, xs.getLast h, (List.dropLast_concat_getLast h).symm⟩
theorem ints_lay : ∀ xs : List Int, PyData.canLayAll0 (xs.map .int) = true ∧ PyData.depthAll (xs.map .int) ≤ 1
  | [] => ⟨rfl, by simp [PyData.depthAll]⟩
  | x :: r => by
    obtain ⟨h1, h2⟩ := ints_lay r
    refine ⟨?_, ?_⟩
    · rw [List.map_cons]; simp [PyData.canLayAll0, PyData.canLay0, h1]
    · rw [List.map_cons]; simp [PyData.depthAll, PyData.depth]; omega
theorem shaped_ints (xs : List Int) : SeqAt.shaped (.list (xs.map .int)) = true := by
  obtain ⟨h1, h2⟩ := ints_lay xs
  unfold SeqAt.shaped
  rw [show PyData.canLay0 (.list (xs.map .int)) = true by simp [PyData.canLay0, h1], decide_eq_true (by simp [PyData.depth]; omega)]
  rfl
theorem ne_nil_ints {xs : List Int} : neD (.list (xs.map .int)) (.list []) = some (.bool (!xs.isEmpty)) := by
  unfold neD eqOk
  rw [shaped_ints, show SeqAt.shaped (.list []) = true from shaped_ints [], Bool.and_true, Bool.or_true, if_pos rfl]
  cases xs with
  | nil => rfl
  | cons x r => simp [PyData.eqv, PyData.eqvAll]
theorem maxI_of {x : Int} {r : List Int} {m : Int} (h : ∀ y ∈ x :: r, y ≤ m) (hm : m ∈ x :: r) : maxI x r = m := Int.le_antisymm (h _ (maxI_mem r x)) (maxI_le r x m hm)
theorem ixN_last {n : Nat} (h : 0 < n) : ixN n (-1) = some (n - 1) := by
  unfold ixN
  rw [if_neg (by decide), if_pos (by omega)]
  have : (-1 + (n : Int)).toNat = n - 1 := by omega
  rw [this]
theorem atI_lastA {α : Type} {xs : List α} {x : α} : atI (xs ++ [x]) (-1) = some x := by
  rw [atI_last (by simp)]; simp
theorem set_last {α : Type} {xs : List α} {x y : α} : (xs ++ [x]).set ((xs ++ [x]).length - 1) y = xs ++ [y] := by
  simp
theorem ex_rep {xs : List PyData} {n : Nat} {Q : PyData → Prop} (h : n ≤ LIM ∧ xs.length * n ≤ LIM ∧ Q (.list (List.replicate n xs).flatten)) : ∃ d, repD (.list xs) (.int (n : Int)) = some d ∧ Q d := by
  obtain ⟨h0, h, q⟩ := h
  refine ⟨.list (List.replicate n xs).flatten, ?_, q⟩
  have e : repD (.list xs) (.int (n : Int)) = if -(2 ^ 63) ≤ (n : Int) ∧ (n : Int) < 2 ^ 63 ∧ xs.length * (n : Int).toNat ≤ LIM then some (.list (List.replicate (n : Int).toNat xs).flatten) else none := by simp only [repD]
  unfold LIM at h0
  rw [e, Int.toNat_natCast, if_pos ⟨by omega, by omega, h⟩]
/-- a def by its body -/
theorem wf_run {n : Nat} {ks : List AK} {rk : Bool} {ms : MSt} {ds : List PyData} {R : PyData → List PyData → Prop} {er : Str → List (Str × PyData) → List PyData → Prop}
    (h : WS ms (initM n ks ds) (fnE rk ks R er)) : WF (runF n ks rk ms ds) R er := by
  have h := h.h
  refine ⟨?_⟩
  unfold runF
  cases e : ms (initM n ks ds) with
  | nx s => rw [e] at h; obtain ⟨h1, h2⟩ := h; subst h1; exact h2
  | ret d s => rw [e] at h; exact h
  | err c fs s => rw [e] at h; exact h
  | brk s => rw [e] at h; exact h
  | ct s => rw [e] at h; exact h
  | bad => rw [e] at h; exact h
theorem WF.mono {o : FOut} {R R' : PyData → List PyData → Prop} {er er' : Str → List (Str × PyData) → List PyData → Prop} (h : WF o R er) (k : ∀ r outs, R r outs → R' r outs) (k2 : ∀ c fs outs, er c fs outs → er' c fs outs) : WF o R' er' := by
  have h := h.h
  refine ⟨?_⟩
  cases o with
  | ok => exact k _ _ h
  | err => exact k2 _ _ _ h
  | bad => exact h
/-- a def that raises nothing -/
abbrev WFo (o : FOut) (R : PyData → List PyData → Prop) : Prop := WF o R fun _ _ _ => False
theorem WF.use {o : FOut} {R R' : PyData → List PyData → Prop} {er : Str → List (Str × PyData) → List PyData → Prop} (h : WFo o R) (k : ∀ r outs, R r outs → R' r outs) : WF o R' er := h.mono k fun _ _ _ h => h.elim
/-- an answer that leaves nothing changed -/
structure Ans (o : FOut) (r : PyData) : Prop where
  w : WFo o fun r' outs => r' = r ∧ outs = []
theorem Ans.use {o : FOut} {r : PyData} {R : PyData → List PyData → Prop} {er : Str → List (Str × PyData) → List PyData → Prop} (h : Ans o r) (k : R r []) : WF o R er := WF.use h.w fun r' outs e => by obtain ⟨rfl, rfl⟩ := e; exact k
theorem isTrue_of {o : FOut} (h : WFo o fun r _ => r = .bool true) : IsTrue o := by
  have h := h.h
  cases o with
  | ok r outs => exact ⟨outs, by rw [show r = _ from h]⟩
  | err => exact h.elim
  | bad => exact h.elim
end MV

set_option Elab.async false
set_option linter.all false
set_option maxRecDepth 100000
set_option maxHeartbeats 2000000
/-! VY: loops over ranges, told by numbers. -/
namespace MV
open PySem PySem.Spec PyProof.Rows L2 FR
theorem rng0 {n : Nat} : rngB 0 (n : Int) = (List.range n).map fun i => .int (i : Nat) := by
  rw [rngB_map]
  have e : ((n : Int) - 0).toNat = n := by omega
  rw [e]
  refine List.map_congr_left fun i _ => ?_
  rw [Int.zero_add]
theorem rng2 {k n : Nat} : rngB (k : Int) (n : Int) = (List.range' k (n - k)).map fun i => .int (i : Nat) := by
  rw [rngB_map, List.range'_eq_map_range, List.map_map]
  have e : ((n : Int) - k).toNat = n - k := by omega
  rw [e]
  rfl
section
variable {D : EndM} {st : MS} {sa : MSt} {mg : PyData → MS → Option MS}
/-- for, over things told by f, by what holds ahead of the i-th turn -/
theorem wl_seq {α : Type} {f : α → PyData} (I : Nat → MS → Prop) {cs : List α} (i0 : I 0 st) (h : ∀ i c st, cs[i]? = some c → I i st → ∃ s, mg (f c) st = some s ∧ WS sa s (D.lp fun s => I (i + 1) s)) (he : ∀ st, I cs.length st → D.nx st) : WL mg sa (cs.map f) st D := by
  refine wl_for (fun r st => ∃ i, i ≤ cs.length ∧ r = (cs.drop i).map f ∧ I i st) ⟨0, Nat.zero_le _, by rw [List.drop_zero], i0⟩ ?_ ?_
  · intro d r st ⟨i, hi, e, hI⟩
    rcases Nat.lt_or_ge i cs.length with lt | ge
    · rw [List.drop_eq_getElem_cons lt, List.map_cons] at e
      injection e with e1 e2
      subst e1 e2
      obtain ⟨s, e1, w⟩ := h i _ st (List.getElem?_eq_getElem lt) hI
      refine ⟨s, e1, ⟨?_⟩⟩
      have w := w.h
      cases e3 : sa s with
      | nx s2 => rw [e3] at w; exact ⟨i + 1, lt, rfl, w⟩
      | ct s2 => rw [e3] at w; exact ⟨i + 1, lt, rfl, w⟩
      | brk s2 => rw [e3] at w; exact w
      | ret d s2 => rw [e3] at w; exact w
      | err c' fs s2 => rw [e3] at w; exact w
      | bad => rw [e3] at w; exact w
    · rw [List.drop_eq_nil_of_le ge] at e; cases e
  · intro st ⟨i, hi, e, hI⟩
    rcases Nat.lt_or_ge i cs.length with lt | ge
    · rw [List.drop_eq_getElem_cons lt] at e; cases e
    · exact he st (by rw [show cs.length = i by omega]; exact hI)
/-- for, over the numbers below n -/
theorem wl_range {n : Nat} (I : Nat → MS → Prop) (i0 : I 0 st) (h : ∀ i st, i < n → I i st → ∃ s, mg (.int (i : Nat)) st = some s ∧ WS sa s (D.lp fun s => I (i + 1) s)) (he : ∀ st, I n st → D.nx st) : WL mg sa (rngB 0 (n : Int)) st D := by
  rw [rng0]
  refine wl_seq I i0 (fun i c st e hI => ?_) (by rw [List.length_range]; exact he)
  obtain ⟨lt, e⟩ := List.getElem?_eq_some_iff.mp e
  rw [List.getElem_range] at e
  subst e
  exact h i st (by rwa [List.length_range] at lt) hI
end
section
variable {st : MS} {m : MS → Out PyData} {mg : PyData → MS → Option MS} {vs : List Nat} {R : List PyData → MS → Prop}
/-- a comprehension that draws: over things told by f, without a test -/
theorem wl_lcSeq {α : Type} {f : α → PyData} (I : Nat → List PyData → MS → Prop) {cs : List α} (i0 : I 0 [] st)
    (h : ∀ i c acc st, cs[i]? = some c → I i acc st → ∃ s, mg (f c) st = some s ∧ WE m s (fun x s => acc.length < LIM ∧ I (i + 1) (acc ++ [x]) (wipeM s vs)) noErr) (he : ∀ acc st, I cs.length acc st → R acc st) : ∃ acc s, lcL mg (fun st => .ok true st) m vs (cs.map f) [] st = .ok acc s ∧ R acc s := by
  refine wl_lc (fun r acc st => ∃ i, i ≤ cs.length ∧ r = (cs.drop i).map f ∧ I i acc st) ⟨0, Nat.zero_le _, by rw [List.drop_zero], i0⟩ ?_ ?_
  · intro d r acc st ⟨i, hi, e, hI⟩
    rcases Nat.lt_or_ge i cs.length with lt | ge
    · rw [List.drop_eq_getElem_cons lt, List.map_cons] at e
      injection e with e1 e2
      subst e1 e2
      obtain ⟨s, e1, w⟩ := h i _ acc st (List.getElem?_eq_getElem lt) hI
      have z : WE m s (fun x s => acc.length < LIM ∧ ∃ j, j ≤ cs.length ∧ (cs.drop (i + 1)).map f = (cs.drop j).map f ∧ I j (acc ++ [x]) (wipeM s vs)) noErr := by
        refine ⟨?_⟩
        have w := w.h
        cases e3 : m s with
        | ok x s2 => rw [e3] at w; exact ⟨w.1, i + 1, lt, rfl, w.2⟩
        | err => rw [e3] at w; exact w
        | bad => rw [e3] at w; exact w
      exact ⟨s, e1, ⟨z⟩⟩
    · rw [List.drop_eq_nil_of_le ge] at e; cases e
  · intro acc st ⟨i, hi, e, hI⟩
    rcases Nat.lt_or_ge i cs.length with lt | ge
    · rw [List.drop_eq_getElem_cons lt] at e; cases e
    · exact he acc st (by rw [show cs.length = i by omega]; exact hI)
theorem wl_lcRange {n : Nat} (I : Nat → List PyData → MS → Prop) (i0 : I 0 [] st)
    (h : ∀ i acc st, i < n → I i acc st → ∃ s, mg (.int (i : Nat)) st = some s ∧ WE m s (fun x s => acc.length < LIM ∧ I (i + 1) (acc ++ [x]) (wipeM s vs)) noErr) (he : ∀ acc st, I n acc st → R acc st) : ∃ acc s, lcL mg (fun st => .ok true st) m vs (rngB 0 (n : Int)) [] st = .ok acc s ∧ R acc s := by
  rw [rng0]
  refine wl_lcSeq I i0 (fun i c acc st e hI => ?_) (by rw [List.length_range]; exact he)
  obtain ⟨lt, e⟩ := List.getElem?_eq_some_iff.mp e
  rw [List.getElem_range] at e
  subst e
  exact h i acc st (by rwa [List.length_range] at lt) hI
end
/-- a list in parts -/
theorem split_at {α : Type} {xs : List α} {i : Nat} (h : i < xs.length) : ∃ A x B, xs = A ++ x :: B ∧ A.length = i :=
  ⟨xs.take i, xs[i], xs.drop (i + 1), by rw [← List.drop_eq_getElem_cons h, List.take_append_drop], by rw [List.length_take]; omega⟩
theorem atI_mid {α : Type} {A B : List α} {x : α} {i : Nat} (h : A.length = i) : atI (A ++ x :: B) (i : Int) = some x := atI_nat (by rw [List.getElem?_append_right (by omega), h, Nat.sub_self]; rfl)
theorem ixN_at {n j : Nat} (h : j < n) : ixN n (j : Int) = some j := by
  unfold ixN
  rw [if_pos (by omega), if_pos (by omega)]
  rfl
theorem set_mid {α : Type} {A B : List α} {x z : α} {i : Nat} (h : A.length = i) : (A ++ x :: B).set i z = A ++ z :: B := by
  subst h; simp
theorem small_sum {xs : List Nat} {x : Nat} (h : x ∈ xs) : x ≤ xs.sum := by
  induction xs with
  | nil => cases h
  | cons y r ih =>
    rw [List.sum_cons]
    rcases List.mem_cons.mp h with rfl | h
    · omega
    · have := ih h; omega
end MV

set_option Elab.async false
set_option linter.all false
set_option maxRecDepth 100000
set_option maxHeartbeats 2000000
/-! VN: dicts of one's own: flat keys, tuples of flat keys. -/
namespace MV
open PySem PySem.Spec PyProof.Rows L2 FR
def keysB : List PyData → Option (List Key)
  | [] => some []
  | d :: r => (keyB d).bind fun k => (keysB r).map (k :: ·)
theorem keysB_ex : ∀ {ds : List PyData} {ks : List Key}, keysB ds = some ks → ds = ks.map keyD
  | [], ks, h => by cases h; rfl
  | d :: r, ks, h => by
    unfold keysB at h
    cases e : keyB d with
    | none => rw [e] at h; cases h
    | some k =>
      rw [e] at h
      cases e2 : keysB r with
      | none => rw [e2] at h; cases h
      | some kr =>
        rw [e2] at h
        cases h
        rw [keyB_ex e, keysB_ex e2]; rfl
theorem keyB_D (k : Key) : keyB (keyD k) = some k := by cases k <;> rfl
theorem keysB_D : ∀ ks : List Key, keysB (ks.map keyD) = some ks
  | [] => rfl
  | k :: r => by
    show (keyB (keyD k)).bind (fun k => (keysB (r.map keyD)).map (k :: ·)) = _
    rw [keyB_D, keysB_D r]; rfl
theorem keys_eqv : ∀ (a b : List Key), PyData.eqvAll (a.map keyD) (b.map keyD) = decide (a = b)
  | [], [] => by simp [PyData.eqvAll]
  | [], _ :: _ => by simp [PyData.eqvAll]
  | _ :: _, [] => by simp [PyData.eqvAll]
  | x :: a, y :: b => by
    show (PyData.eqv (keyD x) (keyD y) && PyData.eqvAll (a.map keyD) (b.map keyD)) = _
    rw [key_eqv, keys_eqv a b]
    by_cases h : x = y
    · subst h; by_cases h2 : a = b
      · subst h2; simp
      · simp [h2]
    · simp [h]
theorem tkey_eqv (a b : List Key) : PyData.eqv (.tuple (a.map keyD)) (.tuple (b.map keyD)) = decide (a = b) := by
  show PyData.eqvAll _ _ = _
  exact keys_eqv a b
/-- whether its keys are tuples; its pairs -/
def dParts : PyData → Option (Bool × List (PyData × PyData))
  | .dict ((.none, .none) :: ks) => some (true, ks)
  | .dict ks => some (false, ks)
  | _ => none
def keyOk (t : Bool) (k : PyData) : Bool := match t, k with
  | true, .tuple ds => (keysB ds).isSome
  | true, _ => false
  | false, k => (keyB k).isSome
def mkD (t : Bool) (ks : List (PyData × PyData)) : PyData := match t with
  | true => .dict ((.none, .none) :: ks)
  | false => .dict ks
/-- in its place, or at the end -/
def putL (ks : List (PyData × PyData)) (k v : PyData) : List (PyData × PyData) := if (ks.any fun q => PyData.eqv q.1 k) = true then ks.map (fun q => if PyData.eqv q.1 k = true then (q.1, v) else q) else ks ++ [(k, v)]
def dGetD (d k : PyData) : Option PyData := (dParts d).bind fun p => if keyOk p.1 k = true then lkD p.2 k else none
def dInD (k d : PyData) : Option PyData := (dParts d).bind fun p => if keyOk p.1 k = true then some (.bool (lkD p.2 k).isSome) else none
def dNinD (k d : PyData) : Option PyData := (dParts d).bind fun p => if keyOk p.1 k = true then some (.bool (!(lkD p.2 k).isSome)) else none
def dPutD (d k v : PyData) : Option PyData := (dParts d).bind fun p => if keyOk p.1 k = true ∧ p.2.length < LIM then some (mkD p.1 (putL p.2 k v)) else none
def dOrD (d k z : PyData) : Option PyData := (dParts d).bind fun p => if keyOk p.1 k = true then some ((lkD p.2 k).getD z) else none
/-- list(d) of flat keys -/
def dListD (d : PyData) : Option PyData := (dParts d).bind fun p => if p.1 = false then some (.list (p.2.map (·.1))) else none
def dLenD (d : PyData) : Option PyData := (dParts d).bind fun p => if p.1 = false then some (.int p.2.length) else none
section
variable {K : PySem.W.Frag} {C : Ct} {S : List Addr} {H : Hp} {a : Addr}
theorem dvs_nil {r : List PyData} (h : Dvs K S H r []) : r = [] := by
  cases r with
  | nil => rfl
  | cons d r => obtain ⟨v, ws, e, _⟩ := h; cases e
theorem dv_non {d : PyData} (h : Dv K S H d .non) : d = .none := by
  cases d with
  | none => rfl
  | bool b => cases h
  | int i => cases h
  | str z => cases h
  | list ds => obtain ⟨a, vs, e, _⟩ := h; cases e
  | tuple ds => obtain ⟨a, vs, e, _⟩ := h; cases e
  | dict ds => obtain ⟨a, vs, e, _⟩ := h; cases e
/-- the two kinds -/
theorem dic_kinds {ks : List (PyData × PyData)} {vs : List (PyData × V)} (g : DicAt H a vs) (r : Dks K S H ks vs) :
    (∃ kk : List (Key × V), H a = some (.dK kk) ∧ vs = kk.map (fun p => (keyD p.1, p.2)) ∧ dParts (.dict ks) = some (false, ks)) ∨
    ∃ (kk : List (List Key × V)) (rs : List (PyData × PyData)), H a = some (.dT kk) ∧ ks = (.none, .none) :: rs ∧ Dks K S H rs (kk.map fun p => (.tuple (p.1.map keyD), p.2)) := by
  rcases g with ⟨kk, h, e⟩ | ⟨kk, h, e⟩
  · refine .inl ⟨kk, h, e.symm, ?_⟩
    subst e
    cases ks with
    | nil => rfl
    | cons q rs =>
      obtain ⟨x, d⟩ := q
      cases kk with
      | nil => obtain ⟨v, ws, e, _⟩ := r; cases e
      | cons p kk =>
        obtain ⟨v, ws, e, _⟩ := r
        injection e with e _
        injection e with e _
        subst e
        obtain ⟨k, v⟩ := p
        cases k <;> rfl
  · subst e
    cases ks with
    | nil => cases r
    | cons q rs =>
      obtain ⟨x, d⟩ := q
      obtain ⟨v, ws, e, h1, h2⟩ := r
      injection e with e e2
      injection e with e e3
      subst e e2 e3
      have := dv_non h1
      subst this
      exact .inr ⟨kk, rs, h, rfl, h2⟩
theorem lk_dT {k : List Key} : ∀ {ds : List (PyData × PyData)} {ks : List (List Key × V)}, Dks K S H ds (ks.map fun p => (.tuple (p.1.map keyD), p.2)) → (∃ e v, lkD ds (.tuple (k.map keyD)) = some e ∧ valV ks k = some v ∧ Dv K S H e v) ∨ (lkD ds (.tuple (k.map keyD)) = none ∧ valV ks k = none)
  | [], ks, h => by
    cases ks with
    | nil => exact .inr ⟨rfl, rfl⟩
    | cons => cases h
  | (x, d) :: r, [], ⟨v, ws, e, _⟩ => by cases e
  | (x, d) :: r, p :: ks, ⟨v, ws, e, h1, h2⟩ => by
    injection e with e1 e2
    injection e1 with e1 e3
    subst e1 e2 e3
    unfold lkD
    rw [List.find?_cons, show PyData.eqv (.tuple (p.1.map keyD)) (.tuple (k.map keyD)) = decide (p.1 = k) from tkey_eqv _ _]
    by_cases c : p.1 = k
    · rw [decide_eq_true c]
      exact .inl ⟨d, p.2, rfl, valV_pos c, h1⟩
    · rw [decide_eq_false c, valV_neg c]
      exact lk_dT h2
section
variable {κ : Type} [DecidableEq κ] {f : κ → PyData}
theorem any_put (hf : ∀ x y : κ, PyData.eqv (f x) (f y) = decide (x = y)) {k : κ} : ∀ {ds : List (PyData × PyData)} {ks : List (κ × V)}, Dks K S H ds (ks.map fun p => (f p.1, p.2)) → (ds.any fun q => PyData.eqv q.1 (f k)) = (ks.any fun q => decide (q.1 = k))
  | [], ks, h => by
    cases ks with
    | nil => rfl
    | cons => cases h
  | (x, d) :: r, [], ⟨v, ws, e, _⟩ => by cases e
  | (x, d) :: r, p :: ks, ⟨v, ws, e, h1, h2⟩ => by
    injection e with e1 e2
    injection e1 with e1 e3
    subst e1 e2 e3
    rw [List.any_cons, List.any_cons, any_put hf h2]
    show (PyData.eqv (f p.1) (f k) || _) = _
    rw [hf]
theorem map_put (hf : ∀ x y : κ, PyData.eqv (f x) (f y) = decide (x = y)) {k : κ} {d : PyData} {v : V} (hv : Dv K S H d v) : ∀ {ds : List (PyData × PyData)} {ks : List (κ × V)}, Dks K S H ds (ks.map fun p => (f p.1, p.2)) →
    Dks K S H (ds.map fun q => if PyData.eqv q.1 (f k) = true then (q.1, d) else q) ((ks.map fun kv => if kv.1 = k then (kv.1, v) else kv).map fun p => (f p.1, p.2))
  | [], ks, h => by
    cases ks with
    | nil => exact rfl
    | cons => cases h
  | (x, e0) :: r, [], ⟨v, ws, e, _⟩ => by cases e
  | (x, e0) :: r, p :: ks, ⟨u, ws, e, h1, h2⟩ => by
    injection e with e1 e2
    injection e1 with e1 e3
    subst e1 e2 e3
    have ih := map_put (k := k) hf hv h2
    rw [List.map_cons, List.map_cons, List.map_cons]
    show Dks K S H ((if PyData.eqv (f p.1) (f k) = true then (f p.1, d) else (f p.1, e0)) :: _) _
    rw [hf]
    by_cases c : p.1 = k
    · rw [decide_eq_true c, if_pos rfl, if_pos c]; exact ⟨v, _, rfl, hv, ih⟩
    · rw [decide_eq_false c, if_neg Bool.false_ne_true, if_neg c]; exact ⟨p.2, _, rfl, h1, ih⟩
theorem dks_snoc {k : PyData} {d : PyData} {v : V} (hv : Dv K S H d v) : ∀ {ds : List (PyData × PyData)} {vs : List (PyData × V)}, Dks K S H ds vs → Dks K S H (ds ++ [(k, d)]) (vs ++ [(k, v)])
  | [], vs, h => by cases h; exact ⟨v, [], rfl, hv, rfl⟩
  | (x, e0) :: r, _, ⟨u, ws, e, h1, h2⟩ => by subst e; exact ⟨u, _, rfl, h1, dks_snoc hv h2⟩
theorem put_dks (hf : ∀ x y : κ, PyData.eqv (f x) (f y) = decide (x = y)) {k : κ} {d : PyData} {v : V} (hv : Dv K S H d v) {ds : List (PyData × PyData)} {ks : List (κ × V)} (h : Dks K S H ds (ks.map fun p => (f p.1, p.2))) :
    Dks K S H (putL ds (f k) d) ((putK ks k v).map fun p => (f p.1, p.2)) := by
  unfold putL putK
  rw [any_put hf h]
  by_cases c : (ks.any fun kv => decide (kv.1 = k)) = true
  · rw [if_pos c, if_pos c]; exact map_put hf hv h
  · rw [if_neg c, if_neg c, List.map_append]; exact dks_snoc hv h
end
theorem putL_len {ks : List (PyData × PyData)} {k v : PyData} : (putL ks k v).length ≤ ks.length + 1 := by
  unfold putL
  split
  · rw [List.length_map]; omega
  · rw [List.length_append]; exact Nat.le_refl _
theorem key_kV {k : Key} {v : V} (h : Dv K S H (keyD k) v) : v = kV k := by cases k <;> exact h
theorem bov_key {k : Key} {v : V} (h : BoV K S H (keyD k) v) : v = kV k := by
  cases k with
  | inl i => exact h.int
  | inr z => exact h.str
theorem keys_kV : ∀ {ks : List Key} {vs : List V}, Dvs K S H (ks.map keyD) vs → vs = ks.map kV
  | [], vs, h => h
  | k :: r, _, ⟨v, ws, e, h1, h2⟩ => by rw [e, key_kV h1, keys_kV h2]; rfl
/-- a look at d for k is due -/
theorem dget_at {d k : PyData} {x y : V} (bx : BoV K S H d x) (by' : (∃ kk, k = keyD kk ∧ y = kV kk) ∨ ∃ (ks : List Key) (b : Addr), k = .tuple (ks.map keyD) ∧ y = .ref b ∧ H b = some (.tup (ks.map kV))) {p : Bool × List (PyData × PyData)} (hp : dParts d = some p) (ok : keyOk p.1 k = true) :
    ∃ a o, x = .ref a ∧ DGet H a y o ∧ IsD H a ∧ ((o = none ∧ lkD p.2 k = none) ∨ ∃ v e, o = some v ∧ lkD p.2 k = some e ∧ Dv K S H e v) := by
  cases d <;> try (cases hp; done)
  rename_i ks
  obtain ⟨a, vs, e, g, r⟩ := bx.dic
  refine ⟨a, ?_⟩
  rcases dic_kinds g r with ⟨kk, h, ev, e2⟩ | ⟨kk, rs, h, e2, r2⟩
  · rw [e2] at hp
    cases hp
    subst ev
    rcases by' with ⟨k0, rfl, rfl⟩ | ⟨k0, b, rfl, rfl, _⟩
    · rcases lk_dK (k := k0) r with ⟨e', v, l1, l2, l3⟩ | ⟨l1, l2⟩
      · exact ⟨some v, e, .inl ⟨kk, k0, .inl h, rfl, l2.symm⟩, .inl ⟨kk, .inl h⟩, .inr ⟨v, e', rfl, l1, l3⟩⟩
      · exact ⟨none, e, .inl ⟨kk, k0, .inl h, rfl, l2.symm⟩, .inl ⟨kk, .inl h⟩, .inl ⟨rfl, l1⟩⟩
    · cases ok
  · subst e2
    cases hp
    rcases by' with ⟨k0, rfl, rfl⟩ | ⟨k0, b, rfl, rfl, hb⟩
    · cases k0 <;> cases ok
    · rcases lk_dT (k := k0) r2 with ⟨e', v, l1, l2, l3⟩ | ⟨l1, l2⟩
      · exact ⟨some v, e, .inr ⟨kk, k0, b, .inl h, rfl, hb, l2.symm⟩, .inr ⟨kk, .inl h⟩, .inr ⟨v, e', rfl, l1, l3⟩⟩
      · exact ⟨none, e, .inr ⟨kk, k0, b, .inl h, rfl, hb, l2.symm⟩, .inr ⟨kk, .inl h⟩, .inl ⟨rfl, l1⟩⟩
end
/-! ### flat keys -/
section
variable {K : PySem.W.Frag} {C : Ct}
def flatK : PyData → Bool
  | .int _ | .str _ => true
  | _ => false
theorem flat_ex {k : PyData} (h : flatK k = true) : ∃ kk, k = keyD kk := by
  cases k <;> first | (cases h; done) | skip
  · rename_i i; exact ⟨.inl i, rfl⟩
  · rename_i z; exact ⟨.inr z, rfl⟩
def kOnly (f : PyData → PyData → Option PyData) (d k : PyData) : Option PyData := if flatK k = true then f d k else none
abbrev rDG : R2 := fun x y H Q => ∃ a v, x = .ref a ∧ DGet H a y (some v) ∧ Q v H
abbrev rDI : R2 := fun y x H Q => ∃ a o, x = .ref a ∧ DGet H a y o ∧ Q (.bl o.isSome) H
abbrev rDNI : R2 := fun y x H Q => ∃ a o, x = .ref a ∧ DGet H a y o ∧ Q (.bl (!o.isSome)) H
theorem post_bind {E : WX} {y : Dy} {G : List (PyData × V)} {W : List (PyData × Addr)} {σ : L2.St} {st : MS} {md : Md} {Q : VK} {α : Type} {o : Option α} {f : α → Option PyData} (h : Post K C E y G W σ md (ofO (o.bind f) st) Q) : ∃ a, o = some a ∧ Post K C E y G W σ md (ofO (f a) st) Q := by
  cases o with
  | none => exact (ofO_none h).elim
  | some a => exact ⟨a, rfl, h⟩
theorem post_if' {E : WX} {y : Dy} {G : List (PyData × V)} {W : List (PyData × Addr)} {σ : L2.St} {st : MS} {md : Md} {Q : VK} {c : Prop} [Decidable c] {o : Option PyData} (h : Post K C E y G W σ md (ofO (if c then o else none) st) Q) : c ∧ Post K C E y G W σ md (ofO o st) Q := by
  by_cases q : c
  · rw [if_pos q] at h; exact ⟨q, h⟩
  · rw [if_neg q] at h; exact (ofO_none h).elim
theorem ok_dget : OpOk K C .s rDG (kOnly dGetD) := by
  intro E y G W S H σ st x z dx dz Q R bx bz h
  obtain ⟨hk, h⟩ := post_if' h
  obtain ⟨kk, rfl⟩ := flat_ex hk
  obtain ⟨p, hp, h⟩ := post_bind h
  obtain ⟨ok, h⟩ := post_if' h
  obtain ⟨a, o, e, g, _, q⟩ := dget_at bx (.inl ⟨kk, rfl, bov_key bz⟩) hp ok
  rcases q with ⟨rfl, l⟩ | ⟨v, e', rfl, l, dv⟩
  · rw [l] at h; exact (ofO_none h).elim
  · rw [l] at h; exact ⟨a, v, e, g, post_at R h dv⟩
theorem ok_din : OpOk K C .s rDI (fun k d => kOnly (fun d k => dInD k d) d k) := by
  intro E y G W S H σ st z x dz dx Q R bz bx h
  obtain ⟨hk, h⟩ := post_if' h
  obtain ⟨kk, rfl⟩ := flat_ex hk
  obtain ⟨p, hp, h⟩ := post_bind h
  obtain ⟨ok, h⟩ := post_if' h
  obtain ⟨a, o, e, g, _, q⟩ := dget_at bx (.inl ⟨kk, rfl, bov_key bz⟩) hp ok
  refine ⟨a, o, e, g, ?_⟩
  rcases q with ⟨rfl, l⟩ | ⟨v, e', rfl, l, dv⟩ <;> (rw [l] at h; exact post_at R h rfl)
theorem ok_dnin : OpOk K C .s rDNI (fun k d => kOnly (fun d k => dNinD k d) d k) := by
  intro E y G W S H σ st z x dz dx Q R bz bx h
  obtain ⟨hk, h⟩ := post_if' h
  obtain ⟨kk, rfl⟩ := flat_ex hk
  obtain ⟨p, hp, h⟩ := post_bind h
  obtain ⟨ok, h⟩ := post_if' h
  obtain ⟨a, o, e, g, _, q⟩ := dget_at bx (.inl ⟨kk, rfl, bov_key bz⟩) hp ok
  refine ⟨a, o, e, g, ?_⟩
  rcases q with ⟨rfl, l⟩ | ⟨v, e', rfl, l, dv⟩ <;> (rw [l] at h; exact post_at R h rfl)
end
end MV

set_option Elab.async false
set_option linter.all false
set_option maxRecDepth 100000
set_option maxHeartbeats 2000000
/-! VO: dicts made, put to, looked at; sorted. -/
namespace MV
open PySem PySem.Spec PyProof.Rows L2 FR
/-! ### sorted texts -/
theorem ltCps_eq : ∀ a b : List Nat, ltCps a b = decide (a < b)
  | [], [] => by simp [ltCps]
  | [], _ :: _ => by simp [ltCps]
  | _ :: _, [] => by simp [ltCps]
  | x :: a, y :: b => by
    show (decide (x < y) || ((x == y) && ltCps a b)) = _
    rw [ltCps_eq a b]
    by_cases h : x < y
    · simp [h, List.cons_lt_cons_iff]
    · by_cases h2 : x = y
      · subst h2; simp [List.cons_lt_cons_iff]
      · simp [h, h2, List.cons_lt_cons_iff]
def leS (a b : Str) : Prop := ¬ b.cps.toList < a.cps.toList
instance (a b : Str) : Decidable (leS a b) := inferInstanceAs (Decidable (¬ _))
theorem leS_le {a b : Str} : leS a b ↔ a.cps.toList ≤ b.cps.toList := Iff.rfl
theorem leS_refl (a : Str) : leS a a := List.le_refl _
theorem leS_total (a b : Str) : leS a b ∨ leS b a := List.le_total _ _
theorem leS_trans {a b c : Str} (h : leS a b) (h2 : leS b c) : leS a c := List.le_trans h h2
theorem leS_anti {a b : Str} (h : leS a b) (h2 : leS b a) : a = b := by
  have e : a.cps.toList = b.cps.toList := List.le_antisymm h h2
  cases a; cases b
  congr 1
  exact Array.toList_inj.mp e
def insS (x : Str) : List Str → List Str
  | [] => [x]
  | y :: r => if leS x y then x :: y :: r else y :: insS x r
def isortS : List Str → List Str
  | [] => []
  | x :: r => insS x (isortS r)
theorem insS_perm (x : Str) : ∀ l, (insS x l).Perm (x :: l)
  | [] => .refl _
  | y :: r => by
    unfold insS
    split
    · exact .refl _
    · exact ((insS_perm x r).cons y).trans (.swap x y r)
theorem isortS_perm : ∀ l, (isortS l).Perm l
  | [] => .refl _
  | x :: r => (insS_perm x _).trans ((isortS_perm r).cons x)
theorem insS_sorted (x : Str) : ∀ l : List Str, l.Pairwise leS → (insS x l).Pairwise leS
  | [], _ => List.pairwise_singleton ..
  | y :: r, h => by
    obtain ⟨h1, h2⟩ := List.pairwise_cons.mp h
    unfold insS
    split
    · rename_i c
      exact List.pairwise_cons.mpr ⟨fun z m => (List.mem_cons.mp m).elim (fun e => e ▸ c) fun m => leS_trans c (h1 z m), h⟩
    · rename_i c
      have c' : leS y x := (leS_total x y).resolve_left c
      refine List.pairwise_cons.mpr ⟨fun z m => ?_, insS_sorted x r h2⟩
      rcases List.mem_cons.mp ((insS_perm x r).mem_iff.mp m) with e | m
      · exact e ▸ c'
      · exact h1 z m
theorem isortS_sorted : ∀ l, (isortS l).Pairwise leS
  | [] => List.Pairwise.nil
  | x :: r => insS_sorted x _ (isortS_sorted r)
theorem rising_pw : ∀ (l : List Str) (p : Str), risingS p l = true → (p :: l).Pairwise leS
  | [], p, _ => List.pairwise_singleton ..
  | x :: r, p, h => by
    obtain ⟨h1, h2⟩ := Bool.and_eq_true_iff.mp h
    have h1 : leS p x := by
      have h1 : ltCps x.cps.toList p.cps.toList = false := by simpa using h1
      rw [ltCps_eq] at h1
      exact of_decide_eq_false h1
    have ih := rising_pw r x h2
    refine List.pairwise_cons.mpr ⟨fun z m => ?_, ih⟩
    rcases List.mem_cons.mp m with e | m
    · exact e ▸ h1
    · exact leS_trans h1 ((List.pairwise_cons.mp ih).1 z m)
theorem sorted_pw {l : List Str} (h : sortedS l = true) : l.Pairwise leS := by
  cases l with
  | nil => exact List.Pairwise.nil
  | cons x r => exact rising_pw r x h
theorem sorted_uniq : ∀ (a b : List Str), a.Perm b → a.Pairwise leS → b.Pairwise leS → a = b
  | [], b, p, _, _ => p.nil_eq
  | x :: a, [], p, _, _ => by have := p.length_eq; cases this
  | x :: a, y :: b, p, h1, h2 => by
    obtain ⟨g1, g2⟩ := List.pairwise_cons.mp h1
    obtain ⟨k1, k2⟩ := List.pairwise_cons.mp h2
    have e : x = y := by
      rcases List.mem_cons.mp (p.mem_iff.mp (.head _) : x ∈ y :: b) with e | m
      · exact e
      · rcases List.mem_cons.mp (p.mem_iff.mpr (.head _) : y ∈ x :: a) with e | m2
        · exact e.symm
        · exact leS_anti (g1 y m2) (k1 x m)
    subst e
    rw [sorted_uniq a b p.cons_inv g2 k2]
theorem isort_of {a b : List Str} (p : a.Perm b) (h : sortedS a = true) : a = isortS b := sorted_uniq _ _ (p.trans (isortS_perm b).symm) (sorted_pw h) (isortS_sorted b)
/-- sorted(..) of texts: a list's, a dict's keys -/
def sortLD : PyData → Option PyData
  | .list ds => match mJoin.strsD ds with
    | some ss => if ss.length < 64 then some (.list ((isortS ss).map .str)) else none
    | none => none
  | _ => none
def sortDD (d : PyData) : Option PyData := (dParts d).bind fun p => if p.1 = false then sortLD (.list (p.2.map (·.1))) else none
/-- dict([(k, v), ..]) -/
def pairsD : List PyData → Option (List (PyData × PyData))
  | [] => some []
  | .tuple [k, v] :: r => if flatK k = true then (pairsD r).map ((k, v) :: ·) else none
  | _ :: _ => none
def mergeL (ps : List (PyData × PyData)) : List (PyData × PyData) := ps.foldl (fun acc q => putL acc q.1 q.2) []
def dictPD : PyData → Option PyData
  | .list ds => match pairsD ds with
    | some ps => if ps.length < LIM then some (.dict (mergeL ps)) else none
    | none => none
  | _ => none
section
variable {K : PySem.W.Frag} {C : Ct} {S : List Addr} {H : Hp}
theorem post_lstF' {E : WX} {y : Dy} {G : List (PyData × V)} {W : List (PyData × Addr)} {σ : L2.St} {st : MS} {Q : VK} {p : Addr} {ds : List PyData} {vs : List V} (R : Rel K C y G W S H σ st) (h : Post K C E y G W σ .f (.ok (.list ds) st) Q) (hp : H p = none) (r : Dvs K S H ds vs) : Q (.ref p) (upd H p (.lst vs)) := post_lstF R h hp r
theorem strs_dvs : ∀ ss : List Str, Dvs K S H (ss.map .str) (ss.map V.str)
  | [] => rfl
  | s :: r => ⟨_, _, rfl, rfl, strs_dvs r⟩
theorem dvs_strs : ∀ {ss : List Str} {vs : List V}, Dvs K S H (ss.map .str) vs → vs = ss.map V.str
  | [], vs, h => h
  | s :: r, _, ⟨v, ws, e, h1, h2⟩ => by
    have h1 : v = .str s := h1
    rw [e, h1, dvs_strs h2]; rfl
theorem ok_sortL : CbOk K C .f (rSortedS K) sortLD := by
  intro E y G W S H σ st x dx Q R b h
  cases dx <;> try exact (ofO_none h).elim
  rename_i ds
  replace h : Post K C E y G W σ .f (ofO (match mJoin.strsD ds with | some ss => if ss.length < 64 then some (.list ((isortS ss).map .str)) else none | none => none) st) Q := h
  cases e : mJoin.strsD ds with
  | none => rw [e] at h; exact (ofO_none h).elim
  | some ss =>
    rw [e] at h
    obtain ⟨l, h⟩ := post_if h
    obtain ⟨a, vs, e1, g, r⟩ := b.lst
    subst e1
    have e2 := strsD_ex e
    subst e2
    have e3 := dvs_strs r
    subst e3
    refine ⟨a, ss, rfl, .of g, l, fun ys p pm so hp => ?_⟩
    rw [isort_of pm so]
    exact post_lstF R h hp (strs_dvs _)
abbrev rSortDK : List V → Hp → VK → Prop := fun xs H Q => ∃ (a : Addr) (kvs : List (Key × V)) (ks : List Str), xs = [.ref a] ∧ Rd H a (.dK kvs) ∧ kvs.map (·.1) = ks.map Sum.inr ∧ ks.length < 64 ∧
    ∀ ys p, ys.Perm ks → sortedS ys = true → H p = none → Q (.ref p) (upd H p (.lst (ys.map V.str)))
theorem dks_keys : ∀ {ds : List (PyData × PyData)} {kk : List (Key × V)}, Dks K S H ds (kk.map fun p => (keyD p.1, p.2)) → ds.map (·.1) = kk.map fun p => keyD p.1
  | [], kk, h => by
    cases kk with
    | nil => rfl
    | cons => cases h
  | (x, d) :: r, [], ⟨v, ws, e, _⟩ => by cases e
  | (x, d) :: r, p :: ks, ⟨v, ws, e, h1, h2⟩ => by
    injection e with e1 e2
    injection e1 with e1 e3
    subst e1 e2 e3
    rw [List.map_cons, List.map_cons, dks_keys h2]
theorem keys_strs : ∀ {kk : List (Key × V)} {ss : List Str}, (kk.map fun p => keyD p.1) = ss.map .str → kk.map (·.1) = ss.map Sum.inr
  | [], ss, h => by
    cases ss with
    | nil => rfl
    | cons => cases h
  | p :: kk, [], h => by cases h
  | p :: kk, s :: ss, h => by
    injection h with h1 h2
    obtain ⟨k, v⟩ := p
    cases k with
    | inl i => cases h1
    | inr z =>
      have h1 : PyData.str z = .str s := h1
      cases h1
      rw [List.map_cons, List.map_cons, keys_strs h2]
theorem ok_sortD : CbOk K C .f rSortDK sortDD := by
  intro E y G W S H σ st x dx Q R b h
  obtain ⟨p, hp, h⟩ := post_bind h
  obtain ⟨p1, h⟩ := post_if' h
  cases dx <;> try (cases hp; done)
  rename_i ks
  obtain ⟨a, vs, e, g, r⟩ := b.dic
  subst e
  rcases dic_kinds g r with ⟨kk, hh, ev, e2⟩ | ⟨kk, rs, hh, e2, r2⟩
  · rw [e2] at hp
    cases hp
    subst ev
    have h : Post K C E y G W σ .f (ofO (match mJoin.strsD (ks.map (·.1)) with | some ss => if ss.length < 64 then some (.list ((isortS ss).map .str)) else none | none => none) st) Q := h
    cases e3 : mJoin.strsD (ks.map (·.1)) with
    | none => rw [e3] at h; exact (ofO_none h).elim
    | some ss =>
      rw [e3] at h
      obtain ⟨l, h⟩ := post_if h
      have e4 := strsD_ex e3
      rw [dks_keys r] at e4
      refine ⟨a, kk, ss, rfl, .inl hh, keys_strs e4, l, fun ys p pm so hp => ?_⟩
      rw [isort_of pm so]
      exact post_lstF R h hp (strs_dvs _)
  · subst e2
    cases hp
    cases p1
/-- list(d) -/
theorem ok_listD : CbOk K C .f rListD dListD := by
  intro E y G W S H σ st x dx Q R b h
  obtain ⟨p, hp, h⟩ := post_bind h
  obtain ⟨p1, h⟩ := post_if h
  cases dx <;> try (cases hp; done)
  rename_i ks
  obtain ⟨a, vs, e, g, r⟩ := b.dic
  subst e
  rcases dic_kinds g r with ⟨kk, hh, ev, e2⟩ | ⟨kk, rs, hh, e2, r2⟩
  · rw [e2] at hp
    cases hp
    subst ev
    refine ⟨a, kk, rfl, hh, fun q hq => post_lstF R h hq ?_⟩
    show Dvs K S H (ks.map (·.1)) _
    rw [dks_keys r]
    have go : ∀ kk : List (Key × V), Dvs K S H (kk.map fun p => keyD p.1) (kk.map fun kv => kV kv.1) := by
      intro kk
      induction kk with
      | nil => exact rfl
      | cons p r ih =>
        refine ⟨_, _, rfl, ?_, ih⟩
        obtain ⟨k, v⟩ := p
        cases k <;> exact rfl
    exact go kk
  · subst e2
    cases hp
    cases p1
/-- dict([(k, v), ..]) -/
abbrev rDictP (K : PySem.W.Frag) : List V → Hp → VK → Prop := fun xs H Q => ∃ (a : Addr) (ps : List Addr) (kvs : List (Key × V)), xs = [.ref a] ∧ SqL K H a (ps.map V.ref) ∧ PySem.Paired (fun p kv => SqT K H p [kV kv.1, kv.2]) ps kvs ∧
    ∀ p, H p = none → Q (.ref p) (upd H p (.dK (mergeK [] kvs)))
theorem pairs_ex : ∀ {ds : List PyData} {ps : List (PyData × PyData)} {vs : List V}, pairsD ds = some ps → Dvs K S H ds vs →
    ∃ (as : List Addr) (kvs : List (Key × V)), vs = as.map V.ref ∧ PySem.Paired (fun p kv => SqT K H p [kV kv.1, kv.2]) as kvs ∧ Dks K S H ps (kvs.map fun p => (keyD p.1, p.2))
  | [], ps, vs, h, r => by cases h; cases r; exact ⟨[], [], rfl, .nil, rfl⟩
  | d :: rs, ps, vs, h, r => by
    obtain ⟨v, ws, e, h1, h2⟩ := r
    subst e
    unfold pairsD at h
    split at h
    · rename_i heq; cases heq
    · rename_i k x r' heq
      injection heq with e1 e2
      subst e1 e2
      split at h
      · rename_i c
        obtain ⟨kk, rfl⟩ := flat_ex c
        cases e : pairsD rs with
        | none => rw [e] at h; cases h
        | some ps' =>
          rw [e] at h
          cases h
          obtain ⟨as, kvs, e1, e2, e3⟩ := pairs_ex e h2
          obtain ⟨a, us, e4, g, r4⟩ := h1
          obtain ⟨u1, us1, e5, q1, u2, us2, e6, q2, e7⟩ := r4
          subst e4 e5 e6
          have e7 : us2 = [] := e7
          subst e7
          have := key_kV q1
          subst this
          refine ⟨a :: as, (kk, u2) :: kvs, by rw [e1]; rfl, .cons ?_ e2, ⟨u2, _, rfl, q2, e3⟩⟩
          exact g.elim (fun g => .of g.2) .inr
      · cases h
    · cases h
theorem merge_dks : ∀ {ps : List (PyData × PyData)} {kvs : List (Key × V)} {acc : List (PyData × PyData)} {ak : List (Key × V)}, Dks K S H acc (ak.map fun p => (keyD p.1, p.2)) → Dks K S H ps (kvs.map fun p => (keyD p.1, p.2)) →
    Dks K S H (ps.foldl (fun acc q => putL acc q.1 q.2) acc) ((mergeK ak kvs).map fun p => (keyD p.1, p.2))
  | [], kvs, acc, ak, h, g => by
    cases kvs with
    | nil => exact h
    | cons => cases g
  | (x, d) :: r, [], acc, ak, h, ⟨v, ws, e, _⟩ => by cases e
  | (x, d) :: r, p :: kvs, acc, ak, h, ⟨v, ws, e, h1, h2⟩ => by
    injection e with e1 e2
    injection e1 with e1 e3
    subst e1 e2 e3
    exact merge_dks (acc := putL acc (keyD p.1) d) (ak := putK ak p.1 p.2) (put_dks (f := keyD) key_eqv h1 h) h2
theorem ok_dictP : CbOk K C .f (rDictP K) dictPD := by
  intro E y G W S H σ st x dx Q R b h
  cases dx <;> try exact (ofO_none h).elim
  rename_i ds
  have h : Post K C E y G W σ .f (ofO (match pairsD ds with | some ps => if ps.length < LIM then some (.dict (mergeL ps)) else none | none => none) st) Q := h
  cases e : pairsD ds with
  | none => rw [e] at h; exact (ofO_none h).elim
  | some ps =>
    rw [e] at h
    obtain ⟨l, h⟩ := post_if h
    obtain ⟨a, vs, e1, g, r⟩ := b.lst
    subst e1
    obtain ⟨as, kvs, e2, e3, e4⟩ := pairs_ex e r
    subst e2
    refine ⟨a, as, kvs, rfl, .of g, e3, fun p hp => ?_⟩
    refine h _ _ _ (R.newT hp (.inr ⟨mergeL ps, _, rfl, .inl ⟨_, upd_same, rfl⟩, (Stp.new hp).dks ?_⟩))
    exact merge_dks (acc := []) (ak := []) rfl e4
/-! ### a new dict -/
def mNew (t : Bool) (st : MS) : Out PyData := .ok (mkD t []) st
end
section
variable {X : Cx} {C : Ct} {E : WX} {md : Md} {b e o f : Expr} {m mo mk mf : MS → Out PyData} {mr : MS → Out (List PyData)} {es : List Expr} {n : Nat} {pos p1 p2 p3 apos cpos : Pos} {x : Str} {a : Addr} {i : Nat}
theorem q_newK : QE X C E .f (.Dict [] [] pos) (mNew false) := by
  refine ⟨⟨_, pe_dnewK, ?_⟩⟩
  intro y G W S H σ st Q R h
  intro p hp
  exact h _ _ _ (R.newT hp (.inr ⟨[], [], rfl, .inl ⟨[], upd_same, rfl⟩, rfl⟩))
theorem q_newT : QE X C E .f (.Dict [] [] pos) (mNew true) := by
  refine ⟨⟨_, pe_dnewT, ?_⟩⟩
  intro y G W S H σ st Q R h
  intro p hp
  exact h _ _ _ (R.newT hp (.inr ⟨[(.none, .none)], [(.none, .non)], rfl, .inr ⟨[], upd_same, rfl⟩, ⟨.non, [], rfl, rfl, rfl⟩⟩))
/-! ### looks, flat keys -/
theorem q_dix (hu : X.A.units + 1 < cLine) (ho : QE X C E .s o mo) (hb : QE X C E .b b mk) (hs : NoSl b) : QE X C E .s (.Subscript o b pos) (mOp (kOnly dGetD) mo mk) := by
  obtain ⟨to, po, ro⟩ := ho.ex; obtain ⟨tb, pb, rb⟩ := hb.ex
  exact ⟨⟨_, pe_dget hu po pb hs, re_op (r := rDG) ro rb ok_dget⟩⟩
theorem q_dixB (hu : X.A.units + 1 < cLine) (hN : X.N[i]? = some x := by rfl) (hv : Vis X.env.scope x := by first | exact Or.inl rfl | exact Or.inr (Or.inl rfl) | exact Or.inr (Or.inr rfl)) (hb : QE X C E .b b mk) (hs : NoSl b) (hd : (x == ("__debug__" : Str)) = false := by decide) (hcd : (x == ("__classdict__" : Str)) = false := by decide) : QE X C E .s (.Subscript (.Name x p1) b pos) (mOpB (kOnly dGetD) i mk) := by
  obtain ⟨tb, pb, rb⟩ := hb.ex
  exact ⟨⟨_, pe_dget hu (pe_var hN hv hd hcd) pb hs, re_opB (r := rDG) rb ok_dget⟩⟩
theorem q_din (hu : X.A.units + 1 < cLine) (hb : QE X C E .s b mk) (ho : QE X C E .b o mo) (hm : behindInMarks .In o = false := by first | exact nobehind _ (by decide) (by decide) | rfl) : QE X C E .s (.Compare b [.In] [o] pos) (mOp (fun k d => kOnly (fun d k => dInD k d) d k) mk mo) := by
  obtain ⟨to, po, ro⟩ := ho.ex; obtain ⟨tb, pb, rb⟩ := hb.ex
  exact ⟨⟨_, pe_cmp (pc_din hu pb po) hm, re_op (r := rDI) rb ro ok_din⟩⟩
theorem q_dinT (hu : X.A.units + 1 < cLine) (hb : QE X C E .s b mk) (ho : QE X C E .b o mo) (hm : behindInMarks .In o = false := by first | exact nobehind _ (by decide) (by decide) | rfl) : QT X C E (.Compare b [.In] [o] pos) (mTest (mOp (fun k d => kOnly (fun d k => dInD k d) d k) mk mo)) := by
  obtain ⟨to, po, ro⟩ := ho.ex; obtain ⟨tb, pb, rb⟩ := hb.ex
  exact ⟨⟨_, pt_cmp (pc_din hu pb po) hm, rt_b (re_op (r := rDI) rb ro ok_din)⟩⟩
theorem q_dninT (hu : X.A.units + 1 < cLine) (hb : QE X C E .s b mk) (ho : QE X C E .b o mo) (hm : behindInMarks .NotIn o = false := by first | exact nobehind _ (by decide) (by decide) | rfl) : QT X C E (.Compare b [.NotIn] [o] pos) (mTest (mOp (fun k d => kOnly (fun d k => dNinD k d) d k) mk mo)) := by
  obtain ⟨to, po, ro⟩ := ho.ex; obtain ⟨tb, pb, rb⟩ := hb.ex
  exact ⟨⟨_, pt_cmp (pc_dnotin hu pb po) hm, rt_b (re_op (r := rDNI) rb ro ok_dnin)⟩⟩
end
end MV

set_option Elab.async false
set_option linter.all false
set_option maxRecDepth 100000
set_option maxHeartbeats 2000000
/-! VP: stores to dicts; tuples as keys. -/
namespace MV
open PySem PySem.Spec PyProof.Rows L2 FR
/-- a dict of one's own at a name -/
def ownDc (st : MS) (i : Nat) : Option PyData := match st[i]? with
  | some (some (.ow (.dict ks))) => some (.dict ks)
  | some (some (.io (.dict ks))) => some (.dict ks)
  | _ => none
def mPutK (i : Nat) (k m : MS → Out PyData) (st : MS) : SOut := (m st).bd fun d s => match ownDc s i with
  | none => .bad
  | some _ => (k s).bd fun j s => match ownDc s i with
    | none => .bad
    | some dd => (ofO (if flatK j = true then dPutD dd j d else none) s).bd fun x s => .nx (putD s i x)
def mPutT (i : Nat) (mr : MS → Out (List PyData)) (m : MS → Out PyData) (st : MS) : SOut := (m st).bd fun d s => match ownDc s i with
  | none => .bad
  | some _ => (mr s).bd fun js s => match ownDc s i with
    | none => .bad
    | some dd => (ofO (if js.length ≤ LIM then dPutD dd (.tuple js) d else none) s).bd fun x s => .nx (putD s i x)
def mGT (mo : MS → Out PyData) (mr : MS → Out (List PyData)) (st : MS) : Out PyData := (mo st).bd fun x s1 => (mr s1).bd fun ds s2 => ofO (if ds.length ≤ LIM then dGetD x (.tuple ds) else none) s2
def mGTB (i : Nat) (mr : MS → Out (List PyData)) (st : MS) : Out PyData := match st[i]? with
  | some (some _) => (mr st).bd fun ds s2 => (mB i s2).bd fun x s3 => ofO (if ds.length ≤ LIM then dGetD x (.tuple ds) else none) s3
  | _ => .bad
def mInTB (f : PyData → PyData → Option PyData) (mr : MS → Out (List PyData)) (i : Nat) (st : MS) : Out PyData := (mr st).bd fun ds s2 => (mB i s2).bd fun x s3 => ofO (if ds.length ≤ LIM then f (.tuple ds) x else none) s3
def mGetOr (mo mk mz : MS → Out PyData) (st : MS) : Out PyData := (mo st).bd fun x s => if (dParts x).isSome = true then (mk s).bd fun k s => (mz s).bd fun z s => ofO (if flatK k = true then dOrD x k z else none) s else .bad
def mGetOrB (i : Nat) (mk mz : MS → Out PyData) (st : MS) : Out PyData := (mB i st).bd fun x s => if (dParts x).isSome = true then (mk s).bd fun k s => (mz s).bd fun z s => (mB i s).bd fun x s => ofO (if flatK k = true then dOrD x k z else none) s else .bad
section
variable {K : PySem.W.Frag} {C : Ct} {E : WX} {y : Dy} {G : List (PyData × V)} {W : List (PyData × Addr)} {S : List Addr} {H : Hp} {σ : L2.St} {st st' : MS} {i n : Nat} {a : Addr} {te tk to tz : TE} {m k mo mk mz : MS → Out PyData} {tr : TA} {mr : MS → Out (List PyData)}
theorem Rel.ownDc (R : Rel K C y G W S H σ st) {d : PyData} (h : MV.ownDc st i = some d) : ∃ a ks vs, d = .dict ks ∧ Owns σ st i a ∧ DicAt H a vs ∧ Dks K S H ks vs ∧ a ∈ S := by
  have q : isOwn st[i]? = true ∧ (∃ ks, d = .dict ks) ∧ ∀ d', (st[i]? = some (some (.ow d')) ∨ st[i]? = some (some (.io d'))) → d' = d := by
    unfold MV.ownDc at h
    split at h
    · rename_i ks e
      cases h
      refine ⟨by rw [e]; rfl, ⟨_, rfl⟩, fun d q => ?_⟩
      rcases q with q | q <;> rw [e] at q <;> cases q; rfl
    · rename_i ks e
      cases h
      refine ⟨by rw [e]; rfl, ⟨_, rfl⟩, fun d q => ?_⟩
      rcases q with q | q <;> rw [e] at q <;> cases q; rfl
    · cases h
  obtain ⟨ho, ⟨ks, e0⟩, hd⟩ := q
  obtain ⟨a, d', e, m, r, z⟩ := cell_own (R.cell i) ho
  have ed : d' = d := hd d' (z.imp (·.1) (·.1))
  subst ed e0
  rcases r with ⟨ds, vs, e1, _⟩ | ⟨ks', vs, e1, g, r⟩
  · cases e1
  · cases e1
    exact ⟨a, ks, vs, rfl, ⟨e, ho⟩, g, r, m⟩
theorem Rel.ownDs (R : Rel K C y G W S H σ st) (o : σ[i]? = some (some (.ref a))) {d : PyData} (h : MV.ownDc st i = some d) : ∃ ks vs, d = .dict ks ∧ Owns σ st i a ∧ DicAt H a vs ∧ Dks K S H ks vs ∧ a ∈ S := by
  obtain ⟨b, ks, vs, e, ob, g, r, m⟩ := R.ownDc h
  have := ob.1
  rw [o] at this
  cases this
  exact ⟨ks, vs, e, ob, g, r, m⟩
theorem postS_if {c : Prop} [Decidable c] {α : Type} {o : Option α} {f : α → MS → SOut} {D : Ends} (h : PostS K C E y G W ((ofO (if c then o else none) st).bd f) D) : c ∧ PostS K C E y G W ((ofO o st).bd f) D := by
  by_cases q : c
  · rw [if_pos q] at h; exact ⟨q, h⟩
  · rw [if_neg q] at h; exact h.elim
theorem postS_bind {α β : Type} {o : Option α} {g : α → Option β} {f : β → MS → SOut} {D : Ends} (h : PostS K C E y G W ((ofO (o.bind g) st).bd f) D) : ∃ a, o = some a ∧ PostS K C E y G W ((ofO (g a) st).bd f) D := by
  cases o with
  | none => exact h.elim
  | some a => exact ⟨a, rfl, h⟩
theorem rs_putK (r : RE K C E .s te m) (rk : RE K C E .s tk k) : RS K C E (tAsg te (gSub (tVar i) tk rSetD)) (mPutK i k m) := by
  intro y G W S H σ st D R h
  show te σ H _
  refine r.uS (P := fun o => PostS K C E y G W o D) ipS .rfl R h fun d s S1 v H1 R1 h1 => ?_
  split at h1
  · exact h1.elim
  · rename_i d0 e0
    obtain ⟨a, ks0, vs0, _, o, _⟩ := R1.ownDc e0
    refine ⟨_, o.1, ?_⟩
    refine rk.uS (P := fun o => PostS K C E y G W o D) ipS (.g .rfl) R1 h1 fun dj s2 S2 w H2 R2 h2 => ?_
    split at h2
    · exact h2.elim
    · rename_i dd e
      obtain ⟨ks, vs, ed, o2, g, rr, mm⟩ := R2.ownDs o.1 e
      subst ed
      obtain ⟨hk, h2⟩ := postS_if h2
      obtain ⟨kk, rfl⟩ := flat_ex hk
      have ew := key_kV R2.hd
      subst ew
      unfold dPutD at h2
      obtain ⟨p, hp, h2⟩ := postS_bind h2
      obtain ⟨⟨ok, hl⟩, h2⟩ := postS_if h2
      rcases dic_kinds g rr with ⟨kv, hh, ev, e2⟩ | ⟨kv, rs, hh, e2, r2⟩
      · rw [e2] at hp
        cases hp
        subst ev
        have hl : ks.length < LIM := hl
        have hv : Dv K S2 H2 d v := R2.tl.hd
        refine ⟨a, _, rfl, DPut.k hh (by rw [lim_eq]; have := rr.length; rw [List.length_map] at this; omega), ?_⟩
        exact h2 S2 σ _ ((R2.tl).muV o2 (.inr ⟨_, _, rfl, .inl ⟨_, upd_same, rfl⟩, (Stp.put mm).dks (put_dks (f := keyD) key_eqv hv rr)⟩)).tl
      · subst e2
        cases hp
        cases kk <;> cases ok
theorem rs_putT (r : RE K C E .s te m) (rr : RA K C E (List.replicate n none) tr mr) : RS K C E (tAsg te (gSub (tVar i) (tTup tr) rSetD)) (mPutT i mr m) := by
  intro y G W S H σ st D R h
  show te σ H _
  refine r.uS (P := fun o => PostS K C E y G W o D) ipS .rfl R h fun d s S1 v H1 R1 h1 => ?_
  split at h1
  · exact h1.elim
  · rename_i d0 e0
    obtain ⟨a, ks0, vs0, _, o, _⟩ := R1.ownDc e0
    refine ⟨_, o.1, ?_⟩
    show tr σ H1 _
    refine rr.u (P := fun o => PostS K C E y G W o D) ipS (.g .rfl) R1 h1 fun js s2 S2 us g H2 ac R2 h2 => ?_
    split at h2
    · exact h2.elim
    · rename_i dd e
      have dv := ac.dvs (K := K) (S := S2) (H := H2) fun q m => R2.gd q (List.mem_append_left _ m)
      obtain ⟨ks, vs, ed, o2, gd, rd, mm⟩ := R2.ownDs o.1 e
      subst ed
      obtain ⟨jl, h2⟩ := postS_if h2
      unfold dPutD at h2
      obtain ⟨p, hp, h2⟩ := postS_bind h2
      obtain ⟨⟨ok, hl⟩, h2⟩ := postS_if h2
      refine ⟨by rw [lim_eq, dv.length]; exact jl, fun q hq => ?_⟩
      rcases dic_kinds gd rd with ⟨kv, hh, ev, e2⟩ | ⟨kv, rs, hh, e2, r2⟩
      · rw [e2] at hp
        cases hp
        cases ok
      · subst e2
        cases hp
        have ok : (keysB js).isSome = true := ok
        obtain ⟨kk, ek⟩ := Option.isSome_iff_exists.mp ok
        have ejs := keysB_ex ek
        subst ejs
        have eus := keys_kV dv
        subst eus
        have hl : rs.length < LIM := hl
        have ne : a ≠ q := ne_of_none hh hq
        have R3 : Rel K C y ((d, v) :: G) W S2 (upd H2 q (.tup (kk.map kV))) σ s2 := (R2.new hq).subG fun _ m => List.mem_append_right _ m
        have hv : Dv K S2 (upd H2 q (.tup (kk.map kV))) d v := R3.hd
        have hh3 : (upd H2 q (.tup (kk.map kV))) a = some (.dT kv) := by rw [upd_ne ne]; exact hh
        refine ⟨a, _, rfl, DPut.t hh3 upd_same (by rw [lim_eq]; have := r2.length; rw [List.length_map] at this; omega), ?_⟩
        exact h2 S2 σ _ (R3.muV o2 (.inr ⟨(.none, .none) :: putL rs (.tuple (kk.map keyD)) d, _, rfl, .inr ⟨_, upd_same, rfl⟩, ⟨.non, _, rfl, rfl, (Stp.put mm).dks (put_dks (f := fun k => .tuple (List.map keyD k)) tkey_eqv hv ((Stp.new0 hq).dks r2))⟩⟩)).tl
theorem post_len {md : Md} {Q : VK} {ds : List PyData} {o : Option PyData} (h : Post K C E y G W σ md (ofO (if ds.length ≤ LIM then o else none) st) Q) : ds.length ≤ LIM ∧ Post K C E y G W σ md (ofO o st) Q := post_if' h
theorem key_tup {js : List PyData} {us : List V} {q : Addr} {t : Bool} (ok : keyOk t (.tuple js) = true) (dv : Dvs K S H js us) : ∃ kk : List Key, js = kk.map keyD ∧ us = kk.map kV := by
  cases t with
  | false => cases ok
  | true =>
    have ok : (keysB js).isSome = true := ok
    obtain ⟨kk, ek⟩ := Option.isSome_iff_exists.mp ok
    have ejs := keysB_ex ek
    subst ejs
    exact ⟨kk, rfl, keys_kV dv⟩
theorem re_gT (ro : RE K C E .s to mo) (rr : RA K C E (List.replicate n none) tr mr) : RE K C E .s (tDGet to (tTup tr)) (mGT mo mr) := by
  intro y G W S H σ st Q R h
  show to σ H _
  refine ro.uS (P := fun o => Post K C E y G W σ .s o Q) ipP .rfl R h fun dx s1 S1 x H1 R1 h1 => ?_
  show tr σ H1 _
  refine rr.u (P := fun o => Post K C E y G W σ .s o Q) ipP (.g .rfl) R1 h1 fun js s2 S2 us g H2 ac R2 h2 => ?_
  have dv := ac.dvs (K := K) (S := S2) (H := H2) fun q m => R2.gd q (List.mem_append_left _ m)
  obtain ⟨jl, h2⟩ := post_len h2
  obtain ⟨p, hp, h2⟩ := post_bind h2
  obtain ⟨ok, h2⟩ := post_if' h2
  refine ⟨by rw [lim_eq, dv.length]; exact jl, fun q hq => ?_⟩
  obtain ⟨kk, e1, e2⟩ := key_tup (q := q) ok dv
  subst e1 e2
  have R3 : Rel K C y ((dx, x) :: G) W S2 (upd H2 q (.tup (kk.map kV))) σ s2 := (R2.new hq).subG fun _ m => List.mem_append_right _ m
  obtain ⟨a, o, e, dg, _, z⟩ := dget_at (.inl R3.hd) (.inr ⟨kk, q, rfl, rfl, upd_same⟩) hp ok
  rcases z with ⟨rfl, l⟩ | ⟨v, e', rfl, l, dve⟩
  · rw [l] at h2; exact (ofO_none h2).elim
  · rw [l] at h2; exact ⟨a, v, e, dg, post_at R3.tl h2 dve⟩
theorem re_gTB (rr : RA K C E (List.replicate n none) tr mr) : RE K C E .s (tDGet (tVar i) (tTup tr)) (mGTB i mr) := by
  intro y G W S H σ st Q R h
  unfold mGTB at h
  split at h
  · rename_i c e
    obtain ⟨v0, e1, r0⟩ := R.cell i _ e
    refine ⟨v0, e1, ?_⟩
    show tr σ H _
    refine rr.u (P := fun o => Post K C E y G W σ .s o Q) ipP .rfl R h fun js s2 S2 us g H2 ac R2 h2 => ?_
    have dv := ac.dvs (K := K) (S := S2) (H := H2) fun q m => R2.gd q (List.mem_append_left _ m)
    have h2 : Post K C E y G W σ .s ((mB i s2).bd fun x s3 => ofO (if js.length ≤ LIM then dGetD x (.tuple js) else none) s3) Q := h2
    unfold mB at h2
    split at h2
    · rename_i c' e'
      cases hc : c'.rd with
      | none => rw [hc] at h2; exact h2.elim
      | some dx =>
        rw [hc] at h2
        obtain ⟨jl, h2⟩ := post_len h2
        obtain ⟨p, hp, h2⟩ := post_bind h2
        obtain ⟨ok, h2⟩ := post_if' h2
        refine ⟨by rw [lim_eq, dv.length]; exact jl, fun q hq => ?_⟩
        obtain ⟨kk, e3, e4⟩ := key_tup (q := q) ok dv
        subst e3 e4
        have R3 : Rel K C y G W S2 (upd H2 q (.tup (kk.map kV))) σ s2 := (R2.new hq).subG fun _ m => List.mem_append_right _ m
        obtain ⟨v', e2, r2⟩ := R3.bo e' hc
        rw [e1] at e2; cases e2
        obtain ⟨a, o, e, dg, _, z⟩ := dget_at r2 (.inr ⟨kk, q, rfl, rfl, upd_same⟩) hp ok
        rcases z with ⟨rfl, l⟩ | ⟨v, e', rfl, l, dve⟩
        · rw [l] at h2; exact (ofO_none h2).elim
        · rw [l] at h2; exact ⟨a, v, e, dg, post_at R3 h2 dve⟩
    · exact h2.elim
  · exact h.elim
theorem re_inTB (rr : RA K C E (List.replicate n none) tr mr) : RE K C E .s (tDIn (tTup tr) (tVar i)) (mInTB dInD mr i) := by
  intro y G W S H σ st Q R h
  show tr σ H _
  refine rr.u (P := fun o => Post K C E y G W σ .s o Q) ipP .rfl R h fun js s2 S2 us g H2 ac R2 h2 => ?_
  have dv := ac.dvs (K := K) (S := S2) (H := H2) fun q m => R2.gd q (List.mem_append_left _ m)
  unfold mB at h2
  split at h2
  · rename_i c' e'
    cases hc : c'.rd with
    | none => rw [hc] at h2; exact h2.elim
    | some dx =>
      rw [hc] at h2
      obtain ⟨jl, h2⟩ := post_len h2
      obtain ⟨p, hp, h2⟩ := post_bind h2
      obtain ⟨ok, h2⟩ := post_if' h2
      refine ⟨by rw [lim_eq, dv.length]; exact jl, fun q hq => ?_⟩
      obtain ⟨kk, e3, e4⟩ := key_tup (q := q) ok dv
      subst e3 e4
      have R3 : Rel K C y G W S2 (upd H2 q (.tup (kk.map kV))) σ s2 := (R2.new hq).subG fun _ m => List.mem_append_right _ m
      obtain ⟨v', e2, r2⟩ := R3.bo e' hc
      refine ⟨v', e2, ?_⟩
      obtain ⟨a, o, e, dg, _, z⟩ := dget_at r2 (.inr ⟨kk, q, rfl, rfl, upd_same⟩) hp ok
      refine ⟨a, o, e, dg, ?_⟩
      rcases z with ⟨rfl, l⟩ | ⟨v, e', rfl, l, dve⟩ <;> (rw [l] at h2; exact post_at R3 h2 rfl)
  · exact h2.elim
theorem re_getOr (ro : RE K C E .s to mo) (rk : RE K C E .s tk mk) (rz : RE K C E .s tz mz) : RE K C E .s (tDGet2 to tk tz) (mGetOr mo mk mz) := by
  intro y G W S H σ st Q R h
  show to σ H _
  refine ro.uS (P := fun o => Post K C E y G W σ .s o Q) ipP .rfl R h fun dx s1 S1 x H1 R1 h1 => ?_
  split at h1
  · rename_i c
    obtain ⟨p, hp⟩ := Option.isSome_iff_exists.mp c
    obtain ⟨a, ex, isd⟩ : ∃ a, x = .ref a ∧ IsD H1 a := by
      cases dx <;> try (cases hp; done)
      obtain ⟨a, vs, e, g, r⟩ := (BoV.dic (.inl R1.hd))
      refine ⟨a, e, ?_⟩
      rcases dic_kinds g r with ⟨kk, hh, _⟩ | ⟨kk, rs, hh, _⟩
      · exact .inl ⟨kk, .inl hh⟩
      · exact .inr ⟨kk, .inl hh⟩
    refine ⟨a, ex, isd, ?_⟩
    refine rk.uS (P := fun o => Post K C E y G W σ .s o Q) ipP (.g .rfl) R1 h1 fun dk s2 S2 k H2 R2 h2 => ?_
    refine rz.uS (P := fun o => Post K C E y G W σ .s o Q) ipP (.g (.g .rfl)) R2 h2 fun dz s3 S3 z H3 R3 h3 => ?_
    obtain ⟨fk, h3⟩ := post_if' h3
    obtain ⟨kk, rfl⟩ := flat_ex fk
    obtain ⟨p', hp', h3⟩ := post_bind h3
    obtain ⟨ok, h3⟩ := post_if h3
    obtain ⟨a', o, e, dg, _, zz⟩ := dget_at (.inl (R3.gd _ (.tail _ (.tail _ (.head _))))) (.inl ⟨kk, rfl, key_kV R3.tl.hd⟩) hp' ok
    rw [ex] at e; cases e
    refine ⟨o, dg, ?_⟩
    rcases zz with ⟨rfl, l⟩ | ⟨v, e', rfl, l, dve⟩
    · rw [l] at h3; exact post_at R3.tl.tl.tl h3 R3.hd
    · rw [l] at h3; exact post_at R3.tl.tl.tl h3 dve
  · exact h1.elim
theorem re_getOrB (rk : RE K C E .s tk mk) (rz : RE K C E .s tz mz) : RE K C E .s (tDGet2 (tVar i) tk tz) (mGetOrB i mk mz) := by
  intro y G W S H σ st Q R h
  unfold mGetOrB mB at h
  split at h
  · rename_i c0 e0
    cases hc0 : c0.rd with
    | none => rw [hc0] at h; exact h.elim
    | some dx0 =>
      rw [hc0] at h
      obtain ⟨x, e1, b1⟩ := R.bo e0 hc0
      refine ⟨x, e1, ?_⟩
      have h : Post K C E y G W σ .s (if (dParts dx0).isSome = true then (mk st).bd fun k s => (mz s).bd fun z s => (match s[i]? with | some (some c) => ofO c.rd s | _ => .bad).bd fun x s => ofO (if flatK k = true then dOrD x k z else none) s else .bad) Q := h
      split at h
      · rename_i c
        obtain ⟨p, hp⟩ := Option.isSome_iff_exists.mp c
        obtain ⟨a, ex, isd⟩ : ∃ a, x = .ref a ∧ IsD H a := by
          cases dx0 <;> try (cases hp; done)
          obtain ⟨a, vs, e, g, r⟩ := b1.dic
          refine ⟨a, e, ?_⟩
          rcases dic_kinds g r with ⟨kk, hh, _⟩ | ⟨kk, rs, hh, _⟩
          · exact .inl ⟨kk, .inl hh⟩
          · exact .inr ⟨kk, .inl hh⟩
        refine ⟨a, ex, isd, ?_⟩
        refine rk.uS (P := fun o => Post K C E y G W σ .s o Q) ipP .rfl R h fun dk s2 S2 k H2 R2 h2 => ?_
        refine rz.uS (P := fun o => Post K C E y G W σ .s o Q) ipP (.g .rfl) R2 h2 fun dz s3 S3 z H3 R3 h3 => ?_
        split at h3
        · rename_i c' e'
          cases hc : c'.rd with
          | none => rw [hc] at h3; exact h3.elim
          | some dx =>
            rw [hc] at h3
            have h3 : Post K C E y G W σ .s (ofO (if flatK dk = true then dOrD dx dk dz else none) s3) Q := h3
            obtain ⟨fk, h3⟩ := post_if' h3
            obtain ⟨kk, rfl⟩ := flat_ex fk
            obtain ⟨p', hp', h3⟩ := post_bind h3
            obtain ⟨ok, h3⟩ := post_if h3
            obtain ⟨x2, e2, b2⟩ := R3.bo e' hc
            rw [e1] at e2; cases e2
            obtain ⟨a', o, e, dg, _, zz⟩ := dget_at b2 (.inl ⟨kk, rfl, key_kV R3.tl.hd⟩) hp' ok
            rw [ex] at e; cases e
            refine ⟨o, dg, ?_⟩
            rcases zz with ⟨rfl, l⟩ | ⟨v, e', rfl, l, dve⟩
            · rw [l] at h3; exact post_at R3.tl.tl h3 R3.hd
            · rw [l] at h3; exact post_at R3.tl.tl h3 dve
        · exact h3.elim
      · exact h.elim
  · exact h.elim
end
section
variable {X : Cx} {C : Ct} {E : WX} {md : Md} {b e o f : Expr} {m mo mk mz : MS → Out PyData} {mr : MS → Out (List PyData)} {es : List Expr} {n : Nat} {pos p1 p2 p3 apos cpos : Pos} {x : Str} {a : Addr} {i : Nat} {x1 : Nat}
theorem q_putK {b : Expr} (hu : X.A.units + 1 < cLine) (hN : X.N[i]? = some x := by rfl) (hv : Vis X.env.scope x := by first | exact Or.inl rfl | exact Or.inr (Or.inl rfl) | exact Or.inr (Or.inr rfl)) (hb : QE X C E .s b mk) (h : QE X C E .s e m)
    (ha : ∀ v, assign (.Subscript (.Name x p1) b p2) X.env v = (do
      let ov ← holding [v] (eval (.Name x p1) X.env)
      let iv ← holding [v, ov] (eval b X.env)
      standAt p2
      holding [v, ov, iv] (setItem ov iv v)
      release [v, ov, iv] []) := by intro _; rfl)
    (hs : swapsWithSole [.Subscript (.Name x p1) b p2] e pos.line X.env = pure false := by rfl) (hw : swappedStores [.Subscript (.Name x p1) b p2] e X.env = pure none := by rfl)
    (h1 : (assignEach [.Subscript (.Name x p1) b p2] X.env).map (·.2) = [assign (.Subscript (.Name x p1) b p2) X.env] := by rfl) (hd : (x == ("__debug__" : Str)) = false := by decide) (hcd : (x == ("__classdict__" : Str)) = false := by decide) :
    QS X C E (.Assign [.Subscript (.Name x p1) b p2] e pos) (mPutK i mk m) := by
  obtain ⟨t, p, r⟩ := h.ex; obtain ⟨tb, pb, rb⟩ := hb.ex
  exact ⟨⟨_, ps_asg p (pg_sub (pe_var hN hv hd hcd) pb (set_dict hu) ha) hs hw h1, rs_putK r rb⟩⟩
theorem q_putT (hu : X.A.units + 1 < cLine) (hN : X.N[i]? = some x := by rfl) (hv : Vis X.env.scope x := by first | exact Or.inl rfl | exact Or.inr (Or.inl rfl) | exact Or.inr (Or.inr rfl)) (hb : QA X C E (List.replicate n none) es mr) (h : QE X C E .s e m)
    (ha : ∀ v, assign (.Subscript (.Name x p1) (.Tuple es x1 p3) p2) X.env v = (do
      let ov ← holding [v] (eval (.Name x p1) X.env)
      let iv ← holding [v, ov] (eval (.Tuple es x1 p3) X.env)
      standAt p2
      holding [v, ov, iv] (setItem ov iv v)
      release [v, ov, iv] []) := by intro _; rfl)
    (hs : swapsWithSole [.Subscript (.Name x p1) (.Tuple es x1 p3) p2] e pos.line X.env = pure false := by rfl) (hw : swappedStores [.Subscript (.Name x p1) (.Tuple es x1 p3) p2] e X.env = pure none := by rfl)
    (h1 : (assignEach [.Subscript (.Name x p1) (.Tuple es x1 p3) p2] X.env).map (·.2) = [assign (.Subscript (.Name x p1) (.Tuple es x1 p3) p2) X.env] := by rfl) (hd : (x == ("__debug__" : Str)) = false := by decide) (hcd : (x == ("__classdict__" : Str)) = false := by decide) :
    QS X C E (.Assign [.Subscript (.Name x p1) (.Tuple es x1 p3) p2] e pos) (mPutT i mr m) := by
  obtain ⟨t, p, r⟩ := h.ex; obtain ⟨tb, pb, rb⟩ := hb.ex
  exact ⟨⟨_, ps_asg p (pg_sub (pe_var hN hv hd hcd) (pe_tup pb) (set_dict hu) ha) hs hw h1, rs_putT r rb⟩⟩
theorem q_gT (hu : X.A.units + 1 < cLine) (ho : QE X C E .s o mo) (hb : QA X C E (List.replicate n none) es mr) (hs : NoSl (.Tuple es x1 p3)) : QE X C E .s (.Subscript o (.Tuple es x1 p3) pos) (mGT mo mr) := by
  obtain ⟨to, po, ro⟩ := ho.ex; obtain ⟨tb, pb, rb⟩ := hb.ex
  exact ⟨⟨_, pe_dget hu po (pe_tup pb) hs, re_gT ro rb⟩⟩
theorem q_gTB (hu : X.A.units + 1 < cLine) (hN : X.N[i]? = some x := by rfl) (hv : Vis X.env.scope x := by first | exact Or.inl rfl | exact Or.inr (Or.inl rfl) | exact Or.inr (Or.inr rfl)) (hb : QA X C E (List.replicate n none) es mr) (hs : NoSl (.Tuple es x1 p3)) (hd : (x == ("__debug__" : Str)) = false := by decide) (hcd : (x == ("__classdict__" : Str)) = false := by decide) : QE X C E .s (.Subscript (.Name x p1) (.Tuple es x1 p3) pos) (mGTB i mr) := by
  obtain ⟨tb, pb, rb⟩ := hb.ex
  exact ⟨⟨_, pe_dget hu (pe_var hN hv hd hcd) (pe_tup pb) hs, re_gTB rb⟩⟩
theorem q_inTB (hu : X.A.units + 1 < cLine) (hN : X.N[i]? = some x := by rfl) (hv : Vis X.env.scope x := by first | exact Or.inl rfl | exact Or.inr (Or.inl rfl) | exact Or.inr (Or.inr rfl)) (hb : QA X C E (List.replicate n none) es mr) (hm : behindInMarks .In (.Name x p1) = false := by rfl) (hd : (x == ("__debug__" : Str)) = false := by decide) (hcd : (x == ("__classdict__" : Str)) = false := by decide) : QT X C E (.Compare (.Tuple es x1 p3) [.In] [.Name x p1] pos) (mTest (mInTB dInD mr i)) := by
  obtain ⟨tb, pb, rb⟩ := hb.ex
  exact ⟨⟨_, pt_cmp (pc_din hu (pe_tup pb) (pe_var hN hv hd hcd)) hm, rt_b (re_inTB rb)⟩⟩
theorem q_getOr (hu : X.A.units + 1 < cLine) (ho : QE X C E .s o mo) (he : QE X C E .s e mk) (hf : QE X C E .s f mz) (mm : M2 X o "get" apos e f cpos) : QE X C E .s (.Call (.Attribute o "get" apos) [e, f] [] cpos) (mGetOr mo mk mz) := by
  obtain ⟨to, po, ro⟩ := ho.ex; obtain ⟨te, pe, re⟩ := he.ex; obtain ⟨tf, pf, rf⟩ := hf.ex
  exact ⟨⟨_, pe_dget2 hu po pe pf mm, re_getOr ro re rf⟩⟩
theorem q_getOrB (hu : X.A.units + 1 < cLine) (hN : X.N[i]? = some x := by rfl) (hv : Vis X.env.scope x := by first | exact Or.inl rfl | exact Or.inr (Or.inl rfl) | exact Or.inr (Or.inr rfl)) (he : QE X C E .s e mk) (hf : QE X C E .s f mz) (mm : M2 X (.Name x p1) "get" apos e f cpos) (hd : (x == ("__debug__" : Str)) = false := by decide) (hcd : (x == ("__classdict__" : Str)) = false := by decide) : QE X C E .s (.Call (.Attribute (.Name x p1) "get" apos) [e, f] [] cpos) (mGetOrB i mk mz) := by
  obtain ⟨te, pe, re⟩ := he.ex; obtain ⟨tf, pf, rf⟩ := hf.ex
  exact ⟨⟨_, pe_dget2 hu (pe_var hN hv hd hcd) pe pf mm, re_getOrB re rf⟩⟩
end
end MV

set_option Elab.async false
set_option linter.all false
set_option maxRecDepth 100000
set_option maxHeartbeats 2000000
/-! VM: lambdas handed to a def that catches errors; repr where the guards are known. -/
namespace MV
open PySem PySem.Spec PyProof.Rows L2 FR
/-- the word of an error's class -/
def ewOf (ws : List (Str × Str)) (c : Str) : Option Str := (ws.find? fun q => q.1 == c).map (·.2)
theorem ewOf_mem {ws : List (Str × Str)} {c z : Str} (h : ewOf ws c = some z) : ∃ q ∈ ws, q.1 = c ∧ q.2 = z := by
  unfold ewOf at h
  obtain ⟨q, e, rfl⟩ := Option.map_eq_some_iff.mp h
  exact ⟨q, List.mem_of_find?_eq_some e, by simpa using List.find?_some e, rfl⟩
def mLam (ws : List (Str × Str)) (told : Str) (m : MS → Out PyData) (st : MS) : Out PyData := match m st with
  | .ok _ s => .ok (.str told) s
  | .err c [] s => match ewOf ws c with
    | some z => .ok (.str z) s
    | none => .bad
  | _ => .bad
/-- what such a def makes of a lambda -/
def TTw (M : Pm) (ws : List (Str × Str)) (told : Str) : (XK → Hp → VK → Prop) → Hp → VK → Prop := fun tl H Q =>
  tl (fun cls d H' => d = none ∧ ∃ q ∈ ws, cls = .ref (M.cls q.1) ∧ ∀ H'', Kp M.tabs [] H' H'' → Q (.str q.2) H'') H (fun _ H' => ∃ v, some (some (V.str told)) = some (some v) ∧ Q v H')
section
variable {K : PySem.W.Frag} {C : Ct} {E : WX} {M : Pm} {ws : List (Str × Str)} {told : Str} {t : XK → TE} {m : MS → Out PyData}
theorem re_lam (hc : C.cls = M.cls) (hT : C.T = M.tabs) (r : ∀ E' : XK, RE K C (fun cl dx _ H => E' cl dx H) .s (t E') m) : RE K C E .s (LamX.tLam M.tabs (TTw M ws told) t) (mLam ws told m) := by
  intro y G W S H σ st Q R h
  have tb := R.tabs
  rw [hT] at tb
  refine ⟨tb, fun H1 eN T1 => ?_⟩
  have R1 : Rel K C y G W S H1 σ st := R.keep ⟨fun b o e t _ => eN b o e t, fun _ => by rw [hT]; exact T1⟩
  refine r _ y G W S H1 σ st _ R1 ?_
  unfold mLam at h
  generalize m st = o at h ⊢
  cases o with
  | ok d s => exact fun S' v H' R' => ⟨_, rfl, h S' _ H' (R'.tl.addG rfl)⟩
  | bad => exact h
  | err c fs s =>
    cases fs with
    | cons q fs => exact h.elim
    | nil =>
      intro S' H' cl dx R' ev
      cases e : ewOf ws c with
      | none =>
        have h : Post K C E y G W σ .s (match ewOf ws c with | some z => Out.ok (.str z) s | none => .bad) Q := h
        rw [e] at h; exact h.elim
      | some z =>
        have h : Post K C E y G W σ .s (match ewOf ws c with | some z => Out.ok (.str z) s | none => .bad) Q := h
        rw [e] at h
        obtain ⟨q, mq, eq1, eq2⟩ := ewOf_mem e
        obtain ⟨e1, e2 | ⟨e2, _⟩⟩ := ev
        · refine ⟨e2.2, q, mq, by rw [e1, hc, eq1], fun H'' k => ?_⟩
          rw [← hT] at k
          rw [eq2]
          exact post_at (R'.keep k) h rfl
        · exact absurd rfl e2
end
section
variable {X : Cx} {C : Ct} {E : WX} {M : Pm} {ws : List (Str × Str)} {told : Str} {m : MS → Out PyData}
/-- x(lambda: body) -/
theorem q_lam {x a : Str} {c P : Addr} {k : Nat} {st : Stmt} {Ng : List Str} {params : Arguments} {body : Expr} {scope : Scope} {p lpos pos : Pos}
    (h : HasL X.K X.mg x a st Ng) (hG : ∀ (g : Addr) (cdv : Value), LamX.GivesTo X Ng x (defScope st) g cdv (defBody st) a (X.env.qual ++ "<lambda>") (TTw M ws told)) (hg : Gl X x)
    (TB : LamX.TabB X.base X.mg c P) (hcode : X.env.code = .ref c) (hmT : (P, X.env.qual ++ "<lambda>") ∈ M.tabs) (hu : ∀ p ∈ M.tabs, p.1 = P → p.2 = X.env.qual ++ "<lambda>") (hr : Room (k + 2) X.A)
    (L : LamX.LamS X.env.scope scope) (hdef : defaultsOf params X.env = ([], []))
    (hbind : ∀ (q : Str) (cl : List (Str × Addr)) (pm cv ctv : Value), bindArgs (PySem.W.kla_fn "<lambda>" q params body scope cl pm cv ctv) ⟨[], []⟩ = pure [])
    (hbody : ∃ t : XK → TE, (∀ (A : Around) (outer : List Env) (s : Shared) (H : Hp) (E : XK) (f c' : Addr), Room k (A.deeper (LamX.lamEnv X scope s.heap.objs.size f c')) → PE (LamX.lamCx X A outer s H E scope f c') body (t E)) ∧ ∀ E' : XK, RE X.K C (fun cl dx _ H => E' cl dx H) .s (t E') m)
    (hcl : C.cls = M.cls := by rfl) (hT : C.T = M.tabs := by rfl)
    (hdb : (x == ("__debug__" : Str)) = false := by decide) (hd : (a == ("__debug__" : Str)) = false := by decide) (hcd : (a == ("__classdict__" : Str)) = false := by decide) :
    QE X C E .s (.Call (.Name x p) [.Lambda params body scope lpos] [] pos) (mLam ws told m) := by
  obtain ⟨t, pb, rb⟩ := hbody
  exact ⟨⟨_, plam h hG hg TB hcode hmT hu hr L hdef hbind pb hdb hd hcd, re_lam hcl hT rb⟩⟩
end
/-! ### a def that may raise, called where it does not -/
def noErrF (f : List PyData → FOut) (ds : List PyData) : FOut := match f ds with
  | .err _ _ _ => .bad
  | o => o
theorem wf_noErr {f : List PyData → FOut} {ds : List PyData} {R : PyData → List PyData → Prop} {er : Str → List (Str × PyData) → List PyData → Prop} (h : WFo (f ds) R) : WF (noErrF f ds) R er := by
  have h := h.h
  refine ⟨?_⟩
  unfold noErrF
  cases e : f ds with
  | ok r outs => rw [e] at h; exact h
  | err => rw [e] at h; exact h.elim
  | bad => rw [e] at h; exact h.elim
theorem sp_noErr {M : Pm} {ks : List AK} {rk : Bool} {f : List PyData → FOut} {vs : List V} {H : Hp} {Q : VK} {E : XK} (h : spOf M ks rk (noErrF f) vs H Q E) : spOf M ks rk f vs H Q E0 := by
  obtain ⟨S, ds, h1, h2, h3, h4, h5⟩ := h
  refine ⟨S, ds, h1, h2, h3, h4, ?_⟩
  unfold noErrF at h5
  cases e : f ds with
  | ok r outs => rw [e] at h5; exact h5
  | err => rw [e] at h5; exact h5.elim
  | bad => rw [e] at h5; exact h5.elim
section
variable {K : PySem.W.Frag} {C : Ct} {E : WX} {M : Pm} {ks : List AK} {rk : Bool} {f : List PyData → FOut} {sp : List (Option Nat)} {ta : TA} {ma : MS → Out (List PyData)}
theorem re_callN (ra : RA K C E sp ta ma) (hok : okSp sp ks = true := by rfl) (hK : K = M.K := by rfl) (hc : C.cls = M.cls := by rfl) (hT : C.T = M.tabs := by rfl) :
    RE K C E (rkMd rk) (tCall (spOf M ks rk f) [] E0 ta) (mCall (noErrF f) sp ks ma) := by
  intro y G W S H σ st Q R h
  show ta σ H _
  refine ra.u (P := fun o => Post K C E y G W σ (rkMd rk) o Q) ipP .rfl R h fun ds s S1 vs g H1 ac R1 h1 => ?_
  rw [List.append_nil]
  exact sp_noErr (call_core (Ex := fun cl dx H => E cl dx σ H) hK hc hT hok (fun _ _ _ h => h) ac R1 rfl h1)
end
section
variable {X : Cx} {CX : CXT} {C : Ct} {E : WX} {M : Pm} {ks : List AK} {f : List PyData → FOut} {sp : List (Option Nat)} {e : Expr} {es : List Expr} {mr : MS → Out (List PyData)} {x : Str} {k : Nat} {ps : List Str} {p pos : Pos}
theorem q_callNS (h : Has X.prog X.w X.K X.mg X.base (L2.CX X.prog X.w) x k ps (spOf M ks false f)) (hr : Room k X.A) (hg : Gl X x) (ha : QA X C E sp (e :: es) mr) (hok : okSp sp ks = true := by rfl) (hK : X.K = M.K := by rfl) (hc : C.cls = M.cls := by rfl) (hT : C.T = M.tabs := by rfl)
    (hdb : (x == ("__debug__" : Str)) = false := by decide) (he : starEach (e :: es) X.env = (false, eval e X.env) :: starEach es X.env := by rfl) (hpl : (backTo pos (starEach es X.env)).any (·.1) = false := by rfl) :
    QE X C E .s (.Call (.Name x p) (e :: es) [] pos) (mCall (noErrF f) sp ks mr) := by
  obtain ⟨t, pa, ra⟩ := ha.ex
  exact ⟨⟨_, pc h hr hg passL pa hdb he hpl, re_callN (rk := false) ra hok hK hc hT⟩⟩
theorem q_callNF (h : Has X.prog X.w X.K X.mg X.base (L2.CX X.prog X.w) x k ps (spOf M ks true f)) (hr : Room k X.A) (hg : Gl X x) (ha : QA X C E sp (e :: es) mr) (hok : okSp sp ks = true := by rfl) (hK : X.K = M.K := by rfl) (hc : C.cls = M.cls := by rfl) (hT : C.T = M.tabs := by rfl)
    (hdb : (x == ("__debug__" : Str)) = false := by decide) (he : starEach (e :: es) X.env = (false, eval e X.env) :: starEach es X.env := by rfl) (hpl : (backTo pos (starEach es X.env)).any (·.1) = false := by rfl) :
    QE X C E .f (.Call (.Name x p) (e :: es) [] pos) (mCall (noErrF f) sp ks mr) := by
  obtain ⟨t, pa, ra⟩ := ha.ex
  exact ⟨⟨_, pc h hr hg passL pa hdb he hpl, re_callN (rk := true) ra hok hK hc hT⟩⟩
end
theorem exm_own {K : PySem.W.Frag} {mg : Str → Option Value} {x : Str} {C D : Addr} (hC : ErrC K mg x C) (hs : PySem.W.subIn K (.ref D) (.ref C) = some true) : PySem.W.exmOne K (.ref D) (.ref C) = some true :=
  PySem.W.exm_ref hC.b hC.c.hd hC.t hs
/-! ### repr -/
section
variable {K : PySem.W.Frag} {C : Ct}
def reprB (d : PyData) : Bool := d.showable && decide (d.depth ≤ 30) && decide (d.shown.length ≤ LIM) && !d.hasDict
def reprD : PyData → Option PyData
  | .int i => if i.natAbs.log2 < 1920 then some (.str (toString i)) else none
  | .bool b => some (.str (if b then "True" else "False"))
  | .list ds => if reprB (.list ds) = true then some (.str (PyData.shown (.list ds))) else none
  | .tuple ds => if reprB (.tuple ds) = true then some (.str (PyData.shown (.tuple ds))) else none
  | _ => none
abbrev rReprG (K : PySem.W.Frag) : List V → Hp → VK → Prop := fun xs H Q => rReprI xs H Q ∨ rReprB xs H Q ∨ rReprD K xs H Q
theorem call_reprG {X : Cx} (hgd : X.A.guards = some []) (hu : X.A.units + 64 < cLine) : CallR X (.builtin "repr") (rReprG X.K) := by
  intro pins s σ H xs us Q I r h
  rcases h with h | h | h
  · exact call_reprI pins s σ H xs us Q I r h
  · exact call_reprB pins s σ H xs us Q I r h
  · exact call_reprD hgd hu pins s σ H xs us Q I r h
theorem ok_repr : CbOk K C .s (rReprG K) reprD := by
  intro E y G W S H σ st x dx Q R b h
  have ref : ∀ d, reprB d = true → (∀ v, BoV K S H d v → ∃ a, v = .ref a) → BoV K S H d x → Post K C E y G W σ .s (.ok (.str d.shown) st) Q → rReprG K [x] H Q := by
    intro d hb hv b h
    unfold reprB at hb
    simp only [Bool.and_eq_true, Bool.not_eq_true', decide_eq_true_eq] at hb
    obtain ⟨a, rfl⟩ := hv x b
    exact .inr (.inr ⟨a, d, rfl, b.dp hb.2, hb.1.1.1, hb.1.1.2, by rw [lim_eq]; exact hb.1.2, post_at R h rfl⟩)
  cases dx <;> try exact h.elim
  · rw [b.bl]; exact .inr (.inl ⟨_, rfl, post_at R h rfl⟩)
  · obtain ⟨l, h⟩ := post_if h
    rw [b.int]; exact .inl ⟨_, rfl, l, post_at R h rfl⟩
  · obtain ⟨l, h⟩ := post_if h
    exact ref _ l (fun v b => by obtain ⟨a, vs, e, _⟩ := b.lst; exact ⟨a, e⟩) b h
  · obtain ⟨l, h⟩ := post_if h
    exact ref _ l (fun v b => by obtain ⟨a, vs, e, _⟩ := b.tup; exact ⟨a, e⟩) b h
end
/-! ### defs that know the guards -/
section
variable {P : Program} {w : World} {mg : Str → Option Value} {base : Heap} {x : Str} {st : Stmt} {N ps : List Str} {k n : Nat} {M : Pm} {ks : List AK} {rk : Bool} {m : MSt}
theorem hasG_of (D : DefIn M.K mg x st) (S : FnScope N ps (defScope st)) (b : BindsBy x st ps)
    (q : ∀ (f : Addr) (cdv : Value) (A : Around) (outer : List Env) (s : Shared) (H : Hp) (E : XK), A.guards = some [] → Room k (A.deeper (envOfC x (defScope st) s.heap.objs.size f cdv)) →
      QSs (cxOf CX0 P w M.K mg base N x (defScope st) f cdv A outer s H E).nox ⟨M.cls, M.tabs, n, ioN ks 0, rk⟩ (fun cl dx _ H => E cl dx H) (defBody st) m) (hn : n = N.length := by rfl) (hl : ks.length = ps.length := by rfl) (hl2 : ks.length ≤ n := by exact Nat.le_of_ble_eq_true rfl) :
    HasG P w M.K mg base CX0 x (k + 1) ps (spOf M ks rk (runF n ks rk m)) :=
  D.hasG S b (len_spOf hl) fun f cdv A outer s H vs Q E hgd hr h => by
    obtain ⟨t, p, r⟩ := (q f cdv A outer s H E hgd hr).ex
    exact ⟨t, p, body_ok hn hl2 r h⟩
theorem hasT_of {c : Addr} (D : DefT M.K mg x st c) (S : FnScope N ps (defScope st)) (b : BindsBy x st ps)
    (q : ∀ (f : Addr) (A : Around) (outer : List Env) (s : Shared) (H : Hp) (E : XK), Room k (A.deeper (envOfC x (defScope st) s.heap.objs.size f (.ref c))) →
      QSs (cxOf CX0 P w M.K mg base N x (defScope st) f (.ref c) A outer s H E).nox ⟨M.cls, M.tabs, n, ioN ks 0, rk⟩ (fun cl dx _ H => E cl dx H) (defBody st) m) (hn : n = N.length := by rfl) (hl : ks.length = ps.length := by rfl) (hl2 : ks.length ≤ n := by exact Nat.le_of_ble_eq_true rfl) :
    Has P w M.K mg base CX0 x (k + 1) ps (spOf M ks rk (runF n ks rk m)) :=
  D.has S b (len_spOf hl) fun f A outer s H vs Q E hr h => by
    obtain ⟨t, p, r⟩ := (q f A outer s H E hr).ex
    exact ⟨t, p, body_ok hn hl2 r h⟩
theorem hasTG_of {c : Addr} (D : DefT M.K mg x st c) (S : FnScope N ps (defScope st)) (b : BindsBy x st ps)
    (q : ∀ (f : Addr) (A : Around) (outer : List Env) (s : Shared) (H : Hp) (E : XK), A.guards = some [] → Room k (A.deeper (envOfC x (defScope st) s.heap.objs.size f (.ref c))) →
      QSs (cxOf CX0 P w M.K mg base N x (defScope st) f (.ref c) A outer s H E).nox ⟨M.cls, M.tabs, n, ioN ks 0, rk⟩ (fun cl dx _ H => E cl dx H) (defBody st) m) (hn : n = N.length := by rfl) (hl : ks.length = ps.length := by rfl) (hl2 : ks.length ≤ n := by exact Nat.le_of_ble_eq_true rfl) :
    HasG P w M.K mg base CX0 x (k + 1) ps (spOf M ks rk (runF n ks rk m)) :=
  D.hasG S b (len_spOf hl) fun f A outer s H vs Q E hgd hr h => by
    obtain ⟨t, p, r⟩ := (q f A outer s H E hgd hr).ex
    exact ⟨t, p, body_ok hn hl2 r h⟩
end
end MV

set_option Elab.async false
set_option linter.all false
set_option maxRecDepth 100000
set_option maxHeartbeats 2000000
/-! VNR: the rows of nodes: a list of pairs whose second parts are lists that grow. -/
namespace MV
open PySem PySem.Spec PyProof.Rows L2 FR
def rowD (q : PyData × List Int) : PyData := .tuple [q.1, .list (q.2.map .int)]
def wtD (q : PyData × Int) : PyData := .tuple [q.1, .int q.2]
/-- a part's number put to a row -/
def kidAt (rows : List (PyData × List Int)) (i : Nat) (n : Int) : List (PyData × List Int) := match rows[i]? with
  | some q => rows.set i (q.1, q.2 ++ [n])
  | none => rows
def rowsN (fp : List PyData → FOut) : Nat → List (PyData × List Int) → List (PyData × Int) → FOut
  | 0, _, _ => .bad
  | n + 1, rows, wt => match wt.getLast? with
    | none => .ok (.list (rows.map rowD)) []
    | some (here, above) => if above < rows.length ∧ -1 ≤ above ∧ rows.length < 1000000 ∧ wt.length < 1000000 ∧ (∀ q ∈ rows, q.2.length < 1000000) then match fp [here] with
      | .ok (.list ps) [] => if ps.length < 1000 then rowsN fp n ((if 0 ≤ above then kidAt rows above.toNat rows.length else rows) ++ [(here, [])]) (wt.dropLast ++ (ps.map fun p => (p, (rows.length : Int))).reverse) else .bad
      | _ => .bad
      else .bad
def rowsF (fp : List PyData → FOut) (ds : List PyData) : FOut := match ds with
  | [x] => rowsN fp 1000000 [] [(x, -1)]
  | _ => .bad
/-- rows in the heap: the pairs at ts, their lists at ks, both off S but for ks -/
def RowsR (K : PySem.W.Frag) (S : List Addr) (H : Hp) : List (PyData × List Int) → List Addr → List Addr → Prop
  | [], [], [] => True
  | q :: rows, t :: ts, k :: ks => (∃ u, H t = some (.tup [u, .ref k]) ∧ Dv K S H q.1 u ∧ H k = some (.lst (q.2.map V.int)) ∧ t ∉ S) ∧ RowsR K S H rows ts ks
  | _, _, _ => False
section
variable {K : PySem.W.Frag} {S S' : List Addr} {H H' : Hp}
theorem RowsR.len : ∀ {rows : List (PyData × List Int)} {ts ks : List Addr}, RowsR K S H rows ts ks → ts.length = rows.length ∧ ks.length = rows.length
  | [], [], [], _ => ⟨rfl, rfl⟩
  | q :: rows, t :: ts, k :: ks, h => by obtain ⟨h1, h2⟩ := RowsR.len h.2; exact ⟨congrArg (· + 1) h1, congrArg (· + 1) h2⟩
  | [], _ :: _, _, h => by cases h
  | [], [], _ :: _, h => by cases h
  | _ :: _, [], _, h => by cases h
  | _ :: _, _ :: _, [], h => by cases h
theorem RowsR.step (z : Stp S S' H H') : ∀ {rows : List (PyData × List Int)} {ts ks : List Addr}, RowsR K S H rows ts ks → (∀ k ∈ ks, H' k = H k) → RowsR K S' H' rows ts ks
  | [], [], [], _, _ => trivial
  | q :: rows, t :: ts, k :: ks, ⟨⟨u, h1, h2, h3, h4⟩, h⟩, hk => ⟨⟨u, z.k _ _ h1 (fun _ q => nomatch q) h4, z.dv h2, by rw [hk k (.head _)]; exact h3, z.s _ h4 ⟨_, h1, fun _ q => nomatch q⟩⟩, RowsR.step z h fun k m => hk k (.tail _ m)⟩
  | [], _ :: _, _, h, _ => by cases h
  | [], [], _ :: _, h, _ => by cases h
  | _ :: _, [], _, h, _ => by cases h
  | _ :: _, _ :: _, [], h, _ => by cases h
theorem RowsR.snoc {q : PyData × List Int} {t k : Addr} {u : V} (h1 : H t = some (.tup [u, .ref k])) (h2 : Dv K S H q.1 u) (h3 : H k = some (.lst (q.2.map V.int))) (h4 : t ∉ S) : ∀ {rows : List (PyData × List Int)} {ts ks : List Addr}, RowsR K S H rows ts ks → RowsR K S H (rows ++ [q]) (ts ++ [t]) (ks ++ [k])
  | [], [], [], _ => ⟨⟨u, h1, h2, h3, h4⟩, trivial⟩
  | q0 :: rows, t :: ts, k :: ks, h => ⟨h.1, RowsR.snoc h1 h2 h3 h4 h.2⟩
  | [], _ :: _, _, h => by cases h
  | [], [], _ :: _, h => by cases h
  | _ :: _, [], _, h => by cases h
  | _ :: _, _ :: _, [], h => by cases h
theorem RowsR.at : ∀ {rows : List (PyData × List Int)} {ts ks : List Addr} {i : Nat} {q : PyData × List Int}, RowsR K S H rows ts ks → rows[i]? = some q → ∃ t k u, ts[i]? = some t ∧ ks[i]? = some k ∧ H t = some (.tup [u, .ref k]) ∧ H k = some (.lst (q.2.map V.int))
  | q0 :: rows, t :: ts, k :: ks, 0, q, ⟨⟨u, h1, h2, h3, h4⟩, h⟩, e => by
    cases (Option.some.inj e : q0 = q)
    exact ⟨t, k, u, rfl, rfl, h1, h3⟩
  | q0 :: rows, t :: ts, k :: ks, i + 1, q, h, e => RowsR.at (i := i) h.2 e
  | [], _, _, i, q, h, e => by simp at e
  | _ :: _, [], _, _, _, h, _ => by cases h
  | _ :: _, _ :: _, [], _, _, h, _ => by cases h
/-- one of the lists is changed -/
theorem RowsR.put {k : Addr} {n : Int} (hkS : k ∈ S) : ∀ {rows : List (PyData × List Int)} {ts ks : List Addr} {i : Nat} {q : PyData × List Int}, RowsR K S H rows ts ks → ks.Nodup → rows[i]? = some q → ks[i]? = some k →
    RowsR K S (upd H k (.lst ((q.2 ++ [n]).map V.int))) (rows.set i (q.1, q.2 ++ [n])) ts ks
  | q0 :: rows, t :: ts, k0 :: ks, 0, q, ⟨⟨u, h1, h2, h3, h4⟩, h⟩, nd, e, ek => by
    cases (Option.some.inj e : q0 = q)
    have ek : k0 = k := Option.some.inj ek
    subst ek
    have nd' := List.nodup_cons.mp nd
    have z : Stp S S H (upd H k0 (.lst ((q0.2 ++ [n]).map V.int))) := .put hkS
    refine ⟨⟨u, by rw [upd_ne (fun e : t = k0 => h4 (by rw [e]; exact hkS))]; exact h1, z.dv h2, upd_same, h4⟩, h.step z fun k m => upd_ne fun e => nd'.1 (e ▸ m)⟩
  | q0 :: rows, t :: ts, k0 :: ks, i + 1, q, ⟨⟨u, h1, h2, h3, h4⟩, h⟩, nd, e, ek => by
    have nd' := List.nodup_cons.mp nd
    have mk : k ∈ ks := List.mem_of_getElem? (show ks[i]? = some k from ek)
    have z : Stp S S H (upd H k (.lst ((q.2 ++ [n]).map V.int))) := .put hkS
    exact ⟨⟨u, by rw [upd_ne (fun e : t = k => h4 (by rw [e]; exact hkS))]; exact h1, z.dv h2, by rw [upd_ne (fun e : k0 = k => nd'.1 (by rw [e]; exact mk))]; exact h3, h4⟩, RowsR.put hkS (i := i) h nd'.2 e ek⟩
  | [], _, _, i, q, h, _, e, _ => by simp at e
  | _ :: _, [], _, _, _, h, _, _, _ => by cases h
  | _ :: _, _ :: _, [], _, _, h, _, _, _ => by cases h
/-- at the end all is shared -/
theorem RowsR.dvs (z : Stp S S' H H) : ∀ {rows : List (PyData × List Int)} {ts ks : List Addr}, RowsR K S H rows ts ks → (∀ k ∈ ks, k ∉ S') → Dvs K S' H (rows.map rowD) (ts.map V.ref)
  | [], [], [], _, _ => rfl
  | q :: rows, t :: ts, k :: ks, ⟨⟨u, h1, h2, h3, h4⟩, h⟩, hk => ⟨.ref t, _, rfl, ⟨t, _, rfl, .inl ⟨z.s _ h4 ⟨_, h1, fun _ q => nomatch q⟩, h1⟩, ⟨u, _, rfl, z.dv h2, ⟨.ref k, _, rfl, ⟨k, _, rfl, ⟨hk k (.head _), h3⟩, ints_dvs q.2⟩, rfl⟩⟩⟩, RowsR.dvs z h fun k m => hk k (.tail _ m)⟩
  | [], _ :: _, _, h, _ => by cases h
  | [], [], _ :: _, h, _ => by cases h
  | _ :: _, [], _, h, _ => by cases h
  | _ :: _, _ :: _, [], h, _ => by cases h
theorem RowsR.ks_lst : ∀ {rows : List (PyData × List Int)} {ts ks : List Addr}, RowsR K S H rows ts ks → ∀ k ∈ ks, ∃ vs, H k = some (.lst vs)
  | [], [], [], _, k, m => by cases m
  | q :: rows, t :: ts, k0 :: ks, ⟨⟨u, h1, h2, h3, h4⟩, h⟩, k, m => by
    rcases List.mem_cons.mp m with rfl | m
    · exact ⟨_, h3⟩
    · exact RowsR.ks_lst h k m
  | [], _ :: _, _, h, _, _ => by cases h
  | [], [], _ :: _, h, _, _ => by cases h
  | _ :: _, [], _, h, _, _ => by cases h
  | _ :: _, _ :: _, [], h, _, _ => by cases h
end
/-- a piece of syntax with its mirror: the reading by itself -/
noncomputable def QE.t {X : Cx} {C : Ct} {E : WX} {md : Md} {e : Expr} {m : MS → Out PyData} (h : QE X C E md e m) : TE := h.ex.choose
theorem QE.p {X : Cx} {C : Ct} {E : WX} {md : Md} {e : Expr} {m : MS → Out PyData} (h : QE X C E md e m) : PE X e h.t := h.ex.choose_spec.1
theorem QE.r {X : Cx} {C : Ct} {E : WX} {md : Md} {e : Expr} {m : MS → Out PyData} (h : QE X C E md e m) : RE X.K C E md h.t m := h.ex.choose_spec.2
/-- what all holds ahead of each turn of the rows' loop -/
structure RowsI (K : PySem.W.Frag) (T : List (Addr × Str)) (Sc : List Addr) (H0 H : Hp) (rows : List (PyData × List Int)) (wt : List (PyData × Int)) (r w : Addr) (ts ks : List Addr) (us : List V) : Prop where
  kp : Kp T [] H0 H
  hr : H r = some (.lst (ts.map V.ref))
  hw : H w = some (.lst us)
  du : Dvs K (r :: w :: ks ++ Sc) H (wt.map wtD) us
  rr : RowsR K (r :: w :: ks ++ Sc) H rows ts ks
  nd : (r :: w :: ks).Nodup
  nw : ∀ a ∈ r :: w :: ks, ¬ NT H0 a
  sc : ∀ a ∈ Sc, Mu H0 a
  tb : LamX.Tabs T H
/-- what is due at the end -/
def RowsE (M : Pm) (Sc : List Addr) (H0 : Hp) (v0 : V) (Q : VK) (E : XK) (o : FOut) : Prop := match o with
  | .ok r outs => ∀ H' v, Kp M.tabs (iosOf [AK.sh] [v0]) H0 H' → RetV M.K Sc H0 H' [.sh] [v0] outs true r v → Q v H'
  | .err c fs outs => ∀ H' cl dx, Kp M.tabs (iosOf [AK.sh] [v0]) H0 H' → OutsR M.K Sc H' [.sh] [v0] outs → ErrV M.cls c fs cl dx H' → E cl dx H'
  | .bad => False
theorem rows_init {K : PySem.W.Frag} {T : List (Addr × Str)} {Sc : List Addr} {H0 : Hp} {d0 : PyData} {v0 : V} {r t w : Addr} (hmu : ∀ a ∈ Sc, Mu H0 a) (htb : LamX.Tabs T H0) (hd : Dv K Sc H0 d0 v0) (r0 : H0 r = none) (t0 : upd H0 r (.lst []) t = none) (w0 : upd (upd H0 r (.lst [])) t (.tup [v0, .int (-1)]) w = none) :
    RowsI K T Sc H0 (upd (upd (upd H0 r (.lst [])) t (.tup [v0, .int (-1)])) w (.lst [.ref t])) [] [(d0, -1)] r w [] [] [.ref t] := by
  have rt : r ≠ t := fun e => by rw [← e, upd_same] at t0; cases t0
  have tw : t ≠ w := fun e => by rw [← e, upd_same] at w0; cases w0
  have rw' : r ≠ w := fun e => by rw [← e, upd_ne rt, upd_same] at w0; cases w0
  have t0' : H0 t = none := by rw [upd_ne rt.symm] at t0; exact t0
  have w0' : H0 w = none := by rw [upd_ne tw.symm, upd_ne rw'.symm] at w0; exact w0
  have nS : ∀ a, H0 a = none → a ∉ Sc := fun a h m => (hmu a m).tab.2.2 h
  have k1 : Kp T [] H0 (upd H0 r (.lst [])) := .new r0
  have k2 : Kp T [] (upd H0 r (.lst [])) (upd (upd H0 r (.lst [])) t (.tup [v0, .int (-1)])) := .new t0
  have k3 : Kp T [] (upd (upd H0 r (.lst [])) t (.tup [v0, .int (-1)])) (upd (upd (upd H0 r (.lst [])) t (.tup [v0, .int (-1)])) w (.lst [.ref t])) := .new w0
  have kp := (k1.trans k2).trans k3
  have st : Stp Sc (r :: w :: [] ++ Sc) H0 (upd (upd (upd H0 r (.lst [])) t (.tup [v0, .int (-1)])) w (.lst [.ref t])) := by
    refine ⟨fun a n nt m => ?_, fun b o e tt n => kp.1 b o e tt (fun m => nomatch m)⟩
    obtain ⟨o, e, _⟩ := nt
    rcases List.mem_cons.mp m with m | m
    · rw [m, r0] at e; cases e
    · rcases List.mem_cons.mp m with m | m
      · rw [m, w0'] at e; cases e
      · exact n m
  refine ⟨kp, by rw [upd_ne rw', upd_ne rt, upd_same]; rfl, upd_same, ⟨.ref t, _, rfl, ⟨t, _, rfl, .inl ⟨fun m => ?_, by rw [upd_ne tw, upd_same]⟩, ⟨v0, _, rfl, st.dv hd, ⟨.int (-1), _, rfl, rfl, rfl⟩⟩⟩, rfl⟩, trivial, ?_, ?_, hmu, kp.2 htb⟩
  · rcases List.mem_cons.mp m with m | m
    · exact rt m.symm
    · rcases List.mem_cons.mp m with m | m
      · exact tw m
      · exact nS t t0' m
  · simp [rw']
  · intro a m
    rcases List.mem_cons.mp m with m | m
    · rw [m]; exact nt_none r0
    · rw [List.mem_singleton.mp m]; exact nt_none w0'
theorem rows_end {M : Pm} {Sc : List Addr} {H0 H : Hp} {v0 : V} {Q : VK} {E : XK} {fp : List PyData → FOut} {m : Nat} {rows : List (PyData × List Int)} {r w : Addr} {ts ks : List Addr} {us : List V} (I : RowsI M.K M.tabs Sc H0 H rows [] r w ts ks us) (hm : RowsE M Sc H0 v0 Q E (rowsN fp (m + 1) rows [])) : Q (.ref r) H := by
  have hm : ∀ H' v, Kp M.tabs (iosOf [AK.sh] [v0]) H0 H' → RetV M.K Sc H0 H' [.sh] [v0] [] true (.list (rows.map rowD)) v → Q v H' := hm
  refine hm H _ I.kp ?_
  unfold RetV
  rw [if_pos rfl]
  have nd := List.nodup_cons.mp I.nd
  refine ⟨r, rfl, I.nw r (.head _), trivial, .inl ⟨_, _, rfl, I.hr, I.rr.dvs (.sub fun a m => ?_) fun k m n => ?_⟩⟩
  · rcases List.mem_cons.mp m with m | m
    · rw [m]; exact .head _
    · exact List.mem_append_right _ m
  · rcases List.mem_cons.mp n with n | n
    · exact nd.1 (.tail _ (n ▸ m))
    · exact I.nw k (.tail _ (.tail _ m)) (I.sc k n).nt
theorem rows_go {M : Pm} {Sc : List Addr} {H0 : Hp} {v0 : V} {Q : VK} {E : XK} {fp : List PyData → FOut} {m : Nat} {rows : List (PyData × List Int)} {wt0 : List (PyData × Int)} {here : PyData} {ab : Int} (hm : RowsE M Sc H0 v0 Q E (rowsN fp (m + 1) rows (wt0 ++ [(here, ab)]))) :
    ∃ ps, ab < rows.length ∧ -1 ≤ ab ∧ rows.length < 1000000 ∧ (wt0 ++ [(here, ab)]).length < 1000000 ∧ (∀ q ∈ rows, q.2.length < 1000000) ∧ fp [here] = .ok (.list ps) [] ∧ ps.length < 1000 ∧
      RowsE M Sc H0 v0 Q E (rowsN fp m ((if 0 ≤ ab then kidAt rows ab.toNat rows.length else rows) ++ [(here, [])]) (wt0 ++ (ps.map fun p => (p, (rows.length : Int))).reverse)) := by
  unfold rowsN at hm
  rw [List.getLast?_append] at hm
  dsimp only [List.getLast?_singleton, Option.some_or] at hm
  rw [List.dropLast_concat] at hm
  split at hm
  · rename_i c
    split at hm
    · rename_i ps e
      split at hm
      · rename_i c2
        exact ⟨ps, c.1, c.2.1, c.2.2.1, c.2.2.2.1, c.2.2.2.2, e, c2, hm⟩
      · exact hm.elim
    · exact hm.elim
  · exact hm.elim
theorem rows_last {K : PySem.W.Frag} {S : List Addr} {H : Hp} {wt0 : List (PyData × Int)} {q : PyData × Int} {us : List V} (h : Dvs K S H ((wt0 ++ [q]).map wtD) us) : ∃ us0 y, us = us0 ++ [y] ∧ Dvs K S H (wt0.map wtD) us0 ∧ Dv K S H (wtD q) y := by
  rw [List.map_append] at h
  obtain ⟨us0, ws, e, h1, h2⟩ := Dvs.app_inv h
  obtain ⟨y, ws', e2, h3, e3⟩ := h2
  have e3 : ws' = [] := e3
  subst e e2 e3
  exact ⟨us0, y, rfl, h1, h3⟩
section
variable {K : PySem.W.Frag} {T : List (Addr × Str)} {Sc : List Addr} {H0 H : Hp} {rows : List (PyData × List Int)} {wt wt0 : List (PyData × Int)} {r w : Addr} {ts ks : List Addr} {us us0 : List V}
theorem RowsI.rw (I : RowsI K T Sc H0 H rows wt r w ts ks us) : r ≠ w := fun e => (List.nodup_cons.mp I.nd).1 (by rw [e]; exact .head _)
theorem RowsI.rk (I : RowsI K T Sc H0 H rows wt r w ts ks us) {k : Addr} (m : k ∈ ks) : k ≠ r ∧ k ≠ w := ⟨fun e => (List.nodup_cons.mp I.nd).1 (.tail _ (e ▸ m)), fun e => (List.nodup_cons.mp (List.nodup_cons.mp I.nd).2).1 (e ▸ m)⟩
theorem RowsI.mu (I : RowsI K T Sc H0 H rows wt r w ts ks us) : ∀ a ∈ r :: w :: ks ++ Sc, Mu H a := by
  intro a m
  rcases List.mem_cons.mp m with m | m
  · rw [m]; exact .inl ⟨_, I.hr⟩
  · rcases List.mem_cons.mp m with m | m
    · rw [m]; exact .inl ⟨_, I.hw⟩
    · rcases List.mem_append.mp m with m | m
      · exact .inl (I.rr.ks_lst a m)
      · unfold Mu; rw [I.kp.at (I.sc a m).nt (fun m => nomatch m)]; exact I.sc a m
theorem rows_pop {q : PyData × Int} {y : V} (I : RowsI K T Sc H0 H rows (wt0 ++ [q]) r w ts ks (us0 ++ [y])) (du : Dvs K (r :: w :: ks ++ Sc) H (wt0.map wtD) us0) : RowsI K T Sc H0 (upd H w (.lst us0)) rows wt0 r w ts ks us0 ∧ Stp (r :: w :: ks ++ Sc) (r :: w :: ks ++ Sc) H (upd H w (.lst us0)) := by
  have z : Stp (r :: w :: ks ++ Sc) (r :: w :: ks ++ Sc) H (upd H w (.lst us0)) := .put (.tail _ (.head _))
  have mu : Mu H w := .inl ⟨_, I.hw⟩
  refine ⟨⟨I.kp.then (.put mu (List.mem_singleton.mpr rfl)) fun x m => .inr (by rw [List.mem_singleton.mp m]; exact I.nw w (.tail _ (.head _))), by rw [upd_ne I.rw]; exact I.hr, upd_same, z.dvs du, I.rr.step z fun k m => upd_ne (I.rk m).2, I.nd, I.nw, I.sc, (Kp.put (T := T) mu (List.mem_singleton.mpr rfl)).2 I.tb⟩, z⟩
theorem rows_kid (I : RowsI K T Sc H0 H rows wt r w ts ks us) {i : Nat} {q : PyData × List Int} {n : Int} (e : rows[i]? = some q) : ∃ t k u, ts[i]? = some t ∧ H t = some (.tup [u, .ref k]) ∧ H k = some (.lst (q.2.map V.int)) ∧
    RowsI K T Sc H0 (upd H k (.lst (q.2.map V.int ++ [.int n]))) (rows.set i (q.1, q.2 ++ [n])) wt r w ts ks us ∧ Stp (r :: w :: ks ++ Sc) (r :: w :: ks ++ Sc) H (upd H k (.lst (q.2.map V.int ++ [.int n]))) := by
  obtain ⟨t, k, u, h1, h2, h3, h4⟩ := I.rr.at e
  have mk : k ∈ ks := List.mem_of_getElem? h2
  have mS : k ∈ r :: w :: ks ++ Sc := .tail _ (.tail _ (List.mem_append_left _ mk))
  have z : Stp (r :: w :: ks ++ Sc) (r :: w :: ks ++ Sc) H (upd H k (.lst (q.2.map V.int ++ [.int n]))) := .put mS
  have mu : Mu H k := .inl ⟨_, h4⟩
  have ev : (q.2 ++ [n]).map V.int = q.2.map V.int ++ [.int n] := by rw [List.map_append]; rfl
  have rr := I.rr.put (n := n) mS (List.nodup_cons.mp (List.nodup_cons.mp I.nd).2).2 e h2
  rw [ev] at rr
  exact ⟨t, k, u, h1, h3, h4, ⟨I.kp.then (.put mu (List.mem_singleton.mpr rfl)) fun x m => .inr (by rw [List.mem_singleton.mp m]; exact I.nw k (.tail _ (.tail _ mk))), by rw [upd_ne (I.rk mk).1.symm]; exact I.hr, by rw [upd_ne (I.rk mk).2.symm]; exact I.hw, z.dvs I.du, rr, I.nd, I.nw, I.sc, (Kp.put (T := T) mu (List.mem_singleton.mpr rfl)).2 I.tb⟩, z⟩
theorem rows_new (I : RowsI K T Sc H0 H rows wt r w ts ks us) {here : PyData} {vh : V} {k t : Addr} (dh : Dv K (r :: w :: ks ++ Sc) H here vh) (k0 : H k = none) (t0 : upd H k (.lst []) t = none) :
    (upd (upd H k (.lst [])) t (.tup [vh, .ref k])) r = some (.lst (ts.map V.ref)) ∧
    RowsI K T Sc H0 (upd (upd (upd H k (.lst [])) t (.tup [vh, .ref k])) r (.lst (ts.map V.ref ++ [.ref t]))) (rows ++ [(here, [])]) wt r w (ts ++ [t]) (ks ++ [k]) us ∧
    Dv K (r :: w :: (ks ++ [k]) ++ Sc) (upd (upd (upd H k (.lst [])) t (.tup [vh, .ref k])) r (.lst (ts.map V.ref ++ [.ref t]))) here vh := by
  have kt : k ≠ t := fun e => by rw [← e, upd_same] at t0; cases t0
  have t0' : H t = none := by rw [upd_ne kt.symm] at t0; exact t0
  have nn : ∀ a, H a = none → a ∉ r :: w :: ks ++ Sc := fun a h m => (I.mu a m).tab.2.2 h
  have rk : r ≠ k := fun e => nn k k0 (e ▸ .head _)
  have rt : r ≠ t := fun e => nn t t0' (e ▸ .head _)
  have wk : w ≠ k := fun e => nn k k0 (e ▸ .tail _ (.head _))
  have wt' : w ≠ t := fun e => nn t t0' (e ▸ .tail _ (.head _))
  have k1 : Kp T [] H (upd H k (.lst [])) := .new k0
  have k2 : Kp T [] (upd H k (.lst [])) (upd (upd H k (.lst [])) t (.tup [vh, .ref k])) := .new t0
  have hr4 : (upd (upd H k (.lst [])) t (.tup [vh, .ref k])) r = some (.lst (ts.map V.ref)) := by rw [upd_ne rt, upd_ne rk]; exact I.hr
  have mu : Mu (upd (upd H k (.lst [])) t (.tup [vh, .ref k])) r := .inl ⟨_, hr4⟩
  have k4 := I.kp.trans (k1.trans k2)
  have nt0 : ∀ a, H a = none → ¬ NT H0 a := fun a h n => by
    obtain ⟨o, e, tt⟩ := n
    have := I.kp.1 a o e tt (fun m => nomatch m)
    rw [h] at this; cases this
  have hS : ∀ a, a ∈ r :: w :: (ks ++ [k]) ++ Sc → a ∈ r :: w :: ks ++ Sc ∨ a = k := fun a m => by
    simp only [List.mem_cons, List.mem_append, List.not_mem_nil, or_false, List.cons_append] at m ⊢
    rcases m with m | m | (m | m) | m
    · exact .inl (.inl m)
    · exact .inl (.inr (.inl m))
    · exact .inl (.inr (.inr (.inl m)))
    · exact .inr m
    · exact .inl (.inr (.inr (.inr m)))
  have z : Stp (r :: w :: ks ++ Sc) (r :: w :: (ks ++ [k]) ++ Sc) H (upd (upd (upd H k (.lst [])) t (.tup [vh, .ref k])) r (.lst (ts.map V.ref ++ [.ref t]))) := by
    refine ⟨fun a n nt m => (hS a m).elim n fun e => nt_none k0 (e ▸ nt), fun b o e tt n => ?_⟩
    rw [upd_ne (fun e2 : b = r => n (e2 ▸ .head _)), upd_ne (ne_of_none e t0'), upd_ne (ne_of_none e k0)]
    exact e
  have keep : ∀ a ∈ ks, (upd (upd (upd H k (.lst [])) t (.tup [vh, .ref k])) r (.lst (ts.map V.ref ++ [.ref t]))) a = H a := fun a m => by
    obtain ⟨vs, e⟩ := I.rr.ks_lst a m
    rw [upd_ne (I.rk m).1, upd_ne (ne_of_none e t0'), upd_ne (ne_of_none e k0)]
  have tn : t ∉ r :: w :: (ks ++ [k]) ++ Sc := fun m => (hS t m).elim (nn t t0') fun e => kt e.symm
  have ht5 : (upd (upd (upd H k (.lst [])) t (.tup [vh, .ref k])) r (.lst (ts.map V.ref ++ [.ref t]))) t = some (.tup [vh, .ref k]) := by rw [upd_ne rt.symm, upd_same]
  have hk5 : (upd (upd (upd H k (.lst [])) t (.tup [vh, .ref k])) r (.lst (ts.map V.ref ++ [.ref t]))) k = some (.lst []) := by rw [upd_ne rk.symm, upd_ne kt, upd_same]
  refine ⟨hr4, ⟨k4.then (.put mu (List.mem_singleton.mpr rfl)) fun x m => .inr (by rw [List.mem_singleton.mp m]; exact I.nw r (.head _)), by rw [upd_same, List.map_append]; rfl, ?_, z.dvs I.du, (I.rr.step z keep).snoc (q := (here, [])) ht5 (z.dv dh) hk5 tn, ?_, ?_, I.sc, (Kp.put (T := T) mu (List.mem_singleton.mpr rfl)).2 (k2.2 (k1.2 I.tb))⟩, z.dv dh⟩
  · rw [upd_ne I.rw.symm, upd_ne wt', upd_ne wk]; exact I.hw
  · have e : r :: w :: (ks ++ [k]) = (r :: w :: ks) ++ [k] := rfl
    rw [e, List.nodup_append]
    refine ⟨I.nd, by simp, fun a m b mb e => ?_⟩
    rw [List.mem_singleton.mp mb] at e
    subst e
    exact nn a k0 (List.mem_append_left (as := r :: w :: ks) Sc m)
  · intro a m
    have e : r :: w :: (ks ++ [k]) = (r :: w :: ks) ++ [k] := rfl
    rw [e] at m
    rcases List.mem_append.mp m with m | m
    · exact I.nw a m
    · rw [List.mem_singleton.mp m]; exact nt0 k k0
theorem rows_ext (I : RowsI K T Sc H0 H rows wt r w ts ks us) {H6 : Hp} {more : List (PyData × Int)} {zs : List V} (k6 : Kp T [] H H6) (dz : Dvs K (r :: w :: ks ++ Sc) H6 (more.map wtD) zs) :
    H6 w = some (.lst us) ∧ RowsI K T Sc H0 (upd H6 w (.lst (us ++ zs))) rows (wt ++ more) r w ts ks (us ++ zs) := by
  have hw6 : H6 w = some (.lst us) := k6.1 _ _ I.hw (fun _ q => nomatch q) (fun m => nomatch m)
  have hr6 : H6 r = some (.lst (ts.map V.ref)) := k6.1 _ _ I.hr (fun _ q => nomatch q) (fun m => nomatch m)
  have z6 : Stp (r :: w :: ks ++ Sc) (r :: w :: ks ++ Sc) H H6 := .of (k6.mono fun _ m => nomatch m)
  have z : Stp (r :: w :: ks ++ Sc) (r :: w :: ks ++ Sc) H6 (upd H6 w (.lst (us ++ zs))) := .put (.tail _ (.head _))
  have mu : Mu H6 w := .inl ⟨_, hw6⟩
  have r6 : RowsR K (r :: w :: ks ++ Sc) H6 rows ts ks := I.rr.step z6 fun k m => by
    obtain ⟨vs, e⟩ := I.rr.ks_lst k m
    rw [e]; exact k6.1 _ _ e (fun _ q => nomatch q) (fun m => nomatch m)
  refine ⟨hw6, (I.kp.trans k6).then (.put mu (List.mem_singleton.mpr rfl)) fun x m => .inr (by rw [List.mem_singleton.mp m]; exact I.nw w (.tail _ (.head _))), by rw [upd_ne I.rw]; exact hr6, upd_same, ?_, r6.step z fun k m => upd_ne (I.rk m).2, I.nd, I.nw, I.sc, (Kp.put (T := T) mu (List.mem_singleton.mpr rfl)).2 (k6.2 I.tb)⟩
  rw [List.map_append]
  exact (z.dvs (z6.dvs I.du)).app (z.dvs dz)
end
/-- a relation that begins here -/
theorem rel_base {K : PySem.W.Frag} {C : Ct} {S : List Addr} {H : Hp} {σ : L2.St} {st : MS} (hl : σ.length = C.n) (hl2 : st.length = C.n) (dom : ∀ a ∈ S, Mu H a) (tb : LamX.Tabs C.T H) (cells : ∀ (i : Nat) (cell : Cell), st[i]? = some (some cell) → ∃ d v, cell = .sh d ∧ σ[i]? = some (some v) ∧ Dv K S H d v) :
    Rel K C ⟨H, [], S, []⟩ [] [] S H σ st where
  ls := hl
  lt := hl2
  kp := .refl
  s0 := fun a m => ⟨m, (dom a m).nt⟩
  sin := fun a m => nomatch m
  dom := dom
  cell := fun i cell e => by
    obtain ⟨d, v, rfl, e2, h⟩ := cells i cell e
    exact ⟨v, e2, h⟩
  gd := fun _ m => nomatch m
  tg := fun _ m => nomatch m
  sep := fun i j a p q => by
    obtain ⟨d, e | e⟩ := isOwn_ex p.2 <;> (obtain ⟨_, _, e2, _⟩ := cells i _ e; cases e2)
  sept := fun i a p t m => nomatch m
  tnd := List.nodup_nil
  pin := fun _ m => nomatch m
  tabs := tb
theorem post_we {K : PySem.W.Frag} {C : Ct} {E : WX} {y : Dy} {G : List (PyData × V)} {W : List (PyData × Addr)} {σ : L2.St} {st : MS} {Q : VK} {m : MS → Out PyData} {d : PyData} (h : WE m st (fun x _ => x = d) noErr) (k : ∀ S v H s, Rel K C y ((d, v) :: G) W S H σ s → Q v H) : Post K C E y G W σ .s (m st) Q := by
  have h := h.h
  cases e : m st with
  | ok x s => rw [e] at h; have h : x = d := h; subst h; exact fun S v H R => k S v H s R
  | err => rw [e] at h; exact h.elim
  | bad => rw [e] at h; exact h.elim
theorem if_app {b : Bool} {A : TE} {D : Ends} {σ : L2.St} {H : Hp} (Pre : Hp → Prop) (rest : ∀ H2, Pre H2 → D.nx σ H2) (h1 : b = true → (∀ H2, Pre H2 → D.nx σ H2) → A σ H fun _ H2 => D.nx σ H2) (h0 : b = false → Pre H) : if b = true then tDrop A D σ H else tNext D σ H := by
  cases b with
  | true => rw [if_pos rfl]; exact h1 rfl rest
  | false => rw [if_neg Bool.false_ne_true]; exact rest H (h0 rfl)
/-! ### stepping, for the newer mirrors -/
section
variable {st : MS} {Q : PyData → MS → Prop} {QB : Bool → MS → Prop} {e : ErrM} {D : EndM} {m k mo mk mz : MS → Out PyData} {mr : MS → Out (List PyData)} {i : Nat} {ws : List (Str × Str)} {told : Str}
theorem w_lam (h : WE m st (fun _ s => Q (.str told) s) (fun c fs s => fs = [] ∧ ∃ z, ewOf ws c = some z ∧ Q (.str z) s)) : WE (mLam ws told m) st Q e := .mk <| by
  have h := h.h
  unfold mLam
  cases e1 : m st with
  | ok d s => rw [e1] at h; exact h
  | err c fs s =>
    rw [e1] at h
    obtain ⟨rfl, z, e2, q⟩ := h
    dsimp only
    rw [e2]; exact q
  | bad => rw [e1] at h; exact h.elim
theorem w_new {t : Bool} (q : Q (mkD t []) st) : WE (mNew t) st Q e := .mk q
theorem ws_putK (h : WE m st (fun d s => ∃ d0, ownDc s i = some d0 ∧ WE k s (fun j s => ∃ dd, ownDc s i = some dd ∧ ∃ x, dPutD dd j d = some x ∧ flatK j = true ∧ D.nx (putD s i x)) D.er) D.er) : WS (mPutK i k m) st D := .mk <| w_bdS (h.mono fun d s h => by
  obtain ⟨d0, e0, h⟩ := h
  rw [e0]
  exact w_bdS (h.mono fun j s h => by
    obtain ⟨dd, e1, x, e2, fk, q⟩ := h
    rw [e1]
    dsimp only
    rw [if_pos fk, e2]; exact q))
theorem ws_putT (h : WE m st (fun d s => ∃ d0, ownDc s i = some d0 ∧ WE mr s (fun js s => ∃ dd, ownDc s i = some dd ∧ ∃ x, dPutD dd (.tuple js) d = some x ∧ js.length ≤ LIM ∧ D.nx (putD s i x)) D.er) D.er) : WS (mPutT i mr m) st D := .mk <| w_bdS (h.mono fun d s h => by
  obtain ⟨d0, e0, h⟩ := h
  rw [e0]
  exact w_bdS (h.mono fun j s h => by
    obtain ⟨dd, e1, x, e2, fk, q⟩ := h
    rw [e1]
    dsimp only
    rw [if_pos fk, e2]; exact q))
theorem w_gT (h : WE mo st (fun x s1 => WE mr s1 (fun ds s2 => ∃ d, dGetD x (.tuple ds) = some d ∧ ds.length ≤ LIM ∧ Q d s2) e) e) : WE (mGT mo mr) st Q e := .mk (w_bd (h.mono fun _ _ h => w_bd (h.mono fun _ _ h => by obtain ⟨d, e1, l, q⟩ := h; rw [if_pos l, e1]; exact q)))
theorem w_gTB (h : ∃ c, st[i]? = some (some c) ∧ WE mr st (fun ds s2 => WE (mB i) s2 (fun x s3 => ∃ d, dGetD x (.tuple ds) = some d ∧ ds.length ≤ LIM ∧ Q d s3) e) e) : WE (mGTB i mr) st Q e := .mk <| by
  obtain ⟨c, h0, h⟩ := h
  unfold mGTB
  rw [h0]
  exact w_bd (h.mono fun _ _ h => w_bd (h.mono fun _ _ h => by obtain ⟨d, e1, l, q⟩ := h; rw [if_pos l, e1]; exact q))
theorem w_inTB {f : PyData → PyData → Option PyData} (h : WE mr st (fun ds s2 => WE (mB i) s2 (fun x s3 => ∃ d, f (.tuple ds) x = some d ∧ ds.length ≤ LIM ∧ Q d s3) e) e) : WE (mInTB f mr i) st Q e := .mk <|
  w_bd (h.mono fun _ _ h => w_bd (h.mono fun _ _ h => by obtain ⟨d, e1, l, q⟩ := h; rw [if_pos l, e1]; exact q))
theorem w_getOr (h : WE mo st (fun x s => (dParts x).isSome = true ∧ WE mk s (fun k s => WE mz s (fun z s => ∃ d, dOrD x k z = some d ∧ flatK k = true ∧ Q d s) e) e) e) : WE (mGetOr mo mk mz) st Q e := .mk <|
  w_bd (h.mono fun x s h => by
    rw [if_pos h.1]
    exact w_bd (h.2.mono fun _ _ h => w_bd (h.mono fun _ _ h => by obtain ⟨d, e1, l, q⟩ := h; rw [if_pos l, e1]; exact q)))
theorem w_getOrB (h : WE (mB i) st (fun x s => (dParts x).isSome = true ∧ WE mk s (fun k s => WE mz s (fun z s => WE (mB i) s (fun x s => ∃ d, dOrD x k z = some d ∧ flatK k = true ∧ Q d s) e) e) e) e) : WE (mGetOrB i mk mz) st Q e := .mk <|
  w_bd (h.mono fun x s h => by
    rw [if_pos h.1]
    exact w_bd (h.2.mono fun _ _ h => w_bd (h.mono fun _ _ h => w_bd (h.mono fun _ _ h => by obtain ⟨d, e1, l, q⟩ := h; rw [if_pos l, e1]; exact q))))
end
/-- a def that raises, nothing changed -/
structure Rai (o : FOut) (c : Str) : Prop where
  w : WF o (fun _ _ => False) fun c' fs outs => c' = c ∧ fs = [] ∧ outs = []
theorem Rai.use {o : FOut} {c : Str} {R : PyData → List PyData → Prop} {er : Str → List (Str × PyData) → List PyData → Prop} (h : Rai o c) (k : er c [] []) : WF o R er := WF.mono h.w (fun _ _ h => h.elim) fun c' fs outs e => by obtain ⟨rfl, rfl, rfl⟩ := e; exact k
/-! ### dicts with flat keys, plainly -/
def flatKs (kvs : List (PyData × PyData)) : Bool := kvs.all fun q => flatK q.1
theorem dParts_flat {kvs : List (PyData × PyData)} (h : flatKs kvs = true) : dParts (.dict kvs) = some (false, kvs) := by
  cases kvs with
  | nil => rfl
  | cons q r =>
    obtain ⟨k, v⟩ := q
    have hk : flatK k = true := (Bool.and_eq_true_iff.mp h).1
    cases k <;> first | rfl | cases hk
theorem keyOk_flat {k : PyData} (h : flatK k = true) : keyOk false k = true := by
  cases k <;> first | rfl | cases h
theorem dPut_flat {kvs : List (PyData × PyData)} {k v : PyData} (h : flatKs kvs = true) (hk : flatK k = true) (hl : kvs.length < LIM) : dPutD (.dict kvs) k v = some (.dict (putL kvs k v)) := by
  unfold dPutD
  rw [dParts_flat h]
  show (if keyOk false k = true ∧ kvs.length < LIM then some (mkD false (putL kvs k v)) else none) = _
  rw [if_pos ⟨keyOk_flat hk, hl⟩]; rfl
theorem putL_keys {kvs : List (PyData × PyData)} {k v : PyData} {P : PyData → Prop} (h : ∀ q ∈ kvs, P q.1) (hk : P k) : ∀ q ∈ putL kvs k v, P q.1 := by
  intro q m
  unfold putL at m
  split at m
  · obtain ⟨q0, m0, rfl⟩ := List.mem_map.mp m
    split
    · exact h q0 m0
    · exact h q0 m0
  · rcases List.mem_append.mp m with m | m
    · exact h q m
    · rw [List.mem_singleton.mp m]; exact hk
theorem putL_flat {kvs : List (PyData × PyData)} {k v : PyData} (h : flatKs kvs = true) (hk : flatK k = true) : flatKs (putL kvs k v) = true :=
  List.all_eq_true.mpr (putL_keys (P := fun k => flatK k = true) (List.all_eq_true.mp h) hk)
theorem ne_refl {d : PyData} (h : SeqAt.shaped d = true) : neD d d = some (.bool false) := by
  unfold neD eqOk
  rw [h, Bool.and_true, Bool.or_true, if_pos rfl, SeqAt.eqv_refl d (SeqAt.canLay_of_shaped h)]
  rfl
theorem eq_refl {d : PyData} (h : SeqAt.shaped d = true) : eqD d d = some (.bool true) := by
  unfold eqD eqOk
  rw [h, Bool.and_true, Bool.or_true, if_pos rfl, SeqAt.eqv_refl d (SeqAt.canLay_of_shaped h)]
theorem str_refl {z : Str} : neD (.str z) (.str z) = some (.bool false) := by
  show some (PyData.bool (!PyData.eqv (.str z) (.str z))) = _
  simp [PyData.eqv]
end MV

set_option Elab.async false
set_option linter.all false
set_option maxRecDepth 100000
set_option maxHeartbeats 4000000
namespace K01
open PySem PySem.Spec PyProof.Rows L2 FR MV
def tab_FORMS : List (Str × PyData) := [("none", .str ""), ("empty", .str ""), ("sign", .str "l"), ("then", .str "pp"), ("or", .str "pp"), ("many", .str "p"), ("few", .str "p"), ("mark", .str "mp")]
/-! ### _law_bag 0:script 1:cells 2:cell -/
def m_law_bag_0 : MSt := mSet 1 (mLc (mIt (mSlW 0 mNoP (mPart (mK (.int 63))))) (gN 2) (fun st => .ok true st) (mU intD (mOp modD (mU intD (mV 2)) (mOp powD (mK (.int 10)) (mK (.int 40))))) [2])
def m_law_bag_1 : MSt := mRet (mLst (mCons (mV 1) (mCons (mK (.int 0)) (mCons (mK (.int 0)) (mCons (mOp addD (mK (.int 2371)) (mOp mulD (mK (.int 11)) (mU lenD (mV 1)))) (mCons (mK (.int 0)) mNil))))))
def m_law_bag : MSt := mSeq (m_law_bag_0) (m_law_bag_1)
def f_law_bag : List PyData → FOut := runF 3 [.sc] true m_law_bag
theorem u_law_bag {ds : List PyData} : f_law_bag ds = match m_law_bag (initM 3 [.sc] ds) with
  | .nx st => .bad
  | .ret d st => .ok d (outsA [.sc] 0 st)
  | .err c fs st => .err c fs (outsA [.sc] 0 st)
  | _ => .bad := by unfold f_law_bag runF; rfl
/-! ### _law_pick 0:bag 1:width 2:cell 3:digit 4:number -/
def m_law_pick_0t_0 : MSt := mSet 2 (mOp ixD (mOpB ixD 0 (mK (.int 0))) (mOpB ixD 0 (mK (.int 1))))
def m_law_pick_0t_1 : MSt := mSetIx 0 (mK (.int 1)) (mOp addD (mOpB ixD 0 (mK (.int 1))) (mK (.int 1)))
def m_law_pick_0t_2 : MSt := mSetIx 0 (mK (.int 3)) (mOp modD (mU intD (mOp addD (mOp addD (mOp mulD (mOpB ixD 0 (mK (.int 3))) (mK (.int 69621))) (mOp mulD (mV 2) (mK (.int 40692)))) (mK (.int 41)))) (mK (.int 2147483629)))
def m_law_pick_0t_3 : MSt := mIfS (mTest (mOp geD (mV 2) (mOp powD (mK (.int 10)) (mK (.int 18))))) (mSetIx 0 (mK (.int 2)) (mV 2)) (mNext)
def m_law_pick_0t : MSt := mSeq (m_law_pick_0t_0) (mSeq (m_law_pick_0t_1) (mSeq (m_law_pick_0t_2) (m_law_pick_0t_3)))
def m_law_pick_0 : MSt := mIfS (mAnd (mTest (mOp eqD (mOpB ixD 0 (mK (.int 2))) (mK (.int 0)))) (mTest (mOp ltD (mOpB ixD 0 (mK (.int 1))) (mU lenD (mOpB ixD 0 (mK (.int 0))))))) (m_law_pick_0t) (mNext)
def m_law_pick_1t_0 : MSt := mSet 3 (mOp modD (mU intD (mOpB ixD 0 (mK (.int 2)))) (mV 1))
def m_law_pick_1t_1 : MSt := mSetIx 0 (mK (.int 2)) (mOp fdivD (mOpB ixD 0 (mK (.int 2))) (mV 1))
def m_law_pick_1t : MSt := mSeq (m_law_pick_1t_0) (mSeq (m_law_pick_1t_1) (mRet (mV 3)))
def m_law_pick_1 : MSt := mIfS (mTest (mOp gtD (mOpB ixD 0 (mK (.int 2))) (mK (.int 0)))) (m_law_pick_1t) (mNext)
def m_law_pick_2 : MSt := mSetIx 0 (mK (.int 4)) (mOp addD (mOpB ixD 0 (mK (.int 4))) (mK (.int 1)))
def m_law_pick_3 : MSt := mSet 4 (mOp modD (mU intD (mOp mulD (mU intD (mOp addD (mOpB ixD 0 (mK (.int 3))) (mOp mulD (mK (.int 7919)) (mOpB ixD 0 (mK (.int 4)))))) (mK (.int 48271)))) (mK (.int 2147483647)))
def m_law_pick_4 : MSt := mSet 4 (mOp modD (mU intD (mOp mulD (mV 4) (mOp addD (mOp fdivD (mV 4) (mK (.int 1009))) (mK (.int 69621))))) (mK (.int 2147483647)))
def m_law_pick_5 : MSt := mSet 4 (mOp modD (mU intD (mOp mulD (mV 4) (mOp addD (mOp fdivD (mV 4) (mK (.int 2003))) (mK (.int 40014))))) (mK (.int 2147483563)))
def m_law_pick_6 : MSt := mRet (mOp modD (mU intD (mOp fdivD (mV 4) (mK (.int 16)))) (mV 1))
def m_law_pick : MSt := mSeq (m_law_pick_0) (mSeq (m_law_pick_1) (mSeq (m_law_pick_2) (mSeq (m_law_pick_3) (mSeq (m_law_pick_4) (mSeq (m_law_pick_5) (m_law_pick_6))))))
def f_law_pick : List PyData → FOut := runF 5 [.io, .sh] false m_law_pick
theorem u_law_pick {ds : List PyData} : f_law_pick ds = match m_law_pick (initM 5 [.io, .sh] ds) with
  | .nx st => .ok .none (outsA [.io, .sh] 0 st)
  | .ret d st => .ok d (outsA [.io, .sh] 0 st)
  | .err c fs st => .err c fs (outsA [.io, .sh] 0 st)
  | _ => .bad := by unfold f_law_pick runF; rfl
/-! ### _law_some 0:bag 1:things -/
def m_law_some_0 : MSt := mRet (mOpB ixD 1 (mCall f_law_pick [some 0, none] [.io, .sh] (mConsV 0 (mCons (mU lenD (mB 1)) mNil))))
def m_law_some : MSt := m_law_some_0
def f_law_some : List PyData → FOut := runF 2 [.io, .bo] false m_law_some
theorem u_law_some {ds : List PyData} : f_law_some ds = match m_law_some (initM 2 [.io, .bo] ds) with
  | .nx st => .ok .none (outsA [.io, .bo] 0 st)
  | .ret d st => .ok d (outsA [.io, .bo] 0 st)
  | .err c fs st => .err c fs (outsA [.io, .bo] 0 st)
  | _ => .bad := by unfold f_law_some runF; rfl
/-! ### _law_lot 0:bag 1:turn 2:sign 3:by -/
def m_law_lot_0 : MSt := mSet 1 (mCall f_law_pick [some 0, none] [.io, .sh] (mConsV 0 (mCons (mK (.int 21)) mNil)))
def m_law_lot_1 : MSt := mIfS (mTest (mOp ltD (mV 1) (mK (.int 6)))) (mRet (mOp ixD (mK (.str "abcdab")) (mV 1))) (mNext)
def m_law_lot_2 : MSt := mRet (mMt joinD isStrD (mK (.str "")) (mLc (mZip (mK (.str "abcd")) (mLst (mCons (mK (.int 1)) (mCons (mK (.int 2)) (mCons (mK (.int 4)) (mCons (mK (.int 8)) mNil)))))) (gT [gN 2, gN 3]) (mTest (mOp eqD (mOp modD (mU intD (mOp fdivD (mOp subD (mV 1) (mK (.int 5))) (mV 3))) (mK (.int 2))) (mK (.int 1)))) (mV 2) [2, 3]))
def m_law_lot : MSt := mSeq (m_law_lot_0) (mSeq (m_law_lot_1) (m_law_lot_2))
def f_law_lot : List PyData → FOut := runF 4 [.io] false m_law_lot
theorem u_law_lot {ds : List PyData} : f_law_lot ds = match m_law_lot (initM 4 [.io] ds) with
  | .nx st => .ok .none (outsA [.io] 0 st)
  | .ret d st => .ok d (outsA [.io] 0 st)
  | .err c fs st => .err c fs (outsA [.io] 0 st)
  | _ => .bad := by unfold f_law_lot runF; rfl
/-! ### _law_parts 0:sign -/
def m_law_parts_0 : MSt := mRet (mGet2 (mK (.dict (List.map (fun q => (PyData.str q.1, q.2)) [("then", .int 2), ("or", .int 2), ("many", .int 1), ("few", .int 1), ("mark", .int 1)]))) (mOp ixD (mV 0) (mK (.int 0))) (mK (.int 0)))
def m_law_parts : MSt := m_law_parts_0
def f_law_parts : List PyData → FOut := runF 1 [.sh] false m_law_parts
theorem u_law_parts {ds : List PyData} : f_law_parts ds = match m_law_parts (initM 1 [.sh] ds) with
  | .nx st => .ok .none (outsA [.sh] 0 st)
  | .ret d st => .ok d (outsA [.sh] 0 st)
  | .err c fs st => .err c fs (outsA [.sh] 0 st)
  | _ => .bad := by unfold f_law_parts runF; rfl
/-! ### _law_depths 0:signs 1:waiting 2:found 3:sign -/
def m_law_depths_0 : MSt := mPar 1 2 .f .f (mLst (mCons (mOp addD (mU lenD (mV 0)) (mK (.int 1))) mNil)) (mLst mNil)
def m_law_depths_1l_1 : MSt := mSetIx 1 (mU negD (mK (.int 1))) (mOp subD (mOpB ixD 1 (mU negD (mK (.int 1)))) (mK (.int 1)))
def m_law_depths_1l_3 : MSt := mWhile (mAnd (mTest (mOpB neD 1 (mLst mNil))) (mTest (mOp eqD (mOpB ixD 1 (mU negD (mK (.int 1)))) (mK (.int 0))))) (mDrop (mPop 1))
def m_law_depths_1l : MSt := mSeq (mApp 2 (mU lenD (mB 1))) (mSeq (m_law_depths_1l_1) (mSeq (mApp 1 (mCall f_law_parts [none] [.sh] (mCons (mV 3) mNil))) (m_law_depths_1l_3)))
def m_law_depths : MSt := mSeq (m_law_depths_0) (mSeq (mFor (mIt (mV 0)) (gN 3) (m_law_depths_1l)) (mRet (mMv 2)))
def f_law_depths : List PyData → FOut := runF 4 [.sh] true m_law_depths
theorem u_law_depths {ds : List PyData} : f_law_depths ds = match m_law_depths (initM 4 [.sh] ds) with
  | .nx st => .bad
  | .ret d st => .ok d (outsA [.sh] 0 st)
  | .err c fs st => .err c fs (outsA [.sh] 0 st)
  | _ => .bad := by unfold f_law_depths runF; rfl
/-! ### _law_mark 0:bag 1:letters 2:drawn 3:turn -/
def m_law_mark_1 : MSt := mSet 2 (mMt joinD isStrD (mK (.str "")) (mLc (mRng1 (mOp addD (mK (.int 1)) (mCall f_law_pick [some 0, none] [.io, .sh] (mConsV 0 (mCons (mK (.int 6)) mNil))))) (gN 3) (fun st => .ok true st) (mCall f_law_some [some 0, none] [.io, .bo] (mConsV 0 (mCons (mV 1) mNil))) [3]))
def m_law_mark_2 : MSt := mRet (mCall f_law_some [some 0, none] [.io, .bo] (mConsV 0 (mCons (mLst (mCons (mK (.str "m")) (mCons (mK (.str "n")) (mCons (mV 2) (mCons (mK (.str "m")) mNil))))) mNil)))
def m_law_mark : MSt := mSeq (mSet 1 (mK (.str "abcdefghijklmnopqrstuvwxyz"))) (mSeq (m_law_mark_1) (m_law_mark_2))
def f_law_mark : List PyData → FOut := runF 4 [.io] false m_law_mark
theorem u_law_mark {ds : List PyData} : f_law_mark ds = match m_law_mark (initM 4 [.io] ds) with
  | .nx st => .ok .none (outsA [.io] 0 st)
  | .ret d st => .ok d (outsA [.io] 0 st)
  | .err c fs st => .err c fs (outsA [.io] 0 st)
  | _ => .bad := by unfold f_law_mark runF; rfl
/-! ### _law_drawn 0:bag 1:turns 2:most 3:pool 4:turn 5:word 6:one 7:other 8:new -/
def m_law_drawn_0 : MSt := mOwn 3 (mLst (mCons (mLst (mCons (mTup (mCons (mK (.str "sign")) (mCons (mCall f_law_lot [some 0] [.io] (mConsV 0 mNil)) mNil))) mNil)) (mCons (mLst (mCons (mTup (mCons (mK (.str "sign")) (mCons (mCall f_law_lot [some 0] [.io] (mConsV 0 mNil)) mNil))) mNil)) (mCons (mLst (mCons (mTup (mCons (mK (.str "empty")) mNil)) mNil)) mNil))))
def m_law_drawn_1l_0 : MSt := mSet 5 (mCall f_law_some [some 0, none] [.io, .bo] (mConsV 0 (mCons (mLst (mCons (mK (.str "then")) (mCons (mK (.str "then")) (mCons (mK (.str "or")) (mCons (mK (.str "or")) (mCons (mK (.str "many")) (mCons (mK (.str "few")) (mCons (mK (.str "mark")) (mCons (mK (.str "then")) (mCons (mK (.str "sign")) (mCons (mK (.str "none")) mNil))))))))))) mNil)))
def m_law_drawn_1l_1 : MSt := mPar 6 7 .s .s (mCall f_law_some [some 0, none] [.io, .bo] (mConsV 0 (mCons (mSlB slLD 3 (mPart (mU negD (mK (.int 3)))) mNoP) mNil))) (mCall f_law_some [some 0, some 3] [.io, .bo] (mConsV 0 (mConsV 3 mNil)))
def m_law_drawn_1l_2t_0 : MSt := mSet 8 (mOp catD (mLst (mCons (mTup (mCons (mV 5) mNil)) mNil)) (mCall f_law_some [some 0, none] [.io, .bo] (mConsV 0 (mCons (mLst (mCons (mOp addD (mV 6) (mV 7)) (mCons (mOp addD (mV 7) (mV 6)) mNil))) mNil))))
def m_law_drawn_1l_2e_0t_0 : MSt := mSet 8 (mOp catD (mLst (mCons (mTup (mCons (mV 5) mNil)) mNil)) (mV 6))
def m_law_drawn_1l_2e_0e_0t_0 : MSt := mSet 8 (mOp catD (mLst (mCons (mTup (mCons (mK (.str "mark")) (mCons (mCall f_law_mark [some 0] [.io] (mConsV 0 mNil)) mNil))) mNil)) (mV 6))
def m_law_drawn_1l_2e_0e_0e_0 : MSt := mSet 8 (mLst (mCons (mIf (mOr (mTest (mOp eqD (mV 5) (mK (.str "sign")))) (mTest (mOp gtD (mCall f_law_pick [some 0, none] [.io, .sh] (mConsV 0 (mCons (mK (.int 3)) mNil))) (mK (.int 0))))) (mTup (mCons (mK (.str "sign")) (mCons (mCall f_law_lot [some 0] [.io] (mConsV 0 mNil)) mNil))) (mTup (mCons (mK (.str "none")) mNil))) mNil))
def m_law_drawn_1l_2e_0e_0 : MSt := mIfS (mTest (mOp eqD (mV 5) (mK (.str "mark")))) (m_law_drawn_1l_2e_0e_0t_0) (m_law_drawn_1l_2e_0e_0e_0)
def m_law_drawn_1l_2e_0 : MSt := mIfS (mTest (mOp inD (mV 5) (mTup (mCons (mK (.str "many")) (mCons (mK (.str "few")) mNil))))) (m_law_drawn_1l_2e_0t_0) (m_law_drawn_1l_2e_0e_0)
def m_law_drawn_1l_2 : MSt := mIfS (mTest (mOp inD (mV 5) (mTup (mCons (mK (.str "then")) (mCons (mK (.str "or")) mNil))))) (m_law_drawn_1l_2t_0) (m_law_drawn_1l_2e_0)
def m_law_drawn_1l_3 : MSt := mIfS (mAnd (mTest (mOp leD (mU lenD (mV 8)) (mV 2))) (mTest (mOp leD (mU maxLD (mCall f_law_depths [none] [.sh] (mCons (mV 8) mNil))) (mK (.int 13))))) (mApp 3 (mV 8)) (mNext)
def m_law_drawn_1l : MSt := mSeq (m_law_drawn_1l_0) (mSeq (m_law_drawn_1l_1) (mSeq (m_law_drawn_1l_2) (m_law_drawn_1l_3)))
def m_law_drawn_2 : MSt := mRet (mOpB ixD 3 (mOp subD (mU negD (mK (.int 1))) (mCall f_law_pick [some 0, none] [.io, .sh] (mConsV 0 (mCons (mK (.int 2)) mNil)))))
def m_law_drawn : MSt := mSeq (m_law_drawn_0) (mSeq (mFor (mRng1 (mV 1)) (gN 4) (m_law_drawn_1l)) (m_law_drawn_2))
def f_law_drawn : List PyData → FOut := runF 9 [.io, .sh, .sh] false m_law_drawn
theorem u_law_drawn {ds : List PyData} : f_law_drawn ds = match m_law_drawn (initM 9 [.io, .sh, .sh] ds) with
  | .nx st => .ok .none (outsA [.io, .sh, .sh] 0 st)
  | .ret d st => .ok d (outsA [.io, .sh, .sh] 0 st)
  | .err c fs st => .err c fs (outsA [.io, .sh, .sh] 0 st)
  | _ => .bad := by unfold f_law_drawn runF; rfl
/-! ### are_signs 0:thing 1:most 2:sign -/
def m_are_signs_0 : MSt := mRet (mAndV (mU (isiD "str") (mV 0)) (mAndV (mOp leD (mU lenD (mV 0)) (mV 1)) (mU allD (mLc (mIt (mV 0)) (gN 2) (fun st => .ok true st) (mOp inD (mV 2) (mK (.str "abcd"))) [2]))))
def m_are_signs : MSt := m_are_signs_0
def f_are_signs : List PyData → FOut := runF 3 [.sh, .sh] false m_are_signs
theorem u_are_signs {ds : List PyData} : f_are_signs ds = match m_are_signs (initM 3 [.sh, .sh] ds) with
  | .nx st => .ok .none (outsA [.sh, .sh] 0 st)
  | .ret d st => .ok d (outsA [.sh, .sh] 0 st)
  | .err c fs st => .err c fs (outsA [.sh, .sh] 0 st)
  | _ => .bad := by unfold f_are_signs runF; rfl
/-! ### is_lot 0:thing 1:at -/
def m_is_lot_0 : MSt := mIfS (mOr (mNot (mTest (mCall f_are_signs [none, none] [.sh, .sh] (mCons (mV 0) (mCons (mU lenD (mK (.str "abcd"))) mNil))))) (mTest (mOp eqD (mU lenD (mV 0)) (mK (.int 0))))) (mRet (mK (.bool false))) (mNext)
def m_is_lot_1 : MSt := mRet (mU allD (mLc (mRng2 (mK (.int 1)) (mU lenD (mV 0))) (gN 1) (fun st => .ok true st) (mOp ltD (mOp ixD (mV 0) (mOp subD (mV 1) (mK (.int 1)))) (mOp ixD (mV 0) (mV 1))) [1]))
def m_is_lot : MSt := mSeq (m_is_lot_0) (m_is_lot_1)
def f_is_lot : List PyData → FOut := runF 2 [.sh] false m_is_lot
theorem u_is_lot {ds : List PyData} : f_is_lot ds = match m_is_lot (initM 2 [.sh] ds) with
  | .nx st => .ok .none (outsA [.sh] 0 st)
  | .ret d st => .ok d (outsA [.sh] 0 st)
  | .err c fs st => .err c fs (outsA [.sh] 0 st)
  | _ => .bad := by unfold f_is_lot runF; rfl
/-! ### is_mark 0:thing 1:sign -/
def m_is_mark_0 : MSt := mRet (mAndV (mU (isiD "str") (mV 0)) (mAndV (mChain leD leD (mK (.int 1)) (mU lenD (mV 0)) (mK (.int 6))) (mU allD (mLc (mIt (mV 0)) (gN 1) (fun st => .ok true st) (mOp inD (mV 1) (mK (.str "abcdefghijklmnopqrstuvwxyz"))) [1]))))
def m_is_mark : MSt := m_is_mark_0
def f_is_mark : List PyData → FOut := runF 2 [.sh] false m_is_mark
theorem u_is_mark {ds : List PyData} : f_is_mark ds = match m_is_mark (initM 2 [.sh] ds) with
  | .nx st => .ok .none (outsA [.sh] 0 st)
  | .ret d st => .ok d (outsA [.sh] 0 st)
  | .err c fs st => .err c fs (outsA [.sh] 0 st)
  | _ => .bad := by unfold f_is_mark runF; rfl
/-! ### has_form 0:thing -/
def m_has_form_0 : MSt := mIfS (mOr (mNot (mTest (mU (isiD "tuple") (mV 0)))) (mOr (mTest (mOp eqD (mU lenD (mV 0)) (mK (.int 0)))) (mOr (mNot (mTest (mU (isiD "str") (mOp ixD (mV 0) (mK (.int 0)))))) (mTest (mU (ninKD tab_FORMS) (mOp ixD (mV 0) (mK (.int 0)))))))) (mRet (mK (.bool false))) (mNext)
def m_has_form_1 : MSt := mIfS (mTest (mOp neD (mU lenD (mV 0)) (mOp addD (mK (.int 1)) (mU lenD (mU (ixKD tab_FORMS) (mOp ixD (mV 0) (mK (.int 0)))))))) (mRet (mK (.bool false))) (mNext)
def m_has_form_2t_0 : MSt := mRet (mCall f_is_lot [none] [.sh] (mCons (mOp ixD (mV 0) (mK (.int 1))) mNil))
def m_has_form_2 : MSt := mIfS (mTest (mOp eqD (mOp ixD (mV 0) (mK (.int 0))) (mK (.str "sign")))) (m_has_form_2t_0) (mNext)
def m_has_form_3 : MSt := mRet (mOrV (mOp neD (mOp ixD (mV 0) (mK (.int 0))) (mK (.str "mark"))) (mCall f_is_mark [none] [.sh] (mCons (mOp ixD (mV 0) (mK (.int 1))) mNil)))
def m_has_form : MSt := mSeq (m_has_form_0) (mSeq (m_has_form_1) (mSeq (m_has_form_2) (m_has_form_3)))
def f_has_form : List PyData → FOut := runF 1 [.sh] false m_has_form
theorem u_has_form {ds : List PyData} : f_has_form ds = match m_has_form (initM 1 [.sh] ds) with
  | .nx st => .ok .none (outsA [.sh] 0 st)
  | .ret d st => .ok d (outsA [.sh] 0 st)
  | .err c fs st => .err c fs (outsA [.sh] 0 st)
  | _ => .bad := by unfold f_has_form runF; rfl
/-! ### parts_of 0:pattern 1:sign 2:part -/
def m_parts_of_0 : MSt := mRet (mLc (mZip (mU (ixKD tab_FORMS) (mOp ixD (mV 0) (mK (.int 0)))) (mSl slD (mV 0) (mPart (mK (.int 1))) mNoP)) (gT [gN 1, gN 2]) (mTest (mOp eqD (mV 1) (mK (.str "p")))) (mV 2) [1, 2])
def m_parts_of : MSt := m_parts_of_0
def f_parts_of : List PyData → FOut := runF 3 [.sh] true m_parts_of
theorem u_parts_of {ds : List PyData} : f_parts_of ds = match m_parts_of (initM 3 [.sh] ds) with
  | .nx st => .bad
  | .ret d st => .ok d (outsA [.sh] 0 st)
  | .err c fs st => .err c fs (outsA [.sh] 0 st)
  | _ => .bad := by unfold f_parts_of runF; rfl
/-! ### is_pattern 0:thing 1:many 2:waiting 3:here 4:depth 5:part -/
def m_is_pattern_0 : MSt := mPar 1 2 .s .f (mK (.int 0)) (mLst (mCons (mTup (mCons (mV 0) (mCons (mK (.int 1)) mNil))) mNil))
def m_is_pattern_1l_2 : MSt := mIfS (mOr (mTest (mOp gtD (mV 1) (mK (.int 60)))) (mOr (mTest (mOp gtD (mV 4) (mK (.int 15)))) (mNot (mTest (mCall f_has_form [none] [.sh] (mCons (mV 3) mNil)))))) (mRet (mK (.bool false))) (mNext)
def m_is_pattern_1l_3 : MSt := mExt 2 (mLc (mIt (mCall f_parts_of [none] [.sh] (mCons (mV 3) mNil))) (gN 5) (fun st => .ok true st) (mTup (mCons (mV 5) (mCons (mOp addD (mV 4) (mK (.int 1))) mNil))) [5])
def m_is_pattern_1l : MSt := mSeq (mTgt (gT [gN 3, gN 4]) (mPop 2)) (mSeq (mAug augD 1 (mK (.int 1))) (mSeq (m_is_pattern_1l_2) (m_is_pattern_1l_3)))
def m_is_pattern_1 : MSt := mWhile (mTest (mOp gtD (mU lenD (mB 2)) (mK (.int 0)))) (m_is_pattern_1l)
def m_is_pattern : MSt := mSeq (m_is_pattern_0) (mSeq (m_is_pattern_1) (mRet (mK (.bool true))))
def f_is_pattern : List PyData → FOut := runF 6 [.sh] false m_is_pattern
theorem u_is_pattern {ds : List PyData} : f_is_pattern ds = match m_is_pattern (initM 6 [.sh] ds) with
  | .nx st => .ok .none (outsA [.sh] 0 st)
  | .ret d st => .ok d (outsA [.sh] 0 st)
  | .err c fs st => .err c fs (outsA [.sh] 0 st)
  | _ => .bad := by unfold f_is_pattern runF; rfl
/-! ### check_pattern 0:thing -/
def m_check_pattern_0 : MSt := mIfS (mNot (mTest (mCall f_is_pattern [none] [.sh] (mCons (mV 0) mNil)))) (mRaise "NoPattern") (mNext)
def m_check_pattern : MSt := m_check_pattern_0
def f_check_pattern : List PyData → FOut := runF 1 [.sh] false m_check_pattern
theorem u_check_pattern {ds : List PyData} : f_check_pattern ds = match m_check_pattern (initM 1 [.sh] ds) with
  | .nx st => .ok .none (outsA [.sh] 0 st)
  | .ret d st => .ok d (outsA [.sh] 0 st)
  | .err c fs st => .err c fs (outsA [.sh] 0 st)
  | _ => .bad := by unfold f_check_pattern runF; rfl
def f_node_rows : List PyData → FOut := rowsF f_parts_of
/-! ### nodes_many 0:pattern -/
def m_nodes_many_0 : MSt := mDrop (mCall f_check_pattern [none] [.sh] (mCons (mV 0) mNil))
def m_nodes_many_1 : MSt := mRet (mU lenD (mCall f_node_rows [none] [.sh] (mCons (mV 0) mNil)))
def m_nodes_many : MSt := mSeq (m_nodes_many_0) (m_nodes_many_1)
def f_nodes_many : List PyData → FOut := runF 1 [.sh] false m_nodes_many
theorem u_nodes_many {ds : List PyData} : f_nodes_many ds = match m_nodes_many (initM 1 [.sh] ds) with
  | .nx st => .ok .none (outsA [.sh] 0 st)
  | .ret d st => .ok d (outsA [.sh] 0 st)
  | .err c fs st => .err c fs (outsA [.sh] 0 st)
  | _ => .bad := by unfold f_nodes_many runF; rfl
/-! ### deep 0:pattern 1:found 2:waiting 3:here 4:depth 5:part -/
def m_deep_0 : MSt := mDrop (mCall f_check_pattern [none] [.sh] (mCons (mV 0) mNil))
def m_deep_1 : MSt := mPar 1 2 .s .f (mK (.int 0)) (mLst (mCons (mTup (mCons (mV 0) (mCons (mK (.int 1)) mNil))) mNil))
def m_deep_2l_2 : MSt := mExt 2 (mLc (mIt (mCall f_parts_of [none] [.sh] (mCons (mV 3) mNil))) (gN 5) (fun st => .ok true st) (mTup (mCons (mV 5) (mCons (mOp addD (mV 4) (mK (.int 1))) mNil))) [5])
def m_deep_2l : MSt := mSeq (mTgt (gT [gN 3, gN 4]) (mPop 2)) (mSeq (mSet 1 (mU2 max2D (mV 1) (mV 4))) (m_deep_2l_2))
def m_deep_2 : MSt := mWhile (mTest (mOp gtD (mU lenD (mB 2)) (mK (.int 0)))) (m_deep_2l)
def m_deep : MSt := mSeq (m_deep_0) (mSeq (m_deep_1) (mSeq (m_deep_2) (mRet (mV 1))))
def f_deep : List PyData → FOut := runF 6 [.sh] false m_deep
theorem u_deep {ds : List PyData} : f_deep ds = match m_deep (initM 6 [.sh] ds) with
  | .nx st => .ok .none (outsA [.sh] 0 st)
  | .ret d st => .ok d (outsA [.sh] 0 st)
  | .err c fs st => .err c fs (outsA [.sh] 0 st)
  | _ => .bad := by unfold f_deep runF; rfl
/-! ### raw_marks 0:pattern 1:met 2:node 3:parts -/
def m_raw_marks_1l_0 : MSt := mIfS (mTest (mOp eqD (mOp ixD (mV 2) (mK (.int 0))) (mK (.str "mark")))) (mPutK 1 (mOp ixD (mV 2) (mK (.int 1))) (mK (.bool true))) (mNext)
def m_raw_marks_1 : MSt := mFor (mIt (mCall f_node_rows [none] [.sh] (mCons (mV 0) mNil))) (gT [gN 2, gN 3]) (m_raw_marks_1l_0)
def m_raw_marks : MSt := mSeq (mOwn 1 (mNew false)) (mSeq (m_raw_marks_1) (mRet (mU sortDD (mB 1))))
def f_raw_marks : List PyData → FOut := runF 4 [.sh] true m_raw_marks
theorem u_raw_marks {ds : List PyData} : f_raw_marks ds = match m_raw_marks (initM 4 [.sh] ds) with
  | .nx st => .bad
  | .ret d st => .ok d (outsA [.sh] 0 st)
  | .err c fs st => .err c fs (outsA [.sh] 0 st)
  | _ => .bad := by unfold f_raw_marks runF; rfl
/-! ### marks_of 0:pattern -/
def m_marks_of_0 : MSt := mDrop (mCall f_check_pattern [none] [.sh] (mCons (mV 0) mNil))
def m_marks_of_1 : MSt := mRet (mU tupD (mCall f_raw_marks [none] [.sh] (mCons (mV 0) mNil)))
def m_marks_of : MSt := mSeq (m_marks_of_0) (m_marks_of_1)
def f_marks_of : List PyData → FOut := runF 1 [.sh] false m_marks_of
theorem u_marks_of {ds : List PyData} : f_marks_of ds = match m_marks_of (initM 1 [.sh] ds) with
  | .nx st => .ok .none (outsA [.sh] 0 st)
  | .ret d st => .ok d (outsA [.sh] 0 st)
  | .err c fs st => .err c fs (outsA [.sh] 0 st)
  | _ => .bad := by unfold f_marks_of runF; rfl
/-! ### raw_lots 0:pattern 1:node 2:parts -/
def m_raw_lots_0 : MSt := mRet (mLc (mIt (mCall f_node_rows [none] [.sh] (mCons (mV 0) mNil))) (gT [gN 1, gN 2]) (mTest (mOp eqD (mOp ixD (mV 1) (mK (.int 0))) (mK (.str "sign")))) (mOp ixD (mV 1) (mK (.int 1))) [1, 2])
def m_raw_lots : MSt := m_raw_lots_0
def f_raw_lots : List PyData → FOut := runF 3 [.sh] true m_raw_lots
theorem u_raw_lots {ds : List PyData} : f_raw_lots ds = match m_raw_lots (initM 3 [.sh] ds) with
  | .nx st => .bad
  | .ret d st => .ok d (outsA [.sh] 0 st)
  | .err c fs st => .err c fs (outsA [.sh] 0 st)
  | _ => .bad := by unfold f_raw_lots runF; rfl
/-! ### lots_of 0:pattern -/
def m_lots_of_0 : MSt := mDrop (mCall f_check_pattern [none] [.sh] (mCons (mV 0) mNil))
def m_lots_of_1 : MSt := mRet (mU tupD (mCall f_raw_lots [none] [.sh] (mCons (mV 0) mNil)))
def m_lots_of : MSt := mSeq (m_lots_of_0) (m_lots_of_1)
def f_lots_of : List PyData → FOut := runF 1 [.sh] false m_lots_of
theorem u_lots_of {ds : List PyData} : f_lots_of ds = match m_lots_of (initM 1 [.sh] ds) with
  | .nx st => .ok .none (outsA [.sh] 0 st)
  | .ret d st => .ok d (outsA [.sh] 0 st)
  | .err c fs st => .err c fs (outsA [.sh] 0 st)
  | _ => .bad := by unfold f_lots_of runF; rfl
/-! ### is_integer 0:thing -/
def m_is_integer_0 : MSt := mRet (mAndV (mU (isiD "int") (mV 0)) (mNotV (mU (isiD "bool") (mV 0))))
def m_is_integer : MSt := m_is_integer_0
def f_is_integer : List PyData → FOut := runF 1 [.sh] false m_is_integer
theorem u_is_integer {ds : List PyData} : f_is_integer ds = match m_is_integer (initM 1 [.sh] ds) with
  | .nx st => .ok .none (outsA [.sh] 0 st)
  | .ret d st => .ok d (outsA [.sh] 0 st)
  | .err c fs st => .err c fs (outsA [.sh] 0 st)
  | _ => .bad := by unfold f_is_integer runF; rfl
/-! ### is_within 0:thing 1:low 2:high -/
def m_is_within_0 : MSt := mRet (mAndV (mCall f_is_integer [none] [.sh] (mCons (mV 0) mNil)) (mChain leD leD (mV 1) (mV 0) (mV 2)))
def m_is_within : MSt := m_is_within_0
def f_is_within : List PyData → FOut := runF 3 [.sh, .sh, .sh] false m_is_within
theorem u_is_within {ds : List PyData} : f_is_within ds = match m_is_within (initM 3 [.sh, .sh, .sh] ds) with
  | .nx st => .ok .none (outsA [.sh, .sh, .sh] 0 st)
  | .ret d st => .ok d (outsA [.sh, .sh, .sh] 0 st)
  | .err c fs st => .err c fs (outsA [.sh, .sh, .sh] 0 st)
  | _ => .bad := by unfold f_is_within runF; rfl
/-! ### check_place 0:thing 1:high -/
def m_check_place_0 : MSt := mIfS (mNot (mTest (mCall f_is_within [none, none, none] [.sh, .sh, .sh] (mCons (mV 0) (mCons (mK (.int 0)) (mCons (mV 1) mNil)))))) (mRaise "NoPlace") (mNext)
def m_check_place : MSt := m_check_place_0
def f_check_place : List PyData → FOut := runF 2 [.sh, .sh] false m_check_place
theorem u_check_place {ds : List PyData} : f_check_place ds = match m_check_place (initM 2 [.sh, .sh] ds) with
  | .nx st => .ok .none (outsA [.sh, .sh] 0 st)
  | .ret d st => .ok d (outsA [.sh, .sh] 0 st)
  | .err c fs st => .err c fs (outsA [.sh, .sh] 0 st)
  | _ => .bad := by unfold f_check_place runF; rfl
/-! ### node_at 0:pattern 1:number 2:rows -/
def m_node_at_0 : MSt := mDrop (mCall f_check_pattern [none] [.sh] (mCons (mV 0) mNil))
def m_node_at_2 : MSt := mDrop (mCall f_check_place [none, none] [.sh, .sh] (mCons (mV 1) (mCons (mOp subD (mU lenD (mV 2)) (mK (.int 1))) mNil)))
def m_node_at : MSt := mSeq (m_node_at_0) (mSeq (mSet 2 (mCall f_node_rows [none] [.sh] (mCons (mV 0) mNil))) (mSeq (m_node_at_2) (mRet (mOp ixD (mOp ixD (mV 2) (mV 1)) (mK (.int 0))))))
def f_node_at : List PyData → FOut := runF 3 [.sh, .sh] false m_node_at
theorem u_node_at {ds : List PyData} : f_node_at ds = match m_node_at (initM 3 [.sh, .sh] ds) with
  | .nx st => .ok .none (outsA [.sh, .sh] 0 st)
  | .ret d st => .ok d (outsA [.sh, .sh] 0 st)
  | .err c fs st => .err c fs (outsA [.sh, .sh] 0 st)
  | _ => .bad := by unfold f_node_at runF; rfl
/-! ### _law_made 0:signs 1:pile 2:sign 3:under 4:parts -/
def m_law_made_1l_0 : MSt := mSet 3 (mOp subD (mU lenD (mV 1)) (mCall f_law_parts [none] [.sh] (mCons (mV 2) mNil)))
def m_law_made_1l_1 : MSt := mSet 4 (mU tupD (mU revD (mSl slD (mV 1) (mPart (mV 3)) mNoP)))
def m_law_made_1l_2 : MSt := mSet 1 (mOp addD (mSl slD (mV 1) mNoP (mPart (mV 3))) (mLst (mCons (mOp addD (mV 2) (mV 4)) mNil)))
def m_law_made_1l : MSt := mSeq (m_law_made_1l_0) (mSeq (m_law_made_1l_1) (m_law_made_1l_2))
def m_law_made : MSt := mSeq (mSet 1 (mLst mNil)) (mSeq (mFor (mIt (mU revD (mV 0))) (gN 2) (m_law_made_1l)) (mRet (mOp ixD (mV 1) (mK (.int 0)))))
def f_law_made : List PyData → FOut := runF 5 [.sh] false m_law_made
theorem u_law_made {ds : List PyData} : f_law_made ds = match m_law_made (initM 5 [.sh] ds) with
  | .nx st => .ok .none (outsA [.sh] 0 st)
  | .ret d st => .ok d (outsA [.sh] 0 st)
  | .err c fs st => .err c fs (outsA [.sh] 0 st)
  | _ => .bad := by unfold f_law_made runF; rfl
/-! ### _law_behind 0:signs 1:found 2:back 3:at 4:end 5:part -/
def m_law_behind_0 : MSt := mOwn 1 (mOp repD (mLst (mCons (mK (.int 0)) mNil)) (mU lenD (mV 0)))
def m_law_behind_1l_0 : MSt := mSet 3 (mOp subD (mOp subD (mU lenD (mV 0)) (mK (.int 1))) (mV 2))
def m_law_behind_1l_2 : MSt := mFor (mRng1 (mCall f_law_parts [none] [.sh] (mCons (mOp ixD (mV 0) (mV 3)) mNil))) (gN 5) (mSet 4 (mOpB ixD 1 (mV 4)))
def m_law_behind_1l : MSt := mSeq (m_law_behind_1l_0) (mSeq (mSet 4 (mOp addD (mV 3) (mK (.int 1)))) (mSeq (m_law_behind_1l_2) (mSetIx 1 (mV 3) (mV 4))))
def m_law_behind : MSt := mSeq (m_law_behind_0) (mSeq (mFor (mRng1 (mU lenD (mV 0))) (gN 2) (m_law_behind_1l)) (mRet (mMv 1)))
def f_law_behind : List PyData → FOut := runF 6 [.sh] true m_law_behind
theorem u_law_behind {ds : List PyData} : f_law_behind ds = match m_law_behind (initM 6 [.sh] ds) with
  | .nx st => .bad
  | .ret d st => .ok d (outsA [.sh] 0 st)
  | .err c fs st => .err c fs (outsA [.sh] 0 st)
  | _ => .bad := by unfold f_law_behind runF; rfl
/-! ### _law_are_told_right 0:bag 1:signs 2:pattern 3:behind 4:marks 5:lots 6:turn 7:at 8:sign -/
def m_law_are_told_right_0 : MSt := mPar 2 3 .s .s (mCall f_law_made [none] [.sh] (mCons (mV 1) mNil)) (mCall f_law_behind [none] [.sh] (mCons (mV 1) mNil))
def m_law_are_told_right_1 : MSt := mSet 4 (mU sortDD (mU dictPD (mLc (mIt (mV 1)) (gN 8) (mTest (mOp eqD (mOp ixD (mV 8) (mK (.int 0))) (mK (.str "mark")))) (mTup (mCons (mOp ixD (mV 8) (mK (.int 1))) (mCons (mK (.bool true)) mNil))) [8])))
def m_law_are_told_right_2 : MSt := mSet 5 (mLc (mIt (mV 1)) (gN 8) (mTest (mOp eqD (mOp ixD (mV 8) (mK (.int 0))) (mK (.str "sign")))) (mOp ixD (mV 8) (mK (.int 1))) [8])
def m_law_are_told_right_3 : MSt := mIfS (mTest (mOp neD (mU reprD (mTup (mCons (mCall (noErrF f_nodes_many) [none] [.sh] (mCons (mV 2) mNil)) (mCons (mCall (noErrF f_deep) [none] [.sh] (mCons (mV 2) mNil)) mNil)))) (mU reprD (mTup (mCons (mU lenD (mV 1)) (mCons (mU maxLD (mCall f_law_depths [none] [.sh] (mCons (mV 1) mNil))) mNil)))))) (mRet (mK (.bool false))) (mNext)
def m_law_are_told_right_4 : MSt := mIfS (mOr (mTest (mOp neD (mCall (noErrF f_marks_of) [none] [.sh] (mCons (mV 2) mNil)) (mU tupD (mV 4)))) (mTest (mOp neD (mCall (noErrF f_lots_of) [none] [.sh] (mCons (mV 2) mNil)) (mU tupD (mV 5))))) (mRet (mK (.bool false))) (mNext)
def m_law_are_told_right_5l_0 : MSt := mSet 7 (mCall f_law_pick [some 0, none] [.io, .sh] (mConsV 0 (mCons (mU lenD (mV 1)) mNil)))
def m_law_are_told_right_5l_1 : MSt := mIfS (mTest (mOp neD (mCall (noErrF f_node_at) [none, none] [.sh, .sh] (mCons (mV 2) (mCons (mV 7) mNil))) (mCall f_law_made [none] [.sh] (mCons (mSl slD (mV 1) (mPart (mV 7)) (mPart (mOp ixD (mV 3) (mV 7)))) mNil)))) (mRet (mK (.bool false))) (mNext)
def m_law_are_told_right_5l : MSt := mSeq (m_law_are_told_right_5l_0) (m_law_are_told_right_5l_1)
def m_law_are_told_right_6 : MSt := mRet (mOp eqD (mCall (noErrF f_node_at) [none, none] [.sh, .sh] (mCons (mV 2) (mCons (mOp subD (mU lenD (mV 1)) (mK (.int 1))) mNil))) (mOp ixD (mV 1) (mU negD (mK (.int 1)))))
def m_law_are_told_right : MSt := mSeq (m_law_are_told_right_0) (mSeq (m_law_are_told_right_1) (mSeq (m_law_are_told_right_2) (mSeq (m_law_are_told_right_3) (mSeq (m_law_are_told_right_4) (mSeq (mFor (mRng1 (mK (.int 4))) (gN 6) (m_law_are_told_right_5l)) (m_law_are_told_right_6))))))
def f_law_are_told_right : List PyData → FOut := runF 9 [.io, .sh] false m_law_are_told_right
theorem u_law_are_told_right {ds : List PyData} : f_law_are_told_right ds = match m_law_are_told_right (initM 9 [.io, .sh] ds) with
  | .nx st => .ok .none (outsA [.io, .sh] 0 st)
  | .ret d st => .ok d (outsA [.io, .sh] 0 st)
  | .err c fs st => .err c fs (outsA [.io, .sh] 0 st)
  | _ => .bad := by unfold f_law_are_told_right runF; rfl
def ws_law_error : List (Str × Str) := [("NoPattern", "pattern"), ("NoPlace", "place")]
/-! ### _law_are_refused 0:bag 1:signs 2:pattern 3:odd 4:place 5:words -/
def m_law_are_refused_1 : MSt := mSet 3 (mCall f_law_some [some 0, none] [.io, .bo] (mConsV 0 (mCons (mLst (mCons (mK .none) (mCons (mK (.str "a")) (mCons (mTup (mCons (mK (.str "sign")) (mCons (mK (.str "ba")) mNil))) (mCons (mTup (mCons (mK (.str "then")) (mCons (mV 2) mNil))) (mCons (mLst (mCons (mK (.str "empty")) mNil)) (mCons (mTup (mCons (mK (.str "mark")) (mCons (mK (.str "M")) (mCons (mV 2) mNil)))) (mCons (mK (.int 3)) (mCons (mTup (mCons (mV 2) mNil)) (mCons (mTup mNil) mNil)))))))))) mNil)))
def m_law_are_refused_2 : MSt := mSet 4 (mCall f_law_some [some 0, none] [.io, .bo] (mConsV 0 (mCons (mLst (mCons (mU negD (mK (.int 1))) (mCons (mU lenD (mV 1)) (mCons (mK .none) (mCons (mK (.bool true)) (mCons (mK (.bool false)) (mCons (mK (.str "0")) (mCons (mTup (mCons (mK (.int 0)) mNil)) (mCons (mOp powD (mK (.int 10)) (mK (.int 30))) (mCons (mLst (mCons (mK (.int 0)) mNil)) mNil)))))))))) mNil)))
def m_law_are_refused_3 : MSt := mOwn 5 (mLst (mCons (mLam ws_law_error "told" (mCall f_nodes_many [none] [.sh] (mCons (mV 3) mNil))) mNil))
def m_law_are_refused_4 : MSt := mApp 5 (mLam ws_law_error "told" (mCall f_deep [none] [.sh] (mCons (mV 3) mNil)))
def m_law_are_refused_5 : MSt := mApp 5 (mLam ws_law_error "told" (mCall f_marks_of [none] [.sh] (mCons (mV 3) mNil)))
def m_law_are_refused_6 : MSt := mApp 5 (mLam ws_law_error "told" (mCall f_lots_of [none] [.sh] (mCons (mV 3) mNil)))
def m_law_are_refused_7 : MSt := mApp 5 (mLam ws_law_error "told" (mCall f_node_at [none, none] [.sh, .sh] (mCons (mV 3) (mCons (mK (.int 0)) mNil))))
def m_law_are_refused_8 : MSt := mApp 5 (mLam ws_law_error "told" (mCall f_node_at [none, none] [.sh, .sh] (mCons (mV 2) (mCons (mV 4) mNil))))
def m_law_are_refused_9 : MSt := mRet (mOpB eqD 5 (mOp catD (mOp repD (mLst (mCons (mK (.str "pattern")) mNil)) (mK (.int 5))) (mLst (mCons (mK (.str "place")) mNil))))
def m_law_are_refused : MSt := mSeq (mSet 2 (mCall f_law_made [none] [.sh] (mCons (mV 1) mNil))) (mSeq (m_law_are_refused_1) (mSeq (m_law_are_refused_2) (mSeq (m_law_are_refused_3) (mSeq (m_law_are_refused_4) (mSeq (m_law_are_refused_5) (mSeq (m_law_are_refused_6) (mSeq (m_law_are_refused_7) (mSeq (m_law_are_refused_8) (m_law_are_refused_9)))))))))
def f_law_are_refused : List PyData → FOut := runF 6 [.io, .sh] false m_law_are_refused
theorem u_law_are_refused {ds : List PyData} : f_law_are_refused ds = match m_law_are_refused (initM 6 [.io, .sh] ds) with
  | .nx st => .ok .none (outsA [.io, .sh] 0 st)
  | .ret d st => .ok d (outsA [.io, .sh] 0 st)
  | .err c fs st => .err c fs (outsA [.io, .sh] 0 st)
  | _ => .bad := by unfold f_law_are_refused runF; rfl
/-! ### law 0:script 1:bag 2:known 3:lap 4:signs -/
def m_law_1 : MSt := mSet 2 (mTup (mCons (mK (.str "or")) (mCons (mTup (mCons (mK (.str "mark")) (mCons (mK (.str "b")) (mCons (mTup (mCons (mK (.str "sign")) (mCons (mK (.str "ac")) mNil))) mNil)))) (mCons (mTup (mCons (mK (.str "then")) (mCons (mTup (mCons (mK (.str "mark")) (mCons (mK (.str "a")) (mCons (mTup (mCons (mK (.str "empty")) mNil)) mNil)))) (mCons (mTup (mCons (mK (.str "many")) (mCons (mTup (mCons (mK (.str "sign")) (mCons (mK (.str "d")) mNil))) mNil))) mNil)))) mNil))))
def m_law_2 : MSt := mIfS (mTest (mOp neD (mTup (mCons (mCall (noErrF f_nodes_many) [none] [.sh] (mCons (mV 2) mNil)) (mCons (mCall (noErrF f_deep) [none] [.sh] (mCons (mV 2) mNil)) (mCons (mCall (noErrF f_marks_of) [none] [.sh] (mCons (mV 2) mNil)) (mCons (mCall (noErrF f_lots_of) [none] [.sh] (mCons (mV 2) mNil)) mNil))))) (mTup (mCons (mK (.int 8)) (mCons (mK (.int 4)) (mCons (mTup (mCons (mK (.str "a")) (mCons (mK (.str "b")) mNil))) (mCons (mTup (mCons (mK (.str "ac")) (mCons (mK (.str "d")) mNil))) mNil))))))) (mRet (mK (.bool false))) (mNext)
def m_law_3 : MSt := mIfS (mOr (mTest (mOp neD (mCall (noErrF f_node_at) [none, none] [.sh, .sh] (mCons (mV 2) (mCons (mK (.int 0)) mNil))) (mV 2))) (mOr (mTest (mOp neD (mCall (noErrF f_node_at) [none, none] [.sh, .sh] (mCons (mV 2) (mCons (mK (.int 3)) mNil))) (mOp ixD (mV 2) (mK (.int 2))))) (mTest (mOp neD (mCall (noErrF f_node_at) [none, none] [.sh, .sh] (mCons (mV 2) (mCons (mK (.int 4)) mNil))) (mTup (mCons (mK (.str "mark")) (mCons (mK (.str "a")) (mCons (mTup (mCons (mK (.str "empty")) mNil)) mNil)))))))) (mRet (mK (.bool false))) (mNext)
def m_law_4l_0 : MSt := mSet 4 (mCall f_law_drawn [some 1, none, none] [.io, .sh, .sh] (mConsV 1 (mCons (mK (.int 14)) (mCons (mK (.int 60)) mNil))))
def m_law_4l_1 : MSt := mIfS (mOr (mNot (mTest (mCall f_law_are_told_right [some 1, none] [.io, .sh] (mConsV 1 (mCons (mV 4) mNil))))) (mNot (mTest (mCall f_law_are_refused [some 1, none] [.io, .sh] (mConsV 1 (mCons (mV 4) mNil)))))) (mRet (mK (.bool false))) (mNext)
def m_law_4l : MSt := mSeq (m_law_4l_0) (m_law_4l_1)
def m_law : MSt := mSeq (mOwn 1 (mCall f_law_bag [some 0] [.sc] (mConsV 0 mNil))) (mSeq (m_law_1) (mSeq (m_law_2) (mSeq (m_law_3) (mSeq (mFor (mRng1 (mK (.int 4))) (gN 3) (m_law_4l)) (mRet (mK (.bool true)))))))
def f_law : List PyData → FOut := runF 5 [.sc] false m_law
theorem u_law {ds : List PyData} : f_law ds = match m_law (initM 5 [.sc] ds) with
  | .nx st => .ok .none (outsA [.sc] 0 st)
  | .ret d st => .ok d (outsA [.sc] 0 st)
  | .err c fs st => .err c fs (outsA [.sc] 0 st)
  | _ => .bad := by unfold f_law runF; rfl

set_option Elab.async false
set_option linter.all false
set_option maxRecDepth 100000
set_option maxHeartbeats 4000000
open PySem PySem.Spec PyProof.Rows L2 FR MV
def topS (i : Nat) : Stmt := PySem.Challenge.pw_firstreads_k01_whole_nodes_and_their_num.main.body.getD i (.Pass ⟨0, 0, 0, 0⟩)
structure Tx (M : Pm) (w : World) (mg : Str → Option Value) : Prop where
  n_ValueError : mg "ValueError" = none
  n_all : mg "all" = none
  n_bool : mg "bool" = none
  n_dict : mg "dict" = none
  n_int : mg "int" = none
  n_isinstance : mg "isinstance" = none
  n_len : mg "len" = none
  n_max : mg "max" = none
  n_range : mg "range" = none
  n_repr : mg "repr" = none
  n_sorted : mg "sorted" = none
  n_str : mg "str" = none
  n_tuple : mg "tuple" = none
  n_zip : mg "zip" = none
  g_LETTERS : ∃ t, mg "LETTERS" = some (.str "abcdefghijklmnopqrstuvwxyz" t)
  g_MOST_DEEP : ∃ t, mg "MOST_DEEP" = some (.int 15 t)
  g_MOST_MARK : ∃ t, mg "MOST_MARK" = some (.int 6 t)
  g_MOST_NODES : ∃ t, mg "MOST_NODES" = some (.int 60 t)
  g_SIGNS : ∃ t, mg "SIGNS" = some (.str "abcd" t)
  e_NoPattern : ErrC M.K mg "NoPattern" (M.cls "NoPattern")
  e_NoPlace : ErrC M.K mg "NoPlace" (M.cls "NoPlace")
  e_ReadError : ErrC M.K mg "ReadError" (M.cls "ReadError")
  k_FORMS : KD M.K w mg "FORMS" (M.cls "FORMS") tab_FORMS
  sub_NoPattern : PySem.W.subIn M.K (.ref (M.cls "NoPattern")) (.ref (M.cls "ReadError")) = some true
  kitv_NoPattern : PySem.W.kitOne M.K (.ref (M.cls "NoPattern")) (.type "ValueError") = some true
  kit_NoPattern_NoPattern : PySem.W.kitOne M.K (.ref (M.cls "NoPattern")) (.ref (M.cls "NoPattern")) = some true
  kit_NoPattern_NoPlace : PySem.W.kitOne M.K (.ref (M.cls "NoPattern")) (.ref (M.cls "NoPlace")) = some false
  sub_NoPlace : PySem.W.subIn M.K (.ref (M.cls "NoPlace")) (.ref (M.cls "ReadError")) = some true
  kitv_NoPlace : PySem.W.kitOne M.K (.ref (M.cls "NoPlace")) (.type "ValueError") = some true
  kit_NoPlace_NoPattern : PySem.W.kitOne M.K (.ref (M.cls "NoPlace")) (.ref (M.cls "NoPattern")) = some false
  kit_NoPlace_NoPlace : PySem.W.kitOne M.K (.ref (M.cls "NoPlace")) (.ref (M.cls "NoPlace")) = some true
abbrev s_law_bag : Stmt := topS 30
theorem sc_law_bag : FnScope ["script", "cells", "cell"] ["script"] (defScope s_law_bag) := ⟨rfl, rfl, rfl, by decide +kernel, rfl, by decide +kernel, by decide +kernel⟩
abbrev s_law_pick : Stmt := topS 31
theorem sc_law_pick : FnScope ["bag", "width", "cell", "digit", "number"] ["bag", "width"] (defScope s_law_pick) := ⟨rfl, rfl, rfl, by decide +kernel, rfl, by decide +kernel, by decide +kernel⟩
abbrev s_law_some : Stmt := topS 32
theorem sc_law_some : FnScope ["bag", "things"] ["bag", "things"] (defScope s_law_some) := ⟨rfl, rfl, rfl, by decide +kernel, rfl, by decide +kernel, by decide +kernel⟩
abbrev s_law_lot : Stmt := topS 37
theorem sc_law_lot : FnScope ["bag", "turn", "sign", "by"] ["bag"] (defScope s_law_lot) := ⟨rfl, rfl, rfl, by decide +kernel, rfl, by decide +kernel, by decide +kernel⟩
abbrev s_law_parts : Stmt := topS 33
theorem sc_law_parts : FnScope ["sign"] ["sign"] (defScope s_law_parts) := ⟨rfl, rfl, rfl, by decide +kernel, rfl, by decide +kernel, by decide +kernel⟩
abbrev s_law_depths : Stmt := topS 36
theorem sc_law_depths : FnScope ["signs", "waiting", "found", "sign"] ["signs"] (defScope s_law_depths) := ⟨rfl, rfl, rfl, by decide +kernel, rfl, by decide +kernel, by decide +kernel⟩
abbrev s_law_mark : Stmt := topS 38
theorem sc_law_mark : FnScope ["bag", "letters", "drawn", "turn"] ["bag"] (defScope s_law_mark) := ⟨rfl, rfl, rfl, by decide +kernel, rfl, by decide +kernel, by decide +kernel⟩
abbrev s_law_drawn : Stmt := topS 39
theorem sc_law_drawn : FnScope ["bag", "turns", "most", "pool", "turn", "word", "one", "other", "new"] ["bag", "turns", "most"] (defScope s_law_drawn) := ⟨rfl, rfl, rfl, by decide +kernel, rfl, by decide +kernel, by decide +kernel⟩
abbrev s_are_signs : Stmt := topS 14
theorem sc_are_signs : FnScope ["thing", "most", "sign"] ["thing", "most"] (defScope s_are_signs) := ⟨rfl, rfl, rfl, by decide +kernel, rfl, by decide +kernel, by decide +kernel⟩
abbrev s_is_lot : Stmt := topS 15
theorem sc_is_lot : FnScope ["thing", "at"] ["thing"] (defScope s_is_lot) := ⟨rfl, rfl, rfl, by decide +kernel, rfl, by decide +kernel, by decide +kernel⟩
abbrev s_is_mark : Stmt := topS 16
theorem sc_is_mark : FnScope ["thing", "sign"] ["thing"] (defScope s_is_mark) := ⟨rfl, rfl, rfl, by decide +kernel, rfl, by decide +kernel, by decide +kernel⟩
abbrev s_has_form : Stmt := topS 17
theorem sc_has_form : FnScope ["thing"] ["thing"] (defScope s_has_form) := ⟨rfl, rfl, rfl, by decide +kernel, rfl, by decide +kernel, by decide +kernel⟩
abbrev s_parts_of : Stmt := topS 18
theorem sc_parts_of : FnScope ["pattern", "sign", "part"] ["pattern"] (defScope s_parts_of) := ⟨rfl, rfl, rfl, by decide +kernel, rfl, by decide +kernel, by decide +kernel⟩
abbrev s_is_pattern : Stmt := topS 19
theorem sc_is_pattern : FnScope ["thing", "many", "waiting", "here", "depth", "part"] ["thing"] (defScope s_is_pattern) := ⟨rfl, rfl, rfl, by decide +kernel, rfl, by decide +kernel, by decide +kernel⟩
abbrev s_check_pattern : Stmt := topS 20
theorem sc_check_pattern : FnScope ["thing"] ["thing"] (defScope s_check_pattern) := ⟨rfl, rfl, rfl, by decide +kernel, rfl, by decide +kernel, by decide +kernel⟩
abbrev s_node_rows : Stmt := topS 21
theorem sc_node_rows : FnScope ["pattern", "found", "waiting", "here", "above", "number", "part"] ["pattern"] (defScope s_node_rows) := ⟨rfl, rfl, rfl, by decide +kernel, rfl, by decide +kernel, by decide +kernel⟩
abbrev s_nodes_many : Stmt := topS 22
theorem sc_nodes_many : FnScope ["pattern"] ["pattern"] (defScope s_nodes_many) := ⟨rfl, rfl, rfl, by decide +kernel, rfl, by decide +kernel, by decide +kernel⟩
abbrev s_deep : Stmt := topS 23
theorem sc_deep : FnScope ["pattern", "found", "waiting", "here", "depth", "part"] ["pattern"] (defScope s_deep) := ⟨rfl, rfl, rfl, by decide +kernel, rfl, by decide +kernel, by decide +kernel⟩
abbrev s_raw_marks : Stmt := topS 24
theorem sc_raw_marks : FnScope ["pattern", "met", "node", "parts"] ["pattern"] (defScope s_raw_marks) := ⟨rfl, rfl, rfl, by decide +kernel, rfl, by decide +kernel, by decide +kernel⟩
abbrev s_marks_of : Stmt := topS 25
theorem sc_marks_of : FnScope ["pattern"] ["pattern"] (defScope s_marks_of) := ⟨rfl, rfl, rfl, by decide +kernel, rfl, by decide +kernel, by decide +kernel⟩
abbrev s_raw_lots : Stmt := topS 26
theorem sc_raw_lots : FnScope ["pattern", "node", "parts"] ["pattern"] (defScope s_raw_lots) := ⟨rfl, rfl, rfl, by decide +kernel, rfl, by decide +kernel, by decide +kernel⟩
abbrev s_lots_of : Stmt := topS 27
theorem sc_lots_of : FnScope ["pattern"] ["pattern"] (defScope s_lots_of) := ⟨rfl, rfl, rfl, by decide +kernel, rfl, by decide +kernel, by decide +kernel⟩
abbrev s_is_integer : Stmt := topS 11
theorem sc_is_integer : FnScope ["thing"] ["thing"] (defScope s_is_integer) := ⟨rfl, rfl, rfl, by decide +kernel, rfl, by decide +kernel, by decide +kernel⟩
abbrev s_is_within : Stmt := topS 12
theorem sc_is_within : FnScope ["thing", "low", "high"] ["thing", "low", "high"] (defScope s_is_within) := ⟨rfl, rfl, rfl, by decide +kernel, rfl, by decide +kernel, by decide +kernel⟩
abbrev s_check_place : Stmt := topS 13
theorem sc_check_place : FnScope ["thing", "high"] ["thing", "high"] (defScope s_check_place) := ⟨rfl, rfl, rfl, by decide +kernel, rfl, by decide +kernel, by decide +kernel⟩
abbrev s_node_at : Stmt := topS 28
theorem sc_node_at : FnScope ["pattern", "number", "rows"] ["pattern", "number"] (defScope s_node_at) := ⟨rfl, rfl, rfl, by decide +kernel, rfl, by decide +kernel, by decide +kernel⟩
abbrev s_law_made : Stmt := topS 34
theorem sc_law_made : FnScope ["signs", "pile", "sign", "under", "parts"] ["signs"] (defScope s_law_made) := ⟨rfl, rfl, rfl, by decide +kernel, rfl, by decide +kernel, by decide +kernel⟩
abbrev s_law_behind : Stmt := topS 35
theorem sc_law_behind : FnScope ["signs", "found", "back", "at", "end", "part"] ["signs"] (defScope s_law_behind) := ⟨rfl, rfl, rfl, by decide +kernel, rfl, by decide +kernel, by decide +kernel⟩
abbrev s_law_are_told_right : Stmt := topS 41
theorem sc_law_are_told_right : FnScope ["bag", "signs", "pattern", "behind", "marks", "lots", "turn", "at", "sign"] ["bag", "signs"] (defScope s_law_are_told_right) := ⟨rfl, rfl, rfl, by decide +kernel, rfl, by decide +kernel, by decide +kernel⟩
abbrev s_law_error : Stmt := topS 40
theorem sc_law_error : FnScope ["call", "found", "error", "flags"] ["call"] (defScope s_law_error) := ⟨rfl, rfl, rfl, by decide +kernel, rfl, by decide +kernel, by decide +kernel⟩
abbrev s_law_are_refused : Stmt := topS 42
theorem sc_law_are_refused : FnScope ["bag", "signs", "pattern", "odd", "place", "words"] ["bag", "signs"] (defScope s_law_are_refused) := ⟨rfl, rfl, rfl, by decide +kernel, rfl, by decide +kernel, by decide +kernel⟩
abbrev s_law : Stmt := topS 43
theorem sc_law : FnScope ["script", "bag", "known", "lap", "signs"] ["script"] (defScope s_law) := ⟨rfl, rfl, rfl, by decide +kernel, rfl, by decide +kernel, by decide +kernel⟩

set_option Elab.async false
set_option linter.all false
set_option maxRecDepth 100000
set_option maxHeartbeats 4000000
open PySem PySem.Spec PyProof.Rows L2 FR MV
local macro_rules | `(tactic| walk_at "nm") => `(tactic| dsimp only [backA, putD, initM, cells0, cell0, outsA, ownD, MV.cellOf, wipeM, restM, List.cons_append, List.nil_append, List.reduceReplicate, List.length_cons, List.length_nil, Nat.reduceAdd, Nat.reduceSub, List.set_cons_zero, List.set_cons_succ, List.getElem?_cons_zero, List.getElem?_cons_succ, Option.join_some, Option.join_none])
local macro_rules | `(tactic| walk_at "g1") => `(tactic| first
  | ((with_reducible refine w_v ?_); (refine ⟨_, rfl, ?_⟩))
  | ((with_reducible refine w_vo ?_); (refine ⟨_, rfl, ?_⟩))
  | ((with_reducible refine w_mv ?_); (refine ⟨_, rfl, ?_⟩))
  | ((with_reducible refine w_opB ?_); (refine ⟨_, rfl, ?_⟩))
  | ((with_reducible refine w_consV ?_); (refine ⟨_, rfl, ?_⟩))
  | ((with_reducible refine w_slB ?_); (refine ⟨_, rfl, ?_⟩))
  | ((with_reducible refine w_slW ?_); (refine ⟨_, rfl, ?_⟩))
  | ((with_reducible refine ws_app ?_); (refine ⟨_, rfl, ?_⟩))
  | ((with_reducible refine ws_ext ?_); (refine ⟨_, rfl, ?_⟩))
  | ((with_reducible refine ws_aug ?_); (refine ⟨_, rfl, ?_⟩))
  | ((with_reducible refine w_gTB ?_); (refine ⟨_, rfl, ?_⟩))
  | ((with_reducible refine fn_nx ?_); (refine ⟨rfl, ?_⟩))
  | ((with_reducible refine w_b ?_); (refine ⟨_, _, rfl, rfl, ?_⟩))
  | (with_reducible refine ws_seq ?_)
  | (with_reducible refine ws_set ?_)
  | (with_reducible refine ws_own ?_)
  | (with_reducible refine ws_if ?_)
  | (with_reducible refine ws_ret ?_)
  | (with_reducible refine ws_drop ?_)
  | (with_reducible refine ws_par ?_)
  | (with_reducible refine ws_par3 ?_)
  | (with_reducible refine ws_next ?_)
  | (with_reducible refine ws_setIx ?_)
  | (with_reducible refine ws_for ?_)
  | (with_reducible refine ws_tgt ?_)
  | (with_reducible refine ws_retN ?_)
  | (with_reducible refine ws_brk ?_)
  | (with_reducible refine ws_ct ?_)
  | (with_reducible refine ws_raise ?_)
  | (with_reducible refine w_k ?_)
  | (with_reducible refine w_op ?_)
  | (with_reducible refine w_u ?_)
  | (with_reducible refine w_u2 ?_)
  | (with_reducible refine w_test ?_)
  | (with_reducible refine w_tru ?_)
  | (with_reducible refine w_and ?_)
  | (with_reducible refine w_or ?_)
  | (with_reducible refine w_not ?_)
  | (with_reducible refine w_notV ?_)
  | (with_reducible refine w_andV ?_)
  | (with_reducible refine w_orV ?_)
  | (with_reducible refine w_if ?_)
  | (with_reducible refine w_chain ?_)
  | (with_reducible refine w_nil ?_)
  | (with_reducible refine w_cons ?_)
  | (with_reducible refine w_tup ?_)
  | (with_reducible refine w_lst ?_)
  | (with_reducible refine w_noP ?_)
  | (with_reducible refine w_part ?_)
  | (with_reducible refine w_sl ?_)
  | (with_reducible refine w_mt ?_)
  | (with_reducible refine w_get2 ?_)
  | (with_reducible refine w_it ?_)
  | (with_reducible refine w_rng1 ?_)
  | (with_reducible refine w_rng2 ?_)
  | (with_reducible refine w_zip ?_)
  | (with_reducible refine w_enum ?_)
  | (with_reducible refine w_lc ?_)
  | (with_reducible refine w_call ?_)
  | (with_reducible refine w_pop ?_)
  | (with_reducible refine th_nx ?_)
  | (with_reducible refine th_rt ?_)
  | (with_reducible refine th_er ?_)
  | (with_reducible refine th_bk ?_)
  | (with_reducible refine th_ct ?_)
  | (with_reducible refine lp_nx ?_)
  | (with_reducible refine lp_rt ?_)
  | (with_reducible refine lp_er ?_)
  | (with_reducible refine lp_bk ?_)
  | (with_reducible refine lp_ct ?_)
  | (with_reducible refine wl_nil ?_)
  | (with_reducible refine fn_rt ?_)
  | (with_reducible refine fn_er ?_)
  | (with_reducible refine wf_noErr ?_)
  | (with_reducible refine w_lam ?_)
  | (with_reducible refine w_new ?_)
  | (with_reducible refine ws_putK ?_)
  | (with_reducible refine ws_putT ?_)
  | (with_reducible refine w_gT ?_)
  | (with_reducible refine w_inTB ?_)
  | (with_reducible refine w_getOr ?_)
  | (with_reducible refine w_getOrB ?_)
  | ((with_reducible refine ifT1 ?_ ?_); (focus rfl))
  | ((with_reducible refine ifT0 ?_ ?_); (focus rfl))
  | (with_reducible refine ex_rep ?_)
  | ((with_reducible apply Exists.intro); (with_reducible apply And.intro); (focus exact eqD_int))
  | ((with_reducible apply Exists.intro); (with_reducible apply And.intro); (focus exact neD_int))
  | ((with_reducible apply Exists.intro); (with_reducible apply And.intro); (focus exact atI_0))
  | ((with_reducible apply Exists.intro); (with_reducible apply And.intro); (focus exact atI_lastA))
  | ((with_reducible apply Exists.intro); (with_reducible apply And.intro); (focus exact atI_1))
  | ((with_reducible apply Exists.intro); (with_reducible apply And.intro); (focus exact rfl))
  | ((with_reducible apply Exists.intro); (with_reducible apply And.intro); (focus exact isi_str))
  | ((with_reducible apply Exists.intro); (with_reducible apply And.intro); (focus exact isi_tup))
  | ((with_reducible apply Exists.intro); (with_reducible apply And.intro); (focus exact mul_r (by decide)))
  | ((with_reducible apply Exists.intro); (with_reducible apply And.intro); (focus exact mul_l (by decide)))
  | (with_reducible refine And.intro (sm_in (by decide) (by decide)) ?_)
  | ((with_reducible refine And.intro ?_ ?_); (focus (first | rfl | decide))))
local macro_rules | `(tactic| walk_at "go") => `(tactic| (repeat (first | walk_at "g1" | walk_at "nm")))
theorem g_law_bag {P : Program} {w : World} {mg : Str → Option Value} {base : Heap} {M : Pm} (T : Tx M w mg) (D : DefIn M.K mg "_law_bag" s_law_bag) :
    Has P w M.K mg base CX0 "_law_bag" 1 ["script"] (spOf M [.sc] true f_law_bag) :=
  has_of (m := m_law_bag) D sc_law_bag (fun _ _ _ _ _ _ us hl => match us, hl with | [_], _ => rfl) fun f cdv A outer s H E hr =>
    (q_ss (q_setLcS (i := 1) (own := [("cell", 2)]) rfl sc_law_bag.nd rfl rfl (sw_true rfl rfl rfl (by decide +kernel)) (q_any (QE.fs (q_slW (i := 0) (hl := q_no) (hu := (q_part q_int))))) (blkOk_by (own := [("cell", 2)]) (N := ["script", "cells", "cell"]) (sc := defScope s_law_bag) (by decide +kernel)) (fun _ _ _ _ _ => (q_gn (i := 2) sc_law_bag.nd rfl (Or.inl rfl))) (fun _ _ _ _ _ => q_ts0) (fun _ _ _ _ _ => (q_cty call_int1 ok_int T.n_int (by rfl) (by decide +kernel) (QE.sb (q_op op_mod ok_mod (q_cty call_int1 ok_int T.n_int (by rfl) (by decide +kernel) (QE.sb (q_v (i := 2)))) (QE.sb (q_op op_pow ok_pow q_int (QE.sb q_int))))))))
    (q_ss1 (q_retF (q_lst (n := 5) (q_cons (q_v (i := 1)) (q_cons q_int (q_cons q_int (q_cons (q_op op_addG ok_addG q_int (QE.sb (q_op op_mulG ok_mul q_int (QE.sb (q_cb call_len ok_len T.n_len (by rfl) (by decide +kernel) (QE.sb (q_v (i := 1)))))))) (q_cons q_int q_nil)))))))))
theorem g_law_pick {P : Program} {w : World} {mg : Str → Option Value} {base : Heap} {M : Pm} (T : Tx M w mg) (D : DefIn M.K mg "_law_pick" s_law_pick) :
    Has P w M.K mg base CX0 "_law_pick" 1 ["bag", "width"] (spOf M [.io, .sh] false f_law_pick) :=
  has_of (m := m_law_pick) D sc_law_pick (fun _ _ _ _ _ _ us hl => match us, hl with | [_, _], _ => rfl) fun f cdv A outer s H E hr =>
    (q_ss (q_ifS (QW.t (q_andT (q_cmpT (op_eqG (hu64 hr)) ok_eq (q_ixB (i := 0) (hb := (QE.sb q_int)) (hs := fun _ _ => rfl)) (QE.sb q_int) (nomark _)) (q_and1 (q_cmpT op_ltG ok_lt (q_ixB (i := 0) (hb := (QE.sb q_int)) (hs := fun _ _ => rfl)) (QE.sb (q_cb call_len ok_len T.n_len (by rfl) (by decide +kernel) (QE.sb (q_ixB (i := 0) (hb := (QE.sb q_int)) (hs := fun _ _ => rfl))))) (nomark _))))) (q_ss (q_set (i := 2) sc_law_pick.nd rfl (Or.inl rfl) (q_ix (q_ixB (i := 0) (hb := (QE.sb q_int)) (hs := fun _ _ => rfl)) (QE.sb (q_ixB (i := 0) (hb := (QE.sb q_int)) (hs := fun _ _ => rfl))) (fun _ _ => rfl)))
    (q_ss (q_setIx (i := 0) (hb := q_int) (h := (q_op op_addG ok_addG (q_ixB (i := 0) (hb := (QE.sb q_int)) (hs := fun _ _ => rfl)) (QE.sb q_int))))
    (q_ss (q_setIx (i := 0) (hb := q_int) (h := (q_op op_mod ok_mod (q_cty call_int1 ok_int T.n_int (by rfl) (by decide +kernel) (QE.sb (q_op op_addG ok_addG (q_op op_addG ok_addG (q_op op_mulG ok_mul (q_ixB (i := 0) (hb := (QE.sb q_int)) (hs := fun _ _ => rfl)) (QE.sb q_int)) (QE.sb (q_op op_mulG ok_mul (q_v (i := 2)) (QE.sb q_int)))) (QE.sb q_int)))) (QE.sb q_int))))
    (q_ss1 (q_ifS (q_cmpT op_geG ok_ge (q_v (i := 2)) (QE.sb (q_op op_pow ok_pow q_int (QE.sb q_int))) (nomark _)) (q_ss1 (q_setIx (i := 0) (hb := q_int) (h := (q_v (i := 2))))) q_ss0))))) q_ss0)
    (q_ss (q_ifS (q_cmpT op_gtG ok_gt (q_ixB (i := 0) (hb := (QE.sb q_int)) (hs := fun _ _ => rfl)) (QE.sb q_int) (nomark _)) (q_ss (q_set (i := 3) sc_law_pick.nd rfl (Or.inl rfl) (q_op op_mod ok_mod (q_cty call_int1 ok_int T.n_int (by rfl) (by decide +kernel) (QE.sb (q_ixB (i := 0) (hb := (QE.sb q_int)) (hs := fun _ _ => rfl)))) (QE.sb (q_v (i := 1)))))
    (q_ss (q_setIx (i := 0) (hb := q_int) (h := (q_op op_fdiv ok_fdiv (q_ixB (i := 0) (hb := (QE.sb q_int)) (hs := fun _ _ => rfl)) (QE.sb (q_v (i := 1))))))
    (q_ss1 (q_ret (q_v (i := 3)))))) q_ss0)
    (q_ss (q_setIx (i := 0) (hb := q_int) (h := (q_op op_addG ok_addG (q_ixB (i := 0) (hb := (QE.sb q_int)) (hs := fun _ _ => rfl)) (QE.sb q_int))))
    (q_ss (q_set (i := 4) sc_law_pick.nd rfl (Or.inl rfl) (q_op op_mod ok_mod (q_cty call_int1 ok_int T.n_int (by rfl) (by decide +kernel) (QE.sb (q_op op_mulG ok_mul (q_cty call_int1 ok_int T.n_int (by rfl) (by decide +kernel) (QE.sb (q_op op_addG ok_addG (q_ixB (i := 0) (hb := (QE.sb q_int)) (hs := fun _ _ => rfl)) (QE.sb (q_op op_mulG ok_mul q_int (QE.sb (q_ixB (i := 0) (hb := (QE.sb q_int)) (hs := fun _ _ => rfl)))))))) (QE.sb q_int)))) (QE.sb q_int)))
    (q_ss (q_set (i := 4) sc_law_pick.nd rfl (Or.inl rfl) (q_op op_mod ok_mod (q_cty call_int1 ok_int T.n_int (by rfl) (by decide +kernel) (QE.sb (q_op op_mulG ok_mul (q_v (i := 4)) (QE.sb (q_op op_addG ok_addG (q_op op_fdiv ok_fdiv (q_v (i := 4)) (QE.sb q_int)) (QE.sb q_int)))))) (QE.sb q_int)))
    (q_ss (q_set (i := 4) sc_law_pick.nd rfl (Or.inl rfl) (q_op op_mod ok_mod (q_cty call_int1 ok_int T.n_int (by rfl) (by decide +kernel) (QE.sb (q_op op_mulG ok_mul (q_v (i := 4)) (QE.sb (q_op op_addG ok_addG (q_op op_fdiv ok_fdiv (q_v (i := 4)) (QE.sb q_int)) (QE.sb q_int)))))) (QE.sb q_int)))
    (q_ss1 (q_ret (q_op op_mod ok_mod (q_cty call_int1 ok_int T.n_int (by rfl) (by decide +kernel) (QE.sb (q_op op_fdiv ok_fdiv (q_v (i := 4)) (QE.sb q_int)))) (QE.sb (q_v (i := 1))))))))))))
theorem g_law_some {P : Program} {w : World} {mg : Str → Option Value} {base : Heap} {M : Pm} (T : Tx M w mg) (D : DefIn M.K mg "_law_some" s_law_some) (G__law_pick : Has P w M.K mg base CX0 "_law_pick" 1 ["bag", "width"] (spOf M [.io, .sh] false f_law_pick)) :
    Has P w M.K mg base CX0 "_law_some" 2 ["bag", "things"] (spOf M [.io, .bo] false f_law_some) :=
  has_of (m := m_law_some) D sc_law_some (fun _ _ _ _ _ _ us hl => match us, hl with | [_, _], _ => rfl) fun f cdv A outer s H E hr =>
    (q_ss1 (q_ret (q_ixB (i := 1) (hb := (QE.sb (q_callS (Ex := E) G__law_pick (hr.mono (by decide)) (by rfl) pass0 (q_consV (i := 0) (hr := (q_cons (q_cb call_len ok_len T.n_len (by rfl) (by decide +kernel) (q_b (i := 1))) q_nil)))))) (hs := fun _ _ => rfl))))
theorem g_law_lot {P : Program} {w : World} {mg : Str → Option Value} {base : Heap} {M : Pm} (T : Tx M w mg) (D : DefIn M.K mg "_law_lot" s_law_lot) (G__law_pick : Has P w M.K mg base CX0 "_law_pick" 1 ["bag", "width"] (spOf M [.io, .sh] false f_law_pick)) :
    Has P w M.K mg base CX0 "_law_lot" 2 ["bag"] (spOf M [.io] false f_law_lot) :=
  has_of (m := m_law_lot) D sc_law_lot (fun _ _ _ _ _ _ us hl => match us, hl with | [_], _ => rfl) fun f cdv A outer s H E hr =>
    (q_ss (q_set (i := 1) sc_law_lot.nd rfl (Or.inr rfl) (q_callS (Ex := E) G__law_pick (hr.mono (by decide)) (by rfl) pass0 (q_consV (i := 0) (hr := (q_cons q_int q_nil)))))
    (q_ss (q_ifS (q_cmpT op_ltG ok_lt (q_v (i := 1)) (QE.sb q_int) (nomark _)) (q_ss1 (q_ret (q_ix q_str (QE.sb (q_v (i := 1))) (fun _ _ => rfl)))) q_ss0)
    (q_ss1 (q_ret (q_join q_str (QE.fb (q_lc (own := [("sign", 2), ("by", 3)]) rfl sc_law_lot.nd (q_zip T.n_zip (by rfl) q_str (QE.fs (q_lst (n := 4) (q_cons q_int (q_cons q_int (q_cons q_int (q_cons q_int q_nil))))))) (blkOk_by (own := [("sign", 2), ("by", 3)]) (N := ["bag", "turn", "sign", "by"]) (sc := defScope s_law_lot) (by decide +kernel)) (fun _ _ _ _ _ => (q_gt rfl (q_gs1 (q_gn (i := 2) sc_law_lot.nd rfl (Or.inl rfl)) (q_gs1 (q_gn (i := 3) sc_law_lot.nd rfl (Or.inl rfl)) q_gs0)))) (fun _ _ _ _ _ => (q_ts1 (q_cmpT (op_eqG (hu64 hr)) ok_eq (q_op op_mod ok_mod (q_cty call_int1 ok_int T.n_int (by rfl) (by decide +kernel) (QE.sb (q_op op_fdiv ok_fdiv (q_op op_sub ok_sub (q_v (i := 1)) (QE.sb q_int)) (QE.sb (q_v (i := 3)))))) (QE.sb q_int)) (QE.sb q_int) (nomark _)))) (fun _ _ _ _ _ => (q_v (i := 2))))))))))
theorem g_law_parts {P : Program} {w : World} {mg : Str → Option Value} {base : Heap} {M : Pm} (T : Tx M w mg) (D : DefIn M.K mg "_law_parts" s_law_parts) :
    Has P w M.K mg base CX0 "_law_parts" 1 ["sign"] (spOf M [.sh] false f_law_parts) :=
  has_of (m := m_law_parts) D sc_law_parts (fun _ _ _ _ _ _ us hl => match us, hl with | [_], _ => rfl) fun f cdv A outer s H E hr =>
    (q_ss1 (q_ret (q_getT (tab := [("then", .int 2), ("or", .int 2), ("many", .int 1), ("few", .int 1), ("mark", .int 1)]) (pps_cons pe_str pe_int (pps_cons pe_str pe_int (pps_cons pe_str pe_int (pps_cons pe_str pe_int (pps_cons pe_str pe_int pps_nil))))) (by rfl) (by rfl) (fun z => by cases z) (by decide) (by decide +kernel) (Nat.lt_of_le_of_lt (Nat.add_le_add_left (by decide) _) (hu64 hr)) (q_ix (q_v (i := 0)) (QE.sb q_int) (fun _ _ => rfl)) q_int ⟨by rfl, by rfl, by rfl, by rfl⟩)))
theorem g_law_depths {P : Program} {w : World} {mg : Str → Option Value} {base : Heap} {M : Pm} (T : Tx M w mg) (D : DefIn M.K mg "_law_depths" s_law_depths) (G__law_parts : Has P w M.K mg base CX0 "_law_parts" 1 ["sign"] (spOf M [.sh] false f_law_parts)) :
    Has P w M.K mg base CX0 "_law_depths" 2 ["signs"] (spOf M [.sh] true f_law_depths) :=
  has_of (m := m_law_depths) D sc_law_depths (fun _ _ _ _ _ _ us hl => match us, hl with | [_], _ => rfl) fun f cdv A outer s H E hr =>
    (q_ss (q_par (i := 1) (j := 2) rfl sc_law_depths.nd rfl rfl (by decide) rfl rfl (q_lst (n := 1) (q_cons (q_op op_addG ok_addG (q_cb call_len ok_len T.n_len (by rfl) (by decide +kernel) (QE.sb (q_v (i := 0)))) (QE.sb q_int)) q_nil)) (q_lst (n := 0) q_nil) (by rfl))
    (q_ss (q_for PassesOwn.never rfl (q_any (q_v (i := 0))) (q_gn (i := 3) sc_law_depths.nd rfl (Or.inl rfl)) (q_ss (q_app (i := 2) (h := (q_cb call_len ok_len T.n_len (by rfl) (by decide +kernel) (q_b (i := 1)))))
    (q_ss (q_setIx (i := 1) (hb := (q_neg (QE.sb q_int))) (h := (q_op op_sub ok_sub (q_ixB (i := 1) (hb := (QE.sb (q_neg (QE.sb q_int)))) (hs := fun _ _ => rfl)) (QE.sb q_int))))
    (q_ss (q_app (i := 1) (h := (q_callS (Ex := E) G__law_parts (hr.mono (by decide)) (by rfl) pass0 (q_cons (q_v (i := 3)) q_nil))))
    (q_ss1 (q_while PassesOwn.never (QW.t (q_andT (q_cmpTB (i := 1) (op_neG (hu64 hr)) ok_ne (hb := (QE.fb (q_lst (n := 0) q_nil))) (hm := (nomark _))) (q_and1 (q_cmpT (op_eqG (hu64 hr)) ok_eq (q_ixB (i := 1) (hb := (QE.sb (q_neg (QE.sb q_int)))) (hs := fun _ _ => rfl)) (QE.sb q_int) (nomark _))))) (q_ss1 (q_expr (q_pop (i := 1))))))))))
    (q_ss1 (q_retF (q_mv (i := 2))))))
theorem g_law_mark {P : Program} {w : World} {mg : Str → Option Value} {base : Heap} {M : Pm} (T : Tx M w mg) (D : DefIn M.K mg "_law_mark" s_law_mark) (G__law_pick : Has P w M.K mg base CX0 "_law_pick" 1 ["bag", "width"] (spOf M [.io, .sh] false f_law_pick)) (G__law_some : Has P w M.K mg base CX0 "_law_some" 2 ["bag", "things"] (spOf M [.io, .bo] false f_law_some)) :
    Has P w M.K mg base CX0 "_law_mark" 3 ["bag"] (spOf M [.io] false f_law_mark) :=
  has_of (m := m_law_mark) D sc_law_mark (fun _ _ _ _ _ _ us hl => match us, hl with | [_], _ => rfl) fun f cdv A outer s H E hr =>
    (q_ss (q_set (i := 1) sc_law_mark.nd rfl (Or.inr rfl) q_str)
    (q_ss (q_set (i := 2) sc_law_mark.nd rfl (Or.inl rfl) (q_join q_str (QE.fb (q_lc (own := [("turn", 3)]) rfl sc_law_mark.nd (q_rng1 T.n_range (by rfl) (q_op op_addG ok_addG q_int (QE.sb (q_callS (Ex := E) G__law_pick (hr.mono (by decide)) (by rfl) pass0 (q_consV (i := 0) (hr := (q_cons q_int q_nil))))))) (blkOk_by (own := [("turn", 3)]) (N := ["bag", "letters", "drawn", "turn"]) (sc := defScope s_law_mark) (by decide +kernel)) (fun _ _ _ _ _ => (q_gn (i := 3) sc_law_mark.nd rfl (Or.inl rfl))) (fun _ _ _ _ _ => q_ts0) (fun _ _ _ _ _ => (q_callS (Ex := E) G__law_some (hr.mono (by decide)) (by rfl) pass0 (q_consV (i := 0) (hr := (q_cons (q_v (i := 1)) q_nil)))))))))
    (q_ss1 (q_ret (q_callS (Ex := E) G__law_some (hr.mono (by decide)) (by rfl) pass0 (q_consV (i := 0) (hr := (q_cons (QE.fs (q_lst (n := 4) (q_cons q_str (q_cons q_str (q_cons (q_v (i := 2)) (q_cons q_str q_nil)))))) q_nil))))))))
theorem g_law_drawn {P : Program} {w : World} {mg : Str → Option Value} {base : Heap} {M : Pm} (T : Tx M w mg) (D : DefIn M.K mg "_law_drawn" s_law_drawn) (G__law_depths : Has P w M.K mg base CX0 "_law_depths" 2 ["signs"] (spOf M [.sh] true f_law_depths)) (G__law_lot : Has P w M.K mg base CX0 "_law_lot" 2 ["bag"] (spOf M [.io] false f_law_lot)) (G__law_mark : Has P w M.K mg base CX0 "_law_mark" 3 ["bag"] (spOf M [.io] false f_law_mark)) (G__law_pick : Has P w M.K mg base CX0 "_law_pick" 1 ["bag", "width"] (spOf M [.io, .sh] false f_law_pick)) (G__law_some : Has P w M.K mg base CX0 "_law_some" 2 ["bag", "things"] (spOf M [.io, .bo] false f_law_some)) :
    Has P w M.K mg base CX0 "_law_drawn" 4 ["bag", "turns", "most"] (spOf M [.io, .sh, .sh] false f_law_drawn) :=
  has_of (m := m_law_drawn) D sc_law_drawn (fun _ _ _ _ _ _ us hl => match us, hl with | [_, _, _], _ => rfl) fun f cdv A outer s H E hr =>
    (q_ss (q_own (i := 3) sc_law_drawn.nd rfl (Or.inl rfl) (q_lst (n := 3) (q_cons (QE.fs (q_lst (n := 1) (q_cons (q_tup (n := 2) (q_cons q_str (q_cons (q_callS (Ex := E) G__law_lot (hr.mono (by decide)) (by rfl) pass0 (q_consV (i := 0) (hr := q_nil))) q_nil))) q_nil))) (q_cons (QE.fs (q_lst (n := 1) (q_cons (q_tup (n := 2) (q_cons q_str (q_cons (q_callS (Ex := E) G__law_lot (hr.mono (by decide)) (by rfl) pass0 (q_consV (i := 0) (hr := q_nil))) q_nil))) q_nil))) (q_cons (QE.fs (q_lst (n := 1) (q_cons (q_tup (n := 1) (q_cons q_str q_nil)) q_nil))) q_nil)))))
    (q_ss (q_for PassesOwn.never rfl (q_rng1 T.n_range (by rfl) (q_v (i := 1))) (q_gn (i := 4) sc_law_drawn.nd rfl (Or.inl rfl)) (q_ss (q_set (i := 5) sc_law_drawn.nd rfl (Or.inl rfl) (q_callS (Ex := E) G__law_some (hr.mono (by decide)) (by rfl) pass0 (q_consV (i := 0) (hr := (q_cons (QE.fs (q_lst (n := 10) (q_cons q_str (q_cons q_str (q_cons q_str (q_cons q_str (q_cons q_str (q_cons q_str (q_cons q_str (q_cons q_str (q_cons q_str (q_cons q_str q_nil)))))))))))) q_nil)))))
    (q_ss (q_par (i := 6) (j := 7) rfl sc_law_drawn.nd rfl rfl (by decide) rfl rfl (q_callS (Ex := E) G__law_some (hr.mono (by decide)) (by rfl) pass0 (q_consV (i := 0) (hr := (q_cons (QE.fs (q_slBF (i := 3) (hl := (q_part (q_neg (QE.sb q_int)))) (hu := q_no))) q_nil)))) (q_callS (Ex := E) G__law_some (hr.mono (by decide)) (by rfl) pass0 (q_consV (i := 0) (hr := (q_consV (i := 3) (hr := q_nil))))) (by rfl))
    (q_ss (q_ifS (q_cmpT op_inG ok_in (q_v (i := 5)) (QE.sb (q_tup (n := 2) (q_cons q_str (q_cons q_str q_nil)))) (by rfl)) (q_ss1 (q_set (i := 8) sc_law_drawn.nd rfl (Or.inl rfl) (QE.fs (q_op op_cat ok_catF (QE.fs (q_lst (n := 1) (q_cons (q_tup (n := 1) (q_cons (q_v (i := 5)) q_nil)) q_nil))) (QE.sb (q_callS (Ex := E) G__law_some (hr.mono (by decide)) (by rfl) pass0 (q_consV (i := 0) (hr := (q_cons (QE.fs (q_lst (n := 2) (q_cons (q_op op_addG ok_addG (q_v (i := 6)) (QE.sb (q_v (i := 7)))) (q_cons (q_op op_addG ok_addG (q_v (i := 7)) (QE.sb (q_v (i := 6)))) q_nil)))) q_nil))))))))) (q_ss1 (q_ifS (q_cmpT op_inG ok_in (q_v (i := 5)) (QE.sb (q_tup (n := 2) (q_cons q_str (q_cons q_str q_nil)))) (by rfl)) (q_ss1 (q_set (i := 8) sc_law_drawn.nd rfl (Or.inl rfl) (QE.fs (q_op op_cat ok_catF (QE.fs (q_lst (n := 1) (q_cons (q_tup (n := 1) (q_cons (q_v (i := 5)) q_nil)) q_nil))) (QE.sb (q_v (i := 6))))))) (q_ss1 (q_ifS (q_cmpT (op_eqG (hu64 hr)) ok_eq (q_v (i := 5)) (QE.sb q_str) (nomark _)) (q_ss1 (q_set (i := 8) sc_law_drawn.nd rfl (Or.inl rfl) (QE.fs (q_op op_cat ok_catF (QE.fs (q_lst (n := 1) (q_cons (q_tup (n := 2) (q_cons q_str (q_cons (q_callS (Ex := E) G__law_mark (hr.mono (by decide)) (by rfl) pass0 (q_consV (i := 0) (hr := q_nil))) q_nil))) q_nil))) (QE.sb (q_v (i := 6))))))) (q_ss1 (q_set (i := 8) sc_law_drawn.nd rfl (Or.inl rfl) (QE.fs (q_lst (n := 1) (q_cons (q_if (QW.t (q_orT (q_cmpT (op_eqG (hu64 hr)) ok_eq (q_v (i := 5)) (QE.sb q_str) (nomark _)) (q_or1 (q_cmpT op_gtG ok_gt (q_callS (Ex := E) G__law_pick (hr.mono (by decide)) (by rfl) pass0 (q_consV (i := 0) (hr := (q_cons q_int q_nil)))) (QE.sb q_int) (nomark _))))) (q_tup (n := 2) (q_cons q_str (q_cons (q_callS (Ex := E) G__law_lot (hr.mono (by decide)) (by rfl) pass0 (q_consV (i := 0) (hr := q_nil))) q_nil))) (q_tup (n := 1) (q_cons q_str q_nil))) q_nil))))))))))
    (q_ss1 (q_ifS (QW.t (q_andT (q_cmpT op_leG ok_le (q_cb call_len ok_len T.n_len (by rfl) (by decide +kernel) (QE.sb (q_v (i := 8)))) (QE.sb (q_v (i := 2))) (nomark _)) (q_and1 (q_cmpT op_leG ok_le (q_cb (cr_max rfl) ok_maxL T.n_max (by rfl) (by decide +kernel) (QE.fb (q_callF (Ex := E) G__law_depths (hr.mono (by decide)) (by rfl) pass0 (q_cons (q_v (i := 8)) q_nil)))) (QE.sb q_int) (nomark _))))) (q_ss1 (q_app (i := 3) (h := (q_v (i := 8))))) q_ss0))))))
    (q_ss1 (q_ret (q_ixB (i := 3) (hb := (QE.sb (q_op op_sub ok_sub (q_neg (QE.sb q_int)) (QE.sb (q_callS (Ex := E) G__law_pick (hr.mono (by decide)) (by rfl) pass0 (q_consV (i := 0) (hr := (q_cons q_int q_nil)))))))) (hs := fun _ _ => rfl))))))
theorem g_are_signs {P : Program} {w : World} {mg : Str → Option Value} {base : Heap} {M : Pm} (T : Tx M w mg) (D : DefIn M.K mg "are_signs" s_are_signs) :
    Has P w M.K mg base CX0 "are_signs" 1 ["thing", "most"] (spOf M [.sh, .sh] false f_are_signs) :=
  has_of (m := m_are_signs) D sc_are_signs (fun _ _ _ _ _ _ us hl => match us, hl with | [_, _], _ => rfl) fun f cdv A outer s H E hr =>
    (q_ss1 (q_ret (q_and (q_isi T.n_isinstance (by rfl) T.n_str (by rfl) (by decide +kernel) (QE.sb (q_v (i := 0)))) (q_and (q_cmp op_leG ok_le (q_cb call_len ok_len T.n_len (by rfl) (by decide +kernel) (QE.sb (q_v (i := 0)))) (QE.sb (q_v (i := 1))) (nomark _)) (q_one (q_cb (cr_all rfl) ok_all T.n_all (by rfl) (by decide +kernel) (QE.fb (q_lc (own := [("sign", 2)]) rfl sc_are_signs.nd (q_any (q_v (i := 0))) (blkOk_by (own := [("sign", 2)]) (N := ["thing", "most", "sign"]) (sc := defScope s_are_signs) (by decide +kernel)) (fun _ _ _ _ _ => (q_gn (i := 2) sc_are_signs.nd rfl (Or.inl rfl))) (fun _ _ _ _ _ => q_ts0) (fun _ _ _ _ _ => (q_cmp op_inG ok_in (q_v (i := 2)) (QE.sb (q_gs T.g_SIGNS (by rfl))) (by rfl)))))))))))
theorem g_is_lot {P : Program} {w : World} {mg : Str → Option Value} {base : Heap} {M : Pm} (T : Tx M w mg) (D : DefIn M.K mg "is_lot" s_is_lot) (G_are_signs : Has P w M.K mg base CX0 "are_signs" 1 ["thing", "most"] (spOf M [.sh, .sh] false f_are_signs)) :
    Has P w M.K mg base CX0 "is_lot" 2 ["thing"] (spOf M [.sh] false f_is_lot) :=
  has_of (m := m_is_lot) D sc_is_lot (fun _ _ _ _ _ _ us hl => match us, hl with | [_], _ => rfl) fun f cdv A outer s H E hr =>
    (q_ss (q_ifS (QW.t (q_orT (q_notT (q_val (q_callS (Ex := E) G_are_signs (hr.mono (by decide)) (by rfl) pass0 (q_cons (q_v (i := 0)) (q_cons (q_cb call_len ok_len T.n_len (by rfl) (by decide +kernel) (QE.sb (q_gs T.g_SIGNS (by rfl)))) q_nil))))) (q_or1 (q_cmpT (op_eqG (hu64 hr)) ok_eq (q_cb call_len ok_len T.n_len (by rfl) (by decide +kernel) (QE.sb (q_v (i := 0)))) (QE.sb q_int) (nomark _))))) (q_ss1 (q_ret q_bl)) q_ss0)
    (q_ss1 (q_ret (q_cb (cr_all rfl) ok_all T.n_all (by rfl) (by decide +kernel) (QE.fb (q_lc (own := [("at", 1)]) rfl sc_is_lot.nd (q_rng2 T.n_range (by rfl) q_int (q_cb call_len ok_len T.n_len (by rfl) (by decide +kernel) (QE.sb (q_v (i := 0))))) (blkOk_by (own := [("at", 1)]) (N := ["thing", "at"]) (sc := defScope s_is_lot) (by decide +kernel)) (fun _ _ _ _ _ => (q_gn (i := 1) sc_is_lot.nd rfl (Or.inl rfl))) (fun _ _ _ _ _ => q_ts0) (fun _ _ _ _ _ => (q_cmp op_ltG ok_lt (q_ix (q_v (i := 0)) (QE.sb (q_op op_sub ok_sub (q_v (i := 1)) (QE.sb q_int))) (fun _ _ => rfl)) (QE.sb (q_ix (q_v (i := 0)) (QE.sb (q_v (i := 1))) (fun _ _ => rfl))) (nomark _)))))))))
theorem g_is_mark {P : Program} {w : World} {mg : Str → Option Value} {base : Heap} {M : Pm} (T : Tx M w mg) (D : DefIn M.K mg "is_mark" s_is_mark) :
    Has P w M.K mg base CX0 "is_mark" 1 ["thing"] (spOf M [.sh] false f_is_mark) :=
  has_of (m := m_is_mark) D sc_is_mark (fun _ _ _ _ _ _ us hl => match us, hl with | [_], _ => rfl) fun f cdv A outer s H E hr =>
    (q_ss1 (q_ret (q_and (q_isi T.n_isinstance (by rfl) T.n_str (by rfl) (by decide +kernel) (QE.sb (q_v (i := 0)))) (q_and (q_chain op_leG ok_le op_leG ok_le q_int (q_cb call_len ok_len T.n_len (by rfl) (by decide +kernel) (QE.sb (q_v (i := 0)))) (QE.sb (q_gi T.g_MOST_MARK (by rfl)))) (q_one (q_cb (cr_all rfl) ok_all T.n_all (by rfl) (by decide +kernel) (QE.fb (q_lc (own := [("sign", 1)]) rfl sc_is_mark.nd (q_any (q_v (i := 0))) (blkOk_by (own := [("sign", 1)]) (N := ["thing", "sign"]) (sc := defScope s_is_mark) (by decide +kernel)) (fun _ _ _ _ _ => (q_gn (i := 1) sc_is_mark.nd rfl (Or.inl rfl))) (fun _ _ _ _ _ => q_ts0) (fun _ _ _ _ _ => (q_cmp op_inG ok_in (q_v (i := 1)) (QE.sb (q_gs T.g_LETTERS (by rfl))) (by rfl)))))))))))
theorem g_has_form {P : Program} {w : World} {mg : Str → Option Value} {base : Heap} {M : Pm} (T : Tx M w mg) (D : DefIn M.K mg "has_form" s_has_form) (G_is_lot : Has P w M.K mg base CX0 "is_lot" 2 ["thing"] (spOf M [.sh] false f_is_lot)) (G_is_mark : Has P w M.K mg base CX0 "is_mark" 1 ["thing"] (spOf M [.sh] false f_is_mark)) :
    Has P w M.K mg base CX0 "has_form" 3 ["thing"] (spOf M [.sh] false f_has_form) :=
  has_of (m := m_has_form) D sc_has_form (fun _ _ _ _ _ _ us hl => match us, hl with | [_], _ => rfl) fun f cdv A outer s H E hr =>
    (q_ss (q_ifS (QW.t (q_orT (q_notT (q_val (q_isi T.n_isinstance (by rfl) T.n_tuple (by rfl) (by decide +kernel) (QE.sb (q_v (i := 0)))))) (q_orT (q_cmpT (op_eqG (hu64 hr)) ok_eq (q_cb call_len ok_len T.n_len (by rfl) (by decide +kernel) (QE.sb (q_v (i := 0)))) (QE.sb q_int) (nomark _)) (q_orT (q_notT (q_val (q_isi T.n_isinstance (by rfl) T.n_str (by rfl) (by decide +kernel) (QE.sb (q_ix (q_v (i := 0)) (QE.sb q_int) (fun _ _ => rfl)))))) (q_or1 (q_ninKD T.k_FORMS (by rfl) (q_ix (q_v (i := 0)) (QE.sb q_int) (fun _ _ => rfl)))))))) (q_ss1 (q_ret q_bl)) q_ss0)
    (q_ss (q_ifS (q_cmpT (op_neG (hu64 hr)) ok_ne (q_cb call_len ok_len T.n_len (by rfl) (by decide +kernel) (QE.sb (q_v (i := 0)))) (QE.sb (q_op op_addG ok_addG q_int (QE.sb (q_cb call_len ok_len T.n_len (by rfl) (by decide +kernel) (QE.sb (q_ixKD T.k_FORMS (by rfl) (q_ix (q_v (i := 0)) (QE.sb q_int) (fun _ _ => rfl)) (fun _ _ => rfl))))))) (nomark _)) (q_ss1 (q_ret q_bl)) q_ss0)
    (q_ss (q_ifS (q_cmpT (op_eqG (hu64 hr)) ok_eq (q_ix (q_v (i := 0)) (QE.sb q_int) (fun _ _ => rfl)) (QE.sb q_str) (nomark _)) (q_ss1 (q_ret (q_callS (Ex := E) G_is_lot (hr.mono (by decide)) (by rfl) pass0 (q_cons (q_ix (q_v (i := 0)) (QE.sb q_int) (fun _ _ => rfl)) q_nil)))) q_ss0)
    (q_ss1 (q_ret (q_or (q_cmp (op_neG (hu64 hr)) ok_ne (q_ix (q_v (i := 0)) (QE.sb q_int) (fun _ _ => rfl)) (QE.sb q_str) (nomark _)) (q_one (q_callS (Ex := E) G_is_mark (hr.mono (by decide)) (by rfl) pass0 (q_cons (q_ix (q_v (i := 0)) (QE.sb q_int) (fun _ _ => rfl)) q_nil)))))))))
theorem g_parts_of {P : Program} {w : World} {mg : Str → Option Value} {base : Heap} {M : Pm} (T : Tx M w mg) (D : DefIn M.K mg "parts_of" s_parts_of) :
    Has P w M.K mg base CX0 "parts_of" 1 ["pattern"] (spOf M [.sh] true f_parts_of) :=
  has_of (m := m_parts_of) D sc_parts_of (fun _ _ _ _ _ _ us hl => match us, hl with | [_], _ => rfl) fun f cdv A outer s H E hr =>
    (q_ss1 (q_retF (q_lc (own := [("sign", 1), ("part", 2)]) rfl sc_parts_of.nd (q_zip T.n_zip (by rfl) (q_ixKD T.k_FORMS (by rfl) (q_ix (q_v (i := 0)) (QE.sb q_int) (fun _ _ => rfl)) (fun _ _ => rfl)) (q_sl (q_v (i := 0)) (q_part q_int) q_no)) (blkOk_by (own := [("sign", 1), ("part", 2)]) (N := ["pattern", "sign", "part"]) (sc := defScope s_parts_of) (by decide +kernel)) (fun _ _ _ _ _ => (q_gt rfl (q_gs1 (q_gn (i := 1) sc_parts_of.nd rfl (Or.inl rfl)) (q_gs1 (q_gn (i := 2) sc_parts_of.nd rfl (Or.inl rfl)) q_gs0)))) (fun _ _ _ _ _ => (q_ts1 (q_cmpT (op_eqG (hu64 hr)) ok_eq (q_v (i := 1)) (QE.sb q_str) (nomark _)))) (fun _ _ _ _ _ => (q_v (i := 2))))))
theorem g_is_pattern {P : Program} {w : World} {mg : Str → Option Value} {base : Heap} {M : Pm} (T : Tx M w mg) (D : DefIn M.K mg "is_pattern" s_is_pattern) (G_has_form : Has P w M.K mg base CX0 "has_form" 3 ["thing"] (spOf M [.sh] false f_has_form)) (G_parts_of : Has P w M.K mg base CX0 "parts_of" 1 ["pattern"] (spOf M [.sh] true f_parts_of)) :
    Has P w M.K mg base CX0 "is_pattern" 4 ["thing"] (spOf M [.sh] false f_is_pattern) :=
  has_of (m := m_is_pattern) D sc_is_pattern (fun _ _ _ _ _ _ us hl => match us, hl with | [_], _ => rfl) fun f cdv A outer s H E hr =>
    (q_ss (q_par (i := 1) (j := 2) rfl sc_is_pattern.nd rfl rfl (by decide) rfl rfl q_int (q_lst (n := 1) (q_cons (q_tup (n := 2) (q_cons (q_v (i := 0)) (q_cons q_int q_nil))) q_nil)) (by rfl))
    (q_ss (q_while PassesOwn.never (q_cmpT op_gtG ok_gt (q_cb call_len ok_len T.n_len (by rfl) (by decide +kernel) (q_b (i := 2))) (QE.sb q_int) (nomark _)) (q_ss (q_tgt (q_pop (i := 2)) (q_gt rfl (q_gs1 (q_gn (i := 3) sc_is_pattern.nd rfl (Or.inl rfl)) (q_gs1 (q_gn (i := 4) sc_is_pattern.nd rfl (Or.inr rfl)) q_gs0))))
    (q_ss (q_aug (i := 1) sc_is_pattern.nd rfl (Or.inl rfl) (QE.sb q_int) ip_addG ok_ipadd)
    (q_ss (q_ifS (QW.t (q_orT (q_cmpT op_gtG ok_gt (q_v (i := 1)) (QE.sb (q_gi T.g_MOST_NODES (by rfl))) (nomark _)) (q_orT (q_cmpT op_gtG ok_gt (q_v (i := 4)) (QE.sb (q_gi T.g_MOST_DEEP (by rfl))) (nomark _)) (q_or1 (q_notT (q_val (q_callS (Ex := E) G_has_form (hr.mono (by decide)) (by rfl) pass0 (q_cons (q_v (i := 3)) q_nil)))))))) (q_ss1 (q_ret q_bl)) q_ss0)
    (q_ss1 (q_ext (i := 2) (h := (QE.fs (q_lc (own := [("part", 5)]) rfl sc_is_pattern.nd (q_any (QE.fs (q_callF (Ex := E) G_parts_of (hr.mono (by decide)) (by rfl) pass0 (q_cons (q_v (i := 3)) q_nil)))) (blkOk_by (own := [("part", 5)]) (N := ["thing", "many", "waiting", "here", "depth", "part"]) (sc := defScope s_is_pattern) (by decide +kernel)) (fun _ _ _ _ _ => (q_gn (i := 5) sc_is_pattern.nd rfl (Or.inl rfl))) (fun _ _ _ _ _ => q_ts0) (fun _ _ _ _ _ => (q_tup (n := 2) (q_cons (q_v (i := 5)) (q_cons (q_op op_addG ok_addG (q_v (i := 4)) (QE.sb q_int)) q_nil)))))))))))))
    (q_ss1 (q_ret q_bl))))
theorem g_check_pattern {P : Program} {w : World} {mg : Str → Option Value} {base : Heap} {M : Pm} (T : Tx M w mg) (D : DefIn M.K mg "check_pattern" s_check_pattern) (G_is_pattern : Has P w M.K mg base CX0 "is_pattern" 4 ["thing"] (spOf M [.sh] false f_is_pattern)) :
    Has P w M.K mg base (L2.CX P w) "check_pattern" 5 ["thing"] (spOf M [.sh] false f_check_pattern) :=
  hasX_of (m := m_check_pattern) D sc_check_pattern (fun _ _ _ _ _ _ us hl => match us, hl with | [_], _ => rfl) fun f cdv A outer s H E hr =>
    (q_ss1 (q_ifS (q_notT (q_val (q_callS (Ex := E) G_is_pattern (hr.mono (by decide)) (by rfl) pass0 (q_cons (q_v (i := 0)) q_nil)))) (q_ss1 (q_raise0 (cls := M.cls) T.e_NoPattern rfl (takes_of rfl rfl rfl rfl) (by rfl))) q_ss0))
theorem g_node_rows {P : Program} {w : World} {mg : Str → Option Value} {base : Heap} {M : Pm} (T : Tx M w mg) (D : DefIn M.K mg "node_rows" s_node_rows) (G_parts_of : Has P w M.K mg base CX0 "parts_of" 1 ["pattern"] (spOf M [.sh] true f_parts_of)) :
    Has P w M.K mg base CX0 "node_rows" 2 ["pattern"] (spOf M [.sh] true f_node_rows) := by
  refine D.has (k := 1) sc_node_rows (fun _ _ _ _ _ _ us hl => match us, hl with | [_], _ => rfl) (len_spOf rfl) fun f cdv A outer s H0 vs Q E hr hsp => ?_
  refine ⟨_, pss_cons (ps_par (i := 1) (j := 2) rfl sc_node_rows.nd rfl rfl (by decide) rfl rfl (pa_cons (pe_lst pa_nil) (pa_cons (pe_lst (pa_cons (pe_tup (pa_cons (pv 0) (pa_cons (pe_un un_neg pe_int) pa_nil))) pa_nil)) pa_nil)) (by rfl))
    (pss_cons (ps_while PassesOwn.never (pt_cmpR op_gt (pe_callB call_len_seq (by rfl) T.n_len PySem.boot_len (pa_cons (pv 2) pa_nil)) pe_int (nomark _))
      (pss_cons (ps_asg (pe_bm0 PySem.F.plainAttrs_list PySem.F.slot_list_pop PySem.F.type_list_pop mt_pop (pv 2)) (pg_tup rfl (pgs_cons (pg_name (i := 3) sc_node_rows.nd rfl (Or.inl rfl)) (pgs_cons (pg_name (i := 4) sc_node_rows.nd rfl (Or.inl rfl)) pgs_nil))))
      (pss_cons (ps_if (pt_cmpR op_ge (pv 4) pe_int (nomark _)) (pss_one (ps_expr (pe_bm PySem.F.plainAttrs_list PySem.F.slot_list_append PySem.F.type_list_append mt_append (pe_ix ix_tup (pe_ix ix_list (pv 1) (pv 4) (fun _ _ => rfl)) pe_int (fun _ _ => rfl)) (pa_cons (pe_callB call_len_seq (by rfl) T.n_len PySem.boot_len (pa_cons (pv 1) pa_nil)) pa_nil)))) pss_nil)
      (pss_cons (ps_set (i := 5) sc_node_rows.nd rfl (Or.inr rfl) (pe_callB call_len_seq (by rfl) T.n_len PySem.boot_len (pa_cons (pv 1) pa_nil)))
      (pss_cons (ps_expr (pe_bm PySem.F.plainAttrs_list PySem.F.slot_list_append PySem.F.type_list_append mt_append (pv 1) (pa_cons (pe_tup (pa_cons (pv 3) (pa_cons (pe_lst pa_nil) pa_nil))) pa_nil)))
      (pss_one (ps_expr (pe_bm PySem.F.plainAttrs_list PySem.F.slot_list_extend PySem.F.type_list_extend mt_extend (pv 2) (pa_cons (QE.p (C := ⟨M.cls, M.tabs, 7, [], true⟩) (E := fun cl dx _ H => E cl dx H) (QE.fs (q_revL (QE.fb (q_lc (own := [("part", 6)]) rfl sc_node_rows.nd (q_any (QE.fs (q_callF (Ex := E) G_parts_of (hr.mono (by decide)) (by rfl) pass0 (q_cons (q_v (i := 3)) q_nil)))) (blkOk_by (own := [("part", 6)]) (N := ["pattern", "found", "waiting", "here", "above", "number", "part"]) (sc := defScope s_node_rows) (by decide +kernel)) (fun _ _ _ _ _ => (q_gn (i := 6) sc_node_rows.nd rfl (Or.inl rfl))) (fun _ _ _ _ _ => q_ts0) (fun _ _ _ _ _ => (q_tup (n := 2) (q_cons (q_v (i := 6)) (q_cons (q_v (i := 5)) q_nil))))))))) pa_nil)))))))))
    (pss_one (ps_ret (pv 1)))), ?_⟩
  obtain ⟨Sc, ds, ar, _, hmu, htb, hm⟩ := hsp
  obtain ⟨v0, d0, rfl, rfl, hd0⟩ : ∃ v0 d0, vs = [v0] ∧ ds = [d0] ∧ Dv M.K Sc H0 d0 v0 := by
    cases vs with
    | nil => exact ar.elim
    | cons v0 vr => cases ds with
      | nil => exact ar.elim
      | cons d0 dr => cases vr with
        | cons _ _ => cases dr <;> exact ar.2.elim
        | nil => cases dr with
          | cons _ _ => exact ar.2.elim
          | nil => exact ⟨v0, d0, rfl, rfl, ar.1⟩
  have hm : RowsE M Sc H0 v0 Q E (rowsN f_parts_of 1000000 [] [(d0, -1)]) := hm
  refine ⟨Nat.zero_le _, fun r r0 => ⟨v0, rfl, _, rfl, by show 2 ≤ sizeLine; decide, fun t t0 => ⟨by show 1 ≤ sizeLine; decide, fun w' w0 => ⟨_, _, rfl, ?_⟩⟩⟩⟩
  refine ⟨fun m σ H => ∃ (rows : List (PyData × List Int)) (wt : List (PyData × Int)) (r w : Addr) (ts ks : List Addr) (us : List V) (c3 c4 c5 c6 : Option V), σ = [some v0, some (.ref r), some (.ref w), c3, c4, c5, c6] ∧ RowsI M.K M.tabs Sc H0 H rows wt r w ts ks us ∧ RowsE M Sc H0 v0 Q E (rowsN f_parts_of m rows wt), ⟨1000000, [], [(d0, -1)], r, w', [], [], [.ref t], _, _, _, _, rfl, rows_init hmu htb hd0 r0 t0 w0, hm⟩, ?_⟩
  rintro m σ H ⟨rows, wt, r, w', ts, ks, us, c3, c4, c5, c6, rfl, I, hm⟩
  have hlen : us.length = wt.length := by rw [I.du.length, List.length_map]
  refine ⟨_, rfl, w', us, rfl, .inl (.of I.hw), _, _, rfl, rfl, _, rfl, ?_⟩
  cases m with
  | zero => exact hm.elim
  | succ m =>
    rcases List.eq_nil_or_concat wt with rfl | ⟨wt0, ⟨here, ab⟩, rfl⟩
    · have e : us = [] := List.length_eq_zero_iff.mp hlen
      subst e
      rw [if_neg (by decide)]
      exact ⟨.ref r, rfl, rows_end I hm⟩
    · rw [List.concat_eq_append] at *
      rw [if_pos (by rw [hlen, List.length_append]; exact decide_eq_true (by show (0 : Int) < ((_ + 1 : Nat) : Int); omega))]
      obtain ⟨ps, hab, hab2, hl1, hl2, hl3, hfp, hps, hm⟩ := rows_go hm
      obtain ⟨us0, y, rfl, d0', dy⟩ := rows_last I.du
      obtain ⟨t, xs, rfl, gt, dx⟩ := dy
      obtain ⟨vh, xs1, rfl, dh, vi, xs2, rfl, di, e⟩ := dx
      have e : xs2 = [] := e
      have di : vi = .int ab := di
      subst e di
      obtain ⟨I1, z1⟩ := rows_pop I d0'
      have dh1 := z1.dv dh
      have gt1 : SqT M.K (upd H w' (.lst us0)) t [vh, .int ab] := by
        rcases gt with ⟨n, g⟩ | g
        · exact .of (by rw [upd_ne (fun e : t = w' => n (by rw [e]; exact .tail _ (.head _)))]; exact g)
        · exact .inr g
      refine ⟨fun σ' H' => _, fun σ' H' q => ⟨m, Nat.lt_succ_self m, q⟩, ?_⟩
      refine ⟨_, rfl, .inl ⟨rfl, _, .of I.hw⟩, w', us0 ++ [.ref t], .ref t, rfl, rfl, I.hw, by simp, ?_⟩
      rw [List.dropLast_concat]
      refine ⟨t, _, rfl, gt1, rfl, ?_⟩
      have comp : MV.WE (mU revD (mLc (mIt (mCall f_parts_of [none] [.sh] (mCons (mV 3) mNil))) (gN 6) (fun st => .ok true st) (mTup (mCons (mV 6) (mCons (mV 5) mNil))) [6])) [none, none, none, some (.sh here), none, some (.sh (.int (rows.length : Nat))), none] (fun x _ => x = .list ((ps.map fun p => (p, (rows.length : Int))).reverse.map wtD)) noErr := by
        walk_at "go"
        refine (wf_of (P := fun r outs => r = .list ps ∧ outs = []) ⟨_, _, hfp, rfl, rfl⟩ (fun r outs h => ?_))
        obtain ⟨rfl, rfl⟩ := h
        walk_at "go"
        refine wl_mapI (fun p => wtD (p, (rows.length : Int))) (fun p mp => ?_) (by unfold LIM; omega) ?_
        · walk_at "go"
        · walk_at "go"
          rw [List.map_reverse, List.map_map]; rfl
      refine ⟨vh, _, rfl, .int ab, [], rfl, rfl, ?_⟩
      refine ⟨_, rfl, _, _, rfl, rfl, _, rfl, ?_⟩
      refine if_app (fun H2 => ∃ rows2, RowsI M.K M.tabs Sc H0 H2 rows2 wt0 r w' ts ks us0 ∧ Dv M.K (r :: w' :: ks ++ Sc) H2 here vh ∧ rows2.length = rows.length ∧ RowsE M Sc H0 v0 Q E (rowsN f_parts_of m (rows2 ++ [(here, [])]) (wt0 ++ (ps.map fun p => (p, (rows.length : Int))).reverse))) ?_ ?_ ?_
      · rintro H2 ⟨rows2, I2, dh2, hl, hm⟩
        have hts : (ts.map V.ref).length = rows.length := by rw [List.length_map, I2.rr.len.1, hl]
        refine ⟨_, rfl, r, _, rfl, .inl (.of I2.hr), ?_⟩
        rw [hts]
        refine ⟨_, rfl, .inl ⟨rfl, _, .of I2.hr⟩, _, rfl, Nat.zero_le _, fun k k0 => ⟨by show 2 ≤ sizeLine; decide, fun t t0 => ?_⟩⟩
        obtain ⟨hr4, I5, dh5⟩ := rows_new I2 dh2 k0 t0
        refine ⟨r, _, _, rfl, rfl, hr4, by rw [hts, lim_eq]; unfold LIM; omega, ?_⟩
        refine ⟨_, rfl, .inl ⟨rfl, _, .of I5.hw⟩, ?_⟩
        refine QE.r _ ⟨_, [], r :: w' :: (ks ++ [k]) ++ Sc, []⟩ [] [] (r :: w' :: (ks ++ [k]) ++ Sc) _ _ [none, none, none, some (.sh here), none, some (.sh (.int (rows.length : Nat))), none] _ (rel_base rfl rfl I5.mu I5.tb fun i cell e => ?_) (post_we comp fun S v H6 s R6 => ?_)
        · match i, e with
          | 3, e => cases e; exact ⟨_, _, rfl, rfl, dh5⟩
          | 5, e => cases e; exact ⟨_, _, rfl, rfl, rfl⟩
          | 0, e => cases e
          | 1, e => cases e
          | 2, e => cases e
          | 4, e => cases e
          | 6, e => cases e
          | n + 7, e => simp at e
        · obtain ⟨b, zs, rfl, ⟨nb, hb⟩, dz⟩ := R6.hd
          have dz5 : Dvs M.K (r :: w' :: (ks ++ [k]) ++ Sc) H6 _ zs := (Stp.sub fun a ma => (R6.s0 a ma).1).dvs dz
          obtain ⟨hw6, I7⟩ := rows_ext I5 R6.kp dz5
          refine ⟨w', b, us0, zs, rfl, rfl, hw6, hb, ?_, ?_⟩
          · rw [dz.length, List.length_map, List.length_reverse, List.length_map, lim_eq]
            have e1 := I2.du.length
            rw [List.length_map] at e1
            rw [List.length_append] at hl2
            unfold LIM; omega
          · exact ⟨_, _, r, w', _, _, _, _, _, _, _, rfl, I7, hm⟩
      · intro hb rest
        have hb : 0 ≤ ab := of_decide_eq_true hb
        have hi : ab.toNat < rows.length := by omega
        obtain ⟨t', k, u, e1, e2, e3, I2, z2⟩ := rows_kid I1 (n := (rows.length : Int)) (List.getElem?_eq_getElem hi)
        have hts : (ts.map V.ref).length = rows.length := by rw [List.length_map, I1.rr.len.1]
        refine ⟨_, rfl, _, rfl, r, _, ab, .ref t', rfl, rfl, .of I1.hr, ?_, ?_⟩
        · refine atI_at hb ?_
          rw [List.getElem?_map, e1]; rfl
        · refine ⟨t', [u, .ref k], 1, .ref k, rfl, rfl, .of e2, atI_1, .inl ⟨rfl, _, .of e3⟩, ?_⟩
          refine ⟨_, rfl, r, _, rfl, .inl (.of I1.hr), ?_⟩
          rw [hts]
          refine ⟨k, _, _, rfl, rfl, e3, ?_, ?_⟩
          · have := hl3 _ (List.getElem_mem hi)
            rw [List.length_map, lim_eq]; unfold LIM; omega
          · refine rest _ ⟨_, I2, z2.dv dh1, by rw [List.length_set], ?_⟩
            rw [if_pos hb] at hm
            unfold kidAt at hm
            rw [List.getElem?_eq_getElem hi] at hm
            exact hm
      · intro hb
        have hb : ¬ 0 ≤ ab := of_decide_eq_false hb
        rw [if_neg hb] at hm
        exact ⟨rows, I1, dh1, rfl, hm⟩

theorem g_nodes_many {P : Program} {w : World} {mg : Str → Option Value} {base : Heap} {M : Pm} (T : Tx M w mg) (D : DefIn M.K mg "nodes_many" s_nodes_many) (G_check_pattern : Has P w M.K mg base (L2.CX P w) "check_pattern" 5 ["thing"] (spOf M [.sh] false f_check_pattern)) (G_node_rows : Has P w M.K mg base CX0 "node_rows" 2 ["pattern"] (spOf M [.sh] true f_node_rows)) :
    Has P w M.K mg base (L2.CX P w) "nodes_many" 6 ["pattern"] (spOf M [.sh] false f_nodes_many) :=
  hasX_of (m := m_nodes_many) D sc_nodes_many (fun _ _ _ _ _ _ us hl => match us, hl with | [_], _ => rfl) fun f cdv A outer s H E hr =>
    (q_ss (q_expr (q_callS (Ex := E) G_check_pattern (hr.mono (by decide)) (by rfl) (passes_call (W := fun cls d _ H => E cls d H) (takes_of rfl rfl rfl rfl) fun _ _ _ _ h => h) (q_cons (q_v (i := 0)) q_nil)))
    (q_ss1 (q_ret (q_cb call_len ok_len T.n_len (by rfl) (by decide +kernel) (QE.fb (q_callF (Ex := E) G_node_rows (hr.mono (by decide)) (by rfl) pass0 (q_cons (q_v (i := 0)) q_nil)))))))
theorem g_deep {P : Program} {w : World} {mg : Str → Option Value} {base : Heap} {M : Pm} (T : Tx M w mg) (D : DefIn M.K mg "deep" s_deep) (G_check_pattern : Has P w M.K mg base (L2.CX P w) "check_pattern" 5 ["thing"] (spOf M [.sh] false f_check_pattern)) (G_parts_of : Has P w M.K mg base CX0 "parts_of" 1 ["pattern"] (spOf M [.sh] true f_parts_of)) :
    Has P w M.K mg base (L2.CX P w) "deep" 6 ["pattern"] (spOf M [.sh] false f_deep) :=
  hasX_of (m := m_deep) D sc_deep (fun _ _ _ _ _ _ us hl => match us, hl with | [_], _ => rfl) fun f cdv A outer s H E hr =>
    (q_ss (q_expr (q_callS (Ex := E) G_check_pattern (hr.mono (by decide)) (by rfl) (passes_call (W := fun cls d _ H => E cls d H) (takes_of rfl rfl rfl rfl) fun _ _ _ _ h => h) (q_cons (q_v (i := 0)) q_nil)))
    (q_ss (q_par (i := 1) (j := 2) rfl sc_deep.nd rfl rfl (by decide) rfl rfl q_int (q_lst (n := 1) (q_cons (q_tup (n := 2) (q_cons (q_v (i := 0)) (q_cons q_int q_nil))) q_nil)) (by rfl))
    (q_ss (q_while (passes_of rfl) (q_cmpT op_gtG ok_gt (q_cb call_len ok_len T.n_len (by rfl) (by decide +kernel) (q_b (i := 2))) (QE.sb q_int) (nomark _)) (q_ss (q_tgt (q_pop (i := 2)) (q_gt rfl (q_gs1 (q_gn (i := 3) sc_deep.nd rfl (Or.inl rfl)) (q_gs1 (q_gn (i := 4) sc_deep.nd rfl (Or.inr rfl)) q_gs0))))
    (q_ss (q_set (i := 1) sc_deep.nd rfl (Or.inl rfl) (q_cb2 (call_max2 rfl) ok_max2 T.n_max (by rfl) (by decide +kernel) (q_v (i := 1)) (QE.sb (q_v (i := 4)))))
    (q_ss1 (q_ext (i := 2) (h := (QE.fs (q_lc (own := [("part", 5)]) rfl sc_deep.nd (q_any (QE.fs (q_callF (Ex := E) G_parts_of (hr.mono (by decide)) (by rfl) pass0 (q_cons (q_v (i := 3)) q_nil)))) (blkOk_by (own := [("part", 5)]) (N := ["pattern", "found", "waiting", "here", "depth", "part"]) (sc := defScope s_deep) (by decide +kernel)) (fun _ _ _ _ _ => (q_gn (i := 5) sc_deep.nd rfl (Or.inl rfl))) (fun _ _ _ _ _ => q_ts0) (fun _ _ _ _ _ => (q_tup (n := 2) (q_cons (q_v (i := 5)) (q_cons (q_op op_addG ok_addG (q_v (i := 4)) (QE.sb q_int)) q_nil))))))))))))
    (q_ss1 (q_ret (q_v (i := 1)))))))
theorem g_raw_marks {P : Program} {w : World} {mg : Str → Option Value} {base : Heap} {M : Pm} (T : Tx M w mg) (D : DefIn M.K mg "raw_marks" s_raw_marks) (G_node_rows : Has P w M.K mg base CX0 "node_rows" 2 ["pattern"] (spOf M [.sh] true f_node_rows)) :
    Has P w M.K mg base CX0 "raw_marks" 3 ["pattern"] (spOf M [.sh] true f_raw_marks) :=
  has_of (m := m_raw_marks) D sc_raw_marks (fun _ _ _ _ _ _ us hl => match us, hl with | [_], _ => rfl) fun f cdv A outer s H E hr =>
    (q_ss (q_own (i := 1) sc_raw_marks.nd rfl (Or.inl rfl) q_newK)
    (q_ss (q_for PassesOwn.never rfl (q_any (QE.fs (q_callF (Ex := E) G_node_rows (hr.mono (by decide)) (by rfl) pass0 (q_cons (q_v (i := 0)) q_nil)))) (q_gt rfl (q_gs1 (q_gn (i := 2) sc_raw_marks.nd rfl (Or.inl rfl)) (q_gs1 (q_gn (i := 3) sc_raw_marks.nd rfl (Or.inl rfl)) q_gs0))) (q_ss1 (q_ifS (q_cmpT (op_eqG (hu64 hr)) ok_eq (q_ix (q_v (i := 2)) (QE.sb q_int) (fun _ _ => rfl)) (QE.sb q_str) (nomark _)) (q_ss1 (q_putK (Nat.lt_of_le_of_lt (Nat.add_le_add_left (by decide) _) (hu64 hr)) (i := 1) (hb := (q_ix (q_v (i := 2)) (QE.sb q_int) (fun _ _ => rfl))) (h := q_bl))) q_ss0)))
    (q_ss1 (q_retF (q_cb (call_sortedD rfl) ok_sortD T.n_sorted (by rfl) (by decide +kernel) (q_b (i := 1)))))))
theorem g_marks_of {P : Program} {w : World} {mg : Str → Option Value} {base : Heap} {M : Pm} (T : Tx M w mg) (D : DefIn M.K mg "marks_of" s_marks_of) (G_check_pattern : Has P w M.K mg base (L2.CX P w) "check_pattern" 5 ["thing"] (spOf M [.sh] false f_check_pattern)) (G_raw_marks : Has P w M.K mg base CX0 "raw_marks" 3 ["pattern"] (spOf M [.sh] true f_raw_marks)) :
    Has P w M.K mg base (L2.CX P w) "marks_of" 6 ["pattern"] (spOf M [.sh] false f_marks_of) :=
  hasX_of (m := m_marks_of) D sc_marks_of (fun _ _ _ _ _ _ us hl => match us, hl with | [_], _ => rfl) fun f cdv A outer s H E hr =>
    (q_ss (q_expr (q_callS (Ex := E) G_check_pattern (hr.mono (by decide)) (by rfl) (passes_call (W := fun cls d _ H => E cls d H) (takes_of rfl rfl rfl rfl) fun _ _ _ _ h => h) (q_cons (q_v (i := 0)) q_nil)))
    (q_ss1 (q_ret (q_cty call_tuple_of ok_tup T.n_tuple (by rfl) (by decide +kernel) (QE.fb (q_callF (Ex := E) G_raw_marks (hr.mono (by decide)) (by rfl) pass0 (q_cons (q_v (i := 0)) q_nil)))))))
theorem g_raw_lots {P : Program} {w : World} {mg : Str → Option Value} {base : Heap} {M : Pm} (T : Tx M w mg) (D : DefIn M.K mg "raw_lots" s_raw_lots) (G_node_rows : Has P w M.K mg base CX0 "node_rows" 2 ["pattern"] (spOf M [.sh] true f_node_rows)) :
    Has P w M.K mg base CX0 "raw_lots" 3 ["pattern"] (spOf M [.sh] true f_raw_lots) :=
  has_of (m := m_raw_lots) D sc_raw_lots (fun _ _ _ _ _ _ us hl => match us, hl with | [_], _ => rfl) fun f cdv A outer s H E hr =>
    (q_ss1 (q_retF (q_lc (own := [("node", 1), ("parts", 2)]) rfl sc_raw_lots.nd (q_any (QE.fs (q_callF (Ex := E) G_node_rows (hr.mono (by decide)) (by rfl) pass0 (q_cons (q_v (i := 0)) q_nil)))) (blkOk_by (own := [("node", 1), ("parts", 2)]) (N := ["pattern", "node", "parts"]) (sc := defScope s_raw_lots) (by decide +kernel)) (fun _ _ _ _ _ => (q_gt rfl (q_gs1 (q_gn (i := 1) sc_raw_lots.nd rfl (Or.inl rfl)) (q_gs1 (q_gn (i := 2) sc_raw_lots.nd rfl (Or.inl rfl)) q_gs0)))) (fun _ _ _ _ _ => (q_ts1 (q_cmpT (op_eqG (hu64 hr)) ok_eq (q_ix (q_v (i := 1)) (QE.sb q_int) (fun _ _ => rfl)) (QE.sb q_str) (nomark _)))) (fun _ _ _ _ _ => (q_ix (q_v (i := 1)) (QE.sb q_int) (fun _ _ => rfl))))))
theorem g_lots_of {P : Program} {w : World} {mg : Str → Option Value} {base : Heap} {M : Pm} (T : Tx M w mg) (D : DefIn M.K mg "lots_of" s_lots_of) (G_check_pattern : Has P w M.K mg base (L2.CX P w) "check_pattern" 5 ["thing"] (spOf M [.sh] false f_check_pattern)) (G_raw_lots : Has P w M.K mg base CX0 "raw_lots" 3 ["pattern"] (spOf M [.sh] true f_raw_lots)) :
    Has P w M.K mg base (L2.CX P w) "lots_of" 6 ["pattern"] (spOf M [.sh] false f_lots_of) :=
  hasX_of (m := m_lots_of) D sc_lots_of (fun _ _ _ _ _ _ us hl => match us, hl with | [_], _ => rfl) fun f cdv A outer s H E hr =>
    (q_ss (q_expr (q_callS (Ex := E) G_check_pattern (hr.mono (by decide)) (by rfl) (passes_call (W := fun cls d _ H => E cls d H) (takes_of rfl rfl rfl rfl) fun _ _ _ _ h => h) (q_cons (q_v (i := 0)) q_nil)))
    (q_ss1 (q_ret (q_cty call_tuple_of ok_tup T.n_tuple (by rfl) (by decide +kernel) (QE.fb (q_callF (Ex := E) G_raw_lots (hr.mono (by decide)) (by rfl) pass0 (q_cons (q_v (i := 0)) q_nil)))))))
theorem g_is_integer {P : Program} {w : World} {mg : Str → Option Value} {base : Heap} {M : Pm} (T : Tx M w mg) (D : DefIn M.K mg "is_integer" s_is_integer) :
    Has P w M.K mg base CX0 "is_integer" 1 ["thing"] (spOf M [.sh] false f_is_integer) :=
  has_of (m := m_is_integer) D sc_is_integer (fun _ _ _ _ _ _ us hl => match us, hl with | [_], _ => rfl) fun f cdv A outer s H E hr =>
    (q_ss1 (q_ret (q_and (q_isi T.n_isinstance (by rfl) T.n_int (by rfl) (by decide +kernel) (QE.sb (q_v (i := 0)))) (q_one (q_not (q_isi T.n_isinstance (by rfl) T.n_bool (by rfl) (by decide +kernel) (QE.sb (q_v (i := 0)))))))))
theorem g_is_within {P : Program} {w : World} {mg : Str → Option Value} {base : Heap} {M : Pm} (T : Tx M w mg) (D : DefIn M.K mg "is_within" s_is_within) (G_is_integer : Has P w M.K mg base CX0 "is_integer" 1 ["thing"] (spOf M [.sh] false f_is_integer)) :
    Has P w M.K mg base CX0 "is_within" 2 ["thing", "low", "high"] (spOf M [.sh, .sh, .sh] false f_is_within) :=
  has_of (m := m_is_within) D sc_is_within (fun _ _ _ _ _ _ us hl => match us, hl with | [_, _, _], _ => rfl) fun f cdv A outer s H E hr =>
    (q_ss1 (q_ret (q_and (q_callS (Ex := E) G_is_integer (hr.mono (by decide)) (by rfl) pass0 (q_cons (q_v (i := 0)) q_nil)) (q_one (q_chain op_leG ok_le op_leG ok_le (q_v (i := 1)) (q_v (i := 0)) (QE.sb (q_v (i := 2))))))))
theorem g_check_place {P : Program} {w : World} {mg : Str → Option Value} {base : Heap} {M : Pm} (T : Tx M w mg) (D : DefIn M.K mg "check_place" s_check_place) (G_is_within : Has P w M.K mg base CX0 "is_within" 2 ["thing", "low", "high"] (spOf M [.sh, .sh, .sh] false f_is_within)) :
    Has P w M.K mg base (L2.CX P w) "check_place" 3 ["thing", "high"] (spOf M [.sh, .sh] false f_check_place) :=
  hasX_of (m := m_check_place) D sc_check_place (fun _ _ _ _ _ _ us hl => match us, hl with | [_, _], _ => rfl) fun f cdv A outer s H E hr =>
    (q_ss1 (q_ifS (q_notT (q_val (q_callS (Ex := E) G_is_within (hr.mono (by decide)) (by rfl) pass0 (q_cons (q_v (i := 0)) (q_cons q_int (q_cons (q_v (i := 1)) q_nil)))))) (q_ss1 (q_raise0 (cls := M.cls) T.e_NoPlace rfl (takes_of rfl rfl rfl rfl) (by rfl))) q_ss0))
theorem g_node_at {P : Program} {w : World} {mg : Str → Option Value} {base : Heap} {M : Pm} (T : Tx M w mg) (D : DefIn M.K mg "node_at" s_node_at) (G_check_pattern : Has P w M.K mg base (L2.CX P w) "check_pattern" 5 ["thing"] (spOf M [.sh] false f_check_pattern)) (G_check_place : Has P w M.K mg base (L2.CX P w) "check_place" 3 ["thing", "high"] (spOf M [.sh, .sh] false f_check_place)) (G_node_rows : Has P w M.K mg base CX0 "node_rows" 2 ["pattern"] (spOf M [.sh] true f_node_rows)) :
    Has P w M.K mg base (L2.CX P w) "node_at" 6 ["pattern", "number"] (spOf M [.sh, .sh] false f_node_at) :=
  hasX_of (m := m_node_at) D sc_node_at (fun _ _ _ _ _ _ us hl => match us, hl with | [_, _], _ => rfl) fun f cdv A outer s H E hr =>
    (q_ss (q_expr (q_callS (Ex := E) G_check_pattern (hr.mono (by decide)) (by rfl) (passes_call (W := fun cls d _ H => E cls d H) (takes_of rfl rfl rfl rfl) fun _ _ _ _ h => h) (q_cons (q_v (i := 0)) q_nil)))
    (q_ss (q_set (i := 2) sc_node_at.nd rfl (Or.inl rfl) (QE.fs (q_callF (Ex := E) G_node_rows (hr.mono (by decide)) (by rfl) pass0 (q_cons (q_v (i := 0)) q_nil))))
    (q_ss (q_expr (q_callS (Ex := E) G_check_place (hr.mono (by decide)) (by rfl) (passes_call (W := fun cls d _ H => E cls d H) (takes_of rfl rfl rfl rfl) fun _ _ _ _ h => h) (q_cons (q_v (i := 1)) (q_cons (q_op op_sub ok_sub (q_cb call_len ok_len T.n_len (by rfl) (by decide +kernel) (QE.sb (q_v (i := 2)))) (QE.sb q_int)) q_nil))))
    (q_ss1 (q_ret (q_ix (q_ix (q_v (i := 2)) (QE.sb (q_v (i := 1))) (fun _ _ => rfl)) (QE.sb q_int) (fun _ _ => rfl)))))))
theorem g_law_made {P : Program} {w : World} {mg : Str → Option Value} {base : Heap} {M : Pm} (T : Tx M w mg) (D : DefIn M.K mg "_law_made" s_law_made) (G__law_parts : Has P w M.K mg base CX0 "_law_parts" 1 ["sign"] (spOf M [.sh] false f_law_parts)) :
    Has P w M.K mg base CX0 "_law_made" 2 ["signs"] (spOf M [.sh] false f_law_made) :=
  has_of (m := m_law_made) D sc_law_made (fun _ _ _ _ _ _ us hl => match us, hl with | [_], _ => rfl) fun f cdv A outer s H E hr =>
    (q_ss (q_set (i := 1) sc_law_made.nd rfl (Or.inl rfl) (QE.fs (q_lst (n := 0) q_nil)))
    (q_ss (q_for PassesOwn.never rfl (q_any (QE.fs (q_revL (QE.sb (q_v (i := 0)))))) (q_gn (i := 2) sc_law_made.nd rfl (Or.inl rfl)) (q_ss (q_set (i := 3) sc_law_made.nd rfl (Or.inl rfl) (q_op op_sub ok_sub (q_cb call_len ok_len T.n_len (by rfl) (by decide +kernel) (QE.sb (q_v (i := 1)))) (QE.sb (q_callS (Ex := E) G__law_parts (hr.mono (by decide)) (by rfl) pass0 (q_cons (q_v (i := 2)) q_nil)))))
    (q_ss (q_set (i := 4) sc_law_made.nd rfl (Or.inl rfl) (q_cty call_tuple_of ok_tup T.n_tuple (by rfl) (by decide +kernel) (QE.fb (q_revL (QE.sb (q_sl (q_v (i := 1)) (q_part (q_v (i := 3))) q_no))))))
    (q_ss1 (q_set (i := 1) sc_law_made.nd rfl (Or.inl rfl) (q_op op_addG ok_addG (q_sl (q_v (i := 1)) q_no (q_part (q_v (i := 3)))) (QE.fb (q_lst (n := 1) (q_cons (q_op op_addG ok_addG (q_v (i := 2)) (QE.sb (q_v (i := 4)))) q_nil)))))))))
    (q_ss1 (q_ret (q_ix (q_v (i := 1)) (QE.sb q_int) (fun _ _ => rfl))))))
theorem g_law_behind {P : Program} {w : World} {mg : Str → Option Value} {base : Heap} {M : Pm} (T : Tx M w mg) (D : DefIn M.K mg "_law_behind" s_law_behind) (G__law_parts : Has P w M.K mg base CX0 "_law_parts" 1 ["sign"] (spOf M [.sh] false f_law_parts)) :
    Has P w M.K mg base CX0 "_law_behind" 2 ["signs"] (spOf M [.sh] true f_law_behind) :=
  has_of (m := m_law_behind) D sc_law_behind (fun _ _ _ _ _ _ us hl => match us, hl with | [_], _ => rfl) fun f cdv A outer s H E hr =>
    (q_ss (q_own (i := 1) sc_law_behind.nd rfl (Or.inl rfl) (q_op op_rep ok_repF (QE.fs (q_lst (n := 1) (q_cons q_int q_nil))) (QE.sb (q_cb call_len ok_len T.n_len (by rfl) (by decide +kernel) (QE.sb (q_v (i := 0)))))))
    (q_ss (q_for PassesOwn.never rfl (q_rng1 T.n_range (by rfl) (q_cb call_len ok_len T.n_len (by rfl) (by decide +kernel) (QE.sb (q_v (i := 0))))) (q_gn (i := 2) sc_law_behind.nd rfl (Or.inl rfl)) (q_ss (q_set (i := 3) sc_law_behind.nd rfl (Or.inl rfl) (q_op op_sub ok_sub (q_op op_sub ok_sub (q_cb call_len ok_len T.n_len (by rfl) (by decide +kernel) (QE.sb (q_v (i := 0)))) (QE.sb q_int)) (QE.sb (q_v (i := 2)))))
    (q_ss (q_set (i := 4) sc_law_behind.nd rfl (Or.inl rfl) (q_op op_addG ok_addG (q_v (i := 3)) (QE.sb q_int)))
    (q_ss (q_for PassesOwn.never rfl (q_rng1 T.n_range (by rfl) (q_callS (Ex := E) G__law_parts (hr.mono (by decide)) (by rfl) pass0 (q_cons (q_ix (q_v (i := 0)) (QE.sb (q_v (i := 3))) (fun _ _ => rfl)) q_nil))) (q_gn (i := 5) sc_law_behind.nd rfl (Or.inl rfl)) (q_ss1 (q_set (i := 4) sc_law_behind.nd rfl (Or.inl rfl) (q_ixB (i := 1) (hb := (QE.sb (q_v (i := 4)))) (hs := fun _ _ => rfl)))))
    (q_ss1 (q_setIx (i := 1) (hb := (q_v (i := 3))) (h := (q_v (i := 4)))))))))
    (q_ss1 (q_retF (q_mv (i := 1))))))
theorem g_law_are_told_right {P : Program} {w : World} {mg : Str → Option Value} {base : Heap} {M : Pm} (T : Tx M w mg) (D : DefIn M.K mg "_law_are_told_right" s_law_are_told_right) (G__law_behind : Has P w M.K mg base CX0 "_law_behind" 2 ["signs"] (spOf M [.sh] true f_law_behind)) (G__law_depths : Has P w M.K mg base CX0 "_law_depths" 2 ["signs"] (spOf M [.sh] true f_law_depths)) (G__law_made : Has P w M.K mg base CX0 "_law_made" 2 ["signs"] (spOf M [.sh] false f_law_made)) (G__law_pick : Has P w M.K mg base CX0 "_law_pick" 1 ["bag", "width"] (spOf M [.io, .sh] false f_law_pick)) (G_deep : Has P w M.K mg base (L2.CX P w) "deep" 6 ["pattern"] (spOf M [.sh] false f_deep)) (G_lots_of : Has P w M.K mg base (L2.CX P w) "lots_of" 6 ["pattern"] (spOf M [.sh] false f_lots_of)) (G_marks_of : Has P w M.K mg base (L2.CX P w) "marks_of" 6 ["pattern"] (spOf M [.sh] false f_marks_of)) (G_node_at : Has P w M.K mg base (L2.CX P w) "node_at" 6 ["pattern", "number"] (spOf M [.sh, .sh] false f_node_at)) (G_nodes_many : Has P w M.K mg base (L2.CX P w) "nodes_many" 6 ["pattern"] (spOf M [.sh] false f_nodes_many)) :
    HasG P w M.K mg base CX0 "_law_are_told_right" 7 ["bag", "signs"] (spOf M [.io, .sh] false f_law_are_told_right) :=
  hasG_of (m := m_law_are_told_right) D sc_law_are_told_right (fun _ _ _ _ _ _ us hl => match us, hl with | [_, _], _ => rfl) fun f cdv A outer s H E hgd hr =>
    (q_ss (q_par (i := 2) (j := 3) rfl sc_law_are_told_right.nd rfl rfl (by decide) rfl rfl (q_callS (Ex := E) G__law_made (hr.mono (by decide)) (by rfl) pass0 (q_cons (q_v (i := 1)) q_nil)) (QE.fs (q_callF (Ex := E) G__law_behind (hr.mono (by decide)) (by rfl) pass0 (q_cons (q_v (i := 1)) q_nil))) (by rfl))
    (q_ss (q_set (i := 4) sc_law_are_told_right.nd rfl (Or.inl rfl) (QE.fs (q_cb (call_sortedD rfl) ok_sortD T.n_sorted (by rfl) (by decide +kernel) (QE.fb (q_cty (call_dictP rfl) ok_dictP T.n_dict (by rfl) (by decide +kernel) (QE.fb (q_lc (own := [("sign", 8)]) rfl sc_law_are_told_right.nd (q_any (q_v (i := 1))) (blkOk_by (own := [("sign", 8)]) (N := ["bag", "signs", "pattern", "behind", "marks", "lots", "turn", "at", "sign"]) (sc := defScope s_law_are_told_right) (by decide +kernel)) (fun _ _ _ _ _ => (q_gn (i := 8) sc_law_are_told_right.nd rfl (Or.inl rfl))) (fun _ _ _ _ _ => (q_ts1 (q_cmpT (op_eqG (hu64 hr)) ok_eq (q_ix (q_v (i := 8)) (QE.sb q_int) (fun _ _ => rfl)) (QE.sb q_str) (nomark _)))) (fun _ _ _ _ _ => (q_tup (n := 2) (q_cons (q_ix (q_v (i := 8)) (QE.sb q_int) (fun _ _ => rfl)) (q_cons q_bl q_nil)))))))))))
    (q_ss (q_setLcS (i := 5) (own := [("sign", 8)]) rfl sc_law_are_told_right.nd rfl rfl (sw_true rfl rfl rfl (by decide +kernel)) (q_any (q_v (i := 1))) (blkOk_by (own := [("sign", 8)]) (N := ["bag", "signs", "pattern", "behind", "marks", "lots", "turn", "at", "sign"]) (sc := defScope s_law_are_told_right) (by decide +kernel)) (fun _ _ _ _ _ => (q_gn (i := 8) sc_law_are_told_right.nd rfl (Or.inl rfl))) (fun _ _ _ _ _ => (q_ts1 (q_cmpT (op_eqG (hu64 hr)) ok_eq (q_ix (q_v (i := 8)) (QE.sb q_int) (fun _ _ => rfl)) (QE.sb q_str) (nomark _)))) (fun _ _ _ _ _ => (q_ix (q_v (i := 8)) (QE.sb q_int) (fun _ _ => rfl))))
    (q_ss (q_ifS (q_cmpT (op_neG (hu64 hr)) ok_ne (q_cb (call_reprG hgd (hu64 hr)) ok_repr T.n_repr (by rfl) (by decide +kernel) (QE.sb (q_tup (n := 2) (q_cons (q_callNS G_nodes_many (hr.mono (by decide)) (by rfl) (q_cons (q_v (i := 2)) q_nil)) (q_cons (q_callNS G_deep (hr.mono (by decide)) (by rfl) (q_cons (q_v (i := 2)) q_nil)) q_nil))))) (QE.sb (q_cb (call_reprG hgd (hu64 hr)) ok_repr T.n_repr (by rfl) (by decide +kernel) (QE.sb (q_tup (n := 2) (q_cons (q_cb call_len ok_len T.n_len (by rfl) (by decide +kernel) (QE.sb (q_v (i := 1)))) (q_cons (q_cb (cr_max rfl) ok_maxL T.n_max (by rfl) (by decide +kernel) (QE.fb (q_callF (Ex := E) G__law_depths (hr.mono (by decide)) (by rfl) pass0 (q_cons (q_v (i := 1)) q_nil)))) q_nil)))))) (nomark _)) (q_ss1 (q_ret q_bl)) q_ss0)
    (q_ss (q_ifS (QW.t (q_orT (q_cmpT (op_neG (hu64 hr)) ok_ne (q_callNS G_marks_of (hr.mono (by decide)) (by rfl) (q_cons (q_v (i := 2)) q_nil)) (QE.sb (q_cty call_tuple_of ok_tup T.n_tuple (by rfl) (by decide +kernel) (QE.sb (q_v (i := 4))))) (nomark _)) (q_or1 (q_cmpT (op_neG (hu64 hr)) ok_ne (q_callNS G_lots_of (hr.mono (by decide)) (by rfl) (q_cons (q_v (i := 2)) q_nil)) (QE.sb (q_cty call_tuple_of ok_tup T.n_tuple (by rfl) (by decide +kernel) (QE.sb (q_v (i := 5))))) (nomark _))))) (q_ss1 (q_ret q_bl)) q_ss0)
    (q_ss (q_for PassesOwn.never rfl (q_rng1 T.n_range (by rfl) q_int) (q_gn (i := 6) sc_law_are_told_right.nd rfl (Or.inl rfl)) (q_ss (q_set (i := 7) sc_law_are_told_right.nd rfl (Or.inl rfl) (q_callS (Ex := E) G__law_pick (hr.mono (by decide)) (by rfl) pass0 (q_consV (i := 0) (hr := (q_cons (q_cb call_len ok_len T.n_len (by rfl) (by decide +kernel) (QE.sb (q_v (i := 1)))) q_nil)))))
    (q_ss1 (q_ifS (q_cmpT (op_neG (hu64 hr)) ok_ne (q_callNS G_node_at (hr.mono (by decide)) (by rfl) (q_cons (q_v (i := 2)) (q_cons (q_v (i := 7)) q_nil))) (QE.sb (q_callS (Ex := E) G__law_made (hr.mono (by decide)) (by rfl) pass0 (q_cons (q_sl (q_v (i := 1)) (q_part (q_v (i := 7))) (q_part (q_ix (q_v (i := 3)) (QE.sb (q_v (i := 7))) (fun _ _ => rfl)))) q_nil))) (nomark _)) (q_ss1 (q_ret q_bl)) q_ss0))))
    (q_ss1 (q_ret (q_cmp (op_eqG (hu64 hr)) ok_eq (q_callNS G_node_at (hr.mono (by decide)) (by rfl) (q_cons (q_v (i := 2)) (q_cons (q_op op_sub ok_sub (q_cb call_len ok_len T.n_len (by rfl) (by decide +kernel) (QE.sb (q_v (i := 1)))) (QE.sb q_int)) q_nil))) (QE.sb (q_ix (q_v (i := 1)) (QE.sb (q_neg (QE.sb q_int))) (fun _ _ => rfl))) (nomark _))))))))))
def t_suite_law_error (M : Pm) (a : Addr) (cls : Value) (d : Option Addr) : TS :=
  tSeq (tAsg (tLst (tCons (tCB (rIsErr M.K a cls d) (tCons (tVar 2) (tCons (tC (.ref (M.cls "NoPattern"))) tNil))) (tCons (tCB (rIsErr M.K a cls d) (tCons (tVar 2) (tCons (tC (.ref (M.cls "NoPlace"))) tNil))) tNil))) (gName 3))
    (tIfS (tAnd (tTest (tOp rEq (tBM M.K "list" (rCntB M.K) (tVar 3) (tCons (tC (.bl true)) tNil)) (tC (.int 1)))) (tB (tCB (rIsErr M.K a cls d) (tCons (tVar 2) (tCons (tC (.ty "ValueError")) tNil)))))
      (tAsg (tOp (rIxL M.K) (tLst (tCons (tC (.str "pattern")) (tCons (tC (.str "place")) tNil))) (tBM M.K "list" (rIndex M.K) (tVar 3) (tCons (tC (.bl true)) tNil))) (gName 1))
      (tAsg (tC (.str "other")) (gName 1)))
theorem gives_law_error {X : Cx} {M : Pm} {q : Str} (hK : X.K = M.K) (T : Tx M X.w X.mg) (g : Addr) (cdg : Value) :
    LamX.GivesTo X ["call", "found", "error", "flags"] "_law_error" (defScope s_law_error) g cdg (defBody s_law_error) "call" q (TTw M ws_law_error "told") := by
  obtain ⟨K, cl, tabs⟩ := M
  have hK' : X.K = K := hK
  subst hK'
  intro f c' s H Q tl act hc h
  refine ⟨_, pss_cons (ps_set (i := 1) sc_law_error.nd rfl (Or.inl rfl) pe_str)
    (pss_cons (ps_try_as (i := 2) (c := .ref (cl "ReadError"))
      (tb := fun W D σ H => ∃ Ech : XK, (∀ cls d σ' H', Ech cls d H' → σ'.length = 4 → W cls d σ' H') ∧ σ[0]? = some (some (.ref f)) ∧ H c' = some (LamX.CodeO c' q) ∧ tl Ech H (fun _ H' => D.nx σ H'))
      (ts := t_suite_law_error ⟨X.K, cl, tabs⟩) (Wout := fun _ _ _ _ => False) rfl rfl sc_law_error.nd rfl rfl ⟨rfl, by decide, Or.inl T.e_ReadError.g⟩ takes0 (fun W pn xe tk _ => ?_)
      (fun a oe cls d pn hz hf => pss_cons (ps_set (i := 3) sc_law_error.nd rfl (Or.inl rfl) (pe_lst (pa_cons (pe_callB (call_isErr hz hf) (by rfl) T.n_isinstance (by decide +kernel) (pa_cons (pv 2) (pa_cons (pe_glob rfl T.e_NoPattern.g rfl) pa_nil))) (pa_cons (pe_callB (call_isErr hz hf) (by rfl) T.n_isinstance (by decide +kernel) (pa_cons (pv 2) (pa_cons (pe_glob rfl T.e_NoPlace.g rfl) pa_nil))) pa_nil))))
        (pss_one (ps_if (PW.pt (pw_and (pt_cmpR op_eq (pe_bm PySem.F.plainAttrs_list PySem.F.slot_list_count PySem.F.type_list_count mt_countB (pv 3) (pa_cons pe_bl pa_nil)) pe_int (nomark _))
            (pw_and1 (pt_val (pe_callB (call_isErr hz hf) (by rfl) T.n_isinstance (by decide +kernel) (pa_cons (pv 2) (pa_cons (pe_bltn (by rfl) T.n_ValueError (by decide +kernel) rfl) pa_nil)))))))
          (pss_one (ps_set (i := 1) sc_law_error.nd rfl (Or.inl rfl) (pe_ix ix_list (pe_lst (pa_cons pe_str (pa_cons pe_str pa_nil))) (pe_bm PySem.F.plainAttrs_list PySem.F.slot_list_index PySem.F.type_list_index mt_index (pv 3) (pa_cons pe_bl pa_nil)) (fun _ _ => rfl))))
          (pss_one (ps_set (i := 1) sc_law_error.nd rfl (Or.inl rfl) pe_str))))))
      (pss_one (ps_ret (pv 1)))), ?_⟩
  · refine ⟨fun pins s' σ H' D I h' => ?_⟩
    obtain ⟨Ech, hW, h1, h2, h3⟩ := h'
    have hp := fun p1 p2 => act (fun cls d σ H => σ.length = 4 → W cls d σ H) pn xe Ech p1 p2 (takes_len tk) hW
    exact (pss_one (ps_expr (hp _ _))).run pins s' σ H' D I ⟨h1, h2, h3⟩
  · refine ⟨fun cls d H' => d = none ∧ ∃ q ∈ ws_law_error, cls = .ref (cl q.1) ∧ ∀ H'', Kp tabs [] H' H'' → Q (.str q.2) H'', ?_, rfl, hc, ?_⟩
    · rintro cls _ σ' H' ⟨rfl, q0, mq, ec, hq⟩ hl
      obtain ⟨x0, x1, x2, x3, rfl⟩ : ∃ x0 x1 x2 x3, σ' = [x0, x1, x2, x3] := by
        match σ', hl with
        | [x0, x1, x2, x3], _ => exact ⟨x0, x1, x2, x3, rfl⟩
      simp only [ws_law_error, List.mem_cons, List.not_mem_nil, or_false] at mq
      rcases mq with rfl | rfl
      · have ec : cls = .ref (cl "NoPattern") := ec
        subst ec
        refine ⟨true, exm_own T.e_ReadError T.sub_NoPattern, fun _ a _ => ?_, fun e => nomatch e⟩
        dsimp only [t_suite_law_error, tSeq, tAsg, tIfS, tAnd, tB, tTest, tOp, tLst, tBM, tCB, tCons, tVar, tC, tNil, gName, List.set]
        refine ⟨_, rfl, cl "NoPattern", _, .ref (cl "NoPattern"), true, rfl, rfl, T.e_NoPattern.c, rfl, fun u h => by cases h; rfl, T.kit_NoPattern_NoPattern, _, rfl, cl "NoPattern", _, .ref (cl "NoPlace"), false, rfl, rfl, T.e_NoPattern.c, rfl, fun u h => by cases h; rfl, T.kit_NoPattern_NoPlace, by show 2 ≤ sizeLine; decide, fun p hp => ?_⟩
        have k1 : Kp tabs [] H' (upd H' p (.lst [.bl true, .bl false])) := Kp.new hp
        have hD : (upd H' p (.lst [.bl true, .bl false])) p = some (.lst ([true, false].map V.bl)) := upd_same
        refine ⟨_, rfl, .inl ⟨rfl, _, .of hD⟩, p, [true, false], rfl, rfl, .of hD, rfl, _, rfl, if1 (by decide) ?_⟩
        refine ⟨_, rfl, cl "NoPattern", _, .type "ValueError", true, rfl, rfl, T.e_NoPattern.c, rfl, fun u h => by cases h; rfl, T.kitv_NoPattern, _, rfl, if1 rfl ⟨by show 2 ≤ sizeLine; decide, fun p2 hp2 => ?_⟩⟩
        have k2 : Kp tabs [] (upd H' p (.lst [.bl true, .bl false])) (upd (upd H' p (.lst [.bl true, .bl false])) p2 (.lst [.str "pattern", .str "place"])) := Kp.new hp2
        have hD2 : (upd (upd H' p (.lst [.bl true, .bl false])) p2 (.lst [.str "pattern", .str "place"])) p = some (.lst ([true, false].map V.bl)) := k2.1 _ _ hD (fun _ q => nomatch q) (fun m => nomatch m)
        refine ⟨_, rfl, .inl ⟨rfl, _, .of hD2⟩, p, [.bl true, .bl false], .bl true, 0, .bl true, rfl, rfl, .of hD2, rfl, rfl, rfl, rfl, fun m z' h _ => absurd h (Nat.not_lt_zero _), s_ixL (.of upd_same) (atI_nat (j := 0) rfl) ?_⟩
        exact ⟨_, rfl, hq _ (k1.trans k2)⟩
      · have ec : cls = .ref (cl "NoPlace") := ec
        subst ec
        refine ⟨true, exm_own T.e_ReadError T.sub_NoPlace, fun _ a _ => ?_, fun e => nomatch e⟩
        dsimp only [t_suite_law_error, tSeq, tAsg, tIfS, tAnd, tB, tTest, tOp, tLst, tBM, tCB, tCons, tVar, tC, tNil, gName, List.set]
        refine ⟨_, rfl, cl "NoPlace", _, .ref (cl "NoPattern"), false, rfl, rfl, T.e_NoPlace.c, rfl, fun u h => by cases h; rfl, T.kit_NoPlace_NoPattern, _, rfl, cl "NoPlace", _, .ref (cl "NoPlace"), true, rfl, rfl, T.e_NoPlace.c, rfl, fun u h => by cases h; rfl, T.kit_NoPlace_NoPlace, by show 2 ≤ sizeLine; decide, fun p hp => ?_⟩
        have k1 : Kp tabs [] H' (upd H' p (.lst [.bl false, .bl true])) := Kp.new hp
        have hD : (upd H' p (.lst [.bl false, .bl true])) p = some (.lst ([false, true].map V.bl)) := upd_same
        refine ⟨_, rfl, .inl ⟨rfl, _, .of hD⟩, p, [false, true], rfl, rfl, .of hD, rfl, _, rfl, if1 (by decide) ?_⟩
        refine ⟨_, rfl, cl "NoPlace", _, .type "ValueError", true, rfl, rfl, T.e_NoPlace.c, rfl, fun u h => by cases h; rfl, T.kitv_NoPlace, _, rfl, if1 rfl ⟨by show 2 ≤ sizeLine; decide, fun p2 hp2 => ?_⟩⟩
        have k2 : Kp tabs [] (upd H' p (.lst [.bl false, .bl true])) (upd (upd H' p (.lst [.bl false, .bl true])) p2 (.lst [.str "pattern", .str "place"])) := Kp.new hp2
        have hD2 : (upd (upd H' p (.lst [.bl false, .bl true])) p2 (.lst [.str "pattern", .str "place"])) p = some (.lst ([false, true].map V.bl)) := k2.1 _ _ hD (fun _ q => nomatch q) (fun m => nomatch m)
        refine ⟨_, rfl, .inl ⟨rfl, _, .of hD2⟩, p, [.bl false, .bl true], .bl true, 1, .bl true, rfl, rfl, .of hD2, rfl, rfl, rfl, rfl, fun m z' h e => by rcases (by omega : m = 0) with rfl <;> (cases (Option.some.inj e); rfl), s_ixL (.of upd_same) (atI_nat (j := 1) rfl) ?_⟩
        exact ⟨_, rfl, hq _ (k1.trans k2)⟩
    · exact h
theorem g_law_are_refused {P : Program} {w : World} {mg : Str → Option Value} {base : Heap} {M : Pm} (T : Tx M w mg) {cT PT : Addr} (TB : LamX.TabB base mg cT PT) (hmT : (PT, ("_law_are_refused" : Str) ++ ".<locals>." ++ "<lambda>") ∈ M.tabs) (huT : ∀ p ∈ M.tabs, p.1 = PT → p.2 = ("_law_are_refused" : Str) ++ ".<locals>." ++ "<lambda>") (D : DefT M.K mg "_law_are_refused" s_law_are_refused cT) (G__law_error : HasL M.K mg "_law_error" "call" s_law_error ["call", "found", "error", "flags"]) (G__law_made : Has P w M.K mg base CX0 "_law_made" 2 ["signs"] (spOf M [.sh] false f_law_made)) (G__law_some : Has P w M.K mg base CX0 "_law_some" 2 ["bag", "things"] (spOf M [.io, .bo] false f_law_some)) (G_deep : Has P w M.K mg base (L2.CX P w) "deep" 6 ["pattern"] (spOf M [.sh] false f_deep)) (G_lots_of : Has P w M.K mg base (L2.CX P w) "lots_of" 6 ["pattern"] (spOf M [.sh] false f_lots_of)) (G_marks_of : Has P w M.K mg base (L2.CX P w) "marks_of" 6 ["pattern"] (spOf M [.sh] false f_marks_of)) (G_node_at : Has P w M.K mg base (L2.CX P w) "node_at" 6 ["pattern", "number"] (spOf M [.sh, .sh] false f_node_at)) (G_nodes_many : Has P w M.K mg base (L2.CX P w) "nodes_many" 6 ["pattern"] (spOf M [.sh] false f_nodes_many)) :
    Has P w M.K mg base CX0 "_law_are_refused" 9 ["bag", "signs"] (spOf M [.io, .sh] false f_law_are_refused) :=
  hasT_of (m := m_law_are_refused) D sc_law_are_refused (fun _ _ _ _ _ _ us hl => match us, hl with | [_, _], _ => rfl) fun f A outer s H E hr =>
    (q_ss (q_set (i := 2) sc_law_are_refused.nd rfl (Or.inr rfl) (q_callS (Ex := E) G__law_made (hr.mono (by decide)) (by rfl) pass0 (q_cons (q_v (i := 1)) q_nil)))
    (q_ss (q_set (i := 3) sc_law_are_refused.nd rfl (Or.inr rfl) (q_callS (Ex := E) G__law_some (hr.mono (by decide)) (by rfl) pass0 (q_consV (i := 0) (hr := (q_cons (QE.fs (q_lst (n := 9) (q_cons q_non (q_cons q_str (q_cons (q_tup (n := 2) (q_cons q_str (q_cons q_str q_nil))) (q_cons (q_tup (n := 2) (q_cons q_str (q_cons (q_v (i := 2)) q_nil))) (q_cons (QE.fs (q_lst (n := 1) (q_cons q_str q_nil))) (q_cons (q_tup (n := 3) (q_cons q_str (q_cons q_str (q_cons (q_v (i := 2)) q_nil)))) (q_cons q_int (q_cons (q_tup (n := 1) (q_cons (q_v (i := 2)) q_nil)) (q_cons (q_tup (n := 0) q_nil) q_nil))))))))))) q_nil)))))
    (q_ss (q_set (i := 4) sc_law_are_refused.nd rfl (Or.inr rfl) (q_callS (Ex := E) G__law_some (hr.mono (by decide)) (by rfl) pass0 (q_consV (i := 0) (hr := (q_cons (QE.fs (q_lst (n := 9) (q_cons (q_neg (QE.sb q_int)) (q_cons (q_cb call_len ok_len T.n_len (by rfl) (by decide +kernel) (QE.sb (q_v (i := 1)))) (q_cons q_non (q_cons q_bl (q_cons q_bl (q_cons q_str (q_cons (q_tup (n := 1) (q_cons q_int q_nil)) (q_cons (q_op op_pow ok_pow q_int (QE.sb q_int)) (q_cons (QE.fs (q_lst (n := 1) (q_cons q_int q_nil))) q_nil))))))))))) q_nil)))))
    (q_ss (q_own (i := 5) sc_law_are_refused.nd rfl (Or.inl rfl) (q_lst (n := 1) (q_cons (q_lam (k := 6) (ws := ws_law_error) (told := "told") G__law_error (gives_law_error rfl T) (by rfl) TB rfl hmT huT (hr.mono (by decide)) (LamX.lamS_by (sc := defScope s_law_are_refused) (by decide +kernel)) rfl (fun _ _ _ _ _ => rfl) ⟨(fun E => tCall (spOf M [.sh] false f_nodes_many) [] E (tCons (tVar 3) tNil)), (fun A outer s H E f c' hrL => pc G_nodes_many (hrL.mono (by decide)) (by rfl) passLam (pa_cons (pv 3) pa_nil)), (fun E' => (re_call (rk := false) (ra_cons (re_v (i := 3) (hi := by exact Nat.le_of_ble_eq_true rfl) (hp := by rfl)) ra_nil)))⟩) q_nil)))
    (q_ss (q_app (i := 5) (h := (q_lam (k := 6) (ws := ws_law_error) (told := "told") G__law_error (gives_law_error rfl T) (by rfl) TB rfl hmT huT (hr.mono (by decide)) (LamX.lamS_by (sc := defScope s_law_are_refused) (by decide +kernel)) rfl (fun _ _ _ _ _ => rfl) ⟨(fun E => tCall (spOf M [.sh] false f_deep) [] E (tCons (tVar 3) tNil)), (fun A outer s H E f c' hrL => pc G_deep (hrL.mono (by decide)) (by rfl) passLam (pa_cons (pv 3) pa_nil)), (fun E' => (re_call (rk := false) (ra_cons (re_v (i := 3) (hi := by exact Nat.le_of_ble_eq_true rfl) (hp := by rfl)) ra_nil)))⟩)))
    (q_ss (q_app (i := 5) (h := (q_lam (k := 6) (ws := ws_law_error) (told := "told") G__law_error (gives_law_error rfl T) (by rfl) TB rfl hmT huT (hr.mono (by decide)) (LamX.lamS_by (sc := defScope s_law_are_refused) (by decide +kernel)) rfl (fun _ _ _ _ _ => rfl) ⟨(fun E => tCall (spOf M [.sh] false f_marks_of) [] E (tCons (tVar 3) tNil)), (fun A outer s H E f c' hrL => pc G_marks_of (hrL.mono (by decide)) (by rfl) passLam (pa_cons (pv 3) pa_nil)), (fun E' => (re_call (rk := false) (ra_cons (re_v (i := 3) (hi := by exact Nat.le_of_ble_eq_true rfl) (hp := by rfl)) ra_nil)))⟩)))
    (q_ss (q_app (i := 5) (h := (q_lam (k := 6) (ws := ws_law_error) (told := "told") G__law_error (gives_law_error rfl T) (by rfl) TB rfl hmT huT (hr.mono (by decide)) (LamX.lamS_by (sc := defScope s_law_are_refused) (by decide +kernel)) rfl (fun _ _ _ _ _ => rfl) ⟨(fun E => tCall (spOf M [.sh] false f_lots_of) [] E (tCons (tVar 3) tNil)), (fun A outer s H E f c' hrL => pc G_lots_of (hrL.mono (by decide)) (by rfl) passLam (pa_cons (pv 3) pa_nil)), (fun E' => (re_call (rk := false) (ra_cons (re_v (i := 3) (hi := by exact Nat.le_of_ble_eq_true rfl) (hp := by rfl)) ra_nil)))⟩)))
    (q_ss (q_app (i := 5) (h := (q_lam (k := 6) (ws := ws_law_error) (told := "told") G__law_error (gives_law_error rfl T) (by rfl) TB rfl hmT huT (hr.mono (by decide)) (LamX.lamS_by (sc := defScope s_law_are_refused) (by decide +kernel)) rfl (fun _ _ _ _ _ => rfl) ⟨(fun E => tCall (spOf M [.sh, .sh] false f_node_at) [] E (tCons (tVar 3) (tCons (tC (.int 0)) tNil))), (fun A outer s H E f c' hrL => pc G_node_at (hrL.mono (by decide)) (by rfl) passLam (pa_cons (pv 3) (pa_cons pe_int pa_nil))), (fun E' => (re_call (rk := false) (ra_cons (re_v (i := 3) (hi := by exact Nat.le_of_ble_eq_true rfl) (hp := by rfl)) (ra_cons (re_c (v := (.int 0)) (d := (.int 0))) ra_nil))))⟩)))
    (q_ss (q_app (i := 5) (h := (q_lam (k := 6) (ws := ws_law_error) (told := "told") G__law_error (gives_law_error rfl T) (by rfl) TB rfl hmT huT (hr.mono (by decide)) (LamX.lamS_by (sc := defScope s_law_are_refused) (by decide +kernel)) rfl (fun _ _ _ _ _ => rfl) ⟨(fun E => tCall (spOf M [.sh, .sh] false f_node_at) [] E (tCons (tVar 2) (tCons (tVar 4) tNil))), (fun A outer s H E f c' hrL => pc G_node_at (hrL.mono (by decide)) (by rfl) passLam (pa_cons (pv 2) (pa_cons (pv 4) pa_nil))), (fun E' => (re_call (rk := false) (ra_cons (re_v (i := 2) (hi := by exact Nat.le_of_ble_eq_true rfl) (hp := by rfl)) (ra_cons (re_v (i := 4) (hi := by exact Nat.le_of_ble_eq_true rfl) (hp := by rfl)) ra_nil))))⟩)))
    (q_ss1 (q_ret (q_cmpB (i := 5) (op_eqG (hu64 hr)) ok_eq (hb := (QE.fb (q_op op_cat ok_catF (QE.fs (q_op op_rep ok_repF (QE.fs (q_lst (n := 1) (q_cons q_str q_nil))) (QE.sb q_int))) (QE.fb (q_lst (n := 1) (q_cons q_str q_nil)))))) (hm := (nomark _))))))))))))))
theorem b_law {P : Program} {w : World} {mg : Str → Option Value} {base : Heap} {M : Pm} (T : Tx M w mg) {f : Addr} {cdv : Value} {A : Around} {outer : List Env} {s : Shared} {H : Hp} {E : XK} (hgd : A.guards = some []) (hr : Room 9 (A.deeper (envOfC "law" (defScope s_law) s.heap.objs.size f cdv))) (G__law_are_refused : Has P w M.K mg base CX0 "_law_are_refused" 9 ["bag", "signs"] (spOf M [.io, .sh] false f_law_are_refused)) (G__law_are_told_right : HasG P w M.K mg base CX0 "_law_are_told_right" 7 ["bag", "signs"] (spOf M [.io, .sh] false f_law_are_told_right)) (G__law_bag : Has P w M.K mg base CX0 "_law_bag" 1 ["script"] (spOf M [.sc] true f_law_bag)) (G__law_drawn : Has P w M.K mg base CX0 "_law_drawn" 4 ["bag", "turns", "most"] (spOf M [.io, .sh, .sh] false f_law_drawn)) (G_deep : Has P w M.K mg base (L2.CX P w) "deep" 6 ["pattern"] (spOf M [.sh] false f_deep)) (G_lots_of : Has P w M.K mg base (L2.CX P w) "lots_of" 6 ["pattern"] (spOf M [.sh] false f_lots_of)) (G_marks_of : Has P w M.K mg base (L2.CX P w) "marks_of" 6 ["pattern"] (spOf M [.sh] false f_marks_of)) (G_node_at : Has P w M.K mg base (L2.CX P w) "node_at" 6 ["pattern", "number"] (spOf M [.sh, .sh] false f_node_at)) (G_nodes_many : Has P w M.K mg base (L2.CX P w) "nodes_many" 6 ["pattern"] (spOf M [.sh] false f_nodes_many)) :
    QSs (cxOf CX0 P w M.K mg base ["script", "bag", "known", "lap", "signs"] "law" (defScope s_law) f cdv A outer s H E).nox ⟨M.cls, M.tabs, 5, [], false⟩ (fun cl dx _ H => E cl dx H) (defBody s_law) m_law :=
    (q_ss (q_own (i := 1) sc_law.nd rfl (Or.inl rfl) (q_callF (Ex := E) G__law_bag (hr.mono (by decide)) (by rfl) pass0 (q_consV (i := 0) (hr := q_nil))))
    (q_ss (q_set (i := 2) sc_law.nd rfl (Or.inl rfl) (q_tup (n := 3) (q_cons q_str (q_cons (q_tup (n := 3) (q_cons q_str (q_cons q_str (q_cons (q_tup (n := 2) (q_cons q_str (q_cons q_str q_nil))) q_nil)))) (q_cons (q_tup (n := 3) (q_cons q_str (q_cons (q_tup (n := 3) (q_cons q_str (q_cons q_str (q_cons (q_tup (n := 1) (q_cons q_str q_nil)) q_nil)))) (q_cons (q_tup (n := 2) (q_cons q_str (q_cons (q_tup (n := 2) (q_cons q_str (q_cons q_str q_nil))) q_nil))) q_nil)))) q_nil)))))
    (q_ss (q_ifS (q_cmpT (op_neG (hu64 hr)) ok_ne (q_tup (n := 4) (q_cons (q_callNS G_nodes_many (hr.mono (by decide)) (by rfl) (q_cons (q_v (i := 2)) q_nil)) (q_cons (q_callNS G_deep (hr.mono (by decide)) (by rfl) (q_cons (q_v (i := 2)) q_nil)) (q_cons (q_callNS G_marks_of (hr.mono (by decide)) (by rfl) (q_cons (q_v (i := 2)) q_nil)) (q_cons (q_callNS G_lots_of (hr.mono (by decide)) (by rfl) (q_cons (q_v (i := 2)) q_nil)) q_nil))))) (QE.sb (q_tup (n := 4) (q_cons q_int (q_cons q_int (q_cons (q_tup (n := 2) (q_cons q_str (q_cons q_str q_nil))) (q_cons (q_tup (n := 2) (q_cons q_str (q_cons q_str q_nil))) q_nil)))))) (nomark _)) (q_ss1 (q_ret q_bl)) q_ss0)
    (q_ss (q_ifS (QW.t (q_orT (q_cmpT (op_neG (hu64 hr)) ok_ne (q_callNS G_node_at (hr.mono (by decide)) (by rfl) (q_cons (q_v (i := 2)) (q_cons q_int q_nil))) (QE.sb (q_v (i := 2))) (nomark _)) (q_orT (q_cmpT (op_neG (hu64 hr)) ok_ne (q_callNS G_node_at (hr.mono (by decide)) (by rfl) (q_cons (q_v (i := 2)) (q_cons q_int q_nil))) (QE.sb (q_ix (q_v (i := 2)) (QE.sb q_int) (fun _ _ => rfl))) (nomark _)) (q_or1 (q_cmpT (op_neG (hu64 hr)) ok_ne (q_callNS G_node_at (hr.mono (by decide)) (by rfl) (q_cons (q_v (i := 2)) (q_cons q_int q_nil))) (QE.sb (q_tup (n := 3) (q_cons q_str (q_cons q_str (q_cons (q_tup (n := 1) (q_cons q_str q_nil)) q_nil))))) (nomark _)))))) (q_ss1 (q_ret q_bl)) q_ss0)
    (q_ss (q_for PassesOwn.never rfl (q_rng1 T.n_range (by rfl) q_int) (q_gn (i := 3) sc_law.nd rfl (Or.inl rfl)) (q_ss (q_set (i := 4) sc_law.nd rfl (Or.inl rfl) (q_callS (Ex := E) G__law_drawn (hr.mono (by decide)) (by rfl) pass0 (q_consV (i := 1) (hr := (q_cons q_int (q_cons q_int q_nil))))))
    (q_ss1 (q_ifS (QW.t (q_orT (q_notT (q_val (q_callGS (Ex := E) G__law_are_told_right hgd (hr.mono (by decide)) (by rfl) pass0 (q_consV (i := 1) (hr := (q_cons (q_v (i := 4)) q_nil)))))) (q_or1 (q_notT (q_val (q_callS (Ex := E) G__law_are_refused (hr.mono (by decide)) (by rfl) pass0 (q_consV (i := 1) (hr := (q_cons (q_v (i := 4)) q_nil))))))))) (q_ss1 (q_ret q_bl)) q_ss0))))
    (q_ss1 (q_ret q_bl)))))))

set_option Elab.async false
set_option linter.all false
set_option maxRecDepth 100000
set_option maxHeartbeats 4000000
open PySem PySem.Spec PyProof.Rows L2 FR MV
/-! ### the bag -/
structure BagOk (b : PyData) (ns : List Int) (i l m n : Int) : Prop where
  e : b = .list [.list (ns.map .int), .int i, .int l, .int m, .int n]
  ln : ns.length ≤ 63
  z : ∀ x ∈ ns, 0 ≤ x ∧ x < 10 ^ 40
  i0 : 0 ≤ i
  i1 : i ≤ ns.length
  l0 : 0 ≤ l
  l1 : l < 10 ^ 40
  m0 : 0 ≤ m
  m1 : m < 2147483648
  n0 : 0 ≤ n
def Bag (b : PyData) : Prop := ∃ ns i l m n, BagOk b ns i l m n
section
variable {a0 a1 a2 a3 a4 : PyData}
theorem at50 : atI [a0, a1, a2, a3, a4] 0 = some a0 := atI_nat (xs := [a0, a1, a2, a3, a4]) (j := 0) rfl
theorem at51 : atI [a0, a1, a2, a3, a4] 1 = some a1 := atI_nat (xs := [a0, a1, a2, a3, a4]) (j := 1) rfl
theorem at52 : atI [a0, a1, a2, a3, a4] 2 = some a2 := atI_nat (xs := [a0, a1, a2, a3, a4]) (j := 2) rfl
theorem at53 : atI [a0, a1, a2, a3, a4] 3 = some a3 := atI_nat (xs := [a0, a1, a2, a3, a4]) (j := 3) rfl
theorem at54 : atI [a0, a1, a2, a3, a4] 4 = some a4 := atI_nat (xs := [a0, a1, a2, a3, a4]) (j := 4) rfl
end
structure PickR (w : Int) (r : PyData) (outs : List PyData) : Prop where
  ex : ∃ d b', r = .int d ∧ outs = [b'] ∧ Bag b' ∧ 0 ≤ d ∧ d < w
theorem pick_rest {b : PyData} {ns : List Int} {i l m n w : Int} {x2 x3 x4 : Option Cell} (hb : BagOk b ns i l m n) (hw : 1 ≤ w) (hw2 : w ≤ 1000000) :
    WS (mSeq m_law_pick_1 (mSeq m_law_pick_2 (mSeq m_law_pick_3 (mSeq m_law_pick_4 (mSeq m_law_pick_5 m_law_pick_6))))) [some (.io b), some (.sh (.int w)), x2, x3, x4] (fnE false [.io, .sh] (PickR w) fun _ _ _ => False) := by
  obtain ⟨e, ln, z, i0, i1, l0, l1, m0, m1, n0⟩ := hb
  subst e
  dsimp only [m_law_pick_1, m_law_pick_1t, m_law_pick_1t_0, m_law_pick_1t_1, m_law_pick_2, m_law_pick_3, m_law_pick_4, m_law_pick_5, m_law_pick_6]
  walk_at "go"
  refine ifB (fun h => ?_) (fun h => ?_)
  · have hl : 0 < l := of_decide_eq_true h
    walk_at "go"
    refine ⟨_, if_pos (by omega), ?_⟩
    walk_at "go"
    refine ⟨_, if_pos ⟨by omega, by omega⟩, ?_⟩
    walk_at "go"
    refine ⟨_, _, _, rfl, rfl, rfl, ?_⟩
    walk_at "go"
    exact ⟨_, _, rfl, rfl, ⟨_, _, _, _, _, rfl, ln, z, i0, i1, Int.ediv_nonneg l0 (by omega), Int.lt_of_le_of_lt (Int.ediv_le_self _ l0) l1, m0, m1, n0⟩, Int.emod_nonneg _ (by omega), Int.emod_lt_of_pos _ (by omega)⟩
  · walk_at "go"
    refine ⟨_, _, _, rfl, rfl, rfl, ?_⟩
    walk_at "go"
    have p0 : ∀ x : Int, 0 ≤ x % 2147483647 ∧ x % 2147483647 < 2147483647 := fun x => ⟨Int.emod_nonneg _ (by decide), Int.emod_lt_of_pos _ (by decide)⟩
    have p1 := p0 ((m + 7919 * (n + 1)) * 48271)
    generalize (m + 7919 * (n + 1)) * 48271 % 2147483647 = y1 at p1 ⊢
    refine ⟨_, mul_l (big_no (by omega) (by omega)), ?_⟩
    walk_at "go"
    have p2 := p0 (y1 * (y1 / 1009 + 69621))
    generalize y1 * (y1 / 1009 + 69621) % 2147483647 = y2 at p2 ⊢
    refine ⟨_, mul_l (big_no (by omega) (by omega)), ?_⟩
    walk_at "go"
    refine ⟨_, if_pos (by omega), ?_⟩
    walk_at "go"
    exact ⟨_, _, rfl, rfl, ⟨_, _, _, _, _, rfl, ln, z, i0, i1, l0, l1, m0, m1, by omega⟩, Int.emod_nonneg _ (by omega), Int.emod_lt_of_pos _ (by omega)⟩
theorem pick_ok {b : PyData} (hb : Bag b) {w : Int} (hw : 1 ≤ w) (hw2 : w ≤ 1000000) : WFo (f_law_pick [b, .int w]) (PickR w) := by
  obtain ⟨ns, i, l, m, n, e, ln, z, i0, i1, l0, l1, m0, m1, n0⟩ := hb
  unfold f_law_pick
  refine wf_run ?_
  dsimp only [m_law_pick, m_law_pick_0, m_law_pick_0t, m_law_pick_0t_0, m_law_pick_0t_1, m_law_pick_0t_2, m_law_pick_0t_3]
  have fin : ∀ (i' l' m' : Int) (x2 x3 x4 : Option Cell), 0 ≤ i' → i' ≤ ns.length → 0 ≤ l' → l' < 10 ^ 40 → 0 ≤ m' → m' < 2147483648 →
      WS (mSeq m_law_pick_1 (mSeq m_law_pick_2 (mSeq m_law_pick_3 (mSeq m_law_pick_4 (mSeq m_law_pick_5 m_law_pick_6))))) [some (.io (.list [.list (ns.map .int), .int i', .int l', .int m', .int n])), some (.sh (.int w)), x2, x3, x4] (fnE false [.io, .sh] (PickR w) fun _ _ _ => False) :=
    fun i' l' m' x2 x3 x4 h1 h2 h3 h4 h5 h6 => pick_rest ⟨rfl, ln, z, h1, h2, h3, h4, h5, h6, n0⟩ hw hw2
  generalize mSeq m_law_pick_1 (mSeq m_law_pick_2 (mSeq m_law_pick_3 (mSeq m_law_pick_4 (mSeq m_law_pick_5 m_law_pick_6)))) = rest at fin ⊢
  subst e
  walk_at "go"
  refine ifB (fun h => ?_) (fun h => ?_)
  · walk_at "go"
    refine ifB (fun h2 => ?_) (fun h2 => ?_)
    · have lt : i < ns.length := by have := of_decide_eq_true h2; rw [List.length_map] at this; exact this
      obtain ⟨x, ex, mx⟩ := atI_mem (xs := ns.map PyData.int) i0 (by rw [List.length_map]; exact lt)
      obtain ⟨cell, mc, rfl⟩ := List.mem_map.mp mx
      obtain ⟨z0, z1⟩ := z _ mc
      walk_at "go"
      refine ⟨_, ex, ?_⟩
      walk_at "go"
      refine ⟨_, _, _, rfl, rfl, rfl, ?_⟩
      walk_at "go"
      refine ⟨_, _, _, rfl, rfl, rfl, ?_⟩
      walk_at "go"
      have p0 : 0 ≤ (m * 69621 + cell * 40692 + 41) % 2147483629 ∧ (m * 69621 + cell * 40692 + 41) % 2147483629 < 2147483629 := ⟨Int.emod_nonneg _ (by decide), Int.emod_lt_of_pos _ (by decide)⟩
      refine ifB (fun h3 => ?_) (fun h3 => ?_)
      · walk_at "go"
        refine ⟨_, _, _, rfl, rfl, rfl, ?_⟩
        walk_at "go"
        exact fin _ _ _ _ _ _ (by omega) (by omega) z0 z1 p0.1 (by omega)
      · walk_at "go"
        exact fin _ _ _ _ _ _ (by omega) (by omega) l0 l1 p0.1 (by omega)
    · walk_at "go"
      exact fin _ _ _ _ _ _ i0 i1 l0 l1 m0 m1
  · walk_at "go"
    exact fin _ _ _ _ _ _ i0 i1 l0 l1 m0 m1

set_option Elab.async false
set_option linter.all false
set_option maxRecDepth 100000
set_option maxHeartbeats 4000000
open PySem PySem.Spec PyProof.Rows L2 FR MV
theorem bag_ok {ns : List Int} (hl : ns.length ≤ 63) : WFo (f_law_bag [.list (ns.map .int)]) fun r outs => outs = [] ∧ Bag r := by
  unfold f_law_bag
  refine wf_run ?_
  dsimp only [m_law_bag, m_law_bag_0, m_law_bag_1]
  walk_at "go"
  rw [show (63 : Int) = ((63 : Nat) : Int) from rfl, show cutL (ns.map PyData.int) none (some ((63 : Nat) : Int)) = ns.map PyData.int by
    unfold cutL
    rw [HT.sIx_nat, sIx_none]
    simp
    rw [← List.length_map (f := PyData.int)]
    have e : min 63 (List.map PyData.int ns).length = (List.map PyData.int ns).length := by rw [List.length_map]; omega
    rw [e, List.take_length]]
  refine wl_lc (fun r acc s => ∃ k, r = (ns.drop k).map .int ∧ acc = ((ns.take k).map (· % 10 ^ 40)).map .int ∧ k ≤ ns.length ∧ s = [some (.sc (.list (ns.map .int))), none, none]) ⟨0, by simp, by simp, by omega, rfl⟩ ?_ ?_
  · intro d r acc s ⟨k, e1, e2, hk, e3⟩
    subst e3
    have hk2 : k < ns.length := by
      rcases Nat.lt_or_ge k ns.length with h | h
      · exact h
      · rw [List.drop_eq_nil_of_le h] at e1; cases e1
    rw [List.drop_eq_getElem_cons hk2] at e1
    injection e1 with e1 e4
    subst e1 e4 e2
    walk_at "go"
    refine ⟨by rw [List.length_map, List.length_map, List.length_take]; unfold LIM; omega, k + 1, rfl, ?_, hk2, rfl⟩
    rw [List.take_succ_eq_append_getElem hk2, List.map_append, List.map_append]
    rfl
  · intro acc s ⟨k, e1, e2, hk, e3⟩
    have hk2 : ns.length ≤ k := by
      rcases Nat.lt_or_ge k ns.length with h | h
      · rw [List.drop_eq_getElem_cons h] at e1; cases e1
      · exact h
    rw [List.take_of_length_le hk2] at e2
    subst e2 e3
    walk_at "go"
    refine ⟨_, _, _, _, _, rfl, by rw [List.length_map]; exact hl, fun x m => ?_, Int.le_refl 0, by omega, Int.le_refl 0, by decide, ?_, ?_, Int.le_refl 0⟩
    · obtain ⟨y, _, rfl⟩ := List.mem_map.mp m
      exact ⟨Int.emod_nonneg _ (by decide), Int.emod_lt_of_pos _ (by decide)⟩
    · omega
    · simp only [List.length_map]; omega
structure SomeR (xs : List PyData) (r : PyData) (outs : List PyData) : Prop where
  ex : ∃ b', r ∈ xs ∧ outs = [b'] ∧ Bag b'
theorem some_ok {b : PyData} (hb : Bag b) {xs : List PyData} (h0 : 0 < xs.length) (h1 : xs.length ≤ 1000000) : WFo (f_law_some [b, .list xs]) (SomeR xs) := by
  unfold f_law_some
  refine wf_run ?_
  dsimp only [m_law_some, m_law_some_0]
  walk_at "go"
  refine (pick_ok hb (by omega) (by omega)).use fun r outs h => ?_
  obtain ⟨d, b', rfl, rfl, hb', g0, g1⟩ := h
  obtain ⟨x, e, m⟩ := atI_mem g0 g1
  exact ⟨x, e, ⟨b', m, rfl, hb'⟩⟩
structure SomeT (z : Str) (r : PyData) (outs : List PyData) : Prop where
  ex : ∃ c b', c ∈ z.cps.toList ∧ r = .str ⟨#[c]⟩ ∧ outs = [b'] ∧ Bag b'
theorem someT_ok {b : PyData} (hb : Bag b) {z : Str} (h0 : 0 < z.length) (h1 : z.length ≤ 1000000) : WFo (f_law_some [b, .str z]) (SomeT z) := by
  unfold f_law_some
  refine wf_run ?_
  dsimp only [m_law_some, m_law_some_0]
  walk_at "go"
  refine ⟨_, if_pos (by unfold LIM; omega), ?_⟩
  walk_at "go"
  refine (pick_ok hb (by omega) (by omega)).use fun r outs h => ?_
  obtain ⟨d, b', rfl, rfl, hb', g0, g1⟩ := h
  obtain ⟨x, e, m⟩ := atI_mem (xs := z.cps.toList) g0 (by simpa [Str.length] using g1)
  refine ⟨.str ⟨#[x]⟩, ?_, ⟨x, b', m, rfl, rfl, hb'⟩⟩
  show (if z.length ≤ LIM then (atI z.cps.toList d).map fun c => PyData.str ⟨#[c]⟩ else none) = _
  rw [if_pos (by unfold LIM; omega), e]
  rfl

set_option Elab.async false
set_option linter.all false
set_option maxRecDepth 100000
set_option maxHeartbeats 4000000
open PySem PySem.Spec PyProof.Rows L2 FR MV
/-! ### the program's judging -/
def abcd : List Nat := ("abcd" : Str).cps.toList
def strOk : PyData → Bool
  | .str z => decide (z.length ≤ LIM)
  | _ => true
def areB (most : Int) : PyData → Bool
  | .str z => decide ((z.length : Int) ≤ most) && z.cps.toList.all fun c => decide (c ∈ ("abcd" : Str).cps.toList)
  | _ => false
theorem are_ok {x : PyData} (hx : strOk x = true) {most : Int} (hm : most ≤ 1000000) : Ans (f_are_signs [x, .int most]) (.bool (areB most x)) := by
  unfold f_are_signs
  refine ⟨wf_run ?_⟩
  dsimp only [m_are_signs, m_are_signs_0]
  walk_at "go"
  cases x with
  | str z =>
    have hz : z.length ≤ LIM := of_decide_eq_true hx
    walk_at "go"
    refine ⟨_, if_pos hz, ?_⟩
    walk_at "go"
    refine ifB (fun h => ?_) (fun h => ?_)
    · have h : (z.length : Int) ≤ most := of_decide_eq_true h
      walk_at "go"
      refine wl_map (cs := z.cps.toList) (fun c => .bool (decide (c ∈ ("abcd" : Str).cps.toList))) (fun c mc => ?_) (by rw [← str_len]; exact hz) ?_
      · walk_at "go"
      · walk_at "go"
        refine ⟨_, allD_of _ _, ?_⟩
        walk_at "go"
        simp [areB, h]
    · walk_at "go"
      have h : ¬ (z.length : Int) ≤ most := of_decide_eq_false h
      simp [areB, h]
  | _ => walk_at "go"
def sortB : List Nat → Bool
  | a :: b :: r => decide (a < b) && sortB (b :: r)
  | _ => true
def lotB : PyData → Bool
  | .str z => areB 4 (.str z) && !decide (z.length = 0) && sortB z.cps.toList
  | _ => false
theorem ltS_ch {a b : Nat} : ltS (chS a) (chS b) = decide (a < b) := by
  unfold ltS chS
  by_cases h : a < b
  · rw [decide_eq_true h, decide_eq_true]
    exact List.Lex.rel h
  · rw [decide_eq_false h, decide_eq_false]
    intro q
    cases q with
    | rel h' => exact h h'
    | cons h' => cases h'
theorem sort_all : ∀ (cs : List Nat), (List.range (cs.length - 1)).all (fun i => decide (cs.getD i 0 < cs.getD (i + 1) 0)) = sortB cs
  | [] => rfl
  | [a] => rfl
  | a :: b :: r => by
    show (List.range (r.length + 1)).all _ = _
    rw [List.range_succ_eq_map, List.all_cons, List.all_map]
    have := sort_all (b :: r)
    show _ = (decide (a < b) && sortB (b :: r))
    rw [← this]
    rfl
theorem lot_ok {x : PyData} (hx : strOk x = true) : Ans (f_is_lot [x]) (.bool (lotB x)) := by
  unfold f_is_lot
  refine ⟨wf_run ?_⟩
  dsimp only [m_is_lot, m_is_lot_0, m_is_lot_1]
  walk_at "go"
  refine (are_ok hx (by decide)).use ?_
  walk_at "go"
  cases x with
  | str z =>
    have hz : z.length ≤ LIM := of_decide_eq_true hx
    refine ifB (fun h => ?_) (fun h => ?_)
    · walk_at "go"
      have h : areB 4 (.str z) = false := by simpa using (show (!areB 4 (.str z)) = true from h)
      simp [lotB, h]
    · have h : areB 4 (.str z) = true := by simpa using (show (!areB 4 (.str z)) = false from h)
      walk_at "go"
      refine ⟨_, if_pos hz, ?_⟩
      walk_at "go"
      refine ifB (fun h2 => ?_) (fun h2 => ?_)
      · walk_at "go"
        have h2 : z.length = 0 := by have := of_decide_eq_true h2; omega
        simp [lotB, h, h2]
      · walk_at "go"
        refine ⟨_, if_pos hz, ?_⟩
        walk_at "go"
        have h2 : ¬ z.length = 0 := by have := of_decide_eq_false h2; omega
        have hl : z.length ≤ 4 := by
          simp [areB] at h
          omega
        refine ⟨_, _, rfl, rfl, sm_in (by decide) (by decide), sm_nat hz, ?_⟩
        walk_at "go"
        refine wl_map (cs := List.range ((z.length : Int) - 1).toNat) (fun i => .bool (decide (z.cps.toList.getD i 0 < z.cps.toList.getD (i + 1) 0))) (fun i mi => ?_) ?_ ?_
        · have mi := List.mem_range.mp mi
          walk_at "go"
          refine ⟨_, ixS hz (by omega) (by omega), ?_⟩
          walk_at "go"
          refine ⟨_, ixS hz (by omega) (by omega), ?_⟩
          walk_at "go"
          refine ⟨?_, rfl⟩
          rw [ltS_ch]
          have e1 : ((1 : Int) + (i : Nat) - 1).toNat = i := by omega
          have e2 : ((1 : Int) + (i : Nat)).toNat = i + 1 := by omega
          rw [e1, e2]
        · rw [List.length_range]; unfold LIM at *; omega
        · walk_at "go"
          refine ⟨_, allD_of _ _, ?_⟩
          walk_at "go"
          refine ⟨?_, rfl⟩
          have e : ((z.length : Int) - 1).toNat = z.cps.toList.length - 1 := by rw [← str_len]; omega
          rw [e, sort_all]
          simp [lotB, h, h2]
  | _ => walk_at "go"
def markB : PyData → Bool
  | .str z => decide (1 ≤ z.length) && (decide (z.length ≤ 6) && z.cps.toList.all fun c => decide (c ∈ ("abcdefghijklmnopqrstuvwxyz" : Str).cps.toList))
  | _ => false
theorem mark_ok {x : PyData} (hx : strOk x = true) : Ans (f_is_mark [x]) (.bool (markB x)) := by
  unfold f_is_mark
  refine ⟨wf_run ?_⟩
  dsimp only [m_is_mark, m_is_mark_0]
  walk_at "go"
  cases x with
  | str z =>
    have hz : z.length ≤ LIM := of_decide_eq_true hx
    walk_at "go"
    refine ⟨_, if_pos hz, ?_⟩
    walk_at "go"
    refine ifB (fun h => ?_) (fun h => ?_)
    · have h : (1 : Int) ≤ z.length := of_decide_eq_true h
      walk_at "go"
      refine ifB (fun h2 => ?_) (fun h2 => ?_)
      · have h2 : (z.length : Int) ≤ 6 := of_decide_eq_true h2
        walk_at "go"
        refine wl_map (cs := z.cps.toList) (fun c => .bool (decide (c ∈ ("abcdefghijklmnopqrstuvwxyz" : Str).cps.toList))) (fun c mc => ?_) (by rw [← str_len]; exact hz) ?_
        · walk_at "go"
        · walk_at "go"
          refine ⟨_, allD_of _ _, ?_⟩
          walk_at "go"
          have h3 : 1 ≤ z.length := by omega
          have h4 : z.length ≤ 6 := by omega
          simp [markB, h3, h4]
      · walk_at "go"
        have h2 : ¬ (z.length : Int) ≤ 6 := of_decide_eq_false h2
        have h4 : ¬ z.length ≤ 6 := by omega
        simp [markB, h4]
    · walk_at "go"
      have h : ¬ (1 : Int) ≤ z.length := of_decide_eq_false h
      have h3 : ¬ 1 ≤ z.length := by omega
      simp [markB, h3]
  | _ => walk_at "go"

set_option Elab.async false
set_option linter.all false
set_option maxRecDepth 100000
set_option maxHeartbeats 4000000
open PySem PySem.Spec PyProof.Rows L2 FR MV
theorem forms_cases (s : Str) : tabF tab_FORMS s = none ∨ s = "none" ∨ s = "empty" ∨ s = "sign" ∨ s = "then" ∨ s = "or" ∨ s = "many" ∨ s = "few" ∨ s = "mark" := by
  unfold tabF tab_FORMS
  simp only [List.find?_cons, List.find?_nil]
  have q : ∀ a : Str, (a == s) = true → s = a := fun a h => (eq_of_beq h).symm
  split
  · exact .inr (.inl (q _ ‹_›))
  split
  · exact .inr (.inr (.inl (q _ ‹_›)))
  split
  · exact .inr (.inr (.inr (.inl (q _ ‹_›))))
  split
  · exact .inr (.inr (.inr (.inr (.inl (q _ ‹_›)))))
  split
  · exact .inr (.inr (.inr (.inr (.inr (.inl (q _ ‹_›))))))
  split
  · exact .inr (.inr (.inr (.inr (.inr (.inr (.inl (q _ ‹_›)))))))
  split
  · exact .inr (.inr (.inr (.inr (.inr (.inr (.inr (.inl (q _ ‹_›))))))))
  split
  · exact .inr (.inr (.inr (.inr (.inr (.inr (.inr (.inr (q _ ‹_›))))))))
  exact .inl rfl
mutual
def okD : PyData → Bool
  | .str z => decide (z.length ≤ LIM)
  | .tuple xs => okL xs
  | _ => true
def okL : List PyData → Bool
  | [] => true
  | x :: r => okD x && okL r
end
theorem okL_mem : ∀ {xs : List PyData}, okL xs = true → ∀ x ∈ xs, okD x = true
  | y :: r, h, x, m => by
    unfold okL at h
    obtain ⟨h1, h2⟩ := Bool.and_eq_true_iff.mp h
    rcases List.mem_cons.mp m with rfl | m
    · exact h1
    · exact okL_mem h2 x m
theorem okD_str {x : PyData} (h : okD x = true) : strOk x = true := by
  cases x with
  | str z => unfold okD at h; exact h
  | _ => rfl
def formB : PyData → Bool
  | .tuple (.str s :: r) =>
    if s = "none" then r.isEmpty else if s = "empty" then r.isEmpty else
    if s = "sign" then (match r with | [z] => lotB z | _ => false) else
    if s = "then" then r.length == 2 else if s = "or" then r.length == 2 else
    if s = "many" then r.length == 1 else if s = "few" then r.length == 1 else
    if s = "mark" then (match r with | [z, _] => markB z | _ => false) else false
  | _ => false
def partsB : PyData → List PyData
  | .tuple (.str s :: r) => if s = "then" then r else if s = "or" then r else if s = "many" then r else if s = "few" then r else if s = "mark" then r.drop 1 else []
  | _ => []
section
variable {r : List PyData}
theorem form_none : formB (.tuple (.str "none" :: r)) = r.isEmpty := by simp only [formB]; rfl
theorem form_empty : formB (.tuple (.str "empty" :: r)) = r.isEmpty := by simp only [formB]; rfl
theorem form_sign : formB (.tuple (.str "sign" :: r)) = (match r with | [z] => lotB z | _ => false) := by simp only [formB]; rfl
theorem form_then : formB (.tuple (.str "then" :: r)) = (r.length == 2) := by simp only [formB]; rfl
theorem form_or : formB (.tuple (.str "or" :: r)) = (r.length == 2) := by simp only [formB]; rfl
theorem form_many : formB (.tuple (.str "many" :: r)) = (r.length == 1) := by simp only [formB]; rfl
theorem form_few : formB (.tuple (.str "few" :: r)) = (r.length == 1) := by simp only [formB]; rfl
theorem form_mark : formB (.tuple (.str "mark" :: r)) = (match r with | [z, _] => markB z | _ => false) := by simp only [formB]; rfl
theorem parts_then : partsB (.tuple (.str "then" :: r)) = r := by simp only [partsB]; rfl
theorem parts_or : partsB (.tuple (.str "or" :: r)) = r := by simp only [partsB]; rfl
theorem parts_many : partsB (.tuple (.str "many" :: r)) = r := by simp only [partsB]; rfl
theorem parts_few : partsB (.tuple (.str "few" :: r)) = r := by simp only [partsB]; rfl
theorem parts_mark : partsB (.tuple (.str "mark" :: r)) = r.drop 1 := by simp only [partsB]; rfl
theorem parts_none : partsB (.tuple (.str "none" :: r)) = [] := by simp only [partsB]; rfl
theorem parts_empty : partsB (.tuple (.str "empty" :: r)) = [] := by simp only [partsB]; rfl
theorem parts_sign : partsB (.tuple (.str "sign" :: r)) = [] := by simp only [partsB]; rfl
theorem form_other {s : Str} (h : tabF tab_FORMS s = none) : formB (.tuple (.str s :: r)) = false := by
  have n : ∀ a : Str, (tabF tab_FORMS a).isSome = true → ¬ s = a := fun a q e => by rw [← e, h] at q; cases q
  simp only [formB]
  rw [if_neg (n _ (by decide +kernel)), if_neg (n _ (by decide +kernel)), if_neg (n _ (by decide +kernel)), if_neg (n _ (by decide +kernel)), if_neg (n _ (by decide +kernel)), if_neg (n _ (by decide +kernel)), if_neg (n _ (by decide +kernel)), if_neg (n _ (by decide +kernel))]
end
theorem len_ne {r : List PyData} {n k : Nat} (hz : n = k) (h : (!decide (((r.length + 1 : Nat) : Int) = 1 + (n : Int))) = true) : r.length ≠ k := by
  have h := of_decide_eq_false (by simpa using h : decide (((r.length + 1 : Nat) : Int) = 1 + (n : Int)) = false)
  omega
theorem len_eq {r : List PyData} {n k : Nat} (hz : n = k) (h : (!decide (((r.length + 1 : Nat) : Int) = 1 + (n : Int))) = false) : r.length = k := by
  have h := of_decide_eq_true (by simpa using h : decide (((r.length + 1 : Nat) : Int) = 1 + (n : Int)) = true)
  omega
theorem one_of {r : List PyData} (h : r.length = 1) : ∃ x, r = [x] := by
  match r, h with
  | [x], _ => exact ⟨x, rfl⟩
theorem two_of {r : List PyData} (h : r.length = 2) : ∃ x y, r = [x, y] := by
  match r, h with
  | [x, y], _ => exact ⟨x, y, rfl⟩
theorem form_ok {x : PyData} (hx : okD x = true) : Ans (f_has_form [x]) (.bool (formB x)) := by
  unfold f_has_form
  refine ⟨wf_run ?_⟩
  dsimp only [m_has_form, m_has_form_0, m_has_form_1, m_has_form_2, m_has_form_2t_0, m_has_form_3]
  walk_at "go"
  cases x with
  | tuple xs =>
    walk_at "go"
    cases xs with
    | nil => walk_at "go"
    | cons x r =>
      walk_at "go"
      unfold okD at hx
      cases x with
      | str s =>
        walk_at "go"
        rcases forms_cases s with h | h | h | h | h | h | h | h | h
        · rw [h]
          walk_at "go"
          rw [form_other h]
          exact ⟨rfl, rfl⟩
        all_goals (subst h; walk_at "go"; refine ifB (fun h => ?_) (fun h => ?_))
        · walk_at "go"
          have h := len_ne (k := 0) rfl h
          rw [form_none, List.isEmpty_eq_false_iff.mpr (by simpa using h)]
          exact ⟨rfl, rfl⟩
        · walk_at "go"
          rw [form_none, List.length_eq_zero_iff.mp (len_eq (k := 0) rfl h)]
          exact ⟨rfl, rfl⟩
        · walk_at "go"
          have h := len_ne (k := 0) rfl h
          rw [form_empty, List.isEmpty_eq_false_iff.mpr (by simpa using h)]
          exact ⟨rfl, rfl⟩
        · walk_at "go"
          rw [form_empty, List.length_eq_zero_iff.mp (len_eq (k := 0) rfl h)]
          exact ⟨rfl, rfl⟩
        · walk_at "go"
          have h := len_ne (k := 1) rfl h
          rw [form_sign]
          match r, h with
          | [], _ => exact ⟨rfl, rfl⟩
          | _ :: _ :: _, _ => exact ⟨rfl, rfl⟩
        · obtain ⟨z, rfl⟩ := one_of (len_eq (k := 1) rfl h)
          walk_at "go"
          refine (lot_ok (okD_str (okL_mem hx z (by simp)))).use ?_
          rw [form_sign]
          walk_at "go"
        · walk_at "go"
          have h := len_ne (k := 2) rfl h
          rw [form_then, beq_false_of_ne h]
          exact ⟨rfl, rfl⟩
        · walk_at "go"
          rw [form_then, len_eq (k := 2) rfl h]
          exact ⟨rfl, rfl⟩
        · walk_at "go"
          have h := len_ne (k := 2) rfl h
          rw [form_or, beq_false_of_ne h]
          exact ⟨rfl, rfl⟩
        · walk_at "go"
          rw [form_or, len_eq (k := 2) rfl h]
          exact ⟨rfl, rfl⟩
        · walk_at "go"
          have h := len_ne (k := 1) rfl h
          rw [form_many, beq_false_of_ne h]
          exact ⟨rfl, rfl⟩
        · walk_at "go"
          rw [form_many, len_eq (k := 1) rfl h]
          exact ⟨rfl, rfl⟩
        · walk_at "go"
          have h := len_ne (k := 1) rfl h
          rw [form_few, beq_false_of_ne h]
          exact ⟨rfl, rfl⟩
        · walk_at "go"
          rw [form_few, len_eq (k := 1) rfl h]
          exact ⟨rfl, rfl⟩
        · walk_at "go"
          have h := len_ne (k := 2) rfl h
          rw [form_mark]
          match r, h with
          | [], _ => exact ⟨rfl, rfl⟩
          | [_], _ => exact ⟨rfl, rfl⟩
          | _ :: _ :: _ :: _, _ => exact ⟨rfl, rfl⟩
        · obtain ⟨z, y, rfl⟩ := two_of (len_eq (k := 2) rfl h)
          walk_at "go"
          refine (mark_ok (okD_str (okL_mem hx z (by simp)))).use ?_
          rw [form_mark]
          walk_at "go"
      | _ => walk_at "go"
  | _ => walk_at "go"

set_option Elab.async false
set_option linter.all false
set_option maxRecDepth 100000
set_option maxHeartbeats 4000000
open PySem PySem.Spec PyProof.Rows L2 FR MV
theorem form_ex {x : PyData} (h : formB x = true) : x = .tuple [.str "none"] ∨ x = .tuple [.str "empty"] ∨ (∃ z, x = .tuple [.str "sign", z] ∧ lotB z = true) ∨ (∃ a b, x = .tuple [.str "then", a, b]) ∨ (∃ a b, x = .tuple [.str "or", a, b]) ∨ (∃ a, x = .tuple [.str "many", a]) ∨ (∃ a, x = .tuple [.str "few", a]) ∨ ∃ z a, x = .tuple [.str "mark", z, a] ∧ markB z = true := by
  cases x with
  | tuple xs =>
    cases xs with
    | nil => cases h
    | cons x r =>
      cases x with
      | str s =>
        rcases forms_cases s with e | e | e | e | e | e | e | e | e
        · rw [form_other e] at h; cases h
        all_goals subst e
        · rw [form_none] at h
          rw [List.isEmpty_iff.mp h]
          exact .inl rfl
        · rw [form_empty] at h
          rw [List.isEmpty_iff.mp h]
          exact .inr (.inl rfl)
        · rw [form_sign] at h
          match r, h with
          | [z], h => exact .inr (.inr (.inl ⟨z, rfl, h⟩))
        · rw [form_then] at h
          obtain ⟨a, b, rfl⟩ := two_of (eq_of_beq h)
          exact .inr (.inr (.inr (.inl ⟨a, b, rfl⟩)))
        · rw [form_or] at h
          obtain ⟨a, b, rfl⟩ := two_of (eq_of_beq h)
          exact .inr (.inr (.inr (.inr (.inl ⟨a, b, rfl⟩))))
        · rw [form_many] at h
          obtain ⟨a, rfl⟩ := one_of (eq_of_beq h)
          exact .inr (.inr (.inr (.inr (.inr (.inl ⟨a, rfl⟩)))))
        · rw [form_few] at h
          obtain ⟨a, rfl⟩ := one_of (eq_of_beq h)
          exact .inr (.inr (.inr (.inr (.inr (.inr (.inl ⟨a, rfl⟩))))))
        · rw [form_mark] at h
          match r, h with
          | [z, a], h => exact .inr (.inr (.inr (.inr (.inr (.inr (.inr ⟨z, a, rfl, h⟩))))))
      | _ => cases h
  | _ => cases h
theorem parts_ok {x : PyData} (h : formB x = true) : Ans (f_parts_of [x]) (.list (partsB x)) := by
  unfold f_parts_of
  refine ⟨wf_run ?_⟩
  dsimp only [m_parts_of, m_parts_of_0]
  rcases form_ex h with rfl | rfl | ⟨z, rfl, _⟩ | ⟨a, b, rfl⟩ | ⟨a, b, rfl⟩ | ⟨a, rfl⟩ | ⟨a, rfl⟩ | ⟨z, a, rfl, _⟩
  · rw [parts_none]; walk_at "go"; refine ⟨_, _, rfl, rfl, ?_⟩; walk_at "go"; refine ⟨_, _, rfl, ?_⟩; walk_at "go"
  · rw [parts_empty]; walk_at "go"; refine ⟨_, _, rfl, rfl, ?_⟩; walk_at "go"; refine ⟨_, _, rfl, ?_⟩; walk_at "go"
  · rw [parts_sign]; walk_at "go"; refine ⟨_, _, rfl, rfl, ?_⟩; walk_at "go"; refine ⟨_, _, rfl, ?_⟩; walk_at "go"
  · rw [parts_then]; walk_at "go"; refine ⟨_, _, rfl, rfl, ?_⟩; walk_at "go"; refine ⟨_, _, rfl, ?_⟩; walk_at "go"
  · rw [parts_or]; walk_at "go"; refine ⟨_, _, rfl, rfl, ?_⟩; walk_at "go"; refine ⟨_, _, rfl, ?_⟩; walk_at "go"
  · rw [parts_many]; walk_at "go"; refine ⟨_, _, rfl, rfl, ?_⟩; walk_at "go"; refine ⟨_, _, rfl, ?_⟩; walk_at "go"
  · rw [parts_few]; walk_at "go"; refine ⟨_, _, rfl, rfl, ?_⟩; walk_at "go"; refine ⟨_, _, rfl, ?_⟩; walk_at "go"
  · rw [parts_mark]; walk_at "go"; refine ⟨_, _, rfl, rfl, ?_⟩; walk_at "go"; refine ⟨_, _, rfl, ?_⟩; walk_at "go"
theorem parts_len {x : PyData} (h : formB x = true) : (partsB x).length ≤ 2 := by
  rcases form_ex h with rfl | rfl | ⟨z, rfl, _⟩ | ⟨a, b, rfl⟩ | ⟨a, b, rfl⟩ | ⟨a, rfl⟩ | ⟨a, rfl⟩ | ⟨z, a, rfl, _⟩
  · rw [parts_none]; decide
  · rw [parts_empty]; decide
  · rw [parts_sign]; decide
  · rw [parts_then]; exact Nat.le_refl 2
  · rw [parts_or]; exact Nat.le_refl 2
  · rw [parts_many]; exact Nat.le_succ 1
  · rw [parts_few]; exact Nat.le_succ 1
  · rw [parts_mark]; exact Nat.le_succ 1
theorem parts_okD {x : PyData} (h : formB x = true) (ho : okD x = true) : ∀ y ∈ partsB x, okD y = true := by
  intro y m
  rcases form_ex h with rfl | rfl | ⟨z, rfl, _⟩ | ⟨a, b, rfl⟩ | ⟨a, b, rfl⟩ | ⟨a, rfl⟩ | ⟨a, rfl⟩ | ⟨z, a, rfl, _⟩ <;> (unfold okD at ho; have q := okL_mem ho)
  · rw [parts_none] at m; cases m
  · rw [parts_empty] at m; cases m
  · rw [parts_sign] at m; cases m
  · rw [parts_then] at m; exact q y (.tail _ m)
  · rw [parts_or] at m; exact q y (.tail _ m)
  · rw [parts_many] at m; exact q y (.tail _ m)
  · rw [parts_few] at m; exact q y (.tail _ m)
  · rw [parts_mark] at m; exact q y (.tail _ (.tail _ m))
/-! ### how many nodes, k deep at most -/
def sumO : List (Option Nat) → Option Nat
  | [] => some 0
  | some n :: r => (sumO r).map (n + ·)
  | none :: _ => none
def patN : Nat → PyData → Option Nat
  | 0, _ => none
  | k + 1, x => if formB x = true then (sumO ((partsB x).map (patN k))).map (· + 1) else none
def stackO (st : List (PyData × Nat)) : Option Nat := sumO (st.map fun p => patN (16 - p.2) p.1)
def verdict (many : Nat) (st : List (PyData × Nat)) : Bool := match stackO st with
  | some n => decide (many + n ≤ 60)
  | none => false
theorem sumO_app : ∀ (a b : List (Option Nat)), sumO (a ++ b) = (sumO a).bind fun m => (sumO b).map (m + ·)
  | [], b => by cases h : sumO b <;> simp [sumO, h]
  | some n :: r, b => by
    simp only [List.cons_append, sumO, sumO_app r b]
    cases sumO r <;> cases sumO b <;> simp [Nat.add_assoc]
  | none :: r, b => rfl
theorem stackO_app (a b : List (PyData × Nat)) : stackO (a ++ b) = (stackO a).bind fun m => (stackO b).map (m + ·) := by
  unfold stackO
  rw [List.map_append, sumO_app]
theorem stackO_one (d : PyData) (k : Nat) : stackO [(d, k)] = patN (16 - k) d := by
  unfold stackO
  cases h : patN (16 - k) d <;> simp [sumO, h]
theorem verdict_big {many : Nat} {r : List (PyData × Nat)} {d : PyData} {k : Nat} (h : 60 < many + 1) : verdict many (r ++ [(d, k)]) = false := by
  unfold verdict
  rw [stackO_app, stackO_one]
  cases stackO r with
  | none => rfl
  | some m =>
    cases e : patN (16 - k) d with
    | none => rfl
    | some n =>
      have : 1 ≤ n := by
        cases e2 : 16 - k with
        | zero => rw [e2] at e; cases e
        | succ j =>
          rw [e2] at e
          unfold patN at e
          split at e
          · cases e3 : sumO ((partsB d).map (patN j)) with
            | none => rw [e3] at e; cases e
            | some x => rw [e3] at e; cases e; exact Nat.succ_le_succ (Nat.zero_le _)
          · cases e
      show decide (many + (m + n) ≤ 60) = false
      exact decide_eq_false (by omega)
theorem verdict_none {many : Nat} {r : List (PyData × Nat)} {d : PyData} {k : Nat} (h : patN (16 - k) d = none) : verdict many (r ++ [(d, k)]) = false := by
  unfold verdict
  rw [stackO_app, stackO_one, h]
  cases stackO r <;> rfl
theorem verdict_step {many : Nat} {r : List (PyData × Nat)} {d : PyData} {k : Nat} (hk : k ≤ 15) (h : formB d = true) : verdict many (r ++ [(d, k)]) = verdict (many + 1) (r ++ (partsB d).map fun p => (p, k + 1)) := by
  unfold verdict
  rw [stackO_app, stackO_app, stackO_one]
  have e : 16 - k = (15 - k) + 1 := by omega
  have e2 : stackO ((partsB d).map fun p => (p, k + 1)) = sumO ((partsB d).map (patN (15 - k))) := by
    unfold stackO
    rw [List.map_map]
    have : 16 - (k + 1) = 15 - k := by omega
    simp only [Function.comp_def, this]
  rw [e2, e]
  show (match (stackO r).bind fun m => (if formB d = true then (sumO ((partsB d).map (patN (15 - k)))).map (· + 1) else none).map (m + ·) with | some n => decide (many + n ≤ 60) | none => false) = _
  rw [if_pos h]
  cases stackO r with
  | none => rfl
  | some m =>
    cases sumO ((partsB d).map (patN (15 - k))) with
    | none => rfl
    | some n =>
      show decide (many + (m + (n + 1)) ≤ 60) = decide (many + 1 + (m + n) ≤ 60)
      have : many + (m + (n + 1)) = many + 1 + (m + n) := by omega
      rw [this]
def entD (p : PyData × Nat) : PyData := .tuple [p.1, .int p.2]
def isPatB (x : PyData) : Bool := verdict 0 [(x, 1)]
theorem isPat_ok {x : PyData} (hx : okD x = true) : Ans (f_is_pattern [x]) (.bool (isPatB x)) := by
  unfold f_is_pattern
  refine ⟨wf_run ?_⟩
  dsimp only [m_is_pattern, m_is_pattern_0, m_is_pattern_1, m_is_pattern_1l, m_is_pattern_1l_2, m_is_pattern_1l_3]
  walk_at "go"
  refine ws_while (fun n st => ∃ (many : Nat) (wt : List (PyData × Nat)) (c3 c4 : Option Cell), st = [some (.sh x), some (.sh (.int many)), some (.ow (.list (wt.map entD))), c3, c4, none] ∧ n = 61 - many ∧ many ≤ 60 ∧ wt.length ≤ 2 * many + 1 ∧ (∀ p ∈ wt, okD p.1 = true) ∧ isPatB x = verdict many wt) (n := 61) (by decide) ⟨0, [(x, 1)], none, none, rfl, rfl, by decide, Nat.le_refl 1, by simpa using hx, rfl⟩ ?_
  intro n st ⟨many, wt, c3, c4, e, en, hm, hl, ho, hv⟩
  subst e en
  walk_at "go"
  refine ifB (fun h => ?_) (fun h => ?_)
  · have hne : wt ≠ [] := by
      intro e
      subst e
      cases h
    obtain ⟨r, ⟨d, k⟩, rfl⟩ : ∃ r p, wt = r ++ [p] := last_ex hne
    walk_at "go"
    refine ⟨entD (d, k), by simp, ?_⟩
    rw [show (List.map entD (r ++ [(d, k)])).dropLast = r.map entD by simp]
    walk_at "go"
    have hd : okD d = true := ho (d, k) (by simp)
    have hlr : r.length ≤ 2 * many := by rw [List.length_append, List.length_singleton] at hl; omega
    refine ifB (fun h2 => ?_) (fun h2 => ?_)
    · walk_at "go"
      rw [hv, verdict_big (by have := of_decide_eq_true h2; omega)]
      exact ⟨rfl, rfl⟩
    · have h2 : ¬ (60 : Int) < (many : Int) + 1 := of_decide_eq_false h2
      walk_at "go"
      refine ifB (fun h3 => ?_) (fun h3 => ?_)
      · walk_at "go"
        have h3 : (15 : Int) < (k : Int) := of_decide_eq_true h3
        rw [hv, verdict_none (by rw [show 16 - k = 0 by omega]; rfl)]
        exact ⟨rfl, rfl⟩
      · have h3 : ¬ (15 : Int) < (k : Int) := of_decide_eq_false h3
        walk_at "go"
        refine (form_ok hd).use ?_
        walk_at "go"
        refine ifB (fun h4 => ?_) (fun h4 => ?_)
        · walk_at "go"
          have h4 : formB d = false := by simpa using h4
          rw [hv, verdict_none (by rw [show 16 - k = (15 - k) + 1 by omega]; unfold patN; rw [h4]; rfl)]
          exact ⟨rfl, rfl⟩
        · have h4 : formB d = true := by simpa using h4
          walk_at "go"
          refine (parts_ok h4).use ?_
          have pl := parts_len h4
          walk_at "go"
          refine wl_mapI (fun p => entD (p, k + 1)) (fun p mp => ?_) (by unfold LIM; omega) ?_
          · walk_at "go"
          · refine ⟨_, _, rfl, rfl, by rw [List.length_map, List.length_map]; unfold LIM; omega, ?_⟩
            walk_at "go"
            refine ⟨61 - (many + 1), by omega, many + 1, r ++ (partsB d).map (fun p => (p, k + 1)), _, _, by rw [List.map_append, List.map_map]; rfl, rfl, by omega, by rw [List.length_append, List.length_map]; omega, fun p m => ?_, ?_⟩
            · rcases List.mem_append.mp m with m | m
              · exact ho p (List.mem_append_left _ m)
              · obtain ⟨q, mq, rfl⟩ := List.mem_map.mp m
                exact parts_okD h4 hd q mq
            · rw [hv]
              exact verdict_step (by omega) h4
  · walk_at "go"
    have e : wt = [] := by
      cases wt with
      | nil => rfl
      | cons p r => exact absurd (of_decide_eq_false h) (by rw [List.map_cons, List.length_cons]; omega)
    subst e
    rw [hv]
    have e : verdict many [] = true := decide_eq_true hm
    rw [e]
    exact ⟨rfl, rfl⟩

set_option Elab.async false
set_option linter.all false
set_option maxRecDepth 100000
set_option maxHeartbeats 4000000
open PySem PySem.Spec PyProof.Rows L2 FR MV
/-! ### patterns, plainly -/
inductive Nd where
  | non | emp | sig (z : Str) | thn | orr | man | few | mrk (z : Str) | odd
namespace Nd
def items : Nd → List PyData
  | non => [.str "none"]
  | emp => [.str "empty"]
  | sig z => [.str "sign", .str z]
  | thn => [.str "then"]
  | orr => [.str "or"]
  | man => [.str "many"]
  | few => [.str "few"]
  | mrk z => [.str "mark", .str z]
  | odd => [.str "odd"]
def d (n : Nd) : PyData := .tuple n.items
def ar : Nd → Nat
  | thn | orr => 2
  | man | few | mrk _ => 1
  | _ => 0
/-- lots and marks are right; nothing odd -/
def ok : Nd → Bool
  | sig z => lotB (.str z)
  | mrk z => markB (.str z)
  | odd => false
  | _ => true
def isOdd : Nd → Bool
  | odd => true
  | _ => false
end Nd
inductive Pat where
  | non | emp | sig (z : Str) | thn (a b : Pat) | orr (a b : Pat) | man (a : Pat) | few (a : Pat) | mrk (z : Str) (a : Pat) | hol
namespace Pat
def pre : Pat → List Nd
  | non => [.non]
  | emp => [.emp]
  | sig z => [.sig z]
  | thn a b => .thn :: (a.pre ++ b.pre)
  | orr a b => .orr :: (a.pre ++ b.pre)
  | man a => .man :: a.pre
  | few a => .few :: a.pre
  | mrk z a => .mrk z :: a.pre
  | hol => [.odd]
def dep : Pat → Nat
  | thn a b | orr a b => max a.dep b.dep + 1
  | man a | few a | mrk _ a => a.dep + 1
  | _ => 1
def toD (h : PyData) : Pat → PyData
  | non => .tuple [.str "none"]
  | emp => .tuple [.str "empty"]
  | sig z => .tuple [.str "sign", .str z]
  | thn a b => .tuple [.str "then", a.toD h, b.toD h]
  | orr a b => .tuple [.str "or", a.toD h, b.toD h]
  | man a => .tuple [.str "many", a.toD h]
  | few a => .tuple [.str "few", a.toD h]
  | mrk z a => .tuple [.str "mark", .str z, a.toD h]
  | hol => h
def ok (p : Pat) : Bool := p.pre.all Nd.ok
def hole : Pat → Bool
  | thn a b | orr a b => a.hole || b.hole
  | man a | few a | mrk _ a => a.hole
  | hol => true
  | _ => false
theorem pre_pos : ∀ p : Pat, 1 ≤ p.pre.length := by
  intro p; cases p <;> simp [pre]
theorem dep_pos : ∀ p : Pat, 1 ≤ p.dep := by
  intro p; cases p <;> simp [dep]
theorem lot_mark_len {z : Str} (h : lotB (.str z) = true ∨ markB (.str z) = true) : z.length ≤ 6 := by
  rcases h with h | h
  · simp [lotB, areB] at h; omega
  · simp [markB] at h; omega
theorem patN_form {x : PyData} {k : Nat} (h : formB x = true) : patN (k + 1) x = (sumO ((partsB x).map (patN k))).map (· + 1) := by
  show (if formB x = true then (sumO ((partsB x).map (patN k))).map (· + 1) else none) = _
  rw [if_pos h]
theorem patN_bad {x : PyData} {k : Nat} (h : formB x = false) : patN k x = none := by
  cases k with
  | zero => rfl
  | succ k =>
    show (if formB x = true then (sumO ((partsB x).map (patN k))).map (· + 1) else none) = _
    rw [h]; rfl
section
variable {h : PyData} {k : Nat} {z : Str} {x y : PyData}
theorem patN_non : patN (k + 1) (.tuple [.str "none"]) = some 1 := by rw [patN_form (by rw [form_none]; rfl), parts_none]; rfl
theorem patN_emp : patN (k + 1) (.tuple [.str "empty"]) = some 1 := by rw [patN_form (by rw [form_empty]; rfl), parts_empty]; rfl
theorem patN_sig (h : lotB (.str z) = true) : patN (k + 1) (.tuple [.str "sign", .str z]) = some 1 := by rw [patN_form (by rw [form_sign]; exact h), parts_sign]; rfl
theorem patN_thn : patN (k + 1) (.tuple [.str "then", x, y]) = (sumO [patN k x, patN k y]).map (· + 1) := by rw [patN_form (by rw [form_then]; rfl), parts_then]; rfl
theorem patN_orr : patN (k + 1) (.tuple [.str "or", x, y]) = (sumO [patN k x, patN k y]).map (· + 1) := by rw [patN_form (by rw [form_or]; rfl), parts_or]; rfl
theorem patN_man : patN (k + 1) (.tuple [.str "many", x]) = (sumO [patN k x]).map (· + 1) := by rw [patN_form (by rw [form_many]; rfl), parts_many]; rfl
theorem patN_few : patN (k + 1) (.tuple [.str "few", x]) = (sumO [patN k x]).map (· + 1) := by rw [patN_form (by rw [form_few]; rfl), parts_few]; rfl
theorem patN_mrk (h : markB (.str z) = true) : patN (k + 1) (.tuple [.str "mark", .str z, x]) = (sumO [patN k x]).map (· + 1) := by rw [patN_form (by rw [form_mark]; exact h), parts_mark]; rfl
theorem sum2 {a b : Option Nat} : sumO [a, b] = a.bind fun m => b.map (m + ·) := by cases a <;> cases b <;> rfl
theorem sum1 {a : Option Nat} : sumO [a] = a := by cases a <;> rfl
theorem two_patN {da db sa sb : Nat} : ((if da ≤ k then some sa else none).bind fun m => (if db ≤ k then some sb else none).map (m + ·)).map (· + 1) = if max da db + 1 ≤ k + 1 then some (1 + (sa + sb)) else none := by
  by_cases h1 : da ≤ k
  · by_cases h2 : db ≤ k
    · rw [if_pos h1, if_pos h2, if_pos (show max da db + 1 ≤ k + 1 by omega)]; show some (sa + sb + 1) = _; rw [Nat.add_comm]
    · rw [if_pos h1, if_neg h2, if_neg (show ¬ max da db + 1 ≤ k + 1 by omega)]; rfl
  · rw [if_neg h1, if_neg (show ¬ max da db + 1 ≤ k + 1 by omega)]; rfl
theorem one_patN {da sa : Nat} : (if da ≤ k then some sa else none).map (· + 1) = if da + 1 ≤ k + 1 then some (1 + sa) else none := by
  by_cases h1 : da ≤ k
  · rw [if_pos h1, if_pos (show da + 1 ≤ k + 1 by omega)]; show some (sa + 1) = _; rw [Nat.add_comm]
  · rw [if_neg h1, if_neg (show ¬ da + 1 ≤ k + 1 by omega)]; rfl
end
theorem ok_cons {n : Nd} {l : List Nd} : (n :: l).all Nd.ok = (n.ok && l.all Nd.ok) := rfl
/-- the judging counts the nodes -/
theorem patN_ok {h : PyData} : ∀ (p : Pat) (k : Nat), p.ok = true → patN k (p.toD h) = if p.dep ≤ k then some p.pre.length else none := by
  intro p
  induction p with
  | non => intro k _; cases k with
    | zero => rfl
    | succ k => rw [show toD h non = .tuple [.str "none"] from rfl, patN_non]; rw [if_pos (by show 1 ≤ k + 1; omega)]; rfl
  | emp => intro k _; cases k with
    | zero => rfl
    | succ k => rw [show toD h emp = .tuple [.str "empty"] from rfl, patN_emp]; rw [if_pos (by show 1 ≤ k + 1; omega)]; rfl
  | sig z => intro k ho; cases k with
    | zero => rfl
    | succ k =>
      have hz : lotB (.str z) = true := by simpa [ok, pre, Nd.ok] using ho
      rw [show toD h (sig z) = .tuple [.str "sign", .str z] from rfl, patN_sig hz]; rw [if_pos (by show 1 ≤ k + 1; omega)]; rfl
  | thn a b iha ihb => intro k ho; cases k with
    | zero => rw [if_neg (by have := dep_pos (thn a b); omega)]; rfl
    | succ k =>
      have ho : a.ok = true ∧ b.ok = true := by simpa [ok, pre, Nd.ok] using ho
      rw [show toD h (thn a b) = .tuple [.str "then", a.toD h, b.toD h] from rfl, patN_thn, sum2, iha k ho.1, ihb k ho.2, two_patN]
      show _ = if max a.dep b.dep + 1 ≤ k + 1 then some (pre (thn a b)).length else none
      rw [show (pre (thn a b)).length = 1 + (a.pre.length + b.pre.length) by simp [pre]; omega]
  | orr a b iha ihb => intro k ho; cases k with
    | zero => rw [if_neg (by have := dep_pos (orr a b); omega)]; rfl
    | succ k =>
      have ho : a.ok = true ∧ b.ok = true := by simpa [ok, pre, Nd.ok] using ho
      rw [show toD h (orr a b) = .tuple [.str "or", a.toD h, b.toD h] from rfl, patN_orr, sum2, iha k ho.1, ihb k ho.2, two_patN]
      show _ = if max a.dep b.dep + 1 ≤ k + 1 then some (pre (orr a b)).length else none
      rw [show (pre (orr a b)).length = 1 + (a.pre.length + b.pre.length) by simp [pre]; omega]
  | man a iha => intro k ho; cases k with
    | zero => rw [if_neg (by have := dep_pos (man a); omega)]; rfl
    | succ k =>
      have ho : a.ok = true := by simpa [ok, pre, Nd.ok] using ho
      rw [show toD h (man a) = .tuple [.str "many", a.toD h] from rfl, patN_man, sum1, iha k ho, one_patN]
      show _ = if a.dep + 1 ≤ k + 1 then some (pre (man a)).length else none
      rw [show (pre (man a)).length = 1 + a.pre.length by simp [pre]; omega]
  | few a iha => intro k ho; cases k with
    | zero => rw [if_neg (by have := dep_pos (few a); omega)]; rfl
    | succ k =>
      have ho : a.ok = true := by simpa [ok, pre, Nd.ok] using ho
      rw [show toD h (few a) = .tuple [.str "few", a.toD h] from rfl, patN_few, sum1, iha k ho, one_patN]
      show _ = if a.dep + 1 ≤ k + 1 then some (pre (few a)).length else none
      rw [show (pre (few a)).length = 1 + a.pre.length by simp [pre]; omega]
  | mrk z a iha => intro k ho; cases k with
    | zero => rw [if_neg (by have := dep_pos (mrk z a); omega)]; rfl
    | succ k =>
      have ho : markB (.str z) = true ∧ a.ok = true := by simpa [ok, pre, Nd.ok] using ho
      rw [show toD h (mrk z a) = .tuple [.str "mark", .str z, a.toD h] from rfl, patN_mrk ho.1, sum1, iha k ho.2, one_patN]
      show _ = if a.dep + 1 ≤ k + 1 then some (pre (mrk z a)).length else none
      rw [show (pre (mrk z a)).length = 1 + a.pre.length by simp [pre]; omega]
  | hol => intro k ho; cases ho
/-- what holds something odd is no pattern -/
theorem patN_hole {h : PyData} (ho : ∀ k, patN k h = none) : ∀ (p : Pat) (k : Nat), p.hole = true → patN k (p.toD h) = none := by
  intro p
  induction p with
  | non => intro k q; cases q
  | emp => intro k q; cases q
  | sig z => intro k q; cases q
  | hol => intro k _; exact ho k
  | thn a b iha ihb => intro k q; cases k with
    | zero => rfl
    | succ k =>
      rw [show toD h (thn a b) = .tuple [.str "then", a.toD h, b.toD h] from rfl, patN_thn, sum2]
      rcases Bool.or_eq_true_iff.mp q with q | q
      · rw [iha k q]; rfl
      · rw [ihb k q]; cases patN k (a.toD h) <;> rfl
  | orr a b iha ihb => intro k q; cases k with
    | zero => rfl
    | succ k =>
      rw [show toD h (orr a b) = .tuple [.str "or", a.toD h, b.toD h] from rfl, patN_orr, sum2]
      rcases Bool.or_eq_true_iff.mp q with q | q
      · rw [iha k q]; rfl
      · rw [ihb k q]; cases patN k (a.toD h) <;> rfl
  | man a iha => intro k q; cases k with
    | zero => rfl
    | succ k => rw [show toD h (man a) = .tuple [.str "many", a.toD h] from rfl, patN_man, sum1, iha k q]; rfl
  | few a iha => intro k q; cases k with
    | zero => rfl
    | succ k => rw [show toD h (few a) = .tuple [.str "few", a.toD h] from rfl, patN_few, sum1, iha k q]; rfl
  | mrk z a iha => intro k q; cases k with
    | zero => rfl
    | succ k =>
      cases hz : markB (.str z) with
      | true => rw [show toD h (mrk z a) = .tuple [.str "mark", .str z, a.toD h] from rfl, patN_mrk hz, sum1, iha k q]; rfl
      | false => exact patN_bad (by show formB (.tuple [.str "mark", .str z, a.toD h]) = false; rw [form_mark]; exact hz)
/-- all but the hole is right -/
def okh (p : Pat) : Bool := p.pre.all fun n => n.ok || n.isOdd
theorem okD_toD {h : PyData} (hh : okD h = true) : ∀ p : Pat, p.okh = true → okD (p.toD h) = true := by
  have lz : ∀ z : Str, lotB (.str z) = true ∨ markB (.str z) = true → decide (z.length ≤ LIM) = true := fun z q => decide_eq_true (by have := lot_mark_len q; unfold LIM; omega)
  intro p
  induction p with
  | non => intro _; show okD (.tuple [.str "none"]) = true; decide +kernel
  | emp => intro _; show okD (.tuple [.str "empty"]) = true; decide +kernel
  | hol => intro _; exact hh
  | sig z =>
    intro q
    have q : lotB (.str z) = true := by simpa [okh, pre, Nd.ok, Nd.isOdd] using q
    show (okD (.str "sign") && (okD (.str z) && true)) = true
    rw [show okD (.str z) = true from lz z (.inl q)]
    decide +kernel
  | thn a b iha ihb =>
    intro q
    have q : a.okh = true ∧ b.okh = true := by simpa [okh, pre, Nd.ok, Nd.isOdd] using q
    show (okD (.str "then") && (okD (a.toD h) && (okD (b.toD h) && true))) = true
    rw [iha q.1, ihb q.2]; decide +kernel
  | orr a b iha ihb =>
    intro q
    have q : a.okh = true ∧ b.okh = true := by simpa [okh, pre, Nd.ok, Nd.isOdd] using q
    show (okD (.str "or") && (okD (a.toD h) && (okD (b.toD h) && true))) = true
    rw [iha q.1, ihb q.2]; decide +kernel
  | man a iha =>
    intro q
    have q : a.okh = true := by simpa [okh, pre, Nd.ok, Nd.isOdd] using q
    show (okD (.str "many") && (okD (a.toD h) && true)) = true
    rw [iha q]; decide +kernel
  | few a iha =>
    intro q
    have q : a.okh = true := by simpa [okh, pre, Nd.ok, Nd.isOdd] using q
    show (okD (.str "few") && (okD (a.toD h) && true)) = true
    rw [iha q]; decide +kernel
  | mrk z a iha =>
    intro q
    have q : markB (.str z) = true ∧ a.okh = true := by simpa [okh, pre, Nd.ok, Nd.isOdd] using q
    show (okD (.str "mark") && (okD (.str z) && (okD (a.toD h) && true))) = true
    rw [show okD (.str z) = true from lz z (.inr q.1), iha q.2]
    decide +kernel
theorem okh_of {p : Pat} (h : p.ok = true) : p.okh = true := by
  unfold okh
  exact List.all_eq_true.mpr fun n m => by rw [List.all_eq_true.mp h n m]; rfl
end Pat

set_option Elab.async false
set_option linter.all false
set_option maxRecDepth 100000
set_option maxHeartbeats 4000000
open PySem PySem.Spec PyProof.Rows L2 FR MV
/-! ### patterns made of their signs -/
theorem parts_nd (n : Nd) : Ans (f_law_parts [n.d]) (.int n.ar) := by
  unfold f_law_parts
  refine ⟨wf_run ?_⟩
  dsimp only [m_law_parts, m_law_parts_0]
  cases n <;> (dsimp only [Nd.d, Nd.items]; walk_at "go")
/-- one sign put over what lies on the pile -/
def stepP (n : Nd) (pile : List PyData) : List PyData := pile.take (pile.length - n.ar) ++ [.tuple (n.items ++ (pile.drop (pile.length - n.ar)).reverse)]
/-- signs, put one after another -/
def Run (h : PyData) (F : List PyData → Prop) : List Nd → List PyData → Prop
  | [], pile => F pile
  | n :: r, pile => n.ar ≤ pile.length ∧ Run h F r (if n.isOdd = true then pile ++ [h] else stepP n pile)
theorem step0 {n : Nd} {pile : List PyData} (h : n.ar = 0) : stepP n pile = pile ++ [n.d] := by
  unfold stepP Nd.d
  rw [h]; simp
theorem step1 {n : Nd} {pile : List PyData} {x : PyData} (h : n.ar = 1) : stepP n (pile ++ [x]) = pile ++ [.tuple (n.items ++ [x])] := by
  unfold stepP
  rw [h]; simp
theorem step2 {n : Nd} {pile : List PyData} {x y : PyData} (h : n.ar = 2) : stepP n (pile ++ [y, x]) = pile ++ [.tuple (n.items ++ [x, y])] := by
  unfold stepP
  rw [h]
  simp
theorem run_pat {h : PyData} {F : List PyData → Prop} : ∀ (p : Pat) (r : List Nd) (pile : List PyData), Run h F r (pile ++ [p.toD h]) → Run h F (p.pre.reverse ++ r) pile := by
  intro p
  induction p with
  | non => intro r pile q; exact ⟨Nat.zero_le _, by rw [if_neg (by decide), step0 rfl]; exact q⟩
  | emp => intro r pile q; exact ⟨Nat.zero_le _, by rw [if_neg (by decide), step0 rfl]; exact q⟩
  | sig z => intro r pile q; exact ⟨Nat.zero_le _, by rw [if_neg (fun e => by cases e), step0 rfl]; exact q⟩
  | hol => intro r pile q; exact ⟨Nat.zero_le _, by rw [if_pos (by rfl)]; exact q⟩
  | thn a b iha ihb =>
    intro r pile q
    rw [show ((Pat.thn a b).pre).reverse ++ r = b.pre.reverse ++ (a.pre.reverse ++ (Nd.thn :: r)) by simp [Pat.pre]]
    refine ihb _ _ (iha _ _ ⟨by simp [Nd.ar], ?_⟩)
    rw [if_neg (by decide), List.append_assoc, show [b.toD h] ++ [a.toD h] = [b.toD h, a.toD h] from rfl, step2 rfl]
    exact q
  | orr a b iha ihb =>
    intro r pile q
    rw [show ((Pat.orr a b).pre).reverse ++ r = b.pre.reverse ++ (a.pre.reverse ++ (Nd.orr :: r)) by simp [Pat.pre]]
    refine ihb _ _ (iha _ _ ⟨by simp [Nd.ar], ?_⟩)
    rw [if_neg (by decide), List.append_assoc, show [b.toD h] ++ [a.toD h] = [b.toD h, a.toD h] from rfl, step2 rfl]
    exact q
  | man a iha =>
    intro r pile q
    rw [show ((Pat.man a).pre).reverse ++ r = a.pre.reverse ++ (Nd.man :: r) by simp [Pat.pre]]
    exact iha _ _ ⟨by simp [Nd.ar], by rw [if_neg (by decide), step1 rfl]; exact q⟩
  | few a iha =>
    intro r pile q
    rw [show ((Pat.few a).pre).reverse ++ r = a.pre.reverse ++ (Nd.few :: r) by simp [Pat.pre]]
    exact iha _ _ ⟨by simp [Nd.ar], by rw [if_neg (by decide), step1 rfl]; exact q⟩
  | mrk z a iha =>
    intro r pile q
    rw [show ((Pat.mrk z a).pre).reverse ++ r = a.pre.reverse ++ (Nd.mrk z :: r) by simp [Pat.pre]]
    exact iha _ _ ⟨by simp [Nd.ar], by rw [if_neg (fun e => by cases e), step1 rfl]; exact q⟩
def encS (l : List Nd) : PyData := .list (l.map Nd.d)
theorem step_len {n : Nd} {pile : List PyData} : (stepP n pile).length ≤ pile.length + 1 := by
  unfold stepP
  rw [List.length_append, List.length_take, List.length_singleton]
  omega
theorem cut_lo {xs : List PyData} {k : Nat} (h : k ≤ xs.length) : cutL xs (some ((xs.length : Int) - (k : Int))) none = xs.drop (xs.length - k) := by
  rw [show (xs.length : Int) - (k : Int) = ((xs.length - k : Nat) : Int) by omega, cutL_from (Nat.sub_le _ _)]
theorem cut_hi {xs : List PyData} {k : Nat} (h : k ≤ xs.length) : cutL xs none (some ((xs.length : Int) - (k : Int))) = xs.take (xs.length - k) := by
  rw [show (xs.length : Int) - (k : Int) = ((xs.length - k : Nat) : Int) by omega, cutL_to (Nat.sub_le _ _)]
theorem items_len {n : Nd} : n.items.length ≤ 2 := by cases n <;> simp [Nd.items]
theorem ar_le {n : Nd} : n.ar ≤ 2 := by cases n <;> simp [Nd.ar]
theorem made_ok {p : Pat} (hn : ∀ n ∈ p.pre, n.isOdd = false) (hl : p.pre.length ≤ 1000) : Ans (f_law_made [encS p.pre]) (p.toD .none) := by
  unfold f_law_made
  refine ⟨wf_run ?_⟩
  dsimp only [m_law_made, m_law_made_1l, m_law_made_1l_0, m_law_made_1l_1, m_law_made_1l_2, encS]
  walk_at "go"
  refine wl_for (fun ds st => ∃ (ns : List Nd) (pile : List PyData) (c2 c3 c4 : Option Cell), ds = ns.map Nd.d ∧ st = [some (.sh (.list (p.pre.map Nd.d))), some (.sh (.list pile)), c2, c3, c4] ∧ (∀ n ∈ ns, n.isOdd = false) ∧ Run .none (fun pile => pile = [p.toD .none]) ns pile ∧ pile.length + ns.length ≤ 1000) ?_ ?_ ?_
  · refine ⟨p.pre.reverse, [], _, _, _, by rw [List.map_reverse], rfl, fun n m => hn n (List.mem_reverse.mp m), ?_, by simpa using hl⟩
    have := run_pat (h := .none) (F := fun pile => pile = [p.toD .none]) p [] [] rfl
    rwa [List.append_nil] at this
  · intro d r st ⟨ns, pile, c2, c3, c4, e1, e2, ho, hr, hlen⟩
    subst e2
    cases ns with
    | nil => cases e1
    | cons n ns =>
      rw [List.map_cons] at e1
      injection e1 with e1 e3
      subst e1 e3
      have no : n.isOdd = false := ho n (.head _)
      obtain ⟨ha, hr⟩ := hr
      rw [no] at hr
      have hr : Run .none (fun pile => pile = [p.toD .none]) ns (stepP n pile) := hr
      rw [List.length_cons] at hlen
      walk_at "go"
      refine (parts_nd n).use ?_
      walk_at "go"
      rw [cut_lo ha, cut_hi ha]
      have al := ar_le (n := n)
      have il := items_len (n := n)
      refine ⟨_, if_pos (by rw [List.length_reverse, List.length_drop]; unfold LIM; omega), ?_⟩
      walk_at "go"
      refine ⟨_, if_pos (by rw [List.length_take]; show _ + 1 ≤ LIM; unfold LIM; omega), ?_⟩
      walk_at "go"
      refine ⟨ns, stepP n pile, _, _, _, rfl, rfl, fun m mm => ho m (.tail _ mm), hr, ?_⟩
      have := step_len (n := n) (pile := pile)
      omega
  · intro st ⟨ns, pile, c2, c3, c4, e1, e2, ho, hr, hlen⟩
    cases ns with
    | cons => cases e1
    | nil =>
      have hr : pile = [p.toD .none] := hr
      subst e2 hr
      walk_at "go"

set_option Elab.async false
set_option linter.all false
set_option maxRecDepth 100000
set_option maxHeartbeats 4000000
open PySem PySem.Spec PyProof.Rows L2 FR MV
/-! ### depths -/
def depsP (k : Nat) : Pat → List Int
  | .thn a b | .orr a b => (k : Int) :: (depsP (k + 1) a ++ depsP (k + 1) b)
  | .man a | .few a | .mrk _ a => (k : Int) :: depsP (k + 1) a
  | _ => [(k : Int)]
theorem deps_len (p : Pat) : ∀ k, (depsP k p).length = p.pre.length := by
  induction p <;> intro k <;> simp_all [depsP, Pat.pre]
theorem deps_le (p : Pat) : ∀ k, 1 ≤ k → ∀ x ∈ depsP k p, x ≤ (k + p.dep - 1 : Nat) := by
  induction p with
  | thn a b iha ihb =>
    intro k hk x m
    rcases List.mem_cons.mp m with rfl | m
    · simp [Pat.dep]; omega
    · rcases List.mem_append.mp m with m | m
      · have := iha (k + 1) (by omega) x m; simp [Pat.dep]; omega
      · have := ihb (k + 1) (by omega) x m; simp [Pat.dep]; omega
  | orr a b iha ihb =>
    intro k hk x m
    rcases List.mem_cons.mp m with rfl | m
    · simp [Pat.dep]; omega
    · rcases List.mem_append.mp m with m | m
      · have := iha (k + 1) (by omega) x m; simp [Pat.dep]; omega
      · have := ihb (k + 1) (by omega) x m; simp [Pat.dep]; omega
  | man a iha =>
    intro k hk x m
    rcases List.mem_cons.mp m with rfl | m
    · simp [Pat.dep]; omega
    · have := iha (k + 1) (by omega) x m; simp [Pat.dep]; omega
  | few a iha =>
    intro k hk x m
    rcases List.mem_cons.mp m with rfl | m
    · simp [Pat.dep]; omega
    · have := iha (k + 1) (by omega) x m; simp [Pat.dep]; omega
  | mrk z a iha =>
    intro k hk x m
    rcases List.mem_cons.mp m with rfl | m
    · simp [Pat.dep]; omega
    · have := iha (k + 1) (by omega) x m; simp [Pat.dep]; omega
  | _ => intro k hk x m; simp [depsP] at m; subst m; simp [Pat.dep]
theorem deps_top (p : Pat) : ∀ k, 1 ≤ k → ((k + p.dep - 1 : Nat) : Int) ∈ depsP k p := by
  induction p with
  | thn a b iha ihb =>
    intro k hk
    have ha := iha (k + 1) (by omega)
    have hb := ihb (k + 1) (by omega)
    show _ ∈ (k : Int) :: (depsP (k + 1) a ++ depsP (k + 1) b)
    simp only [Pat.dep]
    by_cases h : a.dep ≤ b.dep
    · rw [Nat.max_eq_right h, show k + (b.dep + 1) - 1 = k + 1 + b.dep - 1 by omega]
      exact .tail _ (List.mem_append_right _ hb)
    · rw [Nat.max_eq_left (by omega), show k + (a.dep + 1) - 1 = k + 1 + a.dep - 1 by omega]
      exact .tail _ (List.mem_append_left _ ha)
  | orr a b iha ihb =>
    intro k hk
    have ha := iha (k + 1) (by omega)
    have hb := ihb (k + 1) (by omega)
    show _ ∈ (k : Int) :: (depsP (k + 1) a ++ depsP (k + 1) b)
    simp only [Pat.dep]
    by_cases h : a.dep ≤ b.dep
    · rw [Nat.max_eq_right h, show k + (b.dep + 1) - 1 = k + 1 + b.dep - 1 by omega]
      exact .tail _ (List.mem_append_right _ hb)
    · rw [Nat.max_eq_left (by omega), show k + (a.dep + 1) - 1 = k + 1 + a.dep - 1 by omega]
      exact .tail _ (List.mem_append_left _ ha)
  | man a iha =>
    intro k hk
    show _ ∈ (k : Int) :: depsP (k + 1) a
    simp only [Pat.dep]
    rw [show k + (a.dep + 1) - 1 = k + 1 + a.dep - 1 by omega]
    exact .tail _ (iha (k + 1) (by omega))
  | few a iha =>
    intro k hk
    show _ ∈ (k : Int) :: depsP (k + 1) a
    simp only [Pat.dep]
    rw [show k + (a.dep + 1) - 1 = k + 1 + a.dep - 1 by omega]
    exact .tail _ (iha (k + 1) (by omega))
  | mrk z a iha =>
    intro k hk
    show _ ∈ (k : Int) :: depsP (k + 1) a
    simp only [Pat.dep]
    rw [show k + (a.dep + 1) - 1 = k + 1 + a.dep - 1 by omega]
    exact .tail _ (iha (k + 1) (by omega))
  | _ => intro k hk; simp [depsP, Pat.dep]
/-- noughts at the end dropped -/
def trimR : List Int → List Int
  | [] => []
  | 0 :: r => trimR r
  | x :: r => x :: r
def trim (l : List Int) : List Int := (trimR l.reverse).reverse
theorem trim_zero {w : List Int} : trim (w ++ [0]) = trim w := by unfold trim; simp [trimR]
theorem trim_pos {w : List Int} {k : Int} (h : k ≠ 0) : trim (w ++ [k]) = w ++ [k] := by
  unfold trim
  rw [List.reverse_append, List.reverse_singleton, List.singleton_append]
  have : trimR (k :: w.reverse) = k :: w.reverse := by
    unfold trimR
    split
    · rename_i e; cases e
    · rename_i e; injection e with e1 e2; exact absurd e1 h
    · rename_i e; rw [e]
  rw [this]; simp
/-- one sign of the going for depths: the waiting, what is found -/
def dstep (n : Nd) (w : List Int) : List Int := match w.getLast? with
  | some k => trim (w.dropLast ++ [k - 1, (n.ar : Int)])
  | none => []
def DRun (F : List Int → List Int → Prop) : List Nd → List Int → List Int → Prop
  | [], w, f => F w f
  | n :: r, w, f => w ≠ [] ∧ DRun F r (dstep n w) (f ++ [(w.length : Int)])
theorem dstep_at {n : Nd} {w : List Int} {k : Int} : dstep n (w ++ [k]) = trim (w ++ [k - 1, (n.ar : Int)]) := by
  unfold dstep
  simp
theorem drun_pat {F : List Int → List Int → Prop} : ∀ (p : Pat) (r : List Nd) (w : List Int) (k : Int) (f : List Int), 1 ≤ k → DRun F r (trim (w ++ [k - 1])) (f ++ depsP (w.length + 1) p) → DRun F (p.pre ++ r) (w ++ [k]) f := by
  intro p
  have leaf : ∀ (n : Nd) (r : List Nd) (w : List Int) (k : Int) (f : List Int), n.ar = 0 → DRun F r (trim (w ++ [k - 1])) (f ++ [((w.length + 1 : Nat) : Int)]) → DRun F ([n] ++ r) (w ++ [k]) f := by
    intro n r w k f ha q
    refine ⟨by simp, ?_⟩
    rw [dstep_at, ha, show w ++ [k - 1, ((0 : Nat) : Int)] = (w ++ [k - 1]) ++ [0] by simp, trim_zero, show (w ++ [k]).length = w.length + 1 by simp]
    exact q
  have one : ∀ (n : Nd) (l r : List Nd) (w : List Int) (k : Int) (f g : List Int), n.ar = 1 → (∀ w' k' f' r', 1 ≤ k' → w'.length = w.length + 1 → DRun F r' (trim (w' ++ [k' - 1])) (f' ++ g) → DRun F (l ++ r') (w' ++ [k']) f') → DRun F r (trim (w ++ [k - 1])) (f ++ (((w.length + 1 : Nat) : Int) :: g)) → DRun F ((n :: l) ++ r) (w ++ [k]) f := by
    intro n l r w k f g ha ih q
    refine ⟨by simp, ?_⟩
    rw [dstep_at, ha, show w ++ [k - 1, ((1 : Nat) : Int)] = (w ++ [k - 1]) ++ [1] by simp, trim_pos (by decide)]
    refine ih (w ++ [k - 1]) 1 _ r (by decide) (by simp) ?_
    rw [show (1 : Int) - 1 = 0 by decide, trim_zero, show (w ++ [k]).length = w.length + 1 by simp, List.append_assoc]
    exact q
  have two : ∀ (n : Nd) (l m r : List Nd) (w : List Int) (k : Int) (f g h : List Int), n.ar = 2 → (∀ w' k' f' r', 1 ≤ k' → w'.length = w.length + 1 → DRun F r' (trim (w' ++ [k' - 1])) (f' ++ g) → DRun F (l ++ r') (w' ++ [k']) f') →
      (∀ w' k' f' r', 1 ≤ k' → w'.length = w.length + 1 → DRun F r' (trim (w' ++ [k' - 1])) (f' ++ h) → DRun F (m ++ r') (w' ++ [k']) f') → DRun F r (trim (w ++ [k - 1])) (f ++ (((w.length + 1 : Nat) : Int) :: (g ++ h))) → DRun F ((n :: (l ++ m)) ++ r) (w ++ [k]) f := by
    intro n l m r w k f g h ha ihl ihm q
    refine ⟨by simp, ?_⟩
    rw [dstep_at, ha, show w ++ [k - 1, ((2 : Nat) : Int)] = (w ++ [k - 1]) ++ [2] by simp, trim_pos (by decide)]
    show DRun F ((l ++ m) ++ r) _ _
    rw [List.append_assoc l m r]
    refine ihl (w ++ [k - 1]) 2 _ _ (by decide) (by simp) ?_
    rw [show (2 : Int) - 1 = 1 by decide, trim_pos (by decide)]
    refine ihm (w ++ [k - 1]) 1 _ r (by decide) (by simp) ?_
    rw [show (1 : Int) - 1 = 0 by decide, trim_zero, show (w ++ [k]).length = w.length + 1 by simp]
    have e : f ++ [((w.length + 1 : Nat) : Int)] ++ g ++ h = f ++ (((w.length + 1 : Nat) : Int) :: (g ++ h)) := by simp
    rw [e]
    exact q
  induction p with
  | non => intro r w k f hk q; exact leaf _ r w k f rfl q
  | emp => intro r w k f hk q; exact leaf _ r w k f rfl q
  | sig z => intro r w k f hk q; exact leaf _ r w k f rfl q
  | hol => intro r w k f hk q; exact leaf _ r w k f rfl q
  | man a iha => intro r w k f hk q; exact one _ _ r w k f _ rfl (fun w' k' f' r' h1 h2 q' => iha r' w' k' f' h1 (by rw [h2]; exact q')) q
  | few a iha => intro r w k f hk q; exact one _ _ r w k f _ rfl (fun w' k' f' r' h1 h2 q' => iha r' w' k' f' h1 (by rw [h2]; exact q')) q
  | mrk z a iha => intro r w k f hk q; exact one _ _ r w k f _ rfl (fun w' k' f' r' h1 h2 q' => iha r' w' k' f' h1 (by rw [h2]; exact q')) q
  | thn a b iha ihb => intro r w k f hk q; exact two _ _ _ r w k f _ _ rfl (fun w' k' f' r' h1 h2 q' => iha r' w' k' f' h1 (by rw [h2]; exact q')) (fun w' k' f' r' h1 h2 q' => ihb r' w' k' f' h1 (by rw [h2]; exact q')) q
  | orr a b iha ihb => intro r w k f hk q; exact two _ _ _ r w k f _ _ rfl (fun w' k' f' r' h1 h2 q' => iha r' w' k' f' h1 (by rw [h2]; exact q')) (fun w' k' f' r' h1 h2 q' => ihb r' w' k' f' h1 (by rw [h2]; exact q')) q
theorem depths_ok {p : Pat} (hl : p.pre.length ≤ 1000) : Ans (f_law_depths [encS p.pre]) (.list ((depsP 1 p).map .int)) := by
  unfold f_law_depths
  refine ⟨wf_run ?_⟩
  dsimp only [m_law_depths, m_law_depths_0, m_law_depths_1l, m_law_depths_1l_1, m_law_depths_1l_3, encS]
  walk_at "go"
  refine wl_for (fun ds st => ∃ (ns : List Nd) (wt f : List Int) (c3 : Option Cell), ds = ns.map Nd.d ∧ st = [some (.sh (.list (p.pre.map Nd.d))), some (.ow (.list (wt.map .int))), some (.ow (.list (f.map .int))), c3] ∧ DRun (fun _ f => f = depsP 1 p) ns wt f ∧ wt.length ≤ 1 + f.length ∧ f.length + ns.length ≤ 1000) ?_ ?_ ?_
  · refine ⟨p.pre, [(p.pre.length : Int) + 1], [], _, rfl, by rw [List.length_map]; rfl, ?_, by simp, by simpa using hl⟩
    have := drun_pat (F := fun _ f => f = depsP 1 p) p [] [] ((p.pre.length : Int) + 1) [] (by omega) rfl
    rwa [List.append_nil] at this
  · intro d r st ⟨ns, wt, f, c3, e1, e2, hr, hw, hlen⟩
    subst e2
    cases ns with
    | nil => cases e1
    | cons n ns =>
      rw [List.map_cons] at e1
      injection e1 with e1 e3
      subst e1 e3
      obtain ⟨hne, hr⟩ := hr
      obtain ⟨w, k, rfl⟩ := last_ex hne
      rw [dstep_at] at hr
      rw [List.length_cons] at hlen
      have al := ar_le (n := n)
      rw [List.length_append, List.length_singleton] at hw
      have lf : f.length < 1000 := by omega
      rw [show (w ++ [k]).map PyData.int = w.map PyData.int ++ [.int k] by simp]
      walk_at "go"
      refine ⟨by rw [List.length_map]; unfold LIM; omega, ?_⟩
      walk_at "go"
      refine ⟨_, _, _, rfl, rfl, ixN_last (by simp), ?_⟩
      rw [set_last]
      walk_at "go"
      refine (parts_nd n).use ?_
      walk_at "go"
      refine ⟨by simp; unfold LIM; omega, ?_⟩
      walk_at "go"
      rw [show w.map PyData.int ++ [PyData.int (k - 1)] ++ [PyData.int (n.ar : Int)] = (w ++ [k - 1, (n.ar : Int)]).map PyData.int by simp,
        show f.map PyData.int ++ [PyData.int ((w.map PyData.int ++ [PyData.int k]).length : Nat)] = (f ++ [((w ++ [k]).length : Int)]).map PyData.int by simp]
      refine ws_while (fun m st => ∃ w' : List Int, st = [some (.sh (.list (p.pre.map Nd.d))), some (.ow (.list (w'.map .int))), some (.ow (.list ((f ++ [((w ++ [k]).length : Int)]).map .int))), some (.sh n.d)] ∧ m = w'.length ∧ trim w' = trim (w ++ [k - 1, (n.ar : Int)]) ∧ w'.length ≤ w.length + 2) (n := w.length + 2) (by omega) ⟨_, rfl, by simp, rfl, by simp⟩ ?_
      intro m st ⟨w', e1, e2, et, el⟩
      subst e1 e2
      walk_at "go"
      refine ⟨_, ne_nil_ints, ?_⟩
      walk_at "go"
      have fin : trim w' = w' → (fun s => ∃ (ns_1 : List Nd) (wt f_1 : List Int) (c3 : Option Cell), List.map Nd.d ns = List.map Nd.d ns_1 ∧ s = [some (.sh (.list (p.pre.map Nd.d))), some (.ow (.list (wt.map .int))), some (.ow (.list (f_1.map .int))), c3] ∧ DRun (fun _ f => f = depsP 1 p) ns_1 wt f_1 ∧ wt.length ≤ 1 + f_1.length ∧ f_1.length + ns_1.length ≤ 1000) [some (.sh (.list (p.pre.map Nd.d))), some (.ow (.list (w'.map .int))), some (.ow (.list ((f ++ [((w ++ [k]).length : Int)]).map .int))), some (.sh n.d)] := by
        intro e
        rw [← et, e] at hr
        refine ⟨ns, w', _, _, rfl, rfl, hr, ?_, ?_⟩ <;> (rw [List.length_append, List.length_singleton]; omega)
      by_cases hn : w' = []
      · subst hn
        walk_at "go"
        exact fin rfl
      · obtain ⟨w2, k2, rfl⟩ := last_ex hn
        refine ifT1 (by simp) ?_
        rw [show (w2 ++ [k2]).map PyData.int = w2.map PyData.int ++ [.int k2] by simp]
        walk_at "go"
        refine ifB (fun h => ?_) (fun h => ?_)
        · have h : k2 = 0 := of_decide_eq_true h
          subst h
          walk_at "go"
          refine ⟨PyData.int 0, by simp, ?_⟩
          walk_at "go"
          rw [List.length_append, List.length_singleton] at el
          refine ⟨w2.length, by simp, w2, by rw [List.dropLast_concat], rfl, by rw [← et, trim_zero], by omega⟩
        · have h : k2 ≠ 0 := of_decide_eq_false h
          walk_at "go"
          have := fin (trim_pos h)
          rw [show (w2 ++ [k2]).map PyData.int = w2.map PyData.int ++ [.int k2] by simp] at this
          exact this
  · intro st ⟨ns, wt, f, c3, e1, e2, hr, hw, hlen⟩
    cases ns with
    | cons => cases e1
    | nil =>
      have hr : f = depsP 1 p := hr
      subst e2 hr
      walk_at "go"

set_option Elab.async false
set_option linter.all false
set_option maxRecDepth 100000
set_option maxHeartbeats 4000000
open PySem PySem.Spec PyProof.Rows L2 FR MV
/-! ### where nodes end -/
theorem Pat.view (q : Pat) : (∃ n, q.pre = [n] ∧ n.ar = 0) ∨ (∃ n a, q.pre = n :: Pat.pre a ∧ n.ar = 1) ∨ ∃ n a b, q.pre = n :: (Pat.pre a ++ Pat.pre b) ∧ n.ar = 2 := by
  cases q with
  | non => exact .inl ⟨_, rfl, rfl⟩
  | emp => exact .inl ⟨_, rfl, rfl⟩
  | sig z => exact .inl ⟨_, rfl, rfl⟩
  | hol => exact .inl ⟨_, rfl, rfl⟩
  | man a => exact .inr (.inl ⟨_, a, rfl, rfl⟩)
  | few a => exact .inr (.inl ⟨_, a, rfl, rfl⟩)
  | mrk z a => exact .inr (.inl ⟨_, a, rfl, rfl⟩)
  | thn a b => exact .inr (.inr ⟨_, a, b, rfl, rfl⟩)
  | orr a b => exact .inr (.inr ⟨_, a, b, rfl, rfl⟩)
theorem pre_uniq : ∀ (n : Nat) (p q : Pat) (A B : List Nd), p.pre.length ≤ n → p.pre ++ A = q.pre ++ B → p.pre = q.pre ∧ A = B := by
  intro n
  induction n with
  | zero => intro p q A B h; have := Pat.pre_pos p; omega
  | succ n ih =>
    intro p q A B h e
    rcases p.view with ⟨m, e1, a1⟩ | ⟨m, a, e1, a1⟩ | ⟨m, a, b, e1, a1⟩ <;> rcases q.view with ⟨m', e2, a2⟩ | ⟨m', a', e2, a2⟩ | ⟨m', a', b', e2, a2⟩ <;> rw [e1, e2] at e <;> rw [e1] at h <;> (injection e with e3 e4) <;> subst e3
    · rw [e1, e2]; exact ⟨rfl, e4⟩
    · omega
    · omega
    · omega
    · obtain ⟨h1, h2⟩ := ih a a' A B (by simp at h; omega) e4
      rw [e1, e2, h1]; exact ⟨rfl, h2⟩
    · omega
    · omega
    · omega
    · have e4 : (a.pre ++ b.pre) ++ A = (a'.pre ++ b'.pre) ++ B := e4
      rw [List.append_assoc, List.append_assoc] at e4
      obtain ⟨h1, h2⟩ := ih a a' _ _ (by simp at h; omega) e4
      obtain ⟨h3, h4⟩ := ih b b' A B (by simp at h; omega) h2
      rw [e1, e2, h1, h3]; exact ⟨rfl, h4⟩
/-- a node taken out -/
theorem pat_split : ∀ (p : Pat) (i : Nat), i < p.pre.length → ∃ (q p' : Pat) (A B : List Nd), p.pre = A ++ (q.pre ++ B) ∧ A.length = i ∧ p'.pre = A ++ (Nd.odd :: B) := by
  intro p
  have base : ∀ p : Pat, ∃ (q p' : Pat) (A B : List Nd), p.pre = A ++ (q.pre ++ B) ∧ A.length = 0 ∧ p'.pre = A ++ (Nd.odd :: B) := fun p => ⟨p, .hol, [], [], by simp, rfl, rfl⟩
  have one : ∀ (n : Nd) (a : Pat) (i : Nat) (f : Pat → Pat), (∀ x, (f x).pre = n :: x.pre) → (∃ (q p' : Pat) (A B : List Nd), a.pre = A ++ (q.pre ++ B) ∧ A.length = i ∧ p'.pre = A ++ (Nd.odd :: B)) → ∃ (q p' : Pat) (A B : List Nd), (f a).pre = A ++ (q.pre ++ B) ∧ A.length = i + 1 ∧ p'.pre = A ++ (Nd.odd :: B) := by
    intro n a i f hf ⟨q, p', A, B, e1, e2, e3⟩
    exact ⟨q, f p', n :: A, B, by rw [hf, e1]; rfl, by rw [List.length_cons, e2], by rw [hf, e3]; rfl⟩
  have two : ∀ (n : Nd) (a b : Pat) (i : Nat) (f : Pat → Pat → Pat), (∀ x y, (f x y).pre = n :: (x.pre ++ y.pre)) → i < a.pre.length + b.pre.length → (i < a.pre.length → ∃ (q p' : Pat) (A B : List Nd), a.pre = A ++ (q.pre ++ B) ∧ A.length = i ∧ p'.pre = A ++ (Nd.odd :: B)) →
      (i - a.pre.length < b.pre.length → ∃ (q p' : Pat) (A B : List Nd), b.pre = A ++ (q.pre ++ B) ∧ A.length = i - a.pre.length ∧ p'.pre = A ++ (Nd.odd :: B)) → ∃ (q p' : Pat) (A B : List Nd), (f a b).pre = A ++ (q.pre ++ B) ∧ A.length = i + 1 ∧ p'.pre = A ++ (Nd.odd :: B) := by
    intro n a b i f hf hi ha hb
    by_cases h : i < a.pre.length
    · obtain ⟨q, p', A, B, e1, e2, e3⟩ := ha h
      exact ⟨q, f p' b, n :: A, B ++ b.pre, by rw [hf, e1]; simp, by rw [List.length_cons, e2], by rw [hf, e3]; simp⟩
    · obtain ⟨q, p', A, B, e1, e2, e3⟩ := hb (by omega)
      exact ⟨q, f a p', n :: (a.pre ++ A), B, by rw [hf, e1]; simp, by rw [List.length_cons, List.length_append, e2]; omega, by rw [hf, e3]; simp⟩
  induction p with
  | man a iha =>
    intro i hi
    cases i with
    | zero => exact base _
    | succ i => exact one _ a i .man (fun _ => rfl) (iha i (by simp [Pat.pre] at hi; omega))
  | few a iha =>
    intro i hi
    cases i with
    | zero => exact base _
    | succ i => exact one _ a i .few (fun _ => rfl) (iha i (by simp [Pat.pre] at hi; omega))
  | mrk z a iha =>
    intro i hi
    cases i with
    | zero => exact base _
    | succ i => exact one _ a i (.mrk z) (fun _ => rfl) (iha i (by simp [Pat.pre] at hi; omega))
  | thn a b iha ihb =>
    intro i hi
    cases i with
    | zero => exact base _
    | succ i => exact two _ a b i .thn (fun _ _ => rfl) (by simp [Pat.pre] at hi; omega) (iha i) (ihb _)
  | orr a b iha ihb =>
    intro i hi
    cases i with
    | zero => exact base _
    | succ i => exact two _ a b i .orr (fun _ _ => rfl) (by simp [Pat.pre] at hi; omega) (iha i) (ihb _)
  | _ =>
    intro i hi
    cases i with
    | zero => exact base _
    | succ i => simp [Pat.pre] at hi
theorem drop_of {l A B : List Nd} {i : Nat} (h : l = A ++ B) (hi : A.length = i) : l.drop i = B := by subst h hi; simp
/-- the ends told are right from j on -/
def EndsR (l : List Nd) (E : List Int) (j : Nat) : Prop := ∀ i, j ≤ i → ∀ (q : Pat) (B : List Nd), l.drop i = q.pre ++ B → E[i]? = some ((i + q.pre.length : Nat) : Int)
structure BehindR (p : Pat) (r : PyData) (outs : List PyData) : Prop where
  ex : ∃ E : List Int, r = .list (E.map .int) ∧ outs = [] ∧ E.length = p.pre.length ∧ EndsR p.pre E 0
theorem ints_at {E : List Int} {i : Nat} {x : Int} (h : E[i]? = some x) : atI (E.map PyData.int) (i : Int) = some (.int x) := atI_nat (by rw [List.getElem?_map, h]; rfl)
theorem ixN_nat {n j : Nat} (h : j < n) : ixN n (j : Int) = some j := by
  unfold ixN
  rw [if_pos (by omega), if_pos (by omega)]; simp
theorem behind_ok {p : Pat} (hl : p.pre.length ≤ 1000) : WFo (f_law_behind [encS p.pre]) (BehindR p) := by
  unfold f_law_behind
  refine wf_run ?_
  dsimp only [m_law_behind, m_law_behind_0, m_law_behind_1l, m_law_behind_1l_0, m_law_behind_1l_2, encS]
  walk_at "go"
  have ln : (p.pre.map Nd.d).length = p.pre.length := by rw [List.length_map]
  refine ⟨by rw [ln]; unfold LIM; omega, by rw [ln]; unfold LIM; omega, ?_⟩
  rw [show (List.replicate (p.pre.map Nd.d).length [PyData.int 0]).flatten = (List.replicate p.pre.length (0 : Int)).map PyData.int by rw [ln]; simp]
  walk_at "go"
  refine ⟨sm_nat (by rw [ln]; unfold LIM; omega), ?_⟩
  rw [ln]
  refine wl_for (fun ds st => ∃ (b : Nat) (E : List Int) (c2 c3 c4 c5 : Option Cell), ds = ((List.range p.pre.length).drop b).map (fun i => PyData.int (0 + (i : Nat))) ∧ b ≤ p.pre.length ∧ st = [some (.sh (.list (p.pre.map Nd.d))), some (.ow (.list (E.map .int))), c2, c3, c4, c5] ∧ E.length = p.pre.length ∧ EndsR p.pre E (p.pre.length - b)) ?_ ?_ ?_
  · refine ⟨0, List.replicate p.pre.length 0, none, none, none, none, ?_, Nat.zero_le _, rfl, by simp, ?_⟩
    · rw [List.drop_zero]; unfold rngB; simp
    · intro i hi q B e
      rw [List.drop_eq_nil_of_le (by omega)] at e
      have := Pat.pre_pos q
      have := congrArg List.length e
      simp at this; omega
  · intro d r st ⟨b, E, c2, c3, c4, c5, e1, hb, e2, hE, hR⟩
    subst e2
    have hb2 : b < p.pre.length := by
      rcases Nat.lt_or_ge b p.pre.length with h | h
      · exact h
      · rw [List.drop_eq_nil_of_le (by simpa using h)] at e1; cases e1
    rw [List.drop_eq_getElem_cons (by simpa using hb2), List.map_cons, List.getElem_range] at e1
    injection e1 with e1 e3
    subst e1 e3
    obtain ⟨i, hi⟩ : ∃ i, i = p.pre.length - 1 - b := ⟨_, rfl⟩
    obtain ⟨q, p', A, B, s1, s2, s3⟩ := pat_split p i (by omega)
    have hd : p.pre.drop i = q.pre ++ B := drop_of s1 s2
    have he : ((p.pre.length : Nat) : Int) - 1 - (0 + (b : Nat)) = ((i : Nat) : Int) := by omega
    have hlen : p.pre.length = i + (q.pre.length + B.length) := by rw [s1]; simp [s2]
    have hnext : ∀ (E' : List Int), E' = E.set i ((i + q.pre.length : Nat) : Int) → EndsR p.pre E' (p.pre.length - (b + 1)) := by
      intro E' e j hj q' B' e'
      subst e
      by_cases h : j = i
      · subst h
        rw [hd] at e'
        obtain ⟨u1, _⟩ := pre_uniq _ q q' B B' (Nat.le_refl _) e'
        rw [List.getElem?_set_self (by omega), u1]
      · rw [List.getElem?_set_ne (fun e => h e.symm)]
        exact hR j (by omega) q' B' e'
    have head : ∀ m l, q.pre = m :: l → atI (p.pre.map Nd.d) ((i : Nat) : Int) = some m.d := by
      intro m l e
      refine atI_nat ?_
      rw [List.getElem?_map]
      have : p.pre[i]? = some m := by
        have := congrArg List.head? hd
        rw [e] at this
        simpa using this
      rw [this]; rfl
    have fin : ∀ (c2 c3 c4 c5 : Option Cell), (fun s => ∃ (b_1 : Nat) (E_1 : List Int) (c2 c3 c4 c5 : Option Cell), ((List.range p.pre.length).drop (b + 1)).map (fun i => PyData.int (0 + (i : Nat))) = ((List.range p.pre.length).drop b_1).map (fun i => PyData.int (0 + (i : Nat))) ∧ b_1 ≤ p.pre.length ∧ s = [some (.sh (.list (p.pre.map Nd.d))), some (.ow (.list (E_1.map .int))), c2, c3, c4, c5] ∧ E_1.length = p.pre.length ∧ EndsR p.pre E_1 (p.pre.length - b_1)) [some (.sh (.list (p.pre.map Nd.d))), some (.ow (.list ((E.set i ((i + q.pre.length : Nat) : Int)).map .int))), c2, c3, c4, c5] :=
      fun c2 c3 c4 c5 => ⟨b + 1, _, c2, c3, c4, c5, rfl, hb2, rfl, by rw [List.length_set]; exact hE, hnext _ rfl⟩
    walk_at "go"
    rw [ln, he]
    rcases q.view with ⟨m, e1, a1⟩ | ⟨m, a, e1, a1⟩ | ⟨m, a, a', e1, a1⟩
    · walk_at "go"
      refine ⟨_, head m _ e1, ?_⟩
      walk_at "go"
      refine (parts_nd m).use ?_
      rw [a1]
      walk_at "go"
      rw [show rngB 0 ((0 : Nat) : Int) = [] from rfl]
      walk_at "go"
      refine ⟨_, _, _, rfl, rfl, ixN_nat (by rw [List.length_map, hE]; omega), ?_⟩
      walk_at "go"
      have := fin (some (.sh (.int (0 + (b : Nat))))) (some (.sh (.int (i : Nat)))) (some (.sh (.int ((i : Nat) + 1)))) c5
      rw [List.map_set, show i + q.pre.length = i + 1 by rw [e1]; rfl] at this
      exact this
    · have x1 : E[i + 1]? = some ((i + 1 + a.pre.length : Nat) : Int) := by
        refine hR (i + 1) (by omega) a B ?_
        rw [← List.drop_drop, hd, e1]; rfl
      walk_at "go"
      refine ⟨_, head m _ e1, ?_⟩
      walk_at "go"
      refine (parts_nd m).use ?_
      rw [a1]
      walk_at "go"
      rw [show rngB 0 ((1 : Nat) : Int) = [.int 0] from rfl]
      refine wl_cons ⟨_, rfl, ?_⟩
      walk_at "go"
      refine ⟨_, ints_at (i := i + 1) x1, ?_⟩
      walk_at "go"
      refine ⟨_, _, _, rfl, rfl, ixN_nat (by rw [List.length_map, hE]; omega), ?_⟩
      walk_at "go"
      have := fin (some (.sh (.int (0 + (b : Nat))))) (some (.sh (.int (i : Nat)))) (some (.sh (.int ((i + 1 + a.pre.length : Nat) : Int)))) (some (.sh (.int 0)))
      rw [List.map_set, show i + q.pre.length = i + 1 + a.pre.length by rw [e1, List.length_cons]; omega] at this
      exact this
    · have x1 : E[i + 1]? = some ((i + 1 + a.pre.length : Nat) : Int) := by
        refine hR (i + 1) (by omega) a (a'.pre ++ B) ?_
        rw [← List.drop_drop, hd, e1]; simp
      have x2 : E[i + 1 + a.pre.length]? = some ((i + 1 + a.pre.length + a'.pre.length : Nat) : Int) := by
        refine hR (i + 1 + a.pre.length) (by omega) a' B ?_
        rw [← List.drop_drop, ← List.drop_drop, hd, e1]; simp
      walk_at "go"
      refine ⟨_, head m _ e1, ?_⟩
      walk_at "go"
      refine (parts_nd m).use ?_
      rw [a1]
      walk_at "go"
      rw [show rngB 0 ((2 : Nat) : Int) = [.int 0, .int 1] from rfl]
      refine wl_cons ⟨_, rfl, ?_⟩
      walk_at "go"
      refine ⟨_, ints_at (i := i + 1) x1, ?_⟩
      walk_at "go"
      refine wl_cons ⟨_, rfl, ?_⟩
      walk_at "go"
      refine ⟨_, ints_at x2, ?_⟩
      walk_at "go"
      refine ⟨_, _, _, rfl, rfl, ixN_nat (by rw [List.length_map, hE]; omega), ?_⟩
      walk_at "go"
      have := fin (some (.sh (.int (0 + (b : Nat))))) (some (.sh (.int (i : Nat)))) (some (.sh (.int ((i + 1 + a.pre.length + a'.pre.length : Nat) : Int)))) (some (.sh (.int 1)))
      rw [List.map_set, show i + q.pre.length = i + 1 + a.pre.length + a'.pre.length by rw [e1, List.length_cons, List.length_append]; omega] at this
      exact this
  · intro st ⟨b, E, c2, c3, c4, c5, e1, hb, e2, hE, hR⟩
    subst e2
    have hb2 : b = p.pre.length := by
      rcases Nat.lt_or_ge b p.pre.length with h | h
      · rw [List.drop_eq_getElem_cons (by simpa using h)] at e1; cases e1
      · omega
    subst hb2
    rw [Nat.sub_self] at hR
    walk_at "go"
    exact ⟨E, rfl, rfl, hE, hR⟩

set_option Elab.async false
set_option linter.all false
set_option maxRecDepth 100000
set_option maxHeartbeats 4000000
open PySem PySem.Spec PyProof.Rows L2 FR MV
structure LotR (r : PyData) (outs : List PyData) : Prop where
  ex : ∃ (z : Str) (b' : PyData), r = .str z ∧ lotB (.str z) = true ∧ outs = [b'] ∧ Bag b'
def lotC : List (Str × Int) := [("a", 1), ("b", 2), ("c", 4), ("d", 8)]
theorem lot_one : ∀ k : Nat, k < 6 → lotB (.str (chS (("abcdab" : Str).cps.toList.getD k 0))) = true := by decide +kernel
theorem lot_more (k : Nat) (h : ¬ k < 6) (h2 : k < 21) : ∃ z : Str, joinD (.str "") (.list ((lotC.filter fun c => decide (((k : Int) - 5) / c.2 % 2 = 1)).map fun c => .str c.1)) = some (.str z) ∧ lotB (.str z) = true := by
  rcases (by omega : k = 6 ∨ k = 7 ∨ k = 8 ∨ k = 9 ∨ k = 10 ∨ k = 11 ∨ k = 12 ∨ k = 13 ∨ k = 14 ∨ k = 15 ∨ k = 16 ∨ k = 17 ∨ k = 18 ∨ k = 19 ∨ k = 20) with rfl | rfl | rfl | rfl | rfl | rfl | rfl | rfl | rfl | rfl | rfl | rfl | rfl | rfl | rfl
  all_goals exact ⟨_, rfl, by decide +kernel⟩
theorem lot_drawn {b : PyData} (hb : Bag b) : WFo (f_law_lot [b]) LotR := by
  unfold f_law_lot
  refine wf_run ?_
  dsimp only [m_law_lot, m_law_lot_0, m_law_lot_1, m_law_lot_2]
  walk_at "go"
  refine (pick_ok hb (by decide) (by decide)).use fun r outs h => ?_
  obtain ⟨d, b', rfl, rfl, hb', d0, d1⟩ := h
  obtain ⟨k, rfl⟩ : ∃ k : Nat, d = k := ⟨d.toNat, by omega⟩
  walk_at "go"
  refine ifB (fun h => ?_) (fun h => ?_)
  · have h : (k : Int) < 6 := of_decide_eq_true h
    walk_at "go"
    refine ⟨_, ixS (by decide) (by omega) (by show (k : Int) < 6; exact h), ?_⟩
    walk_at "go"
    exact ⟨_, _, rfl, lot_one k (by omega), rfl, hb'⟩
  · have h : ¬ (k : Int) < 6 := of_decide_eq_false h
    walk_at "go"
    refine ⟨_, _, rfl, rfl, ?_⟩
    walk_at "go"
    refine wl_pick (cs := lotC) (h := fun c => .tuple [.str c.1, .int c.2]) (fun c => decide (((k : Int) - 5) / c.2 % 2 = 1)) (fun c => .str c.1) (fun c m => ?_) (by decide) ?_
    · simp only [lotC, List.mem_cons, List.not_mem_nil, or_false] at m
      rcases m with rfl | rfl | rfl | rfl
      all_goals walk_at "go"
      all_goals cases decide (((k : Int) - 5) / _ % 2 = 1)
      all_goals walk_at "go"
    · obtain ⟨z, e, hz⟩ := lot_more k (by omega) (by omega)
      walk_at "go"
      refine ⟨_, e, ?_⟩
      walk_at "go"
      exact ⟨_, _, rfl, hz, rfl, hb'⟩

set_option Elab.async false
set_option linter.all false
set_option maxRecDepth 100000
set_option maxHeartbeats 4000000
open PySem PySem.Spec PyProof.Rows L2 FR MV
theorem joinL_ones : ∀ cs : List Nat, TL.joinL [] (cs.map fun c => [c]) = cs
  | [] => rfl
  | [_] => rfl
  | a :: b :: r => by
    show [a] ++ ([] ++ TL.joinL [] ((b :: r).map fun c => [c])) = _
    rw [joinL_ones (b :: r)]; rfl
theorem join_ch (cs : List Nat) : Txt.join "" (cs.map chS) = ⟨cs.toArray⟩ := by
  have := SX.join_S [] (cs.map fun c => [c])
  rw [joinL_ones, List.map_map] at this
  exact this
theorem strs_ch : ∀ cs : List Nat, mJoin.strsD (cs.map fun c => .str (chS c)) = some (cs.map chS)
  | [] => rfl
  | c :: r => by
    show (mJoin.strsD (r.map fun c => .str (chS c))).map (chS c :: ·) = _
    rw [strs_ch r]; rfl
theorem join_D {cs : List Nat} (h : cs.length ≤ LIM) : joinD (.str "") (.list (cs.map fun c => .str (chS c))) = some (.str ⟨cs.toArray⟩) := by
  show mJoin "" (cs.map fun c => .str (chS c)) = _
  unfold mJoin
  rw [strs_ch]
  have e : ((cs.map chS).map (·.length)).sum = cs.length := by
    rw [List.map_map]
    induction cs with
    | nil => rfl
    | cons c r ih => rw [List.map_cons, List.sum_cons, ih (by rw [List.length_cons] at h; omega)]; show 1 + r.length = r.length + 1; omega
  show (if ((cs.map chS).map (·.length)).sum + (cs.map chS).length * (0 : Nat) ≤ LIM then some (PyData.str (Txt.join "" (cs.map chS))) else none) = _
  rw [e, Nat.mul_zero, Nat.add_zero, if_pos h, join_ch]
theorem w_yes {st : MS} {Q : Bool → MS → Prop} {e : ErrM} (q : Q true st) : MV.WE (fun st => Out.ok true st) st Q e := ⟨q⟩
structure MarkR (r : PyData) (outs : List PyData) : Prop where
  ex : ∃ (z : Str) (b' : PyData), r = .str z ∧ markB (.str z) = true ∧ outs = [b'] ∧ Bag b'
theorem mark_drawn {b : PyData} (hb : Bag b) : WFo (f_law_mark [b]) MarkR := by
  unfold f_law_mark
  refine wf_run ?_
  dsimp only [m_law_mark, m_law_mark_1, m_law_mark_2]
  walk_at "go"
  refine (pick_ok hb (by decide) (by decide)).use fun r outs h => ?_
  obtain ⟨d, b1, rfl, rfl, hb1, d0, d1⟩ := h
  obtain ⟨k, rfl⟩ : ∃ k : Nat, d = k := ⟨d.toNat, by omega⟩
  walk_at "go"
  refine ⟨sm_in (by omega) (by omega), ?_⟩
  walk_at "go"
  refine wl_lc (fun r acc s => ∃ (b2 : PyData) (cs : List Nat), s = [some (.io b2), some (.sh (.str "abcdefghijklmnopqrstuvwxyz")), none, none] ∧ Bag b2 ∧ acc = cs.map (fun c => .str (chS c)) ∧ (∀ c ∈ cs, c ∈ ("abcdefghijklmnopqrstuvwxyz" : Str).cps.toList) ∧ cs.length + r.length = k + 1) ?_ ?_ ?_
  · refine ⟨b1, [], rfl, hb1, rfl, fun _ m => absurd m List.not_mem_nil, ?_⟩
    unfold rngB; simp; omega
  · intro d r acc s ⟨b2, cs, e1, hb2, e2, hc, hl⟩
    subst e1 e2
    rw [List.length_cons] at hl
    walk_at "go"
    refine w_yes ?_
    walk_at "go"
    refine (someT_ok hb2 (z := "abcdefghijklmnopqrstuvwxyz") (by decide) (by decide)).use fun r' outs h => ?_
    obtain ⟨c, b3, mc, rfl, rfl, hb3⟩ := h
    walk_at "go"
    refine ⟨by rw [List.length_map]; unfold LIM; omega, b3, cs ++ [c], rfl, hb3, by rw [List.map_append]; rfl, fun x m => ?_, by rw [List.length_append, List.length_singleton]; omega⟩
    rcases List.mem_append.mp m with m | m
    · exact hc x m
    · rw [List.mem_singleton.mp m]; exact mc
  · intro acc s ⟨b2, cs, e1, hb2, e2, hc, hl⟩
    subst e1 e2
    rw [List.length_nil] at hl
    walk_at "go"
    refine ⟨_, join_D (by unfold LIM; omega), ?_⟩
    walk_at "go"
    refine (some_ok hb2 (by show 0 < 4; decide) (by show 4 ≤ 1000000; decide)).use fun r' outs h => ?_
    obtain ⟨b3, m, rfl, hb3⟩ := h
    walk_at "go"
    have hz : markB (.str ⟨cs.toArray⟩) = true := by
      have h1 : (⟨cs.toArray⟩ : Str).length = cs.length := by simp [Str.length]
      show (decide (1 ≤ (⟨cs.toArray⟩ : Str).length) && (decide ((⟨cs.toArray⟩ : Str).length ≤ 6) && (⟨cs.toArray⟩ : Str).cps.toList.all fun c => decide (c ∈ ("abcdefghijklmnopqrstuvwxyz" : Str).cps.toList))) = true
      rw [h1, decide_eq_true (by omega), decide_eq_true (by omega)]
      exact List.all_eq_true.mpr fun c m => decide_eq_true (hc c m)
    simp only [List.mem_cons, List.not_mem_nil, or_false] at m
    rcases m with rfl | rfl | rfl | rfl
    · exact ⟨_, _, rfl, by decide +kernel, rfl, hb3⟩
    · exact ⟨_, _, rfl, by decide +kernel, rfl, hb3⟩
    · exact ⟨_, _, rfl, hz, rfl, hb3⟩
    · exact ⟨_, _, rfl, by decide +kernel, rfl, hb3⟩

set_option Elab.async false
set_option linter.all false
set_option maxRecDepth 100000
set_option maxHeartbeats 4000000
open PySem PySem.Spec PyProof.Rows L2 FR MV
/-! ### patterns drawn -/
structure Good (M : Nat) (p : Pat) : Prop where
  ok : p.ok = true
  sz : p.pre.length ≤ M
  dp : p.dep ≤ 13
def encP (ps : List Pat) : PyData := .list (ps.map fun p => encS p.pre)
theorem cut_3 {xs : List PyData} : cutL xs (some (-3)) none = xs.drop (xs.length - 3) := by
  unfold cutL
  rw [sIx_none]
  have e : HT.sIx xs.length 0 (some (-3)) = xs.length - 3 := by
    unfold HT.sIx
    simp
    omega
  rw [e, List.take_of_length_le (by rw [List.length_drop]; omega)]
theorem max_deps {p : Pat} : maxLD (.list ((depsP 1 p).map .int)) = some (.int (p.dep : Int)) := by
  have hd := deps_top p 1 (Nat.le_refl 1)
  have hl := deps_le p 1 (Nat.le_refl 1)
  rw [show 1 + p.dep - 1 = p.dep by omega] at hd hl
  have hi : ∀ l : List Int, intsD (l.map .int) = some l := by
    intro l
    induction l with
    | nil => rfl
    | cons x r ih => show (intsD (r.map .int)).map (x :: ·) = _; rw [ih]; rfl
  cases e : depsP 1 p with
  | nil => rw [e] at hd; cases hd
  | cons x r =>
    rw [e] at hd hl
    show (match intsD ((x :: r).map PyData.int) with | some (i :: r) => some (PyData.int (maxI i r)) | _ => none) = _
    rw [hi]
    show some (PyData.int (maxI x r)) = _
    rw [maxI_of hl hd]
theorem drawn_tail {b : PyData} {T M : Nat} (hM : M ≤ 900) {ps : List Pat} {p : Pat} {c4 c5 c6 c7 : Option Cell} {D : EndM} (hp : p.ok = true) (hl : p.pre.length ≤ 1000) (hps : ps.length ≤ 1000)
    (h0 : D.nx [some (.io b), some (.sh (.int T)), some (.sh (.int M)), some (.ow (encP ps)), c4, c5, c6, c7, some (.sh (encS p.pre))])
    (h1 : Good M p → D.nx [some (.io b), some (.sh (.int T)), some (.sh (.int M)), some (.ow (encP (ps ++ [p]))), c4, c5, c6, c7, some (.sh (encS p.pre))]) :
    WS m_law_drawn_1l_3 [some (.io b), some (.sh (.int T)), some (.sh (.int M)), some (.ow (encP ps)), c4, c5, c6, c7, some (.sh (encS p.pre))] D := by
  dsimp only [m_law_drawn_1l_3]
  have ln : (p.pre.map Nd.d).length = p.pre.length := by rw [List.length_map]
  walk_at "go"
  refine ifB (fun h => ?_) (fun h => ?_)
  · have h : ((p.pre.map Nd.d).length : Int) ≤ (M : Int) := of_decide_eq_true h
    rw [ln] at h
    walk_at "go"
    refine (depths_ok (p := p) hl).use ?_
    walk_at "go"
    refine ⟨_, max_deps, ?_⟩
    walk_at "go"
    refine ifB (fun h2 => ?_) (fun h2 => ?_)
    · have h2 : (p.dep : Int) ≤ 13 := of_decide_eq_true h2
      walk_at "go"
      refine ⟨by rw [List.length_map]; unfold LIM; omega, ?_⟩
      have := h1 ⟨hp, by omega, by omega⟩
      unfold encP at this
      rw [List.map_append] at this
      exact this
    · walk_at "go"
      exact h0
  · walk_at "go"
    exact h0

set_option Elab.async false
set_option linter.all false
set_option maxRecDepth 100000
set_option maxHeartbeats 4000000
open PySem PySem.Spec PyProof.Rows L2 FR MV
theorem mem_encP {ps : List Pat} {x : PyData} (h : x ∈ ps.map fun p => encS p.pre) : ∃ p ∈ ps, x = encS p.pre := by
  obtain ⟨p, m, rfl⟩ := List.mem_map.mp h
  exact ⟨p, m, rfl⟩
def DrawI (M T : Nat) (r : List PyData) (st : MS) : Prop := ∃ (b : PyData) (ps : List Pat) (c4 c5 c6 c7 c8 : Option Cell), st = [some (.io b), some (.sh (.int T)), some (.sh (.int M)), some (.ow (encP ps)), c4, c5, c6, c7, c8] ∧ Bag b ∧ (∀ p ∈ ps, Good M p) ∧ 3 ≤ ps.length ∧ ps.length + r.length ≤ 900
theorem drawn_turn {M T : Nat} (hM : M ≤ 400) {r : List PyData} {b : PyData} {ps : List Pat} {c4 c5 c6 c7 c8 : Option Cell} {D : EndM} (hb : Bag b) (hg : ∀ p ∈ ps, Good M p) (h3 : 3 ≤ ps.length) (hl : ps.length + (r.length + 1) ≤ 900) (hD : ∀ s, DrawI M T r s → D.nx s) :
    WS m_law_drawn_1l [some (.io b), some (.sh (.int T)), some (.sh (.int M)), some (.ow (encP ps)), c4, c5, c6, c7, c8] D := by
  have hlen : (ps.map fun p => encS p.pre).length = ps.length := by rw [List.length_map]
  have tail : ∀ (b : PyData) (p : Pat) (c4 c5 c6 c7 : Option Cell), Bag b → p.ok = true → p.pre.length ≤ 1000 → WS m_law_drawn_1l_3 [some (.io b), some (.sh (.int T)), some (.sh (.int M)), some (.ow (encP ps)), c4, c5, c6, c7, some (.sh (encS p.pre))] D := fun b p c4 c5 c6 c7 hb hp hpl =>
    drawn_tail (by omega) hp hpl (by omega) (hD _ ⟨b, ps, _, _, _, _, _, rfl, hb, hg, h3, by omega⟩) fun gp => hD _ ⟨b, ps ++ [p], _, _, _, _, _, rfl, hb, fun q m => (List.mem_append.mp m).elim (hg q) fun m => by rw [List.mem_singleton.mp m]; exact gp, by rw [List.length_append]; omega, by rw [List.length_append, List.length_singleton]; omega⟩
  dsimp only [m_law_drawn_1l, m_law_drawn_1l_0, m_law_drawn_1l_1, m_law_drawn_1l_2, m_law_drawn_1l_2t_0, m_law_drawn_1l_2e_0, m_law_drawn_1l_2e_0t_0, m_law_drawn_1l_2e_0e_0, m_law_drawn_1l_2e_0e_0t_0, m_law_drawn_1l_2e_0e_0e_0]
  generalize m_law_drawn_1l_3 = rest at tail ⊢
  walk_at "go"
  refine (some_ok hb (by show 0 < 10; decide) (by show 10 ≤ 1000000; decide)).use fun word outs h => ?_
  obtain ⟨b1, mw, rfl, hb1⟩ := h
  dsimp only [encP] at tail ⊢
  walk_at "go"
  rw [cut_3]
  refine (some_ok hb1 (by rw [List.length_drop, hlen]; omega) (by rw [List.length_drop, hlen]; omega)).use fun one outs h => ?_
  obtain ⟨b2, m1, rfl, hb2⟩ := h
  obtain ⟨p1, q1, rfl⟩ := mem_encP (List.mem_of_mem_drop m1)
  walk_at "go"
  refine (some_ok hb2 (by rw [hlen]; omega) (by rw [hlen]; omega)).use fun other outs h => ?_
  obtain ⟨b3, m2, rfl, hb3⟩ := h
  obtain ⟨p2, q2, rfl⟩ := mem_encP m2
  have g1 := hg p1 q1
  have g2 := hg p2 q2
  have l1 := g1.sz
  have l2 := g2.sz
  have pairL : ∀ (n : Nd) (q q' : Pat), encS (n :: (q.pre ++ q'.pre)) = .list ([n.d] ++ (q.pre.map Nd.d ++ q'.pre.map Nd.d)) := fun n q q' => by unfold encS; simp
  simp only [List.mem_cons, List.not_mem_nil, or_false] at mw
  have two : ∀ (w : Str) (n : Nd) (f : Pat → Pat → Pat), n.items = [.str w] → n.ok = true → (∀ x y, (f x y).pre = n :: (x.pre ++ y.pre)) → ∀ (b : PyData) (q q' : Pat) (c4 c5 c6 c7 : Option Cell), Bag b → Good M q → Good M q' →
      WS rest [some (.io b), some (.sh (.int T)), some (.sh (.int M)), some (.ow (.list (ps.map fun p => encS p.pre))), c4, c5, c6, c7, some (.sh (.list ([.tuple [.str w]] ++ (q.pre.map Nd.d ++ q'.pre.map Nd.d))))] D := by
    intro w n f hi hn hf b q q' c4 c5 c6 c7 hb gq gq'
    have := tail b (f q q') c4 c5 c6 c7 hb (by unfold Pat.ok; rw [hf]; simp [hn]; exact ⟨List.all_eq_true.mp gq.ok, List.all_eq_true.mp gq'.ok⟩) (by rw [hf]; have := gq.sz; have := gq'.sz; simp; omega)
    rw [hf, pairL, show n.d = .tuple [.str w] by unfold Nd.d; rw [hi]] at this
    exact this
  have one : ∀ (n : Nd) (f : Pat → Pat), n.ok = true → (∀ x, (f x).pre = n :: x.pre) → ∀ (b : PyData) (q : Pat) (c4 c5 c6 c7 : Option Cell), Bag b → Good M q →
      WS rest [some (.io b), some (.sh (.int T)), some (.sh (.int M)), some (.ow (.list (ps.map fun p => encS p.pre))), c4, c5, c6, c7, some (.sh (.list ([n.d] ++ q.pre.map Nd.d)))] D := by
    intro n f hn hf b q c4 c5 c6 c7 hb gq
    have := tail b (f q) c4 c5 c6 c7 hb (by unfold Pat.ok; rw [hf]; simp [hn]; exact List.all_eq_true.mp gq.ok) (by rw [hf]; have := gq.sz; simp; omega)
    rw [hf] at this
    exact this
  have leaf : ∀ (n : Nd) (p : Pat), n.ok = true → p.pre = [n] → ∀ (b : PyData) (c4 c5 c6 c7 : Option Cell), Bag b →
      WS rest [some (.io b), some (.sh (.int T)), some (.sh (.int M)), some (.ow (.list (ps.map fun p => encS p.pre))), c4, c5, c6, c7, some (.sh (.list [n.d]))] D := by
    intro n p hn hp b c4 c5 c6 c7 hb
    have := tail b p c4 c5 c6 c7 hb (by unfold Pat.ok; rw [hp]; simp [hn]) (by rw [hp]; simp)
    rw [hp] at this
    exact this
  rcases mw with rfl | rfl | rfl | rfl | rfl | rfl | rfl | rfl | rfl | rfl
  all_goals walk_at "go"
  · refine ⟨_, if_pos (by simp; unfold LIM; omega), ?_⟩
    walk_at "go"
    refine ⟨_, if_pos (by simp; unfold LIM; omega), ?_⟩
    walk_at "go"
    refine (some_ok hb3 (by show 0 < 2; decide) (by show 2 ≤ 1000000; decide)).use fun x outs h => ?_
    obtain ⟨b4, mx, rfl, hb4⟩ := h
    simp only [List.mem_cons, List.not_mem_nil, or_false] at mx
    rcases mx with rfl | rfl
    · walk_at "go"
      refine ⟨_, if_pos (by simp; unfold LIM; omega), ?_⟩
      walk_at "go"
      exact two _ .thn .thn rfl rfl (fun _ _ => rfl) b4 p1 p2 _ _ _ _ hb4 g1 g2
    · walk_at "go"
      refine ⟨_, if_pos (by simp; unfold LIM; omega), ?_⟩
      walk_at "go"
      exact two _ .thn .thn rfl rfl (fun _ _ => rfl) b4 p2 p1 _ _ _ _ hb4 g2 g1
  · refine ⟨_, if_pos (by simp; unfold LIM; omega), ?_⟩
    walk_at "go"
    refine ⟨_, if_pos (by simp; unfold LIM; omega), ?_⟩
    walk_at "go"
    refine (some_ok hb3 (by show 0 < 2; decide) (by show 2 ≤ 1000000; decide)).use fun x outs h => ?_
    obtain ⟨b4, mx, rfl, hb4⟩ := h
    simp only [List.mem_cons, List.not_mem_nil, or_false] at mx
    rcases mx with rfl | rfl
    · walk_at "go"
      refine ⟨_, if_pos (by simp; unfold LIM; omega), ?_⟩
      walk_at "go"
      exact two _ .thn .thn rfl rfl (fun _ _ => rfl) b4 p1 p2 _ _ _ _ hb4 g1 g2
    · walk_at "go"
      refine ⟨_, if_pos (by simp; unfold LIM; omega), ?_⟩
      walk_at "go"
      exact two _ .thn .thn rfl rfl (fun _ _ => rfl) b4 p2 p1 _ _ _ _ hb4 g2 g1
  · refine ⟨_, if_pos (by simp; unfold LIM; omega), ?_⟩
    walk_at "go"
    refine ⟨_, if_pos (by simp; unfold LIM; omega), ?_⟩
    walk_at "go"
    refine (some_ok hb3 (by show 0 < 2; decide) (by show 2 ≤ 1000000; decide)).use fun x outs h => ?_
    obtain ⟨b4, mx, rfl, hb4⟩ := h
    simp only [List.mem_cons, List.not_mem_nil, or_false] at mx
    rcases mx with rfl | rfl
    · walk_at "go"
      refine ⟨_, if_pos (by simp; unfold LIM; omega), ?_⟩
      walk_at "go"
      exact two _ .orr .orr rfl rfl (fun _ _ => rfl) b4 p1 p2 _ _ _ _ hb4 g1 g2
    · walk_at "go"
      refine ⟨_, if_pos (by simp; unfold LIM; omega), ?_⟩
      walk_at "go"
      exact two _ .orr .orr rfl rfl (fun _ _ => rfl) b4 p2 p1 _ _ _ _ hb4 g2 g1
  · refine ⟨_, if_pos (by simp; unfold LIM; omega), ?_⟩
    walk_at "go"
    refine ⟨_, if_pos (by simp; unfold LIM; omega), ?_⟩
    walk_at "go"
    refine (some_ok hb3 (by show 0 < 2; decide) (by show 2 ≤ 1000000; decide)).use fun x outs h => ?_
    obtain ⟨b4, mx, rfl, hb4⟩ := h
    simp only [List.mem_cons, List.not_mem_nil, or_false] at mx
    rcases mx with rfl | rfl
    · walk_at "go"
      refine ⟨_, if_pos (by simp; unfold LIM; omega), ?_⟩
      walk_at "go"
      exact two _ .orr .orr rfl rfl (fun _ _ => rfl) b4 p1 p2 _ _ _ _ hb4 g1 g2
    · walk_at "go"
      refine ⟨_, if_pos (by simp; unfold LIM; omega), ?_⟩
      walk_at "go"
      exact two _ .orr .orr rfl rfl (fun _ _ => rfl) b4 p2 p1 _ _ _ _ hb4 g2 g1
  · refine ⟨_, if_pos (by simp; unfold LIM; omega), ?_⟩
    walk_at "go"
    exact one .man .man rfl (fun _ => rfl) b3 p1 _ _ _ _ hb3 g1
  · refine ⟨_, if_pos (by simp; unfold LIM; omega), ?_⟩
    walk_at "go"
    exact one .few .few rfl (fun _ => rfl) b3 p1 _ _ _ _ hb3 g1
  · refine (mark_drawn hb3).use fun x outs h => ?_
    obtain ⟨z, b4, rfl, hz, rfl, hb4⟩ := h
    walk_at "go"
    refine ⟨_, if_pos (by simp; unfold LIM; omega), ?_⟩
    walk_at "go"
    exact one (.mrk z) (.mrk z) hz (fun _ => rfl) b4 p1 _ _ _ _ hb4 g1
  · refine ⟨_, if_pos (by simp; unfold LIM; omega), ?_⟩
    walk_at "go"
    refine ⟨_, if_pos (by simp; unfold LIM; omega), ?_⟩
    walk_at "go"
    refine (some_ok hb3 (by show 0 < 2; decide) (by show 2 ≤ 1000000; decide)).use fun x outs h => ?_
    obtain ⟨b4, mx, rfl, hb4⟩ := h
    simp only [List.mem_cons, List.not_mem_nil, or_false] at mx
    rcases mx with rfl | rfl
    · walk_at "go"
      refine ⟨_, if_pos (by simp; unfold LIM; omega), ?_⟩
      walk_at "go"
      exact two _ .thn .thn rfl rfl (fun _ _ => rfl) b4 p1 p2 _ _ _ _ hb4 g1 g2
    · walk_at "go"
      refine ⟨_, if_pos (by simp; unfold LIM; omega), ?_⟩
      walk_at "go"
      exact two _ .thn .thn rfl rfl (fun _ _ => rfl) b4 p2 p1 _ _ _ _ hb4 g2 g1
  · refine (lot_drawn hb3).use fun x outs h => ?_
    obtain ⟨z, b4, rfl, hz, rfl, hb4⟩ := h
    walk_at "go"
    exact leaf (.sig z) (.sig z) hz rfl b4 _ _ _ _ hb4
  · refine (pick_ok hb3 (by decide) (by decide)).use fun x outs h => ?_
    obtain ⟨d, b4, rfl, rfl, hb4, d0, d1⟩ := h
    walk_at "go"
    refine ifB (fun h => ?_) (fun h => ?_)
    · walk_at "go"
      refine (lot_drawn hb4).use fun x outs h => ?_
      obtain ⟨z, b5, rfl, hz, rfl, hb5⟩ := h
      walk_at "go"
      exact leaf (.sig z) (.sig z) hz rfl b5 _ _ _ _ hb5
    · walk_at "go"
      exact leaf .non .non rfl rfl b4 _ _ _ _ hb4

set_option Elab.async false
set_option linter.all false
set_option maxRecDepth 100000
set_option maxHeartbeats 4000000
open PySem PySem.Spec PyProof.Rows L2 FR MV
structure DrawnR (M : Nat) (r : PyData) (outs : List PyData) : Prop where
  ex : ∃ (b' : PyData) (p : Pat), outs = [b'] ∧ Bag b' ∧ r = encS p.pre ∧ Good M p
theorem atI_neg {α : Type} {xs : List α} {i : Int} (h : i < 0) (h2 : -(xs.length : Int) ≤ i) : ∃ x, atI xs i = some x ∧ x ∈ xs := by
  have e : ixN xs.length i = some (i + xs.length).toNat := by
    unfold ixN
    rw [if_neg (by omega), if_pos (by omega)]
  have lt : (i + xs.length).toNat < xs.length := by omega
  refine ⟨xs[(i + xs.length).toNat], ?_, List.getElem_mem _⟩
  unfold atI
  rw [e]
  exact List.getElem?_eq_getElem lt
theorem drawn_ok {b : PyData} (hb : Bag b) {T M : Nat} (hT : T ≤ 800) (hM1 : 1 ≤ M) (hM : M ≤ 400) : WFo (f_law_drawn [b, .int T, .int M]) (DrawnR M) := by
  unfold f_law_drawn
  refine wf_run ?_
  dsimp only [m_law_drawn, m_law_drawn_0, m_law_drawn_2]
  have turn := @drawn_turn M T hM
  generalize m_law_drawn_1l = lp at turn ⊢
  walk_at "go"
  refine (lot_drawn hb).use fun r outs h => ?_
  obtain ⟨z1, b1, rfl, hz1, rfl, hb1⟩ := h
  walk_at "go"
  refine (lot_drawn hb1).use fun r outs h => ?_
  obtain ⟨z2, b2, rfl, hz2, rfl, hb2⟩ := h
  walk_at "go"
  refine ⟨sm_in (by omega) (by omega), ?_⟩
  walk_at "go"
  refine wl_for (DrawI M T) ?_ ?_ ?_
  · refine ⟨b2, [.sig z1, .sig z2, .emp], _, _, _, _, _, rfl, hb2, ?_, by simp, ?_⟩
    · intro p m
      simp only [List.mem_cons, List.not_mem_nil, or_false] at m
      rcases m with rfl | rfl | rfl
      · exact ⟨by show (lotB (.str z1) && true) = true; rw [hz1]; rfl, hM1, by show 1 ≤ 13; decide⟩
      · exact ⟨by show (lotB (.str z2) && true) = true; rw [hz2]; rfl, hM1, by show 1 ≤ 13; decide⟩
      · exact ⟨rfl, hM1, by show 1 ≤ 13; decide⟩
    · unfold rngB; simp; omega
  · intro d r st ⟨b, ps, c4, c5, c6, c7, c8, e, hb, hg, h3, hl⟩
    subst e
    rw [List.length_cons] at hl
    walk_at "go"
    exact turn hb hg h3 hl fun s h => h
  · intro st ⟨b, ps, c4, c5, c6, c7, c8, e, hb, hg, h3, hl⟩
    subst e
    dsimp only [encP]
    walk_at "go"
    refine (pick_ok hb (by decide) (by decide)).use fun x outs h => ?_
    obtain ⟨d, b', rfl, rfl, hb', d0, d1⟩ := h
    walk_at "go"
    obtain ⟨x, ex, mx⟩ := atI_neg (xs := ps.map fun p => encS p.pre) (i := -1 - d) (by omega) (by rw [List.length_map]; omega)
    obtain ⟨p, mp, rfl⟩ := mem_encP mx
    refine ⟨_, ex, ?_⟩
    walk_at "go"
    exact ⟨_, p, rfl, hb', rfl, hg p mp⟩

set_option Elab.async false
set_option linter.all false
set_option maxRecDepth 100000
set_option maxHeartbeats 4000000
open PySem PySem.Spec PyProof.Rows L2 FR MV
theorem isPatB_eq (x : PyData) : isPatB x = (match patN 15 x with | some n => decide (n ≤ 60) | none => false) := by
  unfold isPatB verdict
  rw [stackO_one]
  show (match patN 15 x with | some n => decide (0 + n ≤ 60) | none => false) = _
  cases patN 15 x with
  | none => rfl
  | some n => show decide (0 + n ≤ 60) = decide (n ≤ 60); rw [Nat.zero_add]
theorem isPat_pat {p : Pat} (hp : p.ok = true) : isPatB (p.toD .none) = (decide (p.dep ≤ 15) && decide (p.pre.length ≤ 60)) := by
  rw [isPatB_eq, Pat.patN_ok p 15 hp]
  by_cases h : p.dep ≤ 15
  · rw [if_pos h, decide_eq_true h]; rfl
  · rw [if_neg h, decide_eq_false h]; rfl
theorem isPat_form {x : PyData} (h : formB x = false) : isPatB x = false := by
  rw [isPatB_eq, Pat.patN_bad h]
theorem noOdd {p : Pat} (hp : p.ok = true) : ∀ n ∈ p.pre, n.isOdd = false := fun n m => by
  have := List.all_eq_true.mp hp n m
  cases n <;> first | rfl | cases this
theorem patIs {p : Pat} (hp : p.ok = true) : Ans (f_is_pattern [p.toD .none]) (.bool (isPatB (p.toD .none))) := isPat_ok (Pat.okD_toD rfl p (Pat.okh_of hp))
structure YesR (r : PyData) (outs : List PyData) : Prop where
  ex : ∃ b' : PyData, r = .bool true ∧ outs = [b'] ∧ Bag b'
theorem mem_ok {z : Str} {l : List Nat} (hl : l.all (fun c => decide (c < 0x110000)) = true) (h : z.cps.toList.all (fun c => decide (c ∈ l)) = true) : PyData.strOk z = true := by
  unfold PyData.strOk
  rw [← Array.all_toList]
  exact List.all_eq_true.mpr fun c m => List.all_eq_true.mp hl c (of_decide_eq_true (List.all_eq_true.mp h c m))
theorem lot_strOk {z : Str} (h : lotB (.str z) = true) : PyData.strOk z = true := by
  unfold lotB at h
  obtain ⟨h, _⟩ := Bool.and_eq_true_iff.mp h
  obtain ⟨h, _⟩ := Bool.and_eq_true_iff.mp h
  unfold areB at h
  exact mem_ok (by decide +kernel) (Bool.and_eq_true_iff.mp h).2
theorem mark_strOk {z : Str} (h : markB (.str z) = true) : PyData.strOk z = true := by
  unfold markB at h
  obtain ⟨_, h⟩ := Bool.and_eq_true_iff.mp h
  exact mem_ok (by decide +kernel) (Bool.and_eq_true_iff.mp h).2

set_option Elab.async false
set_option linter.all false
set_option maxRecDepth 100000
set_option maxHeartbeats 4000000
open PySem PySem.Spec PyProof.Rows L2 FR MV
/-! ### rows of nodes -/
theorem ans_eq {o : FOut} {r : PyData} (h : Ans o r) : o = .ok r [] := by
  have h := h.w.h
  cases o with
  | ok r' outs => obtain ⟨rfl, rfl⟩ := h; rfl
  | err => exact h.elim
  | bad => exact h.elim
theorem ans_of {o : FOut} {r : PyData} (h : o = .ok r []) : Ans o r := ⟨⟨by rw [h]; exact ⟨rfl, rfl⟩⟩⟩
namespace Pat
def chs : Pat → List Pat
  | thn a b | orr a b => [a, b]
  | man a | few a | mrk _ a => [a]
  | _ => []
/-- the rows of the nodes, the first being the i-th -/
def rows : Nat → Pat → List (Pat × List Nat)
  | i, p@(thn a b) | i, p@(orr a b) => (p, [i + 1, i + 1 + a.pre.length]) :: (rows (i + 1) a ++ rows (i + 1 + a.pre.length) b)
  | i, p@(man a) | i, p@(few a) | i, p@(mrk _ a) => (p, [i + 1]) :: rows (i + 1) a
  | _, p => [(p, [])]
theorem rows_len : ∀ (p : Pat) (i : Nat), (rows i p).length = p.pre.length := by
  intro p
  induction p <;> intro i <;> simp_all [rows, pre]
end Pat
def rowE (q : Pat × List Nat) : PyData × List Int := (q.1.toD .none, List.map (fun n : Nat => (Nat.cast n : Int)) q.2)
def rowsE (i : Nat) (p : Pat) : List (PyData × List Int) := (Pat.rows i p).map rowE
theorem rowsE_len (p : Pat) (i : Nat) : (rowsE i p).length = p.pre.length := by unfold rowsE; rw [List.length_map, Pat.rows_len]
def addKid (rows : List (PyData × List Int)) (above : Int) : List (PyData × List Int) := if 0 ≤ above then kidAt rows above.toNat rows.length else rows
theorem kidAt_len (rows : List (PyData × List Int)) (i : Nat) (n : Int) : (kidAt rows i n).length = rows.length := by
  unfold kidAt; split <;> simp
theorem addKid_len (rows : List (PyData × List Int)) (a : Int) : (addKid rows a).length = rows.length := by
  unfold addKid; split
  · exact kidAt_len _ _ _
  · rfl
theorem kidAt_mid {A B : List (PyData × List Int)} {q : PyData × List Int} {n : Int} : kidAt (A ++ q :: B) A.length n = A ++ (q.1, q.2 ++ [n]) :: B := by
  unfold kidAt
  rw [List.getElem?_append_right (Nat.le_refl _), Nat.sub_self]
  show (A ++ q :: B).set A.length (q.1, q.2 ++ [n]) = _
  simp
theorem addKid_mid {A B : List (PyData × List Int)} {q : PyData × List Int} : addKid (A ++ q :: B) (A.length : Int) = A ++ (q.1, q.2 ++ [((A ++ q :: B).length : Int)]) :: B := by
  unfold addKid
  rw [if_pos (by omega), Int.toNat_natCast, kidAt_mid]
def kidsOk (rows : List (PyData × List Int)) : Prop := ∀ q ∈ rows, q.2.length ≤ rows.length
theorem kidsOk_add {rows : List (PyData × List Int)} {a : Int} {x : PyData} (h : kidsOk rows) : kidsOk (addKid rows a ++ [(x, [])]) := by
  intro q m
  rw [List.length_append, addKid_len, List.length_singleton]
  rcases List.mem_append.mp m with m | m
  · unfold addKid at m
    split at m
    · unfold kidAt at m
      split at m
      · rename_i q0 e
        rcases List.mem_or_eq_of_mem_set m with m | rfl
        · have := h q m; omega
        · have := h q0 (List.mem_of_getElem? e)
          show (q0.2 ++ [_]).length ≤ _
          rw [List.length_append, List.length_singleton]; omega
      · have := h q m; omega
    · have := h q m; omega
  · rw [List.mem_singleton.mp m]; exact Nat.zero_le _
theorem parts_toD {p : Pat} (hp : p.ok = true) : formB (p.toD .none) = true ∧ partsB (p.toD .none) = p.chs.map (Pat.toD .none) := by
  cases p with
  | non => exact ⟨by show formB (.tuple [.str "none"]) = true; rw [form_none]; rfl, by show partsB (.tuple [.str "none"]) = []; rw [parts_none]⟩
  | emp => exact ⟨by show formB (.tuple [.str "empty"]) = true; rw [form_empty]; rfl, by show partsB (.tuple [.str "empty"]) = []; rw [parts_empty]⟩
  | sig z =>
    have hz : lotB (.str z) = true := by simpa [Pat.ok, Pat.pre, Nd.ok] using hp
    exact ⟨by show formB (.tuple [.str "sign", .str z]) = true; rw [form_sign]; exact hz, by show partsB (.tuple [.str "sign", .str z]) = []; rw [parts_sign]⟩
  | thn a b => exact ⟨by show formB (.tuple [.str "then", a.toD .none, b.toD .none]) = true; rw [form_then]; rfl, by show partsB (.tuple [.str "then", a.toD .none, b.toD .none]) = [a.toD .none, b.toD .none]; rw [parts_then]⟩
  | orr a b => exact ⟨by show formB (.tuple [.str "or", a.toD .none, b.toD .none]) = true; rw [form_or]; rfl, by show partsB (.tuple [.str "or", a.toD .none, b.toD .none]) = [a.toD .none, b.toD .none]; rw [parts_or]⟩
  | man a => exact ⟨by show formB (.tuple [.str "many", a.toD .none]) = true; rw [form_many]; rfl, by show partsB (.tuple [.str "many", a.toD .none]) = [a.toD .none]; rw [parts_many]⟩
  | few a => exact ⟨by show formB (.tuple [.str "few", a.toD .none]) = true; rw [form_few]; rfl, by show partsB (.tuple [.str "few", a.toD .none]) = [a.toD .none]; rw [parts_few]⟩
  | mrk z a =>
    have hz : markB (.str z) = true := by
      have : markB (.str z) = true ∧ a.ok = true := by simpa [Pat.ok, Pat.pre, Nd.ok] using hp
      exact this.1
    exact ⟨by show formB (.tuple [.str "mark", .str z, a.toD .none]) = true; rw [form_mark]; exact hz, by show partsB (.tuple [.str "mark", .str z, a.toD .none]) = [a.toD .none]; rw [parts_mark]; rfl⟩
  | hol => cases hp
theorem parts_P {p : Pat} (hp : p.ok = true) : f_parts_of [p.toD .none] = .ok (.list (p.chs.map (Pat.toD .none))) [] := by
  obtain ⟨h1, h2⟩ := parts_toD hp
  rw [ans_eq (parts_ok h1), h2]
theorem chs_len (p : Pat) : p.chs.length ≤ 2 := by cases p <;> simp [Pat.chs]
theorem chs_ok {p : Pat} (hp : p.ok = true) : ∀ q ∈ p.chs, q.ok = true := by
  intro q m
  cases p with
  | thn a b =>
    have ho : a.ok = true ∧ b.ok = true := by simpa [Pat.ok, Pat.pre, Nd.ok] using hp
    simp only [Pat.chs, List.mem_cons, List.not_mem_nil, or_false] at m
    rcases m with rfl | rfl
    · exact ho.1
    · exact ho.2
  | orr a b =>
    have ho : a.ok = true ∧ b.ok = true := by simpa [Pat.ok, Pat.pre, Nd.ok] using hp
    simp only [Pat.chs, List.mem_cons, List.not_mem_nil, or_false] at m
    rcases m with rfl | rfl
    · exact ho.1
    · exact ho.2
  | man a =>
    have ho : a.ok = true := by simpa [Pat.ok, Pat.pre, Nd.ok] using hp
    rw [List.mem_singleton.mp m]; exact ho
  | few a =>
    have ho : a.ok = true := by simpa [Pat.ok, Pat.pre, Nd.ok] using hp
    rw [List.mem_singleton.mp m]; exact ho
  | mrk z a =>
    have ho : markB (.str z) = true ∧ a.ok = true := by simpa [Pat.ok, Pat.pre, Nd.ok] using hp
    rw [List.mem_singleton.mp m]; exact ho.2
  | _ => cases m
/-- one node taken from what waits -/
theorem rows_step {n : Nat} {rows : List (PyData × List Int)} {wt : List (PyData × Int)} {p : Pat} {above : Int} (hp : p.ok = true) (h1 : above < rows.length) (h2 : -1 ≤ above) (h3 : rows.length ≤ 1000) (h4 : wt.length ≤ 1000) (h5 : kidsOk rows) :
    rowsN f_parts_of (n + 1) rows (wt ++ [(p.toD .none, above)]) = rowsN f_parts_of n (addKid rows above ++ [(p.toD .none, [])]) (wt ++ (p.chs.map fun c => (c.toD .none, (rows.length : Int))).reverse) := by
  conv => lhs; unfold rowsN
  rw [List.getLast?_append]
  dsimp only [List.getLast?_singleton, Option.some_or]
  have e1 : (p.chs.map fun c => (c.toD .none, (rows.length : Int))) = ((p.chs.map (Pat.toD .none)).map fun d => (d, (rows.length : Int))) := by rw [List.map_map]; rfl
  rw [List.dropLast_concat, parts_P hp, if_pos ⟨h1, h2, by omega, by rw [List.length_append, List.length_singleton]; omega, fun q m => by have := h5 q m; omega⟩, e1]
  dsimp only
  rw [if_pos (by rw [List.length_map]; have := chs_len p; omega)]
  rfl
theorem rows_pat : ∀ (p : Pat) (n : Nat) (rows : List (PyData × List Int)) (wt : List (PyData × Int)) (above : Int), p.ok = true → above < rows.length → -1 ≤ above → rows.length + p.pre.length ≤ 1000 → wt.length + p.pre.length ≤ 1000 → kidsOk rows →
    rowsN f_parts_of (n + p.pre.length) rows (wt ++ [(p.toD .none, above)]) = rowsN f_parts_of n (addKid rows above ++ rowsE rows.length p) wt ∧ kidsOk (addKid rows above ++ rowsE rows.length p) := by
  intro p
  have leaf : ∀ (p : Pat) (n : Nat) (rows : List (PyData × List Int)) (wt : List (PyData × Int)) (above : Int), p.chs = [] → p.pre.length = 1 → (∀ i, rowsE i p = [(p.toD .none, [])]) → p.ok = true → above < rows.length → -1 ≤ above → rows.length + p.pre.length ≤ 1000 → wt.length + p.pre.length ≤ 1000 → kidsOk rows →
      rowsN f_parts_of (n + p.pre.length) rows (wt ++ [(p.toD .none, above)]) = rowsN f_parts_of n (addKid rows above ++ rowsE rows.length p) wt ∧ kidsOk (addKid rows above ++ rowsE rows.length p) := by
    intro p n rows wt above hc hl hr hp h1 h2 h3 h4 h5
    rw [hl, rows_step hp h1 h2 (by omega) (by omega) h5, hc, hr]
    exact ⟨by simp, kidsOk_add h5⟩
  have one : ∀ (p a : Pat) (n : Nat) (rows : List (PyData × List Int)) (wt : List (PyData × Int)) (above : Int), p.chs = [a] → p.pre.length = a.pre.length + 1 → (∀ i, rowsE i p = (p.toD .none, [((i + 1 : Nat) : Int)]) :: rowsE (i + 1) a) →
      (∀ (n : Nat) (rows : List (PyData × List Int)) (wt : List (PyData × Int)) (above : Int), a.ok = true → above < rows.length → -1 ≤ above → rows.length + a.pre.length ≤ 1000 → wt.length + a.pre.length ≤ 1000 → kidsOk rows →
        rowsN f_parts_of (n + a.pre.length) rows (wt ++ [(a.toD .none, above)]) = rowsN f_parts_of n (addKid rows above ++ rowsE rows.length a) wt ∧ kidsOk (addKid rows above ++ rowsE rows.length a)) →
      p.ok = true → above < rows.length → -1 ≤ above → rows.length + p.pre.length ≤ 1000 → wt.length + p.pre.length ≤ 1000 → kidsOk rows →
      rowsN f_parts_of (n + p.pre.length) rows (wt ++ [(p.toD .none, above)]) = rowsN f_parts_of n (addKid rows above ++ rowsE rows.length p) wt ∧ kidsOk (addKid rows above ++ rowsE rows.length p) := by
    intro p a n rows wt above hc hl hr ih hp h1 h2 h3 h4 h5
    have ha : a.ok = true := chs_ok hp a (by rw [hc]; exact .head _)
    have l1 : (addKid rows above).length = rows.length := addKid_len _ _
    rw [hl, show n + (a.pre.length + 1) = (n + a.pre.length) + 1 by omega, rows_step hp h1 h2 (by omega) (by omega) h5, hc, hr]
    have q := ih n (addKid rows above ++ [(p.toD .none, [])]) wt (rows.length : Int) ha (by rw [List.length_append, l1, List.length_singleton]; omega) (by omega) (by rw [List.length_append, l1, List.length_singleton]; omega) (by omega) (kidsOk_add h5)
    rw [show (rows.length : Int) = ((addKid rows above).length : Int) by rw [l1]] at q ⊢
    rw [addKid_mid] at q
    simp only [List.length_append, List.length_singleton, l1, List.nil_append, List.append_assoc, List.cons_append] at q
    simp only [List.map_cons, List.map_nil, List.reverse_singleton, l1]
    exact q
  have two : ∀ (p a b : Pat) (n : Nat) (rows : List (PyData × List Int)) (wt : List (PyData × Int)) (above : Int), p.chs = [a, b] → p.pre.length = a.pre.length + b.pre.length + 1 → (∀ i, rowsE i p = (p.toD .none, [((i + 1 : Nat) : Int), ((i + 1 + a.pre.length : Nat) : Int)]) :: (rowsE (i + 1) a ++ rowsE (i + 1 + a.pre.length) b)) →
      (∀ (n : Nat) (rows : List (PyData × List Int)) (wt : List (PyData × Int)) (above : Int), a.ok = true → above < rows.length → -1 ≤ above → rows.length + a.pre.length ≤ 1000 → wt.length + a.pre.length ≤ 1000 → kidsOk rows →
        rowsN f_parts_of (n + a.pre.length) rows (wt ++ [(a.toD .none, above)]) = rowsN f_parts_of n (addKid rows above ++ rowsE rows.length a) wt ∧ kidsOk (addKid rows above ++ rowsE rows.length a)) →
      (∀ (n : Nat) (rows : List (PyData × List Int)) (wt : List (PyData × Int)) (above : Int), b.ok = true → above < rows.length → -1 ≤ above → rows.length + b.pre.length ≤ 1000 → wt.length + b.pre.length ≤ 1000 → kidsOk rows →
        rowsN f_parts_of (n + b.pre.length) rows (wt ++ [(b.toD .none, above)]) = rowsN f_parts_of n (addKid rows above ++ rowsE rows.length b) wt ∧ kidsOk (addKid rows above ++ rowsE rows.length b)) →
      p.ok = true → above < rows.length → -1 ≤ above → rows.length + p.pre.length ≤ 1000 → wt.length + p.pre.length ≤ 1000 → kidsOk rows →
      rowsN f_parts_of (n + p.pre.length) rows (wt ++ [(p.toD .none, above)]) = rowsN f_parts_of n (addKid rows above ++ rowsE rows.length p) wt ∧ kidsOk (addKid rows above ++ rowsE rows.length p) := by
    intro p a b n rows wt above hc hl hr iha ihb hp h1 h2 h3 h4 h5
    have ha : a.ok = true := chs_ok hp a (by rw [hc]; exact .head _)
    have hb : b.ok = true := chs_ok hp b (by rw [hc]; exact .tail _ (.head _))
    have l1 : (addKid rows above).length = rows.length := addKid_len _ _
    rw [hl, show n + (a.pre.length + b.pre.length + 1) = ((n + b.pre.length) + a.pre.length) + 1 by omega, rows_step hp h1 h2 (by omega) (by omega) h5, hc, hr]
    have q := iha (n + b.pre.length) (addKid rows above ++ [(p.toD .none, [])]) (wt ++ [(b.toD .none, (rows.length : Int))]) (rows.length : Int) ha (by rw [List.length_append, l1, List.length_singleton]; omega) (by omega) (by rw [List.length_append, l1, List.length_singleton]; omega) (by rw [List.length_append, List.length_singleton]; omega) (kidsOk_add h5)
    have el : (rows.length : Int) = ((addKid rows above).length : Int) := by rw [l1]
    rw [el] at q
    rw [addKid_mid] at q
    simp only [List.length_append, List.length_singleton, l1, List.nil_append, List.append_assoc, List.cons_append] at q
    have q2 := ihb n (addKid rows above ++ (p.toD .none, [((rows.length + 1 : Nat) : Int)]) :: rowsE (rows.length + 1) a) wt (rows.length : Int) hb (by rw [List.length_append, l1, List.length_cons]; omega) (by omega) (by rw [List.length_append, l1, List.length_cons, rowsE_len]; omega) (by omega) q.2
    rw [el] at q2
    rw [addKid_mid] at q2
    simp only [List.length_append, List.length_cons, rowsE_len, l1, List.nil_append, List.append_assoc, List.cons_append] at q2
    simp only [List.map_cons, List.map_nil, List.reverse_cons, List.reverse_nil, List.nil_append, List.cons_append, l1]
    rw [show rows.length + (a.pre.length + 1) = rows.length + 1 + a.pre.length by omega] at q2
    rw [← q2.1, ← q.1]
    exact ⟨rfl, q2.2⟩
  induction p with
  | non => intro n rows wt above; exact leaf _ n rows wt above rfl rfl (fun _ => rfl)
  | emp => intro n rows wt above; exact leaf _ n rows wt above rfl rfl (fun _ => rfl)
  | sig z => intro n rows wt above; exact leaf _ n rows wt above rfl rfl (fun _ => rfl)
  | hol => intro n rows wt above; exact leaf _ n rows wt above rfl rfl (fun _ => rfl)
  | man a ih => intro n rows wt above; exact one _ a n rows wt above rfl rfl (fun _ => rfl) ih
  | few a ih => intro n rows wt above; exact one _ a n rows wt above rfl rfl (fun _ => rfl) ih
  | mrk z a ih => intro n rows wt above; exact one _ a n rows wt above rfl rfl (fun _ => rfl) ih
  | thn a b iha ihb => intro n rows wt above; exact two _ a b n rows wt above rfl (by simp [Pat.pre]) (fun i => by unfold rowsE; simp [Pat.rows, rowE]) iha ihb
  | orr a b iha ihb => intro n rows wt above; exact two _ a b n rows wt above rfl (by simp [Pat.pre]) (fun i => by unfold rowsE; simp [Pat.rows, rowE]) iha ihb
/-- node_rows of a pattern -/
theorem rows_ok {p : Pat} (hp : p.ok = true) (hl : p.pre.length ≤ 900) : Ans (f_node_rows [p.toD .none]) (.list ((rowsE 0 p).map rowD)) := by
  refine ans_of ?_
  show rowsN f_parts_of 1000000 [] ([] ++ [(p.toD .none, -1)]) = _
  obtain ⟨k, hk⟩ : ∃ k, 1000000 = (k + 1) + p.pre.length := ⟨999999 - p.pre.length, by omega⟩
  rw [hk, (rows_pat p (k + 1) [] [] (-1) hp (by decide) (by decide) (by simpa using (by omega : p.pre.length ≤ 1000)) (by simpa using (by omega : p.pre.length ≤ 1000)) (fun q m => absurd m List.not_mem_nil)).1]
  rfl

set_option Elab.async false
set_option linter.all false
set_option maxRecDepth 100000
set_option maxHeartbeats 4000000
open PySem PySem.Spec PyProof.Rows L2 FR MV
/-! ### what is no pattern is refused; nodes, depth -/
theorem chk_good {x : PyData} (ho : okD x = true) (h : isPatB x = true) : Ans (f_check_pattern [x]) .none := by
  unfold f_check_pattern
  refine ⟨wf_run ?_⟩
  dsimp only [m_check_pattern, m_check_pattern_0]
  walk_at "go"
  refine (isPat_ok ho).use ?_
  rw [h]
  walk_at "go"
theorem chk_bad {x : PyData} (ho : okD x = true) (h : isPatB x = false) : Rai (f_check_pattern [x]) "NoPattern" := by
  unfold f_check_pattern
  refine ⟨wf_run ?_⟩
  dsimp only [m_check_pattern, m_check_pattern_0]
  walk_at "go"
  refine (isPat_ok ho).use ?_
  rw [h]
  walk_at "go"
/-- a pattern, by its bounds -/
structure Fine (p : Pat) : Prop where
  ok : p.ok = true
  dp : p.dep ≤ 15
  sz : p.pre.length ≤ 60
theorem Fine.chk {p : Pat} (h : Fine p) : Ans (f_check_pattern [p.toD .none]) .none := chk_good (Pat.okD_toD rfl p (Pat.okh_of h.ok)) (by rw [isPat_pat h.ok, decide_eq_true h.dp, decide_eq_true h.sz]; rfl)
theorem many_ok {p : Pat} (h : Fine p) : Ans (f_nodes_many [p.toD .none]) (.int p.pre.length) := by
  unfold f_nodes_many
  refine ⟨wf_run ?_⟩
  dsimp only [m_nodes_many, m_nodes_many_0, m_nodes_many_1]
  have sz := h.sz
  walk_at "go"
  refine h.chk.use ?_
  walk_at "go"
  refine (rows_ok h.ok (by omega)).use ?_
  walk_at "go"
  refine ⟨?_, rfl⟩
  rw [List.length_map, rowsE_len]
theorem many_bad {x : PyData} (ho : okD x = true) (h : isPatB x = false) : Rai (f_nodes_many [x]) "NoPattern" := by
  unfold f_nodes_many
  refine ⟨wf_run ?_⟩
  dsimp only [m_nodes_many, m_nodes_many_0, m_nodes_many_1]
  walk_at "go"
  refine (chk_bad ho h).use ?_
  all_goals walk_at "go"
theorem deep_bad {x : PyData} (ho : okD x = true) (h : isPatB x = false) : Rai (f_deep [x]) "NoPattern" := by
  unfold f_deep
  refine ⟨wf_run ?_⟩
  dsimp only [m_deep, m_deep_0, m_deep_1, m_deep_2, m_deep_2l, m_deep_2l_2]
  walk_at "go"
  refine (chk_bad ho h).use ?_
  all_goals walk_at "go"
def dmax : List (Pat × Nat) → Nat
  | [] => 0
  | q :: r => max (q.2 + q.1.dep - 1) (dmax r)
theorem dmax_app : ∀ a b : List (Pat × Nat), dmax (a ++ b) = max (dmax a) (dmax b)
  | [], b => by simp [dmax]
  | q :: r, b => by simp only [List.cons_append, dmax, dmax_app r b, Nat.max_assoc]
theorem dmax_chs {p : Pat} {k : Nat} (h : 1 ≤ k) : max k (dmax (p.chs.map fun c => (c, k + 1))) = k + p.dep - 1 := by
  cases p <;> simp [Pat.chs, dmax, Pat.dep] <;> omega
def stk (q : Pat × Nat) : PyData := .tuple [q.1.toD .none, .int q.2]
def szq (st : List (Pat × Nat)) : Nat := (st.map fun q => q.1.pre.length).sum
theorem szq_app (a b : List (Pat × Nat)) : szq (a ++ b) = szq a + szq b := by unfold szq; rw [List.map_append, List.sum_append]
theorem szq_one (q : Pat × Nat) : szq [q] = q.1.pre.length := by simp [szq]
theorem szq_chs (p : Pat) (k : Nat) : szq (p.chs.map fun c => (c, k)) + 1 = p.pre.length := by
  cases p <;> simp [Pat.chs, szq, Pat.pre]
theorem szq_len (st : List (Pat × Nat)) : st.length ≤ szq st := by
  induction st with
  | nil => exact Nat.zero_le _
  | cons q r ih =>
    have := Pat.pre_pos q.1
    show r.length + 1 ≤ _
    unfold szq at ih ⊢
    rw [List.map_cons, List.sum_cons]; omega
theorem deep_ok {p : Pat} (h : Fine p) : Ans (f_deep [p.toD .none]) (.int p.dep) := by
  unfold f_deep
  refine ⟨wf_run ?_⟩
  dsimp only [m_deep, m_deep_0, m_deep_1, m_deep_2, m_deep_2l, m_deep_2l_2]
  have sz := h.sz
  have dp := Pat.dep_pos p
  walk_at "go"
  refine h.chk.use ?_
  walk_at "go"
  refine ws_while (fun n st => ∃ (f : Nat) (wt : List (Pat × Nat)) (c3 c4 : Option Cell), st = [some (.sh (p.toD .none)), some (.sh (.int f)), some (.ow (.list (wt.map stk))), c3, c4, none] ∧ n = szq wt ∧ szq wt ≤ 60 ∧ (∀ q ∈ wt, q.1.ok = true ∧ 1 ≤ q.2) ∧ max f (dmax wt) = p.dep) (n := p.pre.length) (by omega) ?_ ?_
  · refine ⟨0, [(p, 1)], _, _, rfl, (szq_one (p, 1)).symm, by rw [szq_one]; exact sz, fun q m => ?_, ?_⟩
    · rw [List.mem_singleton.mp m]; exact ⟨h.ok, Nat.le_refl 1⟩
    · simp [dmax]
  · intro n st ⟨f, wt, c3, c4, e, en, hs, ho, hm⟩
    subst e en
    walk_at "go"
    rw [List.length_map]
    refine ifB (fun h => ?_) (fun h => ?_)
    · have hne : wt ≠ [] := fun e => by subst e; cases h
      obtain ⟨r, ⟨q, k⟩, rfl⟩ := last_ex hne
      have hq := ho (q, k) (by simp)
      have lr := szq_len (r ++ [(q, k)])
      rw [List.length_append, List.length_singleton] at lr
      have sc := szq_chs q (k + 1)
      rw [szq_app, szq_one] at hs lr
      dsimp only at hs lr
      walk_at "go"
      refine ⟨stk (q, k), by simp, ?_⟩
      rw [show (List.map stk (r ++ [(q, k)])).dropLast = r.map stk by simp]
      walk_at "go"
      refine (ans_of (parts_P hq.1)).use ?_
      walk_at "go"
      refine wl_map (h := Pat.toD .none) (cs := q.chs) (fun c => stk (c, k + 1)) (fun c mc => ?_) (by have := chs_len q; unfold LIM; omega) ?_
      · walk_at "go"
      · refine ⟨_, _, rfl, rfl, by rw [List.length_map, List.length_map]; have := chs_len q; unfold LIM; omega, ?_⟩
        walk_at "go"
        refine ⟨szq (r ++ q.chs.map fun c => (c, k + 1)), by rw [szq_app, szq_app, szq_one]; show _ < szq r + q.pre.length; omega, max f k, r ++ q.chs.map (fun c => (c, k + 1)), some (.sh (q.toD .none)), some (.sh (.int k)), ?_, rfl, by rw [szq_app]; omega, fun x m => ?_, ?_⟩
        · rw [List.map_append, List.map_map]
          have e : (if (k : Int) > (f : Int) then (k : Int) else (f : Int)) = ((max f k : Nat) : Int) := by
            split <;> omega
          rw [e]
          rfl
        · rcases List.mem_append.mp m with m | m
          · exact ho x (List.mem_append_left _ m)
          · obtain ⟨c, mc, rfl⟩ := List.mem_map.mp m
            exact ⟨chs_ok hq.1 c mc, by show 1 ≤ k + 1; omega⟩
        · rw [dmax_app] at hm ⊢
          have := dmax_chs (p := q) (k := k) hq.2
          simp only [dmax] at hm
          omega
    · walk_at "go"
      have e : wt = [] := by
        cases wt with
        | nil => rfl
        | cons q r => exact absurd (of_decide_eq_false h) (by rw [List.length_cons]; omega)
      subst e
      refine ⟨?_, rfl⟩
      simp only [dmax, Nat.max_zero] at hm
      rw [hm]

set_option Elab.async false
set_option linter.all false
set_option maxRecDepth 100000
set_option maxHeartbeats 4000000
open PySem PySem.Spec PyProof.Rows L2 FR MV
/-! ### marks, lots, nodes by their numbers -/
namespace Pat
def hd : Pat → Nd
  | non => .non
  | emp => .emp
  | sig z => .sig z
  | thn _ _ => .thn
  | orr _ _ => .orr
  | man _ => .man
  | few _ => .few
  | mrk z _ => .mrk z
  | hol => .odd
theorem rows_hd : ∀ (p : Pat) (i : Nat), (rows i p).map (fun q => q.1.hd) = p.pre := by
  intro p
  induction p <;> intro i <;> simp_all [rows, pre, hd]
end Pat
theorem rows_at : ∀ (p : Pat) (i j : Nat) (q : Pat × List Nat), (Pat.rows i p)[j]? = some q → ∃ A B, p.pre = A ++ (q.1.pre ++ B) ∧ A.length = j := by
  intro p
  have base : ∀ (p : Pat) (r : List (Pat × List Nat)) (ks : List Nat) (j : Nat) (q : Pat × List Nat), ((p, ks) :: r)[j]? = some q → (∀ j', r[j']? = some q → ∃ A B, p.pre = A ++ (q.1.pre ++ B) ∧ A.length = j' + 1) → ∃ A B, p.pre = A ++ (q.1.pre ++ B) ∧ A.length = j := by
    intro p r ks j q e h
    cases j with
    | zero => cases (Option.some.inj e : (p, ks) = q); exact ⟨[], [], by simp, rfl⟩
    | succ j => exact h j e
  have one : ∀ (n : Nd) (p a : Pat) (i : Nat), p.pre = n :: a.pre → (∀ i j q, (Pat.rows i a)[j]? = some q → ∃ A B, a.pre = A ++ (q.1.pre ++ B) ∧ A.length = j) → ∀ j' q, (Pat.rows i a)[j']? = some q → ∃ A B, p.pre = A ++ (q.1.pre ++ B) ∧ A.length = j' + 1 := by
    intro n p a i hp ih j' q e
    obtain ⟨A, B, h1, h2⟩ := ih i j' q e
    exact ⟨n :: A, B, by rw [hp, h1]; rfl, by rw [List.length_cons, h2]⟩
  have two : ∀ (n : Nd) (p a b : Pat) (i i' : Nat), p.pre = n :: (a.pre ++ b.pre) → (∀ i j q, (Pat.rows i a)[j]? = some q → ∃ A B, a.pre = A ++ (q.1.pre ++ B) ∧ A.length = j) → (∀ i j q, (Pat.rows i b)[j]? = some q → ∃ A B, b.pre = A ++ (q.1.pre ++ B) ∧ A.length = j) →
      ∀ j' q, (Pat.rows i a ++ Pat.rows i' b)[j']? = some q → ∃ A B, p.pre = A ++ (q.1.pre ++ B) ∧ A.length = j' + 1 := by
    intro n p a b i i' hp iha ihb j' q e
    rcases Nat.lt_or_ge j' (Pat.rows i a).length with lt | ge
    · rw [List.getElem?_append_left lt] at e
      obtain ⟨A, B, h1, h2⟩ := iha i j' q e
      exact ⟨n :: A, B ++ b.pre, by rw [hp, h1]; simp, by rw [List.length_cons, h2]⟩
    · rw [List.getElem?_append_right ge] at e
      obtain ⟨A, B, h1, h2⟩ := ihb i' _ q e
      rw [Pat.rows_len] at ge h2
      exact ⟨n :: (a.pre ++ A), B, by rw [hp, h1]; simp, by rw [List.length_cons, List.length_append, h2]; omega⟩
  induction p with
  | non => intro i j q e; exact base _ [] [] j q e (fun j' e => by simp at e)
  | emp => intro i j q e; exact base _ [] [] j q e (fun j' e => by simp at e)
  | sig z => intro i j q e; exact base _ [] [] j q e (fun j' e => by simp at e)
  | hol => intro i j q e; exact base _ [] [] j q e (fun j' e => by simp at e)
  | man a ih => intro i j q e; exact base _ _ _ j q e (one _ _ a _ rfl ih · q ·)
  | few a ih => intro i j q e; exact base _ _ _ j q e (one _ _ a _ rfl ih · q ·)
  | mrk z a ih => intro i j q e; exact base _ _ _ j q e (one _ _ a _ rfl ih · q ·)
  | thn a b iha ihb => intro i j q e; exact base _ _ _ j q e (two _ _ a b _ _ rfl iha ihb · q ·)
  | orr a b iha ihb => intro i j q e; exact base _ _ _ j q e (two _ _ a b _ _ rfl iha ihb · q ·)
theorem sub_ok {p q : Pat} {A B : List Nd} (hp : p.ok = true) (e : p.pre = A ++ (q.pre ++ B)) : q.ok = true := by
  unfold Pat.ok at hp ⊢
  rw [e, List.all_append, List.all_append] at hp
  simp only [Bool.and_eq_true] at hp
  exact hp.2.1
def isMrk : Nd → Bool
  | .mrk _ => true
  | _ => false
def isSig : Nd → Bool
  | .sig _ => true
  | _ => false
/-- a lot's or mark's text -/
def Nd.tx : Nd → Str
  | .sig z => z
  | .mrk z => z
  | _ => ""
/-- the word of a node -/
def Nd.wd (n : Nd) : Str := match n with
  | .non => "none"
  | .emp => "empty"
  | .sig _ => "sign"
  | .thn => "then"
  | .orr => "or"
  | .man => "many"
  | .few => "few"
  | .mrk _ => "mark"
  | .odd => "odd"
theorem wd_mark (n : Nd) : PyData.eqv (.str n.wd) (.str "mark") = isMrk n := by cases n <;> (first | decide +kernel | (show PyData.eqv (.str "sign") (.str "mark") = false; decide +kernel) | (show PyData.eqv (.str "mark") (.str "mark") = true; decide +kernel))
theorem wd_sign (n : Nd) : PyData.eqv (.str n.wd) (.str "sign") = isSig n := by cases n <;> (first | decide +kernel | (show PyData.eqv (.str "sign") (.str "sign") = true; decide +kernel) | (show PyData.eqv (.str "mark") (.str "sign") = false; decide +kernel))
theorem eq_mark (n : Nd) : eqD (.str n.wd) (.str "mark") = some (.bool (isMrk n)) := by
  show some (PyData.bool (PyData.eqv (.str n.wd) (.str "mark"))) = _
  rw [wd_mark]
theorem eq_sign (n : Nd) : eqD (.str n.wd) (.str "sign") = some (.bool (isSig n)) := by
  show some (PyData.bool (PyData.eqv (.str n.wd) (.str "sign"))) = _
  rw [wd_sign]
/-- a node by its place 0, 1 -/
theorem toD_0 {p : Pat} (h : p.ok = true) : ixD (p.toD .none) (.int 0) = some (.str p.hd.wd) := by
  cases p <;> first | rfl | cases h
theorem nd_0 (n : Nd) : ixD n.d (.int 0) = some (.str n.wd) := by cases n <;> rfl
theorem toD_1 {p : Pat} (h : isMrk p.hd = true ∨ isSig p.hd = true) : ixD (p.toD .none) (.int 1) = some (.str p.hd.tx) := by
  cases p <;> first | rfl | (rcases h with h | h <;> cases h)
theorem nd_1 {n : Nd} (h : isMrk n = true ∨ isSig n = true) : ixD n.d (.int 1) = some (.str n.tx) := by
  cases n <;> first | rfl | (rcases h with h | h <;> cases h)
/-- the marks as a dict -/
def mkv (l : List Nd) : List (PyData × PyData) := l.foldl (fun acc n => if isMrk n = true then putL acc (.str n.tx) (.bool true) else acc) []
theorem mkv_snoc (l : List Nd) (n : Nd) : mkv (l ++ [n]) = if isMrk n = true then putL (mkv l) (.str n.tx) (.bool true) else mkv l := by
  unfold mkv
  rw [List.foldl_append]
  rfl
theorem mkv_keys (l : List Nd) : ∀ q ∈ mkv l, ∃ n ∈ l, isMrk n = true ∧ q.1 = .str n.tx := by
  have gen : ∀ (l l0 : List Nd) (acc : List (PyData × PyData)), (∀ n ∈ l, n ∈ l0) → (∀ q ∈ acc, ∃ n ∈ l0, isMrk n = true ∧ q.1 = .str n.tx) → ∀ q ∈ l.foldl (fun acc n => if isMrk n = true then putL acc (.str n.tx) (.bool true) else acc) acc, ∃ n ∈ l0, isMrk n = true ∧ q.1 = .str n.tx := by
    intro l
    induction l with
    | nil => intro l0 acc _ h; exact h
    | cons n r ih =>
      intro l0 acc hl h
      refine ih l0 _ (fun m mm => hl m (.tail _ mm)) ?_
      dsimp only
      split
      · rename_i c
        exact putL_keys (P := fun k => ∃ n ∈ l0, isMrk n = true ∧ k = .str n.tx) h ⟨n, hl n (.head _), c, rfl⟩
      · exact h
  exact gen l l [] (fun _ m => m) (fun q m => absurd m List.not_mem_nil)
theorem mkv_flat (l : List Nd) : flatKs (mkv l) = true := List.all_eq_true.mpr fun q m => by
  obtain ⟨n, _, _, e⟩ := mkv_keys l q m
  rw [e]; rfl
theorem mkv_len (l : List Nd) : (mkv l).length ≤ l.length := by
  have gen : ∀ (l : List Nd) (acc : List (PyData × PyData)), (l.foldl (fun acc n => if isMrk n = true then putL acc (.str n.tx) (.bool true) else acc) acc).length ≤ acc.length + l.length := by
    intro l
    induction l with
    | nil => intro acc; exact Nat.le_refl _
    | cons n r ih =>
      intro acc
      refine Nat.le_trans (ih _) ?_
      rw [List.length_cons]
      dsimp only
      split
      · have := putL_len (ks := acc) (k := .str n.tx) (v := .bool true); omega
      · omega
  have := gen l []
  unfold mkv
  simpa using this
theorem strs_of {ds : List PyData} (h : ∀ d ∈ ds, ∃ z, d = .str z) : ∃ ss, mJoin.strsD ds = some ss := by
  induction ds with
  | nil => exact ⟨[], rfl⟩
  | cons d r ih =>
    obtain ⟨z, rfl⟩ := h d (.head _)
    obtain ⟨ss, e⟩ := ih fun d m => h d (.tail _ m)
    exact ⟨z :: ss, by show (mJoin.strsD r).map (z :: ·) = _; rw [e]; rfl⟩
/-- the marks, sorted -/
theorem marks_sorted {l : List Nd} (hl : l.length ≤ 60) (ho : ∀ n ∈ l, n.ok = true) : ∃ ss : List Str, sortDD (.dict (mkv l)) = some (.list (ss.map .str)) ∧ ss.length ≤ 60 ∧ ∀ z ∈ ss, PyData.strOk z = true := by
  obtain ⟨ss, e⟩ := strs_of (ds := (mkv l).map (·.1)) (fun d m => by
    obtain ⟨q, mq, rfl⟩ := List.mem_map.mp m
    obtain ⟨n, _, _, e⟩ := mkv_keys l q mq
    exact ⟨_, e⟩)
  have e2 := strsD_ex e
  have ll : ss.length ≤ 60 := by
    have := congrArg List.length e2
    rw [List.length_map, List.length_map] at this
    have := mkv_len l
    omega
  refine ⟨isortS ss, ?_, by rw [(isortS_perm ss).length_eq]; exact ll, fun z m => ?_⟩
  · unfold sortDD
    rw [dParts_flat (mkv_flat l)]
    show (if false = false then sortLD (.list ((mkv l).map (·.1))) else none) = _
    rw [if_pos rfl]
    show (match mJoin.strsD ((mkv l).map (·.1)) with | some ss => if ss.length < 64 then some (PyData.list ((isortS ss).map .str)) else none | none => none) = _
    rw [e]
    dsimp only
    rw [if_pos (by omega)]
  · have m := (isortS_perm ss).mem_iff.mp m
    have m2 : PyData.str z ∈ (mkv l).map (·.1) := by rw [e2]; exact List.mem_map.mpr ⟨z, m, rfl⟩
    obtain ⟨q, mq, eq⟩ := List.mem_map.mp m2
    obtain ⟨n, mn, hn, en⟩ := mkv_keys l q mq
    rw [en] at eq
    cases eq
    have := ho n mn
    cases n <;> first | (cases hn; done) | exact mark_strOk this
theorem raw_marks_ok {p : Pat} (h : Fine p) : Ans (f_raw_marks [p.toD .none]) ((sortDD (.dict (mkv p.pre))).getD .none) := by
  unfold f_raw_marks
  refine ⟨wf_run ?_⟩
  dsimp only [m_raw_marks, m_raw_marks_1, m_raw_marks_1l_0]
  have sz := h.sz
  obtain ⟨ss, es, _⟩ := marks_sorted sz (List.all_eq_true.mp h.ok)
  walk_at "go"
  refine (rows_ok h.ok (by omega)).use ?_
  walk_at "go"
  rw [show (rowsE 0 p).map rowD = (Pat.rows 0 p).map (fun q => rowD (rowE q)) by unfold rowsE; rw [List.map_map]; rfl]
  refine wl_seq (fun i st => ∃ c2 c3 : Option Cell, st = [some (.sh (p.toD .none)), some (.ow (.dict (mkv (p.pre.take i)))), c2, c3]) ⟨_, _, rfl⟩ ?_ ?_
  · intro i q st eq ⟨c2, c3, e⟩
    subst e
    obtain ⟨A, B, e1, e2⟩ := rows_at p 0 i q eq
    have hq := sub_ok h.ok e1
    have hi : i < p.pre.length := by
      have := (List.getElem?_eq_some_iff.mp eq).1
      rwa [Pat.rows_len] at this
    have eh : p.pre[i]? = some q.1.hd := by
      rw [← Pat.rows_hd p 0, List.getElem?_map, eq]; rfl
    have et : p.pre.take (i + 1) = p.pre.take i ++ [q.1.hd] := by rw [List.take_succ, eh]; rfl
    have lk := mkv_len (p.pre.take i)
    rw [List.length_take] at lk
    walk_at "go"
    refine ⟨_, toD_0 hq, ?_⟩
    walk_at "go"
    rw [wd_mark]
    refine ifB (fun hm => ?_) (fun hm => ?_)
    · walk_at "go"
      refine ⟨_, toD_1 (.inl hm), ?_⟩
      walk_at "go"
      refine ⟨_, dPut_flat (mkv_flat _) rfl (by unfold LIM; omega), ?_⟩
      walk_at "go"
      rw [et, mkv_snoc, if_pos hm]
      exact ⟨_, _, rfl⟩
    · walk_at "go"
      rw [et, mkv_snoc, if_neg (by rw [hm]; decide)]
      exact ⟨_, _, rfl⟩
  · intro st ⟨c2, c3, e⟩
    rw [Pat.rows_len, List.take_length] at e
    subst e
    walk_at "go"
    refine ⟨_, es, ?_⟩
    walk_at "go"
    rw [es]
    exact ⟨rfl, rfl⟩
theorem marks_ok {p : Pat} (h : Fine p) {ss : List Str} (e : sortDD (.dict (mkv p.pre)) = some (.list (ss.map .str))) : Ans (f_marks_of [p.toD .none]) (.tuple (ss.map .str)) := by
  unfold f_marks_of
  refine ⟨wf_run ?_⟩
  dsimp only [m_marks_of, m_marks_of_0, m_marks_of_1]
  walk_at "go"
  refine h.chk.use ?_
  walk_at "go"
  refine (raw_marks_ok h).use ?_
  rw [e]
  walk_at "go"
theorem marks_bad {x : PyData} (ho : okD x = true) (h : isPatB x = false) : Rai (f_marks_of [x]) "NoPattern" := by
  unfold f_marks_of
  refine ⟨wf_run ?_⟩
  dsimp only [m_marks_of, m_marks_of_0, m_marks_of_1]
  walk_at "go"
  refine (chk_bad ho h).use ?_
  all_goals walk_at "go"
/-- the lots of nodes, in order -/
def lotsL (l : List Nd) : List PyData := (l.filter isSig).map fun n => .str n.tx
theorem raw_lots_ok {p : Pat} (h : Fine p) : Ans (f_raw_lots [p.toD .none]) (.list (lotsL p.pre)) := by
  unfold f_raw_lots
  refine ⟨wf_run ?_⟩
  dsimp only [m_raw_lots, m_raw_lots_0]
  have sz := h.sz
  walk_at "go"
  refine (rows_ok h.ok (by omega)).use ?_
  walk_at "go"
  rw [show (rowsE 0 p).map rowD = (Pat.rows 0 p).map (fun q => rowD (rowE q)) by unfold rowsE; rw [List.map_map]; rfl]
  refine wl_pick (cs := Pat.rows 0 p) (fun q => isSig q.1.hd) (fun q => .str q.1.hd.tx) (fun q mq => ?_) (by rw [Pat.rows_len]; unfold LIM; omega) ?_
  · obtain ⟨i, eq⟩ := List.getElem?_of_mem mq
    obtain ⟨A, B, e1, e2⟩ := rows_at p 0 i q eq
    have hq := sub_ok h.ok e1
    walk_at "go"
    refine ⟨_, toD_0 hq, ?_⟩
    walk_at "go"
    rw [wd_sign]
    refine ⟨rfl, ?_⟩
    refine ifB (fun hm => ?_) (fun hm => ?_)
    · walk_at "go"
      refine ⟨_, toD_1 (.inr hm), ?_⟩
      walk_at "go"
    · walk_at "go"
  · walk_at "go"
    refine ⟨?_, rfl⟩
    unfold lotsL
    rw [← Pat.rows_hd p 0, List.filter_map, List.map_map]
    rfl
theorem lots_ok {p : Pat} (h : Fine p) : Ans (f_lots_of [p.toD .none]) (.tuple (lotsL p.pre)) := by
  unfold f_lots_of
  refine ⟨wf_run ?_⟩
  dsimp only [m_lots_of, m_lots_of_0, m_lots_of_1]
  walk_at "go"
  refine h.chk.use ?_
  walk_at "go"
  refine (raw_lots_ok h).use ?_
  walk_at "go"
theorem lots_bad {x : PyData} (ho : okD x = true) (h : isPatB x = false) : Rai (f_lots_of [x]) "NoPattern" := by
  unfold f_lots_of
  refine ⟨wf_run ?_⟩
  dsimp only [m_lots_of, m_lots_of_0, m_lots_of_1]
  walk_at "go"
  refine (chk_bad ho h).use ?_
  all_goals walk_at "go"
/-! ### places -/
def withB (lo hi : Int) : PyData → Bool
  | .int k => decide (lo ≤ k) && decide (k ≤ hi)
  | _ => false
theorem within_ok {x : PyData} {lo hi : Int} : Ans (f_is_within [x, .int lo, .int hi]) (.bool (withB lo hi x)) := by
  have hi_ok : ∀ x, Ans (f_is_integer [x]) (.bool (match x with | .int _ => true | _ => false)) := by
    intro x
    unfold f_is_integer
    refine ⟨wf_run ?_⟩
    dsimp only [m_is_integer, m_is_integer_0]
    walk_at "go"
    cases x <;> walk_at "go"
  unfold f_is_within
  refine ⟨wf_run ?_⟩
  dsimp only [m_is_within, m_is_within_0]
  walk_at "go"
  refine (hi_ok x).use ?_
  cases x <;> walk_at "go"
  rename_i k
  refine ifB (fun h => ?_) (fun h => ?_)
  · walk_at "go"
    refine ⟨?_, rfl⟩
    have h : lo ≤ k := of_decide_eq_true h
    simp [withB, h]
  · walk_at "go"
    have h : ¬ lo ≤ k := of_decide_eq_false h
    simp [withB, h]
theorem place_good {x : PyData} {hi : Int} (h : withB 0 hi x = true) : Ans (f_check_place [x, .int hi]) .none := by
  unfold f_check_place
  refine ⟨wf_run ?_⟩
  dsimp only [m_check_place, m_check_place_0]
  walk_at "go"
  refine within_ok.use ?_
  rw [h]
  walk_at "go"
theorem place_bad {x : PyData} {hi : Int} (h : withB 0 hi x = false) : Rai (f_check_place [x, .int hi]) "NoPlace" := by
  unfold f_check_place
  refine ⟨wf_run ?_⟩
  dsimp only [m_check_place, m_check_place_0]
  walk_at "go"
  refine within_ok.use ?_
  rw [h]
  walk_at "go"
theorem node_bad {x n : PyData} (ho : okD x = true) (h : isPatB x = false) : Rai (f_node_at [x, n]) "NoPattern" := by
  unfold f_node_at
  refine ⟨wf_run ?_⟩
  dsimp only [m_node_at, m_node_at_0, m_node_at_2]
  walk_at "go"
  refine (chk_bad ho h).use ?_
  all_goals walk_at "go"
theorem node_place {p : Pat} {n : PyData} (h : Fine p) (hn : withB 0 ((p.pre.length : Int) - 1) n = false) : Rai (f_node_at [p.toD .none, n]) "NoPlace" := by
  unfold f_node_at
  refine ⟨wf_run ?_⟩
  dsimp only [m_node_at, m_node_at_0, m_node_at_2]
  have sz := h.sz
  walk_at "go"
  refine h.chk.use ?_
  walk_at "go"
  refine (rows_ok h.ok (by omega)).use ?_
  walk_at "go"
  rw [List.length_map, rowsE_len]
  refine (place_bad hn).use ?_
  all_goals walk_at "go"
theorem node_ok {p : Pat} (h : Fine p) {j : Nat} {q : Pat × List Nat} (e : (Pat.rows 0 p)[j]? = some q) : Ans (f_node_at [p.toD .none, .int j]) (q.1.toD .none) := by
  unfold f_node_at
  refine ⟨wf_run ?_⟩
  dsimp only [m_node_at, m_node_at_0, m_node_at_2]
  have sz := h.sz
  have hj : j < p.pre.length := by
    have := (List.getElem?_eq_some_iff.mp e).1
    rwa [Pat.rows_len] at this
  walk_at "go"
  refine h.chk.use ?_
  walk_at "go"
  refine (rows_ok h.ok (by omega)).use ?_
  walk_at "go"
  rw [List.length_map, rowsE_len]
  refine (place_good (by simp [withB]; omega)).use ?_
  walk_at "go"
  refine ⟨rowD (rowE q), ?_, ?_⟩
  · refine atI_nat ?_
    unfold rowsE
    rw [List.getElem?_map, List.getElem?_map, e]; rfl
  · walk_at "go"

set_option Elab.async false
set_option linter.all false
set_option maxRecDepth 100000
set_option maxHeartbeats 4000000
open PySem PySem.Spec PyProof.Rows L2 FR MV
theorem repr_two : ∀ n, n < 61 → ∀ d, d < 16 → reprB (.tuple [.int (n : Nat), .int (d : Nat)]) = true := by decide +kernel

set_option Elab.async false
set_option linter.all false
set_option maxRecDepth 100000
set_option maxHeartbeats 4000000
open PySem PySem.Spec PyProof.Rows L2 FR MV
/-! ### what can be compared -/
theorem toD_shaped {p : Pat} (h : Fine p) : SeqAt.shaped (p.toD .none) = true := by
  have lay : ∀ p : Pat, p.ok = true → (p.toD .none).canLay0 = true := by
    intro p
    induction p with
    | non => intro _; decide +kernel
    | emp => intro _; decide +kernel
    | hol => intro _; rfl
    | sig z =>
      intro q
      have q : lotB (.str z) = true := by simpa [Pat.ok, Pat.pre, Nd.ok] using q
      show (PyData.strOk "sign" && (PyData.strOk z && true)) = true
      rw [lot_strOk q]; decide +kernel
    | thn a b iha ihb =>
      intro q
      have q : a.ok = true ∧ b.ok = true := by simpa [Pat.ok, Pat.pre, Nd.ok] using q
      show (PyData.strOk "then" && ((a.toD .none).canLay0 && ((b.toD .none).canLay0 && true))) = true
      rw [iha q.1, ihb q.2]; decide +kernel
    | orr a b iha ihb =>
      intro q
      have q : a.ok = true ∧ b.ok = true := by simpa [Pat.ok, Pat.pre, Nd.ok] using q
      show (PyData.strOk "or" && ((a.toD .none).canLay0 && ((b.toD .none).canLay0 && true))) = true
      rw [iha q.1, ihb q.2]; decide +kernel
    | man a iha =>
      intro q
      have q : a.ok = true := by simpa [Pat.ok, Pat.pre, Nd.ok] using q
      show (PyData.strOk "many" && ((a.toD .none).canLay0 && true)) = true
      rw [iha q]; decide +kernel
    | few a iha =>
      intro q
      have q : a.ok = true := by simpa [Pat.ok, Pat.pre, Nd.ok] using q
      show (PyData.strOk "few" && ((a.toD .none).canLay0 && true)) = true
      rw [iha q]; decide +kernel
    | mrk z a iha =>
      intro q
      have q : markB (.str z) = true ∧ a.ok = true := by simpa [Pat.ok, Pat.pre, Nd.ok] using q
      show (PyData.strOk "mark" && (PyData.strOk z && ((a.toD .none).canLay0 && true))) = true
      rw [mark_strOk q.1, iha q.2]; decide +kernel
  have dep : ∀ p : Pat, (p.toD .none).depth ≤ p.dep := by
    intro p
    induction p <;> simp_all [Pat.toD, PyData.depth, PyData.depthAll, Pat.dep] <;> omega
  unfold SeqAt.shaped
  have := dep p
  have := h.dp
  rw [lay p h.ok, decide_eq_true (by omega)]; rfl
theorem strs_shaped {ss : List Str} (h : ∀ z ∈ ss, PyData.strOk z = true) : SeqAt.shaped (.tuple (ss.map .str)) = true := by
  have go : ∀ ss : List Str, (∀ z ∈ ss, PyData.strOk z = true) → PyData.canLayAll0 (ss.map .str) = true ∧ PyData.depthAll (ss.map .str) = 0 := by
    intro ss
    induction ss with
    | nil => intro _; exact ⟨rfl, rfl⟩
    | cons s r ih =>
      intro h
      obtain ⟨h1, h2⟩ := ih fun z m => h z (.tail _ m)
      refine ⟨?_, ?_⟩
      · show (PyData.strOk s && PyData.canLayAll0 (r.map .str)) = true
        rw [h s (.head _), h1]; rfl
      · show max 0 (PyData.depthAll (r.map .str)) = 0
        rw [h2]; rfl
  obtain ⟨h1, h2⟩ := go ss h
  unfold SeqAt.shaped
  rw [show (PyData.tuple (ss.map .str)).canLay0 = true from h1, decide_eq_true (by show PyData.depthAll _ + 1 ≤ 64; rw [h2]; decide)]; rfl
theorem lots_shaped {p : Pat} (h : p.ok = true) : SeqAt.shaped (.tuple (lotsL p.pre)) = true := by
  unfold lotsL
  rw [show (fun n : Nd => PyData.str n.tx) = (PyData.str ∘ Nd.tx) from rfl, ← List.map_map]
  refine strs_shaped fun z m => ?_
  obtain ⟨n, mn, rfl⟩ := List.mem_map.mp m
  obtain ⟨mn, hn⟩ := List.mem_filter.mp mn
  have := List.all_eq_true.mp h n mn
  cases n <;> first | (cases hn; done) | exact lot_strOk this
theorem sub_fine {p q : Pat} {A B : List Nd} (h : Fine p) (e : p.pre = A ++ (q.pre ++ B)) (hd : q.dep ≤ 15) : Fine q :=
  ⟨sub_ok h.ok e, hd, by have := h.sz; rw [e, List.length_append, List.length_append] at this; omega⟩
theorem rows_dep : ∀ (p : Pat) (i : Nat) (q : Pat × List Nat), q ∈ Pat.rows i p → q.1.dep ≤ p.dep := by
  intro p
  induction p with
  | thn a b iha ihb =>
    intro i q m
    simp only [Pat.rows, List.mem_cons, List.mem_append] at m
    rcases m with rfl | m | m
    · exact Nat.le_refl _
    · have := iha _ q m; simp only [Pat.dep]; omega
    · have := ihb _ q m; simp only [Pat.dep]; omega
  | orr a b iha ihb =>
    intro i q m
    simp only [Pat.rows, List.mem_cons, List.mem_append] at m
    rcases m with rfl | m | m
    · exact Nat.le_refl _
    · have := iha _ q m; simp only [Pat.dep]; omega
    · have := ihb _ q m; simp only [Pat.dep]; omega
  | man a ih =>
    intro i q m
    simp only [Pat.rows, List.mem_cons] at m
    rcases m with rfl | m
    · exact Nat.le_refl _
    · have := ih _ q m; simp only [Pat.dep]; omega
  | few a ih =>
    intro i q m
    simp only [Pat.rows, List.mem_cons] at m
    rcases m with rfl | m
    · exact Nat.le_refl _
    · have := ih _ q m; simp only [Pat.dep]; omega
  | mrk z a ih =>
    intro i q m
    simp only [Pat.rows, List.mem_cons] at m
    rcases m with rfl | m
    · exact Nat.le_refl _
    · have := ih _ q m; simp only [Pat.dep]; omega
  | non => intro i q m; rw [List.mem_singleton.mp m]; exact Nat.le_refl _
  | emp => intro i q m; rw [List.mem_singleton.mp m]; exact Nat.le_refl _
  | sig z => intro i q m; rw [List.mem_singleton.mp m]; exact Nat.le_refl _
  | hol => intro i q m; rw [List.mem_singleton.mp m]; exact Nat.le_refl _
/-- the subpattern at a place -/
theorem at_sub {p : Pat} (h : Fine p) {j : Nat} (hj : j < p.pre.length) : ∃ (q : Pat × List Nat) (A B : List Nd), (Pat.rows 0 p)[j]? = some q ∧ p.pre = A ++ (q.1.pre ++ B) ∧ A.length = j ∧ Fine q.1 := by
  have e : (Pat.rows 0 p)[j]? = some ((Pat.rows 0 p)[j]'(by rw [Pat.rows_len]; exact hj)) := List.getElem?_eq_getElem _
  obtain ⟨A, B, e1, e2⟩ := rows_at p 0 j _ e
  have := rows_dep p 0 _ (List.mem_of_getElem? e)
  have := h.dp
  exact ⟨_, A, B, e, e1, e2, sub_fine h e1 (by omega)⟩
theorem dictP_marks (l : List Nd) (hl : l.length ≤ 60) : dictPD (.list ((l.filter isMrk).map fun n => .tuple [.str n.tx, .bool true])) = some (.dict (mkv l)) := by
  have hp : ∀ l : List Nd, pairsD (l.map fun n => .tuple [.str n.tx, .bool true]) = some (l.map fun n => (.str n.tx, .bool true)) := by
    intro l
    induction l with
    | nil => rfl
    | cons n r ih =>
      show (if flatK (.str n.tx) = true then (pairsD (r.map fun n => .tuple [.str n.tx, .bool true])).map ((.str n.tx, .bool true) :: ·) else none) = _
      rw [ih]; rfl
  have hm : ∀ (l : List Nd) (acc : List (PyData × PyData)), ((l.filter isMrk).map fun n => ((PyData.str n.tx, PyData.bool true) : PyData × PyData)).foldl (fun acc q => putL acc q.1 q.2) acc = l.foldl (fun acc n => if isMrk n = true then putL acc (.str n.tx) (.bool true) else acc) acc := by
    intro l
    induction l with
    | nil => intro acc; rfl
    | cons n r ih =>
      intro acc
      rw [List.foldl_cons, List.filter_cons]
      split
      · rw [List.map_cons, List.foldl_cons, ih]
      · rw [ih]
  show (match pairsD ((l.filter isMrk).map fun n => .tuple [.str n.tx, .bool true]) with | some ps => if ps.length < LIM then some (PyData.dict (mergeL ps)) else none | none => none) = _
  rw [hp]
  dsimp only
  rw [if_pos (by rw [List.length_map]; have := List.length_filter_le isMrk l; unfold LIM; omega)]
  unfold mergeL
  rw [hm]
  rfl
structure OkR (r : PyData) (outs : List PyData) : Prop where
  ex : ∃ b' : PyData, r = .bool true ∧ outs = [b'] ∧ Bag b'
theorem told_ok {b : PyData} (hb : Bag b) {p : Pat} (h : Fine p) : WFo (f_law_are_told_right [b, encS p.pre]) OkR := by
  unfold f_law_are_told_right
  refine wf_run ?_
  dsimp only [m_law_are_told_right, m_law_are_told_right_0, m_law_are_told_right_1, m_law_are_told_right_2, m_law_are_told_right_3, m_law_are_told_right_4, m_law_are_told_right_5l, m_law_are_told_right_5l_0, m_law_are_told_right_5l_1, m_law_are_told_right_6, encS]
  have sz := h.sz
  have pp := Pat.pre_pos p
  have ln : (p.pre.map Nd.d).length = p.pre.length := by rw [List.length_map]
  obtain ⟨ss, es, ls, hs⟩ := marks_sorted sz (List.all_eq_true.mp h.ok)
  walk_at "go"
  refine (made_ok (noOdd h.ok) (by omega)).use ?_
  walk_at "go"
  refine (behind_ok (p := p) (by omega)).use fun r outs hB => ?_
  obtain ⟨E, rfl, rfl, hE, hR⟩ := hB
  walk_at "go"
  refine wl_pick (cs := p.pre) (h := Nd.d) isMrk (fun n => .tuple [.str n.tx, .bool true]) (fun n mn => ?_) (by unfold LIM; omega) ?_
  · walk_at "go"
    refine ⟨_, nd_0 n, ?_⟩
    walk_at "go"
    rw [wd_mark]
    refine ⟨rfl, ?_⟩
    refine ifB (fun hm => ?_) (fun hm => ?_)
    · walk_at "go"
      refine ⟨_, nd_1 (.inl hm), ?_⟩
      walk_at "go"
    · walk_at "go"
  walk_at "go"
  refine ⟨_, dictP_marks p.pre sz, ?_⟩
  walk_at "go"
  refine ⟨_, es, ?_⟩
  walk_at "go"
  refine wl_pick (cs := p.pre) (h := Nd.d) isSig (fun n => .str n.tx) (fun n mn => ?_) (by unfold LIM; omega) ?_
  · walk_at "go"
    refine ⟨_, nd_0 n, ?_⟩
    walk_at "go"
    rw [wd_sign]
    refine ⟨rfl, ?_⟩
    refine ifB (fun hm => ?_) (fun hm => ?_)
    · walk_at "go"
      refine ⟨_, nd_1 (.inr hm), ?_⟩
      walk_at "go"
    · walk_at "go"
  walk_at "go"
  refine (many_ok h).use ?_
  walk_at "go"
  refine (deep_ok h).use ?_
  walk_at "go"
  have hrep : reprD (.tuple [.int (p.pre.length : Nat), .int (p.dep : Nat)]) = some (.str (PyData.shown (.tuple [.int (p.pre.length : Nat), .int (p.dep : Nat)]))) := if_pos (repr_two _ (by omega) _ (by have := h.dp; omega))
  refine ⟨_, hrep, ?_⟩
  walk_at "go"
  rw [ln]
  refine (depths_ok (p := p) (by omega)).use ?_
  walk_at "go"
  refine ⟨_, max_deps, ?_⟩
  walk_at "go"
  refine ⟨_, hrep, ?_⟩
  walk_at "go"
  refine ifT0 (by simp [PyData.eqv]) ?_
  walk_at "go"
  refine (marks_ok h es).use ?_
  walk_at "go"
  refine ⟨_, ne_refl (strs_shaped hs), ?_⟩
  walk_at "go"
  refine (lots_ok h).use ?_
  walk_at "go"
  refine ⟨_, ne_refl (lots_shaped h.ok), ?_⟩
  walk_at "go"
  refine wl_range (n := 4) (fun i st => ∃ (b : PyData) (c4 c5 c6 c7 : Option Cell), st = [some (.io b), some (.sh (.list (p.pre.map Nd.d))), some (.sh (p.toD .none)), some (.sh (.list (E.map .int))), c4, c5, c6, c7, none] ∧ Bag b) ⟨_, _, _, _, _, rfl, hb⟩ ?_ ?_
  · intro i st hi ⟨b, c4, c5, c6, c7, e, hb⟩
    subst e
    walk_at "go"
    rw [ln]
    refine (pick_ok hb (w := (p.pre.length : Int)) (by omega) (by omega)).use fun r outs hh => ?_
    obtain ⟨d, b1, rfl, rfl, hb1, d0, d1⟩ := hh
    obtain ⟨j, rfl⟩ : ∃ j : Nat, d = j := ⟨d.toNat, by omega⟩
    obtain ⟨q, A, B, e1, e2, e3, hq⟩ := at_sub h (show j < p.pre.length by omega)
    have hlen : p.pre.length = j + (q.1.pre.length + B.length) := by rw [e2, List.length_append, List.length_append, e3]
    have hEj : E[j]? = some ((j + q.1.pre.length : Nat) : Int) := hR j (Nat.zero_le _) q.1 B (drop_of e2 e3)
    walk_at "go"
    refine (node_ok h e1).use ?_
    walk_at "go"
    refine ⟨_, ints_at hEj, ?_⟩
    walk_at "go"
    rw [cutL_mid (by omega) (by rw [ln]; omega)]
    rw [show ((p.pre.map Nd.d).drop j).take (j + q.1.pre.length - j) = q.1.pre.map Nd.d by
      rw [← List.map_drop, drop_of e2 e3, ← List.map_take, Nat.add_sub_cancel_left, List.take_left' rfl]]
    refine (made_ok (noOdd hq.ok) (by have := hq.sz; omega)).use ?_
    walk_at "go"
    refine ⟨_, ne_refl (toD_shaped hq), ?_⟩
    walk_at "go"
    exact ⟨_, _, _, _, _, rfl, hb1⟩
  · intro st ⟨b, c4, c5, c6, c7, e, hb⟩
    subst e
    obtain ⟨q, A, B, e1, e2, e3, hq⟩ := at_sub h (show p.pre.length - 1 < p.pre.length by omega)
    have hlen : p.pre.length = (p.pre.length - 1) + (q.1.pre.length + B.length) := by rw [← e3, ← List.length_append, ← List.length_append, ← e2]
    have qp := Pat.pre_pos q.1
    have hB : B = [] := List.length_eq_zero_iff.mp (by omega)
    have q1 : q.1.pre.length = 1 := by omega
    have hd : q.1.toD .none = q.1.hd.d ∧ q.1.pre = [q.1.hd] := by
      cases hq1 : q.1 with
      | thn a b => exfalso; rw [hq1] at q1; have := Pat.pre_pos a; simp only [Pat.pre, List.length_cons, List.length_append] at q1; omega
      | orr a b => exfalso; rw [hq1] at q1; have := Pat.pre_pos a; simp only [Pat.pre, List.length_cons, List.length_append] at q1; omega
      | man a => exfalso; rw [hq1] at q1; have := Pat.pre_pos a; simp only [Pat.pre, List.length_cons] at q1; omega
      | few a => exfalso; rw [hq1] at q1; have := Pat.pre_pos a; simp only [Pat.pre, List.length_cons] at q1; omega
      | mrk z a => exfalso; rw [hq1] at q1; have := Pat.pre_pos a; simp only [Pat.pre, List.length_cons] at q1; omega
      | hol => have := hq.ok; rw [hq1] at this; cases this
      | non => exact ⟨rfl, rfl⟩
      | emp => exact ⟨rfl, rfl⟩
      | sig z => exact ⟨rfl, rfl⟩
    walk_at "go"
    rw [ln, show (p.pre.length : Int) - 1 = ((p.pre.length - 1 : Nat) : Int) by omega]
    refine (node_ok h e1).use ?_
    walk_at "go"
    have el : p.pre.map Nd.d = A.map Nd.d ++ [q.1.hd.d] := by
      rw [e2, hB, hd.2]; simp
    rw [el]
    walk_at "go"
    rw [hd.1]
    refine ⟨_, eq_refl (by have := toD_shaped hq; rwa [hd.1] at this), ?_⟩
    walk_at "go"
    exact ⟨_, rfl, rfl, hb⟩

set_option Elab.async false
set_option linter.all false
set_option maxRecDepth 100000
set_option maxHeartbeats 4000000
open PySem PySem.Spec PyProof.Rows L2 FR MV
/-! ### refusals, the law -/
theorem mem_all {xs : List PyData} {P : PyData → Prop} (h : ∀ x ∈ xs, P x) {r : PyData} (m : r ∈ xs) : P r := h r m
theorem toD_tup {p : Pat} (h : p.ok = true) : ∃ xs, p.toD .none = .tuple xs := by
  cases p <;> first | exact ⟨_, rfl⟩ | cases h
theorem refused_ok {b : PyData} (hb : Bag b) {p : Pat} (h : Fine p) : WFo (f_law_are_refused [b, encS p.pre]) OkR := by
  unfold f_law_are_refused
  refine wf_run ?_
  dsimp only [m_law_are_refused, m_law_are_refused_1, m_law_are_refused_2, m_law_are_refused_3, m_law_are_refused_4, m_law_are_refused_5, m_law_are_refused_6, m_law_are_refused_7, m_law_are_refused_8, m_law_are_refused_9, encS]
  have sz := h.sz
  have pp := Pat.pre_pos p
  have ln : (p.pre.map Nd.d).length = p.pre.length := by rw [List.length_map]
  have hok := Pat.okD_toD (h := .none) rfl p (Pat.okh_of h.ok)
  walk_at "go"
  refine (made_ok (noOdd h.ok) (by omega)).use ?_
  walk_at "go"
  refine (some_ok hb (by show 0 < 9; decide) (by show 9 ≤ 1000000; decide)).use fun x outs hh => ?_
  obtain ⟨b1, mx, rfl, hb1⟩ := hh
  have hx : okD x = true ∧ isPatB x = false := by
    obtain ⟨xs, et⟩ := toD_tup h.ok
    simp only [List.mem_cons, List.not_mem_nil, or_false] at mx
    rcases mx with rfl | rfl | rfl | rfl | rfl | rfl | rfl | rfl | rfl
    · exact ⟨rfl, isPat_form rfl⟩
    · exact ⟨by decide +kernel, isPat_form rfl⟩
    · exact ⟨by decide +kernel, by decide +kernel⟩
    · exact ⟨by show (okD (.str "then") && (okD (p.toD .none) && true)) = true; rw [hok]; decide +kernel, isPat_form (by rw [form_then]; rfl)⟩
    · exact ⟨rfl, isPat_form rfl⟩
    · exact ⟨by show (okD (.str "mark") && (okD (.str "M") && (okD (p.toD .none) && true))) = true; rw [hok]; decide +kernel, isPat_form (by rw [form_mark]; show markB (.str "M") = false; decide +kernel)⟩
    · exact ⟨rfl, isPat_form rfl⟩
    · exact ⟨by show (okD (p.toD .none) && true) = true; rw [hok]; rfl, isPat_form (by rw [et]; rfl)⟩
    · exact ⟨rfl, isPat_form rfl⟩
  walk_at "go"
  rw [ln]
  refine (some_ok hb1 (by show 0 < 9; decide) (by show 9 ≤ 1000000; decide)).use fun y outs hh => ?_
  obtain ⟨b2, my, rfl, hb2⟩ := hh
  have hy : withB 0 ((p.pre.length : Int) - 1) y = false := by
    simp only [List.mem_cons, List.not_mem_nil, or_false] at my
    rcases my with rfl | rfl | rfl | rfl | rfl | rfl | rfl | rfl | rfl
    · rfl
    · show (decide (0 ≤ (p.pre.length : Int)) && decide ((p.pre.length : Int) ≤ (p.pre.length : Int) - 1)) = false
      rw [decide_eq_false (show ¬ (p.pre.length : Int) ≤ (p.pre.length : Int) - 1 by omega), Bool.and_false]
    · rfl
    · rfl
    · rfl
    · rfl
    · rfl
    · show (decide (0 ≤ (10 : Int) ^ (30 : Int).toNat) && decide ((10 : Int) ^ (30 : Int).toNat ≤ (p.pre.length : Int) - 1)) = false
      rw [decide_eq_false (show ¬ (10 : Int) ^ (30 : Int).toNat ≤ (p.pre.length : Int) - 1 by
        have : (10 : Int) ^ (30 : Int).toNat = 1000000000000000000000000000000 := by decide
        omega), Bool.and_false]
    · rfl
  walk_at "go"
  refine (many_bad hx.1 hx.2).use ?_
  walk_at "go"
  refine (deep_bad hx.1 hx.2).use ?_
  walk_at "go"
  refine (marks_bad hx.1 hx.2).use ?_
  walk_at "go"
  refine (lots_bad hx.1 hx.2).use ?_
  walk_at "go"
  refine (node_bad hx.1 hx.2).use ?_
  walk_at "go"
  refine (node_place h hy).use ?_
  walk_at "go"
  refine ⟨_, eq_refl (d := .list [.str "pattern", .str "pattern", .str "pattern", .str "pattern", .str "pattern", .str "place"]) (by decide +kernel), ?_⟩
  walk_at "go"
  exact ⟨_, rfl, rfl, hb2⟩
def known : Pat := .orr (.mrk "b" (.sig "ac")) (.thn (.mrk "a" .emp) (.man (.sig "d")))
theorem known_fine : Fine known := ⟨by decide +kernel, by decide, by decide⟩
theorem known_marks : sortDD (.dict (mkv known.pre)) = some (.list ((["a", "b"] : List Str).map .str)) := by rfl
theorem law_ok {ns : List Int} (hl : ns.length ≤ 63) : WFo (f_law [.list (ns.map .int)]) fun r _ => r = .bool true := by
  unfold f_law
  refine wf_run ?_
  dsimp only [m_law, m_law_1, m_law_2, m_law_3, m_law_4l, m_law_4l_0, m_law_4l_1]
  walk_at "go"
  refine (bag_ok hl).use fun b outs h => ?_
  obtain ⟨rfl, hb⟩ := h
  walk_at "go"
  refine (many_ok known_fine).use ?_
  walk_at "go"
  refine (deep_ok known_fine).use ?_
  walk_at "go"
  refine (marks_ok known_fine known_marks).use ?_
  walk_at "go"
  refine (lots_ok known_fine).use ?_
  walk_at "go"
  refine ⟨_, ne_refl (d := .tuple [.int 8, .int 4, .tuple [.str "a", .str "b"], .tuple [.str "ac", .str "d"]]) (by decide +kernel), ?_⟩
  walk_at "go"
  refine (node_ok known_fine (j := 0) (q := (known, [1, 3])) rfl).use ?_
  walk_at "go"
  refine ⟨_, ne_refl (toD_shaped known_fine), ?_⟩
  walk_at "go"
  refine (node_ok known_fine (j := 3) (q := (.thn (.mrk "a" .emp) (.man (.sig "d")), [4, 6])) rfl).use ?_
  walk_at "go"
  refine ⟨_, ne_refl (d := .tuple [.str "then", .tuple [.str "mark", .str "a", .tuple [.str "empty"]], .tuple [.str "many", .tuple [.str "sign", .str "d"]]]) (by decide +kernel), ?_⟩
  walk_at "go"
  refine (node_ok known_fine (j := 4) (q := (.mrk "a" .emp, [5])) rfl).use ?_
  walk_at "go"
  refine ⟨_, ne_refl (d := .tuple [.str "mark", .str "a", .tuple [.str "empty"]]) (by decide +kernel), ?_⟩
  walk_at "go"
  refine wl_range (n := 4) (fun i st => ∃ (b : PyData) (c2 c3 c4 : Option Cell), st = [some (.sc (.list (ns.map .int))), some (.ow b), c2, c3, c4] ∧ Bag b) ?_ ?_ ?_
  · exact ⟨b, _, _, _, rfl, hb⟩
  · intro i st hi ⟨b, c2, c3, c4, e, hb⟩
    subst e
    walk_at "go"
    refine (drawn_ok hb (T := 14) (M := 60) (by decide) (by decide) (by decide)).use fun r outs h => ?_
    obtain ⟨b1, p, rfl, hb1, rfl, gp⟩ := h
    have hf : Fine p := ⟨gp.ok, by have := gp.dp; omega, gp.sz⟩
    walk_at "go"
    refine (told_ok hb1 hf).use fun r outs h => ?_
    obtain ⟨b2, rfl, rfl, hb2⟩ := h
    walk_at "go"
    refine (refused_ok hb2 hf).use fun r outs h => ?_
    obtain ⟨b3, rfl, rfl, hb3⟩ := h
    walk_at "go"
    exact ⟨b3, _, _, _, rfl, hb3⟩
  · intro st ⟨b, c2, c3, c4, e, hb⟩
    subst e
    walk_at "go"
theorem law_true (ns : List Int) (h : ns.length ≤ 63) : IsTrue (f_law [.list (ns.map .int)]) := isTrue_of (law_ok h)


set_option Elab.async false
set_option linter.all false
set_option maxRecDepth 100000
set_option maxHeartbeats 4000000
open PySem PySem.Spec PyProof.Rows L2 FR MV
variable {P : Program} {w : World} {mg : Str → Option Value} {M : Pm}
theorem the_law {fa : Addr} {c_law_are_refused P_law_are_refused : Addr} (T : Tx M w mg) (hfa : mg "law" = some (.ref fa)) (D_law_bag : DefIn M.K mg "_law_bag" s_law_bag) (D_law_pick : DefIn M.K mg "_law_pick" s_law_pick) (D_law_some : DefIn M.K mg "_law_some" s_law_some) (D_law_lot : DefIn M.K mg "_law_lot" s_law_lot) (D_law_parts : DefIn M.K mg "_law_parts" s_law_parts) (D_law_depths : DefIn M.K mg "_law_depths" s_law_depths) (D_law_mark : DefIn M.K mg "_law_mark" s_law_mark) (D_law_drawn : DefIn M.K mg "_law_drawn" s_law_drawn) (D_are_signs : DefIn M.K mg "are_signs" s_are_signs) (D_is_lot : DefIn M.K mg "is_lot" s_is_lot) (D_is_mark : DefIn M.K mg "is_mark" s_is_mark) (D_has_form : DefIn M.K mg "has_form" s_has_form) (D_parts_of : DefIn M.K mg "parts_of" s_parts_of) (D_is_pattern : DefIn M.K mg "is_pattern" s_is_pattern) (D_check_pattern : DefIn M.K mg "check_pattern" s_check_pattern) (D_node_rows : DefIn M.K mg "node_rows" s_node_rows) (D_nodes_many : DefIn M.K mg "nodes_many" s_nodes_many) (D_deep : DefIn M.K mg "deep" s_deep) (D_raw_marks : DefIn M.K mg "raw_marks" s_raw_marks) (D_marks_of : DefIn M.K mg "marks_of" s_marks_of) (D_raw_lots : DefIn M.K mg "raw_lots" s_raw_lots) (D_lots_of : DefIn M.K mg "lots_of" s_lots_of) (D_is_integer : DefIn M.K mg "is_integer" s_is_integer) (D_is_within : DefIn M.K mg "is_within" s_is_within) (D_check_place : DefIn M.K mg "check_place" s_check_place) (D_node_at : DefIn M.K mg "node_at" s_node_at) (D_law_made : DefIn M.K mg "_law_made" s_law_made) (D_law_behind : DefIn M.K mg "_law_behind" s_law_behind) (D_law_are_told_right : DefIn M.K mg "_law_are_told_right" s_law_are_told_right) (D_law_error : DefIn M.K mg "_law_error" s_law_error) (D_law_are_refused : DefT M.K mg "_law_are_refused" s_law_are_refused c_law_are_refused) (D_law : DefIn M.K mg "law" s_law) (hm_law_are_refused : (P_law_are_refused, ("_law_are_refused" : Str) ++ ".<locals>." ++ "<lambda>") ∈ M.tabs) (hu_law_are_refused : ∀ p ∈ M.tabs, p.1 = P_law_are_refused → p.2 = ("_law_are_refused" : Str) ++ ".<locals>." ++ "<lambda>") :
    ∃ fd : FuncData, (∀ (s : Shared) (u : Value), BindsTo s fd ⟨[u], []⟩ [("script", u)]) ∧ ∀ base : Heap, (∀ p ∈ ([(c_law_are_refused, P_law_are_refused)] : List (Addr × Addr)), LamX.TabB base mg p.1 p.2) → FnG P w M.K mg base CX0 10 fa fd ["script"] (spOf M [.sc] false f_law) := by
  obtain ⟨fd, h1, h2⟩ := D_law.lawN (P := P) (w := w) (k := 9) (N := ["script", "bag", "known", "lap", "signs"]) (sp := spOf M [.sc] false f_law) hfa sc_law (fun _ _ _ _ _ _ us hl => match us, hl with | [_], _ => rfl) (len_spOf (ps := ["script"]) rfl)
  refine ⟨fd, h1, fun base TB => h2 base ?_⟩
  have TB_law_are_refused : LamX.TabB base mg c_law_are_refused P_law_are_refused := TB (c_law_are_refused, P_law_are_refused) (.head _)
  have G_law_bag := g_law_bag (P := P) (w := w) (base := base) T D_law_bag 
  have G_law_pick := g_law_pick (P := P) (w := w) (base := base) T D_law_pick 
  have G_law_some := g_law_some (P := P) (w := w) (base := base) T D_law_some G_law_pick
  have G_law_lot := g_law_lot (P := P) (w := w) (base := base) T D_law_lot G_law_pick
  have G_law_parts := g_law_parts (P := P) (w := w) (base := base) T D_law_parts 
  have G_law_depths := g_law_depths (P := P) (w := w) (base := base) T D_law_depths G_law_parts
  have G_law_mark := g_law_mark (P := P) (w := w) (base := base) T D_law_mark G_law_pick G_law_some
  have G_law_drawn := g_law_drawn (P := P) (w := w) (base := base) T D_law_drawn G_law_depths G_law_lot G_law_mark G_law_pick G_law_some
  have G_are_signs := g_are_signs (P := P) (w := w) (base := base) T D_are_signs 
  have G_is_lot := g_is_lot (P := P) (w := w) (base := base) T D_is_lot G_are_signs
  have G_is_mark := g_is_mark (P := P) (w := w) (base := base) T D_is_mark 
  have G_has_form := g_has_form (P := P) (w := w) (base := base) T D_has_form G_is_lot G_is_mark
  have G_parts_of := g_parts_of (P := P) (w := w) (base := base) T D_parts_of 
  have G_is_pattern := g_is_pattern (P := P) (w := w) (base := base) T D_is_pattern G_has_form G_parts_of
  have G_check_pattern := g_check_pattern (P := P) (w := w) (base := base) T D_check_pattern G_is_pattern
  have G_node_rows := g_node_rows (P := P) (w := w) (base := base) T D_node_rows G_parts_of
  have G_nodes_many := g_nodes_many (P := P) (w := w) (base := base) T D_nodes_many G_check_pattern G_node_rows
  have G_deep := g_deep (P := P) (w := w) (base := base) T D_deep G_check_pattern G_parts_of
  have G_raw_marks := g_raw_marks (P := P) (w := w) (base := base) T D_raw_marks G_node_rows
  have G_marks_of := g_marks_of (P := P) (w := w) (base := base) T D_marks_of G_check_pattern G_raw_marks
  have G_raw_lots := g_raw_lots (P := P) (w := w) (base := base) T D_raw_lots G_node_rows
  have G_lots_of := g_lots_of (P := P) (w := w) (base := base) T D_lots_of G_check_pattern G_raw_lots
  have G_is_integer := g_is_integer (P := P) (w := w) (base := base) T D_is_integer 
  have G_is_within := g_is_within (P := P) (w := w) (base := base) T D_is_within G_is_integer
  have G_check_place := g_check_place (P := P) (w := w) (base := base) T D_check_place G_is_within
  have G_node_at := g_node_at (P := P) (w := w) (base := base) T D_node_at G_check_pattern G_check_place G_node_rows
  have G_law_made := g_law_made (P := P) (w := w) (base := base) T D_law_made G_law_parts
  have G_law_behind := g_law_behind (P := P) (w := w) (base := base) T D_law_behind G_law_parts
  have G_law_are_told_right := g_law_are_told_right (P := P) (w := w) (base := base) T D_law_are_told_right G_law_behind G_law_depths G_law_made G_law_pick G_deep G_lots_of G_marks_of G_node_at G_nodes_many
  have G_law_error : HasL M.K mg "_law_error" "call" s_law_error ["call", "found", "error", "flags"] := D_law_error.hasL sc_law_error (fun _ _ _ _ _ _ us hl => match us, hl with | [_], _ => rfl) rfl (by first | exact Or.inl rfl | exact Or.inr rfl)
  have G_law_are_refused := g_law_are_refused (P := P) (w := w) (base := base) T TB_law_are_refused hm_law_are_refused hu_law_are_refused D_law_are_refused G_law_error G_law_made G_law_some G_deep G_lots_of G_marks_of G_node_at G_nodes_many
  exact fun f cdv A outer s H vs Q E hgd hr h => by
    obtain ⟨t, p, r⟩ := (b_law T hgd hr G_law_are_refused G_law_are_told_right G_law_bag G_law_drawn G_deep G_lots_of G_marks_of G_node_at G_nodes_many).ex
    exact ⟨t, p, body_ok rfl (by exact Nat.le_of_ble_eq_true rfl) r h⟩
/-! ### the row -/
def clsOf (C_NoPattern C_NoPlace C_ReadError C_FORMS : Addr) : Str → Addr := fun x => if x == ("NoPattern" : Str) then C_NoPattern else if x == ("NoPlace" : Str) then C_NoPlace else if x == ("ReadError" : Str) then C_ReadError else if x == ("FORMS" : Str) then C_FORMS else 0
theorem cls_NoPattern {C_NoPattern C_NoPlace C_ReadError C_FORMS : Addr} : clsOf C_NoPattern C_NoPlace C_ReadError C_FORMS "NoPattern" = C_NoPattern := if_pos (by decide +kernel)
theorem cls_NoPlace {C_NoPattern C_NoPlace C_ReadError C_FORMS : Addr} : clsOf C_NoPattern C_NoPlace C_ReadError C_FORMS "NoPlace" = C_NoPlace := (if_neg (by decide +kernel)).trans (if_pos (by decide +kernel))
theorem cls_ReadError {C_NoPattern C_NoPlace C_ReadError C_FORMS : Addr} : clsOf C_NoPattern C_NoPlace C_ReadError C_FORMS "ReadError" = C_ReadError := (if_neg (by decide +kernel)).trans ((if_neg (by decide +kernel)).trans (if_pos (by decide +kernel)))
theorem cls_FORMS {C_NoPattern C_NoPlace C_ReadError C_FORMS : Addr} : clsOf C_NoPattern C_NoPlace C_ReadError C_FORMS "FORMS" = C_FORMS := (if_neg (by decide +kernel)).trans ((if_neg (by decide +kernel)).trans ((if_neg (by decide +kernel)).trans (if_pos (by decide +kernel))))
theorem row_mk {K : PySem.W.Frag} {q : Program} {lo : List Str} {mean : ExcName → Option Value} {mb : Str → Option Value} {h : Heap} {fa : Addr} {C_NoPattern C_NoPlace C_ReadError C_FORMS : Addr} {c_law_are_refused P_law_are_refused : Addr} (KX : K.In h) (TT : Top q lo mean mg mb h) (hfa : mg "law" = some (.ref fa))
    (n_ValueError : mg "ValueError" = none)
    (n_all : mg "all" = none)
    (n_bool : mg "bool" = none)
    (n_dict : mg "dict" = none)
    (n_int : mg "int" = none)
    (n_isinstance : mg "isinstance" = none)
    (n_len : mg "len" = none)
    (n_max : mg "max" = none)
    (n_range : mg "range" = none)
    (n_repr : mg "repr" = none)
    (n_sorted : mg "sorted" = none)
    (n_str : mg "str" = none)
    (n_tuple : mg "tuple" = none)
    (n_zip : mg "zip" = none)
    (g_LETTERS : ∃ t, mg "LETTERS" = some (.str "abcdefghijklmnopqrstuvwxyz" t))
    (g_MOST_DEEP : ∃ t, mg "MOST_DEEP" = some (.int 15 t))
    (g_MOST_MARK : ∃ t, mg "MOST_MARK" = some (.int 6 t))
    (g_MOST_NODES : ∃ t, mg "MOST_NODES" = some (.int 60 t))
    (g_SIGNS : ∃ t, mg "SIGNS" = some (.str "abcd" t))
    (e_NoPattern : ErrC K mg "NoPattern" C_NoPattern)
    (e_NoPlace : ErrC K mg "NoPlace" C_NoPlace)
    (e_ReadError : ErrC K mg "ReadError" C_ReadError)
    (k_FORMS : KD K w mg "FORMS" C_FORMS tab_FORMS)
    (sub_NoPattern : PySem.W.subIn K (.ref C_NoPattern) (.ref C_ReadError) = some true)
    (kitv_NoPattern : PySem.W.kitOne K (.ref C_NoPattern) (.type "ValueError") = some true)
    (kit_NoPattern_NoPattern : PySem.W.kitOne K (.ref C_NoPattern) (.ref C_NoPattern) = some true)
    (kit_NoPattern_NoPlace : PySem.W.kitOne K (.ref C_NoPattern) (.ref C_NoPlace) = some false)
    (sub_NoPlace : PySem.W.subIn K (.ref C_NoPlace) (.ref C_ReadError) = some true)
    (kitv_NoPlace : PySem.W.kitOne K (.ref C_NoPlace) (.type "ValueError") = some true)
    (kit_NoPlace_NoPattern : PySem.W.kitOne K (.ref C_NoPlace) (.ref C_NoPattern) = some false)
    (kit_NoPlace_NoPlace : PySem.W.kitOne K (.ref C_NoPlace) (.ref C_NoPlace) = some true)
    (D_law_bag : DefIn K mg "_law_bag" s_law_bag)
    (D_law_pick : DefIn K mg "_law_pick" s_law_pick)
    (D_law_some : DefIn K mg "_law_some" s_law_some)
    (D_law_lot : DefIn K mg "_law_lot" s_law_lot)
    (D_law_parts : DefIn K mg "_law_parts" s_law_parts)
    (D_law_depths : DefIn K mg "_law_depths" s_law_depths)
    (D_law_mark : DefIn K mg "_law_mark" s_law_mark)
    (D_law_drawn : DefIn K mg "_law_drawn" s_law_drawn)
    (D_are_signs : DefIn K mg "are_signs" s_are_signs)
    (D_is_lot : DefIn K mg "is_lot" s_is_lot)
    (D_is_mark : DefIn K mg "is_mark" s_is_mark)
    (D_has_form : DefIn K mg "has_form" s_has_form)
    (D_parts_of : DefIn K mg "parts_of" s_parts_of)
    (D_is_pattern : DefIn K mg "is_pattern" s_is_pattern)
    (D_check_pattern : DefIn K mg "check_pattern" s_check_pattern)
    (D_node_rows : DefIn K mg "node_rows" s_node_rows)
    (D_nodes_many : DefIn K mg "nodes_many" s_nodes_many)
    (D_deep : DefIn K mg "deep" s_deep)
    (D_raw_marks : DefIn K mg "raw_marks" s_raw_marks)
    (D_marks_of : DefIn K mg "marks_of" s_marks_of)
    (D_raw_lots : DefIn K mg "raw_lots" s_raw_lots)
    (D_lots_of : DefIn K mg "lots_of" s_lots_of)
    (D_is_integer : DefIn K mg "is_integer" s_is_integer)
    (D_is_within : DefIn K mg "is_within" s_is_within)
    (D_check_place : DefIn K mg "check_place" s_check_place)
    (D_node_at : DefIn K mg "node_at" s_node_at)
    (D_law_made : DefIn K mg "_law_made" s_law_made)
    (D_law_behind : DefIn K mg "_law_behind" s_law_behind)
    (D_law_are_told_right : DefIn K mg "_law_are_told_right" s_law_are_told_right)
    (D_law_error : DefIn K mg "_law_error" s_law_error)
    (D_law_are_refused : DefT K mg "_law_are_refused" s_law_are_refused c_law_are_refused)
    (D_law : DefIn K mg "law" s_law)
    (tb_law_are_refused : PySem.W.tabIn K "_law_are_refused" = some (c_law_are_refused, P_law_are_refused))
    (rc_law_are_refused : ((recsOf q).any fun e => e.name == ("_law_are_refused" : Str)) = true)
    (nt : PySem.W.noTabs K = true)
    : LawG P w K 10 63 "script" mg fa h := by
  have T : Tx ⟨K, clsOf C_NoPattern C_NoPlace C_ReadError C_FORMS, [(P_law_are_refused, ("_law_are_refused" : Str) ++ ".<locals>." ++ "<lambda>")]⟩ w mg := { n_ValueError := n_ValueError, n_all := n_all, n_bool := n_bool, n_dict := n_dict, n_int := n_int, n_isinstance := n_isinstance, n_len := n_len, n_max := n_max, n_range := n_range, n_repr := n_repr, n_sorted := n_sorted, n_str := n_str, n_tuple := n_tuple, n_zip := n_zip, g_LETTERS := g_LETTERS, g_MOST_DEEP := g_MOST_DEEP, g_MOST_MARK := g_MOST_MARK, g_MOST_NODES := g_MOST_NODES, g_SIGNS := g_SIGNS, e_NoPattern := by (simp only [cls_NoPattern, cls_NoPlace, cls_ReadError, cls_FORMS]; exact e_NoPattern), e_NoPlace := by (simp only [cls_NoPattern, cls_NoPlace, cls_ReadError, cls_FORMS]; exact e_NoPlace), e_ReadError := by (simp only [cls_NoPattern, cls_NoPlace, cls_ReadError, cls_FORMS]; exact e_ReadError), k_FORMS := by (simp only [cls_NoPattern, cls_NoPlace, cls_ReadError, cls_FORMS]; exact k_FORMS), sub_NoPattern := by (simp only [cls_NoPattern, cls_NoPlace, cls_ReadError, cls_FORMS]; exact sub_NoPattern), kitv_NoPattern := by (simp only [cls_NoPattern, cls_NoPlace, cls_ReadError, cls_FORMS]; exact kitv_NoPattern), kit_NoPattern_NoPattern := by (simp only [cls_NoPattern, cls_NoPlace, cls_ReadError, cls_FORMS]; exact kit_NoPattern_NoPattern), kit_NoPattern_NoPlace := by (simp only [cls_NoPattern, cls_NoPlace, cls_ReadError, cls_FORMS]; exact kit_NoPattern_NoPlace), sub_NoPlace := by (simp only [cls_NoPattern, cls_NoPlace, cls_ReadError, cls_FORMS]; exact sub_NoPlace), kitv_NoPlace := by (simp only [cls_NoPattern, cls_NoPlace, cls_ReadError, cls_FORMS]; exact kitv_NoPlace), kit_NoPlace_NoPattern := by (simp only [cls_NoPattern, cls_NoPlace, cls_ReadError, cls_FORMS]; exact kit_NoPlace_NoPattern), kit_NoPlace_NoPlace := by (simp only [cls_NoPattern, cls_NoPlace, cls_ReadError, cls_FORMS]; exact kit_NoPlace_NoPlace) }
  obtain ⟨fd, hb, hF⟩ := the_law (P := P) (w := w) T hfa D_law_bag D_law_pick D_law_some D_law_lot D_law_parts D_law_depths D_law_mark D_law_drawn D_are_signs D_is_lot D_is_mark D_has_form D_parts_of D_is_pattern D_check_pattern D_node_rows D_nodes_many D_deep D_raw_marks D_marks_of D_raw_lots D_lots_of D_is_integer D_is_within D_check_place D_node_at D_law_made D_law_behind D_law_are_told_right D_law_error D_law_are_refused D_law (.head _) (fun p m0 e => by
      rcases List.mem_cons.mp m0 with rfl | m1
      · exact rfl
      exact absurd m1 List.not_mem_nil)
  refine ⟨⟨fd, [(c_law_are_refused, P_law_are_refused)], _, fun p m => ?_, hb, fun H a ns hl ht hs => law_sp (tabs_nil fun p m => ?_) (law_true ns hl) hs, fun base _ _ TB => hF base TB⟩⟩
  · simp only [List.mem_cons, List.not_mem_nil, or_false] at m
    rcases m with rfl
    · exact tab_any TT KX rc_law_are_refused tb_law_are_refused nt
  · simp only [List.mem_cons, List.not_mem_nil, or_false] at m
    rcases m with rfl
    · exact ht (c_law_are_refused, P_law_are_refused) (.head _)
end K01

set_option Elab.async false
set_option linter.all false
set_option maxRecDepth 100000
open PySem PySem.W PyProof.Rows
set_option maxHeartbeats 0 in
theorem PySem.Challenge.cw_firstreads_k01_whole_nodes_and_their_num_holds : PySem.Challenge.rw_firstreads_k01_whole_nodes_and_their_num.Holds := by
  w_on; o_law; k_head; (case hw => w_witness2)
  k_fill
  refine FR.walk_G (l := PySem.Challenge.rw_firstreads_k01_whole_nodes_and_their_num) (n := 63) (k := 10) (x := "script") rfl (by decide) rfl ⟨rfl, by decide, by decide⟩ (fun w h Y => by first | exact PySem.W.km_in_of Y | exact PySem.W.kIn_of Y) ?F
  case F =>
    intro w lo mean mg mb fa h KX TT e
    refine' K01.row_mk KX TT e ?n_ValueError ?n_all ?n_bool ?n_dict ?n_int ?n_isinstance ?n_len ?n_max ?n_range ?n_repr ?n_sorted ?n_str ?n_tuple ?n_zip ?g_LETTERS ?g_MOST_DEEP ?g_MOST_MARK ?g_MOST_NODES ?g_SIGNS ?e_NoPattern ?e_NoPlace ?e_ReadError ?k_FORMS ?sub_NoPattern ?kitv_NoPattern ?kit_NoPattern_NoPattern ?kit_NoPattern_NoPlace ?sub_NoPlace ?kitv_NoPlace ?kit_NoPlace_NoPattern ?kit_NoPlace_NoPlace ?D_law_bag ?D_law_pick ?D_law_some ?D_law_lot ?D_law_parts ?D_law_depths ?D_law_mark ?D_law_drawn ?D_are_signs ?D_is_lot ?D_is_mark ?D_has_form ?D_parts_of ?D_is_pattern ?D_check_pattern ?D_node_rows ?D_nodes_many ?D_deep ?D_raw_marks ?D_marks_of ?D_raw_lots ?D_lots_of ?D_is_integer ?D_is_within ?D_check_place ?D_node_at ?D_law_made ?D_law_behind ?D_law_are_told_right ?D_law_error ?D_law_are_refused ?D_law ?tb_law_are_refused ?rc_law_are_refused ?nt
    (case n_ValueError => (refine' PySem.W.mg_none_of KX TT.g ?a; (case a => k_is)))
    (case n_all => (refine' PySem.W.mg_none_of KX TT.g ?a; (case a => k_is)))
    (case n_bool => (refine' PySem.W.mg_none_of KX TT.g ?a; (case a => k_is)))
    (case n_dict => (refine' PySem.W.mg_none_of KX TT.g ?a; (case a => k_is)))
    (case n_int => (refine' PySem.W.mg_none_of KX TT.g ?a; (case a => k_is)))
    (case n_isinstance => (refine' PySem.W.mg_none_of KX TT.g ?a; (case a => k_is)))
    (case n_len => (refine' PySem.W.mg_none_of KX TT.g ?a; (case a => k_is)))
    (case n_max => (refine' PySem.W.mg_none_of KX TT.g ?a; (case a => k_is)))
    (case n_range => (refine' PySem.W.mg_none_of KX TT.g ?a; (case a => k_is)))
    (case n_repr => (refine' PySem.W.mg_none_of KX TT.g ?a; (case a => k_is)))
    (case n_sorted => (refine' PySem.W.mg_none_of KX TT.g ?a; (case a => k_is)))
    (case n_str => (refine' PySem.W.mg_none_of KX TT.g ?a; (case a => k_is)))
    (case n_tuple => (refine' PySem.W.mg_none_of KX TT.g ?a; (case a => k_is)))
    (case n_zip => (refine' PySem.W.mg_none_of KX TT.g ?a; (case a => k_is)))
    (case g_LETTERS => (refine' FR.str_at KX TT.g ?a ?e; (case a => k_is); (case e => first | decide +kernel | rfl)))
    (case g_MOST_DEEP => (refine' FR.int_at KX TT.g ?a ?e; (case a => k_is); (case e => first | decide +kernel | rfl)))
    (case g_MOST_MARK => (refine' FR.int_at KX TT.g ?a ?e; (case a => k_is); (case e => first | decide +kernel | rfl)))
    (case g_MOST_NODES => (refine' FR.int_at KX TT.g ?a ?e; (case a => k_is); (case e => first | decide +kernel | rfl)))
    (case g_SIGNS => (refine' FR.str_at KX TT.g ?a ?e; (case a => k_is); (case e => first | decide +kernel | rfl)))
    (case e_NoPattern => (refine' FR.errC_of KX TT.g ?a ?xc ?kc ?bc ?tc ?ic ?h1 ?h2 ?h4 ?h5 ?h6 ?h7 ?h8; (case a => k_is); (case xc => k_exc); (case kc => k_is); (case bc => k_is); (case tc => k_is); (case ic => k_is); (case h1 => k_is); (case h2 => k_is); (case h4 => k_is); (case h5 => k_is); (case h6 => k_is); (case h7 => k_is); (case h8 => k_is)))
    (case e_NoPlace => (refine' FR.errC_of KX TT.g ?a ?xc ?kc ?bc ?tc ?ic ?h1 ?h2 ?h4 ?h5 ?h6 ?h7 ?h8; (case a => k_is); (case xc => k_exc); (case kc => k_is); (case bc => k_is); (case tc => k_is); (case ic => k_is); (case h1 => k_is); (case h2 => k_is); (case h4 => k_is); (case h5 => k_is); (case h6 => k_is); (case h7 => k_is); (case h8 => k_is)))
    (case e_ReadError => (refine' FR.errC_of KX TT.g ?a ?xc ?kc ?bc ?tc ?ic ?h1 ?h2 ?h4 ?h5 ?h6 ?h7 ?h8; (case a => k_is); (case xc => k_exc); (case kc => k_is); (case bc => k_is); (case tc => k_is); (case ic => k_is); (case h1 => k_is); (case h2 => k_is); (case h4 => k_is); (case h5 => k_is); (case h6 => k_is); (case h7 => k_is); (case h8 => k_is)))
    (case k_FORMS => (refine' MV.kd_of KX TT.g ?kda ?kdl ?kdo ?kdi ?kdp; (case kda => k_is); (case kdl => k_is); (case kdo => first | rfl | decide); (case kdi => repeat (first | exact True.intro | refine ⟨⟨_, _, rfl, rfl⟩, ?_⟩)); (case kdp => repeat (first | exact PySem.Paired.nil | refine PySem.Paired.cons ⟨⟨_, rfl⟩, rfl, by first | exact ⟨_, rfl⟩ | rfl⟩ ?_))))
    (case sub_NoPattern => first | k_is | rfl)
    (case kitv_NoPattern => first | k_is | rfl)
    (case kit_NoPattern_NoPattern => first | k_is | rfl)
    (case kit_NoPattern_NoPlace => first | k_is | rfl)
    (case sub_NoPlace => first | k_is | rfl)
    (case kitv_NoPlace => first | k_is | rfl)
    (case kit_NoPlace_NoPattern => first | k_is | rfl)
    (case kit_NoPlace_NoPlace => first | k_is | rfl)
    (case D_law_bag => (refine' FR.def_in KX TT.g ?a ?l ?c ?k; (case a => k_is); (case l => k_is); (case c => k_is); (case k => k_is)))
    (case D_law_pick => (refine' FR.def_in KX TT.g ?a ?l ?c ?k; (case a => k_is); (case l => k_is); (case c => k_is); (case k => k_is)))
    (case D_law_some => (refine' FR.def_in KX TT.g ?a ?l ?c ?k; (case a => k_is); (case l => k_is); (case c => k_is); (case k => k_is)))
    (case D_law_lot => (refine' FR.def_in KX TT.g ?a ?l ?c ?k; (case a => k_is); (case l => k_is); (case c => k_is); (case k => k_is)))
    (case D_law_parts => (refine' FR.def_in KX TT.g ?a ?l ?c ?k; (case a => k_is); (case l => k_is); (case c => k_is); (case k => k_is)))
    (case D_law_depths => (refine' FR.def_in KX TT.g ?a ?l ?c ?k; (case a => k_is); (case l => k_is); (case c => k_is); (case k => k_is)))
    (case D_law_mark => (refine' FR.def_in KX TT.g ?a ?l ?c ?k; (case a => k_is); (case l => k_is); (case c => k_is); (case k => k_is)))
    (case D_law_drawn => (refine' FR.def_in KX TT.g ?a ?l ?c ?k; (case a => k_is); (case l => k_is); (case c => k_is); (case k => k_is)))
    (case D_are_signs => (refine' FR.def_in KX TT.g ?a ?l ?c ?k; (case a => k_is); (case l => k_is); (case c => k_is); (case k => k_is)))
    (case D_is_lot => (refine' FR.def_in KX TT.g ?a ?l ?c ?k; (case a => k_is); (case l => k_is); (case c => k_is); (case k => k_is)))
    (case D_is_mark => (refine' FR.def_in KX TT.g ?a ?l ?c ?k; (case a => k_is); (case l => k_is); (case c => k_is); (case k => k_is)))
    (case D_has_form => (refine' FR.def_in KX TT.g ?a ?l ?c ?k; (case a => k_is); (case l => k_is); (case c => k_is); (case k => k_is)))
    (case D_parts_of => (refine' FR.def_in KX TT.g ?a ?l ?c ?k; (case a => k_is); (case l => k_is); (case c => k_is); (case k => k_is)))
    (case D_is_pattern => (refine' FR.def_in KX TT.g ?a ?l ?c ?k; (case a => k_is); (case l => k_is); (case c => k_is); (case k => k_is)))
    (case D_check_pattern => (refine' FR.def_in KX TT.g ?a ?l ?c ?k; (case a => k_is); (case l => k_is); (case c => k_is); (case k => k_is)))
    (case D_node_rows => (refine' FR.def_in KX TT.g ?a ?l ?c ?k; (case a => k_is); (case l => k_is); (case c => k_is); (case k => k_is)))
    (case D_nodes_many => (refine' FR.def_in KX TT.g ?a ?l ?c ?k; (case a => k_is); (case l => k_is); (case c => k_is); (case k => k_is)))
    (case D_deep => (refine' FR.def_in KX TT.g ?a ?l ?c ?k; (case a => k_is); (case l => k_is); (case c => k_is); (case k => k_is)))
    (case D_raw_marks => (refine' FR.def_in KX TT.g ?a ?l ?c ?k; (case a => k_is); (case l => k_is); (case c => k_is); (case k => k_is)))
    (case D_marks_of => (refine' FR.def_in KX TT.g ?a ?l ?c ?k; (case a => k_is); (case l => k_is); (case c => k_is); (case k => k_is)))
    (case D_raw_lots => (refine' FR.def_in KX TT.g ?a ?l ?c ?k; (case a => k_is); (case l => k_is); (case c => k_is); (case k => k_is)))
    (case D_lots_of => (refine' FR.def_in KX TT.g ?a ?l ?c ?k; (case a => k_is); (case l => k_is); (case c => k_is); (case k => k_is)))
    (case D_is_integer => (refine' FR.def_in KX TT.g ?a ?l ?c ?k; (case a => k_is); (case l => k_is); (case c => k_is); (case k => k_is)))
    (case D_is_within => (refine' FR.def_in KX TT.g ?a ?l ?c ?k; (case a => k_is); (case l => k_is); (case c => k_is); (case k => k_is)))
    (case D_check_place => (refine' FR.def_in KX TT.g ?a ?l ?c ?k; (case a => k_is); (case l => k_is); (case c => k_is); (case k => k_is)))
    (case D_node_at => (refine' FR.def_in KX TT.g ?a ?l ?c ?k; (case a => k_is); (case l => k_is); (case c => k_is); (case k => k_is)))
    (case D_law_made => (refine' FR.def_in KX TT.g ?a ?l ?c ?k; (case a => k_is); (case l => k_is); (case c => k_is); (case k => k_is)))
    (case D_law_behind => (refine' FR.def_in KX TT.g ?a ?l ?c ?k; (case a => k_is); (case l => k_is); (case c => k_is); (case k => k_is)))
    (case D_law_are_told_right => (refine' FR.def_in KX TT.g ?a ?l ?c ?k; (case a => k_is); (case l => k_is); (case c => k_is); (case k => k_is)))
    (case D_law_error => (refine' FR.def_in KX TT.g ?a ?l ?c ?k; (case a => k_is); (case l => k_is); (case c => k_is); (case k => k_is)))
    (case D_law_are_refused => (refine' FR.def_t KX TT.g ?a ?l ?c ?k; (case a => k_is); (case l => k_is); (case c => k_is); (case k => k_is)))
    (case D_law => (refine' FR.def_in KX TT.g ?a ?l ?c ?k; (case a => k_is); (case l => k_is); (case c => k_is); (case k => k_is)))
    (case tb_law_are_refused => first | k_is | rfl)
    (case rc_law_are_refused => kernel_rfl)
    (case nt => kernel_rfl)
