import PyProof.Rows.All
import Wide.All
import OpenK.AllK
import Wide.FinOn
import PyProof.ReprRoads
import HandS.ForMost
import HandS.IsInst
import HandS.Walk
import HandS.Evl
import HandS.Defaults
import HandS.Flow
import HandS.Codes
import HandS.HeadEnd
import HandS.HeadHook1
import HandS.HeadHook2
import HandS.Head2
import HandS.OwnEq
import HandS.Iter
import HandS.Style
import HandS.HotCalls
import HandS.SlotsOwn
import KE.KOpsOwn
import KE.KIntText
import KE.KExcSuper
import HandS.ExcInit
import HandS.ExcField
import HandS.ExcIs
import HandS.ExcValue
import KE.KExcIs
import HandS.HeadHook4
import HandS.EndTab
import HandS.EndBits
import HandS.HeadNt
import HandS.Wide
import HandS.MakeKw
import HandS.MakeKwOnly
import HandS.HeadWalk
import PyProof.MeetsIn
import PySem.Challenge.RW_gapshares_k06_ratios_in_order
set_option Elab.async false
set_option linter.all false
set_option maxRecDepth 100000
set_option maxHeartbeats 4000000
namespace Gs
open PySem PySem.Spec PyProof.Rows L2

/-! ### repr of data -/
/-- what repr asks: data, ints of bounded size, a text of bounded size -/
def rRepr (K : PySem.W.Frag) : List V → Hp → VK → Prop := fun vs H Q => ∃ v d, vs = [v] ∧ Dp K H v d ∧ d.showable = true ∧ d.depth ≤ 60 ∧ d.shown.length ≤ sizeLine ∧ Q (.str d.shown) H

theorem dp_noDict : ∀ {K : PySem.W.Frag} {H : Hp} {v : V} {d : PyData}, Dp K H v d → d.hasDict = false := by
  intro K H v d h
  induction h using Dp.rec (motive_2 := fun vs ds _ => PyData.hasDictAll ds = false) with
  | non => rfl
  | bl b => rfl
  | int i => rfl
  | str x => rfl
  | lst _ _ ih => simpa [PyData.hasDict] using ih
  | tup _ _ ih => simpa [PyData.hasDict] using ih
  | nil => rfl
  | cons _ _ ih1 ih2 => simp [PyData.hasDictAll, ih1, ih2]

theorem call_repr {X : Cx} (hg : X.A.guards = some []) (hu : X.A.units + 64 < cLine) : CallR X (.builtin "repr") (rRepr X.K) := by
  intro pins s σ H xs us Q I r h
  obtain ⟨v, d, rfl, hd, hsh, hdep, hsz, q⟩ := h
  obtain ⟨u, rfl, rv⟩ := vals1 r
  have hnd := dp_noDict hd
  obtain ⟨as, rd⟩ := Dp.reads I d v u hd rv
  cases rd with
  | none => exact PySem.P.repr_of_none ⟨.str _, H, I.tok _, ⟨_, rfl⟩, q⟩
  | bool b => exact PySem.P.repr_of_bool ⟨.str _, H, I.tok _, ⟨_, rfl⟩, by simpa [PyData.shown] using q⟩
  | int i t =>
    have hz : i.natAbs.log2 < 1920 := by simpa [PyData.showable] using hsh
    exact PySem.P.repr_of_int hz ⟨.str _, H, I.tok _, ⟨_, rfl⟩, q⟩
  | str x t => exact PySem.P.repr_of_str (hsz := hsz) ⟨.str _, H, I.tok _, ⟨_, rfl⟩, q⟩
  | list h1 h2 h3 h4 =>
    exact repr_of_reads' (.list h1 h2 h3 h4) hsh (PyData.noDict_hsm hnd) hg (by omega) (fun _ _ e => e) (fun h' u tk hk => ⟨.str _, H, I.kept hk, ⟨_, rfl⟩, q⟩) hsz
  | tuple h1 h2 h3 h4 =>
    exact repr_of_reads' (.tuple h1 h2 h3 h4) hsh (PyData.noDict_hsm hnd) hg (by omega) (fun _ _ e => e) (fun h' u tk hk => ⟨.str _, H, I.kept hk, ⟨_, rfl⟩, q⟩) hsz
  | dict _ _ _ _ _ => simp [PyData.hasDict] at hnd

/-! ### defs that are run where no repr is under way -/
structure FnG (P : Program) (w : World) (K : PySem.W.Frag) (mg : Str → Option Value) (base : Heap) (CX : CXT) (k : Nat) (f : Addr) (fd : FuncData) (ps : List Str) (sp : Sp) : Prop where
  ln : ∀ vs H Q E, sp vs H Q E → vs.length = ps.length
  go : ∀ (A : Around) (out : List Env) (s : Shared) (H : Hp) (as : Args) (us : List Value) (vs : List V) (Q : VK) (E : XK), A.guards = some [] → Room k A →
    Env0 P w K mg base A out s H → BindsTo s fd as (ps.zip us) → Vals vs us → sp vs H Q E → codeAny (model P w) A (.call (.ref f) as) (CR CX out P w H s Q E) s
theorem FnG.of {P : Program} {w : World} {K : PySem.W.Frag} {mg : Str → Option Value} {base : Heap} {CX : CXT} {k : Nat} {f : Addr} {fd : FuncData} {ps : List Str} {sp : Sp}
    (F : FnOk P w K mg base CX k f fd ps sp) : FnG P w K mg base CX k f fd ps sp :=
  ⟨F.len, fun A out s H as us vs Q E _ => F.run A out s H as us vs Q E⟩

/-- a body's theorem, the guards told -/
theorem fnG_of {CX : CXT} {P : Program} {w : World} {K : PySem.W.Frag} {mg : Str → Option Value} {base : Heap} {k : Nat} {f : Addr} {fd : FuncData} {x qual : Str} {params : Arguments} {body : List Stmt} {scope : Scope}
    {dvs : List V} {kws : List (Str × V)} {N ps : List Str} {sp : Sp} (F : FunD K x qual params body scope dvs kws f fd) (S : FnScope N ps scope) (ln : ∀ vs H Q E, sp vs H Q E → vs.length = ps.length)
    (bd : ∀ (cdv : Value) (A : Around) (out : List Env) (s : Shared) (H : Hp) (vs : List V) (Q : VK) (E : XK), (A.deeper (envOfC qual scope s.heap.objs.size f cdv)).guards = some [] →
      Room k (A.deeper (envOfC qual scope s.heap.objs.size f cdv)) → sp vs H Q E →
      ∃ t, PSs (cxOf CX P w K mg base N qual scope f cdv A out s H E) body t ∧ t { nx := fun _ H' => Q .non H', rt := Q } (start N vs) H) : FnG P w K mg base CX (k + 1) f fd ps sp := by
  obtain ⟨oc, od, dV, kV, doc, pm, an, cdv, ct, osl, rfl, lk, hcd, _, _⟩ := F.ex
  refine ⟨ln, fun A out s H as us vs Q E hg hr e0 hb rv hsp => ?_⟩
  have hz := ln _ _ _ _ hsp
  have KX : K.In s.heap := e0.mod.kin.keeps fun b o e => (e0.bs b o e).1
  have nl : s.heap.NoLimit := e0.mod.nolimit.keeps fun b o e => (e0.bs b o e).1
  have par : ∀ y ∈ ps.zip us, scope.names.lookup y.1 = some .local ∨ (scope.names.lookup y.1 = some .cell ∧ ((cellsFrom (s.heap.objs.size + 1) scope.names []).lookup y.1).isSome = true) := by
    rintro ⟨n, v⟩ hy
    cases S.par n (List.of_mem_zip hy).1 with
    | inl q => exact .inl q
    | inr q => exact .inr ⟨q, PySem.W.cellsFrom_some _ _ _ (.inl q)⟩
  refine codeAny_call_function hr.depth (KX _ _ lk) rfl S.co S.gen rfl (PySem.W.codeRec_of KX hcd) (hb _ _ _ _ (wpAny_newFunctionEnv_cells S.kind par ?_))
  rintro env rfl s1 ic
  refine ⟨nl.keeps ic.toInCall.keep, codeAny_func ?_⟩
  obtain ⟨t, ht, hq⟩ := bd cdv A out s H vs Q E hg (hr.deeper _) hsp
  refine wpAny_mono (ht.run [] s1 (start N vs) H _ (inv_start S hr.hd e0 hz rv ic) hq) ?_ fun e s' hs => hs
  intro fl s' hs
  match fl, hs with
  | .ret u, ⟨v, σ', H', J, r2, q⟩ => exact ⟨v, H', J.os, J.bare, J.base, J.hok, r2, q⟩
  | .next, ⟨σ', H', J, q⟩ => exact ⟨V.non, H', J.os, J.bare, J.base, J.hok, rfl, q⟩
  | .brk, ⟨_, _, _, q⟩ => exact q.elim
  | .cont, ⟨_, _, _, q⟩ => exact q.elim

section
variable {X : Cx} {CX : CXT} {k : Nat} {f : Addr} {fd : FuncData} {ps : List Str} {sp : Sp} {dvs : List V} {ds : List Value} {E : XK} {x : Str} {p pos : Pos} {e : Expr} {es : List Expr} {t : TA}
theorem runG {pins : List (Addr × Obj)} {σ : L2.St} {H : Hp} {s : Shared} {Q : VK} {us : List Value} {vs : List V} (F : FnG X.prog X.w X.K X.mg X.base CX k f fd ps sp) (hG : X.A.guards = some []) (hr : Room k X.A)
    (hb : Binds X.K fd ps ds) (hd : Vals dvs ds) (hx : Passes CX X E) (I : Inv X pins σ H s) (rv : Vals vs us) (h : sp (vs ++ dvs) H Q E) :
    wpAny (model X.prog X.w) X.A (call (.ref f) us) (EP X pins σ Q) X.xe s := by
  have rr := rv.append hd
  have lz : (us ++ ds).length = ps.length := rr.length ▸ F.ln _ _ _ _ h
  refine wpAny_call (codeAny_mono (F.go X.A X.stack s H ⟨us, []⟩ _ _ Q E hG hr I.env0 (hb s us I.kIn lz) rr h) ?_)
  intro r s' hq
  match r, hq with
  | .error e, hq => exact hx pins σ H s e s' I hq
  | .ok (.ret u), hq => exact I.after hq
  | .ok .next, hq => exact hq.elim
  | .ok .brk, hq => exact hq.elim
  | .ok .cont, hq => exact hq.elim
end

/-! ### a def by its name: one bundle -/
structure DefOk (P : Program) (w : World) (K : PySem.W.Frag) (mg : Str → Option Value) (base : Heap) (CX : CXT) (k : Nat) (x : Str) (ps : List Str) (dvs : List V) (sp : Sp) : Prop where
  ex : ∃ f fd ds, FnOk P w K mg base CX k f fd ps sp ∧ mg x = some (.ref f) ∧ PySem.W.keepIn K (.ref f) = true ∧ Binds K fd ps ds ∧ Vals dvs ds
  lk : ∀ f fd, mg x = some (.ref f) → (∃ oc od osl, K.lookup f = some ⟨oc, od, .func fd, osl⟩) → FnOk P w K mg base CX k f fd ps sp ∧ PySem.W.keepIn K (.ref f) = true
structure DefG (P : Program) (w : World) (K : PySem.W.Frag) (mg : Str → Option Value) (base : Heap) (CX : CXT) (k : Nat) (x : Str) (ps : List Str) (dvs : List V) (sp : Sp) : Prop where
  ex : ∃ f fd ds, FnG P w K mg base CX k f fd ps sp ∧ mg x = some (.ref f) ∧ PySem.W.keepIn K (.ref f) = true ∧ Binds K fd ps ds ∧ Vals dvs ds
  lk : ∀ f fd, mg x = some (.ref f) → (∃ oc od osl, K.lookup f = some ⟨oc, od, .func fd, osl⟩) → FnG P w K mg base CX k f fd ps sp ∧ PySem.W.keepIn K (.ref f) = true
theorem DefOk.g {P : Program} {w : World} {K : PySem.W.Frag} {mg : Str → Option Value} {base : Heap} {CX : CXT} {k : Nat} {x : Str} {ps : List Str} {dvs : List V} {sp : Sp} (D : DefOk P w K mg base CX k x ps dvs sp) : DefG P w K mg base CX k x ps dvs sp :=
  let ⟨f, fd, ds, F, a, b, c, d⟩ := D.ex
  ⟨⟨f, fd, ds, .of F, a, b, c, d⟩, fun f fd h1 h2 => let ⟨q1, q2⟩ := D.lk f fd h1 h2; ⟨.of q1, q2⟩⟩

section
variable {X : Cx} {CX : CXT} {k : Nat} {ps : List Str} {sp : Sp} {dvs : List V} {E : XK} {x : Str} {p pos : Pos} {e : Expr} {es : List Expr} {t : TA}
theorem pe_d (D : DefOk X.prog X.w X.K X.mg X.base CX k x ps dvs sp) (hr : Room k X.A) (hx : Passes CX X E) (ha : PA X (e :: es) t) (hg : Gl X x := by rfl) (hdb : (x == ("__debug__" : Str)) = false := by decide)
    (he : starEach (e :: es) X.env = (false, eval e X.env) :: starEach es X.env := by rfl) (hpl : (backTo pos (starEach es X.env)).any (·.1) = false := by rfl) :
    PE X (.Call (.Name x p) (e :: es) [] pos) (tCall sp dvs E t) :=
  let ⟨_, _, _, F, a, b, c, d⟩ := D.ex
  pe_call F hr hg a b c d hx ha hdb he hpl
theorem pe_d0 (D : DefOk X.prog X.w X.K X.mg X.base CX k x ps dvs sp) (hr : Room k X.A) (hx : Passes CX X E) (hg : Gl X x := by rfl) (hdb : (x == ("__debug__" : Str)) = false := by decide) :
    PE X (.Call (.Name x p) [] [] pos) (tCall sp dvs E tNil) :=
  let ⟨_, _, _, F, a, b, c, d⟩ := D.ex
  pe_call0 F hr hg a b c d hx hdb
theorem pe_g (D : DefG X.prog X.w X.K X.mg X.base CX k x ps dvs sp) (hG : X.A.guards = some []) (hr : Room k X.A) (hx : Passes CX X E) (ha : PA X (e :: es) t) (hg : Gl X x := by rfl) (hdb : (x == ("__debug__" : Str)) = false := by decide)
    (he : starEach (e :: es) X.env = (false, eval e X.env) :: starEach es X.env := by rfl) (hpl : (backTo pos (starEach es X.env)).any (·.1) = false := by rfl) :
    PE X (.Call (.Name x p) (e :: es) [] pos) (tCall sp dvs E t) := by
  obtain ⟨_, _, _, F, hm, hk, hb, hd⟩ := D.ex
  refine ⟨fun pins s σ H Q I h => wpAny_Call_Name_kw (ld_glob I hg hm ?_ hdb)⟩
  refine PySem.W.callWith_K (h₀ := X.base) I.ok.mod.kin hk (thn (ha.run pos pins s σ H _ I h) ?_) he hpl
  rintro us s1 ⟨vs, H1, I1, rv, q⟩
  exact ⟨I1.kIn, runG F hG hr hb hd hx I1 rv q⟩
theorem pe_g0 (D : DefG X.prog X.w X.K X.mg X.base CX k x ps dvs sp) (hG : X.A.guards = some []) (hr : Room k X.A) (hx : Passes CX X E) (hg : Gl X x := by rfl) (hdb : (x == ("__debug__" : Str)) = false := by decide) :
    PE X (.Call (.Name x p) [] [] pos) (tCall sp dvs E tNil) := by
  obtain ⟨_, _, _, F, hm, hk, hb, hd⟩ := D.ex
  refine ⟨fun pins s σ H Q I h => wpAny_Call_Name_kw (ld_glob I hg hm ?_ hdb)⟩
  exact PySem.W.callWith_K0 I.kIn hk (runG (us := []) F hG hr hb hd hx I .nil h)
end

/-! ### a def where the top has it -/
structure At (K : PySem.W.Frag) (mg : Str → Option Value) (x : Str) (st : Stmt) : Prop where
  ex : ∃ f fd, FunD K x x (defArgs st) (defBody st) (defScope st) [] [] f fd ∧ mg x = some (.ref f)
section
variable {P : Program} {w : World} {K : PySem.W.Frag} {mg : Str → Option Value} {base : Heap} {x : Str} {st : Stmt} {N ps : List Str} {k : Nat} {sp : Sp}
theorem At.ok (a : At K mg x st) (S : FnScope N ps (defScope st)) (bnd : ∀ f fd, FunD K x x (defArgs st) (defBody st) (defScope st) [] [] f fd → Binds K fd ps []) (ln : ∀ vs H Q E, sp vs H Q E → vs.length = ps.length)
    (bd : ∀ (f : Addr) (cdv : Value) (A : Around) (out : List Env) (s : Shared) (H : Hp) (vs : List V) (Q : VK) (E : XK), Room k (A.deeper (envOfC x (defScope st) s.heap.objs.size f cdv)) → sp vs H Q E →
      ∃ t, PSs (cxOf CX0 P w K mg base N x (defScope st) f cdv A out s H E).nox (defBody st) t ∧ t { nx := fun _ H' => Q .non H', rt := Q } (start N vs) H) : DefOk P w K mg base CX0 (k + 1) x ps [] sp := by
  obtain ⟨f, fd, F, hm⟩ := a.ex
  have ok : FnOk P w K mg base CX0 (k + 1) f fd ps sp := F.ok S ln fun cdv A out s H vs Q E hr h =>
    let ⟨t, h1, h2⟩ := bd f cdv A out s H vs Q E hr h
    ⟨t, h1.nox, h2⟩
  refine ⟨⟨f, fd, [], ok, hm, F.kp, bnd f fd F, .nil⟩, fun f2 fd2 e2 ⟨oc, od, osl, l2⟩ => ?_⟩
  rw [hm] at e2
  cases e2
  obtain ⟨_, _, _, _, _, _, _, _, _, _, rfl, l1, _⟩ := F.ex
  rw [l1] at l2
  cases l2
  exact ⟨ok, F.kp⟩
theorem At.okG (a : At K mg x st) (S : FnScope N ps (defScope st)) (bnd : ∀ f fd, FunD K x x (defArgs st) (defBody st) (defScope st) [] [] f fd → Binds K fd ps []) (ln : ∀ vs H Q E, sp vs H Q E → vs.length = ps.length)
    (bd : ∀ (f : Addr) (cdv : Value) (A : Around) (out : List Env) (s : Shared) (H : Hp) (vs : List V) (Q : VK) (E : XK), (A.deeper (envOfC x (defScope st) s.heap.objs.size f cdv)).guards = some [] →
      Room k (A.deeper (envOfC x (defScope st) s.heap.objs.size f cdv)) → sp vs H Q E →
      ∃ t, PSs (cxOf CX0 P w K mg base N x (defScope st) f cdv A out s H E).nox (defBody st) t ∧ t { nx := fun _ H' => Q .non H', rt := Q } (start N vs) H) : DefG P w K mg base CX0 (k + 1) x ps [] sp := by
  obtain ⟨f, fd, F, hm⟩ := a.ex
  have ok : FnG P w K mg base CX0 (k + 1) f fd ps sp := fnG_of F S ln fun cdv A out s H vs Q E hg hr h =>
    let ⟨t, h1, h2⟩ := bd f cdv A out s H vs Q E hg hr h
    ⟨t, h1.nox, h2⟩
  refine ⟨⟨f, fd, [], ok, hm, F.kp, bnd f fd F, .nil⟩, fun f2 fd2 e2 ⟨oc, od, osl, l2⟩ => ?_⟩
  rw [hm] at e2
  cases e2
  obtain ⟨_, _, _, _, _, _, _, _, _, _, rfl, l1, _⟩ := F.ex
  rw [l1] at l2
  cases l2
  exact ⟨ok, F.kp⟩
end

theorem dp_ints {K : PySem.W.Frag} {H : Hp} : ∀ ns : List Int, DpAll K H (ns.map V.int) (ns.map PyData.int)
  | [] => .nil
  | n :: ns => .cons (.int n) (dp_ints ns)
theorem shaped_ints (ns : List Int) : SeqAt.shaped (.list (ns.map PyData.int)) = true := by
  have h2 : PyData.depthAll (ns.map PyData.int) = 0 := by
    induction ns with
    | nil => rfl
    | cons n ns ih => simp [PyData.depthAll, PyData.depth] at ih ⊢; exact ih
  have h1 : PyData.canLayAll0 (ns.map PyData.int) = true := by
    clear h2
    induction ns with
    | nil => rfl
    | cons n ns ih => simp [PyData.canLayAll0, PyData.canLay0, ih]
  simp [SeqAt.shaped, PyData.canLay0, PyData.depth, h1, h2]
theorem eqv_ints_nil (ns : List Int) : PyData.eqv (.list (ns.map PyData.int)) (.list []) = ns.isEmpty := by
  cases ns <;> simp [PyData.eqv, PyData.eqvAll]
theorem atI_mod {α : Type} {xs : List α} (h : 0 < xs.length) (i : Int) : ∃ (j : Nat) (x : α), (i % (xs.length : Int)) = (j : Int) ∧ xs[j]? = some x ∧ atI xs (i % (xs.length : Int)) = some x := by
  have h0 : 0 ≤ i % (xs.length : Int) := Int.emod_nonneg _ (by omega)
  have h1 : i % (xs.length : Int) < xs.length := Int.emod_lt_of_pos _ (by omega)
  obtain ⟨j, hj⟩ := Int.eq_ofNat_of_zero_le h0
  rw [hj]
  have hlt : j < xs.length := by omega
  exact ⟨j, xs[j], rfl, List.getElem?_eq_getElem hlt, atI_nat (List.getElem?_eq_getElem hlt)⟩
theorem mul_box {a b A B : Int} (h1 : 0 ≤ a) (h2 : a ≤ A) (h3 : 0 ≤ b) (h4 : b ≤ B) : 0 ≤ a * b ∧ a * b ≤ A * B :=
  ⟨Int.mul_nonneg h1 h3, Int.mul_le_mul h2 h4 h3 (Int.le_trans h1 h2)⟩
/-! ### calls by keywords alone -/
def kwOnly {α : Type} (g : List α → List α) : List α → List α → List α := fun us ws => match us with
  | [] => g ws
  | _ => []
theorem pe_dK {X : Cx} {CX : CXT} {k : Nat} {ps ks : List Str} {sp : Sp} {E : XK} {x : Str} {p pos : Pos} {kws : List Keyword} {tk : TA} {st : Stmt} {g : {α : Type} → List α → List α}
    (D : DefOk X.prog X.w X.K X.mg X.base CX k x ps [] sp) (a : At X.K X.mg x st) (hr : Room k X.A) (hx : Passes CX X E)
    (hb : ∀ (kV doc pm : Value) (an : Option Addr) (cdv ct : Value) (ws : List Value), (g ws).length = ps.length → bindArgs (PySem.W.fnOf x x (defArgs st) (defBody st) (defScope st) .none kV doc pm an cdv ct) ⟨[], ks.zip ws⟩ = pure (ps.zip (g ws)))
    (rel : ∀ {zs : List V} {ws : List Value}, Vals zs ws → Vals (g zs) (g ws)) (hn : ps ≠ []) (hkw : PK X kws tk) (hg : Gl X x := by rfl) (hall : (backToKw pos (keywordEach kws X.env)).all (·.1.isSome) = true := by rfl)
    (hks : (backToKw pos (keywordEach kws X.env)).filterMap (·.1) = ks := by rfl) (hdb : (x == ("__debug__" : Str)) = false := by decide)
    (hpl : ((backTo pos (starEach [] X.env)).any (·.1) || (backToKw pos (keywordEach kws X.env)).any (·.1.isNone)) = false := by rfl) :
    PE X (.Call (.Name x p) [] kws pos) (fun σ H Q => tk σ H fun zs H2 => sp (g zs) H2 Q E) := by
  obtain ⟨f, fd, F, hm⟩ := a.ex
  obtain ⟨oc, od, dV, kV, doc, pm, an, cdv, ct, osl, rfl, l1, hcd, hD, hK⟩ := F.ex
  obtain ⟨ok, kp⟩ := D.lk f _ hm ⟨_, _, _, l1⟩
  rcases hD with ⟨_, rfl⟩ | ⟨e, _⟩
  · have KB : KBinds X.K (PySem.W.fnOf x x (defArgs st) (defBody st) (defScope st) .none kV doc pm an cdv ct) ps ks (kwOnly g) (kwOnly g) := by
      refine ⟨fun s us ws X hl => ?_, fun {vs us zs ws} r1 r2 => ?_⟩
      · match us, hl with
        | [], hl => exact .of_eq (hb _ _ _ _ _ _ ws hl)
        | _ :: _, hl => exact (hn (List.eq_nil_of_length_eq_zero (Eq.symm hl))).elim
      · cases r1 with
        | nil => exact rel r2
        | cons _ _ => exact .nil
    refine ⟨fun pins s σ H Q I h => wpAny_Call_Name_kw (ld_glob I hg hm ?_ hdb)⟩
    refine PySem.W.callWith_KW0 (h₀ := X.base) I.ok.mod.kin kp hall (thn (hkw.run pos pins s σ H _ I h) ?_) hpl
    rintro ws s2 ⟨zs, H2, I2, rz, q2⟩
    refine ⟨I2.kIn, ?_⟩
    rw [hks]
    exact run_fnk (vs := []) (us := []) ok hr KB hx I2 .nil rz q2
  · exact absurd rfl e

/-! ### what draws -/
/-- a pen at p: its cells at c, at most n of them are drawn -/
structure Pen (H : Hp) (p c : Addr) (n : Nat) : Prop where
  ex : ∃ (ns : List Int) (spot great : Int), H p = some (.lst [.ref c, .int spot, .int great]) ∧ H c = some (.lst (ns.map V.int)) ∧ ns.length ≤ 63 ∧ 0 ≤ spot ∧ spot ≤ n ∧ 0 ≤ great
theorem Pen.ne {H : Hp} {p c : Addr} {n : Nat} (h : Pen H p c n) : c ≠ p := by
  rintro rfl
  obtain ⟨ns, s, g, h1, h2, _⟩ := h.ex
  rw [h1] at h2
  cases ns with
  | nil => cases h2
  | cons a as => cases h2
theorem Pen.mono {H : Hp} {p c : Addr} {n m : Nat} (h : Pen H p c n) (hm : n ≤ m) : Pen H p c m :=
  let ⟨ns, s, g, h1, h2, h3, h4, h5, h6⟩ := h.ex
  ⟨ns, s, g, h1, h2, h3, h4, by omega, h6⟩
/-- all but p is as it was -/
def But (p : Addr) (H H' : Hp) : Prop := ∀ b o, H b = some o → b ≠ p → H' b = some o
theorem But.refl (p : Addr) (H : Hp) : But p H H := fun _ _ h _ => h
theorem But.trans {p : Addr} {H H1 H2 : Hp} (a : But p H H1) (b : But p H1 H2) : But p H H2 := fun x o h n => b x o (a x o h n) n
theorem But.new {p q : Addr} {H H1 : Hp} {o : HO} (a : But p H H1) (h : H1 q = none) : But p H (upd H1 q o) := fun x u e n => by
  have z := a x u e n
  rw [upd_ne (ne_of_none z h)]
  exact z
theorem But.self {p : Addr} {H H1 : Hp} {o : HO} (a : But p H H1) : But p H (upd H1 p o) := fun x u e n => by
  rw [upd_ne n]
  exact a x u e n
theorem Pen.new {H : Hp} {p c q : Addr} {n : Nat} {o : HO} (h : Pen H p c n) (hq : H q = none) : Pen (upd H q o) p c n := by
  obtain ⟨ns, s, g, h1, h2, h3⟩ := h.ex
  exact ⟨ns, s, g, by rw [upd_ne (ne_of_none h1 hq)]; exact h1, by rw [upd_ne (ne_of_none h2 hq)]; exact h2, h3⟩
theorem Pen.ext {H H' : Hp} {p c : Addr} {n : Nat} (h : Pen H p c n) (k : ∀ b o, H b = some o → H' b = some o) : Pen H' p c n := by
  obtain ⟨ns, s, g, h1, h2, h3⟩ := h.ex
  exact ⟨ns, s, g, k _ _ h1, k _ _ h2, h3⟩
def spPen (K : PySem.W.Frag) : Sp := fun vs H Q _ => ∃ (a : Addr) (ns : List Int), vs = [.ref a] ∧ SqL K H a (ns.map V.int) ∧ ns.length ≤ 63 ∧
  ∀ p c H', H p = none → H c = none → Pen H' p c 0 → (∀ b o, H b = some o → H' b = some o) → Q (.ref p) H'
def spDraw : Sp := fun vs H Q _ => ∃ (p c : Addr) (n : Nat) (m : Int), vs = [.ref p, .int m] ∧ Pen H p c n ∧ n ≤ 1000000 ∧ 0 < m ∧ m < 1073741824 ∧
  ∀ k H', 0 ≤ k → k < m → Pen H' p c (n + 1) → But p H H' → Q (.int k) H'
def spPick (K : PySem.W.Frag) : Sp := fun vs H Q _ => ∃ (p c l : Addr) (n : Nat) (xs : List V), vs = [.ref p, .ref l] ∧ Pen H p c n ∧ n ≤ 1000000 ∧ SqL K H l xs ∧ l ≠ p ∧ xs ≠ [] ∧ xs.length < 1000000 ∧
  ∀ (i : Nat) (x : V) H', xs[i]? = some x → Pen H' p c (n + 1) → But p H H' → Q x H'

theorem cut_map {α : Type} (f : α → V) (xs : List α) (lo hi : Option Int) : ∃ ys : List α, cutV (xs.map f) lo hi = ys.map f ∧ ys.length ≤ xs.length ∧ ∀ y ∈ ys, y ∈ xs := by
  unfold cutV
  rw [List.length_map]
  generalize HT.sIx xs.length 0 lo = i
  generalize HT.sIx xs.length xs.length hi - i = j
  refine ⟨(xs.drop i).take j, by rw [List.map_take, List.map_drop], ?_, fun y hy => List.mem_of_mem_drop (List.mem_of_mem_take hy)⟩
  rw [List.length_take, List.length_drop]
  omega
/-- what is kept -/
def Ext (H H' : Hp) : Prop := ∀ b o, H b = some o → H' b = some o
theorem Ext.refl (H : Hp) : Ext H H := fun _ _ h => h
theorem Ext.trans {H H1 H2 : Hp} (a : Ext H H1) (b : Ext H1 H2) : Ext H H2 := fun x o h => b x o (a x o h)
theorem Ext.new {H H1 : Hp} {q : Addr} {o : HO} (a : Ext H H1) (h : H1 q = none) : Ext H (upd H1 q o) := fun x u e => by
  have z := a x u e
  rw [upd_ne (ne_of_none z h)]
  exact z
theorem Ext.mut {H H1 : Hp} {q : Addr} {o : HO} (a : Ext H H1) (h : H q = none) : Ext H (upd H1 q o) := fun x u e => by
  rw [upd_ne (ne_of_none e h)]
  exact a x u e
theorem But.mut {p q : Addr} {H H1 : Hp} {o : HO} (a : But p H H1) (h : H q = none) : But p H (upd H1 q o) := fun x u e n => by
  rw [upd_ne (ne_of_none e h)]
  exact a x u e n
theorem Ext.but {H H1 : Hp} {p : Addr} (a : Ext H H1) : But p H H1 := fun x u e _ => a x u e
theorem ext_new {H : Hp} {q : Addr} {o : HO} (h : H q = none) : Ext H (upd H q o) := (Ext.refl H).new h
theorem Ext.sq {K : PySem.W.Frag} {H H' : Hp} {a : Addr} {xs : List V} (e : Ext H H') (h : SqL K H a xs) : SqL K H' a xs := Evl.ex_l e h
theorem Ext.st {K : PySem.W.Frag} {H H' : Hp} {a : Addr} {xs : List V} (e : Ext H H') (h : SqT K H a xs) : SqT K H' a xs := Evl.ex_t e h
theorem But.sq {K : PySem.W.Frag} {H H' : Hp} {p a : Addr} {xs : List V} (e : But p H H') (hn : a ≠ p) (h : SqL K H a xs) : SqL K H' a xs := by
  rcases h with h | h
  · rcases h with h | ⟨o, h⟩
    · exact .inl (.inl (e a _ h hn))
    · exact .inl (.inr ⟨o, e a _ h hn⟩)
  · exact .inr h
theorem But.st {K : PySem.W.Frag} {H H' : Hp} {p a : Addr} {xs : List V} (e : But p H H') (hn : a ≠ p) (h : SqT K H a xs) : SqT K H' a xs := by
  rcases h with h | h
  · rcases h with h | ⟨o, h⟩
    · exact .inl (.inl (e a _ h hn))
    · exact .inl (.inr ⟨o, e a _ h hn⟩)
  · exact .inr h

/-! ### comprehensions over a text -/
section
theorem wipe_one (σ : L2.St) (i : Nat) (x : Option V) : wipe ((wipe σ [i]).set i x) [i] = wipe σ [i] := by
  show ((σ.set i none).set i x).set i none = σ.set i none
  rw [List.set_set, List.set_set]
/-- [f c for c in z if b c], nothing else touched -/
theorem lc_txt {i : Nat} {tt : TT} {te : TE} {σ : L2.St} {H1 : Hp} {D : Addr} {Qd : Hp → Prop} {z : Str} (b : Nat → Bool) (f : Nat → V)
    (ht : ∀ c H (Q : Bool → Hp → Prop), c ∈ z.cps.toList → Q (b c) H → tt ((wipe σ [i]).set i (some (.str ⟨#[c]⟩))) H Q)
    (he : ∀ c H (Q : VK), c ∈ z.cps.toList → b c = true → Q (f c) H → te ((wipe σ [i]).set i (some (.str ⟨#[c]⟩))) H Q)
    (hz : z.length ≤ sizeLine) (hd : Qd (upd H1 D (.lst ((z.cps.toList.filter b).map f)))) :
    ∃ W : Nat → Nat → Hp → Prop, (∃ m, W 0 m (upd H1 D (.lst []))) ∧ ∀ i' m H, W i' m H →
      ((Its z).stop i' H ∧ Qd H) ∨ ((Its z).go i' H ∧ ∃ Nx : Hp → Prop, (∀ H', Nx H' → ∃ m', m' < m ∧ W (i' + 1) m' H') ∧ ∀ x H', (Its z).yld i' H x H' → gName i x (wipe σ [i]) H' fun σ2 H2 => wipe σ2 [i] = wipe σ [i] ∧ tt σ2 H2 fun b H3 =>
        if b = true then te σ2 H3 fun y H4 => ∃ acc, H4 D = some (.lst acc) ∧ acc.length < sizeLine ∧ Nx (upd H4 D (.lst (acc ++ [y]))) else Nx H3) := by
  have hsz : z.cps.size = z.cps.toList.length := by simp
  refine lc_it (J := Its z) walk_str (fun i H => H = upd H1 D (.lst (((z.cps.toList.take i).filter b).map f))) (by simp) (fun _ _ _ _ => trivial) ?_ ?_
  · rintro j x H H' hj rfl ⟨rfl, c, hc, rfl⟩
    have hj2 : j < z.cps.toList.length := by omega
    have hc2 : z.cps.toList[j]? = some c := by simpa using hc
    have hm : c ∈ z.cps.toList := List.mem_of_getElem? hc2
    have tk : z.cps.toList.take (j + 1) = z.cps.toList.take j ++ [c] := by rw [List.take_succ, hc2]; rfl
    refine ⟨wipe_one _ _ _, ht c _ _ hm ?_⟩
    cases hb : b c with
    | true =>
      refine iteT (he c _ _ hm hb ⟨_, upd_same, ?_, ?_⟩)
      · rw [List.length_map]
        refine Nat.lt_of_le_of_lt (List.length_filter_le _ _) ?_
        rw [List.length_take]
        have : z.length = z.cps.toList.length := by simp [Str.length]
        omega
      · rw [upd_upd, tk, List.filter_append, List.map_append]
        simp [List.filter, hb]
    | false =>
      refine iteF ?_
      rw [tk, List.filter_append, List.map_append]
      simp [List.filter, hb]
  · intro H h
    subst h
    rw [hsz, List.take_length]
    exact hd
end
theorem lc_txt1 {i : Nat} {te : TE} {σ : L2.St} {H1 : Hp} {D : Addr} {Qd : Hp → Prop} {z : Str} (f : Nat → V)
    (he : ∀ c H (Q : VK), c ∈ z.cps.toList → Q (f c) H → te ((wipe σ [i]).set i (some (.str ⟨#[c]⟩))) H Q)
    (hz : z.length ≤ sizeLine) (hd : Qd (upd H1 D (.lst (z.cps.toList.map f)))) :
    ∃ W : Nat → Nat → Hp → Prop, (∃ m, W 0 m (upd H1 D (.lst []))) ∧ ∀ i' m H, W i' m H →
      ((Its z).stop i' H ∧ Qd H) ∨ ((Its z).go i' H ∧ ∃ Nx : Hp → Prop, (∀ H', Nx H' → ∃ m', m' < m ∧ W (i' + 1) m' H') ∧ ∀ x H', (Its z).yld i' H x H' → gName i x (wipe σ [i]) H' fun σ2 H2 => wipe σ2 [i] = wipe σ [i] ∧ tYes σ2 H2 fun b H3 =>
        if b = true then te σ2 H3 fun y H4 => ∃ acc, H4 D = some (.lst acc) ∧ acc.length < sizeLine ∧ Nx (upd H4 D (.lst (acc ++ [y]))) else Nx H3) :=
  lc_txt (fun _ => true) f (fun _ _ _ _ q => q) (fun c H Q hc _ q => he c H Q hc q) hz (by
    rw [List.filter_eq_self.mpr fun _ _ => rfl]
    exact hd)
theorem yes_go {σ : L2.St} {H : Hp} {P R : Hp → Prop} (h : P H) : tYes σ H (fun b H3 => if b = true then P H3 else R H3) := by
  have e : (if true = true then P H else R H) = P H := if_pos rfl
  exact e.mpr h
theorem scal_str (a b : Str) : scal (.str a) (.str b) = true := rfl
/-! ### what is at hand at once -/
def Pu (te : TE) (σ : L2.St) (v : V) : Prop := ∀ H (Q : VK), Q v H → te σ H Q
theorem pu_var {σ : L2.St} {i : Nat} {v : V} (h : σ[i]? = some (some v)) : Pu (tVar i) σ v := fun _ _ q => ⟨v, h, q⟩
theorem pu_c {σ : L2.St} {v : V} : Pu (tC v) σ v := fun _ _ q => q
theorem ch_le {ta tb tc : TE} {σ : L2.St} {H : Hp} {Q : VK} {i j k : Int} (ha : Pu ta σ (.int i)) (hb : Pu tb σ (.int j)) (hc : Pu tc σ (.int k)) (q : Q (.bl (decide (i ≤ j ∧ j ≤ k))) H) :
    tChain (rI0 fun i j => .bl (decide (i ≤ j))) (rI0 fun i j => .bl (decide (i ≤ j))) ta tb tc σ H Q := by
  refine ha H _ (hb H _ ⟨i, j, rfl, rfl, _, rfl, ?_⟩)
  by_cases h1 : i ≤ j
  · rw [decide_eq_true h1]
    refine iteT (hc H _ ⟨j, k, rfl, rfl, ?_⟩)
    have e : decide (i ≤ j ∧ j ≤ k) = decide (j ≤ k) := decide_eq_decide.mpr ⟨fun z => z.2, fun z => ⟨h1, z⟩⟩
    show Q (.bl (decide (j ≤ k))) H
    rw [← e]
    exact q
  · rw [decide_eq_false h1]
    refine iteF ?_
    have e : decide (i ≤ j ∧ j ≤ k) = false := decide_eq_false fun z => h1 z.1
    rw [← e]
    exact q
theorem iff_str (a b : Str) : decide (V.str a = V.str b) = decide (a.cps.toList = b.cps.toList) := by
  have e : (V.str a = V.str b) ↔ (a.cps.toList = b.cps.toList) := by
    constructor
    · intro h
      cases h
      rfl
    · intro h
      rw [← SX.S_tl a, ← SX.S_tl b, h]
  exact decide_eq_decide.mpr e
theorem cut_to (z : Str) {i : Int} (h : 0 ≤ i) : cutS z none (some i) = SX.S (z.cps.toList.take i.toNat) := by
  conv => lhs; rw [← SX.S_tl z]
  rw [C8.cutS_slice, SX.slice_to h]
theorem cut_from (z : Str) {i : Int} (h : 0 ≤ i) : cutS z (some i) none = SX.S (z.cps.toList.drop i.toNat) := by
  conv => lhs; rw [← SX.S_tl z]
  rw [C8.cutS_slice, SX.slice_from h]
theorem len_tl (z : Str) : z.length = z.cps.toList.length := by simp [Str.length]

/-! ### isinstance of plain things -/
/-- a value whose type is known and is none of int, bool, str -/
def Odd (K : PySem.W.Frag) (H : Hp) : V → Prop
  | .non => True
  | .bl _ => True
  | .int _ => True
  | .str _ => True
  | .ref a => ∃ t, TyX K H (.ref a) t ∧ PySem.W.kitOne K t (.type "int") = some false ∧ PySem.W.kitOne K t (.type "bool") = some false ∧ PySem.W.kitOne K t (.type "str") = some false
  | _ => False
def vInt : V → Bool
  | .int _ => true
  | .bl _ => true
  | _ => false
def vBool : V → Bool
  | .bl _ => true
  | _ => false
def vStr : V → Bool
  | .str _ => true
  | _ => false
def vPlain (v : V) : Bool := vInt v && !vBool v
section
variable {K : PySem.W.Frag} {H : Hp} {v : V} {Q : VK}
theorem odd_int (h : Odd K H v) : ∃ t, TyX K H v t ∧ PySem.W.kitOne K t (.type "int") = some (vInt v) := by
  cases v with
  | non => exact ⟨_, .base .non, kit_ty (r := false) (by decide +kernel)⟩
  | bl b => exact ⟨_, .base (.bl b), kit_ty (r := true) (by decide +kernel)⟩
  | int i => exact ⟨_, .base (.int i), kit_ty (r := true) (by decide +kernel)⟩
  | str x => exact ⟨_, .base (.str x), kit_ty (r := false) (by decide +kernel)⟩
  | ref a => obtain ⟨t, ty, h1, _⟩ := h; exact ⟨t, ty, h1⟩
  | byt _ => exact h.elim
  | flt _ => exact h.elim
  | ty _ => exact h.elim
theorem odd_bool (h : Odd K H v) : ∃ t, TyX K H v t ∧ PySem.W.kitOne K t (.type "bool") = some (vBool v) := by
  cases v with
  | non => exact ⟨_, .base .non, kit_ty (r := false) (by decide +kernel)⟩
  | bl b => exact ⟨_, .base (.bl b), kit_ty (r := true) (by decide +kernel)⟩
  | int i => exact ⟨_, .base (.int i), kit_ty (r := false) (by decide +kernel)⟩
  | str x => exact ⟨_, .base (.str x), kit_ty (r := false) (by decide +kernel)⟩
  | ref a => obtain ⟨t, ty, _, h1, _⟩ := h; exact ⟨t, ty, h1⟩
  | byt _ => exact h.elim
  | flt _ => exact h.elim
  | ty _ => exact h.elim
theorem odd_str (h : Odd K H v) : ∃ t, TyX K H v t ∧ PySem.W.kitOne K t (.type "str") = some (vStr v) := by
  cases v with
  | non => exact ⟨_, .base .non, kit_ty (r := false) (by decide +kernel)⟩
  | bl b => exact ⟨_, .base (.bl b), kit_ty (r := false) (by decide +kernel)⟩
  | int i => exact ⟨_, .base (.int i), kit_ty (r := false) (by decide +kernel)⟩
  | str x => exact ⟨_, .base (.str x), kit_ty (r := true) (by decide +kernel)⟩
  | ref a => obtain ⟨t, ty, _, _, h1⟩ := h; exact ⟨t, ty, h1⟩
  | byt _ => exact h.elim
  | flt _ => exact h.elim
  | ty _ => exact h.elim
theorem odd_lst {a : Addr} {xs : List V} (h : H a = some (.lst xs)) : Odd K H (.ref a) := ⟨_, .base (.lst h), kit_ty (by decide +kernel), kit_ty (by decide +kernel), kit_ty (by decide +kernel)⟩
theorem odd_tup {a : Addr} {xs : List V} (h : H a = some (.tup xs)) : Odd K H (.ref a) := ⟨_, .base (.tup h), kit_ty (by decide +kernel), kit_ty (by decide +kernel), kit_ty (by decide +kernel)⟩
theorem odd_dK {a : Addr} {xs : List (Key × V)} (h : H a = some (.dK xs)) : Odd K H (.ref a) := ⟨_, .base (.dK h), kit_ty (by decide +kernel), kit_ty (by decide +kernel), kit_ty (by decide +kernel)⟩
end

/-! ### the law's end, the guards told -/
def NoDig (h : Heap) : Prop := ∃ mc : Str → Option Value, h.Ns cStatics mc ∧ mc "sys.int_max_str_digits" = none
theorem NoDig.keeps {h h' : Heap} (x : NoDig h) (hk : ∀ b o, h.get? b = some o → h'.get? b = some o) : NoDig h' :=
  let ⟨mc, a, b⟩ := x
  ⟨mc, a.keeps hk, b⟩

/-- the entry's state, H all that is tracked there: the script alone, or nothing -/
theorem enterG {P : Program} {w : World} {K : PySem.W.Frag} {mg mb : Str → Option Value} {a : Addr} {s : Shared} {vs : List Value} (KX : K.In s.heap) (hns : s.heap.Ns mainGlobals mg) (hb : s.heap.Ns builtinsNs mb)
    (hbb : ∀ x : Str, x ≠ "__name__" → mb x = bootBuiltins x) (hlim : s.heap.NoLimit) (hg : s.gens = #[]) (ha : s.heap.get? a = some { cls := .type "list", data := .seq vs.toArray })
    {H : Hp} (hok : HOk P w H s.heap) (hA : ∀ b, H b ≠ none → b = a) (hK : H a ≠ none → K.lookup a = none) :
    K.In (hidT s.heap H) ∧ (hidT s.heap H).Ns mainGlobals mg ∧ (NoDig s.heap → NoDig (hidT s.heap H)) ∧ Env0 P w K mg (hidT s.heap H) callerA [] s H := by
  have free : ∀ {b : Addr} {o : Obj}, s.heap.get? b = some o → (o ≠ { cls := .type "list", data := .seq vs.toArray } ∨ K.lookup b = some o) → H b = none := by
    intro b o e d
    by_cases z : H b = none
    · exact z
    · have eb := hA b z
      subst eb
      rcases d with d | d
      · rw [ha] at e
        exact (d (Option.some.inj e).symm).elim
      · rw [hK z] at d
        cases d
  have ns : ∀ {b : Addr} {m : Str → Option Value}, s.heap.Ns b m → (hidT s.heap H).Ns b m := by
    rintro b m ⟨o, es, ep, e, d, r⟩
    refine ⟨o, es, ep, hidT_get e (free e (.inl fun z => ?_)), d, r⟩
    rw [z] at d
    cases d
  have kin : K.In (hidT s.heap H) := fun b o e => hidT_get (KX b o e) (free (KX b o e) (.inr e))
  obtain ⟨mc, h1, h2⟩ := hlim
  exact ⟨kin, ns hns, fun ⟨md, d1, d2⟩ => ⟨md, ns d1, d2⟩, ⟨rfl, ⟨kin, ns hns, ⟨mb, ns hb, hbb⟩, ⟨mc, ns h1, h2⟩⟩, fun b o e => of_hidT e, Nat.le_of_eq (hidT_size _ _), trivial,
    fun b z => absurd (show b ∈ ([] : List Addr) from z) (by simp), hok, .of_eq hg⟩⟩
theorem leaveG {P : Program} {w : World} {s s' : Shared} {H H' : Hp} (hO : Only H) (hok : HOk P w H s.heap) (hok' : HOk P w H' s'.heap) (un : Un (frs []) [] H H' s.heap s'.heap) : OldK s.heap s'.heap := by
  refine OldK.of_keep fun b o e => ?_
  rcases hO b with z | ⟨ob, xs, z⟩
  · exact un.keep b o e z (fun y => absurd (show b ∈ ([] : List Addr) from y) (by simp)) (by simp)
  · have e1 := (hok b _ z).1
    have e2 := (hok' b _ (un.frzs b ob _ z)).1
    rw [e] at e1
    cases e1
    exact e2
theorem lawG {P : Program} {w : World} {K : PySem.W.Frag} {mg mb : Str → Option Value} {k : Nat} {fa a : Addr} {fd : FuncData} {x : Str} {sp : Sp} {s : Shared} {vs : List Value} {ns : List Int}
    (KX : K.In s.heap) (hns : s.heap.Ns mainGlobals mg) (hb : s.heap.Ns builtinsNs mb) (hbb : ∀ x : Str, x ≠ "__name__" → mb x = bootBuiltins x) (hlim : s.heap.NoLimit) (hdig : NoDig s.heap) (hg : s.gens = #[])
    (ha : s.heap.get? a = some { cls := .type "list", data := .seq vs.toArray }) (hi : IntsAre vs ns) (hl : ns.length ≤ sizeLine) (hr : Room k callerA)
    (F : ∀ base : Heap, K.In base → base.Ns mainGlobals mg → NoDig base → FnG P w K mg base CX0 k fa fd [x] sp) (hbind : ∀ (s : Shared) (u : Value), BindsTo s fd ⟨[u], []⟩ [(x, u)])
    (hsp : ∀ H : Hp, Only H → SqL K H a (ns.map V.int) → sp [.ref a] H (fun v _ => v = .bl true) fun _ _ _ => False) :
    codeAny (model P w) callerA (.call (.ref fa) ⟨[.ref a], []⟩) (fun r s' => r = .ok (.ret (.bool true)) ∧ OldK s.heap s'.heap ∧ s'.os = s.os ∧ AllBare s'.gens) s := by
  have rv := vals_ints hi
  have run : ∀ H : Hp, Only H → SqL K H a (ns.map V.int) → HOk P w H s.heap → (∀ b, H b ≠ none → b = a) → (H a ≠ none → K.lookup a = none) →
      codeAny (model P w) callerA (.call (.ref fa) ⟨[.ref a], []⟩) (fun r s' => r = .ok (.ret (.bool true)) ∧ OldK s.heap s'.heap ∧ s'.os = s.os ∧ AllBare s'.gens) s := by
    intro H hO hS hok hA hK
    obtain ⟨kin, nsb, ndb, e0⟩ := enterG KX hns hb hbb hlim hg ha hok hA hK
    refine codeAny_mono ((F _ kin nsb (ndb hdig)).go callerA [] s H ⟨[.ref a], []⟩ [.ref a] [.ref a] _ _ rfl hr e0 (hbind s (.ref a)) (.cons rfl .nil) (hsp H hO hS)) ?_
    intro r s' h
    match r, h with
    | .error e, h => exact (show False from h).elim
    | .ok .next, h => exact (show False from h).elim
    | .ok .brk, h => exact (show False from h).elim
    | .ok .cont, h => exact (show False from h).elim
    | .ok (.ret u), ⟨v, H', os, bare, un, hok', r2, q⟩ =>
      obtain rfl : v = .bl true := q
      obtain rfl : u = Value.bool true := r2
      exact ⟨rfl, leaveG hO hok hok' un, os, bare⟩
  cases hk : K.lookup a with
  | some o =>
    have e := KX a o hk
    rw [ha] at e
    cases e
    exact run (fun _ => none) (fun _ => .inl rfl) (.inr ⟨_, vs.toArray, _, hk, rfl, rfl, rfl, by rw [List.size_toArray, hi.length]; exact hl, by simpa using rv⟩) (fun b u z => nomatch (show (none : Option HO) = some u from z))
      (fun b z => absurd rfl z) fun z => absurd rfl z
  | none =>
    have at_a : (upd (fun _ => none) a (.frz { cls := .type "list", data := .seq vs.toArray } (.lst (ns.map V.int)))) a = some (.frz { cls := .type "list", data := .seq vs.toArray } (.lst (ns.map V.int))) := upd_same
    refine run (upd (fun _ => none) a (.frz { cls := .type "list", data := .seq vs.toArray } (.lst (ns.map V.int)))) (fun b => ?_) (.inl (.inr ⟨_, at_a⟩)) (fun b u z => ?_) (fun b z => ?_) fun _ => hk
    · by_cases hb : b = a
      · exact .inr ⟨_, _, (congrArg _ hb).trans at_a⟩
      · exact .inl (upd_ne hb)
    · by_cases hb : b = a
      · subst hb
        rw [at_a] at z
        cases z
        exact ⟨ha, by rw [List.length_map]; exact hl, vs, _, rv, ha⟩
      · rw [upd_ne hb] at z
        cases z
    · by_cases hb : b = a
      · exact hb
      · exact absurd (upd_ne hb) z
theorem walkG {l : PySem.W.OpenLaw} {n k : Nat} {q : Program} {loose : List Str} {XP : (Str → Option Value) → Heap → Prop} {YP : World → Heap → Prop} {d : DefRec} {x : Str}
    (hn : l.most = some n) (hn2 : n ≤ sizeLine) (hdf : d.params.defaults = []) (hr : Room k callerA)
    (F : ∀ (w : World) (mg : Str → Option Value) (fa : Addr) (h : Heap), YP w h → h.Ns mainGlobals mg → mg d.name = some (.ref fa) →
      ∃ (K : PySem.W.Frag) (fd : FuncData) (sp : Sp), K.In h ∧ (∀ (s : Shared) (u : Value), BindsTo s fd ⟨[u], []⟩ [(x, u)]) ∧
        (∀ (H : Hp) (a : Addr) (ns : List Int), ns.length ≤ n → Only H → SqL K H a (ns.map V.int) → sp [.ref a] H (fun v _ => v = .bl true) fun _ _ _ => False) ∧
        ∀ base : Heap, K.In base → base.Ns mainGlobals mg → NoDig base → FnG l.prog w K mg base CX0 k fa fd [x] sp) :
    PySem.W.WalkO q loose XP YP l.row.toRowW d [] (fun f vs => PySem.call f vs) := by
  refine Att.attach_call hn hdf fun w s0 s mg mb fa o pm cd doc a vs ns G Y ho hd hcd hmg hobj hints hlen hg => ?_
  obtain ⟨K, fd, sp, KX, hb, hsp, hF⟩ := F w mg fa _ Y G.T.g hmg
  exact lawG KX G.T.g G.T.b G.T.builtins G.T.nolimit G.T.nodigits hg hobj hints (Nat.le_trans hlen hn2) hr hF hb fun H hO hS => hsp H a ns hlen hO hS
end Gs

set_option maxRecDepth 100000
set_option maxHeartbeats 4000000
namespace Gs
open PySem PySem.Spec PyProof.Rows L2
/-! ### figures: what a number's text is -/
theorem dv_snoc (a : List Nat) (c : Nat) : NumText.digitsVal (a ++ [c]) = NumText.digitsVal a * 10 + (c - 48) := by
  simp [NumText.digitsVal, List.foldl_append]
theorem rev_ind {α : Type} {p : List α → Prop} (h0 : p []) (hs : ∀ a c, p a → p (a ++ [c])) (l : List α) : p l := by
  rw [← List.reverse_reverse l]
  induction l.reverse with
  | nil => exact h0
  | cons x xs ih => rw [List.reverse_cons]; exact hs _ _ ih
theorem dv_lt {a : List Nat} (h : NumText.AllDigits a) : NumText.digitsVal a < 10 ^ a.length := by
  induction a using rev_ind with
  | h0 => simp [NumText.digitsVal]
  | hs a c ih =>
    have hc := h c (by simp)
    have ha := ih fun d hd => h d (by simp [hd])
    rw [dv_snoc, List.length_append, List.length_singleton, Nat.pow_succ]
    omega
/-- without a nought ahead a text of figures is the text of its number -/
theorem dv_back {a : List Nat} (h : NumText.AllDigits a) (hne : a ≠ []) (h0 : a.head? ≠ some 48) : TL.numL (NumText.digitsVal a) = a ∧ 0 < NumText.digitsVal a := by
  induction a using rev_ind with
  | h0 => exact absurd rfl hne
  | hs a c ih =>
    have hc := h c (by simp)
    by_cases ha : a = []
    · subst ha
      have e : NumText.digitsVal ([] ++ [c]) = c - 48 := by simp [NumText.digitsVal]
      have hc0 : c ≠ 48 := by simpa using h0
      rw [e, TL.numL_lt (by omega)]
      refine ⟨?_, by omega⟩
      show [48 + (c - 48)] = [c]
      congr 1
      omega
    · obtain ⟨i1, i2⟩ := ih (fun d hd => h d (by simp [hd])) ha (by
        cases a with
        | nil => exact absurd rfl ha
        | cons x xs => simpa using h0)
      rw [dv_snoc]
      refine ⟨?_, by omega⟩
      rw [TL.numL_step (by omega), show (NumText.digitsVal a * 10 + (c - 48)) / 10 = NumText.digitsVal a by omega, show (NumText.digitsVal a * 10 + (c - 48)) % 10 = c - 48 by omega, i1]
      congr 2
      omega
/-- with a nought ahead it is not, but "0" -/
theorem dv_nought {a : List Nat} (h : NumText.AllDigits a) (h0 : a.head? = some 48) : TL.numL (NumText.digitsVal a) = a ↔ a = [48] := by
  constructor
  · intro e
    cases a with
    | nil => cases h0
    | cons x xs =>
      have hx : x = 48 := by simpa using h0
      subst hx
      cases xs with
      | nil => rfl
      | cons y ys =>
        have h2 : NumText.AllDigits (y :: ys) := fun d hd => h d (by simp at hd ⊢; exact .inr hd)
        have e2 : NumText.digitsVal (48 :: y :: ys) = NumText.digitsVal (y :: ys) := by simp [NumText.digitsVal]
        have lt := dv_lt h2
        rw [e2] at e
        have l1 := TL.numL_len (n := NumText.digitsVal (y :: ys)) (k := (y :: ys).length) (by simp) lt
        rw [e] at l1
        simp at l1
        omega
  · rintro rfl
    decide +kernel
/-- the signs of an integer's text -/
def codesI (i : Int) : List Nat := if i < 0 then 45 :: TL.numL i.natAbs else TL.numL i.natAbs
theorem tl_int (i : Int) : (Str.ofString (toString i)).cps.toList = codesI i := by
  unfold codesI
  by_cases h : i < 0
  · rw [if_pos h]
    obtain ⟨n, rfl⟩ : ∃ n : Nat, i = Int.negSucc n := ⟨(-i - 1).toNat, by omega⟩
    have e : toString (Int.negSucc n) = "-" ++ Nat.repr (n + 1) := rfl
    have e2 : toString (((n + 1 : Nat)) : Int) = Nat.repr (n + 1) := rfl
    have q := TL.tl_num (n + 1)
    rw [e2] at q
    show TL.tl (Str.ofString _) = 45 :: TL.numL (n + 1)
    rw [e, ← q, TL.tl_ofString, TL.tl_ofString, String.toList_append, List.map_append]
    rfl
  · rw [if_neg h]
    obtain ⟨n, rfl⟩ : ∃ n : Nat, i = (n : Int) := ⟨i.toNat, by omega⟩
    exact TL.tl_num n

/-- the figures of a word -/
def dec (a : List Nat) : List Nat := if a.take 1 = [45] then a.drop 1 else a
def isFig (c : Nat) : Bool := decide (c ∈ [48, 49, 50, 51, 52, 53, 54, 55, 56, 57])
theorem isFig_iff {c : Nat} : isFig c = true ↔ 48 ≤ c ∧ c ≤ 57 := by
  unfold isFig
  simp
  omega
/-- a word of figures with a number's form -/
def figs (a : List Nat) : Bool := decide (1 ≤ (dec a).length ∧ (dec a).length ≤ 4000) && (dec a).all isFig && (decide (a = [48]) || decide ((dec a).head? ≠ some 48))
def valI (a : List Nat) : Int := if a.take 1 = [45] then -(NumText.digitsVal (a.drop 1) : Int) else (NumText.digitsVal a : Int)
theorem all_dig {a : List Nat} (h : a.all isFig = true) : NumText.AllDigits a := fun c hc => isFig_iff.mp (List.all_eq_true.mp h c hc)
theorem neg_form {a : List Nat} (h : a.take 1 = [45]) : a = 45 :: a.drop 1 := by
  cases a with
  | nil => cases h
  | cons x xs => simp at h; simp [h]
/-- a word whose figures are figures is read as its number -/
theorem int_word {z : Str} (h : (dec z.cps.toList).all isFig = true) (hne : dec z.cps.toList ≠ []) (hl : z.length ≤ 4300) : intText? z = some (valI z.cps.toList) := by
  unfold dec at h hne
  unfold valI
  by_cases hn : z.cps.toList.take 1 = [45]
  · rw [if_pos hn] at h hne ⊢
    exact intText_neg (neg_form hn) (all_dig h) hne hl
  · rw [if_neg hn] at h hne ⊢
    exact intText_digits (all_dig h) hne hl
/-- its text is that of its number just if it has the form -/
theorem codes_back {a : List Nat} (h : (dec a).all isFig = true) (hne : dec a ≠ []) : codesI (valI a) = a ↔ (a = [48] ∨ (dec a).head? ≠ some 48) := by
  unfold dec at h hne ⊢
  unfold valI
  by_cases hn : a.take 1 = [45]
  · rw [if_pos hn] at h hne ⊢
    rw [if_pos hn]
    have hd := all_dig h
    have ha := neg_form hn
    generalize a.drop 1 = f at *
    subst ha
    have ne48 : (45 :: f) ≠ [48] := by simp
    by_cases h0 : f.head? = some 48
    · constructor
      · intro e
        exfalso
        unfold codesI at e
        by_cases hz : NumText.digitsVal f = 0
        · rw [hz] at e
          rw [if_neg (by omega)] at e
          have : TL.numL (-((0 : Nat) : Int)).natAbs = [48] := by decide +kernel
          rw [this] at e
          cases e
        · rw [if_pos (by omega)] at e
          have e2 : TL.numL (NumText.digitsVal f) = f := by simpa using e
          have e3 := (dv_nought hd h0).mp e2
          subst e3
          exact hz (by decide +kernel)
      · rintro (e | e)
        · exact absurd e ne48
        · exact absurd h0 e
    · obtain ⟨b1, b2⟩ := dv_back hd hne h0
      constructor
      · intro _
        exact .inr h0
      · intro _
        unfold codesI
        rw [if_pos (by omega)]
        simpa using b1
  · rw [if_neg hn] at h hne ⊢
    rw [if_neg hn]
    have hd := all_dig h
    have ec : codesI (NumText.digitsVal a : Int) = TL.numL (NumText.digitsVal a) := by
      unfold codesI
      rw [if_neg (by omega)]
      rfl
    rw [ec]
    by_cases h0 : a.head? = some 48
    · rw [dv_nought hd h0]
      constructor
      · exact .inl
      · rintro (e | e)
        · exact e
        · exact absurd h0 e
    · exact ⟨fun _ => .inr h0, fun _ => (dv_back hd hne h0).1⟩
theorem dash_test (z : Str) : decide (V.str (cutS z none (some 1)) = V.str "-") = decide (z.cps.toList.take 1 = [45]) := by
  rw [iff_str, cut_to z (by decide)]
  have e : ("-" : Str).cps.toList = [45] := by decide +kernel
  rw [e]
  rfl
theorem cut_from1 (z : Str) : cutS z (some 1) none = SX.S (z.cps.toList.drop 1) := cut_from z (by decide)
theorem cut_to1 (z : Str) : cutS z none (some 1) = SX.S (z.cps.toList.take 1) := cut_to z (by decide)
theorem dec_pos {a : List Nat} (h : a.take 1 = [45]) : dec a = a.drop 1 := if_pos h
theorem dec_neg {a : List Nat} (h : ¬ a.take 1 = [45]) : dec a = a := if_neg h
theorem dec_len (a : List Nat) : (dec a).length ≤ a.length := by
  unfold dec
  split
  · rw [List.length_drop]; omega
  · exact Nat.le_refl _
/-! ### what repr can write -/
def small (d : PyData) : Bool := d.showable && decide (d.depth ≤ 60) && d.leavesShort 2000 && decide (d.weight ≤ 8000)
theorem small_len {d : PyData} (h : small d = true) : d.showable = true ∧ d.depth ≤ 60 ∧ d.shown.length ≤ sizeLine := by
  unfold small at h
  simp only [Bool.and_eq_true, decide_eq_true_eq] at h
  obtain ⟨⟨⟨h1, h2⟩, h3⟩, h4⟩ := h
  refine ⟨h1, h2, Nat.le_trans (PyData.shown_le 2000 (by decide) d h3) ?_⟩
  rw [sizeLine_eq]
  omega
theorem log2_lt {n k : Nat} (hk : 0 < k) (h : n < 2 ^ k) : n.log2 < k := by
  by_cases h0 : n = 0
  · subst h0
    simpa using hk
  · exact (Nat.log2_lt h0).mpr h
theorem int_leaf {i : Int} (h : i.natAbs < 2 ^ 1000) : (PyData.int i).showable = true ∧ PyData.leavesShort 2000 (.int i) = true ∧ PyData.weight (.int i) ≤ 1000 := by
  have h2 : i.natAbs.log2 < 1000 := log2_lt (by decide) h
  have h3 := int_text_length_le (a := i) (k := 1000) (by decide) h2
  refine ⟨decide_eq_true (show i.natAbs.log2 < 1920 by omega), ?_, ?_⟩
  · refine decide_eq_true ?_
    show (Str.ofString (toString i)).length ≤ 2000
    rw [PySem.ofString_length]
    omega
  · show (if i == 0 then 0 else i.natAbs.log2 + 1) ≤ 1000
    split <;> omega
theorem str_of_menu {zs : List Str} {m : Nat} (hm : ∀ z ∈ zs, z.length ≤ m) {x : V} {j : Nat} (h : (zs.map V.str)[j]? = some x) : ∃ z, x = .str z ∧ z ∈ zs ∧ z.length ≤ m := by
  rw [List.getElem?_map] at h
  cases q : zs[j]? with
  | none => rw [q] at h; cases h
  | some z =>
    rw [q] at h
    exact ⟨z, (Option.some.inj h).symm, List.mem_of_getElem? q, hm z (List.mem_of_getElem? q)⟩
theorem int_of_menu {zs : List Int} {p : Int → Prop} (hm : ∀ z ∈ zs, p z) {x : V} {j : Nat} (h : (zs.map V.int)[j]? = some x) : ∃ z, x = .int z ∧ z ∈ zs ∧ p z := by
  rw [List.getElem?_map] at h
  cases q : zs[j]? with
  | none => rw [q] at h; cases h
  | some z =>
    rw [q] at h
    exact ⟨z, (Option.some.inj h).symm, List.mem_of_getElem? q, hm z (List.mem_of_getElem? q)⟩
/-- what stays odd while p alone is changed -/
def OddP (K : PySem.W.Frag) (p : Addr) (H : Hp) (v : V) : Prop := ∀ H', But p H H' → Odd K H' v
theorem OddP.mono {K : PySem.W.Frag} {p : Addr} {H H' : Hp} {v : V} (h : OddP K p H v) (b : But p H H') : OddP K p H' v := fun _ c => h _ (b.trans c)
theorem OddP.now {K : PySem.W.Frag} {p : Addr} {H : Hp} {v : V} (h : OddP K p H v) : Odd K H v := h _ (But.refl _ _)
theorem oddP_lst {K : PySem.W.Frag} {p a : Addr} {H : Hp} {xs : List V} (h : H a = some (.lst xs)) (n : a ≠ p) : OddP K p H (.ref a) := fun _ b => odd_lst (b a _ h n)
theorem oddP_tup {K : PySem.W.Frag} {p a : Addr} {H : Hp} {xs : List V} (h : H a = some (.tup xs)) (n : a ≠ p) : OddP K p H (.ref a) := fun _ b => odd_tup (b a _ h n)
theorem oddP_dK {K : PySem.W.Frag} {p a : Addr} {H : Hp} {xs : List (Key × V)} (h : H a = some (.dK xs)) (n : a ≠ p) : OddP K p H (.ref a) := fun _ b => odd_dK (b a _ h n)
/-- signs below 128 alone -/
def Asc (z : Str) : Prop := ∀ c ∈ z.cps.toList, c < 128
theorem asc_cut {z : Str} (h : Asc z) (lo hi : Option Int) : Asc (cutS z lo hi) := fun c hc => h c (List.mem_of_mem_drop (List.mem_of_mem_take hc))
theorem asc_app {a b : Str} (ha : Asc a) (hb : Asc b) : Asc (a ++ b) := fun c hc => by
  have e : (a ++ b).cps.toList = a.cps.toList ++ b.cps.toList := TL.tl_append a b
  rw [e] at hc
  rcases List.mem_append.mp hc with q | q
  · exact ha c q
  · exact hb c q
theorem asc_join {ys : List Str} (h : ∀ y ∈ ys, Asc y) : Asc (Txt.join "" ys) := by
  have ee : TL.tl ("" : Str) = [] := by decide +kernel
  have e : (Txt.join "" ys).cps.toList = TL.joinL [] (ys.map TL.tl) := by
    rw [TL.join_eq, ← ee]
    exact TL.tl_join "" ys
  intro c hc
  rw [e] at hc
  clear e
  induction ys with
  | nil => simp [TL.joinL] at hc
  | cons y ys ih =>
    cases ys with
    | nil => exact h y (by simp) c (by simpa [TL.joinL] using hc)
    | cons y2 ys =>
      simp only [List.map_cons, TL.joinL, List.append_nil, List.mem_append] at hc
      rcases hc with hc | hc
      · exact h y (by simp) c (by simpa using hc)
      · exact ih (fun z hz => h z (by simp at hz ⊢; exact .inr hz)) (by simpa using hc)
theorem asc_int (i : Int) : Asc (Str.ofString (toString i)) := fun c hc => by
  rw [tl_int] at hc
  unfold codesI at hc
  split at hc
  · rcases List.mem_cons.mp hc with rfl | hc
    · decide
    · have := TL.numL_digits _ c hc
      omega
  · have := TL.numL_digits _ c hc
    omega
theorem dp_signs {K : PySem.W.Frag} {H : Hp} : ∀ cs : List Nat, DpAll K H (cs.map fun c => V.str ⟨#[c]⟩) (cs.map fun c => PyData.str ⟨#[c]⟩)
  | [] => .nil
  | c :: cs => .cons (.str _) (dp_signs cs)
theorem shaped_signs {cs : List Nat} (h : ∀ c ∈ cs, c < 128) : SeqAt.shaped (.list (cs.map fun c => PyData.str ⟨#[c]⟩)) = true := by
  have h2 : PyData.depthAll (cs.map fun c => PyData.str ⟨#[c]⟩) = 0 := by
    clear h
    induction cs with
    | nil => rfl
    | cons n ns ih => simp [PyData.depthAll, PyData.depth] at ih ⊢; exact ih
  have h1 : PyData.canLayAll0 (cs.map fun c => PyData.str ⟨#[c]⟩) = true := by
    clear h2
    induction cs with
    | nil => rfl
    | cons n ns ih =>
      have := h n (by simp)
      simp [PyData.canLayAll0, PyData.canLay0, PyData.strOk, ih fun c hc => h c (by simp [hc])]
      omega
  simp [SeqAt.shaped, PyData.canLay0, PyData.depth, h1, h2]
theorem eqv_signs_nil (cs : List Nat) : PyData.eqv (.list (cs.map fun c => PyData.str ⟨#[c]⟩)) (.list []) = cs.isEmpty := by
  cases cs <;> simp [PyData.eqv, PyData.eqvAll]
/-! ### a text times a number -/
def repS (z : Str) (n : Nat) : Str := ⟨(List.replicate n z.cps).foldl (· ++ ·) #[]⟩
theorem repS_tl (z : Str) (n : Nat) : (repS z n).cps.toList = (List.replicate n z.cps.toList).flatten := by
  have gen : ∀ (n : Nat) (a : Array Nat), ((List.replicate n z.cps).foldl (· ++ ·) a).toList = a.toList ++ (List.replicate n z.cps.toList).flatten := by
    intro n
    induction n with
    | zero => intro a; simp
    | succ n ih =>
      intro a
      rw [List.replicate_succ, List.foldl_cons, ih, List.replicate_succ, List.flatten_cons]
      simp
  show ((List.replicate n z.cps).foldl (· ++ ·) #[]).toList = _
  rw [gen]
  rfl
theorem repS_len (z : Str) (n : Nat) : (repS z n).length = z.length * n := by
  rw [len_tl, repS_tl, List.length_flatten, List.map_replicate, List.sum_replicate_nat, len_tl, Nat.mul_comm]
theorem op_rep_str {X : Cx} : OpR X (binaryOp .Mult) (fun x y H Q => ∃ z k, x = .str z ∧ y = .int k ∧ 2 ≤ k ∧ 0 < z.length ∧ z.length * k.toNat ≤ sizeLine ∧ Q (.str (repS z k.toNat)) H) := by
  intro pins s σ H x y v u Q I rx ry h
  obtain ⟨z, k, rfl, rfl, hk, hz, hl, q⟩ := h
  obtain ⟨t, rfl⟩ := rx
  obtain ⟨t2, rfl⟩ := ry
  have hs := sizeLine_eq
  have hk2 : k.toNat ≤ sizeLine := by
    have : 1 * k.toNat ≤ z.length * k.toNat := Nat.mul_le_mul_right _ hz
    omega
  refine PySem.P.mul_str ?_ (fun _ _ => ?_) (fun _ _ => ?_) ?_
  · rw [decide_eq_false (by omega), decide_eq_false (by omega)]
    rfl
  · intro h
    have h1 : (2 ^ 63 - 1) / k < (z.length : Int) := h
    rw [Int.ediv_lt_iff_lt_mul (by omega)] at h1
    have h2 : (z.length : Int) * k = ((z.length * k.toNat : Nat) : Int) := by
      rw [Int.natCast_mul]
      congr 1
      omega
    rw [h2] at h1
    omega
  · show decide _ = false
    exact decide_eq_false (by omega)
  · rw [if_neg (by omega), if_neg]
    · exact ⟨by show (repS z k.toNat).length ≤ sizeLine; rw [repS_len]; exact hl, ⟨.str _, H, I.tok _, ⟨_, rfl⟩, q⟩⟩
    · have e1 : (k == 1) = false := by
        rw [beq_eq_false_iff_ne]
        omega
      have e2 : (z.length == 0) = false := by
        rw [beq_eq_false_iff_ne]
        omega
      rw [e1, e2]
      decide
end Gs

set_option maxRecDepth 100000
set_option maxHeartbeats 4000000
namespace Gs
open PySem PySem.Spec PySem.NumText PyProof.Rows L2 PySem.Calls PySem.W
theorem wp_long {M : Model} {A : Around} {E : Value → Shared → Prop} {s : Shared} {Q : Value → Shared → Prop} {v : Value} {text : List Nat} {n : Int} {mc : Str → Option Value} (hns : s.heap.Ns cStatics mc) (hnone : mc "sys.int_max_str_digits" = none)
    (hs : ¬ (text.takeWhile (· != 0)).length ≤ 640) (hr : (int_private% "readNumeral") 4300 10 (text.takeWhile (· != 0)) = (int_private% "Numeral.value") n)
    (ha : ((text.takeWhile (· != 0)).length == text.length) = true) (h : Q (.int n s.toks) { s with toks := s.toks + 1 }) :
    wpAny M A ((int_private% "intFromText") v text 10) Q E s := by
  obtain ⟨hp, g, d, tk, os⟩ := s
  have hs2 : decide ((text.takeWhile (· != 0)).length ≤ 640) = false := decide_eq_false hs
  have hl : wpAny M A Builtin.intMaxStrDigits (fun l s' => l = 4300 ∧ s' = ({ heap := hp, gens := g, drawn := d, toks := tk, os := os } : Shared)) E { heap := hp, gens := g, drawn := d, toks := tk, os := os } := by
    unfold Builtin.intMaxStrDigits
    refine wpAny_bind (wpAny_nsGet hns ?_)
    rw [hnone]
    exact wpAny_pure ⟨rfl, rfl⟩
  repeat (any_goals (first
    | assumption
    | ((with_reducible show wpAny _ _ Builtin.intMaxStrDigits _ _ _); refine wpAny_mono hl (fun l s' hq => ?_) (fun _ _ z => z); obtain ⟨rfl, rfl⟩ := hq)
    | (with_reducible refine wpAny_ite_false hs2 ?_)
    | (with_reducible refine wpAny_ite_true (decide_eq_true ha) ?_)
    | wp_step))
  all_goals (try rw [hr])
  all_goals (try dsimp only)
  repeat (any_goals (first
    | assumption
    | (with_reducible refine wpAny_ite_true (decide_eq_true ha) ?_)
    | wp_step))

structure Hid (p : Prop) : Prop where
  out : p
theorem meets_long {x : PySem.Str} {u : Tok} {n : Int} (hl : x.length ≤ 4300) (hn : PySem.intText? x = some n) :
    Meets (Builtin.«int.__new__» ⟨[.type "int", .str x u], []⟩) (fun A R s => NoDig s.heap ∧ R (.ok (.ret (.int n s.toks))) { s with toks := s.toks + 1 }) := by
  intro prog w A R s hh
  have key : ∀ (M : Model) (E : Value → Shared → Prop) (Q : Value → Shared → Prop) (s : Shared), NoDig s.heap → Q (.int n s.toks) { s with toks := s.toks + 1 } →
      wpAny M A.in1 (Builtin.«int.__new__» ⟨[.type "int", .str x u], []⟩) (fun fin s' => ∃ v, fin = .done (.ret v) ∧ Q v s') E s := by
    intro M E Q s hd h
    obtain ⟨mc, hns, hnone⟩ := hd
    have f1 := F.conv_sub_int
    have f2 := F.madeHere_int
    have f3 := KIN.str_int
    have f4 := KIN.str_idx
    have f5 := KIN.str_trunc
    have f6 : typeOf (.str x u) = pure (.type "str") := rfl
    have hr : ((numSeenOf x).length == (numTextOf x).length) = true ∧ (((numSeenOf x).length ≤ 640 ∧ (int_private% "readNumeral") 0 10 (numSeenOf x) = (int_private% "Numeral.value") n) ∨
        (¬ (numSeenOf x).length ≤ 640 ∧ (int_private% "readNumeral") 4300 10 (numSeenOf x) = (int_private% "Numeral.value") n)) := by
      by_cases h6 : (numSeenOf x).length ≤ 640
      · rcases read0 x h6 with ⟨m, h1, h2, h3⟩ | ⟨h1, _⟩
        · rw [hn] at h1
          injection h1 with h1
          subst h1
          exact ⟨h2, .inl ⟨h6, h3⟩⟩
        · rw [hn] at h1
          cases h1
      · rcases read4300 x (Nat.le_trans hl (by decide)) with ⟨m, h1, h2, h3⟩ | ⟨h1, _⟩
        · rw [hn] at h1
          injection h1 with h1
          subst h1
          exact ⟨h2, .inr ⟨h6, h3⟩⟩
        · rw [hn] at h1
          cases h1
    obtain ⟨hall, hr⟩ := hr
    rcases hr with ⟨h6, hr⟩ | ⟨h6, hr⟩
    · have hk := Hid.mk (And.intro h6 (And.intro hr hall))
      clear hr hl hn hall h6
      obtain ⟨hp, g, d, tk, os⟩ := s
      repeat (any_goals (first
        | assumption
        | ((with_reducible show wpAny _ _ ((int_private% "intFromText") _ _ _) _ _ _); refine KIN.wp_text hk.out.1 hk.out.2.1 hk.out.2.2 ?_)
        | wp_step))
      all_goals first | exact ⟨_, rfl, h⟩ | skip
    · have hk := Hid.mk (And.intro h6 (And.intro hr (And.intro hall (And.intro hns hnone))))
      clear hr hl hn hall h6 hns hnone
      obtain ⟨hp, g, d, tk, os⟩ := s
      repeat (any_goals (first
        | assumption
        | ((with_reducible show wpAny _ _ ((int_private% "intFromText") _ _ _) _ _ _); refine wp_long hk.out.2.2.2.1 hk.out.2.2.2.2 hk.out.1 hk.out.2.1 hk.out.2.2.1 ?_)
        | wp_step))
      all_goals first | exact ⟨_, rfl, h⟩ | skip
  exact wpAny_mono (key _ _ (fun v s' => R (.ok (.ret v)) s') s hh.1 hh.2) (fun fin s' h' => by obtain ⟨v, rfl, hv⟩ := h'; exact hv) fun _ _ x => x
theorem call_int_str' {X : Cx} (hd : NoDig X.base) : CallR X (.type "int") (fun xs H Q => ∃ a n, xs = [.str a] ∧ PySem.intText? a = some n ∧ a.length ≤ 4300 ∧ Q (.int n) H) := by
  intro pins s σ H xs us Q I rs h
  obtain ⟨a, n, rfl, hn, hl, h⟩ := h
  obtain ⟨u, rfl, r1⟩ := vals1 rs
  obtain ⟨t, rfl⟩ := r1
  exact call_int_1 (meets_long hl hn) ⟨hd.keeps I.bk, typeIs_int _ _ _, .int n, H, I.tok _, ⟨_, rfl⟩, h⟩
end Gs

set_option maxRecDepth 100000
set_option maxHeartbeats 4000000
namespace Gs
open PySem PySem.Spec PyProof.Rows L2

/-! ### an exception's __init__ that says super().__init__(..): its frame, its body -/
theorem boot_super : bootBuiltins (Str.ofString "super") = some (.type "super") := by kernel_rfl

abbrev supEnv (qual : Str) (scope : Scope) (L f : Addr) (cd : Value) (cc : Addr) : Env := PySem.W.ksEnv qual scope L f cd cc

def cxSup (CX : CXT) (P : Program) (w : World) (K : PySem.W.Frag) (mg : Str → Option Value) (base : Heap) (N : List Str) (qual : Str) (scope : Scope) (f : Addr) (cd : Value) (cc : Addr) (A : Around) (outer : List Env) (s : Shared) (H : Hp) (E : XK) : Cx where
  prog := P
  w := w
  K := K
  mg := mg
  base := base
  A := A.deeper (supEnv qual scope s.heap.objs.size f cd cc)
  N := N
  s_0 := s
  H_0 := H
  env := supEnv qual scope s.heap.objs.size f cd cc
  outer := outer
  stack := supEnv qual scope s.heap.objs.size f cd cc :: outer
  ex := []
  calm := true
  fn := fun _ => false
  pn := []
  xe := fun e s' => wpAny (model P w) (A.deeper (supEnv qual scope s.heap.objs.size f cd cc)) (leaving (supEnv qual scope s.heap.objs.size f cd cc) e) (fun _ s'' => CX outer H s E e s'') (fun e' s'' => CX outer H s E e' s'') s'

structure SupScope (N P : List Str) (sc : Scope) : Prop where
  kind : sc.kind = .function
  co : sc.isCoroutine = false
  gen : sc.isGenerator = false
  nd : N.Nodup
  pre : N.take P.length = P
  par : ∀ x ∈ P, sc.names.lookup x = some .local
  nocell : ∀ x ∈ sc.names, x.2 ≠ .cell
  free : ∀ x ∈ sc.names, x.2 = .free → x.1 = ("__class__" : Str)
  sup : sc.names.lookup ("super" : Str) = some .globalImplicit
  cls : sc.names.lookup ("__class__" : Str) = some .free

theorem rzip_out {x : Str} : ∀ {P : List Str} {us : List Value}, x ∉ P → (P.zip us).reverse.lookup x = none
  | [], _, _ => rfl
  | _ :: _, [], _ => rfl
  | p :: P, u :: us, h => by
    rw [List.zip_cons_cons, List.reverse_cons, List.lookup_append, rzip_out fun z => h (List.mem_cons_of_mem _ z), Option.none_or]
    have : (x == p) = false := by
      have : x ≠ p := fun z => h (z ▸ List.mem_cons_self)
      simpa using this
    simp [List.lookup, this]
theorem rzip_get {x : Str} {v : Value} : ∀ {P : List Str} {us : List Value} {i : Nat}, P.Nodup → P[i]? = some x → us[i]? = some v → (P.zip us).reverse.lookup x = some v
  | [], _, _, _, h, _ => by simp at h
  | _ :: _, [], _, _, _, h => by simp at h
  | p :: P, u :: us, 0, nd, h1, h2 => by
    simp at h1 h2
    subst h1 h2
    rw [List.zip_cons_cons, List.reverse_cons, List.lookup_append, rzip_out (List.nodup_cons.mp nd).1, Option.none_or]
    simp [List.lookup]
  | p :: P, u :: us, i + 1, nd, h1, h2 => by
    rw [List.zip_cons_cons, List.reverse_cons, List.lookup_append, rzip_get (i := i) (List.nodup_cons.mp nd).2 (by simpa using h1) (by simpa using h2)]
    rfl

theorem sup_start {CX : CXT} {P : Program} {w : World} {K : PySem.W.Frag} {mg : Str → Option Value} {base : Heap} {N ps : List Str} {qual : Str} {scope : Scope} {f cc : Addr} {cd : Value} {A : Around} {outer : List Env} {s : Shared} {H : Hp} {E : XK} {us : List Value} {vs : List V} {h1 : Heap} {tk : Nat} {C : Addr} {cl : Value} {cld : Option Addr} {csl : Array (Option Value)}
    (S : SupScope N ps scope) (hd : A.handled = none) (e0 : Env0 P w K mg base A outer s H) (hl : vs.length = ps.length) (r : Vals vs us) (hcell : K.lookup cc = some ⟨cl, cld, .cell (some (.ref C)), csl⟩)
    (hns : h1.Ns s.heap.objs.size fun x => (ps.zip us).reverse.lookup x) (hk : ∀ b o, s.heap.get? b = some o → h1.get? b = some o) :
    Inv (cxSup CX P w K mg base N qual scope f cd cc A outer s H E) [] (L2.start N vs) H { s with heap := h1, toks := tk } := by
  have hpl : ps.length ≤ N.length := by have := congrArg List.length S.pre; rw [List.length_take] at this; omega
  have noA : ∀ b : Addr, b ∉ (cxSup CX P w K mg base N qual scope f cd cc A outer s H E).ex := fun b z => absurd (show b ∈ ([] : List Addr) from z) (by simp)
  have hcb : base.get? cc = some ⟨cl, cld, .cell (some (.ref C)), csl⟩ := e0.mod.kin _ _ hcell
  have hcs : s.heap.get? cc = some ⟨cl, cld, .cell (some (.ref C)), csl⟩ := (e0.bs _ _ hcb).1
  have only : ∀ {x : Str} {c : Addr}, (supEnv qual scope s.heap.objs.size f cd cc).cells.lookup x = some c → x = ("__class__" : Str) ∧ c = cc := fun {x c} q => by
    have q' : (if x = ("__class__" : Str) then some cc else none) = some c := by
      have e := q
      simp only [supEnv, PySem.W.ksEnv, PySem.W.envX, List.lookup] at e
      split at e
      · rename_i z
        rw [if_pos (by simpa using z)]
        exact e
      · cases e
    split at q'
    · rename_i z
      cases q'
      exact ⟨z, rfl⟩
    · cases q'
  refine ⟨⟨e0.mod, S.kind, rfl, rfl, Nat.le_refl _, fun y z c h1 h2 => (only h1).1.trans (only h2).1.symm, fun y hy => ?_, fun y c h _ => absurd h (by show ¬ (false = true); decide), fun _ => hd, Around.frames_deeper e0.frames, .inr ⟨rfl, rfl⟩, fun b z => absurd z (noA b), e0.bs, e0.bsz, fun b _ _ => noA b, fun b z => absurd z (noA b), e0.funs, e0.frf⟩,
    rfl, e0.bare, Un.kept hk, ⟨_, hns, fun i y v h1 h2 h3 => ?_⟩, fun y c h => ?_, e0.hok.fresh (Nat.le_refl _), fun y c h => ?_, fun p hp => absurd (show p ∈ ([] : List (Addr × Obj)) from hp) (by simp), e0.hok.kept hk, ?_⟩
  · have hy : scope.names.lookup y = some .cell ∨ scope.names.lookup y = some .free := hy
    rcases hy with hy | hy
    · exact absurd rfl (S.nocell _ (PySem.mem_of_lookup hy))
    · have e := S.free _ (PySem.mem_of_lookup hy) rfl
      refine ⟨cc, ?_⟩
      show List.lookup y [(("__class__" : Str), cc)] = some cc
      rw [show y = ("__class__" : Str) from e]
      simp [List.lookup]
  · have hi : i < vs.length := by
      unfold L2.start at h2
      by_cases hi : i < vs.length
      · exact hi
      · rw [List.getElem?_append_right (by simpa using hi)] at h2
        rw [List.getElem?_replicate] at h2
        split at h2 <;> cases h2
    have ha : vs[i]? = some v := by
      unfold L2.start at h2
      rw [List.getElem?_append_left (by simpa using hi), List.getElem?_map] at h2
      cases e : vs[i]? with
      | none => rw [e] at h2; cases h2
      | some a => rw [e] at h2; cases h2; rfl
    obtain ⟨u, hu, rv⟩ := r.get ha
    have hp : ps[i]? = some y := by
      rw [← S.pre, List.getElem?_take_of_lt (by omega)]; exact h1
    have ndP : ps.Nodup := by rw [← S.pre]; exact S.nd.sublist (List.take_sublist _ _)
    exact ⟨u, rv, .inl ⟨S.par y (List.mem_of_getElem? hp), rzip_get ndP hp hu⟩⟩
  · obtain ⟨_, rfl⟩ := only h
    exact ⟨_, _, hk _ _ hcs, rfl⟩
  · obtain ⟨_, rfl⟩ := only h
    exact (e0.bs _ _ hcb).2
  · unfold L2.start
    show _ = N.length
    rw [List.length_append, List.length_map, List.length_replicate]
    omega

/-- what the written part says of such an __init__ -/
structure SupF (P : Program) (K : PySem.W.Frag) (mg : Str → Option Value) (C cda cc : Addr) (vs : Array Value) : Prop where
  oex : OexC K C
  code : ∃ ccl cdd ccs, K.lookup cda = some ⟨ccl, cdd, .fields vs, ccs⟩
  file : ∃ (fl : Str) (tf : Tok), vs[2]? = some (.str fl tf) ∧ ((P.main.file : Str) == fl) = true
  cell : ∃ cl cld csl, K.lookup cc = some ⟨cl, cld, .cell (some (.ref C)), csl⟩
  init : PySem.W.ks_superIn K C C "__init__" = some (some (.builtin "ValueError.__init__"))
  inVE : PySem.W.subIn K (.ref C) (.type "ValueError") = some true
  inC : PySem.W.mroIn K C (.ref C) = some true
  open_ : PySem.W.nsIn K cStatics "thirdparty.any" = some none
  mgs : mg "super" = none
  top : (P.main.scope.names.lookup ("super" : Str)).isSome = false

theorem ne_cls {X : Cx} {pins : List (Addr × Obj)} {σ : L2.St} {H : Hp} {s : Shared} {a C : Addr} (I : Inv X pins σ H s) (e : H a = some (exo a C none)) (T : OexC X.K C) : a ≠ C := fun z => by
  obtain ⟨nm, q, N, bs, bm, sn, sub, ab, col, dd, k0, k1, k2, k3, k5, hC, hbm⟩ := T.cls
  have := (I.bs C _ (I.ok.mod.kin _ _ hC)).2
  rw [← z, e] at this
  cases this
theorem exo_eq {H : Hp} {a C : Addr} {o : HO} (e : H a = some o) : upd H a o = H := by
  funext b
  by_cases hb : b = a
  · rw [hb, upd_same, e]
  · rw [upd_ne hb]

section
variable {X : Cx} {pins : List (Addr × Obj)} {σ : L2.St} {H : Hp} {s : Shared} {a C f cda cc : Addr} {ar : Arg} {vs : Array Value} {qual : Str} {scope : Scope} {e : Expr} {es : List Expr} {ta : TA} {body : List Stmt} {p0 p1 p2 p3 pos : Pos} {E : Value → Shared → Prop} {Q : Flow → Shared → Prop}
/-- super().__init__(..) of an exception that is being made -/
theorem sup_run {pl : Sem Bool} {fd : FuncData} {oc : Value} {od : Option Addr} {osl : Array (Option Value)} (SF : SupF X.prog X.K X.mg C cda cc vs) {N P : List Str} {L : Addr} (S : SupScope N P scope) (henv : X.env = supEnv qual scope L f (.ref cda) cc)
    (lk : X.K.lookup f = some ⟨oc, od, .func fd, osl⟩) (hp : (fd.params.posonlyargs ++ fd.params.args).head? = some ar) (hN : X.N[0]? = some ar.arg) (hka : scope.names.lookup ar.arg = some .local)
    (I : Inv X pins σ H s) (hσ : σ[0]? = some (some (.ref a))) (ea : H a = some (exo a C none)) (ha : PA X (e :: es) ta)
    (h : ta σ H fun ws H1 => H1 = H ∧ ws.length ≤ 1000) (hE : X.xe = E) (hq : ∀ s', Inv X pins σ H s' → Q .next s')
    (he : starEach (e :: es) X.env = (false, eval e X.env) :: starEach es X.env) (hpl : (backTo p3 (starEach es X.env)).any (·.1) = false)
    (hm : eval (.Call (.Attribute (.Call (.Name "super" p0) [] [] p1) "__init__" p2) (e :: es) [] p3) X.env = (do
      let ov ← attributeBase (.Call (.Name "super" p0) [] [] p1) "__init__" X.env (eval (.Call (.Name "super" p0) [] [] p1) X.env)
      standAt p2.atName
      let (f, first) ← holding [ov] (getMethod ov "__init__" pl)
      callWith p3 f first (backTo p3 (starEach (e :: es) X.env)) []))
    (hsw : swapsWith (.Call (.Attribute (.Call (.Name "super" p0) [] [] p1) "__init__" p2) (e :: es) [] p3) none pos.line X.env = pure false) (hint : interactive X.env = false) :
    _root_.PySem.wpAt (model X.prog X.w) X.A (.func body X.env) (exec (.Expr (.Call (.Attribute (.Call (.Name "super" p0) [] [] p1) "__init__" p2) (e :: es) [] p3) pos) X.env) Q E s := by
  subst hE
  refine ks_wpAt_Expr_any ?_ hint hsw
  refine ks_wpAt_MethodCall ?_ hm
  rw [henv]
  obtain ⟨ccl, cdd, ccs, hcode⟩ := SF.code
  obtain ⟨fl, tf, hvs, hfile⟩ := SF.file
  obtain ⟨cl, cld, csl, hcell⟩ := SF.cell
  obtain ⟨nm, q, N', bs, bm, sn, sub, ab, col, dd, k0, k1, k2, k3, k5, hC, hbm⟩ := SF.oex.cls
  have hcl : PySem.W.clsIn X.K C = some { name := nm, bases := bs, mro := .ref C :: bm, ns := N', qualname := q, hasDict := true, slotNames := sn, subclasses := sub, abstract := ab, collection := col, hasDel := false } := by unfold PySem.W.clsIn; rw [hC] <;> rfl
  have kin := I.kIn
  obtain ⟨t1, ho⟩ := exo_at I.hok ea
  obtain ⟨m, hns, look⟩ := I.loc
  have hkl : X.env.kindOf ar.arg = some .local := by rw [henv]; exact hka
  obtain ⟨u, ru, lu⟩ := look 0 ar.arg (.ref a) hN hσ (by rw [henv]; exact .inl hka)
  obtain rfl : u = Value.ref a := ru
  have hma : m ar.arg = some (.ref a) := by
    rcases lu with ⟨_, z⟩ | ⟨z, _⟩
    · exact z
    · rw [hkl] at z
      rcases z with z | z <;> cases z
  have hnc : ∀ c, ({ cls := .ref C, dict := none, data := .fields #[.ref t1, .none, .none, .none, .bool false, .none] } : Obj).data ≠ .cls c := fun c z => by cases z
  obtain ⟨mb, b1, b2⟩ := I.mod.blt
  obtain ⟨hh, g, d, t, os⟩ := s
  refine ks_wpAt_super_base (env := supEnv qual scope L f (.ref cda) cc) S.sup S.cls (by decide) rfl (kin _ _ lk) rfl hp rfl (kin _ _ hcode) rfl hvs hfile SF.top ?_
  have hg : hh.Ns mainGlobals X.mg := I.mod.glob.keeps I.bk
  have hb : hh.Ns builtinsNs mb := b1.keeps I.bk
  refine PySem.W.ks_loadName_global S.kind S.sup (PySem.Calls.loadGlobal_builtin (env := supEnv qual scope L f (.ref cda) cc) hg SF.mgs hb ((b2 _ (by decide)).trans boot_super) ⟨rfl, ?_⟩)
  refine wpAny_loadName_free S.kind S.cls rfl ⟨_, kin _ _ hcell, rfl⟩ ?_
  refine wpAny_loadName_local (m := m) S.kind hka (by rw [henv] at hns; exact hns) hma ?_
  have hCb := kin _ _ hC
  refine ks_wpAny_isType_cls hCb rfl ⟨rfl, ?_⟩
  refine ks_wpAny_call_super hCb rfl ho rfl hnc (PySem.W.looks_mroIn kin SF.inC) (fun h1 e1 kk1 => ?_)
  have I1 : Inv X pins σ H ⟨h1, g, d, t, os⟩ := I.kept (t' := t) kk1
  have kin1 := I1.kIn
  have IA1 : PySem.W.InstAt h1 a { cls := .ref C, dict := none, data := .fields #[.ref t1, .none, .none, .none, .bool false, .none] } C none := ⟨kk1 _ _ ho, rfl, rfl, trivial⟩
  have hin : PySem.W.Looks (model X.prog X.w) h1 (isInstance (.ref a) (.type "ValueError")) true := IA1.type.andThen (PySem.W.looks_subIn kin1 SF.inVE)
  have hm1 := SF.init
  unfold PySem.W.ks_superIn at hm1
  rw [hcl] at hm1
  refine PySem.W.kxs_getMethod PySem.W.kxs_ValueError e1 (PySem.W.looks_opaque kin1 SF.open_) (l₀ := .ref C :: bm) ?_ rfl kin1 hm1 hin (ne_cls I ea SF.oex) (by decide) ?_
  · exact fun A Q E s k q => wpAny_bind ((PySem.W.looks_clsIn kin1 hcl) A _ E s k (wpAny_pure q))
  have e2 : (h1.push (PySem.W.kxs_mw "ValueError.__init__" a)).get? h1.objs.size = some (PySem.W.kxs_mw "ValueError.__init__" a) := Heap.get?_push_at rfl rfl
  have I2 : Inv X pins σ H ⟨h1.push (PySem.W.kxs_mw "ValueError.__init__" a), g, d, t + 1, os⟩ := I1.kept (t' := t + 1) fun b o z => Heap.get?_push_of_some _ z
  have hlt : h1.objs.size < (h1.push (PySem.W.kxs_mw "ValueError.__init__" a)).objs.size := Heap.lt_size e2
  have hnew : H h1.objs.size = none := I1.hok.fresh (Nat.le_refl _)
  have hlc : h1.objs.size ≠ X.env.locals := Nat.ne_of_gt I1.lt
  have hfs : h1.objs.size ∉ X.fs := I1.nofs (Nat.le_refl _)
  have I3 : Inv X ((h1.objs.size, PySem.W.kxs_mw "ValueError.__init__" a) :: pins) σ H ⟨h1.push (PySem.W.kxs_mw "ValueError.__init__" a), g, d, t + 1, os⟩ := by
    refine I2.pins_of fun p hp => ?_
    rcases List.mem_cons.mp hp with rfl | hp
    · exact ⟨e2, hnew, hlc, hfs, fun v z => by cases z⟩
    · exact I2.pin p (List.mem_append_right _ hp)
  rw [← henv]
  refine PySem.W.kxs_callWith (i := "ValueError.__init__") (x := a) (by rw [he]; show (false || (backTo p3 (starEach es X.env)).any (·.1)) = false; rw [hpl]; rfl) ?_
  rw [he]
  have run := ha.run p3 _ _ σ H _ I3 h
  rw [he] at run
  refine PySem.Calls.evalArgs_plain (wpAny_mono run (fun us s1 ⟨ws, H1, J, rw', eH, hlen⟩ => ?_) fun _ _ z => z)
  subst eH
  have pu := (J.pin (h1.objs.size, PySem.W.kxs_mw "ValueError.__init__" a) (List.mem_append_right _ List.mem_cons_self)).1
  refine ⟨pu, ?_⟩
  obtain ⟨t2, ho2⟩ := exo_at J.hok ea
  have hC2 := J.kIn _ _ hC
  have J0 : Inv X pins σ H1 s1 := J.pins_of fun p hp => J.pin p (List.mem_append_right _ (List.mem_cons_of_mem _ hp))
  obtain ⟨hz, g2, d2, tk2, os2⟩ := s1
  have hlen' : us.length ≤ sizeLine := by rw [← Paired.length rw', sizeLine_eq]; omega
  refine wpAny_call (codeAny_of_tree ?_)
  show wpAny _ X.A.in1 (callAny (.ref h1.objs.size) ⟨us, []⟩) _ _ _
  simp only [callAny]
  refine wpAny_bind (wpAny_load pu ?_)
  simp only [PySem.W.kxs_mw, show (Value.type "method-wrapper" == Value.type "method" || Value.type "method-wrapper" == Value.type "builtin_function_or_method" || Value.type "method-wrapper" == Value.type "method-wrapper") = true by decide, if_true]
  refine PySem.W.KFB.if_so (by decide) ?_
  refine wpAny_bind (PySem.W.check_bound_init F.excBase_ValueError.toExcCallFacts hC2 ho2 rfl ?_)
  refine wpAny_bind (wpAny_pure (wpAny_pure ?_))
  refine ⟨plainId_quiet F.excBase_ValueError.init.plain _, codeAny_builtin F.excBase_ValueError.initEntry ?_⟩
  refine PySem.W.exc_init_tree (cls := .ref C) (t0 := t2) (dv := none) (c2 := .none) (c3 := .none) (b4 := .bool false) ho2 hlen' fun h' k' hx _ => ?_
  have K1 := J0.write (t' := tk2) (x := a) (e := a) (o := exo a C none) (by rw [ea]; exact True.intro) (.inl rfl) k' ⟨_, hx⟩ (exo_ok hx)
  rw [exo_eq ea] at K1
  exact hq _ K1
  all_goals exact a
end

theorem pins0 {X : Cx} {pins : List (Addr × Obj)} {σ : L2.St} {H : Hp} {s : Shared} (I : Inv X [] σ H s) (h : pins = []) : Inv X pins σ H s := by subst h; exact I

def SupM (p0 p1 p2 p3 p5 : Pos) (x : Str) (j : Nat) (env : Env) : Prop := ∃ pl : Sem Bool, eval (.Call (.Attribute (.Call (.Name "super" p0) [] [] p1) "__init__" p2) [.Constant (.str x) j p5] [] p3) env = (do
      let ov ← attributeBase (.Call (.Name "super" p0) [] [] p1) "__init__" env (eval (.Call (.Name "super" p0) [] [] p1) env)
      standAt p2.atName
      let (f, first) ← holding [ov] (getMethod ov "__init__" pl)
      callWith p3 f first (backTo p3 (starEach [.Constant (.str x) j p5] env)) [])
example (env : Env) : SupM ⟨1, 2, 1, 5⟩ ⟨1, 2, 1, 7⟩ ⟨1, 2, 1, 10⟩ ⟨1, 2, 1, 20⟩ ⟨1, 12, 1, 19⟩ "abc" 0 env := ⟨_, rfl⟩
/-- THE RULE: an exception's __init__ that says super().__init__(text) first: by the rest of its body -/
theorem fn_sup {CX : CXT} {P : Program} {w : World} {K : PySem.W.Frag} {mg : Str → Option Value} {base : Heap} {k : Nat} {C f cda cc : Addr} {ar : Arg} {vv : Array Value} {name qual : Str} {params : Arguments} {rest : List Stmt} {scope : Scope} {dV kV doc pm ct oc : Value} {an od : Option Addr}
    {osl : Array (Option Value)} {N ps : List Str} {sp : Sp} {x : Str} {j : Nat} {p0 p1 p2 p3 p4 p5 : Pos} {body : List Stmt}
    (hbd : body = .Expr (.Call (.Attribute (.Call (.Name "super" p0) [] [] p1) "__init__" p2) [.Constant (.str x) j p5] [] p3) p4 :: rest)
    (SF : SupF P K mg C cda cc vv) (lk : K.lookup f = some ⟨oc, od, .func (PySem.W.ksFn name qual params body scope dV kV doc pm an (.ref cda) ct cc), osl⟩)
    (hcd : PySem.W.codeIn K (.ref cda) qual = true) (S : SupScope N ps scope) (hp : (params.posonlyargs ++ params.args).head? = some ar) (hN : N[0]? = some ar.arg) (hP : ps[0]? = some ar.arg)
    (hm : ∀ L, SupM p0 p1 p2 p3 p5 x j (supEnv qual scope L f (.ref cda) cc))
    (len : ∀ vs H Q E, sp vs H Q E → vs.length = ps.length)
    (hself : ∀ vs H Q E, sp vs H Q E → ∃ a ws, vs = .ref a :: ws ∧ H a = some (exo a C none))
    (hbody : ∀ (A : Around) (outer : List Env) (s : Shared) (H : Hp) (vs : List V) (Q : VK) (E : XK), Room k (A.deeper (supEnv qual scope s.heap.objs.size f (.ref cda) cc)) → sp vs H Q E →
      ∃ t, PSs (cxSup CX P w K mg base N qual scope f (.ref cda) cc A outer s H E) rest t ∧ t { nx := fun _ H' => Q .non H', rt := Q } (L2.start N vs) H) :
    FnOk P w K mg base CX (k + 1) f (PySem.W.ksFn name qual params body scope dV kV doc pm an (.ref cda) ct cc) ps sp := by
  refine ⟨len, fun A outer s H args us vs Q E hr e0 hb r hsp => ?_⟩
  have hl := len _ _ _ _ hsp
  obtain ⟨a, ws, ev, ea⟩ := hself _ _ _ _ hsp
  have KX : K.In s.heap := e0.mod.kin.keeps fun b o e => (e0.bs b o e).1
  have lim : s.heap.NoLimit := e0.mod.nolimit.keeps fun b o e => (e0.bs b o e).1
  obtain ⟨cl, cld, csl, hcell⟩ := SF.cell
  obtain ⟨t, ht, hq⟩ := hbody A outer s H vs Q E (hr.deeper _) hsp
  have hloc : ∀ y ∈ ps.zip us, scope.names.lookup y.1 = some .local := fun ⟨n, v⟩ hy => S.par n (List.of_mem_zip hy).1
  refine ks_codeAny_call_defAt (fd := PySem.W.ksFn name qual params body scope dV kV doc pm an (.ref cda) ct cc) (body := body) (binds := ps.zip us) hr.depth (KX _ _ lk) rfl lim (PySem.W.codeRec_of KX hcd) rfl hb S.nocell hloc (fun h₀ hns hk => ?_) S.co S.gen S.kind
  have I : Inv (cxSup CX P w K mg base N qual scope f (.ref cda) cc A outer s H E) [] (L2.start N vs) H { s with heap := h₀, toks := s.toks + (ps.zip us).length } := sup_start S hr.hd e0 hl r hcell hns hk
  have hka : scope.names.lookup ar.arg = some .local := S.par _ (List.mem_of_getElem? hP)
  have hσ : (L2.start N vs)[0]? = some (some (.ref a)) := by rw [ev]; rfl
  subst hbd
  obtain ⟨pl, hm⟩ := hm s.heap.objs.size
  refine ks_wpAt_execs_cons ?_
  refine sup_run (pl := pl) (X := cxSup CX P w K mg base N qual scope f (.ref cda) cc A outer s H E) (pins := []) (σ := L2.start N vs) (H := H) SF S rfl lk hp hN hka I hσ ea (pa_cons pe_str pa_nil) ?_ rfl (fun s' J => ?_) rfl rfl hm ?_ I.quiet
  · exact ⟨rfl, by show 1 ≤ 1000; decide⟩
  · refine wpAt_of_wpAny (wpAny_mono (ht.run [] s' (L2.start N vs) H _ J hq) (fun fl s2 hs => ?_) fun e s2 hs => hs)
    have fin : ∀ {σ' : L2.St} {H' : Hp} {v : V} {u : Value}, Inv (cxSup CX P w K mg base N qual scope f (.ref cda) cc A outer s H E) [] σ' H' s2 → L2.RelV v u → Q v H' → CE outer P w H s Q u s2 :=
      fun {σ' H' v u} J rv q => ⟨v, H', J.os, J.bare, J.base, J.hok, rv, q⟩
    cases fl with
    | ret u =>
      obtain ⟨v, σ', H', J, rv, q⟩ := hs
      exact fin J rv q
    | next =>
      obtain ⟨σ', H', J, q⟩ := hs
      exact fin (v := V.non) (u := Value.none) J rfl q
    | brk =>
      obtain ⟨_, _, _, q⟩ := hs
      exact False.elim q
    | cont =>
      obtain ⟨_, _, _, q⟩ := hs
      exact False.elim q
  · rfl

/-! ### exception classes by their names -/
/-- an exception object that is held: its class, its dict -/
def ExV (cls : Value) (a : Addr) (d : Option Addr) : HO := .ext fun h => ∃ (oe : Obj) (vs : Array Value), h.get? a = some oe ∧ Zc cls d oe ∧ oe.data = .fields vs
theorem exV_ok {P : Program} {w : World} {H : Hp} {h : Heap} {cls : Value} {a : Addr} {d : Option Addr} {oe : Obj} {vs : Array Value} (e : h.get? a = some oe) (z : Zc cls d oe) (dd : oe.data = .fields vs) : ObjOk P w H h a (ExV cls a d) :=
  ⟨⟨oe, vs, e, z, dd⟩, ⟨oe, e⟩, fun _ _ ⟨o, v, q, r⟩ k => ⟨o, v, k o q, r⟩⟩
theorem exV_at {P : Program} {w : World} {H : Hp} {h : Heap} {cls : Value} {a : Addr} {d : Option Addr} (hok : HOk P w H h) (e : H a = some (ExV cls a d)) : ∃ (oe : Obj) (vs : Array Value), h.get? a = some oe ∧ Zc cls d oe ∧ oe.data = .fields vs := by
  have x : ObjOk P w H h a (.ext fun h => ∃ (oe : Obj) (vs : Array Value), h.get? a = some oe ∧ Zc cls d oe ∧ oe.data = .fields vs) := hok a _ e
  exact x.1

/-- what is asked of an exception class: its object, its fields' reading, isinstance -/
structure XhC (K : PySem.W.Frag) (C : Addr) : Prop where
  oex : OexC K C
  xf : XfC K C
  at_ : PySem.W.findIn K (.ref C) "__class__" = some (some (.builtin "object.__class__"))
  sp : PySem.W.specialIn K (.builtin "object.__class__") "__get__" = some (some (.builtin "getset_descriptor.__get__"))
  tk : PySem.W.takesIn K (.builtin "object.__class__") = some true
  ob : PySem.W.mroIn K C (.type "object") = some true
theorem XhC.some_ {K : PySem.W.Frag} {C : Addr} (x : XhC K C) : (PySem.W.clsIn K C).isSome = true := by
  obtain ⟨nm, q, N', bs, bm, sn, sub, ab, col, dd, k0, k1, k2, k3, k5, hC, hbm⟩ := x.oex.cls
  unfold PySem.W.clsIn
  rw [hC] <;> rfl
/-- an own exception class that stands in the written part, by its module's name; its fields -/
structure ExcAt (P : Program) (K : PySem.W.Frag) (mg : Str → Option Value) (x qual : Str) (st : Stmt) : Prop where
  ex : ∃ (C f cda cc : Addr) (vv : Array Value) (oc : Value) (od : Option Addr) (osl : Array (Option Value)) (kV doc pm ct : Value) (an : Option Addr), mg x = some (.ref C) ∧ XhC K C ∧
    K.lookup f = some ⟨oc, od, .func (PySem.W.ksFn "__init__" qual (defArgs st) (defBody st) (defScope st) .none kV doc pm an (.ref cda) ct cc), osl⟩ ∧ PySem.W.codeIn K (.ref cda) qual = true ∧ SupF P K mg C cda cc vv ∧
    PySem.W.findIn K (.ref C) "__init__" = some (some (.ref f)) ∧ PySem.W.typeIn K (.ref f) = some (.type "function")

/-- the made exception's dict: the fields, the last one ahead -/
def xds (fs : List Str) (ys : List V) : List (Str × V) := (fs.zip ys).reverse
/-- an exception class's __init__ that takes one field, two fields -/
def spX1 (C : Addr) (f : Str) : Sp := fun vs H Q _ => ∃ a y, vs = [.ref a, y] ∧ H a = some (exo a C none) ∧ ∀ d, H d = none → d ≠ a → Q .non (upd (upd H d (exd d [(f, y)])) a (exo a C (some d)))
def spX2 (C : Addr) (f g : Str) : Sp := fun vs H Q _ => ∃ a y z, vs = [.ref a, y, z] ∧ H a = some (exo a C none) ∧ ∀ d, H d = none → d ≠ a → Q .non (upd (upd (upd H d (exd d [(f, y)])) a (exo a C (some d))) d (exd d [(g, z), (f, y)]))

/-- a class whose call with these arguments makes an exception with these fields; ps: the parameters' names -/
structure ExcD (P : Program) (w : World) (K : PySem.W.Frag) (mg : Str → Option Value) (base : Heap) (x : Str) (ps fs : List Str) : Prop where
  ex : ∃ (C f : Addr) (fd : FuncData) (sp : Sp), mg x = some (.ref C) ∧ XhC K C ∧ FnOk P w K mg base CX0 1 f fd ("self" :: ps) sp ∧ Binds K fd ("self" :: ps) [] ∧ ps.length = fs.length ∧ ps.length ≤ 2 ∧
    PySem.W.findIn K (.ref C) "__init__" = some (some (.ref f)) ∧ PySem.W.typeIn K (.ref f) = some (.type "function") ∧
    ∀ (H : Hp) (ys : List V) (a : Addr) (Q : VK) (E : XK), ys.length = fs.length → H a = none →
      (∀ d H2, H d = none → d ≠ a → H2 a = some (exo a C (some d)) → H2 d = some (exd d (xds fs ys)) → upd (del H2 a) d (.xd (xds fs ys)) = upd H d (.xd (xds fs ys)) → Q .non H2) → sp (.ref a :: ys) (upd H a (exo a C none)) Q E

section
variable {P : Program} {w : World} {K : PySem.W.Frag} {mg : Str → Option Value} {base : Heap} {x qual : Str} {st : Stmt}
theorem xd_end {H H2 : Hp} {a d : Addr} {fs : List (Str × V)} (n : H a = none) (h : ∀ b, b ≠ a → b ≠ d → H2 b = H b) (hd : d ≠ a) : upd (del H2 a) d (.xd fs) = upd H d (.xd fs) := by
  funext b
  by_cases h1 : b = d
  · rw [h1, upd_same, upd_same]
  · rw [upd_ne h1, upd_ne h1]
    by_cases h2 : b = a
    · rw [h2, del_same, n]
    · rw [del_ne h2, h b h2 h1]
theorem bnd_sup {qual : Str} {params : Arguments} {body : List Stmt} {scope : Scope} {kV doc pm cdv ct : Value} {an : Option Addr} {cc : Addr} {ps : List Str}
    (h : ∀ us : List Value, us.length = ps.length → bindArgs (PySem.W.ksFn "__init__" qual params body scope .none kV doc pm an cdv ct cc) ⟨us, []⟩ = pure (ps.zip us)) : Binds K (PySem.W.ksFn "__init__" qual params body scope .none kV doc pm an cdv ct cc) ps [] := .all h
theorem exc_one {p f : Str} {xt : Str} {j : Nat} {p0 p1 p2 p3 p4 p5 q1 q2 q3 q4 : Pos} {ar : Arg} (a : ExcAt P K mg x qual st)
    (hbd : defBody st = [.Expr (.Call (.Attribute (.Call (.Name "super" p0) [] [] p1) "__init__" p2) [.Constant (.str xt) j p5] [] p3) p4, .Assign [.Attribute (.Name "self" q1) f q2] (.Name p q3) q4])
    (S : SupScope ["self", p] ["self", p] (defScope st)) (hp : ((defArgs st).posonlyargs ++ (defArgs st).args).head? = some ar) (har : ar.arg = ("self" : Str))
    (hm : ∀ L f cda cc, SupM p0 p1 p2 p3 p5 xt j (supEnv qual (defScope st) L f (.ref cda) cc)) (hno : ∀ C, mg x = some (.ref C) → PySem.W.findIn K (.ref C) f = some none)
    (hb : ∀ (kV doc pm : Value) (an : Option Addr) (cdv ct : Value) (cc : Addr) (us : List Value), us.length = 2 → bindArgs (PySem.W.ksFn "__init__" qual (defArgs st) (defBody st) (defScope st) .none kV doc pm an cdv ct cc) ⟨us, []⟩ = pure ((["self", p] : List Str).zip us))
    (hd : (p == ("__debug__" : Str)) = false) (hc : (p == ("__classdict__" : Str)) = false) :
    ExcD P w K mg base x [p] [f] := by
  obtain ⟨C, fa, cda, cc, vv, oc, od, osl, kV, doc, pm, ct, an, hC, XC, lk, hcd, SF, hi, ht⟩ := a.ex
  refine ⟨C, fa, _, spX1 C f, hC, XC, ?_, bnd_sup (hb kV doc pm an (.ref cda) ct cc), rfl, by show 1 ≤ 2; decide, hi, ht, fun H ys a Q E hl n h => ?_⟩
  · refine fn_sup (N := ["self", p]) (ps := ["self", p]) (k := 0) hbd SF lk hcd S hp (by rw [har]; rfl) (by rw [har]; rfl) (fun L => hm L _ _ _) (fun vs H Q E h => ?_) (fun vs H Q E h => ?_) (fun A outer s H vs Q E hr h => ?_)
    · obtain ⟨a, y, rfl, _⟩ := h
      rfl
    · obtain ⟨a, y, rfl, ea, _⟩ := h
      exact ⟨a, [y], rfl, ea⟩
    · have l0 : (defScope st).names.lookup ("self" : Str) = some .local := S.par _ List.mem_cons_self
      have l1 : (defScope st).names.lookup p = some .local := S.par _ (List.mem_cons_of_mem _ List.mem_cons_self)
      refine ⟨_, pss_one (ps_ost (pv 0 rfl (.inl l0)) (pv 1 rfl (.inl l1) hd hc) rfl), ?_⟩
      obtain ⟨a, y, rfl, ea, q⟩ := h
      exact ⟨y, rfl, .ref a, rfl, a, C, rfl, XC.oex, hno C hC, .inl ⟨ea, fun dx n ne => q dx n ne⟩⟩
  · match ys, hl with
    | [y], _ =>
      refine ⟨a, y, rfl, upd_same, fun d hn hne => ?_⟩
      refine h d _ (by rw [upd_ne hne] at hn; exact hn) hne upd_same (by rw [upd_ne hne, upd_same]; rfl) (xd_end n (fun b h1 h2 => ?_) hne)
      rw [upd_ne h1, upd_ne h2, upd_ne h1]
theorem exc_two {p p' f g : Str} {xt : Str} {j : Nat} {p0 p1 p2 p3 p4 p5 q1 q2 q3 q4 r1 r2 r3 r4 : Pos} {ar : Arg} (a : ExcAt P K mg x qual st)
    (hbd : defBody st = [.Expr (.Call (.Attribute (.Call (.Name "super" p0) [] [] p1) "__init__" p2) [.Constant (.str xt) j p5] [] p3) p4, .Assign [.Attribute (.Name "self" q1) f q2] (.Name p q3) q4, .Assign [.Attribute (.Name "self" r1) g r2] (.Name p' r3) r4])
    (S : SupScope ["self", p, p'] ["self", p, p'] (defScope st)) (hp : ((defArgs st).posonlyargs ++ (defArgs st).args).head? = some ar) (har : ar.arg = ("self" : Str))
    (hm : ∀ L f cda cc, SupM p0 p1 p2 p3 p5 xt j (supEnv qual (defScope st) L f (.ref cda) cc)) (hno : ∀ C, mg x = some (.ref C) → PySem.W.findIn K (.ref C) f = some none) (hno' : ∀ C, mg x = some (.ref C) → PySem.W.findIn K (.ref C) g = some none)
    (hb : ∀ (kV doc pm : Value) (an : Option Addr) (cdv ct : Value) (cc : Addr) (us : List Value), us.length = 3 → bindArgs (PySem.W.ksFn "__init__" qual (defArgs st) (defBody st) (defScope st) .none kV doc pm an cdv ct cc) ⟨us, []⟩ = pure ((["self", p, p'] : List Str).zip us))
    (hd : (p == ("__debug__" : Str)) = false) (hc : (p == ("__classdict__" : Str)) = false) (hd' : (p' == ("__debug__" : Str)) = false) (hc' : (p' == ("__classdict__" : Str)) = false) :
    ExcD P w K mg base x [p, p'] [f, g] := by
  obtain ⟨C, fa, cda, cc, vv, oc, od, osl, kV, doc, pm, ct, an, hC, XC, lk, hcd, SF, hi, ht⟩ := a.ex
  refine ⟨C, fa, _, spX2 C f g, hC, XC, ?_, bnd_sup (hb kV doc pm an (.ref cda) ct cc), rfl, by show 2 ≤ 2; decide, hi, ht, fun H ys a Q E hl n h => ?_⟩
  · refine fn_sup (N := ["self", p, p']) (ps := ["self", p, p']) (k := 0) hbd SF lk hcd S hp (by rw [har]; rfl) (by rw [har]; rfl) (fun L => hm L _ _ _) (fun vs H Q E h => ?_) (fun vs H Q E h => ?_) (fun A outer s H vs Q E hr h => ?_)
    · obtain ⟨a, y, z, rfl, _⟩ := h
      rfl
    · obtain ⟨a, y, z, rfl, ea, _⟩ := h
      exact ⟨a, [y, z], rfl, ea⟩
    · have l0 : (defScope st).names.lookup ("self" : Str) = some .local := S.par _ List.mem_cons_self
      have l1 : (defScope st).names.lookup p = some .local := S.par _ (List.mem_cons_of_mem _ List.mem_cons_self)
      have l2 : (defScope st).names.lookup p' = some .local := S.par _ (List.mem_cons_of_mem _ (List.mem_cons_of_mem _ List.mem_cons_self))
      refine ⟨_, pss_cons (ps_ost (pv 0 rfl (.inl l0)) (pv 1 rfl (.inl l1) hd hc) rfl) (pss_one (ps_ost (pv 0 rfl (.inl l0)) (pv 2 rfl (.inl l2) hd' hc') rfl)), ?_⟩
      obtain ⟨a, y, z, rfl, ea, q⟩ := h
      refine ⟨y, rfl, .ref a, rfl, a, C, rfl, XC.oex, hno C hC, .inl ⟨ea, fun dx n ne => ?_⟩⟩
      exact ⟨z, rfl, .ref a, rfl, a, C, rfl, XC.oex, hno' C hC, .inr ⟨dx, [(f, y)], upd_same, by rw [upd_ne ne, upd_same], by show 1 ≤ 900; decide, q dx n ne⟩⟩
  · match ys, hl with
    | [y, z], _ =>
      refine ⟨a, y, z, rfl, upd_same, fun d hn hne => ?_⟩
      refine h d _ (by rw [upd_ne hne] at hn; exact hn) hne (by rw [upd_ne (Ne.symm hne), upd_same]) (by rw [upd_same]; rfl) (xd_end n (fun b h1 h2 => ?_) hne)
      rw [upd_ne h2, upd_ne h1, upd_ne h2, upd_ne h1]
end

/-- a reading made monotone -/
def taM (ta : TA) : TA := fun σ H Q => ∃ R, ta σ H R ∧ ∀ ys H1, R ys H1 → Q ys H1
theorem taM_ok {X : Cx} {es : List Expr} {ta : TA} (h : PA X es ta) : PA X es (taM ta) :=
  ⟨fun pos pins s σ H Q I ⟨R, a, b⟩ => thn (h.run pos pins s σ H R I a) fun us s' ⟨vs, H1, I1, r, q⟩ => ⟨vs, H1, I1, r, b _ _ q⟩⟩
def teM (te : TE) : TE := fun σ H Q => ∃ R, te σ H R ∧ ∀ y H1, R y H1 → Q y H1
theorem teM_ok {X : Cx} {e : Expr} {te : TE} (h : PE X e te) : PE X e (teM te) :=
  ⟨fun pins s σ H Q I ⟨R, a, b⟩ => thn (h.run pins s σ H R I a) fun us s' ⟨vs, H1, I1, r, q⟩ => ⟨vs, H1, I1, r, b _ _ q⟩⟩

section
variable {X : Cx} {x : Str} {ps fs : List Str} {e : Expr} {es : List Expr} {ta : TA} {p pos : Pos}
/-- C(e, ..), C an own exception class with an own __init__ -/
def tMkX (mg : Str → Option Value) (x : Str) (fs : List Str) (ta : TA) : L2.St → Hp → XK → Prop := fun σ H Q => ta σ H fun ys H1 => ys.length = fs.length ∧ ∀ C, mg x = some (.ref C) → ∀ d, H1 d = none → Q (.ref C) (some d) (upd H1 d (.xd (xds fs ys)))
theorem pmk_x (D : ExcD X.prog X.w X.K X.mg X.base x ps fs) (hr : Room 2 X.A) (ha : PA X (e :: es) ta) (hg : Gl X x := by rfl) (hdb : (x == ("__debug__" : Str)) = false := by decide)
    (he : starEach (e :: es) X.env = (false, eval e X.env) :: starEach es X.env := by rfl) (hpl : (backTo pos (starEach es X.env)).any (·.1) = false := by rfl) :
    PMk X (.Call (.Name x p) (e :: es) [] pos) (tMkX X.mg x fs ta) := by
  obtain ⟨C, f, fd, sp, hC, XC, F, hb, l1, l2, hi, ht, hs⟩ := D.ex
  intro pins s σ H Q I h
  have hz : fs.length ≤ 2 := l1 ▸ l2
  refine pmk_oex XC.oex hi ht F hr hb .nil pass0 hg hC (taM_ok ha) hdb he hpl pins s σ H Q I ⟨_, h, fun ys H1 ⟨hl, q⟩ => ⟨by omega, fun a n => ?_⟩⟩
  rw [List.append_nil]
  refine hs H1 ys a _ _ hl n fun d H2 hn hne e1 e2 e3 => ⟨rfl, d, xds fs ys, e1, e2, hn, ?_⟩
  rw [e3]
  exact q C hC d hn
end

/-! ### an exception that is held -/
section
variable {X : Cx} {pins : List (Addr × Obj)} {σ : L2.St} {H : Hp} {s s' : Shared} {a : Addr} {o : HO}
/-- an object that stood untracked, newer than the entry, is tracked from here on -/
theorem inv_take (I : Inv X pins σ H s) (n : H a = none) (n0 : X.s_0.heap.get? a = none) (np : ∀ p ∈ X.pn ++ pins, p.1 ≠ a) (nL : a ≠ X.env.locals) (nc : ∀ x c, X.env.cells.lookup x = some c → c ≠ a) (ok : ObjOk X.prog X.w (upd H a o) s.heap a o) : Inv X pins σ (upd H a o) s := by
  have ne : ∀ {b : Addr} {u : Obj}, X.s_0.heap.get? b = some u → b ≠ a := fun {b u} e z => by
    rw [z, n0] at e
    cases e
  refine ⟨I.ok, I.os, I.bare, ⟨I.base.keep, I.base.slot, fun b u e h hx => ?_, I.base.there, fun b xs e => ?_, fun b u v e => ?_, fun b ps e => ?_⟩, I.loc, I.cell, ?_, fun x c e => ?_, fun p hp => ?_, fun b u e => ?_, I.len⟩
  · rw [upd_ne (ne e)]
    exact I.base.free b u e h hx
  · have q := I.base.tups b xs e
    rw [upd_ne (ne_of_none q n)]
    exact q
  · have q := I.base.frzs b u v e
    rw [upd_ne (ne_of_none q n)]
    exact q
  · obtain ⟨m, q⟩ := I.base.tbls b ps e
    exact ⟨m, by rw [upd_ne (ne_of_none q n)]; exact q⟩
  · rw [upd_ne (Ne.symm nL)]
    exact I.free
  · rw [upd_ne (nc x c e)]
    exact I.freeC x c e
  · obtain ⟨e, f, r⟩ := I.pin p hp
    exact ⟨e, by rw [upd_ne (np p hp)]; exact f, r⟩
  · by_cases hb : b = a
    · subst hb
      rw [upd_same] at e
      cases e
      exact ok
    · rw [upd_ne hb] at e
      exact (I.hok b u e).stay (fun _ _ _ q => q) (fun c q => by rw [upd_ne (ne_of_none q n)]; exact q) fun c xs q => by rw [upd_ne (ne_of_none q n)]; exact q
/-- the same state, other things than the heap changed -/
theorem inv_same (I : Inv X pins σ H s) (ho : s'.os = s.os) (hg : AllBare s'.gens) : Inv X pins σ H { s' with heap := s.heap } :=
  ⟨I.ok, ho.trans I.os, hg, I.base, I.loc, I.cell, I.free, I.freeC, I.pin, I.hok, I.len⟩
/-- an expression that makes an exception, as a value -/
theorem pe_mkv {e : Expr} {t : L2.St → Hp → XK → Prop} (h : PMk X e t) : PE X e (fun σ H Q => t σ H fun cls d H1 => ∀ a, H1 a = none → Q (.ref a) (upd H1 a (ExV cls a d))) := by
  refine ⟨fun pins s σ H Q I hq => thn (h pins s σ H _ I hq) fun u s1 ⟨a, oe, vs, sI, H', cls, d, eu, J, k, na, ea, z, dd, _, hn, os, bare, _, q⟩ => ?_⟩
  subst eu
  have J1 : Inv X pins σ H' { s1 with heap := sI.heap } := inv_same J os bare
  obtain ⟨h1, g1, d1, t1, o1⟩ := s1
  have J2 : Inv X pins σ (upd H' a (ExV cls a d)) ⟨h1, g1, d1, t1, o1⟩ := J1.laidN (t' := t1) k na hn (exV_ok ea z dd)
  exact ⟨.ref a, _, J2, rfl, q a hn⟩
end

/-- what 'except x as n' with this suite wishes of an exception of the body: behind the suite the exception is held -/
def wHeld (K : PySem.W.Frag) (c : Value) (i : Nat) (ts : Addr → Value → Option Addr → TS) (Wout : WX) (D : Ends) : WX := fun cls d σ H =>
  ∃ b, PySem.W.exmOne K cls c = some b ∧ (b = true → ∀ a, H a = none → ts a cls d { nx := fun σ' H' => D.nx (σ'.set i none) (upd H' a (ExV cls a d)), rt := fun v H' => D.rt v (upd H' a (ExV cls a d)), bk := fun σ' H' => D.bk (σ'.set i none) (upd H' a (ExV cls a d)), ct := fun σ' H' => D.ct (σ'.set i none) (upd H' a (ExV cls a d)) } (σ.set i (some (.ref a))) H) ∧ (b = false → Wout cls d σ H)
section
variable {X : Cx} {x n : Str} {c : Value} {i : Nat} {body suite : List Stmt} {b₀ : Stmt} {np pos pos' : Pos} {tb : WX → TS} {ts : Addr → Value → Option Addr → TS} {Wout : WX}
theorem ps_try_held (hs : X.stack = X.env :: X.outer) (hf : X.env.frame = some X.env.locals) (hex : X.ex = []) (hN : X.N.Nodup) (hi : X.N[i]? = some n) (hln : X.env.kindOf n = some .local) (hc : Names X x c) (tk : Takes X Wout)
    (hb : ∀ (W : WX) (pn : List (Addr × Obj)) (xe : Value → Shared → Prop), Takes (X.tr pn xe) W → PassesOwn (model X.prog X.w) X.A X.env xe → PSs (X.tr pn xe) body (tb W))
    (hsu : ∀ (a : Addr) (oe : Obj) (cls : Value) (d : Option Addr) (pn : List (Addr × Obj)), Zc cls d oe → (∃ vs, oe.data = .fields vs) → PSs (X.suite a ((a, oe) :: pn)) (b₀ :: suite) (ts a cls d)) :
    PS X (.Try body [.ExceptHandler (some (.Name x np)) (some n) (b₀ :: suite) pos'] [] [] pos) (fun D σ H => tb (wHeld X.K c i ts Wout D) D σ H) := by
  refine ⟨fun pins s σ H D I h => ?_⟩
  have ok := I.ok
  have fr : X.A.frames = some (X.env :: X.outer) := ok.frames.trans (congrArg some hs)
  refine wpAny_Try_except (wpAny_mono ((hb (wHeld X.K c i ts Wout D) (X.pn ++ pins) _ (fun u s' xx => ?_) PassesOwn.looking).run [] s σ H D (I.toTry _) h) (fun f s1 hsp => ?_) fun _ _ z => z)
  rotate_left
  · match f, hsp with
    | .next, ⟨σ', H', J, q⟩ => exact wpAny_execs_nil ⟨σ', H', J.ofTry ok, q⟩
    | .brk, ⟨σ', H', J, q⟩ => exact ⟨σ', H', J.ofTry ok, q⟩
    | .cont, ⟨σ', H', J, q⟩ => exact ⟨σ', H', J.ofTry ok, q⟩
    | .ret u, ⟨v, σ', H', J, r, q⟩ => exact ⟨v, σ', H', J.ofTry ok, r, q⟩
  obtain ⟨a, B, sI, pins', σ', H', cls, d, rfl, JT, nb, up, sky, na, os, ag, b, hb1, yes, no⟩ := xx
  have J : Inv X pins σ' H' sI := JT.ofTry ok
  rw [hs] at sky
  refine Sky.land (env := X.env) (outer := X.outer) Zc.steady fr hf sky fun h3 f3 u3 => ?_
  obtain ⟨o3, v3, g3, z3, d3⟩ := f3.there
  have J3 : Inv X pins σ' H' { s' with heap := h3 } := J.landed nb f3.1 (up.trans u3) os ag
  have nfr : a ∉ frs (X.env :: X.outer) := fun hm => by
    obtain ⟨_, o', e', hnf⟩ := f3.2.2.1.mem hm
    rw [g3] at e'
    cases e'
    exact hnf _ d3
  have nL : a ≠ X.env.locals := fun z => nfr (List.mem_filterMap.mpr ⟨X.env, List.mem_cons_self, by rw [hf, z]⟩)
  have nF : a ∉ X.fs := fun hm => by
    obtain ⟨e, he, q⟩ := List.mem_filterMap.mp hm
    exact nfr (List.mem_filterMap.mpr ⟨e, List.mem_cons_of_mem _ he, q⟩)
  have nI : sI.heap.get? a = none := by
    cases e : sI.heap.get? a with
    | none => rfl
    | some u =>
      have z := nb a u e (by rw [hs]; exact nfr)
      rw [f3.2.1] at z
      cases z
  have n0 : X.s_0.heap.get? a = none := by
    cases e : X.s_0.heap.get? a with
    | none => rfl
    | some u =>
      obtain ⟨o', z⟩ := J.base.there a u e (by rw [hex]; exact fun z => nomatch z)
      rw [nI] at z
      cases z
  have npin : ∀ p ∈ X.pn ++ pins, p.1 ≠ a := fun p hp z => by
    have e := (J.pin p hp).1
    rw [z, nI] at e
    cases e
  have nc : ∀ y c, X.env.cells.lookup y = some c → c ≠ a := fun y c e z => by
    obtain ⟨v, o', e', _⟩ := J.cell y c e
    rw [z, nI] at e'
    cases e'
  have S3 := J3.suite g3 d3 na nL nF
  refine wpAny_handleBy_cons (codeAny_handlers_test ?_) (by intro q; cases q)
  have LT : PySem.W.Looks (model X.prog X.w) h3 (typeOf (.ref a)) cls := fun A Q E s k q => wpAny_typeOf_ref (k _ _ g3) (by rw [z3.1]; exact q)
  have LM := PySem.W.exm_one (M := model X.prog X.w) J3.kIn LT hb1
  have clause : ∀ {Q : Value → Shared → Prop} {E : Value → Shared → Prop}, Q c { s' with heap := h3 } → wpAny (model X.prog X.w) (X.A.mark (some (.ref a))) (eval (.Name x np) X.env) Q E { s' with heap := h3 } := fun q => by
    obtain ⟨hg, hdbg, hm | ⟨hm, hv, hnn⟩⟩ := hc
    · exact ld_glob (X := X.suite a ((a, o3) :: (X.pn ++ pins))) S3 hg hm q hdbg
    · exact ld_blt (X := X.suite a ((a, o3) :: (X.pn ++ pins))) S3 hg hm hv q hnn hdbg
  refine clause (LM.here ?_)
  cases b with
  | true =>
    refine codeAny_handlers_suite_as (HandSPX.lands_againZ f3 fun h4 f4 u4 => ?_)
    have J4 : Inv X pins σ' H' { s' with heap := h4 } := J.landed nb f4.1 ((up.trans u3).trans u4) os ag
    obtain ⟨o4, v4, g4, z4, d4⟩ := f4.there
    refine store_ok (X := X.suite a ((a, o4) :: (X.pn ++ pins))) (v := .ref a) (J4.suite g4 d4 na nL nF) hN hi (.inl hln) rfl (fun s5 S5 => ?_) (.inr hln)
    refine wpAny_mono ((hsu a o4 cls d (X.pn ++ pins) z4 ⟨_, d4⟩).run [] s5 _ H' _ S5 (yes rfl a na)) (fun f s6 hsp => ?_) fun _ _ z => z.elim
    have fin : ∀ {σ6 : L2.St} {H6 : Hp} {Q : Shared → Prop}, Inv (X.suite a ((a, o4) :: (X.pn ++ pins))) [] σ6 H6 s6 → (∀ s7, Inv X pins (σ6.set i none) (upd H6 a (ExV cls a d)) s7 → Q s7) →
        wpAny (model X.prog X.w) X.A (do bindName X.env n .none; unbindBehindTheSuite X.env n pos') (fun _ s7 => Q s7) X.xe s6 := fun {σ6 H6 Q} S6 hq => by
      have P6 : Inv X ((a, o4) :: pins) σ6 H6 s6 := (S6.unsuite ok).pins_of fun p hp => by
        rcases List.mem_cons.mp hp with rfl | hp
        · exact S6.pin _ (List.mem_append_left _ List.mem_cons_self)
        · exact S6.pin p (List.mem_append_left _ (List.mem_cons_of_mem _ (List.mem_append_right _ hp)))
      refine gone_ok P6 hN hi hln fun s7 J7 => hq s7 ?_
      obtain ⟨e7, n7, _⟩ := J7.pin (a, o4) (List.mem_append_right _ List.mem_cons_self)
      have J8 : Inv X pins (σ6.set i none) H6 s7 := J7.pins_of fun p hp => J7.pin p (List.mem_append_right _ (List.mem_cons_of_mem _ hp))
      exact inv_take J8 n7 n0 npin nL nc (exV_ok e7 z4 d4)
    match f, hsp with
    | .next, ⟨σ6, H6, S6, q6⟩ => exact fin S6 fun s7 J7 => ⟨_, _, J7, q6⟩
    | .brk, ⟨σ6, H6, S6, q6⟩ => exact fin S6 fun s7 J7 => ⟨_, _, J7, q6⟩
    | .cont, ⟨σ6, H6, S6, q6⟩ => exact fin S6 fun s7 J7 => ⟨_, _, J7, q6⟩
    | .ret u, ⟨v6, σ6, H6, S6, r6, q6⟩ => exact fin S6 fun s7 J7 => ⟨_, _, _, J7, r6, q6⟩
  | false =>
    refine wpAny_handleBy_nil ?_
    obtain ⟨_, _, _, oe, vs, T, oT, ts', he, hz, hd, h1, hr⟩ := id f3
    unfold PySem.passOn
    refine wpAny_bind (wpAny_field he hd h1 ?_)
    rw [if_neg (show ¬ ((Value.ref T == Value.none) = true) from by simp)]
    have goes : wpAny (model X.prog X.w) X.A (setFlight (.ref a) X.env.frame) (fun _ s4 => wpAny (model X.prog X.w) X.A (throw (.ref a) : Sem Flow) (SP X pins D) X.xe s4) X.xe { s' with heap := h3 } := by
      rw [hf]
      refine HandSPX.setFlight_upZ f3 fun h4 hh4 u4 => wpAny_throw (tk _ _ ?_)
      exact ⟨a, B, sI, pins, σ', H', cls, d, rfl, J, nb, (up.trans u3).trans u4, .inr (.inr (by rw [hs]; exact hh4)), na, os, ag, no rfl⟩
    first
      | exact wpAny_bind (wpAny_pure (wpAny_bind goes))
      | exact wpAny_bind goes
end

/-! ### a held exception asked -/
/-- the instance that it is -/
theorem held_inst {P : Program} {w : World} {H : Hp} {h : Heap} {C a : Addr} {d : Option Addr} (hok : HOk P w H h) (e : H a = some (ExV (.ref C) a d)) (hd : ∀ dd, d = some dd → ∃ fs, H dd = some (.xd fs)) :
    ∃ (oe : Obj) (od : Option Obj), PySem.W.InstAt h a oe C od ∧ (d = none → od = none) ∧ ∀ dd fs, d = some dd → H dd = some (.xd fs) → ∃ mA o, h.Ns1 dd mA ∧ (∀ f, RelO (fs.lookup f) (mA f)) ∧ od = some o ∧ h.get? dd = some o := by
  obtain ⟨oe, vs, g, z, dt⟩ := exV_at hok e
  obtain ⟨oc, odd, da, sl⟩ := oe
  obtain ⟨z1, z2⟩ := z
  dsimp only at z1 z2 dt
  subst z1 z2 dt
  cases odd with
  | none => exact ⟨_, none, ⟨g, rfl, rfl, trivial⟩, fun _ => rfl, fun dd fs e => by cases e⟩
  | some dd =>
    obtain ⟨fs, ed⟩ := hd dd rfl
    have hx : ObjOk P w H h dd (.xd fs) := hok dd _ ed
    obtain ⟨mA, hns, hr⟩ := hx
    obtain ⟨o, es, ep, ho, r⟩ := id hns
    refine ⟨_, some o, ⟨g, rfl, rfl, ho⟩, fun z => (nomatch z), fun dd' fs' e' ed' => ?_⟩
    cases e'
    have hx' : ObjOk P w H h dd (.xd fs') := hok dd _ ed'
    obtain ⟨mA', hns', hr'⟩ := hx'
    exact ⟨mA', o, hns', hr', rfl, ho⟩
/-- e.f, e a held exception -/
def tXh (K : PySem.W.Frag) (f : Str) (te : TE) : TE := fun σ H Q => te σ H fun x H1 => ∃ a C dd fs v, x = .ref a ∧ H1 a = some (ExV (.ref C) a (some dd)) ∧ XhC K C ∧ PySem.W.findIn K (.ref C) f = some none ∧ H1 dd = some (.xd fs) ∧ fs.lookup f = some v ∧ Q v H1
theorem pe_xh {X : Cx} {e : Expr} {te : TE} {f : Str} {pos : Pos} (he : PE X e te) (hb : attributeBase e f X.env (eval e X.env) = eval e X.env := by rfl) : PE X (.Attribute e f pos) (tXh X.K f te) := by
  refine ⟨fun pins s σ H Q I h => attr_of hb (thn (he.run pins s σ H _ I h) fun u s1 hh => ?_)⟩
  obtain ⟨x, H1, I1, rx, a, C, dd, fs, v, ex, ea, XC, hno, ed, l, q⟩ := hh
  subst ex
  obtain rfl : u = Value.ref a := rx
  obtain ⟨oe, od, J, _, hd⟩ := held_inst I1.hok ea fun d' e' => by cases e'; exact ⟨fs, ed⟩
  obtain ⟨mA, o, hns, hr, eo, ho⟩ := hd dd fs rfl ed
  obtain ⟨o2, ho2, hl⟩ := lookIn_ns hns
  rw [ho] at ho2
  cases ho2
  obtain ⟨u, hu, ru⟩ := RelO.some_of (v := v) (o := mA f) (by rw [← l]; exact hr f)
  subst eo
  exact HandSPX.exc_get I1.kIn J XC.xf.ga XC.xf.gg XC.xf.exC (PySem.W.findObj_own XC.xf.hdC hno rfl (by rw [hl, hu])) (handed_of ru) ⟨v, H1, I1.tok _, ru, q⟩
/-- a value's type, a held exception's too -/
inductive TyH (K : PySem.W.Frag) (H : Hp) : V → Value → Prop where
  | x {x : V} {t : Value} (h : TyX K H x t) : TyH K H x t
  | exc {a C : Addr} {d : Option Addr} (e : H a = some (ExV (.ref C) a d)) (c : XhC K C) (hd : ∀ dd, d = some dd → ∃ fs, H dd = some (.xd fs)) : TyH K H (.ref a) (.ref C)
/-- isinstance(x, c), x perhaps a held exception -/
def rIsH (K : PySem.W.Frag) : List V → Hp → VK → Prop := fun xs H Q => ∃ (x c : V) (t u : Value) (b : Bool), xs = [x, c] ∧ ClsV c u ∧ TyH K H x t ∧ PySem.W.kitOne K t u = some b ∧ Q (.bl b) H
theorem call_isH {X : Cx} : CallR X (.builtin "isinstance") (rIsH X.K) := by
  intro pins s σ H xs us Q I r h
  obtain ⟨x, c, t, u, b, rfl, k, ty, e, q⟩ := h
  obtain ⟨u1, u2, rfl, r1, r2⟩ := vals2 r
  have e2 := k.eq r2
  subst e2
  cases ty with
  | x ty =>
    obtain ⟨P, Z, p, hx⟩ := kit_of I r1 ty
    exact PySem.W.kia_one Z I.kIn p e hx fun tk => ⟨.bl b, H, I.tok tk, rfl, q⟩
  | @exc a C d ea XC hd =>
    obtain rfl : u1 = Value.ref a := r1
    obtain ⟨oe, od, J, _⟩ := held_inst I.hok ea hd
    exact PySem.W.kia_one (PySem.W.kitx_exc XC.some_ XC.xf.ga XC.xf.gg XC.xf.exC XC.at_ XC.sp XC.tk XC.ob) I.kIn J e (fun z => nomatch z) fun tk => ⟨.bl b, H, I.tok tk, rfl, q⟩
end Gs

set_option maxRecDepth 100000
set_option maxHeartbeats 4000000
/-! the head's facts, exceptions with super().__init__ and tables of code objects among them; the law's end -/
namespace Gs
open PySem PySem.Spec PyProof.Rows L2

/-! ### an exception class that stands in the written part -/
structure XcD where
  x : Str
  qual : Str
  params : Arguments
  body : List Stmt
  scope : Scope
abbrev XcV : Type := Option (Str × Str × Arguments × FuncBody × Scope × Addr × List Str × Addr)
def xcInit (K : PySem.W.Frag) (x : Str) : Addr := He.ma K (He.ga K x) "__init__"
def xcObs (K : PySem.W.Frag) (x : Str) : XcV := match K.lookup (xcInit K x) with
  | some ⟨_, _, .func fd, _⟩ => some (fd.name, fd.qualname, fd.params, fd.body, fd.scope, fd.globals, fd.closure.map (·.1), fd.builtins)
  | _ => none
def XcD.val (d : XcD) : XcV := some ("__init__", d.qual, d.params, .stmts d.body, d.scope, mainGlobals, ["__class__"], builtinsNs)
def oexB (K : PySem.W.Frag) (C : Addr) : Bool := (match K.lookup C with
  | some ⟨.type t, _, .cls cd, sl⟩ => decide (t = "type") && (match cd.mro, sl.toList with
    | .ref C' :: bm, [_, _, _, _, some (.builtin n), _] => decide (C' = C) && (decide (n = "ValueError.__new__") && ((!cd.hasDel) && (cd.hasDict && PySem.HandSPX.refsVE bm)))
    | _, _ => false)
  | _ => false) && (decide (PySem.W.findIn K (.ref C) "__setattr__" = some (some (.builtin "object.__setattr__"))) && (decide (PySem.W.subIn K (.ref C) (.type "BaseException") = some true) &&
    (decide (PySem.W.typeIn K (.ref C) = some (.type "type")) && PySem.W.keepIn K (.ref C))))
theorem oexB_ok {K : PySem.W.Frag} {C : Addr} (h : oexB K C = true) : OexC K C := by
  obtain ⟨h1, h⟩ := He.ba h
  obtain ⟨h2, h⟩ := He.ba h
  obtain ⟨h3, h⟩ := He.ba h
  obtain ⟨h4, h5⟩ := He.ba h
  refine ⟨?_, of_decide_eq_true h2, of_decide_eq_true h3, of_decide_eq_true h4, h5⟩
  split at h1
  · rename_i t dd cd sl ho
    obtain ⟨e0, h1⟩ := He.ba h1
    have e0 : t = "type" := of_decide_eq_true e0
    subst e0
    split at h1
    · rename_i C' bm k0 k1 k2 k3 n k5 hm hs
      obtain ⟨_, f1⟩ := He.ba h1
      obtain ⟨e1, f1⟩ := He.ba f1
      obtain ⟨e2, f1⟩ := He.ba f1
      obtain ⟨e3, f1⟩ := He.ba f1
      obtain ⟨e4, e5⟩ := He.ba f1
      have e1 : C' = C := of_decide_eq_true e1
      have e2 : n = "ValueError.__new__" := of_decide_eq_true e2
      subst e1 e2
      obtain ⟨nm, bs, mro, ns, qn, hd, sn, sub, ab, col, del⟩ := cd
      dsimp only at hm e3 e4
      simp only [Bool.not_eq_true'] at e3
      subst hm e3 e4
      have hsl : sl = #[k0, k1, k2, k3, some (.builtin "ValueError.__new__"), k5] := by
        obtain ⟨l⟩ := sl
        simp only at hs
        rw [hs]
      subst hsl
      exact ⟨nm, qn, ns, bs, bm, sn, sub, ab, col, dd, k0, k1, k2, k3, k5, ho, e5⟩
    · cases h1
  · cases h1
def xhB (K : PySem.W.Frag) (C : Addr) : Bool := oexB K C && (xfB K C && (decide (PySem.W.findIn K (.ref C) "__class__" = some (some (.builtin "object.__class__"))) &&
  (decide (PySem.W.specialIn K (.builtin "object.__class__") "__get__" = some (some (.builtin "getset_descriptor.__get__"))) && (decide (PySem.W.takesIn K (.builtin "object.__class__") = some true) && decide (PySem.W.mroIn K C (.type "object") = some true)))))
theorem xhB_ok {K : PySem.W.Frag} {C : Addr} (h : xhB K C = true) : XhC K C := by
  obtain ⟨h1, h⟩ := He.ba h
  obtain ⟨h2, h⟩ := He.ba h
  obtain ⟨h3, h⟩ := He.ba h
  obtain ⟨h4, h⟩ := He.ba h
  obtain ⟨h5, h6⟩ := He.ba h
  exact ⟨oexB_ok h1, xfB_ok h2, of_decide_eq_true h3, of_decide_eq_true h4, of_decide_eq_true h5, of_decide_eq_true h6⟩
/-- the __init__'s code object and its cell -/
def xcFn (K : PySem.W.Frag) (file : Str) (C f : Addr) (q : Str) : Bool := match K.lookup f with
  | some ⟨_, _, .func fd, _⟩ => PySem.W.codeIn K fd.code q && ((match fd.defaults with
    | .none => true
    | _ => false) && ((match fd.code with
    | .ref cda => (match K.lookup cda with
      | some ⟨_, _, .fields vs, _⟩ => (match (vs[2]? : Option Value) with
        | some (Value.str fl _) => file == fl
        | _ => false)
      | _ => false)
    | _ => false) && (match fd.closure with
    | [(_, cc)] => (match K.lookup cc with
      | some ⟨_, _, .cell (some (.ref D)), _⟩ => decide (D = C)
      | _ => false)
    | _ => false)))
  | _ => false
def xcB (K : PySem.W.Frag) (file : Str) (d : XcD) : Bool :=
  decide (PySem.W.nsIn K mainGlobals d.x = some (some (.ref (He.ga K d.x)))) && (xhB K (He.ga K d.x) && (xcFn K file (He.ga K d.x) (xcInit K d.x) d.qual &&
    (decide (PySem.W.findIn K (.ref (He.ga K d.x)) "__init__" = some (some (.ref (xcInit K d.x)))) && (decide (PySem.W.typeIn K (.ref (xcInit K d.x)) = some (.type "function")) &&
    (decide (PySem.W.ks_superIn K (He.ga K d.x) (He.ga K d.x) "__init__" = some (some (.builtin "ValueError.__init__"))) && (decide (PySem.W.subIn K (.ref (He.ga K d.x)) (.type "ValueError") = some true) &&
    (decide (PySem.W.mroIn K (He.ga K d.x) (.ref (He.ga K d.x)) = some true) && (decide (PySem.W.nsIn K cStatics "thirdparty.any" = some none) && decide (PySem.W.nsIn K mainGlobals "super" = some none)))))))))

theorem xc_at {P : Program} {K : PySem.W.Frag} {h : Heap} {mg : Str → Option Value} {d : XcD} {st : Stmt} (X : K.In h) (G : h.Ns mainGlobals mg) (top : (P.main.scope.names.lookup ("super" : Str)).isSome = false)
    (e : xcObs K d.x = d.val) (b : xcB K P.main.file d = true) (e1 : d.params = defArgs st) (e2 : d.body = defBody st) (e3 : d.scope = defScope st) : ExcAt P K mg d.x d.qual st := by
  obtain ⟨x, qual, params, body, scope⟩ := d
  dsimp only at e1 e2 e3
  subst e1 e2 e3
  obtain ⟨b1, b⟩ := He.ba b
  obtain ⟨b2, b⟩ := He.ba b
  obtain ⟨b3, b⟩ := He.ba b
  obtain ⟨b4, b⟩ := He.ba b
  obtain ⟨b5, b⟩ := He.ba b
  obtain ⟨b6, b⟩ := He.ba b
  obtain ⟨b7, b⟩ := He.ba b
  obtain ⟨b8, b⟩ := He.ba b
  obtain ⟨b9, b10⟩ := He.ba b
  dsimp only at b1 b2 b3 b4 b5 b6 b7 b8 b9 b10 e ⊢
  unfold xcObs at e
  unfold xcFn at b3
  cases q : K.lookup (xcInit K x) with
  | none =>
    rw [q] at b3
    cases b3
  | some o =>
    obtain ⟨oc, od, dt, osl⟩ := o
    rw [q] at b3 e
    cases dt with
    | func fd =>
      obtain ⟨n1, n2, n3, n4, n5, n6, n7, n8, n9, n10, n11, n12, n13, n14, n15⟩ := fd
      have e2 : (some (n1, n2, n3, n4, n5, n6, n7.map (·.1), n15) : XcV) = (some (("__init__" : Str), qual, defArgs st, FuncBody.stmts (defBody st), defScope st, mainGlobals, [("__class__" : Str)], builtinsNs) : XcV) := e
      simp only [Option.some.injEq, Prod.mk.injEq] at e2
      obtain ⟨h1, h2, h3, h4, h5, h6, h7, h8⟩ := e2
      subst h1 h2 h3 h4 h5 h6 h8
      obtain ⟨c1, c⟩ := He.ba b3
      obtain ⟨c2, c⟩ := He.ba c
      obtain ⟨c3, c4⟩ := He.ba c
      dsimp only at c1 c2 c3 c4
      have d2 : n8 = .none := by
        cases n8 with
        | none => rfl
        | _ => cases c2
      subst d2
      cases n13 with
      | ref cda =>
        dsimp only at c3
        cases q2 : K.lookup cda with
        | none =>
          rw [q2] at c3
          cases c3
        | some oc2 =>
          obtain ⟨ccl, cdd, dt2, ccs⟩ := oc2
          rw [q2] at c3
          cases dt2 with
          | fields vs =>
            dsimp only at c3
            cases q3 : vs[2]? with
            | none =>
              rw [q3] at c3
              cases c3
            | some u =>
              rw [q3] at c3
              cases u with
              | str fl tf =>
                match n7, h7, c4 with
                | [(nm, cc)], h7, c4 =>
                  have hnm : nm = ("__class__" : Str) := by
                    have h7' : [nm] = [("__class__" : Str)] := h7
                    cases h7'
                    rfl
                  subst hnm
                  dsimp only at c4
                  cases q4 : K.lookup cc with
                  | none =>
                    rw [q4] at c4
                    cases c4
                  | some oc4 =>
                    obtain ⟨cl, cld, dt4, csl⟩ := oc4
                    rw [q4] at c4
                    cases dt4 with
                    | cell w4 =>
                      cases w4 with
                      | some w5 =>
                        cases w5 with
                        | ref D =>
                          have eD : D = He.ga K x := of_decide_eq_true c4
                          subst eD
                          have XC := xhB_ok b2
                          exact ⟨_, _, cda, cc, vs, oc, od, osl, _, _, _, _, _, PySem.W.mg_of X G (of_decide_eq_true b1), XC, q, c1,
                            ⟨XC.oex, ⟨_, _, _, q2⟩, ⟨fl, tf, q3, c3⟩, ⟨_, _, _, q4⟩, of_decide_eq_true b6, of_decide_eq_true b7, of_decide_eq_true b8, of_decide_eq_true b9, PySem.W.mg_none_of X G (of_decide_eq_true b10), top⟩,
                            of_decide_eq_true b4, of_decide_eq_true b5⟩
                        | _ => cases c4
                      | none => cases c4
                    | _ => cases c4
              | _ => cases c3
          | _ => cases c3
      | _ => cases c3
    | _ => cases b3

/-! ### the Hook -/
def asS (g : Addr → Option Obj) : Nat → List Addr
  | 0 => [mainGlobals, cStatics]
  | n + 1 => He.growD g (asS g n)
abbrev AlS : Type := He.AlD × (List XcV × Bool)
def obsK (file : Str) (fa : List He.Fa) (fn : List He5.DefA) (xs : List XcD) (tf : List He.Defn) (ex : PySem.W.Frag → Bool) (g : Addr → Option Obj) (K : PySem.W.Frag) : AlS :=
  (He5.obsA fa fn K, (xs.map fun d => xcObs K d.x, ex K && ((xs.all fun d => xcB K file d) && He.tabsB g tf K)))
def obsS (n : Nat) (file : Str) (fa : List He.Fa) (fn : List He5.DefA) (xs : List XcD) (tf : List He.Defn) (ex : PySem.W.Frag → Bool) (g : Addr → Option Obj) : AlS := obsK file fa fn xs tf ex g (He.frT g (asS g n))
def valS (fn : List He5.DefA) (xs : List XcD) : AlS := (He5.valA fn, (xs.map XcD.val, true))
/-- what the end leans on -/
structure SaysS (file : Str) (fa : List He.Fa) (fn : List He5.DefA) (xs : List XcD) (tf : List He.Defn) (ex : PySem.W.Frag → Bool) (h : Heap) (K : PySem.W.Frag) : Prop where
  d : He5.SaysA fa fn K
  xo : ∀ d ∈ xs, xcObs K d.x = d.val
  xb : ∀ d ∈ xs, xcB K file d = true
  more : ex K = true
  hd : ∀ p ∈ tf, PySem.W.codeHdIn K (He.cT K p).1 (He.cT K p).2 = true
  out : ∀ p ∈ tf, K.lookup (He.cT K p).2 = none
  empty : ∀ p ∈ tf, h.get? (He.cT K p).2 = some { cls := .none, data := .fields #[] }
theorem saysS_of {n : Nat} {file : Str} {fa : List He.Fa} {fn : List He5.DefA} {xs : List XcD} {tf : List He.Defn} {ex : PySem.W.Frag → Bool} {h : Heap} (e : obsS n file fa fn xs tf ex h.get? = valS fn xs) : SaysS file fa fn xs tf ex h (He.frT h.get? (asS h.get? n)) := by
  unfold obsS at e
  generalize eK : He.frT h.get? (asS h.get? n) = K at e ⊢
  have e1 : He5.obsA fa fn K = He5.valA fn := congrArg (fun z : AlS => z.1) e
  have e2 : (xs.map fun d => xcObs K d.x) = xs.map XcD.val := congrArg (fun z : AlS => z.2.1) e
  have e3 : (ex K && ((xs.all fun d => xcB K file d) && He.tabsB h.get? tf K)) = true := congrArg (fun z : AlS => z.2.2) e
  obtain ⟨h1, h2⟩ := He.ba e3
  obtain ⟨h2, h3⟩ := He.ba h2
  have tab : ∀ p ∈ tf, PySem.W.codeHdIn K (He.cT K p).1 (He.cT K p).2 = true ∧ ∃ o, h.get? (He.cT K p).2 = some o ∧ He.emptyTab o = true := fun p hp => by
    obtain ⟨h4, h5⟩ := He.ba (List.all_eq_true.mp h3 p hp)
    cases q : h.get? (He.cT K p).2 with
    | none =>
      rw [q] at h5
      cases h5
    | some o =>
      rw [q] at h5
      exact ⟨h4, o, rfl, h5⟩
  refine ⟨e1, fun d hd => ?_, fun d hd => List.all_eq_true.mp h2 d hd, h1, fun p hp => (tab p hp).1, fun p hp => ?_, fun p hp => ?_⟩
  · exact List.map_inj_left.mp e2 d hd
  · obtain ⟨_, o, q, z⟩ := tab p hp
    rw [← eK] at q ⊢
    exact He.frT_none q z
  · obtain ⟨_, o, q, z⟩ := tab p hp
    rw [q, He.emptyTab_eq z]
def hookS (n : Nat) (file : Str) (fa : List He.Fa) (fn : List He5.DefA) (xs : List XcD) (tf : List He.Defn) (ex : PySem.W.Frag → Bool) : PySem.W.Hook where
  α := AlS
  obs := fun s => obsS n file fa fn xs tf ex s.heap.get?
  val := fun _ => valS fn xs
  says := fun _ h => ∃ K : PySem.W.Frag, K.In h ∧ SaysS file fa fn xs tf ex h K
  of := fun _ _ e => ⟨_, He.frT_in, saysS_of e⟩
  keeps := fun _ _ _ ⟨K, hK, c⟩ k => ⟨K, PySem.W.Frag.In.keeps hK k, ⟨c.d, c.xo, c.xb, c.more, c.hd, c.out, fun p hp => k _ _ (c.empty p hp)⟩⟩
theorem obsS_eq {n : Nat} {file : Str} {fa : List He.Fa} {fn : List He5.DefA} {xs : List XcD} {tf : List He.Defn} {ex : PySem.W.Frag → Bool} {g : Addr → Option Obj} {s : Shared} (h : ∀ a, g a = s.heap.get? a) : obsS n file fa fn xs tf ex g = (hookS n file fa fn xs tf ex).obs s := by
  have e : g = s.heap.get? := funext h
  rw [e] <;> rfl

/-! ### the law's end with tables, the guards told -/
open LamX
section
variable {P : Program} {w : World} {K : PySem.W.Frag} {mg mb : Str → Option Value} {a : Addr} {s s' : Shared} {vs : List Value} {cs : List (Addr × Addr)} {H H' : Hp}
/-- the entry's state, H all that is tracked there: the script, the tables -/
theorem enterS (KX : K.In s.heap) (hns : s.heap.Ns mainGlobals mg) (hb : s.heap.Ns builtinsNs mb)
    (hbb : ∀ x : Str, x ≠ "__name__" → mb x = bootBuiltins x) (hlim : s.heap.NoLimit) (hg : s.gens = #[]) (ha : s.heap.get? a = some { cls := .type "list", data := .seq vs.toArray })
    (hT : ∀ p ∈ cs, s.heap.get? p.2 = some { cls := .none, data := .fields #[] }) (nT : ∀ p ∈ cs, K.lookup p.2 = none) (C : ∀ p ∈ cs, PySem.W.CodeHd s.heap p.1 p.2)
    (hbm : ∃ (bm : Addr) (ob : Obj), mg "__builtins__" = some (.ref bm) ∧ bm ≠ builtinsNs ∧ s.heap.get? bm = some ob ∧ ob.cls = .type "module" ∧ ob.dict = some builtinsNs ∧ ob.data = .plain)
    (hok : HOk P w H s.heap) (hA : ∀ b, H b ≠ none → b = a ∨ ∃ p ∈ cs, b = p.2) (hK : H a ≠ none → K.lookup a = none) :
    K.In (hidT s.heap H) ∧ (hidT s.heap H).Ns mainGlobals mg ∧ (NoDig s.heap → NoDig (hidT s.heap H)) ∧ (∀ p ∈ cs, TabB (hidT s.heap H) mg p.1 p.2) ∧ Env0 P w K mg (hidT s.heap H) callerA [] s H := by
  have free : ∀ {b : Addr} {o : Obj}, s.heap.get? b = some o → ((o ≠ { cls := .type "list", data := .seq vs.toArray } ∧ o ≠ { cls := .none, data := .fields #[] }) ∨ K.lookup b = some o) → H b = none := by
    intro b o e d
    by_cases z : H b = none
    · exact z
    · rcases hA b z with eb | ⟨p, hp, eb⟩
      · subst eb
        rcases d with ⟨d, _⟩ | d
        · rw [ha] at e
          exact (d (Option.some.inj e).symm).elim
        · rw [hK z] at d
          cases d
      · subst eb
        rcases d with ⟨_, d⟩ | d
        · rw [hT p hp] at e
          exact (d (Option.some.inj e).symm).elim
        · rw [nT p hp] at d
          cases d
  have dict : ∀ {b : Addr} {o : Obj} {es : Array DictEntry} {ep : Nat}, s.heap.get? b = some o → o.data = .dict es ep → (hidT s.heap H).get? b = some o := by
    intro b o es ep e d
    refine hidT_get e (free e (.inl ⟨fun z => ?_, fun z => ?_⟩))
    · rw [z] at d
      cases d
    · rw [z] at d
      cases d
  have ns : ∀ {b : Addr} {m : Str → Option Value}, s.heap.Ns b m → (hidT s.heap H).Ns b m := by
    rintro b m ⟨o, es, ep, e, d, r⟩
    exact ⟨o, es, ep, dict e d, d, r⟩
  have kin : K.In (hidT s.heap H) := fun b o e => hidT_get (KX b o e) (free (KX b o e) (.inr e))
  obtain ⟨mc, h1, h2⟩ := hlim
  refine ⟨kin, ns hns, fun ⟨md, d1, d2⟩ => ⟨md, ns d1, d2⟩, fun p hp => ⟨?_, ?_, fun z => ?_⟩, ⟨rfl, ⟨kin, ns hns, ⟨mb, ns hb, hbb⟩, ⟨mc, ns h1, h2⟩⟩, fun b o e => of_hidT e, Nat.le_of_eq (hidT_size _ _), trivial,
    fun b z => absurd (show b ∈ ([] : List Addr) from z) (by simp), hok, .of_eq hg⟩⟩
  · obtain ⟨o, us, file, tf, flags, tg, inF, text, tt, e1, r1, r2, r3, r⟩ := C p hp
    refine ⟨o, us, file, tf, flags, tg, inF, text, tt, hidT_get e1 (free e1 (.inl ⟨fun z => ?_, fun z => ?_⟩)), r1, r2, r3, r⟩
    · rw [z] at r2
      cases r2
    · rw [z] at r2
      cases r2
      simp at r3
  · obtain ⟨bm, ob, b1, b2, b3, b4, b5, b6⟩ := hbm
    refine ⟨bm, ob, b1, b2, fun q => ?_, fun q => ?_, hidT_get b3 (free b3 (.inl ⟨fun z => ?_, fun z => ?_⟩)), b4, b5, b6⟩
    · obtain ⟨o, es, ep, e, d, _⟩ := hns
      rw [q, e] at b3
      cases b3
      rw [d] at b6
      cases b6
    · rw [q, hT p hp] at b3
      cases b3
      cases b6
    · rw [z] at b6
      cases b6
    · rw [z] at b6
      cases b6
  · obtain ⟨o, es, ep, e, d, _⟩ := hns
    rw [z, hT p hp] at e
    cases e
    cases d
theorem leaveS (hT : ∀ p ∈ cs, s.heap.get? p.2 = some { cls := .none, data := .fields #[] }) (C : ∀ p ∈ cs, PySem.W.CodeHd s.heap p.1 p.2) (hH : ∀ p ∈ cs, H p.2 = some (.tbl #[]))
    (hO : ∀ b, H b = none ∨ (∃ p ∈ cs, b = p.2) ∨ ∃ ob xs, H b = some (.frz ob (.lst xs))) (hok : HOk P w H s.heap) (hok' : HOk P w H' s'.heap) (un : Un (frs []) [] H H' s.heap s'.heap) : OldK s.heap s'.heap := by
  have key : ∀ b o, s.heap.get? b = some o → (s'.heap.get? b = some o ∨ ∃ p ∈ cs, b = p.2) := fun b o e => by
    rcases hO b with z | z | ⟨ob, xs, z⟩
    · exact .inl (un.keep b o e z (fun y => absurd (show b ∈ ([] : List Addr) from y) (by simp)) (by simp))
    · exact .inr z
    · have e1 := (hok b _ z).1
      have e2 := (hok' b _ (un.frzs b ob _ z)).1
      rw [e] at e1
      cases e1
      exact .inl e2
  have grown : ∀ p ∈ cs, ∃ more : Array Value, s'.heap.get? p.2 = some { cls := .none, data := .fields more } := fun p hp => by
    obtain ⟨more, z⟩ := un.tbls p.2 #[] (hH p hp)
    exact ⟨_, hok' p.2 _ z⟩
  refine ⟨fun b o e => ?_, fun b o e => ?_⟩
  · rcases key b o e with q | ⟨p, hp, rfl⟩
    · exact .inl q
    · obtain ⟨more, hm⟩ := grown p hp
      rw [hT p hp] at e
      cases e
      exact .inr (.inl ⟨((C p hp).tab (hT p hp)).isCodeTable, rfl, #[], more, rfl, by rw [Array.empty_append]; exact hm⟩)
  · rcases key b o e with q | ⟨p, hp, rfl⟩
    · exact ⟨o, q⟩
    · obtain ⟨more, hm⟩ := grown p hp
      exact ⟨_, hm⟩
end

theorem lawS {P : Program} {w : World} {K : PySem.W.Frag} {mg mb : Str → Option Value} {k : Nat} {fa a : Addr} {fd : FuncData} {x : Str} {sp : Sp} {s : Shared} {vs : List Value} {ns : List Int} {cs : List (Addr × Addr)}
    (KX : K.In s.heap) (hns : s.heap.Ns mainGlobals mg) (hb : s.heap.Ns builtinsNs mb) (hbb : ∀ x : Str, x ≠ "__name__" → mb x = bootBuiltins x) (hlim : s.heap.NoLimit) (hdig : NoDig s.heap) (hg : s.gens = #[])
    (ha : s.heap.get? a = some { cls := .type "list", data := .seq vs.toArray }) (hi : IntsAre vs ns) (hl : ns.length ≤ sizeLine) (hr : Room k callerA)
    (hT : ∀ p ∈ cs, s.heap.get? p.2 = some { cls := .none, data := .fields #[] }) (nT : ∀ p ∈ cs, K.lookup p.2 = none) (C : ∀ p ∈ cs, PySem.W.CodeHd s.heap p.1 p.2)
    (hbm : ∃ (bm : Addr) (ob : Obj), mg "__builtins__" = some (.ref bm) ∧ bm ≠ builtinsNs ∧ s.heap.get? bm = some ob ∧ ob.cls = .type "module" ∧ ob.dict = some builtinsNs ∧ ob.data = .plain)
    (F : ∀ base : Heap, K.In base → base.Ns mainGlobals mg → NoDig base → (∀ p ∈ cs, TabB base mg p.1 p.2) → FnG P w K mg base CX0 k fa fd [x] sp) (hbind : ∀ (s : Shared) (u : Value), BindsTo s fd ⟨[u], []⟩ [(x, u)])
    (hsp : ∀ H : Hp, (∀ p ∈ cs, H p.2 = some (.tbl #[])) → SqL K H a (ns.map V.int) → sp [.ref a] H (fun v _ => v = .bl true) fun _ _ _ => False) :
    codeAny (model P w) callerA (.call (.ref fa) ⟨[.ref a], []⟩) (fun r s' => r = .ok (.ret (.bool true)) ∧ OldK s.heap s'.heap ∧ s'.os = s.os ∧ AllBare s'.gens) s := by
  have rv := vals_ints hi
  have aT : ∀ p ∈ cs, p.2 ≠ a := fun p hp z => by
    have q := hT p hp
    rw [z, ha] at q
    have z' := congrArg Obj.data (Option.some.inj q)
    cases z'
  have run : ∀ H : Hp, (∀ p ∈ cs, H p.2 = some (.tbl #[])) → (∀ b, H b = none ∨ (∃ p ∈ cs, b = p.2) ∨ ∃ ob xs, H b = some (.frz ob (.lst xs))) → SqL K H a (ns.map V.int) → HOk P w H s.heap → (∀ b, H b ≠ none → b = a ∨ ∃ p ∈ cs, b = p.2) → (H a ≠ none → K.lookup a = none) →
      codeAny (model P w) callerA (.call (.ref fa) ⟨[.ref a], []⟩) (fun r s' => r = .ok (.ret (.bool true)) ∧ OldK s.heap s'.heap ∧ s'.os = s.os ∧ AllBare s'.gens) s := by
    intro H hH hO hS hok hA hK
    obtain ⟨kin, nsb, ndb, TB, e0⟩ := enterS KX hns hb hbb hlim hg ha hT nT C hbm hok hA hK
    refine codeAny_mono ((F _ kin nsb (ndb hdig) TB).go callerA [] s H ⟨[.ref a], []⟩ [.ref a] [.ref a] _ _ rfl hr e0 (hbind s (.ref a)) (.cons rfl .nil) (hsp H hH hS)) ?_
    intro r s' h
    match r, h with
    | .error e, h => exact (show False from h).elim
    | .ok .next, h => exact (show False from h).elim
    | .ok .brk, h => exact (show False from h).elim
    | .ok .cont, h => exact (show False from h).elim
    | .ok (.ret u), ⟨v, H', os, bare, un, hok', r2, q⟩ =>
      obtain rfl : v = .bl true := q
      obtain rfl : u = Value.bool true := r2
      exact ⟨rfl, leaveS hT C hH hO hok hok' un, os, bare⟩
  -- the tables alone
  let T : Hp := fun b => if b ∈ cs.map (·.2) then some (.tbl #[]) else none
  have memT : ∀ {b : Addr}, b ∈ cs.map (·.2) → ∃ p ∈ cs, b = p.2 := fun hb => by
    obtain ⟨p, hp, e⟩ := List.mem_map.mp hb
    exact ⟨p, hp, e.symm⟩
  have T1 : ∀ p ∈ cs, T p.2 = some (.tbl #[]) := fun p hp => if_pos (List.mem_map.mpr ⟨p, hp, rfl⟩)
  have Ta : T a = none := if_neg fun hb => by
    obtain ⟨p, hp, e⟩ := memT hb
    exact aT p hp e.symm
  have Tc : ∀ b, T b = none ∨ ∃ p ∈ cs, b = p.2 := fun b => by
    by_cases hb : b ∈ cs.map (·.2)
    · exact .inr (memT hb)
    · exact .inl (if_neg hb)
  have Tok : HOk P w T s.heap := fun b u e => by
    rcases Tc b with z | ⟨p, hp, rfl⟩
    · rw [z] at e
      cases e
    · rw [T1 p hp] at e
      cases e
      exact hT p hp
  cases hk : K.lookup a with
  | some o =>
    have e := KX a o hk
    rw [ha] at e
    cases e
    refine run T T1 (fun b => (Tc b).elim .inl fun z => .inr (.inl z)) (.inr ⟨_, vs.toArray, _, hk, rfl, rfl, rfl, by rw [List.size_toArray, hi.length]; exact hl, by simpa using rv⟩) Tok (fun b z => ?_) fun z => absurd Ta z
    rcases Tc b with q | q
    · exact absurd q z
    · exact .inr q
  | none =>
    have at_a : (upd T a (.frz { cls := .type "list", data := .seq vs.toArray } (.lst (ns.map V.int)))) a = some (.frz { cls := .type "list", data := .seq vs.toArray } (.lst (ns.map V.int))) := upd_same
    refine run (upd T a (.frz { cls := .type "list", data := .seq vs.toArray } (.lst (ns.map V.int)))) (fun p hp => by rw [upd_ne (aT p hp)]; exact T1 p hp) (fun b => ?_) (.inl (.inr ⟨_, at_a⟩)) (fun b u z => ?_) (fun b z => ?_) fun _ => hk
    · by_cases hb : b = a
      · exact .inr (.inr ⟨_, _, (congrArg _ hb).trans at_a⟩)
      · rw [upd_ne hb]
        exact (Tc b).elim .inl fun z => .inr (.inl z)
    · by_cases hb : b = a
      · subst hb
        rw [at_a] at z
        cases z
        exact ⟨ha, by rw [List.length_map]; exact hl, vs, _, rv, ha⟩
      · rw [upd_ne hb] at z
        have q := Tok b u z
        rcases Tc b with y | ⟨p, hp, rfl⟩
        · rw [y] at z
          cases z
        · rw [T1 p hp] at z
          cases z
          exact hT p hp
    · by_cases hb : b = a
      · exact .inl hb
      · rw [upd_ne hb] at z
        rcases Tc b with y | y
        · exact absurd y z
        · exact .inr y
theorem walkS {l : PySem.W.OpenLaw} {n k : Nat} {q : Program} {loose : List Str} {XP : (Str → Option Value) → Heap → Prop} {YP : World → Heap → Prop} {d : DefRec} {x : Str}
    (hn : l.most = some n) (hn2 : n ≤ sizeLine) (hdf : d.params.defaults = []) (hr : Room k callerA)
    (F : ∀ (w : World) (mg : Str → Option Value) (fa : Addr) (h : Heap), YP w h → h.Ns mainGlobals mg → mg d.name = some (.ref fa) →
      ∃ (K : PySem.W.Frag) (fd : FuncData) (sp : Sp) (cs : List (Addr × Addr)), K.In h ∧ (∀ (s : Shared) (u : Value), BindsTo s fd ⟨[u], []⟩ [(x, u)]) ∧
        (∀ p ∈ cs, h.get? p.2 = some { cls := .none, data := .fields #[] }) ∧ (∀ p ∈ cs, K.lookup p.2 = none) ∧ (∀ p ∈ cs, PySem.W.CodeHd h p.1 p.2) ∧
        (∀ (H : Hp) (a : Addr) (ns : List Int), ns.length ≤ n → (∀ p ∈ cs, H p.2 = some (.tbl #[])) → SqL K H a (ns.map V.int) → sp [.ref a] H (fun v _ => v = .bl true) fun _ _ _ => False) ∧
        ∀ base : Heap, K.In base → base.Ns mainGlobals mg → NoDig base → (∀ p ∈ cs, TabB base mg p.1 p.2) → FnG l.prog w K mg base CX0 k fa fd [x] sp) :
    PySem.W.WalkO q loose XP YP l.row.toRowW d [] (fun f vs => PySem.call f vs) := by
  refine Att.attach_callB hn hdf fun w s0 s mg mb fa o pm cd doc a vs ns G Y ho hd hcd hmg hobj hints hlen hbits hg => ?_
  obtain ⟨K, fd, sp, cs, KX, hb, hT, nT, C, hsp, hF⟩ := F w mg fa _ Y G.T.g hmg
  exact lawS KX G.T.g G.T.b G.T.builtins G.T.nolimit G.T.nodigits hg hobj hints (Nat.le_trans hlen hn2) hr hT nT C G.T.bmain hF hb fun H hH hS => hsp H a ns hlen hH hS
end Gs

set_option maxRecDepth 100000
set_option maxHeartbeats 4000000
/-! calls that may raise, the caller's slots told; lambdas given to a def that hears what they raise -/
namespace Gs
open PySem PySem.Spec PyProof.Rows L2 LamX

section
variable {X : Cx} {W : WX} {k : Nat} {ps : List Str} {sp : Sp} {dvs : List V} {x : Str} {p pos : Pos} {e : Expr} {es : List Expr} {t : TA} {f : Addr} {fd : FuncData} {ds : List Value}
/-- a call's end where the callee may raise: E is chosen with the caller's slots in sight -/
theorem runW {pins : List (Addr × Obj)} {σ : L2.St} {H : Hp} {s : Shared} {Q : VK} {us : List Value} {vs : List V} {E : XK} (F : FnOk X.prog X.w X.K X.mg X.base (L2.CX X.prog X.w) k f fd ps sp) (hr : Room k X.A)
    (hb : Binds X.K fd ps ds) (hd : Vals dvs ds) (tk : Takes X W) (hW : ∀ cls d H', E cls d H' → W cls d σ H') (I : Inv X pins σ H s) (rv : Vals vs us) (h : sp (vs ++ dvs) H Q E) :
    wpAny (model X.prog X.w) X.A (call (.ref f) us) (EP X pins σ Q) X.xe s := by
  have rr := rv.append hd
  have lz : (us ++ ds).length = ps.length := rr.length ▸ F.len _ _ _ _ h
  refine wpAny_call (codeAny_mono (F.run X.A X.stack s H ⟨us, []⟩ _ _ Q E hr I.env0 (hb s us I.kIn lz) rr h) ?_)
  intro r s' hq
  match r, hq with
  | .error e, hq => exact tk e s' (XE.of_call I hW hq)
  | .ok (.ret u), hq => exact I.after hq
  | .ok .next, hq => exact hq.elim
  | .ok .brk, hq => exact hq.elim
  | .ok .cont, hq => exact hq.elim
/-- what a call that may raise asks: a wish E, at these slots within W -/
def tW (W : WX) (sp : Sp) (dvs : List V) (ta : TA) : TE := fun σ H Q => ∃ E : XK, (∀ cls d H', E cls d H' → W cls d σ H') ∧ ta σ H fun vs H1 => sp (vs ++ dvs) H1 Q E
theorem pe_dW (D : DefOk X.prog X.w X.K X.mg X.base (L2.CX X.prog X.w) k x ps dvs sp) (hr : Room k X.A) (tk : Takes X W) (ha : PA X (e :: es) t) (hg : Gl X x := by rfl) (hdb : (x == ("__debug__" : Str)) = false := by decide)
    (he : starEach (e :: es) X.env = (false, eval e X.env) :: starEach es X.env := by rfl) (hpl : (backTo pos (starEach es X.env)).any (·.1) = false := by rfl) :
    PE X (.Call (.Name x p) (e :: es) [] pos) (tW W sp dvs t) := by
  obtain ⟨_, _, _, F, hm, hk, hb, hd⟩ := D.ex
  refine ⟨fun pins s σ H Q I ⟨E, hW, h⟩ => wpAny_Call_Name_kw (ld_glob I hg hm ?_ hdb)⟩
  refine PySem.W.callWith_K (h₀ := X.base) I.ok.mod.kin hk (thn (ha.run pos pins s σ H _ I h) ?_) he hpl
  rintro us s1 ⟨vs, H1, I1, rv, q⟩
  exact ⟨I1.kIn, runW F hr hb hd tk hW I1 rv q⟩
end

/-! ### a raising def, where the top has it -/
section
variable {P : Program} {w : World} {K : PySem.W.Frag} {mg : Str → Option Value} {base : Heap} {x : Str} {st : Stmt} {N ps : List Str} {k : Nat} {sp : Sp}
/-- a def's body where what it raises is wished by E -/
theorem At.okX (a : At K mg x st) (S : FnScope N ps (defScope st)) (bnd : ∀ f fd, FunD K x x (defArgs st) (defBody st) (defScope st) [] [] f fd → Binds K fd ps []) (ln : ∀ vs H Q E, sp vs H Q E → vs.length = ps.length)
    (bd : ∀ (f : Addr) (cdv : Value) (A : Around) (out : List Env) (s : Shared) (H : Hp) (vs : List V) (Q : VK) (E : XK), Room k (A.deeper (envOfC x (defScope st) s.heap.objs.size f cdv)) →
      Takes (cxOf (L2.CX P w) P w K mg base N x (defScope st) f cdv A out s H E) (fun cls d _ H => E cls d H) → sp vs H Q E →
      ∃ t, PSs (cxOf (L2.CX P w) P w K mg base N x (defScope st) f cdv A out s H E) (defBody st) t ∧ t { nx := fun _ H' => Q .non H', rt := Q } (L2.start N vs) H) : DefOk P w K mg base (L2.CX P w) (k + 1) x ps [] sp := by
  obtain ⟨f, fd, F, hm⟩ := a.ex
  have ok : FnOk P w K mg base (L2.CX P w) (k + 1) f fd ps sp := F.ok S ln fun cdv A out s H vs Q E hr h => bd f cdv A out s H vs Q E hr (takes_of rfl rfl rfl rfl) h
  refine ⟨⟨f, fd, [], ok, hm, F.kp, bnd f fd F, .nil⟩, fun f2 fd2 e2 ⟨oc, od, osl, l2⟩ => ?_⟩
  rw [hm] at e2
  cases e2
  obtain ⟨_, _, _, _, _, _, _, _, _, _, rfl, l1, _⟩ := F.ex
  rw [l1] at l2
  cases l2
  exact ⟨ok, F.kp⟩
end

/-! ### lambdas heard -/
section
variable {X : Cx} {pins : List (Addr × Obj)} {σ : L2.St} {H : Hp} {s : Shared}
/-- a(), a the parameter that holds the lambda; Z: the context of the def that got it -/
theorem act_heard {CXg : CXT} {Eg : XK} {Ng : List Str} {qg : Str} {sg : Scope} {g f c' : Addr} {cdg pm ctv : Value} {params : Arguments} {body : Expr} {scope : Scope} {k i : Nat} {a : Str} {pn : List (Addr × Obj)} {xe : Value → Shared → Prop} {W : WX} {tb : XK → TE} {p1 p2 : Pos}
    (I : Inv X pins σ H s) (L : LamS X.env.scope scope) (hf : s.heap.get? f = some (PySem.W.kla_obj "<lambda>" (X.env.qual ++ "<lambda>") params body scope (cloFrom X.env.cells scope.names []) pm c' ctv)) (hfn : H f = none) (hfr : f ∉ frs X.stack)
    (hbind : bindArgs (PySem.W.kla_fn "<lambda>" (X.env.qual ++ "<lambda>") params body scope (cloFrom X.env.cells scope.names []) pm (.ref c') ctv) ⟨[], []⟩ = pure [])
    (tk : Takes ((cxOf CXg X.prog X.w X.K X.mg X.base Ng qg sg g cdg X.A X.stack s H Eg).tr pn xe) W) (hr : Room (k + 1) (X.A.deeper (envOfC qg sg s.heap.objs.size g cdg)))
    (hbody : ∀ (A : Around) (out : List Env) (s : Shared) (H : Hp) (E : XK), Room k (A.deeper (lamEnv X scope s.heap.objs.size f c')) → PE (lamCx X A out s H E scope f c') body (tb E))
    (hN : Ng[i]? = some a) (hv : Vis sg a) (hd : (a == ("__debug__" : Str)) = false) (hcd : (a == ("__classdict__" : Str)) = false) :
    PE ((cxOf CXg X.prog X.w X.K X.mg X.base Ng qg sg g cdg X.A X.stack s H Eg).tr pn xe) (.Call (.Name a p1) [] [] p2)
      (fun σZ HZ Q => σZ[i]? = some (some (.ref f)) ∧ HZ c' = some (CodeO c' (X.env.qual ++ "<lambda>")) ∧ ∃ E : XK, (∀ cls d H', E cls d H' → W cls d σZ H') ∧ tb E σ HZ Q) := by
  refine ⟨fun pz sZ σZ HZ Q IZ ⟨hs, hc, E, hW, ht⟩ => wpAny_Call_Name_kw (thn ((pe_var (pos := p1) (i := i) hN hv hd hcd).run pz sZ σZ HZ (fun v H1 => v = .ref f ∧ H1 = HZ) IZ ⟨.ref f, hs, rfl, rfl⟩) ?_)⟩
  rintro u s1 ⟨v, H1, I1, r1, rfl, rfl⟩
  obtain rfl : u = Value.ref f := r1
  have here := I1.base.keep f _ hf hfn hfr (fun z => nomatch (show f ∈ ([] : List Addr) from z))
  obtain ⟨⟨oc, vs, t, c1, c2, c3⟩, _, _⟩ := I1.hok c' _ hc
  refine PySem.W.callWith_F0 ⟨_, _, _, _, here⟩ (wpAny_call (codeAny_mono (R := CR (L2.CX X.prog X.w) (envOfC qg sg s.heap.objs.size g cdg :: X.stack) X.prog X.w H1 s1 Q E) ?_ fun r s' hq => ?_))
  · refine PySem.W.kla_callFunE hr.depth here rfl L.co L.gen rfl ⟨c', oc, vs, t, rfl, c1, c2, c3⟩ ?_
    refine wpAny_of_eq hbind (wpAny_newFunctionEnv (fun y hy => (L.own y hy).2) (fun y hy => absurd hy (by simp)) (fun h₁ ns sb => ⟨I1.nolimit.fresh _ sb, ?_⟩) L.kind)
    have J := lam_start2 (E := E) (f := f) (c' := c') (tk := s1.toks + ([] : List (Str × Value)).length) I L I1.env0 hr.hd I1.base ns fun b o e => sb.extBut b o (Nat.ne_of_lt (Heap.lt_size e)) (Heap.get?_push_of_some _ e)
    show codeAny _ _ (.expr body (lamEnv X scope s1.heap.objs.size f c')) _ _
    refine PySem.W.kla_codeExpr (wpAny_mono ((hbody _ _ s1 H1 E (hr.deeper _)).run [] _ _ H1 Q J ht) ?_ fun _ _ y => y)
    rintro v s' ⟨u, H', J', rv, q⟩
    exact ⟨u, H', J'.os, J'.bare, J'.base, J'.hok, rv, q⟩
  · match r, hq with
    | .error e, hq => exact tk e s' (XE.of_call I1 hW hq)
    | .ok (.ret u), hq => exact I1.after hq
    | .ok .next, hq => exact hq.elim
    | .ok .brk, hq => exact hq.elim
    | .ok .cont, hq => exact hq.elim
end
/-- the def at g that hears lambdas: what it makes of the lambda's reading tl -/
def Hears (X : Cx) (Ng : List Str) (x : Str) (sg : Scope) (g : Addr) (cdg : Value) (bg : List Stmt) (a : Str) (q : Str) (TT : (XK → Hp → VK → Prop) → Hp → VK → Prop) : Prop :=
  ∀ (f c' : Addr) (s : Shared) (H : Hp) (Q : VK) (tl : XK → Hp → VK → Prop),
    (∀ (W : WX) (pn : List (Addr × Obj)) (xe : Value → Shared → Prop) (p1 p2 : Pos), Takes ((cxOf CX0 X.prog X.w X.K X.mg X.base Ng x sg g cdg X.A X.stack s H E0).tr pn xe) W →
      PE ((cxOf CX0 X.prog X.w X.K X.mg X.base Ng x sg g cdg X.A X.stack s H E0).tr pn xe) (.Call (.Name a p1) [] [] p2)
        (fun σZ HZ Q => σZ[0]? = some (some (.ref f)) ∧ HZ c' = some (CodeO c' q) ∧ ∃ E : XK, (∀ cls d H', E cls d H' → W cls d σZ H') ∧ tl E HZ Q)) →
    H c' = some (CodeO c' q) → TT tl H Q → Room 1 (X.A.deeper (envOfC x sg s.heap.objs.size g cdg)) →
    ∃ t, PSs (cxOf CX0 X.prog X.w X.K X.mg X.base Ng x sg g cdg X.A X.stack s H E0).nox bg t ∧ t { nx := fun _ H' => Q .non H', rt := Q } (L2.start Ng [.ref f]) H
section
variable {X : Cx}
/-- x(lambda: body) -/
theorem pe_heard {T : List (Addr × Str)} {TT : (XK → Hp → VK → Prop) → Hp → VK → Prop} {x a : Str} {st : Stmt} {c P : Addr} {k : Nat} {Ng : List Str}
    {params : Arguments} {body : Expr} {scope : Scope} {t : XK → TE} {p lpos pos : Pos} (at_ : At X.K X.mg x st) (Sg : FnScope Ng [a] (defScope st)) (hNg : Ng[0]? = some a)
    (hbg : ∀ (dV kV doc pm : Value) (an : Option Addr) (cdv ct u : Value), bindArgs (PySem.W.fnOf x x (defArgs st) (defBody st) (defScope st) .none kV doc pm an cdv ct) ⟨[u], []⟩ = pure [(a, u)])
    (hG : ∀ g cdg, Hears X Ng x (defScope st) g cdg (defBody st) a (X.env.qual ++ "<lambda>") TT)
    (TB : TabB X.base X.mg c P) (hcode : X.env.code = .ref c) (hmT : (P, X.env.qual ++ "<lambda>") ∈ T) (hu : ∀ p ∈ T, p.1 = P → p.2 = X.env.qual ++ "<lambda>") (hr : Room (k + 2) X.A) (L : LamS X.env.scope scope) (hg : Gl X x := by rfl) (hdef : defaultsOf params X.env = ([], []) := by rfl)
    (hbind : ∀ (q : Str) (cl : List (Str × Addr)) (pm cv ctv : Value), bindArgs (PySem.W.kla_fn "<lambda>" q params body scope cl pm cv ctv) ⟨[], []⟩ = pure [] := by intros; rfl)
    (hbody : ∀ (A : Around) (out : List Env) (s : Shared) (H : Hp) (E : XK) (f c' : Addr), Room k (A.deeper (lamEnv X scope s.heap.objs.size f c')) → PE (lamCx X A out s H E scope f c') body (t E))
    (hdb : (x == ("__debug__" : Str)) = false := by decide) (hd : (a == ("__debug__" : Str)) = false := by decide) (hcd : (a == ("__classdict__" : Str)) = false := by decide) :
    PE X (.Call (.Name x p) [.Lambda params body scope lpos] [] pos) (tLam T TT t) := by
  obtain ⟨g, fd, F, hm⟩ := at_.ex
  obtain ⟨oc, od, dV, kV, doc, pm, an, cdv, ct, osl, rfl, lk, hcg, hD, _⟩ := F.ex
  obtain ⟨_, rfl⟩ | ⟨e, _⟩ := hD
  rotate_left
  · exact absurd rfl e
  have lv : (defScope st).names.lookup a = some .local ∨ (defScope st).names.lookup a = some .cell := Sg.par a List.mem_cons_self
  have hva : Vis (defScope st) a := lv.elim .inl fun z => .inr (.inl z)
  refine ⟨fun pins s σ H Q I ⟨hT, h⟩ => wpAny_Call_Name_kw (ld_glob I hg hm ?_ hdb)⟩
  refine PySem.W.callWith_K (h₀ := X.base) I.ok.mod.kin F.kp ?_ (by rfl) (by rfl)
  show wpAny _ _ (spliced ((false, eval (.Lambda params body scope lpos) X.env) :: backTo pos (starEach [] X.env))) _ _ s
  refine Calls.spliced_cons (lam_make2 I TB hcode hmT hu hT hdef (L.has I.ok) fun f c' pm' ctv H1 s' I1 eN T1 hf hfn hfr hco => ?_)
  refine Calls.spliced_nil ⟨I1.kIn, wpAny_call (codeAny_mono (R := CR CX0 X.stack X.prog X.w H1 s' Q E0) ?_ fun r s2 hq => ?_)⟩
  · refine run_ofS (N := Ng) (ps := [a]) (us := [.ref f]) (vs := [.ref f]) lk hcg Sg hr I1.env0 (.of_eq (hbg .none kV doc pm an cdv ct (.ref f))) (.cons rfl .nil) rfl fun hr' => ?_
    obtain ⟨t', ht', hq'⟩ := hG g cdv f c' s' H1 Q (fun E H' Q' => t E σ H' Q') (fun W pn xe p1 p2 tk => act_heard (i := 0) I1 L hf hfn hfr (hbind _ _ _ _ _) tk hr' (fun A out s H E hr2 => hbody A out s H E f c' hr2) hNg hva hd hcd) hco (h H1 eN T1) (hr'.mono (by omega))
    exact ⟨t', ht'.nox, hq'⟩
  · match r, hq with
    | .error e, hq => exact (show False from hq).elim
    | .ok (.ret u), hq => exact I1.after hq
    | .ok .next, hq => exact hq.elim
    | .ok .brk, hq => exact hq.elim
    | .ok .cont, hq => exact hq.elim
end
end Gs

set_option maxRecDepth 100000
set_option maxHeartbeats 4000000
/-! fractions: the class Ratio's facts, its values, what is told of any value beside them -/
namespace Gs
open PySem PySem.Spec PyProof.Rows L2

theorem op_fdivX {X : Cx} : OpR X (binaryOp .FloorDiv) (rI (fun _ j => j ≠ 0 ∧ j.natAbs.log2 < 9000) fun i j => .int (i.fdiv j)) := opI fun i j _ _ _ _ _ hc q => floordiv_int hc.1 q (.inl (PyProof.noPylong_of_log2 hc.2))

/-! ### functions at addresses (methods, static ones) -/
structure AtF (K : PySem.W.Frag) (f : Addr) (x qual : Str) (st : Stmt) (dvs : List V) : Prop where
  ex : ∃ fd, FunD K x qual (defArgs st) (defBody st) (defScope st) dvs [] f fd
structure FunOk (P : Program) (w : World) (K : PySem.W.Frag) (mg : Str → Option Value) (base : Heap) (CX : CXT) (k : Nat) (f : Addr) (ps : List Str) (dvs : List V) (sp : Sp) : Prop where
  ex : ∃ fd ds, FnOk P w K mg base CX k f fd ps sp ∧ Binds K fd ps ds ∧ Vals dvs ds
  lk : ∀ fd, (∃ oc od osl, K.lookup f = some ⟨oc, od, .func fd, osl⟩) → FnOk P w K mg base CX k f fd ps sp
  kp : PySem.W.keepIn K (.ref f) = true
section
variable {P : Program} {w : World} {K : PySem.W.Frag} {mg : Str → Option Value} {base : Heap} {x qual : Str} {st : Stmt} {N ps : List Str} {k : Nat} {sp : Sp} {f : Addr} {dvs dv : List V}
theorem AtF.okX (a : AtF K f x qual st dv) (S : FnScope N ps (defScope st)) (bnd : ∀ fd, FunD K x qual (defArgs st) (defBody st) (defScope st) dv [] f fd → ∃ ds, Vals dvs ds ∧ Binds K fd ps ds) (ln : ∀ vs H Q E, sp vs H Q E → vs.length = ps.length)
    (bd : ∀ (cdv : Value) (A : Around) (out : List Env) (s : Shared) (H : Hp) (vs : List V) (Q : VK) (E : XK), Room k (A.deeper (envOfC qual (defScope st) s.heap.objs.size f cdv)) →
      Takes (cxOf (L2.CX P w) P w K mg base N qual (defScope st) f cdv A out s H E) (fun cls d _ H => E cls d H) → sp vs H Q E →
      ∃ t, PSs (cxOf (L2.CX P w) P w K mg base N qual (defScope st) f cdv A out s H E) (defBody st) t ∧ t { nx := fun _ H' => Q .non H', rt := Q } (L2.start N vs) H) : FunOk P w K mg base (L2.CX P w) (k + 1) f ps dvs sp := by
  obtain ⟨fd, F⟩ := a.ex
  have ok : FnOk P w K mg base (L2.CX P w) (k + 1) f fd ps sp := F.ok S ln fun cdv A out s H vs Q E hr h => bd cdv A out s H vs Q E hr (takes_of rfl rfl rfl rfl) h
  obtain ⟨ds, hd, hb⟩ := bnd fd F
  refine ⟨⟨fd, ds, ok, hb, hd⟩, fun fd2 ⟨oc, od, osl, l2⟩ => ?_, F.kp⟩
  obtain ⟨_, _, _, _, _, _, _, _, _, _, rfl, l1, _⟩ := F.ex
  rw [l1] at l2
  cases l2
  exact ok
theorem AtF.ok0 (a : AtF K f x qual st dv) (S : FnScope N ps (defScope st)) (bnd : ∀ fd, FunD K x qual (defArgs st) (defBody st) (defScope st) dv [] f fd → ∃ ds, Vals dvs ds ∧ Binds K fd ps ds) (ln : ∀ vs H Q E, sp vs H Q E → vs.length = ps.length)
    (bd : ∀ (cdv : Value) (A : Around) (out : List Env) (s : Shared) (H : Hp) (vs : List V) (Q : VK) (E : XK), Room k (A.deeper (envOfC qual (defScope st) s.heap.objs.size f cdv)) → sp vs H Q E →
      ∃ t, PSs (cxOf CX0 P w K mg base N qual (defScope st) f cdv A out s H E).nox (defBody st) t ∧ t { nx := fun _ H' => Q .non H', rt := Q } (L2.start N vs) H) : FunOk P w K mg base CX0 (k + 1) f ps dvs sp := by
  obtain ⟨fd, F⟩ := a.ex
  have ok : FnOk P w K mg base CX0 (k + 1) f fd ps sp := F.ok S ln fun cdv A out s H vs Q E hr h =>
    let ⟨t, h1, h2⟩ := bd cdv A out s H vs Q E hr h
    ⟨t, h1.nox, h2⟩
  obtain ⟨ds, hd, hb⟩ := bnd fd F
  refine ⟨⟨fd, ds, ok, hb, hd⟩, fun fd2 ⟨oc, od, osl, l2⟩ => ?_, F.kp⟩
  obtain ⟨_, _, _, _, _, _, _, _, _, _, rfl, l1, _⟩ := F.ex
  rw [l1] at l2
  cases l2
  exact ok
end

/-! ### static methods of a class -/
structure StM (K : PySem.W.Frag) (C : Addr) (m : Str) (g : Addr) : Prop where
  ga : PySem.W.specialIn K (.ref C) "__getattribute__" = some (some (.builtin "type.__getattribute__"))
  rd : PySem.W.readsIn K C (.type "type") = true
  at_ : ∃ p rest, PySem.W.findCls K (.ref C) (.type "type") m = some (.get (.builtin "staticmethod.__get__") (.ref p) .none (.ref C)) ∧ PySem.W.recIn K p "staticmethod" = some (.ref g :: rest)
section
variable {X : Cx} {CX : CXT} {k : Nat} {ps : List Str} {sp : Sp} {dvs : List V} {E : XK} {m : Str} {C g : Addr} {p pos apos : Pos} {o e : Expr} {es : List Expr} {to : TE} {t : TA}
/-- C.m(e, ..), m a static method -/
def tStM (C : Addr) (sp : Sp) (dvs : List V) (E : XK) (to : TE) (t : TA) : TE := fun σ H Q => to σ H fun x H1 => x = .ref C ∧ t σ H1 fun vs H2 => sp (vs ++ dvs) H2 Q E
theorem pe_sm (D : FunOk X.prog X.w X.K X.mg X.base CX k g ps dvs sp) (M : StM X.K C m g) (hr : Room k X.A) (hx : Passes CX X E) (ho : PE X o to) (ha : PA X (e :: es) t)
    (hb : attributeBase o m X.env (eval o X.env) = eval o X.env := by rfl) (hl : (apos.endLine == pos.line) = true := by rfl)
    (hf : methodCallForm ((e :: es).length + ([] : List Keyword).length) (backTo pos (starEach (e :: es) X.env)) (backToKw pos (keywordEach [] X.env)) = true := by rfl)
    (he : starEach (e :: es) X.env = (false, eval e X.env) :: starEach es X.env := by rfl) (hpl : (backTo pos (starEach es X.env)).any (·.1) = false := by rfl) :
    PE X (.Call (.Attribute o m apos) (e :: es) [] pos) (tStM C sp dvs E to t) := by
  obtain ⟨fd, ds, F, hbn, hd⟩ := D.ex
  obtain ⟨q, rest, h1, h2⟩ := M.at_
  refine ⟨fun pins s σ H Q I h => ?_⟩
  show wpAny _ _ (do let ov ← attributeBase o m X.env (eval o X.env); standAt apos.atName; methodCall o m apos pos X.env ov ((e :: es).length + ([] : List Keyword).length) (backTo pos (starEach (e :: es) X.env)) (backToKw pos (keywordEach [] X.env))) _ _ _
  rw [hb]
  refine wpAny_bind (thn (ho.run pins s σ H _ I h) fun u s1 ⟨x, H1, I1, r1, ex, h3⟩ => ?_)
  subst ex
  obtain rfl : u = Value.ref C := r1
  rw [mcall_line hf hl]
  refine wpAny_bind (wpAny_standAt (wpAny_bind (wpAny_holding (PySem.W.method_cls I1.kIn M.ga (PySem.W.cls_bind I1.kIn M.rd h1 ?_)))))
  refine wpAny_call (PySem.W.sm_get (s := { s1 with toks := s1.toks + 1 }) I1.kIn h2 (PySem.W.handed_on rfl ?_))
  refine PySem.W.callWith_K (h₀ := X.base) I1.ok.mod.kin D.kp (thn (ha.run pos pins _ σ H1 _ (I1.tok _) h3) fun us s2 ⟨vs, H2, I2, r2, h4⟩ => ⟨I2.kIn, ?_⟩) he hpl
  have rr := r2.append hd
  have lz : (us ++ ds).length = ps.length := rr.length ▸ F.len _ _ _ _ h4
  refine wpAny_call (codeAny_mono (F.run X.A X.stack s2 H2 ⟨us, []⟩ _ _ Q E hr I2.env0 (hbn s2 us I2.kIn lz) rr h4) ?_)
  intro r s' hq
  match r, hq with
  | .error e, hq => exact hx pins σ H2 s2 e s' I2 hq
  | .ok (.ret u), hq => exact I2.after hq
  | .ok .next, hq => exact hq.elim
  | .ok .brk, hq => exact hq.elim
  | .ok .cont, hq => exact hq.elim
end

/-! ### the class Ratio -/
structure RatF (K : PySem.W.Frag) (C : Addr) : Prop where
  cls : Cls K C
  over : NoAttr K C "over"
  under : NoAttr K C "under"
  ha : PySem.W.findIn K (.ref C) "__class__" = some (some (.builtin "object.__class__"))
  hn : PySem.W.specialIn K (.builtin "object.__class__") "__get__" = some (some (.builtin "getset_descriptor.__get__"))
  htk : PySem.W.takesIn K (.builtin "object.__class__") = some true
  hm : PySem.W.mroIn K C (.type "object") = some true
  no : ∀ c ∈ (["int", "bool", "str", "list", "tuple", "dict"] : List String), PySem.W.kitOne K (.ref C) (.type c) = some false
  self : PySem.W.kitOne K (.ref C) (.ref C) = some true
  un : ∀ c ∈ (["NoneType", "bool", "int", "str", "list", "tuple", "dict"] : List String), PySem.W.kitOne K (.type c) (.ref C) = some false
def ratB (K : PySem.W.Frag) (C : Addr) : Bool :=
  (PySem.W.plainGet K C Str.empty && (PySem.W.hasDictIn K C && (PySem.W.plainOver K C && He.eqO (PySem.W.findIn K (.ref C) "__setattr__") (some (some (.builtin "object.__setattr__")))))) &&
  (He.eqO (PySem.W.findIn K (.ref C) "over") (some none) && (He.eqO (PySem.W.findIn K (.ref C) "under") (some none) && (decide (PySem.W.findIn K (.ref C) "__class__" = some (some (.builtin "object.__class__"))) &&
  (decide (PySem.W.specialIn K (.builtin "object.__class__") "__get__" = some (some (.builtin "getset_descriptor.__get__"))) && (decide (PySem.W.takesIn K (.builtin "object.__class__") = some true) && (decide (PySem.W.mroIn K C (.type "object") = some true) &&
  ((["int", "bool", "str", "list", "tuple", "dict"] : List String).all (fun c => decide (PySem.W.kitOne K (.ref C) (.type c) = some false)) && (decide (PySem.W.kitOne K (.ref C) (.ref C) = some true) &&
  (["NoneType", "bool", "int", "str", "list", "tuple", "dict"] : List String).all (fun c => decide (PySem.W.kitOne K (.type c) (.ref C) = some false))))))))))
theorem ratB_ok {K : PySem.W.Frag} {C : Addr} (h : ratB K C = true) : RatF K C := by
  obtain ⟨h1, h⟩ := He.ba h
  obtain ⟨h2, h⟩ := He.ba h
  obtain ⟨h3, h⟩ := He.ba h
  obtain ⟨h4, h⟩ := He.ba h
  obtain ⟨h5, h⟩ := He.ba h
  obtain ⟨h6, h⟩ := He.ba h
  obtain ⟨h7, h⟩ := He.ba h
  obtain ⟨h8, h⟩ := He.ba h
  obtain ⟨h9, h10⟩ := He.ba h
  obtain ⟨c1, c⟩ := He.ba h1
  obtain ⟨c2, c⟩ := He.ba c
  obtain ⟨c3, c4⟩ := He.ba c
  exact ⟨⟨c1, c2, c3, He.eqO_ok c4⟩, He.eqO_ok h2, He.eqO_ok h3, of_decide_eq_true h4, of_decide_eq_true h5, of_decide_eq_true h6, of_decide_eq_true h7, fun c hc => of_decide_eq_true (List.all_eq_true.mp h8 c hc), of_decide_eq_true h9,
    fun c hc => of_decide_eq_true (List.all_eq_true.mp h10 c hc)⟩

/-- the fraction n / d at a -/
def Rat (C : Addr) (H : Hp) (a : Addr) (n d : Int) : Prop := ∃ dx, H a = some (.ins C dx [("over", .int n), ("under", .int d)])
theorem Rat.ext {C : Addr} {H H' : Hp} {a : Addr} {n d : Int} (r : Rat C H a n d) (e : Ext H H') : Rat C H' a n d :=
  let ⟨dx, h⟩ := r
  ⟨dx, e _ _ h⟩
def vRat (C : Addr) (H : Hp) : V → Bool
  | .ref a => (match H a with
    | some (.ins D _ _) => decide (D = C)
    | _ => false)
  | _ => false
theorem vRat_ref (C : Addr) (H : Hp) (a : Addr) : vRat C H (.ref a) = (match H a with
    | some (.ins D _ _) => decide (D = C)
    | _ => false) := rfl
/-- isinstance's answer about a value -/
def Kit (K : PySem.W.Frag) (H : Hp) (v : V) (c : Value) (b : Bool) : Prop := ∃ t, TyX K H v t ∧ PySem.W.kitOne K t c = some b
/-- any value that the laws draw, a fraction perhaps -/
def OddX (K : PySem.W.Frag) (C : Addr) (H : Hp) (v : V) : Prop := Odd K H v ∧ Kit K H v (.ref C) (vRat C H v)
section
variable {K : PySem.W.Frag} {C : Addr} {H : Hp}
theorem Rat.ty (F : RatF K C) {a : Addr} {n d : Int} (r : Rat C H a n d) : TyX K H (.ref a) (.ref C) := by
  obtain ⟨dx, h⟩ := r
  exact .base (.ins h F.cls F.ha F.hn F.htk F.hm)
theorem Rat.is (C : Addr) {a : Addr} {n d : Int} (r : Rat C H a n d) : vRat C H (.ref a) = true := by
  obtain ⟨dx, h⟩ := r
  rw [vRat_ref, h]
  exact decide_eq_true rfl
theorem Rat.odd (F : RatF K C) {a : Addr} {n d : Int} (r : Rat C H a n d) : OddX K C H (.ref a) :=
  ⟨⟨_, r.ty F, F.no "int" (by decide), F.no "bool" (by decide), F.no "str" (by decide)⟩, _, r.ty F, by rw [r.is]; exact F.self⟩
theorem oddX_non (F : RatF K C) : OddX K C H .non := ⟨trivial, _, .base .non, F.un "NoneType" (by decide)⟩
theorem oddX_bl (F : RatF K C) (b : Bool) : OddX K C H (.bl b) := ⟨trivial, _, .base (.bl b), F.un "bool" (by decide)⟩
theorem oddX_int (F : RatF K C) (i : Int) : OddX K C H (.int i) := ⟨trivial, _, .base (.int i), F.un "int" (by decide)⟩
theorem oddX_str (F : RatF K C) (x : Str) : OddX K C H (.str x) := ⟨trivial, _, .base (.str x), F.un "str" (by decide)⟩
theorem oddX_lst (F : RatF K C) {a : Addr} {xs : List V} (h : H a = some (.lst xs)) : OddX K C H (.ref a) := ⟨odd_lst h, _, .base (.lst h), by rw [vRat_ref, h]; exact F.un "list" (by decide)⟩
theorem oddX_tup (F : RatF K C) {a : Addr} {xs : List V} (h : H a = some (.tup xs)) : OddX K C H (.ref a) := ⟨odd_tup h, _, .base (.tup h), by rw [vRat_ref, h]; exact F.un "tuple" (by decide)⟩
theorem oddX_dK (F : RatF K C) {a : Addr} {xs : List (Key × V)} (h : H a = some (.dK xs)) : OddX K C H (.ref a) := ⟨odd_dK h, _, .base (.dK h), by rw [vRat_ref, h]; exact F.un "dict" (by decide)⟩
end

/-- any value that the laws draw -/
inductive AnyV (K : PySem.W.Frag) (C : Addr) (H : Hp) : V → Prop where
  | non : AnyV K C H .non
  | bl (b : Bool) : AnyV K C H (.bl b)
  | int (i : Int) : AnyV K C H (.int i)
  | str (x : Str) : AnyV K C H (.str x)
  | lst {a : Addr} {xs : List V} (h : H a = some (.lst xs)) : AnyV K C H (.ref a)
  | tup {a : Addr} {xs : List V} (h : H a = some (.tup xs)) : AnyV K C H (.ref a)
  | dK {a : Addr} {xs : List (Key × V)} (h : H a = some (.dK xs)) : AnyV K C H (.ref a)
  | rat {a : Addr} {n d : Int} (h : Rat C H a n d) : AnyV K C H (.ref a)
  | oth {a : Addr} {u : HO} (h : H a = some u) (t : Value) (ty : ∀ H' : Hp, H' a = some u → TyX K H' (.ref a) t) (no : ∀ c ∈ (["int", "bool", "str", "list", "tuple", "dict"] : List String), PySem.W.kitOne K t (.type c) = some false)
      (nr : PySem.W.kitOne K t (.ref C) = some false) (ni : ∀ D dx fs, u = .ins D dx fs → D ≠ C) (nl : (∀ xs, u ≠ .lst xs) ∧ (∀ xs, u ≠ .tup xs) ∧ ∀ ps, u ≠ .tbl ps) : AnyV K C H (.ref a)
theorem AnyV.ext {K : PySem.W.Frag} {C : Addr} {H H' : Hp} {v : V} (h : AnyV K C H v) (e : Ext H H') : AnyV K C H' v := by
  cases h with
  | non => exact .non
  | bl b => exact .bl b
  | int i => exact .int i
  | str x => exact .str x
  | lst h => exact .lst (e _ _ h)
  | tup h => exact .tup (e _ _ h)
  | dK h => exact .dK (e _ _ h)
  | rat h => exact .rat (h.ext e)
  | oth h t ty no nr ni nl => exact .oth (e _ _ h) t ty no nr ni nl
theorem AnyV.odd {K : PySem.W.Frag} {C : Addr} {H : Hp} {v : V} (F : RatF K C) (h : AnyV K C H v) : OddX K C H v := by
  cases h with
  | non => exact oddX_non F
  | bl b => exact oddX_bl F b
  | int i => exact oddX_int F i
  | str x => exact oddX_str F x
  | lst h => exact oddX_lst F h
  | tup h => exact oddX_tup F h
  | dK h => exact oddX_dK F h
  | rat h => exact h.odd F
  | @oth a u h t ty no nr ni nl =>
    refine ⟨⟨t, ty H h, no "int" (by decide), no "bool" (by decide), no "str" (by decide)⟩, t, ty H h, ?_⟩
    have : vRat C H (.ref a) = false := by
      rw [vRat_ref, h]
      cases u with
      | ins D dx fs => exact decide_eq_false (ni D dx fs rfl)
      | _ => rfl
    rw [this]
    exact nr
theorem AnyV.vrat {K : PySem.W.Frag} {C : Addr} {H H' : Hp} {v : V} (h : AnyV K C H v) (e : Ext H H') : vRat C H' v = vRat C H v := by
  cases h with
  | non => rfl
  | bl b => rfl
  | int i => rfl
  | str x => rfl
  | lst h => rw [vRat_ref, vRat_ref, h, e _ _ h]
  | tup h => rw [vRat_ref, vRat_ref, h, e _ _ h]
  | dK h => rw [vRat_ref, vRat_ref, h, e _ _ h]
  | rat h => rw [h.is, (h.ext e).is]
  | oth h => rw [vRat_ref, vRat_ref, h, e _ _ h]
/-- a list or a tuple of these -/
def SeqOf (H : Hp) (v : V) (xs : List V) : Prop := ∃ l, v = .ref l ∧ (H l = some (.lst xs) ∨ H l = some (.tup xs))
def vSeq (H : Hp) : V → Bool
  | .ref a => (match H a with
    | some (.lst _) => true
    | some (.tup _) => true
    | _ => false)
  | _ => false
theorem vSeq_ref (H : Hp) (a : Addr) : vSeq H (.ref a) = (match H a with
    | some (.lst _) => true
    | some (.tup _) => true
    | _ => false) := rfl
theorem vSeq_ok {H : Hp} {v : V} (h : vSeq H v = true) : ∃ xs, SeqOf H v xs := by
  cases v with
  | ref a =>
    rw [vSeq_ref] at h
    cases e : H a with
    | none =>
      rw [e] at h
      cases h
    | some u =>
      rw [e] at h
      cases u with
      | lst xs => exact ⟨xs, a, rfl, .inl e⟩
      | tup xs => exact ⟨xs, a, rfl, .inr e⟩
      | _ => cases h
  | _ => cases h
theorem SeqOf.is {H : Hp} {v : V} {xs : List V} (h : SeqOf H v xs) : vSeq H v = true := by
  obtain ⟨l, rfl, e | e⟩ := h <;> rw [vSeq_ref, e]
theorem SeqOf.ext {H H' : Hp} {v : V} {xs : List V} (h : SeqOf H v xs) (e : Ext H H') : SeqOf H' v xs := by
  obtain ⟨l, rfl, z | z⟩ := h
  · exact ⟨l, rfl, .inl (e _ _ z)⟩
  · exact ⟨l, rfl, .inr (e _ _ z)⟩
theorem SeqOf.inj {H : Hp} {v : V} {xs ys : List V} (h : SeqOf H v xs) (h' : SeqOf H v ys) : xs = ys := by
  obtain ⟨l, rfl, z⟩ := h
  obtain ⟨l', e, z'⟩ := h'
  cases e
  rcases z with z | z <;> rcases z' with z' | z' <;> rw [z] at z' <;> cases z' <;> rfl
theorem AnyV.known {K : PySem.W.Frag} {C : Addr} {H : Hp} {a : Addr} (h : AnyV K C H (.ref a)) : ∃ u, H a = some u := by
  cases h with
  | lst h => exact ⟨_, h⟩
  | tup h => exact ⟨_, h⟩
  | dK h => exact ⟨_, h⟩
  | rat h => exact let ⟨dx, e⟩ := h; ⟨_, e⟩
  | oth h => exact ⟨_, h⟩
theorem AnyV.back {K : PySem.W.Frag} {C : Addr} {H H' : Hp} {v : V} {xs : List V} (h : AnyV K C H v) (e : Ext H H') (q : SeqOf H' v xs) : SeqOf H v xs := by
  obtain ⟨l, rfl, z⟩ := q
  obtain ⟨u, hu⟩ := h.known
  have := e _ _ hu
  refine ⟨l, rfl, ?_⟩
  rcases z with z | z
  · rw [this] at z
    cases z
    exact .inl hu
  · rw [this] at z
    cases z
    exact .inr hu
theorem SeqOf.len {K : PySem.W.Frag} {H : Hp} {v : V} {xs : List V} (q : SeqOf H v xs) : LenV K v H xs.length := by
  obtain ⟨l, rfl, z | z⟩ := q
  · exact .inl ⟨xs, SqL.of z, rfl⟩
  · exact .inr ⟨xs, .inl (.inl z), rfl⟩
theorem AnyV.seq {K : PySem.W.Frag} {C : Addr} {H : Hp} {v : V} (F : RatF K C) (h : AnyV K C H v) : ∃ t, TyX K H v t ∧ PySem.W.kitAny K t [.type "list", .type "tuple"] = some (vSeq H v) := by
  have two : ∀ {t : Value} {a b : Bool}, PySem.W.kitOne K t (.type "list") = some a → PySem.W.kitOne K t (.type "tuple") = some b → PySem.W.kitAny K t [.type "list", .type "tuple"] = some (a || b) := fun {t a b} h1 h2 => by
    refine kitAny_cons h1 (fun z => ?_) fun z => by rw [z]; rfl
    refine kitAny_cons h2 (fun y => ?_) fun y => by rw [y, Bool.or_true]
    rw [z, y]
    exact kitAny_nil
  cases h with
  | non => exact ⟨_, .base .non, two (kit_ty (r := false) (by decide +kernel)) (kit_ty (r := false) (by decide +kernel))⟩
  | bl b => exact ⟨_, .base (.bl b), two (kit_ty (r := false) (by decide +kernel)) (kit_ty (r := false) (by decide +kernel))⟩
  | int i => exact ⟨_, .base (.int i), two (kit_ty (r := false) (by decide +kernel)) (kit_ty (r := false) (by decide +kernel))⟩
  | str x => exact ⟨_, .base (.str x), two (kit_ty (r := false) (by decide +kernel)) (kit_ty (r := false) (by decide +kernel))⟩
  | lst h => exact ⟨_, .base (.lst h), by rw [vSeq_ref, h]; exact two (b := false) (kit_ty (r := true) (by decide +kernel)) (kit_ty (r := false) (by decide +kernel))⟩
  | tup h => exact ⟨_, .base (.tup h), by rw [vSeq_ref, h]; exact two (a := false) (kit_ty (r := false) (by decide +kernel)) (kit_ty (r := true) (by decide +kernel))⟩
  | dK h => exact ⟨_, .base (.dK h), by rw [vSeq_ref, h]; exact two (a := false) (b := false) (kit_ty (by decide +kernel)) (kit_ty (by decide +kernel))⟩
  | rat h =>
    obtain ⟨dx, e⟩ := id h
    exact ⟨_, h.ty F, by rw [vSeq_ref, e]; exact two (a := false) (b := false) (F.no "list" (by decide)) (F.no "tuple" (by decide))⟩
  | @oth a u h t ty no nr ni nl =>
    refine ⟨t, ty H h, ?_⟩
    have : vSeq H (.ref a) = false := by
      rw [vSeq_ref, h]
      cases u with
      | lst xs => exact absurd rfl (nl.1 xs)
      | tup xs => exact absurd rfl (nl.2.1 xs)
      | _ => rfl
    rw [this]
    exact two (a := false) (b := false) (no "list" (by decide)) (no "tuple" (by decide))

section
variable {X : Cx} {CX : CXT} {k : Nat} {ps : List Str} {sp : Sp} {dvs : List V} {E : XK} {x : Str} {C f : Addr} {p pos : Pos} {e : Expr} {es : List Expr} {t : TA} {tg : Expr} {w1 w2 : TI}
theorem pe_mkF (M : Mk X.K C f) (hm : X.mg x = some (.ref C)) (D : FunOk X.prog X.w X.K X.mg X.base CX k f ps dvs sp) (hr : Room (k + 1) X.A) (hx : Passes CX X E) (ha : PA X (e :: es) t) (hg : Gl X x := by rfl) (hdb : (x == ("__debug__" : Str)) = false := by decide)
    (he : starEach (e :: es) X.env = (false, eval e X.env) :: starEach es X.env := by rfl) (hpl : (backTo pos (starEach es X.env)).any (·.1) = false := by rfl) : PE X (.Call (.Name x p) (e :: es) [] pos) (tMake C sp dvs E t) := by
  obtain ⟨fd, ds, F, hb, hd⟩ := D.ex
  exact pe_make M F hr hg hm hb hd hx ha hdb he hpl
theorem pi_or (h1 : PI X tg e w1) (h2 : PI X tg e w2) : PI X tg e (fun σ H R => w1 σ H R ∨ w2 σ H R) :=
  ⟨fun pins s σ H R I h => h.elim (fun h => h1.run pins s σ H R I h) fun h => h2.run pins s σ H R I h⟩
end

/-! ### what the functions promise -/
def isI : V → Bool
  | .int _ => true
  | _ => false
theorem isI_kits (v : V) : isI v = (vInt v && !vBool v) := by cases v <;> rfl
theorem isI_int {v : V} (h : isI v = true) : ∃ i, v = .int i := by
  cases v with
  | int i => exact ⟨i, rfl⟩
  | _ => cases h
/-- the divisor with the sign of j -/
def rG (i j : Int) : Int := if j < 0 then -(Int.gcd i j : Int) else (Int.gcd i j : Int)
def rN (i j : Int) : Int := i.fdiv (rG i j)
def rD (i j : Int) : Int := j.fdiv (rG i j)
/-- a BadRatio of v is wished -/
def BadV (CB : Addr) (H : Hp) (E : XK) (v : V) : Prop := ∀ d H', Ext H H' → H d = none → H' d = some (.xd [("value", v)]) → E (.ref CB) (some d) H'
theorem BadV.up {CB : Addr} {H H1 : Hp} {E : XK} {v : V} (b : BadV CB H E v) (e : Ext H H1) : BadV CB H1 E v := fun d H' e' n h => b d H' (e.trans e') (by
  cases z : H d with
  | none => rfl
  | some u =>
    rw [e _ _ z] at n
    cases n) h
/-- a new fraction n / d is wished -/
def Made (C : Addr) (H : Hp) (n d : Int) (Q : VK) : Prop := ∀ a H', Ext H H' → H a = none → Rat C H' a n d → Q (.ref a) H'
theorem Made.up {C : Addr} {H H1 : Hp} {n d : Int} {Q : VK} (b : Made C H n d Q) (e : Ext H H1) : Made C H1 n d Q := fun a H' e' m h => b a H' (e.trans e') (by
  cases z : H a with
  | none => rfl
  | some u =>
    rw [e _ _ z] at m
    cases m) h
def spIsI (K : PySem.W.Frag) : Sp := fun vs H Q _ => ∃ v, vs = [v] ∧ Odd K H v ∧ Q (.bl (isI v)) H
def spGcd : Sp := fun vs H Q _ => ∃ a b : Int, vs = [.int a, .int b] ∧ 0 ≤ a ∧ 0 ≤ b ∧ Q (.int (Int.gcd a b)) H
def spInit (K : PySem.W.Frag) (C CB : Addr) : Sp := fun vs H Q E => ∃ a dx x y, vs = [.ref a, x, y] ∧ H a = some (.ins C dx []) ∧ Odd K H x ∧ Odd K H y ∧ (isI x = false → BadV CB H E x) ∧
  (isI x = true → (isI y = false ∨ y = .int 0) → BadV CB H E y) ∧
  ∀ i j, x = .int i → y = .int j → j ≠ 0 → j.natAbs.log2 < 8999 ∧ Q .non (upd H a (.ins C dx [("over", .int (rN i j)), ("under", .int (rD i j))]))
/-- what told_of makes of a value -/
def Told (K : PySem.W.Frag) (C CB : Addr) (H : Hp) (v : V) (Q : VK) (E : XK) : Prop := AnyV K C H v ∧ (vRat C H v = true → ∀ H', Ext H H' → Q v H') ∧ (vRat C H v = false → isI v = false → BadV CB H E v) ∧ ∀ i, v = .int i → Made C H i 1 Q
theorem Told.up {K : PySem.W.Frag} {C CB : Addr} {H H1 : Hp} {v : V} {Q : VK} {E : XK} (h : Told K C CB H v Q E) (e : Ext H H1) : Told K C CB H1 v Q E := by
  obtain ⟨a, b, c, d⟩ := h
  refine ⟨a.ext e, fun z H' e' => b (by rw [← a.vrat e]; exact z) H' (e.trans e'), fun z i => (c (by rw [← a.vrat e]; exact z) i).up e, fun i z => (d i z).up e⟩
def spTold (K : PySem.W.Frag) (C CB : Addr) : Sp := fun vs H Q E => ∃ v, vs = [v] ∧ Told K C CB H v Q E
def spFirst (K : PySem.W.Frag) (C CB : Addr) : Sp := fun vs H Q E => ∃ v, vs = [v] ∧ AnyV K C H v ∧ (∀ x xs, SeqOf H v (x :: xs) → Told K C CB H x Q E) ∧ ((∀ x xs, ¬ SeqOf H v (x :: xs)) → BadV CB H E v)
def spLess (C : Addr) : Sp := fun vs H Q _ => ∃ a b n d n' d', vs = [.ref a, .ref b] ∧ Rat C H a n d ∧ Rat C H b n' d' ∧ CMulW n d' ∧ CMulW n' d ∧ Q (.bl (decide (n * d' < n' * d))) H

/-! ### Euclid -/
theorem gcd_step {a b : Int} (ha : 0 ≤ a) (hb : 0 < b) : Int.gcd b (a % b) = Int.gcd a b := by
  obtain ⟨m, rfl⟩ := Int.eq_ofNat_of_zero_le ha
  obtain ⟨n, rfl⟩ := Int.eq_ofNat_of_zero_le (Int.le_of_lt hb)
  show Nat.gcd n (((m : Int) % (n : Int)).natAbs) = Nat.gcd m n
  have e : ((m : Int) % (n : Int)).natAbs = m % n := by rw [← Int.natCast_emod, Int.natAbs_natCast]
  rw [e, Nat.gcd_comm n, ← Nat.gcd_rec, Nat.gcd_comm]
theorem rG_ok (i : Int) {j : Int} (h : j ≠ 0) : rG i j ≠ 0 := by
  have : Int.gcd i j ≠ 0 := fun z => h (Int.gcd_eq_zero_iff.mp z).2
  unfold rG
  split <;> omega
theorem rG_le (i : Int) {j : Int} (h : j ≠ 0) : (rG i j).natAbs ≤ j.natAbs := by
  have h1 : Int.gcd i j ≤ j.natAbs := Nat.le_of_dvd (by omega) (Nat.gcd_dvd_right _ _)
  unfold rG
  split <;> omega
theorem log2_mono {a b : Nat} (h : a ≤ b) : a.log2 ≤ b.log2 := by
  by_cases z : a = 0
  · rw [z]
    exact Nat.zero_le _
  · exact (Nat.le_log2 (by omega)).mpr (Nat.le_trans (Nat.log2_self_le z) h)
theorem upd_again {H : Hp} {a : Addr} {o o' : HO} : upd (upd H a o) a o' = upd H a o' := by
  funext b
  by_cases h : b = a
  · rw [h, upd_same, upd_same]
  · rw [upd_ne h, upd_ne h, upd_ne h]
theorem rG_one (i : Int) : rG i 1 = 1 := by
  unfold rG
  rw [if_neg (by decide), Int.gcd_one_right]
  rfl
theorem rN_one (i : Int) : rN i 1 = i := by
  unfold rN
  rw [rG_one, Int.fdiv_one]
theorem rD_one (i : Int) : rD i 1 = 1 := by
  unfold rD
  rw [rG_one]
  rfl

/-! ### the greatest, the least of some numbers -/
def RatOf (C : Addr) (H : Hp) (x : V) (p : Int × Int) : Prop := (x = .int p.1 ∧ p.2 = 1) ∨ ∃ a, x = .ref a ∧ Rat C H a p.1 p.2
theorem RatOf.ext {C : Addr} {H H' : Hp} {x : V} {p : Int × Int} (h : RatOf C H x p) (e : Ext H H') : RatOf C H' x p := h.elim .inl fun ⟨a, e1, r⟩ => .inr ⟨a, e1, r.ext e⟩
theorem RatOf.any {K : PySem.W.Frag} {C : Addr} {H : Hp} {x : V} {p : Int × Int} (h : RatOf C H x p) : AnyV K C H x := by
  rcases h with ⟨rfl, _⟩ | ⟨a, rfl, r⟩
  · exact .int _
  · exact .rat r
/-- small enough to be multiplied -/
def Sm (p : Int × Int) : Prop := p.1.natAbs < 2 ^ 4000 ∧ p.2.natAbs < 2 ^ 4000
theorem Sm.mul {p q : Int × Int} (h : Sm p) (h' : Sm q) : CMulW p.1 q.2 := wide_mul h.1 h'.2 (by decide) (by decide) (by decide)
def ltR (p q : Int × Int) : Bool := decide (p.1 * q.2 < q.1 * p.2)
def maxR (f t : Int × Int) : Int × Int := if ltR f t then t else f
def minR (f t : Int × Int) : Int × Int := if ltR t f then t else f
theorem told_good {K : PySem.W.Frag} {C CB : Addr} {H : Hp} {x : V} {p : Int × Int} {Q : VK} {E : XK} (h : RatOf C H x p) (k : ∀ a H', Ext H H' → Rat C H' a p.1 p.2 → Q (.ref a) H') : Told K C CB H x Q E := by
  refine ⟨h.any, ?_⟩
  rcases h with ⟨rfl, h1⟩ | ⟨a, rfl, r⟩
  · refine ⟨(fun z => by cases z), (fun _ z => by cases z), fun i z a H' e n r => ?_⟩
    cases z
    rw [← h1] at r
    exact k a H' e r
  · refine ⟨fun _ H' e => k a H' e (r.ext e), fun z => ?_, (fun i z => by cases z)⟩
    rw [r.is] at z
    cases z
theorem told_bad {K : PySem.W.Frag} {C CB : Addr} {H : Hp} {x : V} {Q : VK} {E : XK} (h : AnyV K C H x) (h1 : vRat C H x = false) (h2 : isI x = false) (k : BadV CB H E x) : Told K C CB H x Q E :=
  ⟨h, (fun z => by rw [h1] at z; cases z), fun _ _ => k, (fun i z => by rw [z] at h2; cases h2)⟩
/-- some numbers: the good ones gs, whose fractions are ps, then perhaps one that is none -/
structure Row (K : PySem.W.Frag) (C CB : Addr) (H : Hp) (xs gs bs : List V) (ps : List (Int × Int)) : Prop where
  eq : xs = gs ++ bs
  ok : Paired (RatOf C H) gs ps
  sm : ∀ p ∈ ps, Sm p
  bad : ∀ b r, bs = b :: r → AnyV K C H b ∧ vRat C H b = false ∧ isI b = false
def spBest (K : PySem.W.Frag) (C CB : Addr) (f : Int × Int → Int × Int → Int × Int) : Sp := fun vs H Q E => ∃ v, vs = [v] ∧ AnyV K C H v ∧ ((∀ x xs, ¬ SeqOf H v (x :: xs)) → BadV CB H E v) ∧
  ∀ xs, SeqOf H v xs → ∃ gs bs ps, Row K C CB H xs gs bs ps ∧ (∀ b r, bs = b :: r → BadV CB H E b) ∧ (bs = [] → ∀ p pt, ps = p :: pt → ∀ a H', Ext H H' → Rat C H' a (pt.foldl f p).1 (pt.foldl f p).2 → Q (.ref a) H')
theorem cut_tail (x : V) (xs : List V) : cutV (x :: xs) (some 1) none = xs := by
  unfold cutV
  simp [HT.sIx]
theorem paired_get {α β : Type} {F : α → β → Prop} {xs : List α} {ys : List β} (h : Paired F xs ys) : ∀ {i : Nat} {x : α}, xs[i]? = some x → ∃ y, ys[i]? = some y ∧ F x y := by
  induction h with
  | nil => intro i x e; simp at e
  | cons h1 _ ih =>
    intro i x e
    cases i with
    | zero =>
      simp at e
      subst e
      exact ⟨_, rfl, h1⟩
    | succ i => exact ih (by simpa using e)
theorem fold_more {α β : Type} (f : β → α → β) (p : β) {ps : List α} {i : Nat} {y : α} (h : ps[i]? = some y) : (ps.take (i + 1)).foldl f p = f ((ps.take i).foldl f p) y := by
  rw [List.take_add_one, h, List.foldl_append]
  rfl
theorem fold_sm {f : Int × Int → Int × Int → Int × Int} (hf : ∀ p q, f p q = p ∨ f p q = q) : ∀ {ps : List (Int × Int)} {p : Int × Int}, Sm p → (∀ q ∈ ps, Sm q) → Sm (ps.foldl f p)
  | [], _, h, _ => h
  | q :: ps, p, h, hs => by
    refine fold_sm (ps := ps) hf ?_ fun r hr => hs r (List.mem_cons_of_mem _ hr)
    rcases hf p q with e | e <;> rw [e]
    · exact h
    · exact hs q List.mem_cons_self
theorem max_or (p q : Int × Int) : maxR p q = p ∨ maxR p q = q := by
  unfold maxR
  split
  · exact .inr rfl
  · exact .inl rfl
theorem min_or (p q : Int × Int) : minR p q = p ∨ minR p q = q := by
  unfold minR
  split
  · exact .inr rfl
  · exact .inl rfl
/-- a turn of the loop that seeks the greatest, the least -/
theorem best_step {K : PySem.W.Frag} {C CB l b : Addr} {gs bs : List V} {ps : List (Int × Int)} {p : Int × Int} {i : Nat} {x : V} {E E1 : XK} {D : Ends} {H H2 : Hp} {o : Option V} {i1 i3 : Nat} {f : Int × Int → Int × Int → Int × Int}
    (hf : (i1 = 1 ∧ i3 = 3 ∧ f = maxR) ∨ (i1 = 3 ∧ i3 = 1 ∧ f = minR)) (hx : (gs ++ bs)[i]? = some x) (hi : i ≤ gs.length) (ex : Ext H H2) (rb : Rat C H2 b ((ps.take i).foldl f p).1 ((ps.take i).foldl f p).2) (pr : Paired (RatOf C H) gs ps)
    (sm : ∀ q ∈ p :: ps, Sm q) (bad : ∀ b r, bs = b :: r → AnyV K C H b ∧ vRat C H b = false ∧ isI b = false) (hb : ∀ b r, bs = b :: r → BadV CB H E b)
    (nx : ∀ b' H3 o', i + 1 ≤ gs.length → Ext H2 H3 → Rat C H3 b' ((ps.take (i + 1)).foldl f p).1 ((ps.take (i + 1)).foldl f p).2 → D.nx [some (.ref l), some (.ref b'), some x, o'] H3) :
    (tSeq (tAsg (tCall (spTold K C CB) [] E (tCons (tVar 2) tNil)) (gName 3)) (tIfS (tB (tCall (spLess C) [] E1 (tCons (tVar i1) (tCons (tVar i3) tNil)))) (tAsg (tVar 3) (gName 1)) tNext)) D [some (.ref l), some (.ref b), some x, o] H2 := by
  have hor : ∀ p q, f p q = p ∨ f p q = q := by
    rcases hf with ⟨_, _, rfl⟩ | ⟨_, _, rfl⟩
    · exact max_or
    · exact min_or
  by_cases hlt : i < gs.length
  · have hg : gs[i]? = some x := by rw [List.getElem?_append_left hlt] at hx; exact hx
    obtain ⟨y, hy, r⟩ := paired_get pr hg
    have sf : Sm ((ps.take i).foldl f p) := fold_sm hor (sm p List.mem_cons_self) fun q hq => sm q (List.mem_cons_of_mem _ (List.mem_of_mem_take hq))
    have sy : Sm y := sm y (List.mem_cons_of_mem _ (List.mem_of_getElem? hy))
    rw [fold_more f p hy] at nx
    refine ⟨x, rfl, x, rfl, told_good (r.ext ex) fun c H3 e3 rc => ?_⟩
    have rb3 := rb.ext e3
    rcases hf with ⟨rfl, rfl, rfl⟩ | ⟨rfl, rfl, rfl⟩
    · refine ⟨_, rfl, _, rfl, b, c, _, _, _, _, rfl, rb3, rc, sf.mul sy, sy.mul sf, _, rfl, ?_⟩
      by_cases h : ltR ((ps.take i).foldl maxR p) y = true
      · have e : maxR ((ps.take i).foldl maxR p) y = y := if_pos h
        rw [e] at nx
        have hd : decide (((ps.take i).foldl maxR p).1 * y.2 < y.1 * ((ps.take i).foldl maxR p).2) = true := h
        rw [hd]
        exact iteT ⟨_, rfl, nx c H3 _ (by omega) e3 rc⟩
      · have e : maxR ((ps.take i).foldl maxR p) y = (ps.take i).foldl maxR p := if_neg h
        rw [e] at nx
        have hd : decide (((ps.take i).foldl maxR p).1 * y.2 < y.1 * ((ps.take i).foldl maxR p).2) = false := Bool.eq_false_iff.mpr h
        rw [hd]
        exact iteF (nx b H3 _ (by omega) e3 rb3)
    · refine ⟨_, rfl, _, rfl, c, b, _, _, _, _, rfl, rc, rb3, sy.mul sf, sf.mul sy, _, rfl, ?_⟩
      by_cases h : ltR y ((ps.take i).foldl minR p) = true
      · have e : minR ((ps.take i).foldl minR p) y = y := if_pos h
        rw [e] at nx
        have hd : decide (y.1 * ((ps.take i).foldl minR p).2 < ((ps.take i).foldl minR p).1 * y.2) = true := h
        rw [hd]
        exact iteT ⟨_, rfl, nx c H3 _ (by omega) e3 rc⟩
      · have e : minR ((ps.take i).foldl minR p) y = (ps.take i).foldl minR p := if_neg h
        rw [e] at nx
        have hd : decide (y.1 * ((ps.take i).foldl minR p).2 < ((ps.take i).foldl minR p).1 * y.2) = false := Bool.eq_false_iff.mpr h
        rw [hd]
        exact iteF (nx b H3 _ (by omega) e3 rb3)
  · have e : i = gs.length := by omega
    subst e
    rw [List.getElem?_append_right (Nat.le_refl _), Nat.sub_self] at hx
    cases bs with
    | nil => simp at hx
    | cons b0 r =>
      simp at hx
      subst hx
      obtain ⟨h1, h2, h3⟩ := bad b0 r rfl
      exact ⟨b0, rfl, b0, rfl, told_bad (h1.ext ex) (by rw [h1.vrat ex]; exact h2) h3 ((hb b0 r rfl).up ex)⟩
theorem Pen.at_ {H : Hp} {p c : Addr} {n : Nat} (h : Pen H p c n) : ∃ u, H p = some u :=
  let ⟨_, _, _, h1, _⟩ := h.ex
  ⟨_, h1⟩
theorem Pen.np {H : Hp} {p c q : Addr} {n : Nat} (h : Pen H p c n) (hq : H q = none) : q ≠ p := fun z => by
  obtain ⟨u, e⟩ := h.at_
  rw [z, e] at hq
  cases hq
theorem But.none {p q : Addr} {H H' : Hp} (b : But p H H') (hq : H' q = none) (hn : q ≠ p) : H q = none := by
  cases e : H q with
  | none => rfl
  | some o =>
    rw [b q o e hn] at hq
    cases hq
theorem fdiv_le {a b : Int} (hb : b ≠ 0) (h : b ∣ a) : (a.fdiv b).natAbs ≤ a.natAbs := by
  obtain ⟨k, rfl⟩ := h
  rw [Int.mul_fdiv_cancel_left _ hb, Int.natAbs_mul]
  exact Nat.le_mul_of_pos_left _ (Int.natAbs_pos.mpr hb)
theorem rG_dvd (i j : Int) : rG i j ∣ i ∧ rG i j ∣ j := by
  unfold rG
  split
  · exact ⟨Int.neg_dvd.mpr (Int.gcd_dvd_left ..), Int.neg_dvd.mpr (Int.gcd_dvd_right ..)⟩
  · exact ⟨Int.gcd_dvd_left .., Int.gcd_dvd_right ..⟩
theorem rN_le (i : Int) {j : Int} (h : j ≠ 0) : (rN i j).natAbs ≤ i.natAbs := fdiv_le (rG_ok i h) (rG_dvd i j).1
theorem rD_le (i : Int) {j : Int} (h : j ≠ 0) : (rD i j).natAbs ≤ j.natAbs := fdiv_le (rG_ok i h) (rG_dvd i j).2
theorem log2_100 {i : Int} (h : i.natAbs < 2 ^ 100) : i.natAbs.log2 < 8999 := Nat.lt_of_lt_of_le (PySem.Flt.log2_lt_of (by decide) h) (by decide)
theorem sm_least {t b : Int} (h : b ≠ 0) (ht : t.natAbs < 2 ^ 100) (hb : b.natAbs < 2 ^ 100) : Sm (rN t b, rD t b) :=
  ⟨Nat.lt_of_le_of_lt (rN_le t h) (Nat.lt_of_lt_of_le ht (Nat.pow_le_pow_right (by decide) (by decide))), Nat.lt_of_le_of_lt (rD_le t h) (Nat.lt_of_lt_of_le hb (Nat.pow_le_pow_right (by decide) (by decide)))⟩
/-- where nothing may be raised -/
theorem passL {X : Cx} : Passes (L2.CX X.prog X.w) X E0 := fun _ _ _ _ _ _ _ ⟨_, _, _, _, _, _, _, _, _, _, _, _, z⟩ => z.elim
end Gs

set_option maxRecDepth 100000
set_option maxHeartbeats 4000000
/-! repr of dicts of plain things -/
namespace Gs
open PySem PySem.Spec PyProof.Rows L2
inductive ScD : V → PyData → Prop
  | non : ScD .non .none
  | bl (b : Bool) : ScD (.bl b) (.bool b)
  | int (i : Int) : ScD (.int i) (.int i)
  | str (x : Str) : ScD (.str x) (.str x)
def keyD : Key → PyData
  | .inl i => .int i
  | .inr x => .str x
/-- a dict's pairs as data -/
def PrD (kv : Key × V) (d : PyData × PyData) : Prop := d.1 = keyD kv.1 ∧ ScD kv.2 d.2
theorem scD_reads {h : Heap} {v : V} {d : PyData} {u : Value} (s : ScD v d) (r : L2.RelV v u) : Reads h u d [] := by
  cases s with
  | non => cases (show u = Value.none from r); exact .none
  | bl b => cases (show u = Value.bool b from r); exact .bool b
  | int i => obtain ⟨t, e⟩ := (show ∃ t, u = Value.int i t from r); subst e; exact .int i t
  | str x => obtain ⟨t, e⟩ := (show ∃ t, u = Value.str x t from r); subst e; exact .str x t
theorem keyD_reads {P : Program} {w : World} {h : Heap} {k : Key} {u : Value} (e : (mixKind P w).is k u = true) : Reads h u (keyD k) [] := by
  rcases keyIs_shape (show keyIs k u = true from e) with ⟨i, t, rfl, rfl⟩ | ⟨x, t, rfl, rfl⟩
  · exact .int i t
  · exact .str x t
theorem dk_all {P : Program} {w : World} {h : Heap} : ∀ {es : List DictEntry} {vs : List (Key × Value)} {kvs : List (Key × V)} {ds : List (PyData × PyData)}, Pairs (mixKind P w) es vs → KV kvs vs → Paired PrD kvs ds →
    ReadsAll h (es.map (·.key)) (ds.map (·.1)) [] ∧ ReadsAll h (es.map (·.val)) (ds.map (·.2)) []
  | _, _, _, _, .nil, .nil, .nil => ⟨.nil, .nil⟩
  | _, _, _, _, .cons k1 v1 ps, .cons r1 rs, .cons d1 dd => by
    obtain ⟨a, b⟩ := dk_all ps rs dd
    obtain ⟨e1, e2⟩ := r1
    obtain ⟨f1, f2⟩ := d1
    refine ⟨?_, ?_⟩
    · rw [List.map_cons, List.map_cons, f1, e1]
      exact .cons (as := []) (bs := []) (keyD_reads k1) a
    · rw [List.map_cons, List.map_cons, v1]
      exact .cons (as := []) (bs := []) (scD_reads f2 e2) b
/-- repr of such a dict -/
def rReprD : List V → Hp → VK → Prop := fun vs H Q => ∃ a kvs ds, vs = [.ref a] ∧ H a = some (.dK kvs) ∧ Paired PrD kvs ds ∧ (PyData.dict ds).showable = true ∧ (PyData.dict ds).depth ≤ 60 ∧ (PyData.dict ds).shown.length ≤ sizeLine ∧ Q (.str (PyData.dict ds).shown) H
theorem call_reprD {X : Cx} (hg : X.A.guards = some []) (hu : X.A.units + 64 < cLine) : CallR X (.builtin "repr") rReprD := by
  intro pins s σ H xs us Q I r h
  obtain ⟨a, kvs, ds, rfl, ea, pd, hs, hd, hz, q⟩ := h
  obtain ⟨u, rfl, rv⟩ := vals1 r
  obtain rfl : u = Value.ref a := rv
  obtain ⟨hz2, hy, vs, rel, o, es, ep, ho, ex, hdt, _, prs, _⟩ := (show ObjOk X.prog X.w H s.heap a (.dK kvs) from I.hok a _ ea)
  obtain ⟨k1, k2⟩ := dk_all (h := s.heap) prs rel pd
  have rd : Reads s.heap (.ref a) (.dict ds) (a :: [] ++ []) := .dict ho ex.1 hdt k1 k2
  refine repr_of_reads' rd hs (fun _ z => ?_) hg (by omega) (fun _ _ e => e) (fun h' u tk hk => ⟨.str _, H, I.kept hk, ⟨_, rfl⟩, q⟩) hz
  have e : sysModules = a := by simpa using z
  rw [← e] at hy
  simp at hy
/-- what repr may be asked here: data, or such a dict; d: what it shows -/
inductive Shw (K : PySem.W.Frag) (H : Hp) : V → PyData → Prop
  | data {v : V} {d : PyData} (h : Dp K H v d) : Shw K H v d
  | dict {a : Addr} {kvs : List (Key × V)} {ds : List (PyData × PyData)} (h : H a = some (.dK kvs)) (p : Paired PrD kvs ds) : Shw K H (.ref a) (.dict ds)
/-- of bounded size -/
def Fine (d : PyData) : Prop := d.showable = true ∧ d.depth ≤ 60 ∧ d.shown.length ≤ sizeLine
def rReprX (K : PySem.W.Frag) : List V → Hp → VK → Prop := fun vs H Q => ∃ v d, vs = [v] ∧ Shw K H v d ∧ Fine d ∧ Q (.str d.shown) H
theorem call_reprX {X : Cx} (hg : X.A.guards = some []) (hu : X.A.units + 64 < cLine) : CallR X (.builtin "repr") (rReprX X.K) := by
  intro pins s σ H xs us Q I r ⟨v, d, e, sh, ⟨f1, f2, f3⟩, q⟩
  cases sh with
  | data h => exact call_repr hg hu pins s σ H xs us Q I r ⟨v, d, e, h, f1, f2, f3, q⟩
  | dict h p => exact call_reprD hg hu pins s σ H xs us Q I r ⟨_, _, _, e, h, p, f1, f2, f3, q⟩
theorem dp_ext {K : PySem.W.Frag} {H H' : Hp} (e : Ext H H') : ∀ {v : V} {d : PyData}, Dp K H v d → Dp K H' v d := by
  intro v d h
  induction h using Dp.rec (motive_2 := fun vs ds _ => DpAll K H' vs ds) with
  | non => exact .non
  | bl b => exact .bl b
  | int i => exact .int i
  | str x => exact .str x
  | lst h _ ih => exact .lst (e.sq h) ih
  | tup h _ ih => exact .tup (e.st h) ih
  | nil => exact .nil
  | cons _ _ a b => exact .cons a b
theorem Shw.ext {K : PySem.W.Frag} {H H' : Hp} {v : V} {d : PyData} (h : Shw K H v d) (e : Ext H H') : Shw K H' v d := by
  cases h with
  | data h => exact .data (dp_ext e h)
  | dict h p => exact .dict (e _ _ h) p
end Gs

set_option maxRecDepth 100000
set_option maxHeartbeats 4000000
/-! calls by keywords alone: an own class made, a static method -/
namespace Gs
open PySem PySem.Spec PyProof.Rows L2
section
variable {X : Cx} {CX : CXT} {k : Nat} {ps ks : List Str} {sp : Sp} {dvs dv : List V} {E : XK} {x y qual m : Str} {C f : Addr} {st : Stmt} {p pos apos : Pos} {o : Expr} {kws : List Keyword} {to : TE} {tk : TA} {gV : List V → List V → List V}
theorem pe_mkK (M : Mk X.K C f) (hm : X.mg x = some (.ref C)) (D : FunOk X.prog X.w X.K X.mg X.base CX k f ps dvs sp) (a : AtF X.K f y qual st dv)
    (kb : ∀ fd, FunD X.K y qual (defArgs st) (defBody st) (defScope st) dv [] f fd → ∃ g, KBn X.K fd ps 1 ks g gV) (hr : Room (k + 1) X.A) (hx : Passes CX X E) (hkw : PK X kws tk) (hg : Gl X x := by rfl)
    (hall : (backToKw pos (keywordEach kws X.env)).all (·.1.isSome) = true := by rfl) (hks : (backToKw pos (keywordEach kws X.env)).filterMap (·.1) = ks := by rfl) (hdb : (x == ("__debug__" : Str)) = false := by decide)
    (hpl : ((backTo pos (starEach [] X.env)).any (·.1) || (backToKw pos (keywordEach kws X.env)).any (·.1.isNone)) = false := by rfl) : PE X (.Call (.Name x p) [] kws pos) (tMakeK C 0 ks.length sp gV E tNil tk) := by
  obtain ⟨fd, F⟩ := a.ex
  obtain ⟨g, hb⟩ := kb fd F
  obtain ⟨_, _, _, _, _, _, _, _, _, _, _, l1, _⟩ := F.ex
  exact pe_makeK0 M (D.lk fd ⟨_, _, _, l1⟩) hr hg hm hb hx hkw hall hks hdb hpl
/-- C.m(k = v, ..), m a static method -/
def tStK (C : Addr) (n : Nat) (sp : Sp) (gV : List V → List V) (E : XK) (to : TE) (tk : TA) : TE := fun σ H Q => to σ H fun x H1 => x = .ref C ∧ tk σ H1 fun zs H2 => zs.length = n ∧ sp (gV zs) H2 Q E
theorem pe_smK {gV : List V → List V} (D : FunOk X.prog X.w X.K X.mg X.base CX k f ps dvs sp) (a : AtF X.K f y qual st dv) (M : StM X.K C m f)
    (kb : ∀ fd, FunD X.K y qual (defArgs st) (defBody st) (defScope st) dv [] f fd → ∃ g : List Value → List Value, (∀ (s : Shared) (ws : List Value), X.K.In s.heap → ws.length = ks.length → BindsTo s fd ⟨[], ks.zip ws⟩ (ps.zip (g ws))) ∧ ∀ {zs : List V} {ws : List Value}, Vals zs ws → Vals (gV zs) (g ws))
    (hr : Room k X.A) (hx : Passes CX X E) (ho : PE X o to) (hkw : PK X kws tk)
    (hb : attributeBase o m X.env (eval o X.env) = eval o X.env := by rfl) (hl : (apos.endLine == pos.line) = true := by rfl)
    (hf : methodCallForm (([] : List Expr).length + kws.length) (backTo pos (starEach [] X.env)) (backToKw pos (keywordEach kws X.env)) = true := by rfl)
    (hall : (backToKw pos (keywordEach kws X.env)).all (·.1.isSome) = true := by rfl) (hks : (backToKw pos (keywordEach kws X.env)).filterMap (·.1) = ks := by rfl)
    (hpl : ((backTo pos (starEach [] X.env)).any (·.1) || (backToKw pos (keywordEach kws X.env)).any (·.1.isNone)) = false := by rfl) :
    PE X (.Call (.Attribute o m apos) [] kws pos) (tStK C ks.length sp gV E to tk) := by
  obtain ⟨fd, F⟩ := a.ex
  obtain ⟨g, bd, rel⟩ := kb fd F
  obtain ⟨_, _, _, _, _, _, _, _, _, _, _, l1, _⟩ := F.ex
  have Fn := D.lk fd ⟨_, _, _, l1⟩
  obtain ⟨q, rest, h1, h2⟩ := M.at_
  refine ⟨fun pins s σ H Q I h => ?_⟩
  show wpAny _ _ (do let ov ← attributeBase o m X.env (eval o X.env); standAt apos.atName; methodCall o m apos pos X.env ov (([] : List Expr).length + kws.length) (backTo pos (starEach [] X.env)) (backToKw pos (keywordEach kws X.env))) _ _ _
  rw [hb]
  refine wpAny_bind (thn (ho.run pins s σ H _ I h) fun u s1 ⟨x, H1, I1, r1, ex, h3⟩ => ?_)
  subst ex
  obtain rfl : u = Value.ref C := r1
  rw [mcall_line hf hl]
  refine wpAny_bind (wpAny_standAt (wpAny_bind (wpAny_holding (PySem.W.method_cls I1.kIn M.ga (PySem.W.cls_bind I1.kIn M.rd h1 ?_)))))
  refine wpAny_call (PySem.W.sm_get (s := { s1 with toks := s1.toks + 1 }) I1.kIn h2 (PySem.W.handed_on rfl ?_))
  refine PySem.W.callWith_KW0 (h₀ := X.base) I1.ok.mod.kin D.kp hall (thn (hkw.run pos pins _ σ H1 _ (I1.tok _) h3) fun ws s2 ⟨zs, H2, I2, rz, lz, q2⟩ => ⟨I2.kIn, ?_⟩) hpl
  rw [hks]
  have lw : ws.length = ks.length := rz.length.symm.trans lz
  refine wpAny_call (codeAny_mono (Fn.run X.A X.stack s2 H2 ⟨[], ks.zip ws⟩ _ _ Q E hr I2.env0 (bd s2 ws I2.kIn lw) (rel rz) q2) ?_)
  intro r s' hq
  match r, hq with
  | .error e, hq => exact hx pins σ H2 s2 e s' I2 hq
  | .ok (.ret u), hq => exact I2.after hq
  | .ok .next, hq => exact hq.elim
  | .ok .brk, hq => exact hq.elim
  | .ok .cont, hq => exact hq.elim
end
/-- a fraction of two integers is made -/
theorem mk_two {K : PySem.W.Frag} {C CB : Addr} {H : Hp} {Q : VK} {E : XK} {i j : Int} (hj : j ≠ 0) (hl : j.natAbs.log2 < 8999) (k : Made C H (rN i j) (rD i j) Q) :
    ∀ x dx, H x = none → H dx = none → dx ≠ x → spInit K C CB [.ref x, .int i, .int j] (upd (upd H dx (.own x)) x (.ins C dx [])) (fun v H2 => v = .non ∧ Q (.ref x) H2) E := fun x dx nx nd hne => by
  have nx' : upd H dx (.own x) x = none := by rw [upd_ne (Ne.symm hne)]; exact nx
  refine ⟨x, dx, .int i, .int j, rfl, upd_same, trivial, trivial, (fun z => by cases z), (fun _ z => ?_), fun i' j' ei ej _ => ?_⟩
  · rcases z with z | z
    · cases z
    · exact absurd (V.int.inj z) hj
  · cases ei
    cases ej
    refine ⟨hl, rfl, ?_⟩
    rw [upd_again]
    exact k x _ ((ext_new nd).new nx') nx ⟨dx, upd_same⟩
theorem fine_pair {a b : Int} (ha : a.natAbs < 2 ^ 100) (hb : b.natAbs < 2 ^ 100) : Fine (.list [.int a, .int b]) := by
  refine small_len ?_
  have h1 := log2_lt (by decide) ha
  have h2 := log2_lt (by decide) hb
  unfold small
  simp only [Bool.and_eq_true, decide_eq_true_eq]
  refine ⟨⟨⟨?_, by simp [PyData.depth, PyData.depthAll]⟩, ?_⟩, ?_⟩
  · simp [PyData.showable, PyData.showableAll]
    omega
  · have k1 := (int_leaf (Nat.lt_of_lt_of_le ha (Nat.pow_le_pow_right (by decide) (show 100 ≤ 1000 by decide)))).2.1
    have k2 := (int_leaf (Nat.lt_of_lt_of_le hb (Nat.pow_le_pow_right (by decide) (show 100 ≤ 1000 by decide)))).2.1
    simp only [PyData.leavesShort] at k1 k2
    simp [PyData.leavesShort, PyData.leavesShortAll]
    exact ⟨by simpa using k1, by simpa using k2⟩
  · simp [PyData.weight, PyData.weightAll]
    split <;> split <;> omega
section
variable {X : Cx} {C CB : Addr} {t tk : TA} {E : XK} {e : Expr}
/-- a fraction made of two integers -/
def tMk2 (C : Addr) (t : TA) : TE := fun σ H Q => t σ H fun vs H1 => ∃ i j : Int, vs = [.int i, .int j] ∧ j ≠ 0 ∧ j.natAbs.log2 < 8999 ∧ Made C H1 (rN i j) (rD i j) Q
theorem pe_mk2 (h : PE X e (tMake C (spInit X.K C CB) [] E (taM t))) : PE X e (tMk2 C t) :=
  ⟨fun pins s σ H Q I q => h.run pins s σ H Q I ⟨_, q, fun vs H1 ⟨i, j, ev, hj, hl, k⟩ => by
    subst ev
    exact mk_two hj hl k⟩⟩
/-- of one -/
def tMk1 (C : Addr) (t : TA) : TE := fun σ H Q => t σ H fun vs H1 => ∃ i : Int, vs = [.int i] ∧ Made C H1 i 1 Q
theorem pe_mk1 (h : PE X e (tMake C (spInit X.K C CB) [.int 1] E (taM t))) : PE X e (tMk1 C t) :=
  ⟨fun pins s σ H Q I q => h.run pins s σ H Q I ⟨_, q, fun vs H1 ⟨i, ev, k⟩ => by
    subst ev
    exact mk_two (j := 1) (by decide) (by decide) (by rw [rN_one, rD_one]; exact k)⟩⟩
end
def gUO {α : Type} : List α → List α → List α → List α := fun us _ ws => match us, ws with
  | [a], [u, o] => [a, o, u]
  | _, _ => []
section
variable {X : Cx} {C CB : Addr} {tk : TA} {E : XK} {e : Expr}
/-- .. by keywords, under ahead of over -/
def tMk2K (C : Addr) (tk : TA) : TE := fun σ H Q => tk σ H fun zs H1 => ∃ i j : Int, zs = [.int j, .int i] ∧ j ≠ 0 ∧ j.natAbs.log2 < 8999 ∧ Made C H1 (rN i j) (rD i j) Q
theorem pe_mk2K (h : PE X e (tMakeK C 0 2 (spInit X.K C CB) (fun vs zs => gUO vs [.int 1] zs) E tNil (taM tk))) : PE X e (tMk2K C tk) :=
  ⟨fun pins s σ H Q I q => h.run pins s σ H Q I ⟨_, q, fun zs H1 ⟨i, j, ev, hj, hl, k⟩ => by
    subst ev
    exact ⟨rfl, rfl, mk_two hj hl k⟩⟩⟩
end
theorem pkM_ok {X : Cx} {kws : List Keyword} {tk : TA} (h : PK X kws tk) : PK X kws (taM tk) :=
  ⟨fun pos pins s σ H Q I ⟨R, a, b⟩ => thn (h.run pos pins s σ H R I a) fun us s' ⟨vs, H1, I1, r, q⟩ => ⟨vs, H1, I1, r, b _ _ q⟩⟩
end Gs

set_option maxRecDepth 100000
set_option maxHeartbeats 4000000
/-! lambdas as values: made, kept in names and lists, called where they were made -/
namespace Gs
open PySem PySem.Spec PyProof.Rows L2 LamX
/-- a lambda's function object, kept at f -/
def LamO (f c' : Addr) (q : Str) (ar : Arguments) (bd : Expr) (sc : Scope) (cl : List (Str × Addr)) : HO :=
  .ext fun h => ∃ pm ctv, h.get? f = some (PySem.W.kla_obj "<lambda>" q ar bd sc cl pm c' ctv)
theorem lamO_ok {P : Program} {w : World} {H : Hp} {h : Heap} {f c' : Addr} {q : Str} {ar : Arguments} {bd : Expr} {sc : Scope} {cl : List (Str × Addr)} {pm ctv : Value}
    (e : h.get? f = some (PySem.W.kla_obj "<lambda>" q ar bd sc cl pm c' ctv)) : ObjOk P w H h f (LamO f c' q ar bd sc cl) :=
  ⟨⟨pm, ctv, e⟩, ⟨_, e⟩, fun _ _ ⟨a, b, z⟩ st => ⟨a, b, st _ z⟩⟩
section
variable {X : Cx} {pins : List (Addr × Obj)} {σ : L2.St} {H : Hp} {s : Shared}
/-- an object that is there, of no one so far, is told of from now on -/
theorem inv_track {f : Addr} {φ : Heap → Prop} (I : Inv X pins σ H s) (lo : X.s_0.heap.objs.size ≤ f) (n : H f = none) (ne : f ≠ X.env.locals) (nc : ∀ x c, X.env.cells.lookup x = some c → c ≠ f)
    (np : ∀ p ∈ X.pn ++ pins, p.1 ≠ f) (ob : ∀ H', ObjOk X.prog X.w H' s.heap f (.ext φ)) : Inv X pins σ (upd H f (.ext φ)) s := by
  have ot : ∀ {b : Addr} {o : HO}, H b = some o → upd H f (.ext φ) b = some o := fun {b o} e => by
    rw [upd_ne (ne_of_none e n)]
    exact e
  exact I.step (g' := s.gens) (t' := s.toks) (d' := s.drawn) (h' := s.heap) (ch := [f])
    (fun b hb => by
      obtain rfl := List.mem_singleton.mp hb
      exact ⟨.inr lo, ne, nc, np⟩)
    (fun _ _ _ _ _ e _ => e) (fun _ o _ _ _ e _ => ⟨o.slots, e⟩)
    (fun b _ hb _ z => by rw [upd_ne (fun q => hb (List.mem_singleton.mpr q))]; exact z) (fun _ o _ e => ⟨o, e⟩)
    (fun _ _ e => ot e) (fun _ _ _ e => ot e) (fun _ _ e => ⟨#[], by rw [Array.append_empty]; exact ot e⟩) (fun _ z => z)
    (fun b o e => by
      by_cases hb : b = f
      · subst hb
        rw [upd_same] at e
        cases e
        exact ob _
      · rw [upd_ne hb] at e
        exact (I.hok b o e).stay (fun _ _ _ z => z) (fun _ z => ot z) fun _ _ z => ot z) I.bare
/-- a lambda is made and told of -/
theorem lam_track {T : List (Addr × Str)} {c P : Addr} {ar : Arguments} {bd : Expr} {sc : Scope} {pos : Pos} {E Q : Value → Shared → Prop} (I : Inv X pins σ H s) (TB : TabB X.base X.mg c P)
    (hc0 : X.env.code = .ref c) (hm : (P, X.env.qual ++ "<lambda>") ∈ T) (hu : ∀ p ∈ T, p.1 = P → p.2 = X.env.qual ++ "<lambda>") (hT : Tabs T H) (hd : defaultsOf ar X.env = ([], []))
    (hf : ∀ y ∈ sc.names, y.2 = .free → ∃ c, X.env.cells.lookup y.1 = some c)
    (k : ∀ (f c' : Addr) (H1 : Hp) (s1 : Shared), ExtN H H1 → Tabs T H1 → H1 f = none → H1 c' = some (CodeO c' (X.env.qual ++ "<lambda>")) →
      Inv X pins σ (upd H1 f (LamO f c' (X.env.qual ++ "<lambda>") ar bd sc (cloFrom X.env.cells sc.names []))) s1 → Q (.ref f) s1) :
    wpAny (model X.prog X.w) X.A (eval (.Lambda ar bd sc pos) X.env) Q E s := by
  have fresh : ∀ {f c' : Addr} {H1 : Hp} {s1 : Shared} {pm ctv : Value}, s.heap.objs.size ≤ f → Inv X pins σ H1 s1 → H1 f = none →
      s1.heap.get? f = some (PySem.W.kla_obj "<lambda>" (X.env.qual ++ "<lambda>") ar bd sc (cloFrom X.env.cells sc.names []) pm c' ctv) →
      Inv X pins σ (upd H1 f (LamO f c' (X.env.qual ++ "<lambda>") ar bd sc (cloFrom X.env.cells sc.names []))) s1 := fun {f c' H1 s1 pm ctv} lf I1 n e =>
    inv_track I1 (Nat.le_trans I.sz lf) n (fun z => absurd (Nat.lt_of_lt_of_le I.lt lf) (by rw [z]; exact Nat.lt_irrefl _))
      (fun x c hx z => by
        obtain ⟨_, _, ho, _⟩ := I.cell x c hx
        have := Heap.lt_size ho
        rw [z] at this
        exact absurd (Nat.lt_of_lt_of_le this lf) (Nat.lt_irrefl _))
      (fun p hp z => by
        have := Heap.lt_size (I.pin p hp).1
        rw [z] at this
        exact absurd (Nat.lt_of_lt_of_le this lf) (Nat.lt_irrefl _)) fun H' => lamO_ok e
  obtain ⟨ps, hP, tri, among⟩ := hT _ hm
  have hP' : s.heap.get? P = some { cls := .none, data := .fields ps } := I.hok P _ hP
  have bP : s.heap.BuiltinsAt X.mg P := TB.bm.keeps I.bk
  refine PySem.W.kla_eval hd ?_
  cases hc : codeAmong pos ps.toList with
  | some cv =>
    obtain ⟨c', rfl, known⟩ := among pos cv hc
    refine PySem.W.kla_makeFunctionHit (mg := X.mg) (c := c) (P := P) (ps := ps) (closure_ok hf) I.ok.glob (I.mod.glob.keeps I.bk) hc0 (TB.code.keeps I.bk) hP' tri hc bP fun ctv h' tk hx hsz => ?_
    exact k h'.objs.size c' H _ (ExtN.refl H) hT (I.hok.fresh hsz) known (fresh hsz (I.kept fun b o e => Heap.get?_push_of_some _ (hx b o e)) (I.hok.fresh hsz) (Heap.get?_push_size _ rfl))
  | none =>
    refine PySem.W.kla_makeFunction (mg := X.mg) (c := c) (P := P) (ps := ps) (closure_ok hf) I.ok.glob (I.mod.glob.keeps I.bk) hc0 (TB.code.keeps I.bk) hP' tri hc TB.gP bP fun c' ctv h' tk hx hge hlt hrec htb => ?_
    obtain ⟨c2, oc, vs, t, e2, q1, q2, q3⟩ := hrec
    cases e2
    have big := Nat.le_trans hge (Nat.le_of_lt hlt)
    have nC : H c' = none := I.hok.fresh hge
    have I1 := inv_table (t' := tk) (q := X.env.qual ++ "<lambda>") (more := #[rawInt pos.line, rawInt pos.col, .ref c']) (h' := h'.push (PySem.W.kla_obj "<lambda>" (X.env.qual ++ "<lambda>") ar bd sc (cloFrom X.env.cells sc.names []) ((X.mg "__name__").getD .none) c' ctv)) I hP
      (fun b o hb e => Heap.get?_push_of_some _ (hx b o hb e)) (Heap.get?_push_of_some _ htb) hge ⟨oc, vs, t, Heap.get?_push_of_some _ q1, q2, q3⟩
    have nf : upd (upd H P (.tbl (ps ++ #[rawInt pos.line, rawInt pos.col, .ref c']))) c' (CodeO c' (X.env.qual ++ "<lambda>")) h'.objs.size = none := by
      rw [upd_ne (Nat.ne_of_gt hlt), upd_ne (Nat.ne_of_gt (Nat.lt_of_lt_of_le (Heap.lt_size hP') big))]
      exact I.hok.fresh big
    have grow : ExtN H (upd (upd H P (.tbl (ps ++ #[rawInt pos.line, rawInt pos.col, .ref c']))) c' (CodeO c' (X.env.qual ++ "<lambda>"))) := by
      intro b o e n
      rw [upd_ne (ne_of_none e nC), upd_ne]
      · exact e
      · rintro rfl
        rw [hP] at e
        exact n ps (Option.some.inj e).symm
    refine k _ c' _ _ grow (fun p hp => ?_) nf upd_same (fresh big I1 nf (Heap.get?_push_size _ rfl))
    by_cases hb : p.1 = P
    · have z := hu p hp hb
      rw [z, hb]
      have eL : (ps ++ #[rawInt pos.line, rawInt pos.col, .ref c']).toList = ps.toList ++ [rawInt pos.line, rawInt pos.col, .ref c'] := by simp
      refine ⟨_, by rw [upd_ne (ne_of_none hP nC), upd_same], by rw [eL]; exact PySem.TriplesOk_snoc _ _ _ _ tri, fun p' cv h => ?_⟩
      rw [eL] at h
      rcases among_app _ tri h with z | z
      · obtain ⟨c0, e1, e2⟩ := among p' cv z
        exact ⟨c0, e1, grow _ _ e2 codeO_ne⟩
      · exact ⟨c', z, upd_same⟩
    · obtain ⟨l, a1, a2, a3⟩ := hT p hp
      refine ⟨l, by rw [upd_ne (ne_of_none a1 nC), upd_ne hb]; exact a1, a2, fun p' cv h => ?_⟩
      obtain ⟨c0, e1, e2⟩ := a3 p' cv h
      exact ⟨c0, e1, grow _ _ e2 codeO_ne⟩
end
/-- what a lambda's making asks -/
def tLamV (T : List (Addr × Str)) (q : Str) (ar : Arguments) (bd : Expr) (sc : Scope) (cl : List (Str × Addr)) : TE := fun σ H Q =>
  Tabs T H ∧ ∀ (f c' : Addr) (H1 : Hp), ExtN H H1 → Tabs T H1 → H1 f = none → H1 c' = some (CodeO c' q) → Q (.ref f) (upd H1 f (LamO f c' q ar bd sc cl))
section
variable {X : Cx}
theorem pe_lamV {T : List (Addr × Str)} {c P : Addr} {ar : Arguments} {bd : Expr} {sc : Scope} {pos : Pos} (TB : TabB X.base X.mg c P) (hc0 : X.env.code = .ref c) (hm : (P, X.env.qual ++ "<lambda>") ∈ T)
    (hu : ∀ p ∈ T, p.1 = P → p.2 = X.env.qual ++ "<lambda>") (L : LamS X.env.scope sc) (hd : defaultsOf ar X.env = ([], []) := by rfl) :
    PE X (.Lambda ar bd sc pos) (tLamV T (X.env.qual ++ "<lambda>") ar bd sc (cloFrom X.env.cells sc.names [])) :=
  ⟨fun pins s σ H Q I ⟨hT, h⟩ => lam_track I TB hc0 hm hu hT hd (L.has I.ok) fun f c' H1 s1 e t n hc J => ⟨.ref f, _, J, rfl, h f c' H1 e t n hc⟩⟩
/-- a(), a name that holds a lambda of this very def -/
theorem pe_callV {W : WX} {i k : Nat} {a : Str} {ar : Arguments} {bd : Expr} {sc : Scope} {tb : XK → TE} {p1 p2 : Pos} {q0 : Str} {cl0 : List (Str × Addr)} (hq0 : X.env.qual ++ "<lambda>" = q0) (hcl0 : cloFrom X.env.cells sc.names [] = cl0) (L : LamS X.env.scope sc) (tk : Takes X W) (hr : Room (k + 1) X.A)
    (hbind : ∀ (q : Str) (cl : List (Str × Addr)) (pm cv ctv : Value), bindArgs (PySem.W.kla_fn "<lambda>" q ar bd sc cl pm cv ctv) ⟨[], []⟩ = pure [])
    (hbody : ∀ (A : Around) (out : List Env) (s : Shared) (H : Hp) (E : XK) (f c' : Addr), Room k (A.deeper (lamEnv X sc s.heap.objs.size f c')) → PE (lamCx X A out s H E sc f c') bd (tb E))
    (hN : X.N[i]? = some a) (hv : Vis X.env.scope a) (hd : (a == ("__debug__" : Str)) = false := by decide) (hcd : (a == ("__classdict__" : Str)) = false := by decide) :
    PE X (.Call (.Name a p1) [] [] p2) (fun σ H Q => ∃ f c', σ[i]? = some (some (.ref f)) ∧ H f = some (LamO f c' q0 ar bd sc cl0) ∧ H c' = some (CodeO c' q0) ∧
      ∃ E : XK, (∀ cls d H', E cls d H' → W cls d σ H') ∧ tb E σ H Q) := by
  subst hq0 hcl0
  refine ⟨fun pins s σ H Q I ⟨f, c', hs, hl, hc, E, hW, ht⟩ => wpAny_Call_Name_kw (thn ((pe_var (pos := p1) (i := i) hN hv hd hcd).run pins s σ H (fun v H1 => v = .ref f ∧ H1 = H) I ⟨.ref f, hs, rfl, rfl⟩) ?_)⟩
  rintro u s1 ⟨v, H1, I1, r1, rfl, rfl⟩
  obtain rfl : u = Value.ref f := r1
  obtain ⟨⟨pm, ctv, here⟩, _, _⟩ := I1.hok f _ hl
  obtain ⟨⟨oc, vs, t, c1, c2, c3⟩, _, _⟩ := I1.hok c' _ hc
  refine PySem.W.callWith_F0 ⟨_, _, _, _, here⟩ (wpAny_call (codeAny_mono (R := CR (L2.CX X.prog X.w) X.stack X.prog X.w H1 s1 Q E) ?_ fun r s' hq => ?_))
  · refine PySem.W.kla_callFunE hr.depth here rfl L.co L.gen rfl ⟨c', oc, vs, t, rfl, c1, c2, c3⟩ ?_
    refine wpAny_of_eq (hbind _ _ _ _ _) (wpAny_newFunctionEnv (fun y hy => (L.own y hy).2) (fun y hy => absurd hy (by simp)) (fun h₁ ns sb => ⟨I1.nolimit.fresh _ sb, ?_⟩) L.kind)
    have J := lam_start2 (E := E) (f := f) (c' := c') (tk := s1.toks + ([] : List (Str × Value)).length) I1 L I1.env0 hr.hd (Un.kept fun _ _ e => e) ns fun b o e => sb.extBut b o (Nat.ne_of_lt (Heap.lt_size e)) (Heap.get?_push_of_some _ e)
    show codeAny _ _ (.expr bd (lamEnv X sc s1.heap.objs.size f c')) _ _
    refine PySem.W.kla_codeExpr (wpAny_mono ((hbody _ _ s1 H1 E f c' (hr.deeper _)).run [] _ _ H1 Q J ht) ?_ fun _ _ y => y)
    rintro v s' ⟨u, H', J', rv, q⟩
    exact ⟨u, H', J'.os, J'.bare, J'.base, J'.hok, rv, q⟩
  · match r, hq with
    | .error e, hq => exact tk e s' (XE.of_call I1 hW hq)
    | .ok (.ret u), hq => exact I1.after hq
    | .ok .next, hq => exact hq.elim
    | .ok .brk, hq => exact hq.elim
    | .ok .cont, hq => exact hq.elim
end
end Gs

set_option maxRecDepth 100000
set_option maxHeartbeats 4000000
/-! operators of a class of the text: x + y, y + x, x += y, -x -/
namespace Gs
open PySem PySem.Spec PyProof.Rows L2 PySem.Calls PySem.W
/-- the types that may stand beside an own value, and whether they have number slots of their own -/
structure OpT (K : PySem.W.Frag) (C : Addr) (nm : String) (T : String) (left : Bool) : Prop where
  fill : ∃ fo ro, PySem.W.findIn K (.type T) (PySem.dunder nm) = some fo ∧ PySem.W.findIn K (.type T) (dunderR nm) = some ro ∧ ((fo.isSome && !isSeqSlot fo) || (ro.isSome && !isSeqSlot ro)) = left
  sub : PySem.W.subIn K (.type T) (.ref C) = some false
  sup : PySem.W.subIn K (.ref C) (.type T) = some false
structure OpF (K : PySem.W.Frag) (C : Addr) (nm : String) (f g : Addr) : Prop where
  first : PySem.W.selfFirst K C = true
  l : PySem.W.findIn K (.ref C) (PySem.dunder nm) = some (some (.ref f))
  r : PySem.W.findIn K (.ref C) (dunderR nm) = some (some (.ref g))
  lf : PySem.W.isFn K (.ref f) = true
  rf : PySem.W.isFn K (.ref g) = true
section
variable {prog : Program} {w : World} {A : Around} {E : Value → Shared → Prop} {s : Shared} {K : PySem.W.Frag} {x C f g : Addr} {ox : Obj} {od : Option Obj} {nm T : String} {a b tb : Value} {left : Bool} {Q : Value → Shared → Prop}
theorem ne_ref_type : (Value.ref C == Value.type T) = false := Bool.eq_false_iff.mpr fun q => by cases beq_iff_eq.mp q
theorem ne_type_ref : (Value.type T == Value.ref C) = false := Bool.eq_false_iff.mpr fun q => by cases beq_iff_eq.mp q
theorem bin1_same (X : K.In s.heap) (I : PySem.W.InstAt s.heap x ox C od) (F : OpF K C nm f g) (hb : Looks (model prog w) s.heap (typeOf b) (.ref C))
    (h : wpAny (model prog w) A (call (.ref f) [.ref x, b]) (PySem.W.CmpBack Q) E s) : wpAny (model prog w) A (binaryOp1 nm (.ref x) b) (fun r s' => ∃ v, r = some v ∧ Q v s') E s := by
  obtain ⟨cd, rest, hcd, hm⟩ := PySem.W.ksp_first F.first
  have one := PySem.W.ksp_try X I F.l F.lf h
  obtain ⟨hh, gg, d, tt, os⟩ := s
  have L1 : Looks (model prog w) hh (typeOf (.ref x)) (.ref C) := I.type
  have L2 : Looks (model prog w) hh (typeOf b) (.ref C) := hb
  have L3 : Looks (model prog w) hh (fillsNumberSlot (.ref C) nm) true := PySem.W.fills_K X hcd hm F.l
  have e : (Value.ref C == Value.ref C) = true := beq_self_eq_true _
  unfold binaryOp1
  refine wpAny_bind (L1.at (wpAny_bind (L2.at (wpAny_bind (L3.at ?_)))))
  simp only [e, if_true]
  ksp_lk
  refine wpAny_mono one (fun r s' hr' => ?_) fun _ _ e => e
  obtain ⟨v, rfl, hq⟩ := hr'
  ksp_lk
  exact ⟨v, rfl, hq⟩
theorem bin1_left (X : K.In s.heap) (I : PySem.W.InstAt s.heap x ox C od) (F : OpF K C nm f g) (hb : Looks (model prog w) s.heap (typeOf b) (.type T)) (t : OpT K C nm T left)
    (h : wpAny (model prog w) A (call (.ref f) [.ref x, b]) (PySem.W.CmpBack Q) E s) : wpAny (model prog w) A (binaryOp1 nm (.ref x) b) (fun r s' => ∃ v, r = some v ∧ Q v s') E s := by
  obtain ⟨cd, rest, hcd, hm⟩ := PySem.W.ksp_first F.first
  obtain ⟨fo, ro, h1, h2, e⟩ := t.fill
  have one := PySem.W.ksp_try X I F.l F.lf h
  obtain ⟨hh, gg, d, tt, os⟩ := s
  have L1 : Looks (model prog w) hh (typeOf (.ref x)) (.ref C) := I.type
  have L2 : Looks (model prog w) hh (typeOf b) (.type T) := hb
  have L3 : Looks (model prog w) hh (fillsNumberSlot (.ref C) nm) true := PySem.W.fills_K X hcd hm F.l
  have L4 : Looks (model prog w) hh (fillsNumberSlot (.type T) nm) left := e ▸ PySem.W.ksp_fillsT X h1 h2
  have L5 : Looks (model prog w) hh (isSubtype (.type T) (.ref C)) false := PySem.W.looks_subIn X t.sub
  have L6 : Looks (model prog w) hh (numberSlotInPython (.ref C) nm) true := PySem.W.ksp_inPy X F.l F.r (.inr ⟨_, rfl⟩)
  have L7 : Looks (model prog w) hh (numberSlotInPython (.type T) nm) false := Looks.of_pure rfl
  have L8 : Looks (model prog w) hh (typeLookup (.type T) (dunderR nm)) ro := PySem.W.looks_findIn X h2
  unfold binaryOp1
  refine wpAny_bind (L1.at (wpAny_bind (L2.at (wpAny_bind (L3.at ?_)))))
  simp only [ne_ref_type, Bool.false_eq_true, if_false]
  cases left with
  | false =>
    ksp_lk
    refine wpAny_mono one (fun r s' hr' => ?_) fun _ _ e => e
    obtain ⟨v, rfl, hq⟩ := hr'
    ksp_lk
    exact ⟨v, rfl, hq⟩
  | true =>
    ksp_lk
    refine wpAny_mono one (fun r s' hr' => ?_) fun _ _ e => e
    obtain ⟨v, rfl, hq⟩ := hr'
    ksp_lk
    exact ⟨v, rfl, hq⟩
theorem bin1_right0 (X : K.In s.heap) (I : PySem.W.InstAt s.heap x ox C od) (F : OpF K C nm f g) (ha : Looks (model prog w) s.heap (typeOf a) (.type T)) (t : OpT K C nm T false)
    (h : wpAny (model prog w) A (call (.ref g) [.ref x, a]) (PySem.W.CmpBack Q) E s) : wpAny (model prog w) A (binaryOp1 nm a (.ref x)) (fun r s' => ∃ v, r = some v ∧ Q v s') E s := by
  obtain ⟨cd, rest, hcd, hm⟩ := PySem.W.ksp_first F.first
  obtain ⟨fo, ro, h1, h2, e⟩ := t.fill
  have one := PySem.W.ksp_try X I F.r F.rf h
  obtain ⟨hh, gg, d, tt, os⟩ := s
  have L1 : Looks (model prog w) hh (typeOf (.ref x)) (.ref C) := I.type
  have L2 : Looks (model prog w) hh (typeOf a) (.type T) := ha
  have L3 : Looks (model prog w) hh (fillsNumberSlot (.ref C) nm) true := PySem.W.fills_K X hcd hm F.l
  have L4 : Looks (model prog w) hh (fillsNumberSlot (.type T) nm) false := e ▸ PySem.W.ksp_fillsT X h1 h2
  unfold binaryOp1
  refine wpAny_bind (L2.at (wpAny_bind (L1.at (wpAny_bind (L4.at ?_)))))
  simp only [ne_type_ref, Bool.false_eq_true, if_false]
  ksp_lk
  refine wpAny_mono one (fun r s' hr' => ?_) fun _ _ e => e
  obtain ⟨v, rfl, hq⟩ := hr'
  ksp_lk
  exact ⟨v, rfl, hq⟩
theorem bin1_right1 (X : K.In s.heap) (I : PySem.W.InstAt s.heap x ox C od) (F : OpF K C nm f g) (ha : Looks (model prog w) s.heap (typeOf a) (.type T)) (t : OpT K C nm T true)
    (hd : ∀ Q' : Option Value → Shared → Prop, (∀ tk, Q' none { s with toks := tk }) → wpAny (model prog w) A (tryMethod a (PySem.dunder nm) (.ref x)) Q' E s)
    (h : ∀ tk, wpAny (model prog w) A (call (.ref g) [.ref x, a]) (PySem.W.CmpBack Q) E { s with toks := tk }) : wpAny (model prog w) A (binaryOp1 nm a (.ref x)) (fun r s' => ∃ v, r = some v ∧ Q v s') E s := by
  obtain ⟨cd, rest, hcd, hm⟩ := PySem.W.ksp_first F.first
  obtain ⟨fo, ro, h1, h2, e⟩ := t.fill
  have one := fun tk => PySem.W.ksp_try (s := { s with toks := tk }) X I F.r F.rf (h tk)
  obtain ⟨hh, gg, d, tt, os⟩ := s
  have L1 : Looks (model prog w) hh (typeOf (.ref x)) (.ref C) := I.type
  have L2 : Looks (model prog w) hh (typeOf a) (.type T) := ha
  have L3 : Looks (model prog w) hh (fillsNumberSlot (.ref C) nm) true := PySem.W.fills_K X hcd hm F.l
  have L4 : Looks (model prog w) hh (fillsNumberSlot (.type T) nm) true := e ▸ PySem.W.ksp_fillsT X h1 h2
  have L5 : Looks (model prog w) hh (isSubtype (.ref C) (.type T)) false := PySem.W.looks_subIn X t.sup
  have L6 : Looks (model prog w) hh (numberSlotInPython (.type T) nm) false := Looks.of_pure rfl
  unfold binaryOp1
  refine wpAny_bind (L2.at (wpAny_bind (L1.at (wpAny_bind (L4.at ?_)))))
  simp only [ne_type_ref, Bool.false_eq_true, if_false]
  ksp_lk
  refine hd _ fun tk => ?_
  ksp_lk
  refine wpAny_mono (one tk) (fun r s' hr' => ?_) fun _ _ e => e
  obtain ⟨v, rfl, hq⟩ := hr'
  ksp_lk
  exact ⟨v, rfl, hq⟩
end
end Gs

set_option maxRecDepth 100000
set_option maxHeartbeats 4000000
/-! what is kept where lambdas are made; defs that make lambdas; what is heard of a BadRatio -/
namespace Gs
open PySem PySem.Spec PyProof.Rows L2 LamX
section
variable {K : PySem.W.Frag} {C : Addr} {H H' : Hp} {T : List (Addr × Str)}
theorem ExtN.rd {a : Addr} {u : HO} (e : ExtN H H') (n : ∀ ps, u ≠ .tbl ps) (r : Rd H a u) : Rd H' a u :=
  r.elim (fun h => .inl (e _ _ h n)) fun ⟨o, h⟩ => .inr ⟨o, e _ _ h fun _ z => by cases z⟩
theorem ExtN.sl {a : Addr} {xs : List V} (e : ExtN H H') (h : SqL K H a xs) : SqL K H' a xs := h.elim (fun r => .inl (ExtN.rd e (fun _ z => by cases z) r)) .inr
theorem ExtN.st {a : Addr} {xs : List V} (e : ExtN H H') (h : SqT K H a xs) : SqT K H' a xs := h.elim (fun r => .inl (ExtN.rd e (fun _ z => by cases z) r)) .inr
theorem ExtN.lst {a : Addr} {xs : List V} (e : ExtN H H') (h : H a = some (.lst xs)) : H' a = some (.lst xs) := e _ _ h fun _ z => by cases z
theorem ExtN.tup {a : Addr} {xs : List V} (e : ExtN H H') (h : H a = some (.tup xs)) : H' a = some (.tup xs) := e _ _ h fun _ z => by cases z
theorem ExtN.ofE (e : Ext H H') : ExtN H H' := fun b o h _ => e b o h
theorem dp_extN (e : ExtN H H') : ∀ {v : V} {d : PyData}, Dp K H v d → Dp K H' v d := by
  intro v d h
  induction h using Dp.rec (motive_2 := fun vs ds _ => DpAll K H' vs ds) with
  | non => exact .non
  | bl b => exact .bl b
  | int i => exact .int i
  | str x => exact .str x
  | lst h _ ih => exact .lst (ExtN.sl e h) ih
  | tup h _ ih => exact .tup (ExtN.st e h) ih
  | nil => exact .nil
  | cons _ _ a b => exact .cons a b
theorem Shw.extN {v : V} {d : PyData} (h : Shw K H v d) (e : ExtN H H') : Shw K H' v d := by
  cases h with
  | data h => exact .data (dp_extN e h)
  | dict h p => exact .dict (e _ _ h fun _ z => by cases z) p
theorem Pen.extN {p c : Addr} {n : Nat} (h : Pen H p c n) (e : ExtN H H') : Pen H' p c n := by
  obtain ⟨ns, a, b, h1, h2, h3⟩ := h.ex
  exact ⟨ns, a, b, ExtN.lst e h1, ExtN.lst e h2, h3⟩
theorem Rat.extN {a : Addr} {n d : Int} (h : Gs.Rat C H a n d) (e : ExtN H H') : Gs.Rat C H' a n d :=
  let ⟨dx, q⟩ := h
  ⟨dx, e _ _ q fun _ z => by cases z⟩
theorem AnyV.extN {v : V} (h : AnyV K C H v) (e : ExtN H H') : AnyV K C H' v := by
  cases h with
  | non => exact .non
  | bl b => exact .bl b
  | int i => exact .int i
  | str x => exact .str x
  | lst h => exact .lst (ExtN.lst e h)
  | tup h => exact .tup (ExtN.tup e h)
  | dK h => exact .dK (e _ _ h fun _ z => by cases z)
  | rat h => exact .rat (Rat.extN h e)
  | oth h t ty no nr ni nl => exact .oth (e _ _ h nl.2.2) t ty no nr ni nl
theorem AnyV.vratN {v : V} (h : AnyV K C H v) (e : ExtN H H') : vRat C H' v = vRat C H v := by
  have same : ∀ {a : Addr} {u : HO}, H a = some u → (∀ ps, u ≠ .tbl ps) → vRat C H' (.ref a) = vRat C H (.ref a) := fun {a u} q n => by
    rw [vRat_ref, vRat_ref, q, e _ _ q n]
  cases h with
  | non => rfl
  | bl b => rfl
  | int i => rfl
  | str x => rfl
  | lst h => exact same h fun _ z => by cases z
  | tup h => exact same h fun _ z => by cases z
  | dK h => exact same h fun _ z => by cases z
  | rat h => exact same h.choose_spec fun _ z => by cases z
  | oth h t ty no nr ni nl => exact same h nl.2.2
theorem tabs_ext (t : Tabs T H) (e : Ext H H') : Tabs T H' := t.ext e
theorem tabs_but {p : Addr} (t : Tabs T H) (b : But p H H') (hp : ∀ ps, H p ≠ some (.tbl ps)) (hq : ∀ q, H p ≠ some (CodeO p q)) : Tabs T H' := fun x hx => by
  obtain ⟨ps, h1, h2, h3⟩ := t x hx
  refine ⟨ps, b _ _ h1 fun z => hp ps (by rw [← z]; exact h1), h2, fun pos cv hc => ?_⟩
  obtain ⟨c, e1, e2⟩ := h3 pos cv hc
  exact ⟨c, e1, b _ _ e2 fun z => hq _ (by rw [← z]; exact e2)⟩
theorem tabs_pen {p c : Addr} {n : Nat} (t : Tabs T H) (P : Pen H p c n) (b : But p H H') : Tabs T H' := by
  obtain ⟨ns, a, g, h1, h2, h3⟩ := P.ex
  refine tabs_but t b (fun ps z => ?_) fun q z => ?_
  · rw [h1] at z
    cases z
  · rw [h1] at z
    unfold CodeO at z
    cases z
end

/-! ### defs that make lambdas -/
section
variable {P : Program} {w : World} {K : PySem.W.Frag} {mg : Str → Option Value} {base : Heap} {x : Str} {st : Stmt} {N ps : List Str} {k : Nat} {sp : Sp}
theorem fnG_ofC {CX : CXT} {f : Addr} {fd : FuncData} {qual : Str} {params : Arguments} {body : List Stmt} {scope : Scope} {dvs : List V} {kws : List (Str × V)}
    (F : FunD K x qual params body scope dvs kws f fd) (S : FnScope N ps scope) (ln : ∀ vs H Q E, sp vs H Q E → vs.length = ps.length)
    (bd : ∀ (cdv : Value) (A : Around) (out : List Env) (s : Shared) (H : Hp) (vs : List V) (Q : VK) (E : XK), fd.code = cdv → (A.deeper (envOfC qual scope s.heap.objs.size f cdv)).guards = some [] →
      Room k (A.deeper (envOfC qual scope s.heap.objs.size f cdv)) → sp vs H Q E →
      ∃ t, PSs (cxOf CX P w K mg base N qual scope f cdv A out s H E) body t ∧ t { nx := fun _ H' => Q .non H', rt := Q } (start N vs) H) : FnG P w K mg base CX (k + 1) f fd ps sp := by
  obtain ⟨oc, od, dV, kV, doc, pm, an, cdv, ct, osl, rfl, lk, hcd, _, _⟩ := F.ex
  refine ⟨ln, fun A out s H as us vs Q E hg hr e0 hb rv hsp => ?_⟩
  have hz := ln _ _ _ _ hsp
  have KX : K.In s.heap := e0.mod.kin.keeps fun b o e => (e0.bs b o e).1
  have nl : s.heap.NoLimit := e0.mod.nolimit.keeps fun b o e => (e0.bs b o e).1
  have par : ∀ y ∈ ps.zip us, scope.names.lookup y.1 = some .local ∨ (scope.names.lookup y.1 = some .cell ∧ ((cellsFrom (s.heap.objs.size + 1) scope.names []).lookup y.1).isSome = true) := by
    rintro ⟨n, v⟩ hy
    cases S.par n (List.of_mem_zip hy).1 with
    | inl q => exact .inl q
    | inr q => exact .inr ⟨q, PySem.W.cellsFrom_some _ _ _ (.inl q)⟩
  refine codeAny_call_function hr.depth (KX _ _ lk) rfl S.co S.gen rfl (PySem.W.codeRec_of KX hcd) (hb _ _ _ _ (wpAny_newFunctionEnv_cells S.kind par ?_))
  rintro env rfl s1 ic
  refine ⟨nl.keeps ic.toInCall.keep, codeAny_func ?_⟩
  obtain ⟨t, ht, hq⟩ := bd cdv A out s H vs Q E rfl hg (hr.deeper _) hsp
  refine wpAny_mono (ht.run [] s1 (start N vs) H _ (inv_start S hr.hd e0 hz rv ic) hq) ?_ fun e s' hs => hs
  intro fl s' hs
  match fl, hs with
  | .ret u, ⟨v, σ', H', J, r2, q⟩ => exact ⟨v, H', J.os, J.bare, J.base, J.hok, r2, q⟩
  | .next, ⟨σ', H', J, q⟩ => exact ⟨V.non, H', J.os, J.bare, J.base, J.hok, rfl, q⟩
  | .brk, ⟨_, _, _, q⟩ => exact q.elim
  | .cont, ⟨_, _, _, q⟩ => exact q.elim
theorem At.okT (a : At K mg x st) (hga : mg x = some (.ref (He.ga K x))) (S : FnScope N ps (defScope st)) (bnd : ∀ f fd, FunD K x x (defArgs st) (defBody st) (defScope st) [] [] f fd → Binds K fd ps []) (ln : ∀ vs H Q E, sp vs H Q E → vs.length = ps.length)
    (bd : ∀ (f : Addr) (A : Around) (out : List Env) (s : Shared) (H : Hp) (vs : List V) (Q : VK) (E : XK), (A.deeper (envOfC x (defScope st) s.heap.objs.size f (.ref (He.cT K (x, none)).1))).guards = some [] →
      Room k (A.deeper (envOfC x (defScope st) s.heap.objs.size f (.ref (He.cT K (x, none)).1))) → sp vs H Q E →
      ∃ t, PSs (cxOf CX0 P w K mg base N x (defScope st) f (.ref (He.cT K (x, none)).1) A out s H E).nox (defBody st) t ∧ t { nx := fun _ H' => Q .non H', rt := Q } (start N vs) H) : DefG P w K mg base CX0 (k + 1) x ps [] sp := by
  obtain ⟨f, fd, F, hm⟩ := a.ex
  obtain ⟨oc, od, dV, kV, doc, pm, an, cdv, ct, osl, e0, l1, hcd, _⟩ := id F.ex
  have ef : He.ga K x = f := by
    rw [hga] at hm
    cases hm
    rfl
  obtain ⟨c, rfl⟩ := He.codeIn_ref hcd
  have ec : (He.cT K (x, none)).1 = c := He.codeOf_eq (p := (x, none)) (fd := fd) (by show K.lookup (He.ga K x) = _; rw [ef]; exact l1) (by rw [e0] <;> rfl)
  have ok : FnG P w K mg base CX0 (k + 1) f fd ps sp := fnG_ofC F S ln fun cdv A out s H vs Q E hc hg hr h => by
    have : cdv = .ref (He.cT K (x, none)).1 := by
      rw [← hc, ec, e0] <;> rfl
    subst this
    obtain ⟨t, h1, h2⟩ := bd f A out s H vs Q E hg hr h
    exact ⟨t, h1.nox, h2⟩
  refine ⟨⟨f, fd, [], ok, hm, F.kp, bnd f fd F, .nil⟩, fun f2 fd2 e2 ⟨oc, od, osl, l2⟩ => ?_⟩
  rw [hm] at e2
  cases e2
  rw [l1] at l2
  cases l2
  exact ⟨ok, F.kp⟩
end
theorem takesLam {X : Cx} {A : Around} {out : List Env} {s : Shared} {H : Hp} {E : XK} {sc : Scope} {f c' : Addr} : Takes (lamCx X A out s H E sc f c') (fun cls d _ H => E cls d H) := takes_of rfl rfl rfl rfl

/-! ### what is heard -/
/-- a BadRatio of v, heard as ("ratio", repr(v)) -/
def HBad (K : PySem.W.Frag) (CB : Addr) (Q : VK) : XK := fun cls d H' => cls = .ref CB ∧ ∃ dd v D, d = some dd ∧ H' dd = some (.xd [("value", v)]) ∧ Shw K H' v D ∧ Fine D ∧ ∀ q H'', Ext H' H'' → H'' q = some (.tup [.str "ratio", .str D.shown]) → Q (.ref q) H''
theorem badV_heard {K : PySem.W.Frag} {CB : Addr} {H : Hp} {v : V} {D : PyData} {Q : VK} (sh : Shw K H v D) (fine : Fine D) (k : ∀ q H', Ext H H' → H' q = some (.tup [.str "ratio", .str D.shown]) → Q (.ref q) H') : BadV CB H (HBad K CB Q) v :=
  fun d H' e n h => ⟨rfl, d, v, D, rfl, h, sh.ext e, fine, fun q H'' e' hq => k q H'' (e.trans e') hq⟩
/-- Ratio(x, y) that is refused -/
theorem mk_bad {K : PySem.W.Frag} {C CB : Addr} {H : Hp} {x y : V} {Q : VK} {E : XK} (F : RatF K C) (ox : AnyV K C H x) (oy : AnyV K C H y)
    (h : (isI x = false ∧ BadV CB H E x) ∨ (isI x = true ∧ (isI y = false ∨ y = .int 0) ∧ BadV CB H E y)) :
    ∀ a dx, H a = none → H dx = none → dx ≠ a → spInit K C CB (.ref a :: ([x, y] ++ [])) (upd (upd H dx (.own a)) a (.ins C dx [])) Q E := by
  intro a dx na nd ne
  have nx' : upd H dx (.own a) a = none := by
    rw [upd_ne (Ne.symm ne)]
    exact na
  have e1 := (ext_new (o := .own a) nd).new (o := .ins C dx []) nx'
  refine ⟨a, dx, x, y, rfl, upd_same, ((ox.ext e1).odd F).1, ((oy.ext e1).odd F).1, fun z => ?_, fun z1 z2 => ?_, fun i j ei ej hj => ?_⟩
  · rcases h with ⟨_, h⟩ | ⟨h, _⟩
    · exact h.up e1
    · rw [h] at z
      cases z
  · rcases h with ⟨h, _⟩ | ⟨_, _, h⟩
    · rw [h] at z1
      cases z1
    · exact h.up e1
  · subst ei ej
    rcases h with ⟨h, _⟩ | ⟨_, h | h, _⟩
    · cases h
    · cases h
    · exact absurd (V.int.inj h) hj

/-! ### all but one object -/
def dl (H : Hp) (p : Addr) : Hp := fun b => if b = p then none else H b
section
variable {K : PySem.W.Frag} {C : Addr} {H H' : Hp} {p : Addr}
theorem dl_ne {q : Addr} (n : q ≠ p) : dl H p q = H q := if_neg n
theorem dl_at {q : Addr} {o : HO} (h : H q = some o) (n : q ≠ p) : dl H p q = some o := (dl_ne n).trans h
theorem dl_in (H : Hp) (p : Addr) : Ext (dl H p) H := fun b o e => by
  by_cases h : b = p
  · rw [dl, if_pos h] at e
    cases e
  · rw [dl, if_neg h] at e
    exact e
theorem dl_some {b : Addr} {o : HO} (e : dl H p b = some o) : b ≠ p ∧ H b = some o :=
  ⟨fun h => (by
    rw [dl, if_pos h] at e
    cases e), dl_in H p _ _ e⟩
theorem dl_but (b : But p H H') : Ext (dl H p) (dl H' p) := fun a o e => let ⟨n, h⟩ := dl_some e; dl_at (b a o h n) n
theorem dl_ext (e : Ext H H') : Ext (dl H p) (dl H' p) := fun a o h => let ⟨n, z⟩ := dl_some h; dl_at (e a o z) n
theorem dl_extN (e : ExtN H H') : ExtN (dl H p) (dl H' p) := fun a o h m => let ⟨n, z⟩ := dl_some h; dl_at (e a o z m) n
/-- a value whose text is told -/
structure KnO (K : PySem.W.Frag) (C : Addr) (H : Hp) (v : V) (D : PyData) : Prop where
  any : AnyV K C H v
  sh : Shw K H v D
  fine : Fine D
  lay : PyData.strOk D.shown = true
theorem KnO.ext {v : V} {D : PyData} (k : KnO K C H v D) (e : Ext H H') : KnO K C H' v D := ⟨k.any.ext e, k.sh.ext e, k.fine, k.lay⟩
theorem KnO.extN {v : V} {D : PyData} (k : KnO K C H v D) (e : ExtN H H') : KnO K C H' v D := ⟨AnyV.extN k.any e, Shw.extN k.sh e, k.fine, k.lay⟩
/-- .. that is no number -/
structure KnB (K : PySem.W.Frag) (C : Addr) (H : Hp) (v : V) (D : PyData) : Prop where
  o : KnO K C H v D
  nr : vRat C H v = false
  ni : isI v = false
theorem KnB.ext {v : V} {D : PyData} (k : KnB K C H v D) (e : Ext H H') : KnB K C H' v D := ⟨k.o.ext e, by rw [k.o.any.vrat e]; exact k.nr, k.ni⟩
theorem KnB.extN {v : V} {D : PyData} (k : KnB K C H v D) (e : ExtN H H') : KnB K C H' v D := ⟨k.o.extN e, by rw [AnyV.vratN k.o.any e]; exact k.nr, k.ni⟩
end

/-! ### a list of what is heard -/
def hdD (d : PyData) : PyData := .tuple [.str "ratio", .str d.shown]
def IsHd (H : Hp) (v : V) (d : PyData) : Prop := ∃ q, v = .ref q ∧ H q = some (.tup [.str "ratio", .str d.shown])
theorem isHd_dp {K : PySem.W.Frag} {H : Hp} {v : V} {d : PyData} (h : IsHd H v d) : Dp K H v (hdD d) := by
  obtain ⟨q, rfl, h⟩ := h
  exact .tup (.inl (.inl h)) (.cons (.str _) (.cons (.str _) .nil))
theorem isHds_dp {K : PySem.W.Frag} {H : Hp} {vs : List V} {ds : List PyData} (h : Paired (IsHd H) vs ds) : DpAll K H vs (ds.map hdD) := by
  induction h with
  | nil => exact .nil
  | cons a _ ih => exact .cons (isHd_dp a) ih
theorem shaped_hd {ds : List PyData} (h : ∀ d ∈ ds, PyData.strOk d.shown = true) : SeqAt.shaped (.list (ds.map hdD)) = true := by
  have one : ∀ d : PyData, PyData.strOk d.shown = true → (hdD d).canLay0 = true ∧ (hdD d).depth = 1 := fun d z => by
    constructor
    · simp [hdD, PyData.canLay0, PyData.canLayAll0, z]
      decide +kernel
    · simp [hdD, PyData.depth, PyData.depthAll]
  have all : PyData.canLayAll0 (ds.map hdD) = true ∧ PyData.depthAll (ds.map hdD) ≤ 1 := by
    induction ds with
    | nil => exact ⟨by simp [PyData.canLayAll0], by simp [PyData.depthAll]⟩
    | cons d ds ih =>
      obtain ⟨a, b⟩ := ih fun x hx => h x (List.mem_cons_of_mem _ hx)
      obtain ⟨c, e⟩ := one d (h d List.mem_cons_self)
      constructor
      · simp [PyData.canLayAll0, c, a]
      · simp only [List.map_cons, PyData.depthAll, e]
        omega
  simp [SeqAt.shaped, PyData.canLay0, PyData.depth, all.1]
  omega
/-- the list at l, laid over G, holds what was heard so far -/
structure Hrd (T : List (Addr × Str)) (G H : Hp) (l : Addr) (ds : List PyData) : Prop where
  en : ExtN G H
  n0 : G l = none
  tb : Tabs T H
  at_ : ∃ rs, H l = some (.lst rs) ∧ Paired (IsHd H) rs ds
section
variable {T : List (Addr × Str)} {G H H' : Hp} {l : Addr} {ds : List PyData}
theorem IsHd.extN {v : V} {d : PyData} (h : IsHd H v d) (e : ExtN H H') : IsHd H' v d :=
  let ⟨q, a, b⟩ := h
  ⟨q, a, ExtN.tup e b⟩
theorem Hrd.first {q : Addr} {d : PyData} (tb : Tabs T G) (hq : G q = some (.tup [.str "ratio", .str d.shown])) (n : G l = none) : Hrd T G (upd G l (.lst [.ref q])) l [d] :=
  ⟨ExtN.ofE (ext_new n), n, tb.ext (ext_new n), _, upd_same, .cons ⟨q, rfl, ext_new n _ _ hq⟩ .nil⟩
theorem Hrd.extN (h : Hrd T G H l ds) (e : ExtN H H') (t : Tabs T H') : Hrd T G H' l ds := by
  obtain ⟨rs, h1, h2⟩ := h.at_
  exact ⟨h.en.trans e, h.n0, t, rs, ExtN.lst e h1, L2.Paired.mapP h2 fun _ _ z => z.extN e⟩
theorem Hrd.ext (h : Hrd T G H l ds) (e : Ext H H') : Hrd T G H' l ds := h.extN (ExtN.ofE e) (h.tb.ext e)
theorem Hrd.add {q : Addr} {d : PyData} {rs : List V} (h : Hrd T G H l ds) (hl : H l = some (.lst rs)) (hq : H q = some (.tup [.str "ratio", .str d.shown])) : Hrd T G (upd H l (.lst (rs ++ [.ref q]))) l (ds ++ [d]) := by
  obtain ⟨rs', h1, h2⟩ := h.at_
  rw [hl] at h1
  cases h1
  have keep : ∀ {q : Addr} {xs : List V}, H q = some (.tup xs) → upd H l (.lst (rs ++ [.ref q])) q = some (.tup xs) := fun {q xs} z => by
    rw [upd_ne (ne_of z hl (by simp))]
    exact z
  have keep' : ∀ {q' : Addr} {xs : List V}, H q' = some (.tup xs) → upd H l (.lst (rs ++ [.ref q])) q' = some (.tup xs) := fun {q' xs} z => by
    rw [upd_ne (ne_of z hl (by simp))]
    exact z
  have app : ∀ {a : List V} {b : List PyData}, Paired (IsHd (upd H l (.lst (rs ++ [.ref q])))) a b → Paired (IsHd (upd H l (.lst (rs ++ [.ref q])))) (a ++ [.ref q]) (b ++ [d]) := fun {a b} z => by
    induction z with
    | nil => exact .cons ⟨q, rfl, keep' hq⟩ .nil
    | cons y _ ih => exact .cons y ih
  refine ⟨fun b o e n => ?_, h.n0, ?_, _, upd_same, app (L2.Paired.mapP h2 fun _ _ ⟨q', a, b⟩ => ⟨q', a, keep' b⟩)⟩
  · rw [upd_ne (ne_of_none e h.n0)]
    exact h.en _ _ e n
  · refine tabs_but (p := l) h.tb (fun b o e n => by rw [upd_ne n]; exact e) (fun ps z => ?_) fun q' z => ?_
    · rw [hl] at z
      cases z
    · rw [hl] at z
      unfold CodeO at z
      cases z
theorem Hrd.dp {K : PySem.W.Frag} (h : Hrd T G H l ds) : Dp K H (.ref l) (.list (ds.map hdD)) := by
  obtain ⟨rs, h1, h2⟩ := h.at_
  exact .lst (SqL.of h1) (isHds_dp h2)
end
end Gs

set_option maxRecDepth 100000
set_option maxHeartbeats 4000000
/-! operators of a class of the text, over tracked values -/
namespace Gs
open PySem PySem.Spec PyProof.Rows L2 PySem.Calls PySem.W
open AutoSeq1 (wpAny_loadPart')
/-- an int's slot, asked with an instance on its right, declines -/
theorem intBinary_no {M : Model} {A : Around} {E : Value → Shared → Prop} {s : Shared} {x C dx : Addr} {v : Value} {name : String} {f : Int → Int → Sem Fin} {refl : Bool} {R : Fin → Shared → Prop}
    (hv : (∃ i t, v = .int i t) ∨ ∃ b, v = .bool b) (hx : s.heap.get? x = some (PySem.W.instObj C dx)) (h : ∀ tk, R (.done (.ret .notImplemented)) { s with toks := tk }) :
    wpAny M A (Builtin.Int.intBinary name f refl ⟨[v, .ref x], []⟩) R E s := by
  obtain ⟨hp, g, d, tk, os⟩ := s
  rcases hv with ⟨i, t, rfl⟩ | ⟨b, rfl⟩
  · unfold Builtin.Int.intBinary slotArgs Builtin.Int.intOfSelf asInt?
    wp_walk using wpAny_loadPart' hx
    exact h tk
  · unfold Builtin.Int.intBinary slotArgs Builtin.Int.intOfSelf asInt?
    wp_walk using wpAny_loadPart' hx
    exact h tk
theorem pylong_no {M : Model} {A : Around} {E : Value → Shared → Prop} {s : Shared} {x C dx : Addr} {v : Value} {R : Unit → Shared → Prop}
    (hv : (∃ i t, v = .int i t) ∨ ∃ b, v = .bool b) (hx : s.heap.get? x = some (PySem.W.instObj C dx)) (h : R () s) : wpAny M A (Builtin.exactOperandsForPylong false ⟨[v, .ref x], []⟩) R E s := by
  obtain ⟨hp, g, d, tk, os⟩ := s
  rcases hv with ⟨i, t, rfl⟩ | ⟨b, rfl⟩
  · unfold Builtin.exactOperandsForPylong asInt?
    wp_walk using wpAny_loadPart' hx
    exact h
  · unfold Builtin.exactOperandsForPylong asInt?
    wp_walk using wpAny_loadPart' hx
    exact h
/-- a number of the language, asked with an instance on its right, declines -/
def Declines (nm : String) : Prop := ∀ (prog : Program) (w : World) (A : Around) (E : Value → Shared → Prop) (s : Shared) (x C dx : Addr) (v : Value) (Q : Option Value → Shared → Prop),
  ((∃ i t, v = .int i t) ∨ ∃ b, v = .bool b) → s.heap.get? x = some (PySem.W.instObj C dx) → (∀ tk, Q none { s with toks := tk }) → wpAny (model prog w) A (tryMethod v (PySem.dunder nm) (.ref x)) Q E s
theorem declines_add : Declines "add" := by
  intro prog w A E s x C dx v Q hv hx h
  rcases hv with ⟨i, t, rfl⟩ | ⟨b, rfl⟩
  · have h1 : s.TypeIs (.int i t) "int" := typeIs_int s i t
    have h2 : Slot "int" (PySem.dunder "add") "int.__add__" := PySem.F.slot_int_add
    have h3 : entryFor table "int.__add__" = some Builtin.«int.__add__» := PySem.F.entry_int_add
    have h4 : argsOk "int.__add__" ⟨[.int i t, .ref x], []⟩ := PySem.F.args_int_add_2 _ _
    have h5 : wpAny (model prog w) A.in1 (Builtin.«int.__add__» ⟨[.int i t, .ref x], []⟩) (GQ.FinOf prog w A (wants (fun v s' => v = .notImplemented ∧ Q none s') E)) (fun e s' => wants (fun v s' => v = .notImplemented ∧ Q none s') E (.error e) s') s := intBinary_no (.inl ⟨i, t, rfl⟩) hx fun tk => ⟨rfl, h tk⟩
    have h6 := @GQ.call_here prog w A E s "int" (PySem.dunder "add") "int.__add__" Builtin.«int.__add__» (.int i t) [.ref x] (fun v s' => v = .notImplemented ∧ Q none s') h2 h1 h3 h4 h5
    exact @wpAny_tryMethod_declines (model prog w) A E s (.int i t) (.ref x) "int" (PySem.dunder "add") "int.__add__" Q h1 h2 h6
  · have h1 : s.TypeIs (.bool b) "bool" := PyProof.Rows.typeIs_bool s b
    have h2 : Slot "bool" (PySem.dunder "add") "int.__add__" := PySem.F.slot_bool_add
    have h3 : entryFor table "int.__add__" = some Builtin.«int.__add__» := PySem.F.entry_int_add
    have h4 : argsOk "int.__add__" ⟨[.bool b, .ref x], []⟩ := PySem.F.args_int_add_2 _ _
    have h5 : wpAny (model prog w) A.in1 (Builtin.«int.__add__» ⟨[.bool b, .ref x], []⟩) (GQ.FinOf prog w A (wants (fun v s' => v = .notImplemented ∧ Q none s') E)) (fun e s' => wants (fun v s' => v = .notImplemented ∧ Q none s') E (.error e) s') s := intBinary_no (.inr ⟨b, rfl⟩) hx fun tk => ⟨rfl, h tk⟩
    have h6 := @GQ.call_here prog w A E s "bool" (PySem.dunder "add") "int.__add__" Builtin.«int.__add__» (.bool b) [.ref x] (fun v s' => v = .notImplemented ∧ Q none s') h2 h1 h3 h4 h5
    exact @wpAny_tryMethod_declines (model prog w) A E s (.bool b) (.ref x) "bool" (PySem.dunder "add") "int.__add__" Q h1 h2 h6
theorem declines_sub : Declines "sub" := by
  intro prog w A E s x C dx v Q hv hx h
  rcases hv with ⟨i, t, rfl⟩ | ⟨b, rfl⟩
  · have h1 : s.TypeIs (.int i t) "int" := typeIs_int s i t
    have h2 : Slot "int" (PySem.dunder "sub") "int.__sub__" := PySem.F.slot_int_sub
    have h3 : entryFor table "int.__sub__" = some Builtin.«int.__sub__» := PySem.F.entry_int_sub
    have h4 : argsOk "int.__sub__" ⟨[.int i t, .ref x], []⟩ := PySem.F.args_int_sub_2 _ _
    have h5 : wpAny (model prog w) A.in1 (Builtin.«int.__sub__» ⟨[.int i t, .ref x], []⟩) (GQ.FinOf prog w A (wants (fun v s' => v = .notImplemented ∧ Q none s') E)) (fun e s' => wants (fun v s' => v = .notImplemented ∧ Q none s') E (.error e) s') s := intBinary_no (.inl ⟨i, t, rfl⟩) hx fun tk => ⟨rfl, h tk⟩
    have h6 := @GQ.call_here prog w A E s "int" (PySem.dunder "sub") "int.__sub__" Builtin.«int.__sub__» (.int i t) [.ref x] (fun v s' => v = .notImplemented ∧ Q none s') h2 h1 h3 h4 h5
    exact @wpAny_tryMethod_declines (model prog w) A E s (.int i t) (.ref x) "int" (PySem.dunder "sub") "int.__sub__" Q h1 h2 h6
  · have h1 : s.TypeIs (.bool b) "bool" := PyProof.Rows.typeIs_bool s b
    have h2 : Slot "bool" (PySem.dunder "sub") "int.__sub__" := PySem.F.slot_bool_sub
    have h3 : entryFor table "int.__sub__" = some Builtin.«int.__sub__» := PySem.F.entry_int_sub
    have h4 : argsOk "int.__sub__" ⟨[.bool b, .ref x], []⟩ := PySem.F.args_int_sub_2 _ _
    have h5 : wpAny (model prog w) A.in1 (Builtin.«int.__sub__» ⟨[.bool b, .ref x], []⟩) (GQ.FinOf prog w A (wants (fun v s' => v = .notImplemented ∧ Q none s') E)) (fun e s' => wants (fun v s' => v = .notImplemented ∧ Q none s') E (.error e) s') s := intBinary_no (.inr ⟨b, rfl⟩) hx fun tk => ⟨rfl, h tk⟩
    have h6 := @GQ.call_here prog w A E s "bool" (PySem.dunder "sub") "int.__sub__" Builtin.«int.__sub__» (.bool b) [.ref x] (fun v s' => v = .notImplemented ∧ Q none s') h2 h1 h3 h4 h5
    exact @wpAny_tryMethod_declines (model prog w) A E s (.bool b) (.ref x) "bool" (PySem.dunder "sub") "int.__sub__" Q h1 h2 h6
theorem declines_mul : Declines "mul" := by
  intro prog w A E s x C dx v Q hv hx h
  rcases hv with ⟨i, t, rfl⟩ | ⟨b, rfl⟩
  · have h1 : s.TypeIs (.int i t) "int" := typeIs_int s i t
    have h2 : Slot "int" (PySem.dunder "mul") "int.__mul__" := PySem.F.slot_int_mul
    have h3 : entryFor table "int.__mul__" = some Builtin.«int.__mul__» := PySem.F.entry_int_mul
    have h4 : argsOk "int.__mul__" ⟨[.int i t, .ref x], []⟩ := PySem.F.args_int_mul_2 _ _
    have h5 : wpAny (model prog w) A.in1 (Builtin.«int.__mul__» ⟨[.int i t, .ref x], []⟩) (GQ.FinOf prog w A (wants (fun v s' => v = .notImplemented ∧ Q none s') E)) (fun e s' => wants (fun v s' => v = .notImplemented ∧ Q none s') E (.error e) s') s := intBinary_no (.inl ⟨i, t, rfl⟩) hx fun tk => ⟨rfl, h tk⟩
    have h6 := @GQ.call_here prog w A E s "int" (PySem.dunder "mul") "int.__mul__" Builtin.«int.__mul__» (.int i t) [.ref x] (fun v s' => v = .notImplemented ∧ Q none s') h2 h1 h3 h4 h5
    exact @wpAny_tryMethod_declines (model prog w) A E s (.int i t) (.ref x) "int" (PySem.dunder "mul") "int.__mul__" Q h1 h2 h6
  · have h1 : s.TypeIs (.bool b) "bool" := PyProof.Rows.typeIs_bool s b
    have h2 : Slot "bool" (PySem.dunder "mul") "int.__mul__" := PySem.F.slot_bool_mul
    have h3 : entryFor table "int.__mul__" = some Builtin.«int.__mul__» := PySem.F.entry_int_mul
    have h4 : argsOk "int.__mul__" ⟨[.bool b, .ref x], []⟩ := PySem.F.args_int_mul_2 _ _
    have h5 : wpAny (model prog w) A.in1 (Builtin.«int.__mul__» ⟨[.bool b, .ref x], []⟩) (GQ.FinOf prog w A (wants (fun v s' => v = .notImplemented ∧ Q none s') E)) (fun e s' => wants (fun v s' => v = .notImplemented ∧ Q none s') E (.error e) s') s := intBinary_no (.inr ⟨b, rfl⟩) hx fun tk => ⟨rfl, h tk⟩
    have h6 := @GQ.call_here prog w A E s "bool" (PySem.dunder "mul") "int.__mul__" Builtin.«int.__mul__» (.bool b) [.ref x] (fun v s' => v = .notImplemented ∧ Q none s') h2 h1 h3 h4 h5
    exact @wpAny_tryMethod_declines (model prog w) A E s (.bool b) (.ref x) "bool" (PySem.dunder "mul") "int.__mul__" Q h1 h2 h6
theorem declines_floordiv : Declines "floordiv" := by
  intro prog w A E s x C dx v Q hv hx h
  rcases hv with ⟨i, t, rfl⟩ | ⟨b, rfl⟩
  · have h1 : s.TypeIs (.int i t) "int" := typeIs_int s i t
    have h2 : Slot "int" (PySem.dunder "floordiv") "int.__floordiv__" := PySem.F.slot_int_floordiv
    have h3 : entryFor table "int.__floordiv__" = some Builtin.«int.__floordiv__» := PySem.F.entry_int_floordiv
    have h4 : argsOk "int.__floordiv__" ⟨[.int i t, .ref x], []⟩ := PySem.F.args_int_floordiv_2 _ _
    have h5 : wpAny (model prog w) A.in1 (Builtin.«int.__floordiv__» ⟨[.int i t, .ref x], []⟩) (GQ.FinOf prog w A (wants (fun v s' => v = .notImplemented ∧ Q none s') E)) (fun e s' => wants (fun v s' => v = .notImplemented ∧ Q none s') E (.error e) s') s := wpAny_bind (pylong_no (.inl ⟨i, t, rfl⟩) hx (intBinary_no (.inl ⟨i, t, rfl⟩) hx fun tk => ⟨rfl, h tk⟩))
    have h6 := @GQ.call_here prog w A E s "int" (PySem.dunder "floordiv") "int.__floordiv__" Builtin.«int.__floordiv__» (.int i t) [.ref x] (fun v s' => v = .notImplemented ∧ Q none s') h2 h1 h3 h4 h5
    exact @wpAny_tryMethod_declines (model prog w) A E s (.int i t) (.ref x) "int" (PySem.dunder "floordiv") "int.__floordiv__" Q h1 h2 h6
  · have h1 : s.TypeIs (.bool b) "bool" := PyProof.Rows.typeIs_bool s b
    have h2 : Slot "bool" (PySem.dunder "floordiv") "int.__floordiv__" := PySem.F.slot_bool_floordiv
    have h3 : entryFor table "int.__floordiv__" = some Builtin.«int.__floordiv__» := PySem.F.entry_int_floordiv
    have h4 : argsOk "int.__floordiv__" ⟨[.bool b, .ref x], []⟩ := PySem.F.args_int_floordiv_2 _ _
    have h5 : wpAny (model prog w) A.in1 (Builtin.«int.__floordiv__» ⟨[.bool b, .ref x], []⟩) (GQ.FinOf prog w A (wants (fun v s' => v = .notImplemented ∧ Q none s') E)) (fun e s' => wants (fun v s' => v = .notImplemented ∧ Q none s') E (.error e) s') s := wpAny_bind (pylong_no (.inr ⟨b, rfl⟩) hx (intBinary_no (.inr ⟨b, rfl⟩) hx fun tk => ⟨rfl, h tk⟩))
    have h6 := @GQ.call_here prog w A E s "bool" (PySem.dunder "floordiv") "int.__floordiv__" Builtin.«int.__floordiv__» (.bool b) [.ref x] (fun v s' => v = .notImplemented ∧ Q none s') h2 h1 h3 h4 h5
    exact @wpAny_tryMethod_declines (model prog w) A E s (.bool b) (.ref x) "bool" (PySem.dunder "floordiv") "int.__floordiv__" Q h1 h2 h6
theorem declines_mod : Declines "mod" := by
  intro prog w A E s x C dx v Q hv hx h
  rcases hv with ⟨i, t, rfl⟩ | ⟨b, rfl⟩
  · have h1 : s.TypeIs (.int i t) "int" := typeIs_int s i t
    have h2 : Slot "int" (PySem.dunder "mod") "int.__mod__" := PySem.F.slot_int_mod
    have h3 : entryFor table "int.__mod__" = some Builtin.«int.__mod__» := PySem.F.entry_int_mod
    have h4 : argsOk "int.__mod__" ⟨[.int i t, .ref x], []⟩ := PySem.F.args_int_mod_2 _ _
    have h5 : wpAny (model prog w) A.in1 (Builtin.«int.__mod__» ⟨[.int i t, .ref x], []⟩) (GQ.FinOf prog w A (wants (fun v s' => v = .notImplemented ∧ Q none s') E)) (fun e s' => wants (fun v s' => v = .notImplemented ∧ Q none s') E (.error e) s') s := intBinary_no (.inl ⟨i, t, rfl⟩) hx fun tk => ⟨rfl, h tk⟩
    have h6 := @GQ.call_here prog w A E s "int" (PySem.dunder "mod") "int.__mod__" Builtin.«int.__mod__» (.int i t) [.ref x] (fun v s' => v = .notImplemented ∧ Q none s') h2 h1 h3 h4 h5
    exact @wpAny_tryMethod_declines (model prog w) A E s (.int i t) (.ref x) "int" (PySem.dunder "mod") "int.__mod__" Q h1 h2 h6
  · have h1 : s.TypeIs (.bool b) "bool" := PyProof.Rows.typeIs_bool s b
    have h2 : Slot "bool" (PySem.dunder "mod") "int.__mod__" := PySem.F.slot_bool_mod
    have h3 : entryFor table "int.__mod__" = some Builtin.«int.__mod__» := PySem.F.entry_int_mod
    have h4 : argsOk "int.__mod__" ⟨[.bool b, .ref x], []⟩ := PySem.F.args_int_mod_2 _ _
    have h5 : wpAny (model prog w) A.in1 (Builtin.«int.__mod__» ⟨[.bool b, .ref x], []⟩) (GQ.FinOf prog w A (wants (fun v s' => v = .notImplemented ∧ Q none s') E)) (fun e s' => wants (fun v s' => v = .notImplemented ∧ Q none s') E (.error e) s') s := intBinary_no (.inr ⟨b, rfl⟩) hx fun tk => ⟨rfl, h tk⟩
    have h6 := @GQ.call_here prog w A E s "bool" (PySem.dunder "mod") "int.__mod__" Builtin.«int.__mod__» (.bool b) [.ref x] (fun v s' => v = .notImplemented ∧ Q none s') h2 h1 h3 h4 h5
    exact @wpAny_tryMethod_declines (model prog w) A E s (.bool b) (.ref x) "bool" (PySem.dunder "mod") "int.__mod__" Q h1 h2 h6

section
variable {X : Cx} {CX : CXT} {k : Nat} {f g C : Addr} {ps : List Str} {dvs : List V} {sp : Sp} {E : XK} {pins : List (Addr × Obj)} {σ : L2.St} {H : Hp} {s : Shared} {Q : VK} {vs : List V} {us : List Value}
/-- a function of the text run by an operator -/
theorem own_run (D : FunOk X.prog X.w X.K X.mg X.base CX k f ps dvs sp) (hr : Room k X.A) (hx : Passes CX X E) (I : Inv X pins σ H s) (rv : Vals vs us) (h : sp (vs ++ dvs) H Q E) :
    wpAny (model X.prog X.w) X.A (call (.ref f) us) (EP X pins σ Q) X.xe s := by
  obtain ⟨fd, ds, F, hb, hd⟩ := D.ex
  have rr := rv.append hd
  have lz : (us ++ ds).length = ps.length := rr.length ▸ F.len _ _ _ _ h
  refine wpAny_call (codeAny_mono (F.run X.A X.stack s H ⟨us, []⟩ _ _ Q E hr I.env0 (hb s us I.kIn lz) rr h) ?_)
  intro r s' hq
  match r, hq with
  | .error e, hq => exact hx pins σ H s e s' I hq
  | .ok (.ret u), hq => exact I.after hq
  | .ok .next, hq => exact hq.elim
  | .ok .brk, hq => exact hq.elim
  | .ok .cont, hq => exact hq.elim
theorem back_of {v : Value} {s' : Shared} (h : EP X pins σ Q v s') : PySem.W.CmpBack (EP X pins σ Q) v s' := by
  obtain ⟨z, H', I, r, q⟩ := id h
  exact SlX.cmpback r h
theorem ins_at {a dx : Addr} {fs : List (Str × V)} (I : Inv X pins σ H s) (h : H a = some (.ins C dx fs)) : s.heap.get? a = some (PySem.W.instObj C dx) ∧ ∃ od, InstAt s.heap a (PySem.W.instObj C dx) C od := by
  obtain ⟨mA, J, _⟩ := ins_get I.hok h
  obtain ⟨od, J2, _⟩ := J.look
  exact ⟨J.1, _, J2⟩
/-- -x -/
def rNegO (C : Addr) (sp : Sp) (E : XK) : V → Hp → VK → Prop := fun x H Q => ∃ a dx fs, x = .ref a ∧ H a = some (.ins C dx fs) ∧ sp [x] H Q E
theorem un_negO (D : FunOk X.prog X.w X.K X.mg X.base CX k f ps [] sp) (hs : findIn X.K (.ref C) "__neg__" = some (some (.ref f))) (hf : isFn X.K (.ref f) = true) (hr : Room k X.A) (hx : Passes CX X E) : UnR X (unaryOp .USub) (rNegO C sp E) := by
  intro pins s σ H x v Q I rx h
  obtain ⟨a, dx, fs, rfl, hi, h⟩ := h
  cases rx
  obtain ⟨_, od, J⟩ := ins_at I hi
  obtain ⟨m, hF⟩ := I.fr
  exact ksp_neg hF I.ok.mod.kin J hs hf (own_run D hr hx I (vs := [.ref a]) (.cons rfl .nil) h)
/-- x < y and its kin, x of the class -/
def rCmpO (K : PySem.W.Frag) (C : Addr) (sp : Sp) (E : XK) : R2 := fun x y H Q => ∃ a dx fs t, x = .ref a ∧ H a = some (.ins C dx fs) ∧ TyX K H y t ∧ notFirst K C t = true ∧ sp [x, y] H Q E
theorem op_cmpO {op : CmpOp} (D : FunOk X.prog X.w X.K X.mg X.base CX k f ps [] sp) (hs : findIn X.K (.ref C) (cmpInfo op).2.1 = some (some (.ref f))) (hf : isFn X.K (.ref f) = true) (hr : Room k X.A) (hx : Passes CX X E)
    (ho : ∀ a b, compareOp op a b = richCompare op a b := by intros; rfl) : OpR X (compareOp op) (rCmpO X.K C sp E) := by
  intro pins s σ H x y v u Q I rx ry h
  obtain ⟨a, dx, fs, t, rfl, hi, ty, hn, h⟩ := h
  cases rx
  obtain ⟨_, od, J⟩ := ins_at I hi
  obtain ⟨m, hF⟩ := I.fr
  obtain ⟨P, Z, p, _⟩ := kit_of I ry ty
  rw [ho]
  exact cmp_K hr.units0 hF I.ok.mod.kin J (Z.ty _ _ I.kIn p) hn hs hf (wpAny_mono (own_run D hr hx I (vs := [.ref a, y]) (.cons rfl (.cons ry .nil)) h) (fun _ _ z => back_of z) fun _ _ z => z)
/-- what stands beside an own value -/
structure OwnB (K : PySem.W.Frag) (C : Addr) (nm : String) (f g : Addr) : Prop where
  o : OpF K C nm f g
  t0 : ∀ T ∈ (["NoneType", "str", "list", "tuple", "dict"] : List String), ∃ l, OpT K C nm T l
  t1 : ∀ T ∈ (["int", "bool"] : List String), OpT K C nm T true
  dec : Declines nm
def SideT (K : PySem.W.Frag) (H : Hp) (y : V) : Prop := (∃ i, y = .int i) ∨ (∃ b, y = .bl b) ∨ ∃ T, T ∈ (["NoneType", "str", "list", "tuple", "dict"] : List String) ∧ TyX K H y (.type T)
def SideL (K : PySem.W.Frag) (C : Addr) (nm : String) (H : Hp) (y : V) : Prop := (∃ i, y = .int i) ∨ (∃ b, y = .bl b) ∨ ∃ T, OpT K C nm T false ∧ TyX K H y (.type T)
/-- x + y and its kin -/
def rBinO (K : PySem.W.Frag) (C : Addr) (nm : String) (spL spR : Sp) (E : XK) : R2 := fun x y H Q =>
  (∃ a dx fs, x = .ref a ∧ H a = some (.ins C dx fs) ∧ ((∃ b dy gs, y = .ref b ∧ H b = some (.ins C dy gs)) ∨ SideT K H y) ∧ spL [x, y] H Q E) ∨
  ∃ b dy gs, y = .ref b ∧ H b = some (.ins C dy gs) ∧ SideL K C nm H x ∧ spR [y, x] H Q E
theorem bin1_own {nm : String} {k2 : Nat} {ps2 : List Str} {spL spR : Sp} {x y : V} {v u : Value} (DL : FunOk X.prog X.w X.K X.mg X.base CX k f ps [] spL) (DR : FunOk X.prog X.w X.K X.mg X.base CX k2 g ps2 [] spR) (F : OwnB X.K C nm f g) (hr : Room k X.A) (hr2 : Room k2 X.A) (hx : Passes CX X E)
    (I : Inv X pins σ H s) (rx : RelV x v) (ry : RelV y u) (h : rBinO X.K C nm spL spR E x y H Q) : wpAny (model X.prog X.w) X.A (binaryOp1 nm v u) (fun r s' => ∃ z, r = some z ∧ EP X pins σ Q z s') X.xe s := by
  have tyI : ∀ {y : V} {i : Int} {u : Value}, RelV y u → y = .int i → Looks (model X.prog X.w) s.heap (typeOf u) (.type "int") := fun {y i u} r e => by
    subst e
    obtain ⟨t, rfl⟩ := r
    exact Looks.of_pure rfl
  have tyB : ∀ {y : V} {b : Bool} {u : Value}, RelV y u → y = .bl b → Looks (model X.prog X.w) s.heap (typeOf u) (.type "bool") := fun {y b u} r e => by
    subst e
    cases r
    exact Looks.of_pure rfl
  rcases h with ⟨a, dx, fs, rfl, hi, hy, h⟩ | ⟨b, dy, gs, rfl, hi, hy, h⟩
  · cases rx
    obtain ⟨_, od, J⟩ := ins_at I hi
    have run := wpAny_mono (own_run DL hr hx I (vs := [.ref a, y]) (.cons rfl (.cons ry .nil)) h) (fun _ _ z => back_of z) fun _ _ z => z
    rcases hy with ⟨b, dy, gs, rfl, hb⟩ | ⟨i, hy⟩ | ⟨b, hy⟩ | ⟨T, hT, ty⟩
    · cases ry
      obtain ⟨_, od2, J2⟩ := ins_at I hb
      exact bin1_same I.kIn J F.o J2.type run
    · exact bin1_left I.kIn J F.o (tyI ry hy) (F.t1 "int" (by decide)) run
    · exact bin1_left I.kIn J F.o (tyB ry hy) (F.t1 "bool" (by decide)) run
    · obtain ⟨P, Z, p, _⟩ := kit_of I ry ty
      obtain ⟨l, ot⟩ := F.t0 T hT
      exact bin1_left I.kIn J F.o (Z.ty _ _ I.kIn p) ot run
  · cases ry
    obtain ⟨hb, od, J⟩ := ins_at I hi
    have run : ∀ tk, wpAny (model X.prog X.w) X.A (call (.ref g) [.ref b, v]) (PySem.W.CmpBack (EP X pins σ Q)) X.xe { s with toks := tk } := fun tk =>
      wpAny_mono (own_run DR hr2 hx (I.tok tk) (vs := [.ref b, x]) (.cons rfl (.cons rx .nil)) h) (fun _ _ z => back_of z) fun _ _ z => z
    rcases hy with ⟨i, hy⟩ | ⟨c, hy⟩ | ⟨T, ot, ty⟩
    · refine bin1_right1 I.kIn J F.o (tyI rx hy) (F.t1 "int" (by decide)) (fun Q' hq => F.dec _ _ _ _ _ _ _ _ _ _ ?_ hb hq) run
      subst hy
      obtain ⟨t, e⟩ := rx
      exact .inl ⟨i, t, e⟩
    · refine bin1_right1 I.kIn J F.o (tyB rx hy) (F.t1 "bool" (by decide)) (fun Q' hq => F.dec _ _ _ _ _ _ _ _ _ _ ?_ hb hq) run
      subst hy
      exact .inr ⟨c, rx⟩
    · obtain ⟨P, Z, p, _⟩ := kit_of I rx ty
      exact bin1_right0 I.kIn J F.o (Z.ty _ _ I.kIn p) ot (wpAny_mono (own_run DR hr2 hx I (vs := [.ref b, x]) (.cons rfl (.cons rx .nil)) h) (fun _ _ z => back_of z) fun _ _ z => z)
theorem op_binO {op : Operator} {k2 : Nat} {ps2 : List Str} {spL spR : Sp} (DL : FunOk X.prog X.w X.K X.mg X.base CX k f ps [] spL) (DR : FunOk X.prog X.w X.K X.mg X.base CX k2 g ps2 [] spR) (F : OwnB X.K C op.info.2 f g) (hr : Room k X.A) (hr2 : Room k2 X.A) (hx : Passes CX X E) :
    OpR X (binaryOp op) (rBinO X.K C op.info.2 spL spR E) := by
  intro pins s σ H x y v u Q I rx ry h
  rcases hi : op.info with ⟨sym, nm⟩
  rw [hi] at F h
  simp only [binaryOp, hi]
  refine wpAny_holding (wpAny_bind (wpAny_mono (bin1_own DL DR F hr hr2 hx I rx ry h) (fun r s' hq => ?_) fun _ _ z => z))
  obtain ⟨z, rfl, hq⟩ := hq
  exact wpAny_pure hq
end
/-! ### the lambdas of a text -/
def lamAr (e : Expr) : Arguments := match e with
  | .Lambda a _ _ _ => a
  | _ => defArgs (.Pass ⟨0, 0, 0, 0⟩)
def lamBd (e : Expr) : Expr := match e with
  | .Lambda _ b _ _ => b
  | e => e
def lamSc (e : Expr) : Scope := match e with
  | .Lambda _ _ s _ => s
  | _ => defScope (.Pass ⟨0, 0, 0, 0⟩)
def isLam (e : Expr) : Bool := match e with
  | .Lambda _ _ _ _ => true
  | _ => false
def lamsE (e : Expr) : List Expr := match e with
  | .List es _ => es.filter isLam
  | .Tuple es _ _ => es.filter isLam
  | .Call _ es _ _ => es.filter isLam
  | _ => []
def lamsS (b : List Stmt) : List Expr := b.flatMap fun s => match s with
  | .Assign _ e _ => lamsE e
  | .Expr e _ => lamsE e
  | _ => []
def lamAt (s : Stmt) (i : Nat) : Expr := (lamsS (defBody s)).getD i (.Name "" ⟨0, 0, 0, 0⟩)
theorem pe_orr {X : Cx} {e : Expr} {t1 t2 : TE} (h1 : PE X e t1) (h2 : PE X e t2) : PE X e (fun σ H Q => t1 σ H Q ∨ t2 σ H Q) := ⟨fun pins s σ H Q I h => h.elim (fun h => h1.run pins s σ H Q I h) fun h => h2.run pins s σ H Q I h⟩
/-! ### in an except suite: what the caught error is, own == asked there -/
def rIsS (K : PySem.W.Frag) (D a : Addr) (cls : Value) (d : Option Addr) : List V → Hp → VK → Prop := fun xs H Q => ∃ (c : V) (u : Value) (b : Bool) (dd : Addr) (fs : List (Str × V)), xs = [.ref a, c] ∧ ClsV c u ∧ cls = .ref D ∧ d = some dd ∧ H dd = some (.xd fs) ∧ PySem.W.kitOne K (.ref D) u = some b ∧ Q (.bl b) H
theorem call_isS {X : Cx} {a D : Addr} {oe : Obj} {cls : Value} {d : Option Addr} {pn : List (Addr × Obj)} (XC : XhC X.K D) (hz : Zc cls d oe) (hf : ∃ vs, oe.data = .fields vs) : CallR (X.suite a ((a, oe) :: pn)) (.builtin "isinstance") (rIsS X.K D a cls d) := by
  intro pins s σ H xs us Q I r h
  obtain ⟨c, u, b, dd, fs, rfl, k, ec, ed, hx, e, q⟩ := h
  obtain ⟨u1, u2, rfl, r1, r2⟩ := vals2 r
  have e2 := k.eq r2
  subst e2
  obtain rfl : u1 = Value.ref a := r1
  have g := (I.pin (a, oe) (List.mem_append_left _ List.mem_cons_self)).1
  obtain ⟨vs, hv⟩ := hf
  obtain ⟨mA, hns, hr⟩ := (show ObjOk X.prog X.w H s.heap dd (.xd fs) from I.hok dd _ hx)
  obtain ⟨o, es, ep, ho, _⟩ := id hns
  have J : PySem.W.InstAt s.heap a oe D (some o) := by
    obtain ⟨oc, od, oda, osl⟩ := oe
    obtain ⟨h1, h2⟩ := hz
    dsimp only at h1 h2 hv
    subst h1 h2 hv ec ed
    exact ⟨g, rfl, rfl, ho⟩
  exact PySem.W.kia_one (PySem.W.kitx_exc XC.some_ XC.xf.ga XC.xf.gg XC.xf.exC XC.at_ XC.sp XC.tk XC.ob) I.kIn J e (fun z => nomatch z) fun tk => ⟨.bl b, H, I.tok tk, rfl, q⟩
/-- a function that raises nothing, run where an exception is handled: p's object stands apart -/
structure FnC (P : Program) (w : World) (K : PySem.W.Frag) (mg : Str → Option Value) (base : Heap) (k : Nat) (f : Addr) (fd : FuncData) (ps : List Str) (sp : Sp) : Prop where
  len : ∀ vs H Q E, sp vs H Q E → vs.length = ps.length
  go : ∀ (A : Around) (out : List Env) (s : Shared) (H : Hp) (as : Args) (us : List Value) (vs : List V) (Q : VK) (E : XK) (p : Addr × Obj), L2H.RoomH k A → L2H.PinOk out H s p → Env0 P w K mg base A out s H → BindsTo s fd as (ps.zip us) → Vals vs us → sp vs H Q E →
    codeAny (model P w) A (.call (.ref f) as) (CR CX0 out P w H s Q E) s
structure FunC (P : Program) (w : World) (K : PySem.W.Frag) (mg : Str → Option Value) (base : Heap) (k : Nat) (f : Addr) (ps : List Str) (sp : Sp) : Prop where
  ex : ∃ fd, FnC P w K mg base k f fd ps sp ∧ Binds K fd ps []
section
variable {P : Program} {w : World} {K : PySem.W.Frag} {mg : Str → Option Value} {base : Heap} {x qual : Str} {st : Stmt} {N ps : List Str} {k : Nat} {sp : Sp} {f : Addr} {dv : List V}
theorem AtF.okC (a : AtF K f x qual st dv) (S : FnScope N ps (defScope st)) (bnd : ∀ fd, FunD K x qual (defArgs st) (defBody st) (defScope st) dv [] f fd → Binds K fd ps []) (ln : ∀ vs H Q E, sp vs H Q E → vs.length = ps.length)
    (bd : ∀ (cdv : Value) (A : Around) (out : List Env) (s : Shared) (H : Hp) (vs : List V) (Q : VK) (E : XK) (p : Addr × Obj), L2H.RoomH k (A.deeper (envOfC qual (defScope st) s.heap.objs.size f cdv)) → sp vs H Q E →
      ∃ t, PSs (L2H.cxH CX0 P w K mg base N qual (defScope st) f cdv A out s H E p) (defBody st) t ∧ t { nx := fun _ H' => Q .non H', rt := Q } (L2.start N vs) H) : FunC P w K mg base (k + 1) f ps sp := by
  obtain ⟨fd, F⟩ := a.ex
  refine ⟨fd, ⟨ln, ?_⟩, bnd fd F⟩
  obtain ⟨oc, od, dV, kV, doc, pm, an, cdv, ct, osl, rfl, lk, hcd, _, _⟩ := F.ex
  intro A out s H as us vs Q E p hr pin e0 hb rv hsp
  have hz := ln _ _ _ _ hsp
  have KX : K.In s.heap := e0.mod.kin.keeps fun b o e => (e0.bs b o e).1
  have nl : s.heap.NoLimit := e0.mod.nolimit.keeps fun b o e => (e0.bs b o e).1
  have par : ∀ y ∈ ps.zip us, (defScope st).names.lookup y.1 = some .local ∨ ((defScope st).names.lookup y.1 = some .cell ∧ ((cellsFrom (s.heap.objs.size + 1) (defScope st).names []).lookup y.1).isSome = true) := by
    rintro ⟨n, v⟩ hy
    cases S.par n (List.of_mem_zip hy).1 with
    | inl q => exact .inl q
    | inr q => exact .inr ⟨q, PySem.W.cellsFrom_some _ _ _ (.inl q)⟩
  refine codeAny_call_function hr.depth (KX _ _ lk) rfl S.co S.gen rfl (PySem.W.codeRec_of KX hcd) (hb _ _ _ _ (wpAny_newFunctionEnv_cells S.kind par ?_))
  rintro env rfl s1 ic
  refine ⟨nl.keeps ic.toInCall.keep, codeAny_func ?_⟩
  obtain ⟨t, ht, hq⟩ := bd cdv A out s H vs Q E p (hr.deeper _) hsp
  have I := L2H.inv_startH (CX := CX0) (E := E) S pin e0 hz rv ic
  refine wpAny_mono (ht.run [] s1 (L2.start N vs) H _ I hq) ?_ fun e s' hs => hs
  intro fl s' hs
  match fl, hs with
  | .ret u, ⟨v, σ', H', J, r2, q⟩ => exact ⟨v, H', J.os, J.bare, J.base, J.hok, r2, q⟩
  | .next, ⟨σ', H', J, q⟩ => exact ⟨V.non, H', J.os, J.bare, J.base, J.hok, rfl, q⟩
  | .brk, ⟨_, _, _, q⟩ => exact q.elim
  | .cont, ⟨_, _, _, q⟩ => exact q.elim
end
/-- x == y in a suite, by the own == -/
theorem op_cmpS {op : CmpOp} {X : Cx} {a C f : Addr} {oe : Obj} {pn : List (Addr × Obj)} {k : Nat} {ps : List Str} {sp : Sp} (D : FunC X.prog X.w X.K X.mg X.base k f ps sp) (hs : findIn X.K (.ref C) (cmpInfo op).2.1 = some (some (.ref f))) (hf : isFn X.K (.ref f) = true) (hr : Room k X.A)
    (ho : ∀ a b, compareOp op a b = richCompare op a b := by intros; rfl) : OpR (X.suite a ((a, oe) :: pn)) (compareOp op) (rCmpO X.K C sp E0) := by
  intro pins s σ H x y v u Q I rx ry h
  obtain ⟨b, dx, fs, t, rfl, hi, ty, hn, h⟩ := h
  cases rx
  obtain ⟨_, od, J⟩ := ins_at I hi
  obtain ⟨m, hF⟩ := I.fr
  obtain ⟨P, Z, p, _⟩ := kit_of I ry ty
  obtain ⟨fd, F, hb⟩ := D.ex
  have P1 := I.pin (a, oe) (List.mem_append_left _ List.mem_cons_self)
  have pin : L2H.PinOk (X.suite a ((a, oe) :: pn)).stack H s (a, oe) := ⟨P1.1, P1.2.1, fun hm => (List.mem_cons.mp (I.stkSub a hm)).elim P1.2.2.1 P1.2.2.2.1, P1.2.2.2.2⟩
  have hrS : L2H.RoomH k (X.suite a ((a, oe) :: pn)).A := ⟨hr.dp, hr.un⟩
  have bb := hb s [.ref b, u] I.kIn (by rw [List.append_nil]; exact F.len _ _ _ _ h)
  rw [List.append_nil] at bb
  rw [ho]
  refine cmp_K hr.units0 hF I.ok.mod.kin J (Z.ty _ _ I.kIn p) hn hs hf (wpAny_call (codeAny_mono (F.go _ _ s H ⟨[.ref b, u], []⟩ _ [.ref b, y] Q E0 (a, oe) hrS pin I.env0 bb (.cons rfl (.cons ry .nil)) h) ?_))
  intro r s' hq
  match r, hq with
  | .error e, hq => exact (show False from hq).elim
  | .ok (.ret u), hq => exact back_of (I.after hq)
  | .ok .next, hq => exact hq.elim
  | .ok .brk, hq => exact hq.elim
  | .ok .cont, hq => exact hq.elim
theorem vrat_at {K : PySem.W.Frag} {C : Addr} {H : Hp} {v : V} (h : AnyV K C H v) (t : vRat C H v = true) : ∃ b n d, v = .ref b ∧ Gs.Rat C H b n d := by
  cases h with
  | rat h => exact ⟨_, _, _, rfl, h⟩
  | non => cases t
  | bl b => cases t
  | int i => cases t
  | str x => cases t
  | lst h =>
    rw [vRat_ref, h] at t
    cases t
  | tup h =>
    rw [vRat_ref, h] at t
    cases t
  | dK h =>
    rw [vRat_ref, h] at t
    cases t
  | @oth a u h t2 ty no nr ni nl =>
    rw [vRat_ref, h] at t
    cases u with
    | ins D dx fs =>
      exact absurd (of_decide_eq_true t) (ni D dx fs rfl)
    | _ => cases t
/-- a reading kept in one piece -/
def tId (t : TS) : TS := t
theorem ps_id {X : Cx} {s : Stmt} {t : TS} (h : PS X s t) : PS X s (tId t) := h
/-! ### the facts, checked -/
def opTB (K : PySem.W.Frag) (C : Addr) (nm : String) (T : String) (l : Bool) : Bool :=
  (match PySem.W.findIn K (.type T) (PySem.dunder nm), PySem.W.findIn K (.type T) (dunderR nm) with
    | some fo, some ro => ((fo.isSome && !isSeqSlot fo) || (ro.isSome && !isSeqSlot ro)) == l
    | _, _ => false) && (decide (PySem.W.subIn K (.type T) (.ref C) = some false) && decide (PySem.W.subIn K (.ref C) (.type T) = some false))
theorem opTB_ok {K : PySem.W.Frag} {C : Addr} {nm T : String} {l : Bool} (h : opTB K C nm T l = true) : OpT K C nm T l := by
  obtain ⟨h1, h⟩ := He.ba h
  obtain ⟨h2, h3⟩ := He.ba h
  refine ⟨?_, of_decide_eq_true h2, of_decide_eq_true h3⟩
  cases a : PySem.W.findIn K (.type T) (PySem.dunder nm) with
  | none =>
    rw [a] at h1
    cases h1
  | some fo =>
    cases b : PySem.W.findIn K (.type T) (dunderR nm) with
    | none =>
      rw [a, b] at h1
      cases h1
    | some ro =>
      rw [a, b] at h1
      exact ⟨fo, ro, rfl, rfl, beq_iff_eq.mp h1⟩
/-- the method m of the class, a function of its own -/
def mthB (K : PySem.W.Frag) (C : Addr) (m : Str) : Bool := decide (PySem.W.findIn K (.ref C) m = some (some (.ref (He.ma K C m)))) && PySem.W.isFn K (.ref (He.ma K C m))
theorem mthB_ok {K : PySem.W.Frag} {C : Addr} {m : Str} (h : mthB K C m = true) : PySem.W.findIn K (.ref C) m = some (some (.ref (He.ma K C m))) ∧ PySem.W.isFn K (.ref (He.ma K C m)) = true := let ⟨a, b⟩ := He.ba h; ⟨of_decide_eq_true a, b⟩
def ownBB (K : PySem.W.Frag) (C : Addr) (nm : String) : Bool :=
  PySem.W.selfFirst K C && (mthB K C (PySem.dunder nm) && (mthB K C (dunderR nm) && ((["NoneType", "str", "list", "tuple", "dict"] : List String).all (fun T => opTB K C nm T true || opTB K C nm T false) && (["int", "bool"] : List String).all (fun T => opTB K C nm T true))))
theorem ownBB_ok {K : PySem.W.Frag} {C : Addr} {nm : String} (h : ownBB K C nm = true) (d : Declines nm) : OwnB K C nm (He.ma K C (PySem.dunder nm)) (He.ma K C (dunderR nm)) := by
  obtain ⟨h1, h⟩ := He.ba h
  obtain ⟨h2, h⟩ := He.ba h
  obtain ⟨h3, h⟩ := He.ba h
  obtain ⟨h4, h5⟩ := He.ba h
  refine ⟨⟨h1, (mthB_ok h2).1, (mthB_ok h3).1, (mthB_ok h2).2, (mthB_ok h3).2⟩, fun T hT => ?_, fun T hT => opTB_ok (List.all_eq_true.mp h5 T hT), d⟩
  rcases Bool.or_eq_true_iff.mp (List.all_eq_true.mp h4 T hT) with z | z
  · exact ⟨_, opTB_ok z⟩
  · exact ⟨_, opTB_ok z⟩
end Gs

set_option maxRecDepth 100000
set_option maxHeartbeats 4000000
/-! comparisons with an own value on the right: the left one's slots decline -/
namespace Gs
open PySem PySem.Spec PyProof.Rows L2 PySem.Calls PySem.W
open AutoSeq1 (wpAny_loadPart')
theorem isInst_no {M : Model} {A : Around} {E : Value → Shared → Prop} {s : Shared} {K : PySem.W.Frag} {x C : Addr} {ox : Obj} {od : Option Obj} {T : String} {R : Bool → Shared → Prop} (X : K.In s.heap) (I : PySem.W.InstAt s.heap x ox C od) (hs : PySem.W.subIn K (.ref C) (.type T) = some false) (h : R false s) :
    wpAny M A (isInstance (.ref x) (.type T)) R E s := by
  unfold isInstance
  exact wpAny_bind (I.type.here ((PySem.W.looks_subIn X hs).here h))
/-- v, of the type T, declines the comparison op with an own value -/
def CDec (op : CmpOp) (T : String) : Prop := ∀ (prog : Program) (w : World) (A : Around) (E : Value → Shared → Prop) (s : Shared) (K : PySem.W.Frag) (x C dx : Addr) (od : Option Obj) (v : Value) (Q : Option Value → Shared → Prop),
  s.TypeIs v T → (T = "str" → ∃ z t, v = .str z t) → (T = "int" → ∃ i t, v = .int i t) → (T = "bool" → ∃ b, v = .bool b) → (T = "NoneType" → v = .none) → K.In s.heap → s.heap.get? x = some (PySem.W.instObj C dx) → PySem.W.InstAt s.heap x (PySem.W.instObj C dx) C od → PySem.W.subIn K (.ref C) (.type T) = some false →
  (∀ tk, Q none { s with toks := tk }) → wpAny (model prog w) A (tryCompare v (cmpInfo op).2.1 (.ref x)) Q E s
theorem cdec_int_lt : CDec .Lt "int" := by
  intro prog w A E s K x C dx od v Q ht hs hi hb hn X hx J sub h
  have h2 : Slot "int" (cmpInfo .Lt).2.1 "int.__lt__" := PySem.F.slot_int_lt
  have h3 : entryFor table "int.__lt__" = some Builtin.«int.__lt__» := PySem.F.entry_int_lt
  have h4 : argsOk "int.__lt__" ⟨[v, .ref x], []⟩ := PySem.F.args_int_lt_2 _ _
  have h5 : wpAny (model prog w) A.in1 (Builtin.«int.__lt__» ⟨[v, .ref x], []⟩) (GQ.FinOf prog w A (wants (fun v s' => v = .notImplemented ∧ Q none s') E)) (fun e s' => wants (fun v s' => v = .notImplemented ∧ Q none s') E (.error e) s') s := by
    exact intBinary_no (.inl (hi rfl)) hx fun tk => ⟨rfl, h tk⟩
  have h6 := @GQ.call_here prog w A E s "int" (cmpInfo .Lt).2.1 "int.__lt__" Builtin.«int.__lt__» (v) [.ref x] (fun v s' => v = .notImplemented ∧ Q none s') h2 ht h3 h4 h5
  exact @wpAny_tryCompare_declines (model prog w) A E s (v) (.ref x) "int" (cmpInfo .Lt).2.1 "int.__lt__" Q ht h2 h6
theorem cdec_int_le : CDec .LtE "int" := by
  intro prog w A E s K x C dx od v Q ht hs hi hb hn X hx J sub h
  have h2 : Slot "int" (cmpInfo .LtE).2.1 "int.__le__" := PySem.F.slot_int_le
  have h3 : entryFor table "int.__le__" = some Builtin.«int.__le__» := PySem.F.entry_int_le
  have h4 : argsOk "int.__le__" ⟨[v, .ref x], []⟩ := PySem.F.args_int_le_2 _ _
  have h5 : wpAny (model prog w) A.in1 (Builtin.«int.__le__» ⟨[v, .ref x], []⟩) (GQ.FinOf prog w A (wants (fun v s' => v = .notImplemented ∧ Q none s') E)) (fun e s' => wants (fun v s' => v = .notImplemented ∧ Q none s') E (.error e) s') s := by
    exact intBinary_no (.inl (hi rfl)) hx fun tk => ⟨rfl, h tk⟩
  have h6 := @GQ.call_here prog w A E s "int" (cmpInfo .LtE).2.1 "int.__le__" Builtin.«int.__le__» (v) [.ref x] (fun v s' => v = .notImplemented ∧ Q none s') h2 ht h3 h4 h5
  exact @wpAny_tryCompare_declines (model prog w) A E s (v) (.ref x) "int" (cmpInfo .LtE).2.1 "int.__le__" Q ht h2 h6
theorem cdec_int_gt : CDec .Gt "int" := by
  intro prog w A E s K x C dx od v Q ht hs hi hb hn X hx J sub h
  have h2 : Slot "int" (cmpInfo .Gt).2.1 "int.__gt__" := PySem.F.slot_int_gt
  have h3 : entryFor table "int.__gt__" = some Builtin.«int.__gt__» := PySem.F.entry_int_gt
  have h4 : argsOk "int.__gt__" ⟨[v, .ref x], []⟩ := PySem.F.args_int_gt_2 _ _
  have h5 : wpAny (model prog w) A.in1 (Builtin.«int.__gt__» ⟨[v, .ref x], []⟩) (GQ.FinOf prog w A (wants (fun v s' => v = .notImplemented ∧ Q none s') E)) (fun e s' => wants (fun v s' => v = .notImplemented ∧ Q none s') E (.error e) s') s := by
    exact intBinary_no (.inl (hi rfl)) hx fun tk => ⟨rfl, h tk⟩
  have h6 := @GQ.call_here prog w A E s "int" (cmpInfo .Gt).2.1 "int.__gt__" Builtin.«int.__gt__» (v) [.ref x] (fun v s' => v = .notImplemented ∧ Q none s') h2 ht h3 h4 h5
  exact @wpAny_tryCompare_declines (model prog w) A E s (v) (.ref x) "int" (cmpInfo .Gt).2.1 "int.__gt__" Q ht h2 h6
theorem cdec_int_ge : CDec .GtE "int" := by
  intro prog w A E s K x C dx od v Q ht hs hi hb hn X hx J sub h
  have h2 : Slot "int" (cmpInfo .GtE).2.1 "int.__ge__" := PySem.F.slot_int_ge
  have h3 : entryFor table "int.__ge__" = some Builtin.«int.__ge__» := PySem.F.entry_int_ge
  have h4 : argsOk "int.__ge__" ⟨[v, .ref x], []⟩ := PySem.F.args_int_ge_2 _ _
  have h5 : wpAny (model prog w) A.in1 (Builtin.«int.__ge__» ⟨[v, .ref x], []⟩) (GQ.FinOf prog w A (wants (fun v s' => v = .notImplemented ∧ Q none s') E)) (fun e s' => wants (fun v s' => v = .notImplemented ∧ Q none s') E (.error e) s') s := by
    exact intBinary_no (.inl (hi rfl)) hx fun tk => ⟨rfl, h tk⟩
  have h6 := @GQ.call_here prog w A E s "int" (cmpInfo .GtE).2.1 "int.__ge__" Builtin.«int.__ge__» (v) [.ref x] (fun v s' => v = .notImplemented ∧ Q none s') h2 ht h3 h4 h5
  exact @wpAny_tryCompare_declines (model prog w) A E s (v) (.ref x) "int" (cmpInfo .GtE).2.1 "int.__ge__" Q ht h2 h6
theorem cdec_int_eq : CDec .Eq "int" := by
  intro prog w A E s K x C dx od v Q ht hs hi hb hn X hx J sub h
  have h2 : Slot "int" (cmpInfo .Eq).2.1 "int.__eq__" := PySem.F.slot_int_eq
  have h3 : entryFor table "int.__eq__" = some Builtin.«int.__eq__» := PySem.F.entry_int_eq
  have h4 : argsOk "int.__eq__" ⟨[v, .ref x], []⟩ := PySem.F.args_int_eq_2 _ _
  have h5 : wpAny (model prog w) A.in1 (Builtin.«int.__eq__» ⟨[v, .ref x], []⟩) (GQ.FinOf prog w A (wants (fun v s' => v = .notImplemented ∧ Q none s') E)) (fun e s' => wants (fun v s' => v = .notImplemented ∧ Q none s') E (.error e) s') s := by
    exact intBinary_no (.inl (hi rfl)) hx fun tk => ⟨rfl, h tk⟩
  have h6 := @GQ.call_here prog w A E s "int" (cmpInfo .Eq).2.1 "int.__eq__" Builtin.«int.__eq__» (v) [.ref x] (fun v s' => v = .notImplemented ∧ Q none s') h2 ht h3 h4 h5
  exact @wpAny_tryCompare_declines (model prog w) A E s (v) (.ref x) "int" (cmpInfo .Eq).2.1 "int.__eq__" Q ht h2 h6
theorem cdec_int_ne : CDec .NotEq "int" := by
  intro prog w A E s K x C dx od v Q ht hs hi hb hn X hx J sub h
  have h2 : Slot "int" (cmpInfo .NotEq).2.1 "int.__ne__" := PySem.F.slot_int_ne
  have h3 : entryFor table "int.__ne__" = some Builtin.«int.__ne__» := PySem.F.entry_int_ne
  have h4 : argsOk "int.__ne__" ⟨[v, .ref x], []⟩ := PySem.F.args_int_ne_2 _ _
  have h5 : wpAny (model prog w) A.in1 (Builtin.«int.__ne__» ⟨[v, .ref x], []⟩) (GQ.FinOf prog w A (wants (fun v s' => v = .notImplemented ∧ Q none s') E)) (fun e s' => wants (fun v s' => v = .notImplemented ∧ Q none s') E (.error e) s') s := by
    exact intBinary_no (.inl (hi rfl)) hx fun tk => ⟨rfl, h tk⟩
  have h6 := @GQ.call_here prog w A E s "int" (cmpInfo .NotEq).2.1 "int.__ne__" Builtin.«int.__ne__» (v) [.ref x] (fun v s' => v = .notImplemented ∧ Q none s') h2 ht h3 h4 h5
  exact @wpAny_tryCompare_declines (model prog w) A E s (v) (.ref x) "int" (cmpInfo .NotEq).2.1 "int.__ne__" Q ht h2 h6
theorem cdec_bool_lt : CDec .Lt "bool" := by
  intro prog w A E s K x C dx od v Q ht hs hi hb hn X hx J sub h
  have h2 : Slot "bool" (cmpInfo .Lt).2.1 "int.__lt__" := PySem.F.slot_bool_lt
  have h3 : entryFor table "int.__lt__" = some Builtin.«int.__lt__» := PySem.F.entry_int_lt
  have h4 : argsOk "int.__lt__" ⟨[v, .ref x], []⟩ := PySem.F.args_int_lt_2 _ _
  have h5 : wpAny (model prog w) A.in1 (Builtin.«int.__lt__» ⟨[v, .ref x], []⟩) (GQ.FinOf prog w A (wants (fun v s' => v = .notImplemented ∧ Q none s') E)) (fun e s' => wants (fun v s' => v = .notImplemented ∧ Q none s') E (.error e) s') s := by
    exact intBinary_no (.inr (hb rfl)) hx fun tk => ⟨rfl, h tk⟩
  have h6 := @GQ.call_here prog w A E s "bool" (cmpInfo .Lt).2.1 "int.__lt__" Builtin.«int.__lt__» (v) [.ref x] (fun v s' => v = .notImplemented ∧ Q none s') h2 ht h3 h4 h5
  exact @wpAny_tryCompare_declines (model prog w) A E s (v) (.ref x) "bool" (cmpInfo .Lt).2.1 "int.__lt__" Q ht h2 h6
theorem cdec_bool_ge : CDec .GtE "bool" := by
  intro prog w A E s K x C dx od v Q ht hs hi hb hn X hx J sub h
  have h2 : Slot "bool" (cmpInfo .GtE).2.1 "int.__ge__" := PySem.F.slot_bool_ge
  have h3 : entryFor table "int.__ge__" = some Builtin.«int.__ge__» := PySem.F.entry_int_ge
  have h4 : argsOk "int.__ge__" ⟨[v, .ref x], []⟩ := PySem.F.args_int_ge_2 _ _
  have h5 : wpAny (model prog w) A.in1 (Builtin.«int.__ge__» ⟨[v, .ref x], []⟩) (GQ.FinOf prog w A (wants (fun v s' => v = .notImplemented ∧ Q none s') E)) (fun e s' => wants (fun v s' => v = .notImplemented ∧ Q none s') E (.error e) s') s := by
    exact intBinary_no (.inr (hb rfl)) hx fun tk => ⟨rfl, h tk⟩
  have h6 := @GQ.call_here prog w A E s "bool" (cmpInfo .GtE).2.1 "int.__ge__" Builtin.«int.__ge__» (v) [.ref x] (fun v s' => v = .notImplemented ∧ Q none s') h2 ht h3 h4 h5
  exact @wpAny_tryCompare_declines (model prog w) A E s (v) (.ref x) "bool" (cmpInfo .GtE).2.1 "int.__ge__" Q ht h2 h6
theorem cdec_bool_eq : CDec .Eq "bool" := by
  intro prog w A E s K x C dx od v Q ht hs hi hb hn X hx J sub h
  have h2 : Slot "bool" (cmpInfo .Eq).2.1 "int.__eq__" := PySem.F.slot_bool_eq
  have h3 : entryFor table "int.__eq__" = some Builtin.«int.__eq__» := PySem.F.entry_int_eq
  have h4 : argsOk "int.__eq__" ⟨[v, .ref x], []⟩ := PySem.F.args_int_eq_2 _ _
  have h5 : wpAny (model prog w) A.in1 (Builtin.«int.__eq__» ⟨[v, .ref x], []⟩) (GQ.FinOf prog w A (wants (fun v s' => v = .notImplemented ∧ Q none s') E)) (fun e s' => wants (fun v s' => v = .notImplemented ∧ Q none s') E (.error e) s') s := by
    exact intBinary_no (.inr (hb rfl)) hx fun tk => ⟨rfl, h tk⟩
  have h6 := @GQ.call_here prog w A E s "bool" (cmpInfo .Eq).2.1 "int.__eq__" Builtin.«int.__eq__» (v) [.ref x] (fun v s' => v = .notImplemented ∧ Q none s') h2 ht h3 h4 h5
  exact @wpAny_tryCompare_declines (model prog w) A E s (v) (.ref x) "bool" (cmpInfo .Eq).2.1 "int.__eq__" Q ht h2 h6
theorem cdec_NoneType_lt : CDec .Lt "NoneType" := by
  intro prog w A E s K x C dx od v Q ht hs hi hb hn X hx J sub h
  cases hn rfl
  have h2 : Slot "NoneType" (cmpInfo .Lt).2.1 "NoneType.__lt__" := PySem.F.slot_NoneType_lt
  have h3 : entryFor table "NoneType.__lt__" = some Builtin.«NoneType.__lt__» := PySem.F.entry_NoneType_lt
  have h4 : argsOk "NoneType.__lt__" ⟨[Value.none, .ref x], []⟩ := PySem.F.args_NoneType_lt_2 _ _
  have h5 : wpAny (model prog w) A.in1 (Builtin.«NoneType.__lt__» ⟨[Value.none, .ref x], []⟩) (GQ.FinOf prog w A (wants (fun v s' => v = .notImplemented ∧ Q none s') E)) (fun e s' => wants (fun v s' => v = .notImplemented ∧ Q none s') E (.error e) s') s := by
    obtain ⟨hp, g, d, tk, os⟩ := s
    unfold Builtin.«NoneType.__lt__»
    wp_walk using wpAny_loadPart' hx
    exact ⟨rfl, h tk⟩
  have h6 := @GQ.call_here prog w A E s "NoneType" (cmpInfo .Lt).2.1 "NoneType.__lt__" Builtin.«NoneType.__lt__» (Value.none) [.ref x] (fun v s' => v = .notImplemented ∧ Q none s') h2 ht h3 h4 h5
  exact @wpAny_tryCompare_declines (model prog w) A E s (Value.none) (.ref x) "NoneType" (cmpInfo .Lt).2.1 "NoneType.__lt__" Q ht h2 h6
theorem cdec_str_lt : CDec .Lt "str" := by
  intro prog w A E s K x C dx od v Q ht hs hi hb hn X hx J sub h
  obtain ⟨z, t, rfl⟩ := hs rfl
  have h2 : Slot "str" (cmpInfo .Lt).2.1 "str.__lt__" := PySem.F.slot_str_lt
  have h3 : entryFor table "str.__lt__" = some Builtin.«str.__lt__» := PySem.F.entry_str_lt
  have h4 : argsOk "str.__lt__" ⟨[Value.str z t, .ref x], []⟩ := PySem.F.args_str_lt_2 _ _
  have h5 : wpAny (model prog w) A.in1 (Builtin.«str.__lt__» ⟨[Value.str z t, .ref x], []⟩) (GQ.FinOf prog w A (wants (fun v s' => v = .notImplemented ∧ Q none s') E)) (fun e s' => wants (fun v s' => v = .notImplemented ∧ Q none s') E (.error e) s') s := by
    obtain ⟨hp, g, d, tk, os⟩ := s
    unfold Builtin.«str.__lt__» Builtin.Str.strCompare
    wp_walk using wpAny_loadPart' hx
    exact ⟨rfl, h tk⟩
  have h6 := @GQ.call_here prog w A E s "str" (cmpInfo .Lt).2.1 "str.__lt__" Builtin.«str.__lt__» (Value.str z t) [.ref x] (fun v s' => v = .notImplemented ∧ Q none s') h2 ht h3 h4 h5
  exact @wpAny_tryCompare_declines (model prog w) A E s (Value.str z t) (.ref x) "str" (cmpInfo .Lt).2.1 "str.__lt__" Q ht h2 h6
theorem cdec_dict_lt : CDec .Lt "dict" := by
  intro prog w A E s K x C dx od v Q ht hs hi hb hn X hx J sub h
  have h2 : Slot "dict" (cmpInfo .Lt).2.1 "dict.__lt__" := PySem.F.slot_dict_lt
  have h3 : entryFor table "dict.__lt__" = some Builtin.«dict.__lt__» := PySem.F.entry_dict_lt
  have h4 : argsOk "dict.__lt__" ⟨[v, .ref x], []⟩ := PySem.F.args_dict_lt_2 _ _
  have h5 : wpAny (model prog w) A.in1 (Builtin.«dict.__lt__» ⟨[v, .ref x], []⟩) (GQ.FinOf prog w A (wants (fun v s' => v = .notImplemented ∧ Q none s') E)) (fun e s' => wants (fun v s' => v = .notImplemented ∧ Q none s') E (.error e) s') s := by
    refine wpAny_bind (m := Builtin.Dict.dictSlotArgs _ _) (wpAny_of_eq (a := (v, .ref x)) rfl ?_)
    exact wpAny_pure ⟨rfl, h s.toks⟩
  have h6 := @GQ.call_here prog w A E s "dict" (cmpInfo .Lt).2.1 "dict.__lt__" Builtin.«dict.__lt__» (v) [.ref x] (fun v s' => v = .notImplemented ∧ Q none s') h2 ht h3 h4 h5
  exact @wpAny_tryCompare_declines (model prog w) A E s (v) (.ref x) "dict" (cmpInfo .Lt).2.1 "dict.__lt__" Q ht h2 h6
theorem cdec_list_lt : CDec .Lt "list" := by
  intro prog w A E s K x C dx od v Q ht hs hi hb hn X hx J sub h
  have h2 : Slot "list" (cmpInfo .Lt).2.1 "list.__lt__" := PySem.F.slot_list_lt
  have h3 : entryFor table "list.__lt__" = some Builtin.«list.__lt__» := PySem.F.entry_list_lt
  have h4 : argsOk "list.__lt__" ⟨[v, .ref x], []⟩ := PySem.F.args_list_lt_2 _ _
  have h5 : wpAny (model prog w) A.in1 (Builtin.«list.__lt__» ⟨[v, .ref x], []⟩) (GQ.FinOf prog w A (wants (fun v s' => v = .notImplemented ∧ Q none s') E)) (fun e s' => wants (fun v s' => v = .notImplemented ∧ Q none s') E (.error e) s') s := by
    refine wpAny_bind (m := slotArgs _ 1 _) (wpAny_of_eq (a := (v, [.ref x])) rfl ?_)
    refine wpAny_bind (m := isInstance (.ref x) (.type "list")) (isInst_no X J sub ?_)
    exact wpAny_pure ⟨rfl, h s.toks⟩
  have h6 := @GQ.call_here prog w A E s "list" (cmpInfo .Lt).2.1 "list.__lt__" Builtin.«list.__lt__» (v) [.ref x] (fun v s' => v = .notImplemented ∧ Q none s') h2 ht h3 h4 h5
  exact @wpAny_tryCompare_declines (model prog w) A E s (v) (.ref x) "list" (cmpInfo .Lt).2.1 "list.__lt__" Q ht h2 h6
theorem cdec_tuple_lt : CDec .Lt "tuple" := by
  intro prog w A E s K x C dx od v Q ht hs hi hb hn X hx J sub h
  have h2 : Slot "tuple" (cmpInfo .Lt).2.1 "tuple.__lt__" := PySem.F.slot_tuple_lt
  have h3 : entryFor table "tuple.__lt__" = some Builtin.«tuple.__lt__» := PySem.F.entry_tuple_lt
  have h4 : argsOk "tuple.__lt__" ⟨[v, .ref x], []⟩ := PySem.F.args_tuple_lt_2 _ _
  have h5 : wpAny (model prog w) A.in1 (Builtin.«tuple.__lt__» ⟨[v, .ref x], []⟩) (GQ.FinOf prog w A (wants (fun v s' => v = .notImplemented ∧ Q none s') E)) (fun e s' => wants (fun v s' => v = .notImplemented ∧ Q none s') E (.error e) s') s := by
    refine wpAny_bind (m := slotArgs _ 1 _) (wpAny_of_eq (a := (v, [.ref x])) rfl ?_)
    refine wpAny_bind (m := isInstance (.ref x) (.type "tuple")) (isInst_no X J sub ?_)
    exact wpAny_pure ⟨rfl, h s.toks⟩
  have h6 := @GQ.call_here prog w A E s "tuple" (cmpInfo .Lt).2.1 "tuple.__lt__" Builtin.«tuple.__lt__» (v) [.ref x] (fun v s' => v = .notImplemented ∧ Q none s') h2 ht h3 h4 h5
  exact @wpAny_tryCompare_declines (model prog w) A E s (v) (.ref x) "tuple" (cmpInfo .Lt).2.1 "tuple.__lt__" Q ht h2 h6
theorem cdec_NoneType_ge : CDec .GtE "NoneType" := by
  intro prog w A E s K x C dx od v Q ht hs hi hb hn X hx J sub h
  cases hn rfl
  have h2 : Slot "NoneType" (cmpInfo .GtE).2.1 "NoneType.__ge__" := PySem.F.slot_NoneType_ge
  have h3 : entryFor table "NoneType.__ge__" = some Builtin.«NoneType.__ge__» := PySem.F.entry_NoneType_ge
  have h4 : argsOk "NoneType.__ge__" ⟨[Value.none, .ref x], []⟩ := PySem.F.args_NoneType_ge_2 _ _
  have h5 : wpAny (model prog w) A.in1 (Builtin.«NoneType.__ge__» ⟨[Value.none, .ref x], []⟩) (GQ.FinOf prog w A (wants (fun v s' => v = .notImplemented ∧ Q none s') E)) (fun e s' => wants (fun v s' => v = .notImplemented ∧ Q none s') E (.error e) s') s := by
    obtain ⟨hp, g, d, tk, os⟩ := s
    unfold Builtin.«NoneType.__ge__»
    wp_walk using wpAny_loadPart' hx
    exact ⟨rfl, h tk⟩
  have h6 := @GQ.call_here prog w A E s "NoneType" (cmpInfo .GtE).2.1 "NoneType.__ge__" Builtin.«NoneType.__ge__» (Value.none) [.ref x] (fun v s' => v = .notImplemented ∧ Q none s') h2 ht h3 h4 h5
  exact @wpAny_tryCompare_declines (model prog w) A E s (Value.none) (.ref x) "NoneType" (cmpInfo .GtE).2.1 "NoneType.__ge__" Q ht h2 h6
theorem cdec_str_ge : CDec .GtE "str" := by
  intro prog w A E s K x C dx od v Q ht hs hi hb hn X hx J sub h
  obtain ⟨z, t, rfl⟩ := hs rfl
  have h2 : Slot "str" (cmpInfo .GtE).2.1 "str.__ge__" := PySem.F.slot_str_ge
  have h3 : entryFor table "str.__ge__" = some Builtin.«str.__ge__» := PySem.F.entry_str_ge
  have h4 : argsOk "str.__ge__" ⟨[Value.str z t, .ref x], []⟩ := PySem.F.args_str_ge_2 _ _
  have h5 : wpAny (model prog w) A.in1 (Builtin.«str.__ge__» ⟨[Value.str z t, .ref x], []⟩) (GQ.FinOf prog w A (wants (fun v s' => v = .notImplemented ∧ Q none s') E)) (fun e s' => wants (fun v s' => v = .notImplemented ∧ Q none s') E (.error e) s') s := by
    obtain ⟨hp, g, d, tk, os⟩ := s
    unfold Builtin.«str.__ge__» Builtin.Str.strCompare
    wp_walk using wpAny_loadPart' hx
    exact ⟨rfl, h tk⟩
  have h6 := @GQ.call_here prog w A E s "str" (cmpInfo .GtE).2.1 "str.__ge__" Builtin.«str.__ge__» (Value.str z t) [.ref x] (fun v s' => v = .notImplemented ∧ Q none s') h2 ht h3 h4 h5
  exact @wpAny_tryCompare_declines (model prog w) A E s (Value.str z t) (.ref x) "str" (cmpInfo .GtE).2.1 "str.__ge__" Q ht h2 h6
theorem cdec_dict_ge : CDec .GtE "dict" := by
  intro prog w A E s K x C dx od v Q ht hs hi hb hn X hx J sub h
  have h2 : Slot "dict" (cmpInfo .GtE).2.1 "dict.__ge__" := PySem.F.slot_dict_ge
  have h3 : entryFor table "dict.__ge__" = some Builtin.«dict.__ge__» := PySem.F.entry_dict_ge
  have h4 : argsOk "dict.__ge__" ⟨[v, .ref x], []⟩ := PySem.F.args_dict_ge_2 _ _
  have h5 : wpAny (model prog w) A.in1 (Builtin.«dict.__ge__» ⟨[v, .ref x], []⟩) (GQ.FinOf prog w A (wants (fun v s' => v = .notImplemented ∧ Q none s') E)) (fun e s' => wants (fun v s' => v = .notImplemented ∧ Q none s') E (.error e) s') s := by
    refine wpAny_bind (m := Builtin.Dict.dictSlotArgs _ _) (wpAny_of_eq (a := (v, .ref x)) rfl ?_)
    exact wpAny_pure ⟨rfl, h s.toks⟩
  have h6 := @GQ.call_here prog w A E s "dict" (cmpInfo .GtE).2.1 "dict.__ge__" Builtin.«dict.__ge__» (v) [.ref x] (fun v s' => v = .notImplemented ∧ Q none s') h2 ht h3 h4 h5
  exact @wpAny_tryCompare_declines (model prog w) A E s (v) (.ref x) "dict" (cmpInfo .GtE).2.1 "dict.__ge__" Q ht h2 h6
theorem cdec_list_ge : CDec .GtE "list" := by
  intro prog w A E s K x C dx od v Q ht hs hi hb hn X hx J sub h
  have h2 : Slot "list" (cmpInfo .GtE).2.1 "list.__ge__" := PySem.F.slot_list_ge
  have h3 : entryFor table "list.__ge__" = some Builtin.«list.__ge__» := PySem.F.entry_list_ge
  have h4 : argsOk "list.__ge__" ⟨[v, .ref x], []⟩ := PySem.F.args_list_ge_2 _ _
  have h5 : wpAny (model prog w) A.in1 (Builtin.«list.__ge__» ⟨[v, .ref x], []⟩) (GQ.FinOf prog w A (wants (fun v s' => v = .notImplemented ∧ Q none s') E)) (fun e s' => wants (fun v s' => v = .notImplemented ∧ Q none s') E (.error e) s') s := by
    refine wpAny_bind (m := slotArgs _ 1 _) (wpAny_of_eq (a := (v, [.ref x])) rfl ?_)
    refine wpAny_bind (m := isInstance (.ref x) (.type "list")) (isInst_no X J sub ?_)
    exact wpAny_pure ⟨rfl, h s.toks⟩
  have h6 := @GQ.call_here prog w A E s "list" (cmpInfo .GtE).2.1 "list.__ge__" Builtin.«list.__ge__» (v) [.ref x] (fun v s' => v = .notImplemented ∧ Q none s') h2 ht h3 h4 h5
  exact @wpAny_tryCompare_declines (model prog w) A E s (v) (.ref x) "list" (cmpInfo .GtE).2.1 "list.__ge__" Q ht h2 h6
theorem cdec_tuple_ge : CDec .GtE "tuple" := by
  intro prog w A E s K x C dx od v Q ht hs hi hb hn X hx J sub h
  have h2 : Slot "tuple" (cmpInfo .GtE).2.1 "tuple.__ge__" := PySem.F.slot_tuple_ge
  have h3 : entryFor table "tuple.__ge__" = some Builtin.«tuple.__ge__» := PySem.F.entry_tuple_ge
  have h4 : argsOk "tuple.__ge__" ⟨[v, .ref x], []⟩ := PySem.F.args_tuple_ge_2 _ _
  have h5 : wpAny (model prog w) A.in1 (Builtin.«tuple.__ge__» ⟨[v, .ref x], []⟩) (GQ.FinOf prog w A (wants (fun v s' => v = .notImplemented ∧ Q none s') E)) (fun e s' => wants (fun v s' => v = .notImplemented ∧ Q none s') E (.error e) s') s := by
    refine wpAny_bind (m := slotArgs _ 1 _) (wpAny_of_eq (a := (v, [.ref x])) rfl ?_)
    refine wpAny_bind (m := isInstance (.ref x) (.type "tuple")) (isInst_no X J sub ?_)
    exact wpAny_pure ⟨rfl, h s.toks⟩
  have h6 := @GQ.call_here prog w A E s "tuple" (cmpInfo .GtE).2.1 "tuple.__ge__" Builtin.«tuple.__ge__» (v) [.ref x] (fun v s' => v = .notImplemented ∧ Q none s') h2 ht h3 h4 h5
  exact @wpAny_tryCompare_declines (model prog w) A E s (v) (.ref x) "tuple" (cmpInfo .GtE).2.1 "tuple.__ge__" Q ht h2 h6
theorem cdec_NoneType_eq : CDec .Eq "NoneType" := by
  intro prog w A E s K x C dx od v Q ht hs hi hb hn X hx J sub h
  cases hn rfl
  have h2 : Slot "NoneType" (cmpInfo .Eq).2.1 "NoneType.__eq__" := PySem.F.slot_NoneType_eq
  have h3 : entryFor table "NoneType.__eq__" = some Builtin.«NoneType.__eq__» := PySem.F.entry_NoneType_eq
  have h4 : argsOk "NoneType.__eq__" ⟨[Value.none, .ref x], []⟩ := PySem.F.args_NoneType_eq_2 _ _
  have h5 : wpAny (model prog w) A.in1 (Builtin.«NoneType.__eq__» ⟨[Value.none, .ref x], []⟩) (GQ.FinOf prog w A (wants (fun v s' => v = .notImplemented ∧ Q none s') E)) (fun e s' => wants (fun v s' => v = .notImplemented ∧ Q none s') E (.error e) s') s := by
    obtain ⟨hp, g, d, tk, os⟩ := s
    unfold Builtin.«NoneType.__eq__»
    wp_walk using wpAny_loadPart' hx
    exact ⟨rfl, h tk⟩
  have h6 := @GQ.call_here prog w A E s "NoneType" (cmpInfo .Eq).2.1 "NoneType.__eq__" Builtin.«NoneType.__eq__» (Value.none) [.ref x] (fun v s' => v = .notImplemented ∧ Q none s') h2 ht h3 h4 h5
  exact @wpAny_tryCompare_declines (model prog w) A E s (Value.none) (.ref x) "NoneType" (cmpInfo .Eq).2.1 "NoneType.__eq__" Q ht h2 h6
theorem cdec_str_eq : CDec .Eq "str" := by
  intro prog w A E s K x C dx od v Q ht hs hi hb hn X hx J sub h
  obtain ⟨z, t, rfl⟩ := hs rfl
  have h2 : Slot "str" (cmpInfo .Eq).2.1 "str.__eq__" := PySem.F.slot_str_eq
  have h3 : entryFor table "str.__eq__" = some Builtin.«str.__eq__» := PySem.F.entry_str_eq
  have h4 : argsOk "str.__eq__" ⟨[Value.str z t, .ref x], []⟩ := PySem.F.args_str_eq_2 _ _
  have h5 : wpAny (model prog w) A.in1 (Builtin.«str.__eq__» ⟨[Value.str z t, .ref x], []⟩) (GQ.FinOf prog w A (wants (fun v s' => v = .notImplemented ∧ Q none s') E)) (fun e s' => wants (fun v s' => v = .notImplemented ∧ Q none s') E (.error e) s') s := by
    obtain ⟨hp, g, d, tk, os⟩ := s
    unfold Builtin.«str.__eq__» Builtin.Str.strCompare
    wp_walk using wpAny_loadPart' hx
    exact ⟨rfl, h tk⟩
  have h6 := @GQ.call_here prog w A E s "str" (cmpInfo .Eq).2.1 "str.__eq__" Builtin.«str.__eq__» (Value.str z t) [.ref x] (fun v s' => v = .notImplemented ∧ Q none s') h2 ht h3 h4 h5
  exact @wpAny_tryCompare_declines (model prog w) A E s (Value.str z t) (.ref x) "str" (cmpInfo .Eq).2.1 "str.__eq__" Q ht h2 h6
theorem cdec_dict_eq : CDec .Eq "dict" := by
  intro prog w A E s K x C dx od v Q ht hs hi hb hn X hx J sub h
  have h2 : Slot "dict" (cmpInfo .Eq).2.1 "dict.__eq__" := PySem.F.slot_dict_eq
  have h3 : entryFor table "dict.__eq__" = some Builtin.«dict.__eq__» := PySem.F.entry_dict_eq
  have h4 : argsOk "dict.__eq__" ⟨[v, .ref x], []⟩ := PySem.F.args_dict_eq_2 _ _
  have h5 : wpAny (model prog w) A.in1 (Builtin.«dict.__eq__» ⟨[v, .ref x], []⟩) (GQ.FinOf prog w A (wants (fun v s' => v = .notImplemented ∧ Q none s') E)) (fun e s' => wants (fun v s' => v = .notImplemented ∧ Q none s') E (.error e) s') s := by
    refine wpAny_bind (m := Builtin.Dict.dictSlotArgs _ _) (wpAny_of_eq (a := (v, .ref x)) rfl ?_)
    refine wpAny_bind (m := isInstance (.ref x) (.type "dict")) (isInst_no X J sub ?_)
    exact wpAny_bind (wpAny_rule (wpAny_pure ⟨rfl, h s.toks⟩))
  have h6 := @GQ.call_here prog w A E s "dict" (cmpInfo .Eq).2.1 "dict.__eq__" Builtin.«dict.__eq__» (v) [.ref x] (fun v s' => v = .notImplemented ∧ Q none s') h2 ht h3 h4 h5
  exact @wpAny_tryCompare_declines (model prog w) A E s (v) (.ref x) "dict" (cmpInfo .Eq).2.1 "dict.__eq__" Q ht h2 h6
theorem cdec_list_eq : CDec .Eq "list" := by
  intro prog w A E s K x C dx od v Q ht hs hi hb hn X hx J sub h
  have h2 : Slot "list" (cmpInfo .Eq).2.1 "list.__eq__" := PySem.F.slot_list_eq
  have h3 : entryFor table "list.__eq__" = some Builtin.«list.__eq__» := PySem.F.entry_list_eq
  have h4 : argsOk "list.__eq__" ⟨[v, .ref x], []⟩ := PySem.F.args_list_eq_2 _ _
  have h5 : wpAny (model prog w) A.in1 (Builtin.«list.__eq__» ⟨[v, .ref x], []⟩) (GQ.FinOf prog w A (wants (fun v s' => v = .notImplemented ∧ Q none s') E)) (fun e s' => wants (fun v s' => v = .notImplemented ∧ Q none s') E (.error e) s') s := by
    refine wpAny_bind (m := slotArgs _ 1 _) (wpAny_of_eq (a := (v, [.ref x])) rfl ?_)
    refine wpAny_bind (m := isInstance (.ref x) (.type "list")) (isInst_no X J sub ?_)
    exact wpAny_pure ⟨rfl, h s.toks⟩
  have h6 := @GQ.call_here prog w A E s "list" (cmpInfo .Eq).2.1 "list.__eq__" Builtin.«list.__eq__» (v) [.ref x] (fun v s' => v = .notImplemented ∧ Q none s') h2 ht h3 h4 h5
  exact @wpAny_tryCompare_declines (model prog w) A E s (v) (.ref x) "list" (cmpInfo .Eq).2.1 "list.__eq__" Q ht h2 h6
theorem cdec_tuple_eq : CDec .Eq "tuple" := by
  intro prog w A E s K x C dx od v Q ht hs hi hb hn X hx J sub h
  have h2 : Slot "tuple" (cmpInfo .Eq).2.1 "tuple.__eq__" := PySem.F.slot_tuple_eq
  have h3 : entryFor table "tuple.__eq__" = some Builtin.«tuple.__eq__» := PySem.F.entry_tuple_eq
  have h4 : argsOk "tuple.__eq__" ⟨[v, .ref x], []⟩ := PySem.F.args_tuple_eq_2 _ _
  have h5 : wpAny (model prog w) A.in1 (Builtin.«tuple.__eq__» ⟨[v, .ref x], []⟩) (GQ.FinOf prog w A (wants (fun v s' => v = .notImplemented ∧ Q none s') E)) (fun e s' => wants (fun v s' => v = .notImplemented ∧ Q none s') E (.error e) s') s := by
    refine wpAny_bind (m := slotArgs _ 1 _) (wpAny_of_eq (a := (v, [.ref x])) rfl ?_)
    refine wpAny_bind (m := isInstance (.ref x) (.type "tuple")) (isInst_no X J sub ?_)
    exact wpAny_pure ⟨rfl, h s.toks⟩
  have h6 := @GQ.call_here prog w A E s "tuple" (cmpInfo .Eq).2.1 "tuple.__eq__" Builtin.«tuple.__eq__» (v) [.ref x] (fun v s' => v = .notImplemented ∧ Q none s') h2 ht h3 h4 h5
  exact @wpAny_tryCompare_declines (model prog w) A E s (v) (.ref x) "tuple" (cmpInfo .Eq).2.1 "tuple.__eq__" Q ht h2 h6
end Gs

set_option maxRecDepth 100000
set_option maxHeartbeats 4000000
/-! comparisons with an own value on either side, x += y, != by the own == -/
namespace Gs
open PySem PySem.Spec PyProof.Rows L2 PySem.Calls PySem.W
/-- a plain value of the language and its type -/
inductive PlV (H : Hp) : V → String → Prop where
  | non : PlV H .non "NoneType"
  | bl (b : Bool) : PlV H (.bl b) "bool"
  | int (i : Int) : PlV H (.int i) "int"
  | str (x : Str) : PlV H (.str x) "str"
  | lst {a : Addr} {xs : List V} (h : H a = some (.lst xs)) : PlV H (.ref a) "list"
  | tup {a : Addr} {xs : List V} (h : H a = some (.tup xs)) : PlV H (.ref a) "tuple"
  | dK {a : Addr} {xs : List (Key × V)} (h : H a = some (.dK xs)) : PlV H (.ref a) "dict"
section
variable {K : PySem.W.Frag} {C : Addr} {H H' : Hp} {v : V} {T : String}
theorem PlV.ext (p : PlV H v T) (e : Gs.Ext H H') : PlV H' v T := by
  cases p with
  | non => exact .non
  | bl b => exact .bl b
  | int i => exact .int i
  | str x => exact .str x
  | lst h => exact .lst (e _ _ h)
  | tup h => exact .tup (e _ _ h)
  | dK h => exact .dK (e _ _ h)
theorem PlV.extN (p : PlV H v T) (e : LamX.ExtN H H') : PlV H' v T := by
  cases p with
  | non => exact .non
  | bl b => exact .bl b
  | int i => exact .int i
  | str x => exact .str x
  | lst h => exact .lst (ExtN.lst e h)
  | tup h => exact .tup (ExtN.tup e h)
  | dK h => exact .dK (e _ _ h fun _ z => by cases z)
theorem PlV.ty (p : PlV H v T) : TyX K H v (.type T) := by
  cases p with
  | non => exact .base .non
  | bl b => exact .base (.bl b)
  | int i => exact .base (.int i)
  | str x => exact .base (.str x)
  | lst h => exact .base (.lst h)
  | tup h => exact .base (.tup h)
  | dK h => exact .base (.dK h)
theorem PlV.any (p : PlV H v T) : AnyV K C H v := by
  cases p with
  | non => exact .non
  | bl b => exact .bl b
  | int i => exact .int i
  | str x => exact .str x
  | lst h => exact .lst h
  | tup h => exact .tup h
  | dK h => exact .dK h
theorem PlV.mem (p : PlV H v T) : T ∈ (["NoneType", "bool", "int", "str", "list", "tuple", "dict"] : List String) := by
  cases p <;> decide
end
section
variable {X : Cx} {pins : List (Addr × Obj)} {σ : L2.St} {H : Hp} {s : Shared} {v : V} {u : Value} {T : String}
theorem PlV.is (p : PlV H v T) (I : Inv X pins σ H s) (r : RelV v u) :
    s.TypeIs u T ∧ (T = "str" → ∃ z t, u = .str z t) ∧ (T = "int" → ∃ i t, u = .int i t) ∧ (T = "bool" → ∃ b, u = .bool b) ∧ (T = "NoneType" → u = .none) := by
  cases p with
  | non =>
    cases r
    exact ⟨rfl, fun e => absurd e (by decide), fun e => absurd e (by decide), fun e => absurd e (by decide), fun _ => rfl⟩
  | bl b =>
    cases r
    exact ⟨rfl, fun e => absurd e (by decide), fun e => absurd e (by decide), fun _ => ⟨_, rfl⟩, fun e => absurd e (by decide)⟩
  | int i =>
    obtain ⟨t, rfl⟩ := r
    exact ⟨rfl, fun e => absurd e (by decide), fun _ => ⟨_, _, rfl⟩, fun e => absurd e (by decide), fun e => absurd e (by decide)⟩
  | str x =>
    obtain ⟨t, rfl⟩ := r
    exact ⟨rfl, fun _ => ⟨_, _, rfl⟩, fun e => absurd e (by decide), fun e => absurd e (by decide), fun e => absurd e (by decide)⟩
  | lst h =>
    cases r
    obtain ⟨_, its, n, _, e⟩ := I.hok _ _ h
    exact ⟨⟨_, e, rfl⟩, fun e => absurd e (by decide), fun e => absurd e (by decide), fun e => absurd e (by decide), fun e => absurd e (by decide)⟩
  | tup h =>
    cases r
    obtain ⟨_, its, _, o, e, c, _⟩ := I.hok _ _ h
    exact ⟨⟨o, e, c⟩, fun e => absurd e (by decide), fun e => absurd e (by decide), fun e => absurd e (by decide), fun e => absurd e (by decide)⟩
  | dK h =>
    cases r
    obtain ⟨_, _, vs, _, o, es, ep, e, c, _⟩ := I.hok _ _ h
    exact ⟨⟨o, e, c.1⟩, fun e => absurd e (by decide), fun e => absurd e (by decide), fun e => absurd e (by decide), fun e => absurd e (by decide)⟩
end
section
variable {prog : Program} {w : World} {A : Around} {E : Value → Shared → Prop} {s : Shared} {K : PySem.W.Frag} {x C f : Addr} {ox : Obj} {od : Option Obj} {v : Value} {T : String} {op : CmpOp} {Q : Value → Shared → Prop}
/-- y op x, x an own value: y declines, the reflected method answers -/
theorem rc_right (hu : A.units < cLine) (X : K.In s.heap) (I : PySem.W.InstAt s.heap x ox C od) (ht : s.TypeIs v T) (sub : PySem.W.subIn K (.ref C) (.type T) = some false)
    (dec : ∀ Q' : Option Value → Shared → Prop, (∀ tk, Q' none { s with toks := tk }) → wpAny (model prog w) A (tryCompare v (cmpInfo op).2.1 (.ref x)) Q' E s)
    (h : ∀ tk, wpAny (model prog w) A (tryCompare (.ref x) (cmpInfo op).2.2 v) (fun r s' => ∃ z, r = some z ∧ Q z s') E { s with toks := tk }) :
    wpAny (model prog w) A (richCompare op v (.ref x)) Q E s := by
  unfold richCompare
  simp only [ht.oneThing_none]
  refine wpAny_holding (wpAny_bind (wpAny_cRoomFor hu ?_))
  refine wpAny_bind (wpAny_typeOf ht (wpAny_bind (I.type.here ?_)))
  have ne : (Value.type T != Value.ref C) = true := by
    unfold bne
    rw [ne_type_ref] <;> rfl
  rw [if_pos ne]
  refine wpAny_bind ((PySem.W.looks_subIn X sub).here ?_)
  simp only [Bool.false_eq_true, if_false]
  refine wpAny_bind (dec _ fun tk => ?_)
  simp only [Bool.not_false, if_true]
  refine wpAny_bind (wpAny_mono (h tk) (fun r s' z => ?_) fun _ _ e => e)
  obtain ⟨z', rfl, hq⟩ := z
  exact wpAny_pure hq
theorem tryC_own {y : Value} {m : Str} (X : K.In s.heap) (I : PySem.W.InstAt s.heap x ox C od) (hs : PySem.W.findIn K (.ref C) m = some (some (.ref f))) (hf : PySem.W.isFn K (.ref f) = true)
    (h : wpAny (model prog w) A (call (.ref f) [.ref x, y]) (PySem.W.CmpBack Q) E s) : wpAny (model prog w) A (tryCompare (.ref x) m y) (fun r s' => ∃ z, r = some z ∧ Q z s') E s := by
  unfold tryCompare
  refine wpAny_bind (PySem.W.ifBound_K X I hs hf (wpAny_mono h (fun z s' hz => ?_) fun _ _ e => e))
  cases z <;> first | exact hz.elim | exact wpAny_pure ⟨_, rfl, hz⟩
/-- x.__ne__(y) by the own == -/
theorem tryC_ne {y : Value} (hu : A.units + 1 < cLine) (X : K.In s.heap) (I : PySem.W.InstAt s.heap x ox C od) (hn : PySem.W.findIn K (.ref C) "__ne__" = some (some (.builtin "object.__ne__"))) (ho : PySem.W.subIn K (.ref C) (.type "object") = some true)
    (hs : PySem.W.findIn K (.ref C) "__eq__" = some (some (.ref f))) (hf : PySem.W.isFn K (.ref f) = true)
    (h : wpAny (model prog w) A.in1 (call (.ref f) [.ref x, y]) (fun v s' => ∃ b, v = .bool b ∧ Q (.bool (!b)) s') E s) : wpAny (model prog w) A (tryCompare (.ref x) "__ne__" y) (fun r s' => ∃ z, r = some z ∧ Q z s') E s := by
  unfold tryCompare
  have body : wpAny (model prog w) A (call (.builtin "object.__ne__") [.ref x, y]) (fun v s' => ∃ b, v = .bool b ∧ Q (.bool b) s') E s := by
    have hi : Looks (model prog w) s.heap (isInstance (.ref x) (.type "object")) true := I.type.andThen (PySem.W.looks_subIn X ho)
    refine wpAny_call (codeAny_call_builtin PySem.F.cmp_object.ne.plain PySem.F.cmpEntry_ne (PySem.W.check_slot PySem.F.cmpKind_ne PySem.F.cmpSplit_ne hi (PySem.F.cmpArgs_ne _ _) ?_))
    unfold Builtin.«object.__ne__»
    refine wpAny_bind (m := slotArgs _ 1 _) (wpAny_of_eq (a := (.ref x, [y])) rfl ?_)
    refine wpAny_bind (wpAny_cRoomFor (A := A.in1) hu ?_)
    refine wpAny_bind (m := callSpecialIfBound? (.ref x) (Str.ofString "__eq__") [y]) (PySem.W.ifBound_K X I hs hf (wpAny_mono h (fun z s' hz => ?_) fun _ _ e => e))
    obtain ⟨b, rfl, q⟩ := hz
    refine wpAny_bind (m := truthy (.bool b)) (wpAny_truthy_bool (wpAny_pure ?_))
    exact ⟨!b, rfl, q⟩
  have one : wpAny (model prog w) A (callSpecialIfBound? (.ref x) "__ne__" [y]) (fun r s' => ∃ b, r = some (.bool b) ∧ Q (.bool b) s') E s := by
    simp only [callSpecialIfBound?, bindSpecialIfBound?]
    refine wpAny_holding (wpAny_bind (wpAny_bind (wpAny_bind (I.type.here ((PySem.W.looks_findIn X hn).here ?_)))))
    have bd := PySem.F.cmp_object.ne.bind (.ref x)
    have fin : wpAny (model prog w) A (call (.builtin "object.__ne__") ([.ref x] ++ [y]) >>= fun v => pure (some v)) (fun r s' => ∃ b, r = some (.bool b) ∧ Q (.bool b) s') E s :=
      wpAny_bind (wpAny_mono body (fun v s' ⟨b, e, q⟩ => wpAny_pure ⟨b, by rw [e], q⟩) fun _ _ z => z)
    refine wpAny_bind (wpAny_askSetting (wpAny_ite ?_))
    split
    · exact wpAny_bind (wpAny_of_eq bd (wpAny_pure (by exact fin)))
    · exact wpAny_tryCatch (wpAny_bind (wpAny_of_eq bd (wpAny_pure (by exact fin))))
  refine wpAny_bind (wpAny_mono one (fun r s' hr => ?_) fun _ _ z => z)
  obtain ⟨b, rfl, q⟩ := hr
  exact wpAny_pure ⟨_, rfl, q⟩
end
section
variable {prog : Program} {w : World} {A : Around} {E : Value → Shared → Prop} {s : Shared} {K : PySem.W.Frag} {x C f : Addr} {ox : Obj} {od : Option Obj} {b tb : Value} {op : CmpOp} {Q : Value → Shared → Prop}
theorem rc_left (hu : A.units < cLine) (X : K.In s.heap) (I : PySem.W.InstAt s.heap x ox C od) (hb : Looks (model prog w) s.heap (typeOf b) tb) (hn : PySem.W.notFirst K C tb = true)
    (h : wpAny (model prog w) A (tryCompare (.ref x) (cmpInfo op).2.1 b) (fun r s' => ∃ z, r = some z ∧ Q z s') E s) : wpAny (model prog w) A (richCompare op (.ref x) b) Q E s := by
  unfold richCompare
  simp only [oneThing_ref]
  refine wpAny_holding (wpAny_bind (wpAny_cRoomFor hu (wpAny_bind (I.type.here (wpAny_bind (hb.here ?_))))))
  have fin : wpAny (model prog w) A (tryCompare (.ref x) (cmpInfo op).2.1 b) (fun r s' => ∃ z, r = some z ∧ Q z s') E s := h
  by_cases q : (Value.ref C != tb) = true
  · rw [if_pos q]
    have e : PySem.W.subIn K tb (.ref C) = some false := by
      rcases Bool.or_eq_true_iff.mp hn with e | e
      · rw [beq_iff_eq.mp e] at q
        simp at q
      · exact beq_iff_eq.mp e
    refine wpAny_bind ((PySem.W.looks_subIn X e).here ?_)
    simp only [Bool.false_eq_true, if_false]
    refine wpAny_bind (wpAny_mono fin (fun r s' z => ?_) fun _ _ e => e)
    obtain ⟨v, rfl, hq⟩ := z
    exact wpAny_pure hq
  · rw [if_neg q]
    refine wpAny_bind (wpAny_pure ?_)
    simp only [Bool.false_eq_true, if_false]
    refine wpAny_bind (wpAny_mono fin (fun r s' z => ?_) fun _ _ e => e)
    obtain ⟨v, rfl, hq⟩ := z
    exact wpAny_pure hq
end
def T7 : List String := ["NoneType", "bool", "int", "str", "list", "tuple", "dict"]
section
variable {X : Cx} {CX : CXT} {k k2 : Nat} {f g C : Addr} {ps ps2 : List Str} {dvs : List V} {sp spL spR : Sp} {E : XK} {pins : List (Addr × Obj)} {σ : L2.St} {H : Hp} {s : Shared} {Q : VK} {vs : List V} {us : List Value}
theorem own_runA {A : Around} (D : FunOk X.prog X.w X.K X.mg X.base CX k f ps dvs sp) (sb : L2.Sub X k A) (hx : Passes CX X E) (I : Inv X pins σ H s) (rv : Vals vs us) (h : sp (vs ++ dvs) H Q E) :
    wpAny (model X.prog X.w) A (call (.ref f) us) (EP X pins σ Q) X.xe s := by
  obtain ⟨fd, ds, F, hb, hd⟩ := D.ex
  have rr := rv.append hd
  have lz : (us ++ ds).length = ps.length := rr.length ▸ F.len _ _ _ _ h
  have e0 : Env0 X.prog X.w X.K X.mg X.base A X.stack s H := by
    have e := I.env0
    exact ⟨by rw [sb.fr]; exact e.frames, e.mod, e.bs, e.bsz, e.funs, e.frf, e.hok, e.bare⟩
  refine wpAny_call (codeAny_mono (F.run A X.stack s H ⟨us, []⟩ _ _ Q E sb.room e0 (hb s us I.kIn lz) rr h) ?_)
  intro r s' hq
  match r, hq with
  | .error e, hq => exact hx pins σ H s e s' I hq
  | .ok (.ret u), hq => exact I.after hq
  | .ok .next, hq => exact hq.elim
  | .ok .brk, hq => exact hq.elim
  | .ok .cont, hq => exact hq.elim
/-- y op x, x of the class -/
def rCmpR (K : PySem.W.Frag) (C : Addr) (op : CmpOp) (sp : Sp) (E : XK) : R2 := fun x y H Q => ∃ b dy gs T, y = .ref b ∧ H b = some (.ins C dy gs) ∧ PlV H x T ∧ CDec op T ∧ sp [y, x] H Q E
theorem op_cmpR {op : CmpOp} (DR : FunOk X.prog X.w X.K X.mg X.base CX k g ps [] sp) (hs : findIn X.K (.ref C) (cmpInfo op).2.2 = some (some (.ref g))) (hf : isFn X.K (.ref g) = true) (sub : ∀ T ∈ T7, subIn X.K (.ref C) (.type T) = some false) (hr : Room k X.A) (hx : Passes CX X E)
    (ho : ∀ a b, compareOp op a b = richCompare op a b := by intros; rfl) : OpR X (compareOp op) (rCmpR X.K C op sp E) := by
  intro pins s σ H x y v u Q I rx ry h
  obtain ⟨b, dy, gs, T, rfl, hi, pl, cd, h⟩ := h
  cases ry
  obtain ⟨hb, od, J⟩ := ins_at I hi
  obtain ⟨i1, i2, i3, i4, i5⟩ := pl.is I rx
  have sb := sub T pl.mem
  rw [ho]
  exact rc_right hr.units0 I.kIn J i1 sb (fun Q' hq => cd _ _ _ _ _ _ _ _ _ _ _ _ i1 i2 i3 i4 i5 I.kIn hb J sb hq)
    fun tk => tryC_own (s := { s with toks := tk }) I.kIn J hs hf (wpAny_mono (own_run DR hr hx (I.tok tk) (vs := [.ref b, x]) (.cons rfl (.cons rx .nil)) h) (fun _ _ z => back_of z) fun _ _ z => z)
theorem op_both {f : Value → Value → Sem Value} {r1 r2 : R2} (h1 : OpR X f r1) (h2 : OpR X f r2) : OpR X f (fun x y H Q => r1 x y H Q ∨ r2 x y H Q) :=
  fun pins s σ H x y v u Q I rx ry h => h.elim (h1 pins s σ H x y v u Q I rx ry) (h2 pins s σ H x y v u Q I rx ry)
/-- x != y, x of the class, by the own == -/
def rNeO (K : PySem.W.Frag) (C : Addr) (sp : Sp) (E : XK) : R2 := fun x y H Q => ∃ a dx fs t, x = .ref a ∧ H a = some (.ins C dx fs) ∧ TyX K H y t ∧ notFirst K C t = true ∧ sp [x, y] H (fun v H' => ∃ b, v = .bl b ∧ Q (.bl (!b)) H') E
/-- .. y of the class -/
def rNeR (K : PySem.W.Frag) (C : Addr) (sp : Sp) (E : XK) : R2 := fun x y H Q => ∃ b dy gs T, y = .ref b ∧ H b = some (.ins C dy gs) ∧ PlV H x T ∧ CDec .NotEq T ∧ sp [y, x] H (fun v H' => ∃ b, v = .bl b ∧ Q (.bl (!b)) H') E
theorem ne_back {v : Value} {s' : Shared} (h : EP X pins σ (fun v H' => ∃ b, v = .bl b ∧ Q (.bl (!b)) H') v s') : ∃ b, v = .bool b ∧ EP X pins σ Q (.bool (!b)) s' := by
  obtain ⟨z, H', I, r, b, rfl, q⟩ := h
  cases r
  exact ⟨b, rfl, .bl (!b), H', I, rfl, q⟩
theorem op_neO (D : FunOk X.prog X.w X.K X.mg X.base CX k f ps [] sp) (hn : findIn X.K (.ref C) "__ne__" = some (some (.builtin "object.__ne__"))) (hob : subIn X.K (.ref C) (.type "object") = some true)
    (hs : findIn X.K (.ref C) "__eq__" = some (some (.ref f))) (hf : isFn X.K (.ref f) = true) (hr : Room (k + 1) X.A) (hx : Passes CX X E) : OpR X (compareOp .NotEq) (rNeO X.K C sp E) := by
  intro pins s σ H x y v u Q I rx ry h
  obtain ⟨a, dx, fs, t, rfl, hi, ty, hnf, h⟩ := h
  cases rx
  obtain ⟨_, od, J⟩ := ins_at I hi
  obtain ⟨P, Z, p, _⟩ := kit_of I ry ty
  show wpAny _ _ (richCompare .NotEq (.ref a) u) _ _ s
  exact rc_left hr.units0 I.kIn J (Z.ty _ _ I.kIn p) hnf (tryC_ne (by have := hr.un; omega) I.kIn J hn hob hs hf
    (wpAny_mono (own_runA D ⟨hr.in1, rfl⟩ hx I (vs := [.ref a, y]) (.cons rfl (.cons ry .nil)) h) (fun _ _ z => ne_back z) fun _ _ z => z))
theorem op_neR (D : FunOk X.prog X.w X.K X.mg X.base CX k f ps [] sp) (hn : findIn X.K (.ref C) "__ne__" = some (some (.builtin "object.__ne__"))) (hob : subIn X.K (.ref C) (.type "object") = some true)
    (hs : findIn X.K (.ref C) "__eq__" = some (some (.ref f))) (hf : isFn X.K (.ref f) = true) (sub : ∀ T ∈ T7, subIn X.K (.ref C) (.type T) = some false) (hr : Room (k + 1) X.A) (hx : Passes CX X E) : OpR X (compareOp .NotEq) (rNeR X.K C sp E) := by
  intro pins s σ H x y v u Q I rx ry h
  obtain ⟨b, dy, gs, T, rfl, hi, pl, cd, h⟩ := h
  cases ry
  obtain ⟨hb, od, J⟩ := ins_at I hi
  obtain ⟨i1, i2, i3, i4, i5⟩ := pl.is I rx
  have sb := sub T pl.mem
  show wpAny _ _ (richCompare .NotEq v (.ref b)) _ _ s
  exact rc_right hr.units0 I.kIn J i1 sb (fun Q' hq => cd _ _ _ _ _ _ _ _ _ _ _ _ i1 i2 i3 i4 i5 I.kIn hb J sb hq)
    fun tk => tryC_ne (s := { s with toks := tk }) (by have := hr.un; omega) I.kIn J hn hob hs hf
      (wpAny_mono (own_runA D ⟨hr.in1, rfl⟩ hx (I.tok tk) (vs := [.ref b, x]) (.cons rfl (.cons rx .nil)) h) (fun _ _ z => ne_back z) fun _ _ z => z)
end
section
variable {prog : Program} {w : World} {A : Around} {E : Value → Shared → Prop} {s : Shared} {K : PySem.W.Frag} {x C f L : Addr} {h0 : Heap} {m : Str → Option Value} {ox : Obj} {od : Option Obj}
/-- bool(x) by the own __bool__ -/
theorem bool_own {Q : Value → Shared → Prop} (F : Fr h0 L s.heap m) (X : K.In h0) (I : PySem.W.InstAt s.heap x ox C od) (hs : PySem.W.findIn K (.ref C) "__bool__" = some (some (.ref f))) (hf : PySem.W.isFn K (.ref f) = true)
    (h : wpAny (model prog w) A.in1.in1 (call (.ref f) [.ref x]) (fun r s1 => ∃ b, r = Value.bool b ∧ Q r s1) E s) : wpAny (model prog w) A (call (.type "bool") [.ref x]) Q E s := by
  refine callType_codes (T := "bool") (Bi := Builtin.«object.__init__») (Q₁ := fun r s₁ => ∃ b, r = Value.bool b ∧ Q r s₁) PySem.F.called_bool (PySem.F.typeCall_bool_1 _) PySem.F.entry_object_init ?_ ?_
  · refine codeAny_of_tree ?_
    show wpAny _ A.in1.in1 (do checkBuiltinCall "bool.__new__" ⟨[.type "bool", .ref x], []⟩; again (.builtin "bool.__new__" ⟨[.type "bool", .ref x], []⟩)) _ _ s
    refine wpAny_bind (wpAny_of_eq (PySem.F.newCall_bool_1 _) (wpAny_pure ⟨plainId_quiet (by decide +kernel) _, codeAny_builtin PySem.F.entry_bool_new ?_⟩))
    rw [Around.under_plainId (by decide +kernel) _]
    unfold Builtin.«bool.__new__»
    have f1 := PySem.F.conv_sub_bool
    have tr : wpAny (model prog w) A.in1.in1 (truthy (.ref x)) (fun b s1 => Q (.bool b) s1) E s := PySem.W.truthy_K F X I hs hf (wpAny_mono h (fun r s1 ⟨b, e, q⟩ => by
      subst e
      exact q) fun _ _ z => z)
    refine wpAny_bind (wpAny_of_eq (a := true) rfl ?_)
    refine PySem.W.KFB.if_not rfl ?_
    refine wpAny_bind (wpAny_of_eq (a := true) f1 ?_)
    refine PySem.W.KFB.if_not rfl ?_
    refine wpAny_bind (m := someArgs "bool" 0 1 _) (wpAny_of_eq (a := [.ref x]) rfl ?_)
    exact wpAny_bind (wpAny_mono tr (fun b s1 q => wpAny_pure ⟨b, rfl, q⟩) fun _ _ z => z)
  · rintro obj s₁ ⟨b, rfl, hq⟩
    exact ⟨rfl, PySem.F.args_object_init_2 _ _, object_init_meets PySem.F.called_bool.init.lookup PySem.F.called_bool.made (by decide) prog w A.in1 _ s₁ ⟨rfl, rfl, hq⟩⟩
end
/-! ### x += y -/
structure InpF (K : PySem.W.Frag) (C : Addr) (nm : String) : Prop where
  mro : ∃ cd, PySem.W.clsIn K C = some cd ∧ cd.mro = [.ref C, .type "object"]
  c : PySem.W.findIn K (.ref C) (dunderI nm) = some none
  o : PySem.W.findIn K (.type "object") (dunderI nm) = some none
  i : PySem.W.findIn K (.type "int") (dunderI nm) = some none
theorem fillsI_own {M : Model} {h : Heap} {K : PySem.W.Frag} {C : Addr} {nm : String} {add : Bool} (X : K.In h) (F : InpF K C nm) : Looks M h (fillsInplaceSlot (.ref C) nm add) false := by
  intro A Q E s k q
  obtain ⟨cd, hc, hm⟩ := F.mro
  have Lm : Looks M h (mroOf (.ref C)) cd.mro := (PySem.W.looks_clsIn X hc).andThen (f := fun cd => pure cd.mro) .now
  have Lm' := Lm.keeps k
  obtain ⟨hh, g, d, tt, os⟩ := s
  have X' : K.In hh := X.keeps k
  have L1 : Looks M hh (typeLookup (.ref C) (dunderI nm)) none := PySem.W.looks_findIn X' F.c
  have L2 : Looks M hh (typeLookup (.type "object") (dunderI nm)) none := PySem.W.looks_findIn X' F.o
  unfold fillsInplaceSlot
  refine wpAny_bind (Lm'.at ?_)
  rw [hm, List.anyM_cons]
  refine wpAny_bind ?_
  repeat lk
  exact q
theorem fillsI_int {M : Model} {h : Heap} {K : PySem.W.Frag} {C : Addr} {nm : String} {add : Bool} (X : K.In h) (F : InpF K C nm) : Looks M h (fillsInplaceSlot (.type "int") nm add) false := by
  intro A Q E s k q
  obtain ⟨hh, g, d, tt, os⟩ := s
  have X' : K.In hh := X.keeps k
  have L1 : Looks M hh (typeLookup (.type "int") (dunderI nm)) none := PySem.W.looks_findIn X' F.i
  unfold fillsInplaceSlot
  repeat lk
  exact q
section
variable {X : Cx} {CX : CXT} {k k2 : Nat} {f g C : Addr} {ps ps2 : List Str} {sp spL spR : Sp} {E : XK}
/-- the left one an int or an own value -/
def rInpO (K : PySem.W.Frag) (C : Addr) (nm : String) (spL spR : Sp) (E : XK) : R2 := fun x y H Q => ((∃ i, x = .int i) ∨ ∃ a dx fs, x = .ref a ∧ H a = some (.ins C dx fs)) ∧ rBinO K C nm spL spR E x y H Q
theorem ip_binO {op : Operator} (DL : FunOk X.prog X.w X.K X.mg X.base CX k f ps [] spL) (DR : FunOk X.prog X.w X.K X.mg X.base CX k2 g ps2 [] spR) (F : OwnB X.K C op.info.2 f g) (IF : InpF X.K C op.info.2) (hr : Room k X.A) (hr2 : Room k2 X.A) (hx : Passes CX X E) :
    PIp X op (rInpO X.K C op.info.2 spL spR E) := by
  intro pins s σ H x y v u Q I rx ry ⟨hk, h⟩
  have run := bin1_own DL DR F hr hr2 hx I rx ry h
  have ty : ∃ t, Looks (model X.prog X.w) s.heap (typeOf v) t ∧ ∀ add, Looks (model X.prog X.w) s.heap (fillsInplaceSlot t op.info.2 add) false := by
    rcases hk with ⟨i, rfl⟩ | ⟨a, dx, fs, rfl, hi⟩
    · obtain ⟨t, rfl⟩ := rx
      exact ⟨_, Looks.of_pure rfl, fun add => fillsI_int I.kIn IF⟩
    · cases rx
      obtain ⟨_, od, J⟩ := ins_at I hi
      exact ⟨_, J.type, fun add => fillsI_own I.kIn IF⟩
  obtain ⟨t, lt, lf⟩ := ty
  unfold inplaceOp
  refine wpAny_holding (wpAny_bind (lt.here (wpAny_bind ((lf _).here ?_))))
  simp only [Bool.false_eq_true, if_false]
  refine wpAny_bind (wpAny_mono run (fun r s' hq => ?_) fun _ _ z => z)
  obtain ⟨z, rfl, hq⟩ := hq
  exact wpAny_pure hq
/-- bool(x) -/
def rBoolO (C : Addr) (sp : Sp) (E : XK) : List V → Hp → VK → Prop := fun vs H Q => ∃ a dx fs, vs = [.ref a] ∧ H a = some (.ins C dx fs) ∧ sp [.ref a] H (fun v H' => ∃ b, v = .bl b ∧ Q (.bl b) H') E
theorem call_boolO (D : FunOk X.prog X.w X.K X.mg X.base CX k f ps [] sp) (hs : findIn X.K (.ref C) "__bool__" = some (some (.ref f))) (hf : isFn X.K (.ref f) = true) (hr : Room (k + 2) X.A) (hx : Passes CX X E) : CallR X (.type "bool") (rBoolO C sp E) := by
  intro pins s σ H xs us Q I r h
  obtain ⟨a, dx, fs, rfl, hi, h⟩ := h
  obtain ⟨u, rfl, r1⟩ := vals1 r
  cases r1
  obtain ⟨_, od, J⟩ := ins_at I hi
  obtain ⟨m, hF⟩ := I.fr
  exact bool_own hF I.ok.mod.kin J hs hf (wpAny_mono (own_runA D ⟨hr.in1.in1, rfl⟩ hx I (vs := [.ref a]) (.cons rfl .nil) h) (fun v s' ⟨z, H', I', rz, b, e, q⟩ => by
    subst e
    cases rz
    exact ⟨b, rfl, .bl b, H', I', rfl, q⟩) fun _ _ z => z)
end
def inpB (K : PySem.W.Frag) (C : Addr) (nm : String) : Bool :=
  (match PySem.W.clsIn K C with
    | some cd => decide (cd.mro = [.ref C, .type "object"])
    | none => false) && (decide (PySem.W.findIn K (.ref C) (dunderI nm) = some none) && (decide (PySem.W.findIn K (.type "object") (dunderI nm) = some none) && decide (PySem.W.findIn K (.type "int") (dunderI nm) = some none)))
theorem inpB_ok {K : PySem.W.Frag} {C : Addr} {nm : String} (h : inpB K C nm = true) : InpF K C nm := by
  obtain ⟨h1, h⟩ := He.ba h
  obtain ⟨h2, h⟩ := He.ba h
  obtain ⟨h3, h4⟩ := He.ba h
  refine ⟨?_, of_decide_eq_true h2, of_decide_eq_true h3, of_decide_eq_true h4⟩
  cases a : PySem.W.clsIn K C with
  | none =>
    rw [a] at h1
    cases h1
  | some cd =>
    rw [a] at h1
    exact ⟨cd, rfl, of_decide_eq_true h1⟩
end Gs

namespace Gs
open PySem L2
theorem rG_abs (i j : Int) : (rG i j).natAbs = Int.gcd i j := by
  unfold rG
  split <;> simp
theorem r_mul (i : Int) {j : Int} (h : j ≠ 0) : rG i j * rN i j = i ∧ rG i j * rD i j = j := by
  obtain ⟨⟨c, hc⟩, ⟨d, hd⟩⟩ := rG_dvd i j
  have z := rG_ok i h
  constructor
  · have : rN i j = c := by
      unfold rN
      generalize hg : rG i j = g at *
      rw [hc]
      exact Int.mul_fdiv_cancel_left _ z
    rw [this, ← hc]
  · have : rD i j = d := by
      unfold rD
      generalize hg : rG i j = g at *
      rw [hd]
      exact Int.mul_fdiv_cancel_left _ z
    rw [this, ← hd]
theorem r_cop (i : Int) {j : Int} (h : j ≠ 0) : Int.gcd (rN i j) (rD i j) = 1 := by
  obtain ⟨h1, h2⟩ := r_mul i h
  have e := Int.gcd_mul_left (rG i j) (rN i j) (rD i j)
  rw [h1, h2, rG_abs] at e
  have p : 0 < Int.gcd i j := Nat.pos_of_ne_zero fun z => h (Int.gcd_eq_zero_iff.mp z).2
  exact Nat.eq_of_mul_eq_mul_left p (by rw [← e, Nat.mul_one])
theorem r_pos (i : Int) {j : Int} (h : j ≠ 0) : 0 < rD i j := by
  obtain ⟨_, h2⟩ := r_mul i h
  have p : 0 < Int.gcd i j := Nat.pos_of_ne_zero fun z => h (Int.gcd_eq_zero_iff.mp z).2
  unfold rG at h2
  split at h2
  · rename_i hj
    rcases Int.lt_or_le 0 (rD i j) with q | q
    · exact q
    · have : 0 ≤ -(Int.gcd i j : Int) * rD i j := Int.mul_nonneg_of_nonpos_of_nonpos (by omega) q
      omega
  · rename_i hj
    rcases Int.lt_or_le 0 (rD i j) with q | q
    · exact q
    · have : (Int.gcd i j : Int) * rD i j ≤ 0 := Int.mul_nonpos_of_nonneg_of_nonpos (by omega) q
      omega
theorem red_eq {n1 d1 n2 d2 : Int} (p1 : 0 < d1) (p2 : 0 < d2) (c1 : Int.gcd n1 d1 = 1) (c2 : Int.gcd n2 d2 = 1) : n1 * d2 = n2 * d1 ↔ n1 = n2 ∧ d1 = d2 := by
  constructor
  · intro e
    have en : n1.natAbs * d2.natAbs = n2.natAbs * d1.natAbs := by rw [← Int.natAbs_mul, ← Int.natAbs_mul, e]
    have k1 : d1.natAbs ∣ d2.natAbs := Nat.Coprime.dvd_of_dvd_mul_left (k := d1.natAbs) (m := n1.natAbs) (by unfold Nat.Coprime; rw [Nat.gcd_comm]; exact c1) ⟨n2.natAbs, by rw [en, Nat.mul_comm]⟩
    have k2 : d2.natAbs ∣ d1.natAbs := Nat.Coprime.dvd_of_dvd_mul_left (k := d2.natAbs) (m := n2.natAbs) (by unfold Nat.Coprime; rw [Nat.gcd_comm]; exact c2) ⟨n1.natAbs, by rw [← en, Nat.mul_comm]⟩
    have k := Nat.dvd_antisymm k1 k2
    have ed : d1 = d2 := by omega
    subst ed
    exact ⟨Int.eq_of_mul_eq_mul_right (by omega) e, rfl⟩
  · rintro ⟨rfl, rfl⟩
    rfl
/-- a fraction's least terms do not see a common factor -/
theorem r_scale {t b k : Int} (hb : b ≠ 0) (hk : k ≠ 0) : rN (k * t) (k * b) = rN t b ∧ rD (k * t) (k * b) = rD t b := by
  have hkb := Int.mul_ne_zero hk hb
  obtain ⟨a1, a2⟩ := r_mul t hb
  obtain ⟨b1, b2⟩ := r_mul (k * t) hkb
  refine (red_eq (r_pos _ hkb) (r_pos _ hb) (r_cop _ hkb) (r_cop _ hb)).mp ?_
  have z1 := rG_ok (k * t) hkb
  have z2 := rG_ok t hb
  have : rG (k * t) (k * b) * rG t b * (rN (k * t) (k * b) * rD t b) = rG (k * t) (k * b) * rG t b * (rN t b * rD (k * t) (k * b)) := by
    have e1 : rG (k * t) (k * b) * rG t b * (rN (k * t) (k * b) * rD t b) = (rG (k * t) (k * b) * rN (k * t) (k * b)) * (rG t b * rD t b) := by
      simp only [Int.mul_assoc, Int.mul_left_comm]
    have e2 : rG (k * t) (k * b) * rG t b * (rN t b * rD (k * t) (k * b)) = (rG (k * t) (k * b) * rD (k * t) (k * b)) * (rG t b * rN t b) := by
      simp only [Int.mul_assoc, Int.mul_left_comm]
      simp only [Int.mul_comm, Int.mul_left_comm]
    rw [e1, e2, a1, a2, b1, b2]
    simp only [Int.mul_assoc]
    rw [Int.mul_comm t b]
  exact Int.eq_of_mul_eq_mul_left (Int.mul_ne_zero z1 z2) this
end Gs

set_option maxRecDepth 100000
set_option maxHeartbeats 4000000
/-! x in (y, z), own values with an own == -/
namespace Gs
open PySem PySem.Spec PyProof.Rows L2 PySem.Calls PySem.W
open MeetsSeq MeetsSeq2 MeetsSeq3 SeqRoads2
open AutoSeq1 (wpAny_loadPart')
def InW (M : Model) (A : Around) (x : Value) (R : Result → Shared → Prop) : List Value → Shared → Prop
  | [], s => R (.ok (.ret (.bool false))) s
  | y :: ys, s => wpAny M A (eqBool y x) (fun b s' => if b = true then R (.ok (.ret (.bool true))) s' else InW M A x R ys s') (fun e s' => R (.error e) s') s
theorem tuple_containsW {prog : Program} {w : World} (l : Addr) (items : Array Value) (n : Nat) (dd : Option Addr) (sl : Array (Option Value)) (x : Value) :
    MeetsIn prog w (Builtin.«tuple.__contains__» ⟨[.ref l, x], []⟩)
      (fun A R s => s.heap.get? l = some { cls := .type "tuple", dict := dd, data := .seq items n, slots := sl } ∧ InW (model prog w) A.in1 x R items.toList s) :=
  .of_wp fun A R s h => by
    obtain ⟨hp, g, d, tk, os⟩ := s; obtain ⟨hl, h⟩ := h
    wp_walk using wpAny_loadPart' hl, wpAny_forIn_array _ (fun rest b s' => b.1 = none ∧ InW (model prog w) A.in1 x R rest s') _
    case turn =>
      rintro y rest b s' ⟨hb, hR⟩
      refine wpAny_bind (wpAny_mono hR (fun c s2 hc => ?_) fun _ _ e => e)
      cases c with
      | true =>
        rw [if_pos rfl] at hc
        obtain ⟨hp2, g2, d2, tk2, os2⟩ := s2
        wp_walk
        exact ⟨_, rfl, hc⟩
      | false =>
        rw [if_neg (by decide)] at hc
        obtain ⟨hp2, g2, d2, tk2, os2⟩ := s2
        wp_walk
        exact ⟨rfl, hc⟩
    case fin =>
      rintro ⟨b1, b2⟩ s' ⟨hb, hR⟩
      simp only at hb
      subst hb
      obtain ⟨hp2, g2, d2, tk2, os2⟩ := s'
      wp_walk
      exact ⟨_, rfl, hR⟩
    case h =>
      exact ⟨rfl, h⟩
theorem in_tupleW {prog : Program} {w : World} {A : Around} {E : Value → Shared → Prop} {s : Shared} {l : Addr} {items : Array Value} {x : Value} {Q : Value → Shared → Prop} (hl : s.heap.IsTuple l items)
    (h : InW (model prog w) A.in1 x (wants (fun v s' => ∃ b, v = .bool b ∧ Q (.bool b) s') E) items.toList s) : wpAny (model prog w) A (compareOp .In x (.ref l)) Q E s := by
  obtain ⟨⟨cls, dd, data, sl⟩, ho, hc, n, hd⟩ := id hl
  simp only at hc hd
  subst hc hd
  show wpAny _ A (do return .bool (← contains (.ref l) x)) Q E s
  refine wpAny_bind (wpAny_contains_slot ⟨_, ho, rfl⟩ F.slot_tuple_contains (wpAny_mono (call_meetsIn F.slot_tuple_contains ⟨_, ho, rfl⟩ F.entry_tuple_contains (F.args_tuple_contains_2 _ _) (tuple_containsW l items n dd sl x) (Q := fun v s' => ∃ b, v = .bool b ∧ Q (.bool b) s') ⟨ho, h⟩) (fun v s' hv => ?_) fun _ _ e => e))
  obtain ⟨b, rfl, hq⟩ := hv
  exact wpAny_truthy_bool (wpAny_pure hq)
section
variable {M : Model} {A : Around} {E : Value → Shared → Prop} {s : Shared} {a b : Addr} {Q : Bool → Shared → Prop}
theorem eqBool_same (h : Q true s) : wpAny M A (eqBool (.ref a) (.ref a)) Q E s := by
  unfold eqBool
  refine wpAny_holding ?_
  rw [if_pos (beq_self_eq_true _)]
  exact wpAny_bind (wpAny_rule (wpAny_pure h))
theorem eqBool_own (n : b ≠ a) (h : wpAny M A (richCompare .Eq (.ref b) (.ref a)) (fun v s' => ∃ c, v = .bool c ∧ Q c s') E s) : wpAny M A (eqBool (.ref b) (.ref a)) Q E s := by
  unfold eqBool
  refine wpAny_holding ?_
  have e : (Value.ref b == Value.ref a) = false := Bool.eq_false_iff.mpr fun q => n (by cases beq_iff_eq.mp q; rfl)
  rw [e, if_neg (by decide)]
  refine wpAny_bind (wpAny_mono h (fun v s' hv => ?_) fun _ _ e => e)
  obtain ⟨c, rfl, q⟩ := hv
  exact wpAny_truthy_bool q
end
/-- a comparison where a builtin's work goes on -/
def OpR1 (X : Cx) (f : Value → Value → Sem Value) (r : R2) : Prop :=
  ∀ (pins : List (Addr × Obj)) (s : Shared) (σ : L2.St) (H : Hp) (x y : V) (v u : Value) (Q : VK), Inv X pins σ H s → RelV x v → RelV y u → r x y H Q → wpAny (model X.prog X.w) X.A.in1 (f v u) (EP X pins σ Q) X.xe s
def InO (r : R2) (x : V) : List V → Hp → VK → Prop
  | [], H, Q => Q (.bl false) H
  | y :: ys, H, Q => (∃ b, y = .ref b) ∧ ((y = x ∧ Q (.bl true) H) ∨ (y ≠ x ∧ r y x H (fun v H' => ∃ c, v = .bl c ∧ if c = true then Q (.bl true) H' else InO r x ys H' Q)))
/-- x in ys, a tuple of own values -/
def rInO (K : PySem.W.Frag) (r : R2) : R2 := fun x y H Q => ∃ p ys a, x = .ref a ∧ y = .ref p ∧ SqT K H p ys ∧ InO r x ys H Q
theorem inO_walk {X : Cx} {r : R2} (h1 : OpR1 X (richCompare .Eq) r) {pins : List (Addr × Obj)} {σ : L2.St} {a : Addr} {Q : VK} : ∀ (ys : List V) (us : List Value) (H : Hp) (s : Shared), Inv X pins σ H s → Vals ys us → InO r (.ref a) ys H Q →
    InW (model X.prog X.w) X.A.in1 (.ref a) (wants (fun v s' => ∃ b, v = .bool b ∧ EP X pins σ Q (.bool b) s') X.xe) us s := by
  intro ys
  induction ys with
  | nil =>
    intro us H s I rv h
    cases rv
    exact ⟨false, rfl, .bl false, H, I, rfl, h⟩
  | cons y ys ih =>
    intro us H s I rv h
    cases rv with
    | cons ry rv =>
    obtain ⟨⟨b, rfl⟩, h⟩ := h
    cases ry
    rcases h with ⟨e, q⟩ | ⟨n, h⟩
    · cases e
      refine eqBool_same ?_
      rw [if_pos rfl]
      exact ⟨true, rfl, .bl true, H, I, rfl, q⟩
    · refine eqBool_own (fun z => n (by rw [z])) (wpAny_mono (h1 pins s σ H (.ref b) (.ref a) _ _ _ I rfl rfl h) (fun v s' hv => ?_) fun _ _ e => e)
      obtain ⟨z, H', I', rz, c, rfl, q⟩ := hv
      cases rz
      refine ⟨c, rfl, ?_⟩
      cases c with
      | true =>
        rw [if_pos rfl] at q ⊢
        exact ⟨true, rfl, .bl true, H', I', rfl, q⟩
      | false =>
        rw [if_neg (by decide)] at q ⊢
        exact ih _ _ _ I' rv q
theorem op_inO {X : Cx} {r : R2} (h1 : OpR1 X (richCompare .Eq) r) : OpR X (compareOp .In) (rInO X.K r) := by
  intro pins s σ H x y v u Q I rx ry h
  obtain ⟨p, ys, a, rfl, rfl, hq, h⟩ := h
  cases rx
  cases ry
  obtain ⟨its, r', pl, hz⟩ := I.tuple hq
  exact in_tupleW pl (inO_walk h1 ys its H s I r' h)
section
variable {X : Cx} {CX : CXT} {k : Nat} {f C : Addr} {ps : List Str} {sp : Sp} {E : XK}
theorem op1_cmpO (D : FunOk X.prog X.w X.K X.mg X.base CX k f ps [] sp) (hs : findIn X.K (.ref C) "__eq__" = some (some (.ref f))) (hf : isFn X.K (.ref f) = true) (hr : Room (k + 1) X.A) (hx : Passes CX X E) : OpR1 X (richCompare .Eq) (rCmpO X.K C sp E) := by
  intro pins s σ H x y v u Q I rx ry h
  obtain ⟨a, dx, fs, t, rfl, hi, ty, hn, h⟩ := h
  cases rx
  obtain ⟨_, od, J⟩ := ins_at I hi
  obtain ⟨m, hF⟩ := I.fr
  obtain ⟨P, Z, p, _⟩ := kit_of I ry ty
  exact cmp_K hr.in1.units0 hF I.ok.mod.kin J (Z.ty _ _ I.kIn p) hn hs hf (wpAny_mono (own_runA D ⟨hr.in1, rfl⟩ hx I (vs := [.ref a, y]) (.cons rfl (.cons ry .nil)) h) (fun _ _ z => back_of z) fun _ _ z => z)
theorem op1_cmpS {a : Addr} {oe : Obj} {pn : List (Addr × Obj)} (D : FunC X.prog X.w X.K X.mg X.base k f ps sp) (hs : findIn X.K (.ref C) "__eq__" = some (some (.ref f))) (hf : isFn X.K (.ref f) = true) (hr : Room (k + 1) X.A) : OpR1 (X.suite a ((a, oe) :: pn)) (richCompare .Eq) (rCmpO X.K C sp E0) := by
  intro pins s σ H x y v u Q I rx ry h
  obtain ⟨b, dx, fs, t, rfl, hi, ty, hn, h⟩ := h
  cases rx
  obtain ⟨_, od, J⟩ := ins_at I hi
  obtain ⟨m, hF⟩ := I.fr
  obtain ⟨P, Z, p, _⟩ := kit_of I ry ty
  obtain ⟨fd, F, hb⟩ := D.ex
  have P1 := I.pin (a, oe) (List.mem_append_left _ List.mem_cons_self)
  have pin : L2H.PinOk (X.suite a ((a, oe) :: pn)).stack H s (a, oe) := ⟨P1.1, P1.2.1, fun hm => (List.mem_cons.mp (I.stkSub a hm)).elim P1.2.2.1 P1.2.2.2.1, P1.2.2.2.2⟩
  have hrS : L2H.RoomH k (X.suite a ((a, oe) :: pn)).A.in1 := ⟨hr.in1.dp, hr.in1.un⟩
  have e0 : Env0 X.prog X.w X.K X.mg X.base (X.suite a ((a, oe) :: pn)).A.in1 (X.suite a ((a, oe) :: pn)).stack s H := by
    have e := I.env0
    exact ⟨e.frames, e.mod, e.bs, e.bsz, e.funs, e.frf, e.hok, e.bare⟩
  have bb := hb s [.ref b, u] I.kIn (by rw [List.append_nil]; exact F.len _ _ _ _ h)
  rw [List.append_nil] at bb
  refine cmp_K hr.in1.units0 hF I.ok.mod.kin J (Z.ty _ _ I.kIn p) hn hs hf (wpAny_call (codeAny_mono (F.go _ _ s H ⟨[.ref b, u], []⟩ _ [.ref b, y] Q E0 (a, oe) hrS pin e0 bb (.cons rfl (.cons ry .nil)) h) ?_))
  intro r s' hq
  match r, hq with
  | .error e, hq => exact (show False from hq).elim
  | .ok (.ret u), hq => exact back_of (I.after hq)
  | .ok .next, hq => exact hq.elim
  | .ok .brk, hq => exact hq.elim
  | .ok .cont, hq => exact hq.elim
end
end Gs

set_option maxRecDepth 100000
set_option maxHeartbeats 0
namespace K06
open PySem PySem.Spec PyProof.Rows Gs
open L2 hiding Ext paired_get
def top (i : Nat) : Stmt := PySem.Challenge.pw_gapshares_k06_ratios_in_order.main.body.getD i (.Pass ⟨0, 0, 0, 0⟩)
def fn : List He5.DefA := [⟨fun K => He.ga K "is_integer", "is_integer", "is_integer", defArgs (top 2), defBody (top 2), defScope (top 2), [], []⟩,
  ⟨fun K => He.ga K "divisor_of", "divisor_of", "divisor_of", defArgs (top 11), defBody (top 11), defScope (top 11), [], []⟩,
  ⟨fun K => He.ma K (He.ga K "Ratio") "__init__", "__init__", "Ratio.__init__", defArgs (inClass (top 12) 0), defBody (inClass (top 12) 0), defScope (inClass (top 12) 0), [.int 1], []⟩,
  ⟨fun K => He.ma K (He.ga K "Ratio") "floor", "floor", "Ratio.floor", defArgs (inClass (top 12) 5), defBody (inClass (top 12) 5), defScope (inClass (top 12) 5), [], []⟩,
  ⟨fun K => He.ma K (He.ga K "Ratio") "ceiling", "ceiling", "Ratio.ceiling", defArgs (inClass (top 12) 6), defBody (inClass (top 12) 6), defScope (inClass (top 12) 6), [], []⟩,
  ⟨fun K => He.ma K (He.ga K "Ratio") "__floordiv__", "__floordiv__", "Ratio.__floordiv__", defArgs (inClass (top 12) 14), defBody (inClass (top 12) 14), defScope (inClass (top 12) 14), [], []⟩,
  ⟨fun K => He.ma K (He.ga K "Ratio") "__rfloordiv__", "__rfloordiv__", "Ratio.__rfloordiv__", defArgs (inClass (top 12) 15), defBody (inClass (top 12) 15), defScope (inClass (top 12) 15), [], []⟩,
  ⟨fun K => He.ma K (He.ga K "Ratio") "__mod__", "__mod__", "Ratio.__mod__", defArgs (inClass (top 12) 16), defBody (inClass (top 12) 16), defScope (inClass (top 12) 16), [], []⟩,
  ⟨fun K => He.ma K (He.ga K "Ratio") "__rmod__", "__rmod__", "Ratio.__rmod__", defArgs (inClass (top 12) 17), defBody (inClass (top 12) 17), defScope (inClass (top 12) 17), [], []⟩,
  ⟨fun K => He.ma K (He.ga K "Ratio") "__bool__", "__bool__", "Ratio.__bool__", defArgs (inClass (top 12) 20), defBody (inClass (top 12) 20), defScope (inClass (top 12) 20), [], []⟩,
  ⟨fun K => He.ma K (He.ga K "Ratio") "__lt__", "__lt__", "Ratio.__lt__", defArgs (inClass (top 12) 21), defBody (inClass (top 12) 21), defScope (inClass (top 12) 21), [], []⟩,
  ⟨fun K => He.ma K (He.ga K "Ratio") "__le__", "__le__", "Ratio.__le__", defArgs (inClass (top 12) 22), defBody (inClass (top 12) 22), defScope (inClass (top 12) 22), [], []⟩,
  ⟨fun K => He.ma K (He.ga K "Ratio") "__gt__", "__gt__", "Ratio.__gt__", defArgs (inClass (top 12) 23), defBody (inClass (top 12) 23), defScope (inClass (top 12) 23), [], []⟩,
  ⟨fun K => He.ma K (He.ga K "Ratio") "__ge__", "__ge__", "Ratio.__ge__", defArgs (inClass (top 12) 24), defBody (inClass (top 12) 24), defScope (inClass (top 12) 24), [], []⟩,
  ⟨fun K => He.ma K (He.ga K "Ratio") "__eq__", "__eq__", "Ratio.__eq__", defArgs (inClass (top 12) 25), defBody (inClass (top 12) 25), defScope (inClass (top 12) 25), [], []⟩,
  ⟨fun K => He.ga K "told_of", "told_of", "told_of", defArgs (top 13), defBody (top 13), defScope (top 13), [], []⟩,
  ⟨fun K => He.ga K "above", "above", "above", defArgs (top 14), defBody (top 14), defScope (top 14), [], []⟩,
  ⟨fun K => He.ga K "quotient", "quotient", "quotient", defArgs (top 15), defBody (top 15), defScope (top 15), [], []⟩,
  ⟨fun K => He.ga K "remainder", "remainder", "remainder", defArgs (top 16), defBody (top 16), defScope (top 16), [], []⟩,
  ⟨fun K => He.ga K "_law_pen", "_law_pen", "_law_pen", defArgs (top 18), defBody (top 18), defScope (top 18), [], []⟩,
  ⟨fun K => He.ga K "_law_draw", "_law_draw", "_law_draw", defArgs (top 19), defBody (top 19), defScope (top 19), [], []⟩,
  ⟨fun K => He.ga K "_law_pick", "_law_pick", "_law_pick", defArgs (top 20), defBody (top 20), defScope (top 20), [], []⟩,
  ⟨fun K => He.ga K "_law_shared", "_law_shared", "_law_shared", defArgs (top 21), defBody (top 21), defScope (top 21), [], []⟩,
  ⟨fun K => He.ga K "_law_least", "_law_least", "_law_least", defArgs (top 22), defBody (top 22), defScope (top 22), [], []⟩,
  ⟨fun K => He.ga K "_law_pair", "_law_pair", "_law_pair", defArgs (top 23), defBody (top 23), defScope (top 23), [], []⟩,
  ⟨fun K => He.ga K "_law_odd", "_law_odd", "_law_odd", defArgs (top 24), defBody (top 24), defScope (top 24), [], []⟩,
  ⟨fun K => He.ga K "_law_heard", "_law_heard", "_law_heard", defArgs (top 25), defBody (top 25), defScope (top 25), [], []⟩,
  ⟨fun K => He.ga K "_law_got", "_law_got", "_law_got", defArgs (top 26), defBody (top 26), defScope (top 26), [], []⟩,
  ⟨fun K => He.ga K "_law_number", "_law_number", "_law_number", defArgs (top 27), defBody (top 27), defScope (top 27), [], []⟩,
  ⟨fun K => He.ga K "_law_near", "_law_near", "_law_near", defArgs (top 28), defBody (top 28), defScope (top 28), [], []⟩,
  ⟨fun K => He.ga K "_law_right", "_law_right", "_law_right", defArgs (top 29), defBody (top 29), defScope (top 29), [], []⟩,
  ⟨fun K => He.ga K "_law_rounded_right", "_law_rounded_right", "_law_rounded_right", defArgs (top 30), defBody (top 30), defScope (top 30), [], []⟩,
  ⟨fun K => He.ga K "_law_divided_right", "_law_divided_right", "_law_divided_right", defArgs (top 31), defBody (top 31), defScope (top 31), [], []⟩,
  ⟨fun K => He.ga K "_law_refused_right", "_law_refused_right", "_law_refused_right", defArgs (top 32), defBody (top 32), defScope (top 32), [], []⟩,
  ⟨fun K => He.ga K "_law_below_refused", "_law_below_refused", "_law_below_refused", defArgs (top 33), defBody (top 33), defScope (top 33), [], []⟩,
  ⟨fun K => He.ga K "law", "law", "law", defArgs (top 34), defBody (top 34), defScope (top 34), [], []⟩]
def fa : List He.Fa := [.free "isinstance", .free "int", .free "bool", .free "len", .free "abs", .free "list", .free "range", .free "repr", .free "tuple", .free "super", .glo "is_integer", .glo "divisor_of", .glo "told_of", .glo "above", .glo "quotient", .glo "remainder", .glo "_law_pen", .glo "_law_draw", .glo "_law_pick", .glo "_law_shared", .glo "_law_least", .glo "_law_pair", .glo "_law_odd", .glo "_law_heard", .glo "_law_got", .glo "_law_number", .glo "_law_near", .glo "_law_right", .glo "_law_rounded_right", .glo "_law_divided_right", .glo "_law_refused_right", .glo "_law_below_refused", .glo "law", .glo "GapError", .glo "BadRatio", .glo "BadText", .glo "Ratio"]
def xs : List XcD := [⟨"BadRatio", "BadRatio.__init__", defArgs (inClass (top 5) 0), defBody (inClass (top 5) 0), defScope (inClass (top 5) 0)⟩]
def tf : List He.Defn := [("_law_refused_right", none), ("_law_below_refused", none)]
def ex (K : PySem.W.Frag) : Bool := ratB K (He.ga K "Ratio") && ((He.Fa.mkr "Ratio").ok K && (decide (PySem.W.findIn K (.ref (He.ga K "BadRatio")) "value" = some none) && (decide (PySem.W.exmOne K (.ref (He.ga K "BadRatio")) (.ref (He.ga K "GapError")) = some true) && (decide (PySem.W.kitOne K (.ref (He.ga K "BadRatio")) (.ref (He.ga K "BadRatio")) = some true) &&
  (decide ((He.cT K ("_law_refused_right", none)).2 ≠ (He.cT K ("_law_below_refused", none)).2) && ((["floor", "ceiling", "__bool__", "__lt__", "__le__", "__gt__", "__ge__", "__eq__"] : List Str).all (fun m => mthB K (He.ga K "Ratio") m) && (T7.all (fun T => decide (PySem.W.subIn K (.ref (He.ga K "Ratio")) (.type T) = some false) && decide (PySem.W.subIn K (.type T) (.ref (He.ga K "Ratio")) = some false)) &&
  (decide (PySem.W.findIn K (.ref (He.ga K "Ratio")) "__ne__" = some (some (.builtin "object.__ne__"))) && (decide (PySem.W.subIn K (.ref (He.ga K "Ratio")) (.type "object") = some true) && (ownBB K (He.ga K "Ratio") "floordiv" && (ownBB K (He.ga K "Ratio") "mod" && (inpB K (He.ga K "Ratio") "floordiv" && inpB K (He.ga K "Ratio") "mod"))))))))))))
abbrev R : PySem.W.OpenRow := PySem.W.OpenLaw.row PySem.Challenge.rw_gapshares_k06_ratios_in_order
def file : Str := PySem.Challenge.pw_gapshares_k06_ratios_in_order.main.file
abbrev hk : PySem.W.Hook := hookS 5 file fa fn xs tf ex
def ob (s : PySem.W.SharedT) : AlS := obsS 5 file fa fn xs tf ex (HandSHeadRun.getT s)
theorem ob_eq (s : PySem.W.SharedT) : ob s = hk.obs s.abs := obsS_eq (HandSHeadRun.getT_eq s)
theorem run (w : World) : HandSHeadRun.RunEq R (PySem.W.view R.prog [34]) hk ob 20000 ["_wall", "__name__", "is_integer", "GapError", "BadRatio", "BadText", "MOST_FIGURES", "is_figures", "divisor_of", "Ratio", "told_of", "above", "quotient", "remainder", "_law_pen", "_law_draw", "_law_pick", "_law_shared", "_law_least", "_law_pair", "_law_odd", "_law_heard", "_law_got", "_law_number", "_law_near", "_law_right", "_law_rounded_right", "_law_divided_right", "_law_refused_right", "_law_below_refused"] w := by
  intro os
  kernel_rfl
end K06

set_option maxRecDepth 100000
set_option maxHeartbeats 4000000
namespace K06
open PySem PySem.Spec PyProof.Rows Gs
open L2 hiding Ext paired_get
open C8 (tCut pss_cut)
abbrev s__wall : Stmt := top 0
abbrev s_is_integer : Stmt := top 2
abbrev s_BadRatio___init__ : Stmt := inClass (top 5) 0
abbrev s_BadText___init__ : Stmt := inClass (top 6) 0
abbrev s_is_figures : Stmt := top 9
abbrev s_divisor_of : Stmt := top 11
abbrev s_Ratio___init__ : Stmt := inClass (top 12) 0
abbrev s_Ratio_read : Stmt := inClass (top 12) 1
abbrev s_Ratio_of : Stmt := inClass (top 12) 2
abbrev s_Ratio_largest : Stmt := inClass (top 12) 3
abbrev s_Ratio_smallest : Stmt := inClass (top 12) 4
abbrev s_Ratio_floor : Stmt := inClass (top 12) 5
abbrev s_Ratio_ceiling : Stmt := inClass (top 12) 6
abbrev s_Ratio_divided : Stmt := inClass (top 12) 7
abbrev s_Ratio___add__ : Stmt := inClass (top 12) 8
abbrev s_Ratio___radd__ : Stmt := inClass (top 12) 9
abbrev s_Ratio___sub__ : Stmt := inClass (top 12) 10
abbrev s_Ratio___rsub__ : Stmt := inClass (top 12) 11
abbrev s_Ratio___mul__ : Stmt := inClass (top 12) 12
abbrev s_Ratio___rmul__ : Stmt := inClass (top 12) 13
abbrev s_Ratio___floordiv__ : Stmt := inClass (top 12) 14
abbrev s_Ratio___rfloordiv__ : Stmt := inClass (top 12) 15
abbrev s_Ratio___mod__ : Stmt := inClass (top 12) 16
abbrev s_Ratio___rmod__ : Stmt := inClass (top 12) 17
abbrev s_Ratio___neg__ : Stmt := inClass (top 12) 18
abbrev s_Ratio___abs__ : Stmt := inClass (top 12) 19
abbrev s_Ratio___bool__ : Stmt := inClass (top 12) 20
abbrev s_Ratio___lt__ : Stmt := inClass (top 12) 21
abbrev s_Ratio___le__ : Stmt := inClass (top 12) 22
abbrev s_Ratio___gt__ : Stmt := inClass (top 12) 23
abbrev s_Ratio___ge__ : Stmt := inClass (top 12) 24
abbrev s_Ratio___eq__ : Stmt := inClass (top 12) 25
abbrev s_Ratio___str__ : Stmt := inClass (top 12) 26
abbrev s_told_of : Stmt := top 13
abbrev s_above : Stmt := top 14
abbrev s_quotient : Stmt := top 15
abbrev s_remainder : Stmt := top 16
abbrev s__law_pen : Stmt := top 18
abbrev s__law_draw : Stmt := top 19
abbrev s__law_pick : Stmt := top 20
abbrev s__law_shared : Stmt := top 21
abbrev s__law_least : Stmt := top 22
abbrev s__law_pair : Stmt := top 23
abbrev s__law_odd : Stmt := top 24
abbrev s__law_heard : Stmt := top 25
abbrev s__law_got : Stmt := top 26
abbrev s__law_number : Stmt := top 27
abbrev s__law_near : Stmt := top 28
abbrev s__law_right : Stmt := top 29
abbrev s__law_rounded_right : Stmt := top 30
abbrev s__law_divided_right : Stmt := top 31
abbrev s__law_refused_right : Stmt := top 32
abbrev s__law_below_refused : Stmt := top 33
abbrev s_law : Stmt := top 34
structure Txt (K : PySem.W.Frag) (mg : Str → Option Value) : Prop where
  f_isinstance : mg "isinstance" = none
  f_int : mg "int" = none
  f_bool : mg "bool" = none
  f_len : mg "len" = none
  f_abs : mg "abs" = none
  f_list : mg "list" = none
  f_range : mg "range" = none
  f_repr : mg "repr" = none
  f_tuple : mg "tuple" = none
  f_super : mg "super" = none
  c_GapError : mg "GapError" = some (.ref (He.ga K "GapError"))
  c_BadRatio : mg "BadRatio" = some (.ref (He.ga K "BadRatio"))
  c_BadText : mg "BadText" = some (.ref (He.ga K "BadText"))
  c_Ratio : mg "Ratio" = some (.ref (He.ga K "Ratio"))
section
variable {P : Program} {w : World} {K : PySem.W.Frag} {mg : Str → Option Value} {base : Heap}
theorem sc_is_integer : FnScope ["value"] ["value"] (defScope s_is_integer) := ⟨rfl, rfl, rfl, by decide +kernel, rfl, by decide +kernel, by decide +kernel⟩
theorem d_is_integer (T : Txt K mg) (A0 : At K mg "is_integer" s_is_integer) : DefOk P w K mg base CX0 1 "is_integer" ["value"] [] (spIsI K) := by
  refine At.ok A0 sc_is_integer (fun _ _ F => F.bindsN fun _ _ _ _ _ _ us hl => match us, hl with | [_], _ => rfl) (fun vs H Q E h => ?_) (fun f cdv A out s H vs Q E hr h => ?_)
  · obtain ⟨v, rfl, _⟩ := h; rfl
  · have nd := sc_is_integer.nd
    refine ⟨_, (pss_one (ps_ret (pe_and (pe_callB call_isi (by rfl) T.f_isinstance (by decide +kernel) (pa_cons (pv 0) (pa_cons (pe_bltn (v := .ty "int") (by rfl) T.f_int (by decide +kernel) rfl) pa_nil))) (pe_one (pe_not (pe_callB call_isi (by rfl) T.f_isinstance (by decide +kernel) (pa_cons (pv 0) (pa_cons (pe_bltn (v := .ty "bool") (by rfl) T.f_bool (by decide +kernel) rfl) pa_nil)))))))), ?_⟩
    obtain ⟨v, rfl, hv, k⟩ := h
    obtain ⟨t, ty, kt⟩ := odd_int hv
    obtain ⟨t2, ty2, kt2⟩ := odd_bool hv
    refine ⟨_, rfl, _, _, t, _, _, rfl, .ty _, ty, kt, _, rfl, ?_⟩
    rw [isI_kits] at k
    cases hi : vInt v with
    | true =>
      rw [hi] at k
      exact iteT ⟨_, rfl, _, _, t2, _, _, rfl, .ty _, ty2, kt2, _, rfl, k⟩
    | false =>
      rw [hi] at k
      exact iteF k
theorem sc_divisor_of : FnScope ["one", "other"] ["one", "other"] (defScope s_divisor_of) := ⟨rfl, rfl, rfl, by decide +kernel, rfl, by decide +kernel, by decide +kernel⟩
theorem d_divisor_of (T : Txt K mg) (A0 : At K mg "divisor_of" s_divisor_of) : DefOk P w K mg base CX0 1 "divisor_of" ["one", "other"] [] spGcd := by
  refine At.ok A0 sc_divisor_of (fun _ _ F => F.bindsN fun _ _ _ _ _ _ us hl => match us, hl with | [_, _], _ => rfl) (fun vs H Q E h => ?_) (fun f cdv A out s H vs Q E hr h => ?_)
  · obtain ⟨a, b, rfl, _⟩ := h; rfl
  · have nd := sc_divisor_of.nd
    refine ⟨_, (pss_cut (ps_while PassesOwn.never (pt_cmpR op_ne (pv 1) pe_int (nomark _)) (pss_one (ps_par (i := 0) (j := 1) rfl nd rfl rfl (by decide) rfl rfl (pa_cons (pv 1) (pa_cons (pe_op op_mod (pv 0) (pv 1)) pa_nil)) (by rfl))))
          (pss_one (ps_ret (pv 0)))), ?_⟩
    obtain ⟨a, b, rfl, ha, hb, k⟩ := h
    refine ⟨fun σ' H' => (∃ o, σ' = [some (.int (Int.gcd a b : Int)), o]) ∧ H' = H, ?_, ?_⟩
    rotate_left
    · rintro σ' H' ⟨⟨o, rfl⟩, rfl⟩
      exact ⟨_, rfl, k⟩
    refine while_by (fun σ H1 => ∃ x y : Int, σ = [some (.int x), some (.int y)] ∧ H1 = H ∧ 0 ≤ x ∧ 0 ≤ y ∧ Int.gcd x y = Int.gcd a b) (fun σ _ => match σ with
      | [_, some (.int y)] => y.toNat
      | _ => 0) ⟨a, b, rfl, rfl, ha, hb, rfl⟩ ?_ ?_
    · rintro σ H1 ⟨x, y, rfl, rfl, hx, hy, hg⟩
      refine ⟨_, rfl, rfl, _, rfl, ?_⟩
      have ei : decide (V.int y = V.int 0) = decide (y = 0) := by
        by_cases z : y = 0
        · rw [z]
          rfl
        · rw [decide_eq_false z, decide_eq_false fun q => z (V.int.inj q)]
      rw [ei]
      by_cases z : y = 0
      · subst z
        rw [decide_eq_true rfl]
        rw [Int.gcd_zero_right] at hg
        have e : x = (Int.gcd a b : Int) := by
          rw [← hg]
          exact (Int.natAbs_of_nonneg hx).symm
        rw [e]
        exact iteF ⟨⟨_, rfl⟩, rfl⟩
      · rw [decide_eq_false z]
        have hy' : 0 < y := by omega
        refine iteT ⟨_, rfl, _, rfl, _, rfl, x, y, rfl, rfl, hy', _, _, rfl, ⟨y, x % y, rfl, rfl, hy, Int.emod_nonneg _ (by omega), ?_⟩, ?_⟩
        · rw [gcd_step hx hy', hg]
        · have h1 := Int.emod_lt_of_pos x hy'
          have h2 := Int.emod_nonneg x (show y ≠ 0 by omega)
          show (x % y).toNat < y.toNat
          omega
    · intro σ H Q Q' hq
      exact fun ⟨v, e, sc, k, r, q⟩ => ⟨v, e, sc, k, r, hq _ _ q⟩
theorem sc_Ratio___init__ : FnScope ["self", "over", "under", "shared"] ["self", "over", "under"] (defScope s_Ratio___init__) := ⟨rfl, rfl, rfl, by decide +kernel, rfl, by decide +kernel, by decide +kernel⟩
theorem d_Ratio___init__ (T : Txt K mg) (RF : RatF K (He.ga K "Ratio")) (Dis_integer : DefOk P w K mg base CX0 1 "is_integer" ["value"] [] (spIsI K))(Ddivisor_of : DefOk P w K mg base CX0 1 "divisor_of" ["one", "other"] [] spGcd)(DX_BadRatio : ExcD P w K mg base "BadRatio" ["value"] ["value"]) (A0 : AtF K (He.ma K (He.ga K "Ratio") "__init__") "__init__" "Ratio.__init__" s_Ratio___init__ [.int 1]) {dvs : List V} (bnd : ∀ fd, FunD K "__init__" "Ratio.__init__" (defArgs s_Ratio___init__) (defBody s_Ratio___init__) (defScope s_Ratio___init__) [.int 1] [] (He.ma K (He.ga K "Ratio") "__init__") fd → ∃ ds, Vals dvs ds ∧ Binds K fd ["self", "over", "under"] ds) : FunOk P w K mg base (L2.CX P w) 3 (He.ma K (He.ga K "Ratio") "__init__") ["self", "over", "under"] dvs (spInit K (He.ga K "Ratio") (He.ga K "BadRatio")) := by
  refine AtF.okX A0 sc_Ratio___init__ bnd (fun vs H Q E h => ?_) (fun cdv A out s H vs Q E hr tk h => ?_)
  · obtain ⟨a, dx, x, y, rfl, _⟩ := h; rfl
  · have nd := sc_Ratio___init__.nd
    refine ⟨_, (pss_cons (ps_if (pt_not (pt_val (pe_d Dis_integer (hr.mono (by decide)) pass0 (pa_cons (pv 1) pa_nil)))) (pss_one (ps_raise rfl tk (pmk_x DX_BadRatio (hr.mono (by decide)) (pa_cons (pv 1) pa_nil)))) pss_nil)
          (pss_cons (ps_if (PW.pt (pw_or (pt_not (pt_val (pe_d Dis_integer (hr.mono (by decide)) pass0 (pa_cons (pv 2) pa_nil)))) (pw_or1 (pt_cmpR op_eq (pv 2) pe_int (nomark _))))) (pss_one (ps_raise rfl tk (pmk_x DX_BadRatio (hr.mono (by decide)) (pa_cons (pv 2) pa_nil)))) pss_nil)
          (pss_cons (ps_set (i := 3) nd rfl (Or.inl rfl) (pe_d Ddivisor_of (hr.mono (by decide)) pass0 (pa_cons (pe_callB call_abs (by rfl) T.f_abs (by decide +kernel) (pa_cons (pv 1) pa_nil)) (pa_cons (pe_callB call_abs (by rfl) T.f_abs (by decide +kernel) (pa_cons (pv 2) pa_nil)) pa_nil))))
          (pss_cut (ps_if (pt_cmpR op_lt (pv 2) pe_int (nomark _)) (pss_one (ps_set (i := 3) nd rfl (Or.inl rfl) (pe_un un_neg (pv 3)))) pss_nil)
          (pss_cons (ps_fld (pv 0) (pe_op op_fdivX (pv 1) (pv 3)) rfl)
          (pss_one (ps_fld (pv 0) (pe_op op_fdivX (pv 2) (pv 3)) rfl))))))), ?_⟩
    obtain ⟨a, dx, x, y, rfl, ea, hx, hy, b1, b2, k⟩ := h
    have mb : ∀ C, mg "BadRatio" = some (.ref C) → C = (He.ga K "BadRatio") := fun C e => by
      rw [T.c_BadRatio] at e
      cases e
      rfl
    have bad : ∀ {v : V}, BadV (He.ga K "BadRatio") H E v → ∀ C, mg "BadRatio" = some (.ref C) → ∀ d, H d = none → E (.ref C) (some d) (upd H d (.xd (xds ["value"] [v]))) := fun {v} b C e d n => by
      rw [mb C e]
      exact b d _ (ext_new n) n upd_same
    refine ⟨_, rfl, x, rfl, hx, _, rfl, ?_⟩
    cases i1 : isI x with
    | false => exact iteT ⟨x, rfl, rfl, bad (b1 i1)⟩
    | true =>
      obtain ⟨i, rfl⟩ := isI_int i1
      refine iteF ⟨_, rfl, y, rfl, hy, ?_⟩
      have e0 : isI y = false → decide (y = V.int 0) = false := fun z => decide_eq_false fun e => by
        rw [e] at z
        cases z
      cases i2 : isI y with
      | false => exact ⟨_, rfl, iteT ⟨y, rfl, rfl, bad (b2 rfl (.inl i2))⟩⟩
      | true =>
        obtain ⟨j, rfl⟩ := isI_int i2
        have ej : decide (V.int j = V.int 0) = decide (j = 0) := by
          by_cases z : j = 0
          · rw [z]
            rfl
          · rw [decide_eq_false z, decide_eq_false fun q => z (V.int.inj q)]
        refine ⟨_, rfl, _, rfl, rfl, _, rfl, ?_⟩
        rw [ej]
        by_cases z : j = 0
        · subst z
          exact iteT ⟨_, rfl, rfl, bad (b2 rfl (.inr rfl))⟩
        rw [decide_eq_false z]
        obtain ⟨hl, kk⟩ := k i j rfl rfl z
        refine iteF ⟨_, rfl, i, rfl, _, rfl, j, rfl, _, _, rfl, by split <;> omega, by split <;> omega, ?_⟩
        have eg : (Int.gcd (if i < 0 then -i else i) (if j < 0 then -j else j) : Int) = Int.gcd i j := by
          have z1 : ∀ u : Int, (if u < 0 then -u else u).natAbs = u.natAbs := fun u => by split <;> simp
          unfold Int.gcd
          rw [z1, z1]
        rw [eg]
        refine ⟨fun σ' H' => σ' = [some (.ref a), some (.int i), some (.int j), some (.int (rG i j))] ∧ H' = H, ⟨_, rfl, j, 0, rfl, rfl, _, rfl, ?_⟩, ?_⟩
        · unfold rG
          by_cases hj : j < 0
          · rw [decide_eq_true hj, if_pos hj]
            exact iteT ⟨_, rfl, _, rfl, rfl, rfl⟩
          · rw [decide_eq_false hj, if_neg hj]
            exact iteF ⟨rfl, rfl⟩
        · rintro σ' H' ⟨rfl, rfl⟩
          have hg := rG_ok i z
          have hb : (rG i j).natAbs.log2 < 9000 := Nat.lt_of_le_of_lt (log2_mono (rG_le i z)) (by omega)
          refine ⟨_, rfl, _, rfl, i, _, rfl, rfl, ⟨hg, hb⟩, _, rfl, a, _, dx, _, rfl, ea, RF.cls, RF.over, by show 0 < 1000; decide, ?_⟩
          refine ⟨_, rfl, _, rfl, j, _, rfl, rfl, ⟨hg, hb⟩, _, rfl, a, _, dx, _, rfl, upd_same, RF.cls, RF.under, by show 1 < 1000; decide, ?_⟩
          rw [upd_again]
          exact kk
theorem sc_told_of : FnScope ["value"] ["value"] (defScope s_told_of) := ⟨rfl, rfl, rfl, by decide +kernel, rfl, by decide +kernel, by decide +kernel⟩
theorem d_told_of (T : Txt K mg) (RF : RatF K (He.ga K "Ratio")) (Dis_integer : DefOk P w K mg base CX0 1 "is_integer" ["value"] [] (spIsI K))(DX_BadRatio : ExcD P w K mg base "BadRatio" ["value"] ["value"])(M_Ratio : Mk K (He.ga K "Ratio") (He.ma K (He.ga K "Ratio") "__init__"))(D_Ratio1 : FunOk P w K mg base (L2.CX P w) 3 (He.ma K (He.ga K "Ratio") "__init__") ["self", "over", "under"] [.int 1] (spInit K (He.ga K "Ratio") (He.ga K "BadRatio"))) (A0 : At K mg "told_of" s_told_of) : DefOk P w K mg base (L2.CX P w) 5 "told_of" ["value"] [] (spTold K (He.ga K "Ratio") (He.ga K "BadRatio")) := by
  refine At.okX A0 sc_told_of (fun _ _ F => F.bindsN fun _ _ _ _ _ _ us hl => match us, hl with | [_], _ => rfl) (fun vs H Q E h => ?_) (fun f cdv A out s H vs Q E hr tk h => ?_)
  · obtain ⟨v, rfl, _⟩ := h; rfl
  · have nd := sc_told_of.nd
    refine ⟨_, (pss_cons (ps_if (pt_val (pe_callB call_isi (by rfl) T.f_isinstance (by decide +kernel) (pa_cons (pv 0) (pa_cons (pe_glob (v := .ref (He.ga K "Ratio")) (by rfl) T.c_Ratio rfl) pa_nil)))) (pss_one (ps_ret (pv 0))) pss_nil)
          (pss_cons (ps_if (pt_not (pt_val (pe_d Dis_integer (hr.mono (by decide)) pass0 (pa_cons (pv 0) pa_nil)))) (pss_one (ps_raise rfl tk (pmk_x DX_BadRatio (hr.mono (by decide)) (pa_cons (pv 0) pa_nil)))) pss_nil)
          (pss_one (ps_ret (pe_mkF M_Ratio T.c_Ratio D_Ratio1 (hr.mono (by decide)) (passes_call tk fun _ _ _ _ h => h) (pa_cons (pv 0) pa_nil)))))), ?_⟩
    obtain ⟨v, rfl, hv, k1, k2, k3⟩ := h
    obtain ⟨ho, t, ty, kt⟩ := hv.odd RF
    refine ⟨_, rfl, _, _, t, _, _, rfl, .own _, ty, kt, _, rfl, ?_⟩
    cases hr : vRat (He.ga K "Ratio") H v with
    | true => exact iteT ⟨_, rfl, k1 hr H (Ext.refl _)⟩
    | false =>
      refine iteF ⟨_, rfl, v, rfl, ho, _, rfl, ?_⟩
      cases hi : isI v with
      | false =>
        refine iteT ⟨v, rfl, rfl, fun C e d n => ?_⟩
        have e : mg "BadRatio" = some (.ref C) := e
        rw [T.c_BadRatio] at e
        cases e
        exact k2 hr hi d _ (ext_new n) n upd_same
      | true =>
        obtain ⟨i, rfl⟩ := isI_int hi
        refine iteF ⟨_, rfl, fun x dx nx nd hne => ?_⟩
        have e1 : Ext H (upd (upd H dx (.own x)) x (.ins (He.ga K "Ratio") dx [])) := (ext_new nd).new (by rw [upd_ne (Ne.symm hne)]; exact nx)
        refine ⟨x, dx, .int i, .int 1, rfl, upd_same, trivial, trivial, (fun z => by cases z), (fun _ z => by rcases z with z | z <;> cases z), fun i' j' ei ej _ => ?_⟩
        cases ei
        cases ej
        refine ⟨by decide, rfl, ?_⟩
        rw [upd_again, rN_one, rD_one]
        exact k3 i rfl x _ ((ext_new nd).new (by rw [upd_ne (Ne.symm hne)]; exact nx)) nx ⟨dx, upd_same⟩





end
end K06

set_option maxRecDepth 100000
set_option maxHeartbeats 4000000
namespace K06
open PySem PySem.Spec PyProof.Rows Gs
open L2 hiding Ext paired_get
open C8 (tCut pss_cut)
theorem log2_200 {b : Int} (h : b.natAbs < 2 ^ 200) : b.natAbs.log2 < 8999 := by
  by_cases z : b.natAbs = 0
  · rw [z]
    decide
  · exact Nat.lt_of_lt_of_le ((Nat.log2_lt z).mpr h) (by decide)
theorem sm_least2 {t b : Int} (h : b ≠ 0) (ht : t.natAbs < 2 ^ 200) (hb : b.natAbs < 2 ^ 200) : Sm (rN t b, rD t b) :=
  ⟨Nat.lt_of_le_of_lt (rN_le t h) (Nat.lt_of_lt_of_le ht (Nat.pow_le_pow_right (by decide) (by decide))), Nat.lt_of_le_of_lt (rD_le t h) (Nat.lt_of_lt_of_le hb (Nat.pow_le_pow_right (by decide) (by decide)))⟩
def spAbove : Sp := fun vs H Q _ => ∃ (q1 q2 : Addr) (t1 b1 t2 b2 : Int), vs = [.ref q1, .ref q2] ∧ H q1 = some (.tup [.int t1, .int b1]) ∧ H q2 = some (.tup [.int t2, .int b2]) ∧ b1 ≠ 0 ∧ b2 ≠ 0 ∧ (t1.natAbs < 2 ^ 200 ∧ b1.natAbs < 2 ^ 200) ∧ (t2.natAbs < 2 ^ 200 ∧ b2.natAbs < 2 ^ 200) ∧
  ∀ H', Ext H H' → Q (.bl (ltR (rN t2 b2, rD t2 b2) (rN t1 b1, rD t1 b1))) H'
def spGot (K : PySem.W.Frag) : Sp := fun vs H Q _ => ∃ (a : Addr) (n d : Int), vs = [.ref a] ∧ Rat (He.ga K "Ratio") H a n d ∧ ∀ q H', Ext H H' → H q = none → H' q = some (.tup [.int n, .int d]) → Q (.ref q) H'
def spNumber (K : PySem.W.Frag) : Sp := fun vs H Q _ => ∃ (p c : Addr) (n : Nat) (q : Addr) (t b : Int), vs = [.ref p, .ref q] ∧ Pen H p c n ∧ n ≤ 999990 ∧ H q = some (.tup [.int t, .int b]) ∧ b ≠ 0 ∧ (t.natAbs < 2 ^ 200 ∧ b.natAbs < 2 ^ 200) ∧
  ∀ x H', RatOf (He.ga K "Ratio") H' x (rN t b, rD t b) → Pen H' p c (n + 1) → But p H H' → Q x H'
def spPair : Sp := fun vs H Q _ => ∃ (p c : Addr) (n : Nat), vs = [.ref p] ∧ Pen H p c n ∧ n ≤ 999990 ∧ ∀ (q : Addr) (t b : Int) (H' : Hp), H q = none → q ≠ p → H' q = some (.tup [.int t, .int b]) → b ≠ 0 → t.natAbs < 2 ^ 100 → b.natAbs < 2 ^ 100 → Pen H' p c (n + 4) → But p H H' → Q (.ref q) H'
def spLeast : Sp := fun vs H Q _ => ∃ t b : Int, vs = [.int t, .int b] ∧ b ≠ 0 ∧ b.natAbs.log2 < 8999 ∧ ∀ q H', Ext H H' → H q = none → H' q = some (.tup [.int (rN t b), .int (rD t b)]) → Q (.ref q) H'
section
variable {P : Program} {w : World} {K : PySem.W.Frag} {mg : Str → Option Value} {base : Heap}
theorem sc__law_draw : FnScope ["pen", "many", "digit", "spot", "cell", "great", "stirred"] ["pen", "many"] (defScope s__law_draw) := ⟨rfl, rfl, rfl, by decide +kernel, rfl, by decide +kernel, by decide +kernel⟩
theorem d__law_draw (T : Txt K mg) (A0 : At K mg "_law_draw" s__law_draw) : DefOk P w K mg base CX0 1 "_law_draw" ["pen", "many"] [] spDraw := by
  refine At.ok A0 sc__law_draw (fun _ _ F => F.bindsN fun _ _ _ _ _ _ us hl => match us, hl with | [_, _], _ => rfl) (fun vs H Q E h => ?_) (fun f cdv A out s H vs Q E hr h => ?_)
  · obtain ⟨p, c, n, m, rfl, _⟩ := h; rfl
  · have nd := sc__law_draw.nd
    refine ⟨_, (pss_cons (ps_if (pt_cmpR op_gt (pe_ix ix_list (pv 0) pe_int (fun _ _ => rfl)) pe_int (nomark _)) (pss_cons (ps_set (i := 2) nd rfl (Or.inl rfl) (pe_op op_mod (pe_callTy call_int1 (by rfl) T.f_int (by decide +kernel) (pa_cons (pe_ix ix_list (pv 0) pe_int (fun _ _ => rfl)) pa_nil)) (pv 1)))
          (pss_cons (ps_asg (pe_op op_fdiv (pe_callTy call_int1 (by rfl) T.f_int (by decide +kernel) (pa_cons (pe_ix ix_list (pv 0) pe_int (fun _ _ => rfl)) pa_nil)) (pv 1)) (pg_sub (pv 0) pe_int set_list))
          (pss_one (ps_ret (pv 2))))) pss_nil)
          (pss_cons (ps_set (i := 3) nd rfl (Or.inl rfl) (pe_ix ix_list (pv 0) pe_int (fun _ _ => rfl)))
          (pss_cons (ps_asg (pe_op op_add (pv 3) pe_int) (pg_sub (pv 0) pe_int set_list))
          (pss_cons (ps_set (i := 4) nd rfl (Or.inl rfl) (pe_op op_add (pe_op op_mul pe_int (pv 3)) pe_int))
          (pss_cut (ps_if (pt_cmpR (op_neD hr.units) (pe_ix ix_list (pv 0) pe_int (fun _ _ => rfl)) (pe_lst pa_nil) (nomark _)) (pss_one (ps_set (i := 4) nd rfl (Or.inl rfl) (pe_ix ix_list (pe_ix ix_list (pv 0) pe_int (fun _ _ => rfl)) (pe_op op_mod (pe_callTy call_int1 (by rfl) T.f_int (by decide +kernel) (pa_cons (pv 3) pa_nil)) (pe_callB call_len (by rfl) T.f_len (by decide +kernel) (pa_cons (pe_ix ix_list (pv 0) pe_int (fun _ _ => rfl)) pa_nil))) (fun _ _ => rfl)))) pss_nil)
          (pss_cut (ps_if (PW.pt (pw_and (pt_cmpR op_lt (pv 3) (pe_callB call_len (by rfl) T.f_len (by decide +kernel) (pa_cons (pe_ix ix_list (pv 0) pe_int (fun _ _ => rfl)) pa_nil)) (nomark _)) (pw_and1 (pt_cmpR op_ge (pe_callB call_abs (by rfl) T.f_abs (by decide +kernel) (pa_cons (pv 4) pa_nil)) (pe_op op_pow pe_int pe_int) (nomark _))))) (pss_cons (ps_set (i := 5) nd rfl (Or.inl rfl) (pe_op op_add (pe_op op_mul pe_int (pe_op op_sub (pe_callB call_abs (by rfl) T.f_abs (by decide +kernel) (pa_cons (pv 4) pa_nil)) (pe_op op_pow pe_int pe_int))) (pe_callTy call_int1 (by rfl) T.f_int (by decide +kernel) (pa_cons (pe_cmpR op_lt (pv 4) pe_int (nomark _)) pa_nil))))
          (pss_cons (ps_asg (pe_op op_fdiv (pe_callTy call_int1 (by rfl) T.f_int (by decide +kernel) (pa_cons (pv 5) pa_nil)) (pv 1)) (pg_sub (pv 0) pe_int set_list))
          (pss_one (ps_ret (pe_op op_mod (pe_callTy call_int1 (by rfl) T.f_int (by decide +kernel) (pa_cons (pv 5) pa_nil)) (pv 1)))))) pss_nil)
          (pss_cons (ps_set (i := 6) nd rfl (Or.inl rfl) (pe_op op_mod (pe_callTy call_int1 (by rfl) T.f_int (by decide +kernel) (pa_cons (pe_op op_pow (pe_op op_add (pe_op op_add (pe_op op_mod (pe_callTy call_int1 (by rfl) T.f_int (by decide +kernel) (pa_cons (pv 4) pa_nil)) pe_int) (pe_op op_mul pe_int (pv 3))) pe_int) pe_int) pa_nil)) pe_int))
          (pss_cons (ps_set (i := 6) nd rfl (Or.inl rfl) (pe_op op_mod (pe_callTy call_int1 (by rfl) T.f_int (by decide +kernel) (pa_cons (pe_op op_pow (pe_op op_add (pe_op op_add (pe_op op_mul (pv 6) (pe_op op_add (pe_op op_mul pe_int (pv 3)) pe_int)) (pe_op op_mul (pe_op op_mul pe_int (pv 3)) (pv 3))) pe_int) pe_int) pa_nil)) pe_int))
          (pss_one (ps_ret (pe_op op_mod (pe_callTy call_int1 (by rfl) T.f_int (by decide +kernel) (pa_cons (pe_op op_fdiv (pv 6) pe_int) pa_nil)) (pv 1)))))))))))), ?_⟩
    obtain ⟨p, c, n, m, rfl, pn, hn, hm, hm2, k⟩ := h
    have hc := pn.ne
    obtain ⟨ns, spot, great, h1, h2, hl, hs0, hs1, hg⟩ := pn.ex
    refine ⟨_, rfl, p, _, 2, _, rfl, rfl, SqL.of h1, rfl, _, _, rfl, rfl, _, rfl, ite2 (fun hb => ?_) (fun hb => ?_)⟩
    · have hb := of_decide_eq_true hb
      refine ⟨_, rfl, p, _, 2, _, rfl, rfl, SqL.of h1, rfl, .inl ⟨_, rfl, _, rfl, _, _, rfl, rfl, hm, ?_⟩⟩
      refine ⟨_, rfl, p, _, 2, _, rfl, rfl, SqL.of h1, rfl, .inl ⟨_, rfl, _, rfl, _, _, rfl, rfl, ⟨hm, hm2⟩, ?_⟩⟩
      refine ⟨_, rfl, p, _, 2, 2, rfl, rfl, h1, rfl, _, rfl, ?_⟩
      refine k _ _ (Int.emod_nonneg _ (by omega)) (Int.emod_lt_of_pos _ hm) ⟨ns, spot, great / m, upd_same, by rw [upd_ne hc]; exact h2, hl, hs0, by omega, Int.ediv_nonneg hg (by omega)⟩ (But.refl _ _).self
    -- spot = pen[1]; pen[1] = spot + 1; cell = ..
    refine ⟨_, rfl, p, _, 1, _, rfl, rfl, SqL.of h1, rfl, _, rfl, _, _, rfl, rfl, _, rfl, p, _, 1, 1, rfl, rfl, h1, rfl, ?_⟩
    have g1 : upd H p (.lst [.ref c, .int (spot + 1), .int great]) p = some (.lst [.ref c, .int (spot + 1), .int great]) := upd_same
    have g2 : upd H p (.lst [.ref c, .int (spot + 1), .int great]) c = some (.lst (ns.map V.int)) := by rw [upd_ne hc]; exact h2
    have g3 : ∀ b, b ≠ p → upd H p (.lst [.ref c, .int (spot + 1), .int great]) b = H b := fun b hb => upd_ne hb
    show tSeq _ _ _ _ (upd H p (.lst [.ref c, .int (spot + 1), .int great]))
    generalize upd H p (.lst [.ref c, .int (spot + 1), .int great]) = H1 at g1 g2 g3
    refine ⟨_, rfl, _, _, rfl, rfl, .inl ⟨by decide, by decide⟩, _, _, rfl, rfl, ?_⟩
    -- if pen[0] != []: cell = ..
    refine ⟨fun σ H2 => ∃ z : Int, σ = [some (.ref p), some (.int m), none, some (.int spot), some (.int z), none, none] ∧ H2 p = some (.lst [.ref c, .int (spot + 1), .int great]) ∧ H2 c = some (.lst (ns.map V.int)) ∧ (∀ b o, H b = some o → b ≠ p → H2 b = some o), ?_, ?_⟩
    · refine ⟨_, rfl, p, _, 0, _, rfl, rfl, SqL.of g1, rfl, by decide, fun l hl' => ?_⟩
      have e1 : upd H1 l (.lst []) p = some (.lst [.ref c, .int (spot + 1), .int great]) := by rw [upd_ne (ne_of_none g1 hl')]; exact g1
      have e2 : upd H1 l (.lst []) c = some (.lst (ns.map V.int)) := by rw [upd_ne (ne_of_none g2 hl')]; exact g2
      have e3 : ∀ b o, H b = some o → b ≠ p → upd H1 l (.lst []) b = some o := fun b o e hb => by
        have z : H1 b = some o := (g3 b hb).trans e
        rw [upd_ne (ne_of_none z hl')]
        exact z
      have e4 : upd H1 l (.lst []) l = some (.lst []) := upd_same
      show rNeD K _ _ (upd H1 l (.lst [])) _
      generalize upd H1 l (.lst []) = H3 at e1 e2 e3 e4
      refine ⟨.list (ns.map PyData.int), .list [], .lst (SqL.of e2) (dp_ints ns), .lst (SqL.of e4) .nil, shaped_ints ns, by decide +kernel, _, rfl, ?_⟩
      rw [eqv_ints_nil]
      cases hns : ns with
      | nil => exact ⟨_, rfl, e1, hns ▸ e2, e3⟩
      | cons z zs =>
        refine iteT ?_
        rw [← hns]
        have h0 : 0 < (ns.map V.int).length := by rw [hns]; simp
        obtain ⟨j, x, hj, hx, hat⟩ := atI_mod h0 spot
        obtain ⟨y, rfl⟩ : ∃ y, x = V.int y := by
          rw [List.getElem?_map] at hx
          cases q : ns[j]? with
          | none => rw [q] at hx; cases hx
          | some y => rw [q] at hx; exact ⟨y, (Option.some.inj hx).symm⟩
        refine ⟨_, rfl, p, _, 0, _, rfl, rfl, SqL.of e1, rfl, _, rfl, .inl ⟨_, rfl, _, rfl, p, _, 0, _, rfl, rfl, SqL.of e1, rfl, _, _, rfl, .inl ⟨_, SqL.of e2, rfl⟩, _, _, rfl, rfl, (by omega), c, _, _, _, rfl, rfl, SqL.of e2, hat, ?_⟩⟩
        exact ⟨y, rfl, e1, e2, e3⟩
    · rintro σ H2 ⟨z, rfl, f1, f2, f3⟩
      have fin : ∀ (v : Int) (g : Int) H', H' p = some (.lst [.ref c, .int (spot + 1), .int g]) → H' c = some (.lst (ns.map V.int)) → (∀ b o, H b = some o → b ≠ p → H' b = some o) → 0 ≤ g → Q (.int (v % m)) H' := fun v g H' q1 q2 q3 q4 =>
        k _ _ (Int.emod_nonneg _ (by omega)) (Int.emod_lt_of_pos _ hm) ⟨ns, _, _, q1, q2, hl, by omega, by omega, q4⟩ q3
      -- if spot < len(pen[0]) and abs(cell) >= 10 ** 18
      refine ⟨fun σ H3 => σ = [some (.ref p), some (.int m), none, some (.int spot), some (.int z), none, none] ∧ H3 = H2, ?_, ?_⟩
      · refine ⟨_, rfl, _, rfl, p, _, 0, _, rfl, rfl, SqL.of f1, rfl, _, _, rfl, .inl ⟨_, SqL.of f2, rfl⟩, _, _, rfl, rfl, _, rfl, ite2 (fun _ => ?_) (fun _ => iteF ⟨rfl, rfl⟩)⟩
        refine ⟨_, rfl, _, rfl, _, _, rfl, rfl, ⟨by decide, by decide, by decide⟩, _, _, rfl, rfl, _, rfl, ite2 (fun hz => ?_) (fun _ => ⟨rfl, rfl⟩)⟩
        have hz := of_decide_eq_true hz
        refine ⟨_, rfl, _, rfl, _, _, rfl, rfl, ⟨by decide, by decide, by decide⟩, _, _, rfl, rfl, _, _, rfl, rfl, .inl ⟨by decide, by decide⟩, _, rfl, _, _, rfl, rfl, .inr ⟨_, rfl, _, _, rfl, rfl, ?_⟩⟩
        refine ⟨_, rfl, .inl ⟨_, rfl, _, rfl, _, _, rfl, rfl, ⟨hm, hm2⟩, _, rfl, p, _, 2, 2, rfl, rfl, f1, rfl, _, rfl, .inl ⟨_, rfl, _, rfl, _, _, rfl, rfl, hm, ?_⟩⟩⟩
        refine fin _ _ _ upd_same (by rw [upd_ne hc]; exact f2) (fun b o e hb => by rw [upd_ne hb]; exact f3 b o e hb) (Int.ediv_nonneg ?_ (by omega))
        have h18 : (10 : Int) ^ (18 : Int).toNat = 1000000000000000000 := by decide
        rw [h18] at hz ⊢
        generalize (if z < 0 then -z else z) = y at hz ⊢
        have hc2 : 0 ≤ (if decide (z < 0) = true then (1 : Int) else 0) := by split <;> omega
        omega
      · rintro σ H3 ⟨rfl, rfl⟩
        -- stirred = ..
        have b1 := Int.emod_nonneg z (show (2147439887 : Int) ≠ 0 by decide)
        have b2 := Int.emod_lt_of_pos z (show (0 : Int) < 2147439887 by decide)
        refine ⟨_, rfl, .inl ⟨_, rfl, _, _, rfl, rfl, (by show (0 : Int) < 2147439887; decide), _, rfl, _, _, rfl, rfl, .inl ⟨by decide, by decide⟩, _, _, rfl, rfl, _, _, rfl, rfl, _, _, rfl, rfl, ⟨by decide, by decide, ?_⟩, .inl ⟨_, rfl, _, _, rfl, rfl, (by show (0 : Int) < 2147429909; decide), ?_⟩⟩⟩
        · omega
        have b3 := Int.emod_nonneg ((z % 2147439887 + 86107 * spot + 527) ^ (5 : Int).toNat) (show (2147429909 : Int) ≠ 0 by decide)
        have b4 := Int.emod_lt_of_pos ((z % 2147439887 + 86107 * spot + 527) ^ (5 : Int).toNat) (show (0 : Int) < 2147429909 by decide)
        show tSeq _ _ _ [some (.ref p), some (.int m), none, some (.int spot), some (.int z), none, some (.int ((z % 2147439887 + 86107 * spot + 527) ^ (5 : Int).toNat % 2147429909))] _
        generalize ((z % 2147439887 + 86107 * spot + 527) ^ (5 : Int).toNat) % 2147429909 = st at b3 b4 ⊢
        obtain ⟨c1, c2⟩ := mul_box (a := st) (b := 2 * spot + 153) (A := 2147429909) (B := 2000153) (by omega) (by omega) (by omega) (by omega)
        obtain ⟨c3, c4⟩ := mul_box (a := 73085 * spot) (b := spot) (A := 73085000000) (B := 1000000) (by omega) (by omega) (by omega) (by omega)
        refine ⟨_, rfl, _, rfl, _, _, rfl, rfl, .inl ⟨by decide, by decide⟩, _, _, rfl, rfl, _, _, rfl, rfl, .inl ⟨by omega, by omega⟩, _, rfl, _, _, rfl, rfl, .inl ⟨by decide, by decide⟩, _, rfl, _, _, rfl, rfl, .inl ⟨by omega, by omega⟩,
          _, _, rfl, rfl, _, _, rfl, rfl, _, _, rfl, rfl, ⟨by decide, by decide, by omega⟩, .inl ⟨_, rfl, _, _, rfl, rfl, (by show (0 : Int) < 2147419921; decide), ?_⟩⟩
        refine ⟨_, rfl, _, _, rfl, rfl, ⟨by decide, by decide⟩, .inl ⟨_, rfl, _, rfl, _, _, rfl, rfl, hm, ?_⟩⟩
        exact fin _ _ _ f1 f2 f3 hg
theorem sc__law_pen : FnScope ["script"] ["script"] (defScope s__law_pen) := ⟨rfl, rfl, rfl, by decide +kernel, rfl, by decide +kernel, by decide +kernel⟩
theorem d__law_pen (T : Txt K mg) (A0 : At K mg "_law_pen" s__law_pen) : DefOk P w K mg base CX0 1 "_law_pen" ["script"] [] (spPen K) := by
  refine At.ok A0 sc__law_pen (fun _ _ F => F.bindsN fun _ _ _ _ _ _ us hl => match us, hl with | [_], _ => rfl) (fun vs H Q E h => ?_) (fun f cdv A out s H vs Q E hr h => ?_)
  · obtain ⟨a, ns, rfl, _⟩ := h; rfl
  · have nd := sc__law_pen.nd
    refine ⟨_, (pss_one (ps_ret (pe_lst (pa_cons (pe_callTy call_list_of (by rfl) T.f_list (by decide +kernel) (pa_cons (pe_slice sl_list (pv 0) po_none (po_some pe_int)) pa_nil)) (pa_cons pe_int (pa_cons pe_int pa_nil)))))), ?_⟩
    obtain ⟨a, ns, rfl, hS, hn, k⟩ := h
    obtain ⟨ys, ey, ly, _⟩ := cut_map V.int ns none (some 63)
    refine ⟨_, rfl, _, rfl, a, _, rfl, hS, fun q hq => ?_⟩
    refine ⟨q, _, rfl, .inl (SqL.of upd_same), fun l hl => ?_⟩
    refine ⟨by show 3 ≤ sizeLine; decide, fun p hp => ?_⟩
    have e1 := ext_new (o := .lst (cutV (ns.map V.int) none (some 63))) hq
    have e2 := e1.new (o := .lst (cutV (ns.map V.int) none (some 63))) hl
    have e3 := e2.new (o := .lst [.ref l, .int 0, .int 0]) hp
    have nl : l ≠ p := ne_of_none upd_same hp
    refine k p l _ ?_ ?_ ⟨ys, 0, 0, upd_same, ?_, by omega, by omega, by omega, by omega⟩ e3
    · cases z : H p with
      | none => rfl
      | some u =>
        have := e2 p u z
        rw [hp] at this
        cases this
    · cases z : H l with
      | none => rfl
      | some u =>
        have := e1 l u z
        rw [hl] at this
        cases this
    · rw [upd_ne nl, upd_same, ey]
theorem sc__law_pick : FnScope ["pen", "some"] ["pen", "some"] (defScope s__law_pick) := ⟨rfl, rfl, rfl, by decide +kernel, rfl, by decide +kernel, by decide +kernel⟩
theorem d__law_pick (T : Txt K mg) (D_law_draw : DefOk P w K mg base CX0 1 "_law_draw" ["pen", "many"] [] spDraw) (A0 : At K mg "_law_pick" s__law_pick) : DefOk P w K mg base CX0 2 "_law_pick" ["pen", "some"] [] (spPick K) := by
  refine At.ok A0 sc__law_pick (fun _ _ F => F.bindsN fun _ _ _ _ _ _ us hl => match us, hl with | [_, _], _ => rfl) (fun vs H Q E h => ?_) (fun f cdv A out s H vs Q E hr h => ?_)
  · obtain ⟨p, c, l, n, xs, rfl, _⟩ := h; rfl
  · have nd := sc__law_pick.nd
    refine ⟨_, (pss_one (ps_ret (pe_ix ix_list (pv 1) (pe_d D_law_draw (hr.mono (by decide)) pass0 (pa_cons (pv 0) (pa_cons (pe_callB call_len (by rfl) T.f_len (by decide +kernel) (pa_cons (pv 1) pa_nil)) pa_nil))) (fun _ _ => rfl)))), ?_⟩
    obtain ⟨p, c, l, n, xs, rfl, pn, hn, hS, hlp, hne, hz, k⟩ := h
    have h0 : 0 < xs.length := List.length_pos_iff.mpr hne
    refine ⟨_, rfl, _, rfl, _, rfl, _, _, rfl, .inl ⟨_, hS, rfl⟩, p, c, n, _, rfl, pn, hn, by omega, by omega, fun i H' h1 h2 P' B' => ?_⟩
    obtain ⟨j, rfl⟩ := Int.eq_ofNat_of_zero_le h1
    have hj : j < xs.length := by omega
    refine ⟨l, xs, _, xs[j], rfl, rfl, B'.sq hlp hS, atI_nat (List.getElem?_eq_getElem hj), k j _ _ (List.getElem?_eq_getElem hj) P' B'⟩
theorem sc__law_shared : FnScope ["one_so", "two_so"] ["one_so", "two_so"] (defScope s__law_shared) := ⟨rfl, rfl, rfl, by decide +kernel, rfl, by decide +kernel, by decide +kernel⟩
theorem d__law_shared (T : Txt K mg) (A0 : At K mg "_law_shared" s__law_shared) : DefOk P w K mg base CX0 1 "_law_shared" ["one_so", "two_so"] [] spGcd := by
  refine At.ok A0 sc__law_shared (fun _ _ F => F.bindsN fun _ _ _ _ _ _ us hl => match us, hl with | [_, _], _ => rfl) (fun vs H Q E h => ?_) (fun f cdv A out s H vs Q E hr h => ?_)
  · obtain ⟨a, b, rfl, _⟩ := h; rfl
  · have nd := sc__law_shared.nd
    refine ⟨_, (pss_cut (ps_while PassesOwn.never (pt_cmpR op_ne (pv 1) pe_int (nomark _)) (pss_one (ps_par (i := 0) (j := 1) rfl nd rfl rfl (by decide) rfl rfl (pa_cons (pv 1) (pa_cons (pe_op op_mod (pe_callTy call_int1 (by rfl) T.f_int (by decide +kernel) (pa_cons (pv 0) pa_nil)) (pv 1)) pa_nil)) (by rfl))))
          (pss_one (ps_ret (pv 0)))), ?_⟩
    obtain ⟨a, b, rfl, ha, hb, k⟩ := h
    refine ⟨fun σ' H' => (∃ o, σ' = [some (.int (Int.gcd a b : Int)), o]) ∧ H' = H, ?_, ?_⟩
    rotate_left
    · rintro σ' H' ⟨⟨o, rfl⟩, rfl⟩
      exact ⟨_, rfl, k⟩
    refine while_by (fun σ H1 => ∃ x y : Int, σ = [some (.int x), some (.int y)] ∧ H1 = H ∧ 0 ≤ x ∧ 0 ≤ y ∧ Int.gcd x y = Int.gcd a b) (fun σ _ => match σ with
      | [_, some (.int y)] => y.toNat
      | _ => 0) ⟨a, b, rfl, rfl, ha, hb, rfl⟩ ?_ ?_
    · rintro σ H1 ⟨x, y, rfl, rfl, hx, hy, hg⟩
      refine ⟨_, rfl, rfl, _, rfl, ?_⟩
      have ei : decide (V.int y = V.int 0) = decide (y = 0) := by
        by_cases z : y = 0
        · rw [z]
          rfl
        · rw [decide_eq_false z, decide_eq_false fun q => z (V.int.inj q)]
      rw [ei]
      by_cases z : y = 0
      · subst z
        rw [decide_eq_true rfl]
        rw [Int.gcd_zero_right] at hg
        have e : x = (Int.gcd a b : Int) := by
          rw [← hg]
          exact (Int.natAbs_of_nonneg hx).symm
        rw [e]
        exact iteF ⟨⟨_, rfl⟩, rfl⟩
      · rw [decide_eq_false z]
        have hy' : 0 < y := by omega
        refine iteT ⟨_, rfl, _, rfl, .inl ⟨_, rfl, _, rfl, x, y, rfl, rfl, hy', _, _, rfl, ⟨y, x % y, rfl, rfl, hy, Int.emod_nonneg _ (by omega), ?_⟩, ?_⟩⟩
        · rw [gcd_step hx hy', hg]
        · have h1 := Int.emod_lt_of_pos x hy'
          have h2 := Int.emod_nonneg x (show y ≠ 0 by omega)
          show (x % y).toNat < y.toNat
          omega
    · intro σ H Q Q' hq
      exact fun ⟨v, e, sc, k, r, q⟩ => ⟨v, e, sc, k, r, hq _ _ q⟩
theorem sc__law_least : FnScope ["top", "bottom", "sign", "common"] ["top", "bottom"] (defScope s__law_least) := ⟨rfl, rfl, rfl, by decide +kernel, rfl, by decide +kernel, by decide +kernel⟩
theorem d__law_least (T : Txt K mg) (D_law_shared : DefOk P w K mg base CX0 1 "_law_shared" ["one_so", "two_so"] [] spGcd) (A0 : At K mg "_law_least" s__law_least) : DefOk P w K mg base CX0 2 "_law_least" ["top", "bottom"] [] spLeast := by
  refine At.ok A0 sc__law_least (fun _ _ F => F.bindsN fun _ _ _ _ _ _ us hl => match us, hl with | [_, _], _ => rfl) (fun vs H Q E h => ?_) (fun f cdv A out s H vs Q E hr h => ?_)
  · obtain ⟨t, b, rfl, _⟩ := h; rfl
  · have nd := sc__law_least.nd
    refine ⟨_, (pss_cons (ps_set (i := 2) nd rfl (Or.inl rfl) (pe_ifExp (pt_cmpR op_gt (pv 1) pe_int (nomark _)) pe_int (pe_un un_neg pe_int)))
          (pss_cons (ps_set (i := 3) nd rfl (Or.inl rfl) (pe_op op_mul (pv 2) (pe_d D_law_shared (hr.mono (by decide)) pass0 (pa_cons (pe_callB call_abs (by rfl) T.f_abs (by decide +kernel) (pa_cons (pv 0) pa_nil)) (pa_cons (pe_callB call_abs (by rfl) T.f_abs (by decide +kernel) (pa_cons (pv 1) pa_nil)) pa_nil)))))
          (pss_one (ps_ret (pe_tup (pa_cons (pe_op op_fdivX (pv 0) (pv 3)) (pa_cons (pe_op op_fdivX (pv 1) (pv 3)) pa_nil))))))), ?_⟩
    obtain ⟨t, b, rfl, h1, h2, k⟩ := h
    have fin : ∀ s : Int, s = (if b < 0 then -1 else 1) → (tSeq (tAsg (tOp (rI CMul fun i j => .int (i * j)) (tVar 2) (tCall spGcd [] E0 (tCons (tCB (fun xs H Q => ∃ i, xs = [.int i] ∧ Q (.int (if i < 0 then -i else i)) H) (tCons (tVar 0) tNil)) (tCons (tCB (fun xs H Q => ∃ i, xs = [.int i] ∧ Q (.int (if i < 0 then -i else i)) H) (tCons (tVar 1) tNil)) tNil)))) (gName 3))
        (tRet (tTup (tCons (tOp (rI (fun _ j => j ≠ 0 ∧ j.natAbs.log2 < 9000) fun i j => .int (i.fdiv j)) (tVar 0) (tVar 3)) (tCons (tOp (rI (fun _ j => j ≠ 0 ∧ j.natAbs.log2 < 9000) fun i j => .int (i.fdiv j)) (tVar 1) (tVar 3)) tNil)))))
        { nx := fun _ H' => Q .non H', rt := Q } [some (.int t), some (.int b), some (.int s), none] H := by
      intro s hs
      have eg : (Int.gcd (if t < 0 then -t else t) (if b < 0 then -b else b) : Int) = Int.gcd t b := by
        have z1 : ∀ u : Int, (if u < 0 then -u else u).natAbs = u.natAbs := fun u => by split <;> simp
        unfold Int.gcd
        rw [z1, z1]
      have er : s * (Int.gcd t b : Int) = rG t b := by
        rw [hs]
        unfold rG
        split <;> omega
      have hg := rG_ok t h1
      have hb : (rG t b).natAbs.log2 < 9000 := Nat.lt_of_le_of_lt (log2_mono (rG_le t h1)) (by omega)
      refine ⟨_, rfl, _, rfl, t, rfl, _, rfl, b, rfl, _, _, rfl, by split <;> omega, by split <;> omega, _, _, rfl, rfl, .inl ?_, ?_⟩
      · rw [hs]
        split <;> exact ⟨by decide, by decide⟩
      rw [eg]
      show gName 3 (V.int (s * (Int.gcd t b : Int))) _ H _
      rw [er]
      exact ⟨_, rfl, _, rfl, _, _, rfl, rfl, ⟨hg, hb⟩, _, rfl, _, rfl, _, _, rfl, rfl, ⟨hg, hb⟩, by show 2 ≤ sizeLine; decide, fun q hq => k q _ (ext_new hq) hq upd_same⟩
    refine ⟨_, rfl, b, 0, rfl, rfl, _, rfl, ?_⟩
    by_cases hb : 0 < b
    · rw [decide_eq_true hb]
      exact iteT (fin 1 (by rw [if_neg (by omega)]))
    · rw [decide_eq_false hb]
      exact iteF ⟨1, rfl, fin (-1) (by rw [if_pos (by omega)])⟩
theorem sc__law_pair : FnScope ["pen", "top"] ["pen"] (defScope s__law_pair) := ⟨rfl, rfl, rfl, by decide +kernel, rfl, by decide +kernel, by decide +kernel⟩
theorem d__law_pair (T : Txt K mg) (D_law_pick : DefOk P w K mg base CX0 2 "_law_pick" ["pen", "some"] [] (spPick K)) (D_law_draw : DefOk P w K mg base CX0 1 "_law_draw" ["pen", "many"] [] spDraw) (A0 : At K mg "_law_pair" s__law_pair) : DefOk P w K mg base CX0 3 "_law_pair" ["pen"] [] spPair := by
  refine At.ok A0 sc__law_pair (fun _ _ F => F.bindsN fun _ _ _ _ _ _ us hl => match us, hl with | [_], _ => rfl) (fun vs H Q E h => ?_) (fun f cdv A out s H vs Q E hr h => ?_)
  · obtain ⟨p, c, n, rfl, _⟩ := h; rfl
  · have nd := sc__law_pair.nd
    refine ⟨_, (pss_cons (ps_set (i := 1) nd rfl (Or.inl rfl) (pe_d D_law_pick (hr.mono (by decide)) pass0 (pa_cons (pv 0) (pa_cons (pe_lst (pa_cons pe_int (pa_cons pe_int (pa_cons (pe_un un_neg pe_int) (pa_cons pe_int (pa_cons pe_int (pa_cons (pe_un un_neg pe_int) (pa_cons (pe_op op_pow pe_int pe_int) (pa_cons (pe_op op_sub (pe_un un_neg (pe_op op_pow pe_int pe_int)) pe_int) (pa_cons (pe_op op_sub (pe_op op_pow pe_int pe_int) pe_int) (pa_cons (pe_op op_sub (pe_d D_law_draw (hr.mono (by decide)) pass0 (pa_cons (pv 0) (pa_cons pe_int pa_nil))) pe_int) pa_nil))))))))))) pa_nil))))
          (pss_one (ps_ret (pe_tup (pa_cons (pv 1) (pa_cons (pe_d D_law_pick (hr.mono (by decide)) pass0 (pa_cons (pv 0) (pa_cons (pe_lst (pa_cons pe_int (pa_cons pe_int (pa_cons (pe_un un_neg pe_int) (pa_cons pe_int (pa_cons pe_int (pa_cons (pe_un un_neg pe_int) (pa_cons pe_int (pa_cons (pe_op op_pow pe_int pe_int) (pa_cons (pe_op op_add (pe_un un_neg (pe_op op_pow pe_int pe_int)) pe_int) (pa_cons (pe_op op_add pe_int (pe_d D_law_draw (hr.mono (by decide)) pass0 (pa_cons (pv 0) (pa_cons pe_int pa_nil)))) pa_nil))))))))))) pa_nil))) pa_nil)))))), ?_⟩
    obtain ⟨p, c, n, rfl, P, hn, k⟩ := h
    refine ⟨_, rfl, _, rfl, _, rfl, _, _, rfl, rfl, ⟨by decide, by decide, by decide⟩, _, _, rfl, rfl, ⟨by decide, by decide, by decide⟩, _, rfl, _, _, rfl, rfl, _, _, rfl, rfl, ⟨by decide, by decide, by decide⟩, _, _, rfl, rfl, _, rfl, p, c, n, _, rfl, P, by omega, by decide, by decide, fun d H1 d0 d1 P1 B1 => ?_⟩
    refine ⟨_, _, rfl, rfl, by show 10 ≤ sizeLine; decide, fun l hl => ?_⟩
    have lp := P1.np hl
    refine ⟨p, c, l, n + 1, _, rfl, P1.new hl, by omega, SqL.of upd_same, lp, by simp, by show 10 < 1000000; decide, fun i x H2 hx P2 B2 => ?_⟩
    obtain ⟨t, rfl, _, ht⟩ := int_of_menu (zs := [0, 1, -1, 3, 10, -21, 10 ^ (29 : Int).toNat, -(10 ^ (29 : Int).toNat) - 1, 10 ^ (30 : Int).toNat - 1, d - 80]) (p := fun i => i.natAbs < 2 ^ 100) (by
      intro z hz
      simp only [List.mem_cons, List.not_mem_nil, or_false] at hz
      rcases hz with rfl | rfl | rfl | rfl | rfl | rfl | rfl | rfl | rfl | rfl
      all_goals first
        | decide +kernel
        | exact Nat.lt_of_le_of_lt (show (d - 80).natAbs ≤ 80 by omega) (by decide +kernel)) hx
    refine ⟨_, rfl, _, rfl, _, rfl, _, rfl, _, _, rfl, rfl, ⟨by decide, by decide, by decide⟩, _, _, rfl, rfl, ⟨by decide, by decide, by decide⟩, _, rfl, _, _, rfl, rfl, _, rfl, p, c, n + 2, _, rfl, P2, by omega, by decide, by decide, fun d2 H3 d3 d4 P3 B3 => ?_⟩
    refine ⟨_, _, rfl, rfl, by show 10 ≤ sizeLine; decide, fun l2 hl2 => ?_⟩
    refine ⟨p, c, l2, n + 3, _, rfl, P3.new hl2, by omega, SqL.of upd_same, P3.np hl2, by simp, by show 10 < 1000000; decide, fun i2 x2 H4 hx2 P4 B4 => ?_⟩
    obtain ⟨b, rfl, _, hb0, hb⟩ := int_of_menu (zs := [1, 1, -1, 2, 5, -9, 12, 10 ^ (29 : Int).toNat, -(10 ^ (30 : Int).toNat) + 1, 1 + d2]) (p := fun i => i ≠ 0 ∧ i.natAbs < 2 ^ 100) (by
      intro z hz
      simp only [List.mem_cons, List.not_mem_nil, or_false] at hz
      rcases hz with rfl | rfl | rfl | rfl | rfl | rfl | rfl | rfl | rfl | rfl
      all_goals first
        | decide +kernel
        | exact ⟨by omega, Nat.lt_of_le_of_lt (show (1 + d2).natAbs ≤ 51 by omega) (by decide +kernel)⟩) hx2
    refine ⟨by show 2 ≤ sizeLine; decide, fun q hq => ?_⟩
    have BB : But p H H4 := (((B1.new hl).trans B2).trans (B3.new hl2)).trans B4
    exact k q t b _ (BB.none hq (P4.np hq)) (P4.np hq) upd_same hb0 ht hb (P4.new hq) (BB.new hq)

theorem sc__law_got : FnScope ["made"] ["made"] (defScope s__law_got) := ⟨rfl, rfl, rfl, by decide +kernel, rfl, by decide +kernel, by decide +kernel⟩
theorem d__law_got (T : Txt K mg) (RF : RatF K (He.ga K "Ratio"))  (A0 : At K mg "_law_got" s__law_got) : DefOk P w K mg base CX0 1 "_law_got" ["made"] [] (spGot K) := by
  refine At.ok A0 sc__law_got (fun _ _ F => F.bindsN fun _ _ _ _ _ _ us hl => match us, hl with | [_], _ => rfl) (fun vs H Q E h => ?_) (fun f cdv A out s H vs Q E hr h => ?_)
  · obtain ⟨p, c, n, rfl, _⟩ := h; rfl
  · have nd := sc__law_got.nd
    refine ⟨_, (pss_one (ps_ret (pe_ifExp (pt_val (pe_callB call_isi (by rfl) T.f_isinstance (by decide +kernel) (pa_cons (pv 0) (pa_cons (pe_glob (v := .ref (He.ga K "Ratio")) (by rfl) T.c_Ratio rfl) pa_nil)))) (pe_tup (pa_cons (pe_fld (pv 0) rfl) (pa_cons (pe_fld (pv 0) rfl) pa_nil))) pe_non))), ?_⟩
    obtain ⟨a, n, d, rfl, r, k⟩ := h
    obtain ⟨dx, e⟩ := id r
    exact ⟨_, rfl, _, _, _, _, _, rfl, .own _, r.ty RF, RF.self, _, rfl, iteT ⟨_, rfl, a, _, dx, _, _, rfl, e, RF.cls, RF.over, rfl, _, rfl, a, _, dx, _, _, rfl, e, RF.cls, RF.under, rfl, by show 2 ≤ sizeLine; decide, fun q hq => k q _ (ext_new hq) hq upd_same⟩⟩
theorem sc__law_number : FnScope ["pen", "pair", "top", "bottom"] ["pen", "pair"] (defScope s__law_number) := ⟨rfl, rfl, rfl, by decide +kernel, rfl, by decide +kernel, by decide +kernel⟩
theorem d__law_number (T : Txt K mg) (RF : RatF K (He.ga K "Ratio")) (D_law_least : DefOk P w K mg base CX0 2 "_law_least" ["top", "bottom"] [] spLeast) (D_law_draw : DefOk P w K mg base CX0 1 "_law_draw" ["pen", "many"] [] spDraw)(M_Ratio : Mk K (He.ga K "Ratio") (He.ma K (He.ga K "Ratio") "__init__"))(D_Ratio2 : FunOk P w K mg base (L2.CX P w) 3 (He.ma K (He.ga K "Ratio") "__init__") ["self", "over", "under"] [] (spInit K (He.ga K "Ratio") (He.ga K "BadRatio"))) (A0 : At K mg "_law_number" s__law_number) : DefOk P w K mg base CX0 5 "_law_number" ["pen", "pair"] [] (spNumber K) := by
  refine At.ok A0 sc__law_number (fun _ _ F => F.bindsN fun _ _ _ _ _ _ us hl => match us, hl with | [_, _], _ => rfl) (fun vs H Q E h => ?_) (fun f cdv A out s H vs Q E hr h => ?_)
  · obtain ⟨p, c, n, q, t, b, rfl, _⟩ := h; rfl
  · have nd := sc__law_number.nd
    refine ⟨_, (pss_cons (ps_asg (pe_d D_law_least (hr.mono (by decide)) pass0 (pa_cons (pe_ix ix_tup (pv 1) pe_int (fun _ _ => rfl)) (pa_cons (pe_ix ix_tup (pv 1) pe_int (fun _ _ => rfl)) pa_nil))) (pg_tup (by rfl) (pgs_cons (pg_name (i := 2) nd rfl (Or.inl rfl)) (pgs_cons (pg_name (i := 3) nd rfl (Or.inl rfl)) pgs_nil))))
          (pss_one (ps_ret (pe_ifExp (PW.pt (pw_and (pt_cmpR op_eq (pv 3) pe_int (nomark _)) (pw_and1 (pt_cmpR op_eq (pe_d D_law_draw (hr.mono (by decide)) pass0 (pa_cons (pv 0) (pa_cons pe_int pa_nil))) pe_int (nomark _))))) (pv 2) (pe_mkF M_Ratio T.c_Ratio D_Ratio2 (hr.mono (by decide)) passL (pa_cons (pe_ix ix_tup (pv 1) pe_int (fun _ _ => rfl)) (pa_cons (pe_ix ix_tup (pv 1) pe_int (fun _ _ => rfl)) pa_nil))))))), ?_⟩
    obtain ⟨p, c, n, q, t, b, rfl, P, hn, hq, hb, ⟨s1, s2⟩, k⟩ := h
    refine ⟨_, rfl, q, _, 0, _, rfl, rfl, .inl (.inl hq), atI_nat (j := 0) rfl, _, rfl, q, _, 1, _, rfl, rfl, .inl (.inl hq), atI_nat (j := 1) rfl, t, b, rfl, hb, log2_200 s2, fun l1 H1 e1 f1 g1 => ?_⟩
    have hqp : q ≠ p := fun z => by
      obtain ⟨_, _, _, x1, _⟩ := P.ex
      rw [z, x1] at hq
      cases hq
    have mk : ∀ H2, But p H H2 → Pen H2 p c (n + 1) → H2 q = some (.tup [.int t, .int b]) → tMake (He.ga K "Ratio") (spInit K (He.ga K "Ratio") (He.ga K "BadRatio")) [] E0 (tCons (tOp (rIxT K) (tVar 1) (tC (.int 0))) (tCons (tOp (rIxT K) (tVar 1) (tC (.int 1))) tNil)) [some (.ref p), some (.ref q), some (.int (rN t b)), some (.int (rD t b))] H2 Q := fun H2 B2 P2 h2 => by
      refine ⟨_, rfl, q, _, 0, _, rfl, rfl, .inl (.inl h2), atI_nat (j := 0) rfl, _, rfl, q, _, 1, _, rfl, rfl, .inl (.inl h2), atI_nat (j := 1) rfl, fun x dx nx nd hne => ?_⟩
      have nx' : upd H2 dx (.own x) x = none := by rw [upd_ne (Ne.symm hne)]; exact nx
      refine ⟨x, dx, .int t, .int b, rfl, upd_same, trivial, trivial, (fun z => by cases z), (fun _ z => ?_), fun i j ei ej _ => ?_⟩
      · rcases z with z | z
        · cases z
        · exact absurd (V.int.inj z) hb
      · cases ei
        cases ej
        refine ⟨log2_200 s2, rfl, ?_⟩
        rw [upd_again]
        exact k _ _ (.inr ⟨x, rfl, dx, upd_same⟩) ((P2.new nd).new nx') ((B2.new nd).new nx')
    have P1 : Pen H1 p c n := P.ext e1
    refine ⟨l1, _, rfl, .inl (.inl g1), rfl, _, _, rfl, _, _, rfl, rfl, ?_⟩
    refine ⟨_, rfl, rfl, _, rfl, ?_⟩
    have dec : ∀ u v : Int, decide (V.int u = V.int v) = decide (u = v) := fun u v => by
      by_cases z : u = v
      · rw [z, decide_eq_true rfl, decide_eq_true rfl]
      · rw [decide_eq_false z, decide_eq_false fun e => z (V.int.inj e)]
    rw [dec]
    by_cases hd : rD t b = 1
    · rw [decide_eq_true hd]
      refine iteT ⟨_, rfl, p, c, n, _, rfl, P1, by omega, by decide, by decide, fun d H2 d0 d1 P2 B2 => ⟨rfl, _, rfl, ?_⟩⟩
      rw [dec]
      by_cases h0 : d = 0
      · rw [decide_eq_true h0]
        exact iteT ⟨_, rfl, k _ _ (.inl ⟨rfl, hd⟩) P2 (e1.but.trans B2)⟩
      · rw [decide_eq_false h0]
        exact iteF (mk H2 (e1.but.trans B2) P2 (B2 _ _ (e1 _ _ hq) hqp))
    · rw [decide_eq_false hd]
      exact iteF (iteF (mk H1 e1.but (P1.mono (by omega)) (e1 _ _ hq)))
end
end K06

set_option maxRecDepth 100000
set_option maxHeartbeats 4000000
namespace K06
open PySem PySem.Spec PyProof.Rows Gs
open L2 hiding Ext paired_get
open C8 (tCut pss_cut)
theorem takesN {X : Cx} : Takes X (fun _ _ _ _ => False) := fun _ _ ⟨_, _, _, _, _, _, _, _, _, _, _, _, _, _, _, _, z⟩ => z.elim
/-- what _law_heard makes of what is asked -/
def TH (K : PySem.W.Frag) : (XK → Hp → VK → Prop) → Hp → VK → Prop := fun tl H Q =>
  tl (HBad K (He.ga K "BadRatio") Q) H
    fun v H' => ∀ q H'', Ext H' H'' → H'' q = some (.lst [v]) → Q (.ref q) H''
/-- the exceptions' facts -/
structure ExF (K : PySem.W.Frag) : Prop where
  xh : XhC K (He.ga K "BadRatio")
  no : PySem.W.findIn K (.ref (He.ga K "BadRatio")) "value" = some none
  gap : PySem.W.exmOne K (.ref (He.ga K "BadRatio")) (.ref (He.ga K "GapError")) = some true
  isB : PySem.W.kitOne K (.ref (He.ga K "BadRatio")) (.ref (He.ga K "BadRatio")) = some true
theorem sc__law_heard : FnScope ["ask", "caught", "error"] ["ask"] (defScope s__law_heard) := ⟨rfl, rfl, rfl, by decide +kernel, rfl, by decide +kernel, by decide +kernel⟩
theorem hears {X : Cx} {q : Str} (T : Txt X.K X.mg) (XF : ExF X.K) (hG : X.A.guards = some []) (g : Addr) (cdg : Value) : Hears X ["ask", "caught", "error"] "_law_heard" (defScope s__law_heard) g cdg (defBody s__law_heard) "ask" q (TH X.K) := by
  intro f c' s H Q tl act hc h hr
  have nd := sc__law_heard.nd
  refine ⟨_, pss_cons (ps_set (i := 1) nd rfl (Or.inl rfl) pe_non)
    (pss_cons (ps_try_held (X := (cxOf CX0 X.prog X.w X.K X.mg X.base ["ask", "caught", "error"] "_law_heard" (defScope s__law_heard) g cdg X.A X.stack s H E0).nox) (i := 2) rfl rfl rfl nd rfl rfl ⟨rfl, by decide, .inl T.c_GapError⟩ takesN
      (fun W pn xe tk _ => pss_one (ps_ret (pe_lst (pa_cons (teM_ok (act W pn xe _ _ tk)) pa_nil)))) (fun a oe cls d pn hz hf => pss_one (ps_set (i := 1) nd rfl (Or.inl rfl) (pv 2))))
    (pss_one (ps_ret (pe_ifExp (pt_val (pe_callB call_isH (by rfl) T.f_isinstance (by decide +kernel) (pa_cons (pv 1) (pa_cons (pe_glob (v := .ref (He.ga X.K "BadRatio")) (by rfl) T.c_BadRatio rfl) pa_nil))))
      (pe_tup (pa_cons pe_str (pa_cons (pe_callB (call_reprX hG hr.units) (by rfl) T.f_repr (by decide +kernel) (pa_cons (pe_xh (pv 1)) pa_nil)) pa_nil))) (pe_tup (pa_cons pe_str pa_nil)))))), ?_⟩
  refine ⟨_, ⟨rfl, hc, _, fun cls d H' hE => ?_, h⟩, fun v H1 r => ⟨by show 1 ≤ sizeLine; decide, fun p hp => r p _ (ext_new hp) upd_same⟩⟩
  obtain ⟨rfl, dd, v, D, rfl, hx, sh, fine, k⟩ := hE
  refine ⟨true, XF.gap, fun _ a na => ?_, fun z => by cases z⟩
  have ex : Ext H' (upd H' a (ExV (.ref (He.ga X.K "BadRatio")) a (some dd))) := ext_new na
  have hdd := ex _ _ hx
  refine ⟨_, rfl, ?_⟩
  refine ⟨_, rfl, _, _, _, _, _, rfl, .own _, .exc upd_same XF.xh (fun d' e => by cases e; exact ⟨_, hdd⟩), XF.isB, _, rfl, iteT ?_⟩
  refine ⟨_, rfl, a, _, dd, _, v, rfl, upd_same, XF.xh, XF.no, hdd, rfl, v, D, rfl, sh.ext ex, fine, by show 2 ≤ sizeLine; decide, fun q hq => k q _ (ex.new hq) upd_same⟩
def spOdd (K : PySem.W.Frag) : Sp := fun vs H Q _ => ∃ (p c : Addr) (n : Nat), vs = [.ref p] ∧ Pen H p c n ∧ n ≤ 999990 ∧ ∀ x D H', KnB K (He.ga K "Ratio") (Gs.dl H' p) x D → ∀ T, PlV (Gs.dl H' p) x T → Pen H' p c (n + 1) → But p H H' → Q x H'
section
variable {P : Program} {w : World} {K : PySem.W.Frag} {mg : Str → Option Value} {base : Heap}
theorem sc__law_odd : FnScope ["pen"] ["pen"] (defScope s__law_odd) := ⟨rfl, rfl, rfl, by decide +kernel, rfl, by decide +kernel, by decide +kernel⟩
theorem d__law_odd (T : Txt K mg) (RF : RatF K (He.ga K "Ratio")) (D_law_pick : DefOk P w K mg base CX0 2 "_law_pick" ["pen", "some"] [] (spPick K)) (A0 : At K mg "_law_odd" s__law_odd) : DefOk P w K mg base CX0 3 "_law_odd" ["pen"] [] (spOdd K) := by
  refine At.ok A0 sc__law_odd (fun _ _ F => F.bindsN fun _ _ _ _ _ _ us hl => match us, hl with | [_], _ => rfl) (fun vs H Q E h => ?_) (fun f cdv A out s H vs Q E hr h => ?_)
  · obtain ⟨p, c, n, rfl, _⟩ := h; rfl
  · have nd := sc__law_odd.nd
    refine ⟨_, (pss_one (ps_ret (pe_d D_law_pick (hr.mono (by decide)) pass0 (pa_cons (pv 0) (pa_cons (pe_lst (pa_cons pe_non (pa_cons pe_bl (pa_cons pe_bl (pa_cons pe_str (pa_cons pe_str (pa_cons (pe_tup (pa_cons pe_int pa_nil)) (pa_cons (pe_lst (pa_cons pe_int pa_nil)) (pa_cons pe_dnewK (pa_cons (pe_tup (pa_cons pe_int (pa_cons pe_int pa_nil))) (pa_cons pe_str pa_nil))))))))))) pa_nil))))), ?_⟩
    obtain ⟨p, c, n, rfl, P, hn, k⟩ := h
    refine ⟨_, rfl, by show 1 ≤ sizeLine; decide, fun q1 n1 => ⟨by show 1 ≤ sizeLine; decide, fun q2 n2 q3 n3 => ⟨by show 2 ≤ sizeLine; decide, fun q4 n4 => ⟨by show 10 ≤ sizeLine; decide, fun l hl => ?_⟩⟩⟩⟩
    have P1 := P.new (o := .tup [.int 1]) n1
    have P2 := P1.new (o := .lst [.int 1]) n2
    have P3 := P2.new (o := .dK []) n3
    have P4 := P3.new (o := .tup [.int 1, .int 2]) n4
    refine ⟨p, c, l, n, _, rfl, P4.new hl, by omega, SqL.of upd_same, P4.np hl, by simp, by show 10 < 1000000; decide, fun i x H' hx P' B' => ?_⟩
    have y1 := (((ext_new n2).new n3).new n4).new (o := .lst [.non, .bl true, .bl false, .str "1", .str "1/2", .ref q1, .ref q2, .ref q3, .ref q4, .str ""]) hl _ _ upd_same
    have y2 := ((ext_new n3).new n4).new (o := .lst [.non, .bl true, .bl false, .str "1", .str "1/2", .ref q1, .ref q2, .ref q3, .ref q4, .str ""]) hl _ _ upd_same
    have y3 := (ext_new n4).new (o := .lst [.non, .bl true, .bl false, .str "1", .str "1/2", .ref q1, .ref q2, .ref q3, .ref q4, .str ""]) hl _ _ upd_same
    have y4 := ext_new (o := .lst [.non, .bl true, .bl false, .str "1", .str "1/2", .ref q1, .ref q2, .ref q3, .ref q4, .str ""]) hl _ _ upd_same
    have z1 := dl_at (B' _ _ y1 (P.np n1)) (P.np n1)
    have z2 := dl_at (B' _ _ y2 (P1.np n2)) (P1.np n2)
    have z3 := dl_at (B' _ _ y3 (P2.np n3)) (P2.np n3)
    have z4 := dl_at (B' _ _ y4 (P3.np n4)) (P3.np n4)
    have BB : But p H H' := (((((ext_new n1).new n2).new n3).new n4).new hl).but.trans B'
    have hm := List.mem_of_getElem? hx
    simp only [List.mem_cons, List.not_mem_nil, or_false] at hm
    rcases hm with rfl | rfl | rfl | rfl | rfl | rfl | rfl | rfl | rfl | rfl
    · exact k _ .none _ ⟨⟨.non, .data .non, by unfold Fine; decide +kernel, by decide +kernel⟩, rfl, rfl⟩ _ (.non) P' BB
    · exact k _ (.bool true) _ ⟨⟨.bl _, .data (.bl _), by unfold Fine; decide +kernel, by decide +kernel⟩, rfl, rfl⟩ _ (.bl _) P' BB
    · exact k _ (.bool false) _ ⟨⟨.bl _, .data (.bl _), by unfold Fine; decide +kernel, by decide +kernel⟩, rfl, rfl⟩ _ (.bl _) P' BB
    · exact k _ (.str "1") _ ⟨⟨.str _, .data (.str _), by unfold Fine; decide +kernel, by decide +kernel⟩, rfl, rfl⟩ _ (.str _) P' BB
    · exact k _ (.str "1/2") _ ⟨⟨.str _, .data (.str _), by unfold Fine; decide +kernel, by decide +kernel⟩, rfl, rfl⟩ _ (.str _) P' BB
    · exact k _ (.tuple [.int 1]) _ ⟨⟨.tup z1, .data (.tup (.inl (.inl z1)) (.cons (.int 1) .nil)), by unfold Fine; decide +kernel, by decide +kernel⟩, by rw [vRat_ref, z1], rfl⟩ _ (.tup z1) P' BB
    · exact k _ (.list [.int 1]) _ ⟨⟨.lst z2, .data (.lst (SqL.of z2) (.cons (.int 1) .nil)), by unfold Fine; decide +kernel, by decide +kernel⟩, by rw [vRat_ref, z2], rfl⟩ _ (.lst z2) P' BB
    · exact k _ (.dict []) _ ⟨⟨.dK z3, .dict z3 .nil, by unfold Fine; decide +kernel, by decide +kernel⟩, by rw [vRat_ref, z3], rfl⟩ _ (.dK z3) P' BB
    · exact k _ (.tuple [.int 1, .int 2]) _ ⟨⟨.tup z4, .data (.tup (.inl (.inl z4)) (.cons (.int 1) (.cons (.int 2) .nil))), by unfold Fine; decide +kernel, by decide +kernel⟩, by rw [vRat_ref, z4], rfl⟩ _ (.tup z4) P' BB
    · exact k _ (.str "") _ ⟨⟨.str _, .data (.str _), by unfold Fine; decide +kernel, by decide +kernel⟩, rfl, rfl⟩ _ (.str _) P' BB
end
end K06

set_option maxRecDepth 100000
set_option maxHeartbeats 4000000
namespace K06
open PySem PySem.Spec PyProof.Rows Gs
open L2 hiding Ext paired_get
open C8 (tCut pss_cut)
abbrev PII := Int × Int
def QuoP (x y : PII) : Int := (x.1 * y.2).fdiv (x.2 * y.1)
def RemP (x y : PII) : PII := (x.1 * y.2 - QuoP x y * y.1 * x.2, x.2 * y.2)
theorem sm_log {i j : Int} (h : i.natAbs < 2 ^ 4000) (h' : j.natAbs < 2 ^ 4000) : (i * j).natAbs.log2 < 8999 := by
  by_cases z : (i * j).natAbs = 0
  · rw [z]
    decide
  · refine (Nat.log2_lt z).mpr ?_
    rw [Int.natAbs_mul]
    have h1 : i.natAbs * j.natAbs < 2 ^ 4000 * 2 ^ 4000 := Nat.mul_lt_mul'' h h'
    rw [← Nat.pow_add] at h1
    exact Nat.lt_of_lt_of_le h1 (Nat.pow_le_pow_right (by decide) (show 4000 + 4000 ≤ 8999 by decide))
theorem told_num {K : PySem.W.Frag} {C CB : Addr} {H : Hp} {v : V} {Q : VK} {E : XK} (any : AnyV K C H v) (bad : vRat C H v = false → isI v = false → BadV CB H E v)
    (good : ∀ p, RatOf C H v p → ∀ a H', Gs.Ext H H' → Gs.Rat C H' a p.1 p.2 → Q (.ref a) H') : Told K C CB H v Q E := by
  refine ⟨any, fun z H' e => ?_, bad, fun i z a H' e _ r => ?_⟩
  · obtain ⟨b, n, d, rfl, r⟩ := vrat_at any z
    exact good (n, d) (.inr ⟨b, rfl, r⟩) b H' e (Gs.Rat.ext r e)
  · subst z
    exact good (i, 1) (.inl ⟨rfl, rfl⟩) a H' e r
theorem mul_lt {i j : Int} {a b : Nat} (h : i.natAbs < 2 ^ a) (h' : j.natAbs < 2 ^ b) : (i * j).natAbs < 2 ^ (a + b) := by
  rw [Int.natAbs_mul, Nat.pow_add]
  exact Nat.mul_lt_mul'' h h'
theorem fdiv_le (i j : Int) : (i.fdiv j).natAbs ≤ i.natAbs + 1 := by
  rcases Int.lt_or_le j 0 with h | h
  · have e : i.fdiv j = (-i).fdiv (-j) := (Int.neg_fdiv_neg i j).symm
    rw [e, Int.fdiv_eq_ediv_of_nonneg _ (by omega)]
    have := Int.natAbs_ediv_le_natAbs (-i) (-j)
    omega
  · rw [Int.fdiv_eq_ediv_of_nonneg _ h]
    have := Int.natAbs_ediv_le_natAbs i j
    omega
theorem quo_lt {x y : PII} (s1 : Sm x) (s2 : Sm y) : (QuoP x y).natAbs < 2 ^ 8001 := by
  have h := fdiv_le (x.1 * y.2) (x.2 * y.1)
  have h2 := mul_lt s1.1 s2.2
  have e : (2 : Nat) ^ 8001 = 2 ^ 8000 + 2 ^ 8000 := by rw [show 8001 = 8000 + 1 from rfl, Nat.pow_succ, Nat.mul_two]
  have p : 0 < (2 : Nat) ^ 8000 := Nat.two_pow_pos _
  unfold QuoP
  rw [e]
  have h2' : (x.1 * y.2).natAbs < 2 ^ 8000 := h2
  generalize (2 : Nat) ^ 8000 = N at *
  omega
theorem sm_log1 {i : Int} (h : i.natAbs < 2 ^ 4000) : i.natAbs.log2 < 9000 := by
  by_cases z : i.natAbs = 0
  · rw [z]
    decide
  · exact (Nat.log2_lt z).mpr (Nat.lt_of_lt_of_le h (Nat.pow_le_pow_right (by decide) (by decide)))
def spQuo (C : Addr) : Sp := fun vs H Q _ => ∃ (a b : Addr) (x y : PII), vs = [.ref a, .ref b] ∧ Gs.Rat C H a x.1 x.2 ∧ Gs.Rat C H b y.1 y.2 ∧ Sm x ∧ Sm y ∧ x.2 * y.1 ≠ 0 ∧ Q (.int (QuoP x y)) H
def spRem (C : Addr) : Sp := fun vs H Q _ => ∃ (a b : Addr) (x y : PII), vs = [.ref a, .ref b] ∧ Gs.Rat C H a x.1 x.2 ∧ Gs.Rat C H b y.1 y.2 ∧ Sm x ∧ Sm y ∧ x.2 * y.1 ≠ 0 ∧ x.2 * y.2 ≠ 0 ∧ Made C H (rN (RemP x y).1 (RemP x y).2) (rD (RemP x y).1 (RemP x y).2) Q
/-- a number is wanted: what is wished of it -/
def Wants (K : PySem.W.Frag) (C CB : Addr) (H : Hp) (v : V) (E : XK) (good : PII → Prop) : Prop := AnyV K C H v ∧ (vRat C H v = false → isI v = false → BadV CB H E v) ∧ ∀ p, RatOf C H v p → good p
def spAbv (K : PySem.W.Frag) (C CB : Addr) : Sp := fun vs H Q E => ∃ v, vs = [v] ∧ Wants K C CB H v E fun p => (p.1 ≤ 0 → BadV CB H E v) ∧ (0 < p.1 → ∀ a H', Gs.Ext H H' → Gs.Rat C H' a p.1 p.2 → Q (.ref a) H')
def spFlo (C : Addr) : Sp := fun vs H Q _ => ∃ (a : Addr) (x : PII), vs = [.ref a] ∧ Gs.Rat C H a x.1 x.2 ∧ Sm x ∧ x.2 ≠ 0 ∧ Q (.int (x.1.fdiv x.2)) H
def spCei (C : Addr) : Sp := fun vs H Q _ => ∃ (a : Addr) (x : PII), vs = [.ref a] ∧ Gs.Rat C H a x.1 x.2 ∧ Sm x ∧ x.2 ≠ 0 ∧ Q (.int (-((-x.1).fdiv x.2))) H
def spBoo (C : Addr) : Sp := fun vs H Q _ => ∃ (a : Addr) (x : PII), vs = [.ref a] ∧ Gs.Rat C H a x.1 x.2 ∧ Q (.bl (!decide (x.1 = 0))) H
def spCmp (K : PySem.W.Frag) (C CB : Addr) (f : Int → Int → Bool) : Sp := fun vs H Q E => ∃ (a : Addr) (x : PII) (y : V), vs = [.ref a, y] ∧ Gs.Rat C H a x.1 x.2 ∧ Sm x ∧ Wants K C CB H y E fun p => Sm p ∧ ∀ H', Gs.Ext H H' → Q (.bl (f (x.1 * p.2) (p.1 * x.2))) H'
def spEqR (K : PySem.W.Frag) (C : Addr) : Sp := fun vs H Q _ => ∃ a n d y, vs = [.ref a, y] ∧ Gs.Rat C H a n d ∧ AnyV K C H y ∧ (∀ b n' d', y = .ref b → Gs.Rat C H b n' d' → Q (.bl (decide (n = n') && decide (d = d'))) H) ∧ (vRat C H y = false → Q (.bl false) H)
/-- x // y, x % y, x of the class -/
def spDivL (K : PySem.W.Frag) (C CB : Addr) (G : Addr → PII → PII → Hp → VK → Prop) : Sp := fun vs H Q E => ∃ (a : Addr) (x : PII) (y : V), vs = [.ref a, y] ∧ Gs.Rat C H a x.1 x.2 ∧ Sm x ∧ 0 < x.2 ∧ Wants K C CB H y E fun p => Sm p ∧ 0 < p.2 ∧ (p.1 ≤ 0 → BadV CB H E y) ∧ (0 < p.1 → ∀ H', Gs.Ext H H' → G C x p H' Q)
/-- y // x, y % x, x of the class -/
def spDivR (K : PySem.W.Frag) (C CB : Addr) (G : Addr → PII → PII → Hp → VK → Prop) : Sp := fun vs H Q E => ∃ (a : Addr) (x : PII) (y : V), vs = [.ref a, y] ∧ Gs.Rat C H a x.1 x.2 ∧ Sm x ∧ 0 < x.2 ∧ Wants K C CB H y E fun p => Sm p ∧ 0 < p.2 ∧ (x.1 ≤ 0 → BadV CB H E (.ref a)) ∧ (0 < x.1 → ∀ H', Gs.Ext H H' → G C p x H' Q)
def GQuo (C : Addr) (x y : PII) (H : Hp) (Q : VK) : Prop := Q (.int (QuoP x y)) H
def GRem (C : Addr) (x y : PII) (H : Hp) (Q : VK) : Prop := Made C H (rN (RemP x y).1 (RemP x y).2) (rD (RemP x y).1 (RemP x y).2) Q
section
variable {P : Program} {w : World} {K : PySem.W.Frag} {mg : Str → Option Value} {base : Heap}
theorem sc_quotient : FnScope ["one", "other"] ["one", "other"] (defScope s_quotient) := ⟨rfl, rfl, rfl, by decide +kernel, rfl, by decide +kernel, by decide +kernel⟩
theorem d_quotient (T : Txt K mg) (RF : RatF K (He.ga K "Ratio"))  (A0 : At K mg "quotient" s_quotient) : DefOk P w K mg base CX0 1 "quotient" ["one", "other"] [] (spQuo (He.ga K "Ratio")) := by
  refine At.ok A0 sc_quotient (fun _ _ F => F.bindsN fun _ _ _ _ _ _ us hl => match us, hl with | [_, _], _ => rfl) (fun vs H Q E h => ?_) (fun f cdv A out s H vs Q E hr h => ?_)
  · obtain ⟨a, b, x, y, rfl, _⟩ := h; rfl
  · have nd := sc_quotient.nd
    refine ⟨_, (pss_one (ps_ret (pe_op op_fdivX (pe_op op_mulW (pe_fld (pv 0) rfl) (pe_fld (pv 1) rfl)) (pe_op op_mulW (pe_fld (pv 0) rfl) (pe_fld (pv 1) rfl))))), ?_⟩
    obtain ⟨a, b, x, y, rfl, ⟨d1, h1⟩, ⟨d2, h2⟩, s1, s2, nz, k⟩ := h
    exact ⟨_, rfl, a, _, d1, _, _, rfl, h1, RF.cls, RF.over, rfl, _, rfl, b, _, d2, _, _, rfl, h2, RF.cls, RF.under, rfl, x.1, y.2, rfl, rfl, wide_mul s1.1 s2.2 (by decide) (by decide) (by decide),
      _, rfl, a, _, d1, _, _, rfl, h1, RF.cls, RF.under, rfl, _, rfl, b, _, d2, _, _, rfl, h2, RF.cls, RF.over, rfl, x.2, y.1, rfl, rfl, wide_mul s1.2 s2.1 (by decide) (by decide) (by decide), _, _, rfl, rfl, ⟨nz, Nat.lt_succ_of_lt (sm_log s1.2 s2.1)⟩, k⟩
theorem sc_remainder : FnScope ["one", "other", "many"] ["one", "other"] (defScope s_remainder) := ⟨rfl, rfl, rfl, by decide +kernel, rfl, by decide +kernel, by decide +kernel⟩
theorem d_remainder (T : Txt K mg) (RF : RatF K (He.ga K "Ratio")) (Dquotient : DefOk P w K mg base CX0 1 "quotient" ["one", "other"] [] (spQuo (He.ga K "Ratio"))) (M_Ratio : Mk K (He.ga K "Ratio") (He.ma K (He.ga K "Ratio") "__init__"))(D_Ratio2 : FunOk P w K mg base (L2.CX P w) 3 (He.ma K (He.ga K "Ratio") "__init__") ["self", "over", "under"] [] (spInit K (He.ga K "Ratio") (He.ga K "BadRatio"))) (A0 : At K mg "remainder" s_remainder) : DefOk P w K mg base CX0 5 "remainder" ["one", "other"] [] (spRem (He.ga K "Ratio")) := by
  refine At.ok A0 sc_remainder (fun _ _ F => F.bindsN fun _ _ _ _ _ _ us hl => match us, hl with | [_, _], _ => rfl) (fun vs H Q E h => ?_) (fun f cdv A out s H vs Q E hr h => ?_)
  · obtain ⟨a, b, x, y, rfl, _⟩ := h; rfl
  · have nd := sc_remainder.nd
    refine ⟨_, (pss_cons (ps_set (i := 2) nd rfl (Or.inl rfl) (pe_d Dquotient (hr.mono (by decide)) pass0 (pa_cons (pv 0) (pa_cons (pv 1) pa_nil))))
          (pss_one (ps_ret (pe_mk2 (pe_mkF M_Ratio T.c_Ratio D_Ratio2 (hr.mono (by decide)) passL (taM_ok (pa_cons (pe_op op_sub (pe_op op_mulW (pe_fld (pv 0) rfl) (pe_fld (pv 1) rfl)) (pe_op op_mulW (pe_op op_mulW (pv 2) (pe_fld (pv 1) rfl)) (pe_fld (pv 0) rfl))) (pa_cons (pe_op op_mulW (pe_fld (pv 0) rfl) (pe_fld (pv 1) rfl)) pa_nil)))))))), ?_⟩
    obtain ⟨a, b, x, y, rfl, r1, r2, s1, s2, nz, nz2, k⟩ := h
    refine ⟨_, rfl, _, rfl, a, b, x, y, rfl, r1, r2, s1, s2, nz, ?_⟩
    obtain ⟨d1, h1⟩ := r1
    obtain ⟨d2, h2⟩ := r2
    have q1 : (QuoP x y).natAbs < 2 ^ 8001 := quo_lt s1 s2
    have q2 : (QuoP x y * y.1).natAbs < 2 ^ 12001 := mul_lt q1 s2.1
    exact ⟨_, rfl, a, _, d1, _, _, rfl, h1, RF.cls, RF.over, rfl, _, rfl, b, _, d2, _, _, rfl, h2, RF.cls, RF.under, rfl, x.1, y.2, rfl, rfl, wide_mul s1.1 s2.2 (by decide) (by decide) (by decide),
      _, rfl, _, rfl, b, _, d2, _, _, rfl, h2, RF.cls, RF.over, rfl, _, _, rfl, rfl, wide_mul q1 s2.1 (by decide) (by decide) (by decide), _, rfl, a, _, d1, _, _, rfl, h1, RF.cls, RF.under, rfl, _, _, rfl, rfl, wide_mul q2 s1.2 (by decide) (by decide) (by decide),
      _, _, rfl, rfl, _, rfl, a, _, d1, _, _, rfl, h1, RF.cls, RF.under, rfl, _, rfl, b, _, d2, _, _, rfl, h2, RF.cls, RF.under, rfl, _, _, rfl, rfl, wide_mul s1.2 s2.2 (by decide) (by decide) (by decide), _, _, rfl, nz2, sm_log s1.2 s2.2, k⟩
theorem sc_above : FnScope ["value", "told"] ["value"] (defScope s_above) := ⟨rfl, rfl, rfl, by decide +kernel, rfl, by decide +kernel, by decide +kernel⟩
theorem d_above (T : Txt K mg) (RF : RatF K (He.ga K "Ratio")) (DX_BadRatio : ExcD P w K mg base "BadRatio" ["value"] ["value"])(Dtold_of : DefOk P w K mg base (L2.CX P w) 5 "told_of" ["value"] [] (spTold K (He.ga K "Ratio") (He.ga K "BadRatio"))) (A0 : At K mg "above" s_above) : DefOk P w K mg base (L2.CX P w) 6 "above" ["value"] [] (spAbv K (He.ga K "Ratio") (He.ga K "BadRatio")) := by
  refine At.okX A0 sc_above (fun _ _ F => F.bindsN fun _ _ _ _ _ _ us hl => match us, hl with | [_], _ => rfl) (fun vs H Q E h => ?_) (fun f cdv A out s H vs Q E hr tk h => ?_)
  · obtain ⟨v, rfl, _⟩ := h; rfl
  · have nd := sc_above.nd
    refine ⟨_, (pss_cons (ps_set (i := 1) nd rfl (Or.inl rfl) (pe_d Dtold_of (hr.mono (by decide)) (passes_call tk fun _ _ _ _ h => h) (pa_cons (pv 0) pa_nil)))
          (pss_cons (ps_if (pt_cmpR op_le (pe_fld (pv 1) rfl) pe_int (nomark _)) (pss_one (ps_raise rfl tk (pmk_x DX_BadRatio (hr.mono (by decide)) (pa_cons (pv 0) pa_nil)))) pss_nil)
          (pss_one (ps_ret (pv 1))))), ?_⟩
    obtain ⟨v, rfl, any, bad, good⟩ := h
    refine ⟨_, rfl, v, rfl, told_num any bad fun p hp a H' e r => ?_⟩
    obtain ⟨k1, k2⟩ := good p hp
    obtain ⟨dx, hr⟩ := id r
    refine ⟨_, rfl, a, _, dx, _, _, rfl, hr, RF.cls, RF.over, rfl, p.1, 0, rfl, rfl, _, rfl, ?_⟩
    by_cases z : p.1 ≤ 0
    · rw [decide_eq_true z]
      refine iteT ⟨_, rfl, rfl, fun C ec d n => ?_⟩
      have ec : mg "BadRatio" = some (.ref C) := ec
      rw [T.c_BadRatio] at ec
      cases ec
      exact (k1 z).up e d _ (ext_new n) n upd_same
    · rw [decide_eq_false z]
      exact iteF ⟨_, rfl, k2 (by omega) a H' e r⟩
theorem sc_Ratio_floor : FnScope ["self"] ["self"] (defScope s_Ratio_floor) := ⟨rfl, rfl, rfl, by decide +kernel, rfl, by decide +kernel, by decide +kernel⟩
theorem d_Ratio_floor (RF : RatF K (He.ga K "Ratio"))  (A0 : AtF K (He.ma K (He.ga K "Ratio") "floor") "floor" "Ratio.floor" s_Ratio_floor []) {dvs : List V} (bnd : ∀ fd, FunD K "floor" "Ratio.floor" (defArgs s_Ratio_floor) (defBody s_Ratio_floor) (defScope s_Ratio_floor) [] [] (He.ma K (He.ga K "Ratio") "floor") fd → ∃ ds, Vals dvs ds ∧ Binds K fd ["self"] ds) : FunOk P w K mg base CX0 1 (He.ma K (He.ga K "Ratio") "floor") ["self"] dvs (spFlo (He.ga K "Ratio")) := by
  refine AtF.ok0 A0 sc_Ratio_floor bnd (fun vs H Q E h => ?_) (fun cdv A out s H vs Q E hr h => ?_)
  · obtain ⟨a, x, rfl, _⟩ := h; rfl
  · have nd := sc_Ratio_floor.nd
    refine ⟨_, (pss_one (ps_ret (pe_op op_fdivX (pe_fld (pv 0) rfl) (pe_fld (pv 0) rfl)))), ?_⟩
    obtain ⟨a, x, rfl, ⟨dx, h⟩, s, nz, k⟩ := h
    exact ⟨_, rfl, a, _, dx, _, _, rfl, h, RF.cls, RF.over, rfl, _, rfl, a, _, dx, _, _, rfl, h, RF.cls, RF.under, rfl, _, _, rfl, rfl, ⟨nz, sm_log1 s.2⟩, k⟩
theorem sc_Ratio_ceiling : FnScope ["self"] ["self"] (defScope s_Ratio_ceiling) := ⟨rfl, rfl, rfl, by decide +kernel, rfl, by decide +kernel, by decide +kernel⟩
theorem d_Ratio_ceiling (RF : RatF K (He.ga K "Ratio"))  (A0 : AtF K (He.ma K (He.ga K "Ratio") "ceiling") "ceiling" "Ratio.ceiling" s_Ratio_ceiling []) {dvs : List V} (bnd : ∀ fd, FunD K "ceiling" "Ratio.ceiling" (defArgs s_Ratio_ceiling) (defBody s_Ratio_ceiling) (defScope s_Ratio_ceiling) [] [] (He.ma K (He.ga K "Ratio") "ceiling") fd → ∃ ds, Vals dvs ds ∧ Binds K fd ["self"] ds) : FunOk P w K mg base CX0 1 (He.ma K (He.ga K "Ratio") "ceiling") ["self"] dvs (spCei (He.ga K "Ratio")) := by
  refine AtF.ok0 A0 sc_Ratio_ceiling bnd (fun vs H Q E h => ?_) (fun cdv A out s H vs Q E hr h => ?_)
  · obtain ⟨a, x, rfl, _⟩ := h; rfl
  · have nd := sc_Ratio_ceiling.nd
    refine ⟨_, (pss_one (ps_ret (pe_un un_neg (pe_op op_fdivX (pe_un un_neg (pe_fld (pv 0) rfl)) (pe_fld (pv 0) rfl))))), ?_⟩
    obtain ⟨a, x, rfl, ⟨dx, h⟩, s, nz, k⟩ := h
    exact ⟨_, rfl, a, _, dx, _, _, rfl, h, RF.cls, RF.over, rfl, _, rfl, _, rfl, a, _, dx, _, _, rfl, h, RF.cls, RF.under, rfl, _, _, rfl, rfl, ⟨nz, sm_log1 s.2⟩, _, rfl, k⟩
theorem sc_Ratio___bool__ : FnScope ["self"] ["self"] (defScope s_Ratio___bool__) := ⟨rfl, rfl, rfl, by decide +kernel, rfl, by decide +kernel, by decide +kernel⟩
theorem d_Ratio___bool__ (T : Txt K mg) (RF : RatF K (He.ga K "Ratio"))  (A0 : AtF K (He.ma K (He.ga K "Ratio") "__bool__") "__bool__" "Ratio.__bool__" s_Ratio___bool__ []) {dvs : List V} (bnd : ∀ fd, FunD K "__bool__" "Ratio.__bool__" (defArgs s_Ratio___bool__) (defBody s_Ratio___bool__) (defScope s_Ratio___bool__) [] [] (He.ma K (He.ga K "Ratio") "__bool__") fd → ∃ ds, Vals dvs ds ∧ Binds K fd ["self"] ds) : FunOk P w K mg base CX0 1 (He.ma K (He.ga K "Ratio") "__bool__") ["self"] dvs (spBoo (He.ga K "Ratio")) := by
  refine AtF.ok0 A0 sc_Ratio___bool__ bnd (fun vs H Q E h => ?_) (fun cdv A out s H vs Q E hr h => ?_)
  · obtain ⟨a, x, rfl, _⟩ := h; rfl
  · have nd := sc_Ratio___bool__.nd
    refine ⟨_, (pss_one (ps_ret (pe_callTy call_bool1 (by rfl) T.f_bool (by decide +kernel) (pa_cons (pe_cmpR op_ne (pe_fld (pv 0) rfl) pe_int (nomark _)) pa_nil)))), ?_⟩
    obtain ⟨a, x, rfl, ⟨dx, h⟩, k⟩ := h
    refine ⟨_, rfl, a, _, dx, _, _, rfl, h, RF.cls, RF.over, rfl, rfl, .inr ⟨_, rfl, ?_⟩⟩
    have e : decide (V.int x.1 = V.int 0) = decide (x.1 = 0) := by
      by_cases z : x.1 = 0
      · rw [decide_eq_true z, z]
        rfl
      · rw [decide_eq_false z, decide_eq_false fun q => z (V.int.inj q)]
    rw [e]
    exact k
theorem sc_Ratio___lt__ : FnScope ["self", "other", "told"] ["self", "other"] (defScope s_Ratio___lt__) := ⟨rfl, rfl, rfl, by decide +kernel, rfl, by decide +kernel, by decide +kernel⟩
theorem d_Ratio___lt__ (T : Txt K mg) (RF : RatF K (He.ga K "Ratio")) (Dtold_of : DefOk P w K mg base (L2.CX P w) 5 "told_of" ["value"] [] (spTold K (He.ga K "Ratio") (He.ga K "BadRatio"))) (A0 : AtF K (He.ma K (He.ga K "Ratio") "__lt__") "__lt__" "Ratio.__lt__" s_Ratio___lt__ []) {dvs : List V} (bnd : ∀ fd, FunD K "__lt__" "Ratio.__lt__" (defArgs s_Ratio___lt__) (defBody s_Ratio___lt__) (defScope s_Ratio___lt__) [] [] (He.ma K (He.ga K "Ratio") "__lt__") fd → ∃ ds, Vals dvs ds ∧ Binds K fd ["self", "other"] ds) : FunOk P w K mg base (L2.CX P w) 6 (He.ma K (He.ga K "Ratio") "__lt__") ["self", "other"] dvs (spCmp K (He.ga K "Ratio") (He.ga K "BadRatio") (fun i j => decide (i < j))) := by
  refine AtF.okX A0 sc_Ratio___lt__ bnd (fun vs H Q E h => ?_) (fun cdv A out s H vs Q E hr tk h => ?_)
  · obtain ⟨a, x, y, rfl, _⟩ := h; rfl
  · have nd := sc_Ratio___lt__.nd
    refine ⟨_, (pss_cons (ps_set (i := 2) nd rfl (Or.inl rfl) (pe_d Dtold_of (hr.mono (by decide)) (passes_call tk fun _ _ _ _ h => h) (pa_cons (pv 1) pa_nil)))
          (pss_one (ps_ret (pe_cmpR op_lt (pe_op op_mulW (pe_fld (pv 0) rfl) (pe_fld (pv 2) rfl)) (pe_op op_mulW (pe_fld (pv 2) rfl) (pe_fld (pv 0) rfl)) (nomark _))))), ?_⟩
    obtain ⟨a, x, y, rfl, r, s, any, bad, good⟩ := h
    refine ⟨_, rfl, y, rfl, told_num any bad fun p hp b H' e r2 => ?_⟩
    obtain ⟨s2, k⟩ := good p hp
    obtain ⟨dx, h1⟩ := Gs.Rat.ext r e
    obtain ⟨dy, h2⟩ := r2
    exact ⟨_, rfl, a, _, dx, _, _, rfl, h1, RF.cls, RF.over, rfl, _, rfl, b, _, dy, _, _, rfl, h2, RF.cls, RF.under, rfl, _, _, rfl, rfl, wide_mul s.1 s2.2 (by decide) (by decide) (by decide),
      _, rfl, b, _, dy, _, _, rfl, h2, RF.cls, RF.over, rfl, _, rfl, a, _, dx, _, _, rfl, h1, RF.cls, RF.under, rfl, _, _, rfl, rfl, wide_mul s2.1 s.2 (by decide) (by decide) (by decide), _, _, rfl, rfl, k H' e⟩
theorem sc_Ratio___le__ : FnScope ["self", "other", "told"] ["self", "other"] (defScope s_Ratio___le__) := ⟨rfl, rfl, rfl, by decide +kernel, rfl, by decide +kernel, by decide +kernel⟩
theorem d_Ratio___le__ (T : Txt K mg) (RF : RatF K (He.ga K "Ratio")) (Dtold_of : DefOk P w K mg base (L2.CX P w) 5 "told_of" ["value"] [] (spTold K (He.ga K "Ratio") (He.ga K "BadRatio"))) (A0 : AtF K (He.ma K (He.ga K "Ratio") "__le__") "__le__" "Ratio.__le__" s_Ratio___le__ []) {dvs : List V} (bnd : ∀ fd, FunD K "__le__" "Ratio.__le__" (defArgs s_Ratio___le__) (defBody s_Ratio___le__) (defScope s_Ratio___le__) [] [] (He.ma K (He.ga K "Ratio") "__le__") fd → ∃ ds, Vals dvs ds ∧ Binds K fd ["self", "other"] ds) : FunOk P w K mg base (L2.CX P w) 6 (He.ma K (He.ga K "Ratio") "__le__") ["self", "other"] dvs (spCmp K (He.ga K "Ratio") (He.ga K "BadRatio") (fun i j => decide (i ≤ j))) := by
  refine AtF.okX A0 sc_Ratio___le__ bnd (fun vs H Q E h => ?_) (fun cdv A out s H vs Q E hr tk h => ?_)
  · obtain ⟨a, x, y, rfl, _⟩ := h; rfl
  · have nd := sc_Ratio___le__.nd
    refine ⟨_, (pss_cons (ps_set (i := 2) nd rfl (Or.inl rfl) (pe_d Dtold_of (hr.mono (by decide)) (passes_call tk fun _ _ _ _ h => h) (pa_cons (pv 1) pa_nil)))
          (pss_one (ps_ret (pe_cmpR op_le (pe_op op_mulW (pe_fld (pv 0) rfl) (pe_fld (pv 2) rfl)) (pe_op op_mulW (pe_fld (pv 2) rfl) (pe_fld (pv 0) rfl)) (nomark _))))), ?_⟩
    obtain ⟨a, x, y, rfl, r, s, any, bad, good⟩ := h
    refine ⟨_, rfl, y, rfl, told_num any bad fun p hp b H' e r2 => ?_⟩
    obtain ⟨s2, k⟩ := good p hp
    obtain ⟨dx, h1⟩ := Gs.Rat.ext r e
    obtain ⟨dy, h2⟩ := r2
    exact ⟨_, rfl, a, _, dx, _, _, rfl, h1, RF.cls, RF.over, rfl, _, rfl, b, _, dy, _, _, rfl, h2, RF.cls, RF.under, rfl, _, _, rfl, rfl, wide_mul s.1 s2.2 (by decide) (by decide) (by decide),
      _, rfl, b, _, dy, _, _, rfl, h2, RF.cls, RF.over, rfl, _, rfl, a, _, dx, _, _, rfl, h1, RF.cls, RF.under, rfl, _, _, rfl, rfl, wide_mul s2.1 s.2 (by decide) (by decide) (by decide), _, _, rfl, rfl, k H' e⟩
theorem sc_Ratio___gt__ : FnScope ["self", "other", "told"] ["self", "other"] (defScope s_Ratio___gt__) := ⟨rfl, rfl, rfl, by decide +kernel, rfl, by decide +kernel, by decide +kernel⟩
theorem d_Ratio___gt__ (T : Txt K mg) (RF : RatF K (He.ga K "Ratio")) (Dtold_of : DefOk P w K mg base (L2.CX P w) 5 "told_of" ["value"] [] (spTold K (He.ga K "Ratio") (He.ga K "BadRatio"))) (A0 : AtF K (He.ma K (He.ga K "Ratio") "__gt__") "__gt__" "Ratio.__gt__" s_Ratio___gt__ []) {dvs : List V} (bnd : ∀ fd, FunD K "__gt__" "Ratio.__gt__" (defArgs s_Ratio___gt__) (defBody s_Ratio___gt__) (defScope s_Ratio___gt__) [] [] (He.ma K (He.ga K "Ratio") "__gt__") fd → ∃ ds, Vals dvs ds ∧ Binds K fd ["self", "other"] ds) : FunOk P w K mg base (L2.CX P w) 6 (He.ma K (He.ga K "Ratio") "__gt__") ["self", "other"] dvs (spCmp K (He.ga K "Ratio") (He.ga K "BadRatio") (fun i j => decide (i > j))) := by
  refine AtF.okX A0 sc_Ratio___gt__ bnd (fun vs H Q E h => ?_) (fun cdv A out s H vs Q E hr tk h => ?_)
  · obtain ⟨a, x, y, rfl, _⟩ := h; rfl
  · have nd := sc_Ratio___gt__.nd
    refine ⟨_, (pss_cons (ps_set (i := 2) nd rfl (Or.inl rfl) (pe_d Dtold_of (hr.mono (by decide)) (passes_call tk fun _ _ _ _ h => h) (pa_cons (pv 1) pa_nil)))
          (pss_one (ps_ret (pe_cmpR op_gt (pe_op op_mulW (pe_fld (pv 0) rfl) (pe_fld (pv 2) rfl)) (pe_op op_mulW (pe_fld (pv 2) rfl) (pe_fld (pv 0) rfl)) (nomark _))))), ?_⟩
    obtain ⟨a, x, y, rfl, r, s, any, bad, good⟩ := h
    refine ⟨_, rfl, y, rfl, told_num any bad fun p hp b H' e r2 => ?_⟩
    obtain ⟨s2, k⟩ := good p hp
    obtain ⟨dx, h1⟩ := Gs.Rat.ext r e
    obtain ⟨dy, h2⟩ := r2
    exact ⟨_, rfl, a, _, dx, _, _, rfl, h1, RF.cls, RF.over, rfl, _, rfl, b, _, dy, _, _, rfl, h2, RF.cls, RF.under, rfl, _, _, rfl, rfl, wide_mul s.1 s2.2 (by decide) (by decide) (by decide),
      _, rfl, b, _, dy, _, _, rfl, h2, RF.cls, RF.over, rfl, _, rfl, a, _, dx, _, _, rfl, h1, RF.cls, RF.under, rfl, _, _, rfl, rfl, wide_mul s2.1 s.2 (by decide) (by decide) (by decide), _, _, rfl, rfl, k H' e⟩
theorem sc_Ratio___ge__ : FnScope ["self", "other", "told"] ["self", "other"] (defScope s_Ratio___ge__) := ⟨rfl, rfl, rfl, by decide +kernel, rfl, by decide +kernel, by decide +kernel⟩
theorem d_Ratio___ge__ (T : Txt K mg) (RF : RatF K (He.ga K "Ratio")) (Dtold_of : DefOk P w K mg base (L2.CX P w) 5 "told_of" ["value"] [] (spTold K (He.ga K "Ratio") (He.ga K "BadRatio"))) (A0 : AtF K (He.ma K (He.ga K "Ratio") "__ge__") "__ge__" "Ratio.__ge__" s_Ratio___ge__ []) {dvs : List V} (bnd : ∀ fd, FunD K "__ge__" "Ratio.__ge__" (defArgs s_Ratio___ge__) (defBody s_Ratio___ge__) (defScope s_Ratio___ge__) [] [] (He.ma K (He.ga K "Ratio") "__ge__") fd → ∃ ds, Vals dvs ds ∧ Binds K fd ["self", "other"] ds) : FunOk P w K mg base (L2.CX P w) 6 (He.ma K (He.ga K "Ratio") "__ge__") ["self", "other"] dvs (spCmp K (He.ga K "Ratio") (He.ga K "BadRatio") (fun i j => decide (i ≥ j))) := by
  refine AtF.okX A0 sc_Ratio___ge__ bnd (fun vs H Q E h => ?_) (fun cdv A out s H vs Q E hr tk h => ?_)
  · obtain ⟨a, x, y, rfl, _⟩ := h; rfl
  · have nd := sc_Ratio___ge__.nd
    refine ⟨_, (pss_cons (ps_set (i := 2) nd rfl (Or.inl rfl) (pe_d Dtold_of (hr.mono (by decide)) (passes_call tk fun _ _ _ _ h => h) (pa_cons (pv 1) pa_nil)))
          (pss_one (ps_ret (pe_cmpR op_ge (pe_op op_mulW (pe_fld (pv 0) rfl) (pe_fld (pv 2) rfl)) (pe_op op_mulW (pe_fld (pv 2) rfl) (pe_fld (pv 0) rfl)) (nomark _))))), ?_⟩
    obtain ⟨a, x, y, rfl, r, s, any, bad, good⟩ := h
    refine ⟨_, rfl, y, rfl, told_num any bad fun p hp b H' e r2 => ?_⟩
    obtain ⟨s2, k⟩ := good p hp
    obtain ⟨dx, h1⟩ := Gs.Rat.ext r e
    obtain ⟨dy, h2⟩ := r2
    exact ⟨_, rfl, a, _, dx, _, _, rfl, h1, RF.cls, RF.over, rfl, _, rfl, b, _, dy, _, _, rfl, h2, RF.cls, RF.under, rfl, _, _, rfl, rfl, wide_mul s.1 s2.2 (by decide) (by decide) (by decide),
      _, rfl, b, _, dy, _, _, rfl, h2, RF.cls, RF.over, rfl, _, rfl, a, _, dx, _, _, rfl, h1, RF.cls, RF.under, rfl, _, _, rfl, rfl, wide_mul s2.1 s.2 (by decide) (by decide) (by decide), _, _, rfl, rfl, k H' e⟩
end
end K06

set_option maxRecDepth 100000
set_option maxHeartbeats 4000000
namespace K06
open PySem PySem.Spec PyProof.Rows Gs
open L2 hiding Ext paired_get
open C8 (tCut pss_cut)
theorem rat_uniq {C : Addr} {H : Hp} {a : Addr} {x p : PII} (r : Gs.Rat C H a x.1 x.2) (h : RatOf C H (.ref a) p) : p = x := by
  rcases h with ⟨z, _⟩ | ⟨b, z, r2⟩
  · cases z
  · cases z
    obtain ⟨d1, h1⟩ := r
    obtain ⟨d2, h2⟩ := r2
    rw [h1] at h2
    cases x
    cases p
    cases h2
    rfl
theorem self_wants {K : PySem.W.Frag} {C CB : Addr} {H : Hp} {a : Addr} {x : PII} {E : XK} {good : PII → Prop} (r : Gs.Rat C H a x.1 x.2) (g : good x) : Wants K C CB H (.ref a) E good :=
  ⟨.rat r, (fun z => by rw [Gs.Rat.is _ r] at z; cases z), fun p hp => by rw [rat_uniq r hp]; exact g⟩
section
variable {P : Program} {w : World} {K : PySem.W.Frag} {mg : Str → Option Value} {base : Heap}
theorem sc_Ratio___floordiv__ : FnScope ["self", "other"] ["self", "other"] (defScope s_Ratio___floordiv__) := ⟨rfl, rfl, rfl, by decide +kernel, rfl, by decide +kernel, by decide +kernel⟩
theorem d_Ratio___floordiv__ (T : Txt K mg) (RF : RatF K (He.ga K "Ratio")) (Dquotient : DefOk P w K mg base CX0 1 "quotient" ["one", "other"] [] (spQuo (He.ga K "Ratio"))) (Dabove : DefOk P w K mg base (L2.CX P w) 6 "above" ["value"] [] (spAbv K (He.ga K "Ratio") (He.ga K "BadRatio")))  (A0 : AtF K (He.ma K (He.ga K "Ratio") "__floordiv__") "__floordiv__" "Ratio.__floordiv__" s_Ratio___floordiv__ []) {dvs : List V} (bnd : ∀ fd, FunD K "__floordiv__" "Ratio.__floordiv__" (defArgs s_Ratio___floordiv__) (defBody s_Ratio___floordiv__) (defScope s_Ratio___floordiv__) [] [] (He.ma K (He.ga K "Ratio") "__floordiv__") fd → ∃ ds, Vals dvs ds ∧ Binds K fd ["self", "other"] ds) : FunOk P w K mg base (L2.CX P w) 7 (He.ma K (He.ga K "Ratio") "__floordiv__") ["self", "other"] dvs (spDivL K (He.ga K "Ratio") (He.ga K "BadRatio") GQuo) := by
  refine AtF.okX A0 sc_Ratio___floordiv__ bnd (fun vs H Q E h => ?_) (fun cdv A out s H vs Q E hr tk h => ?_)
  · obtain ⟨a, x, y, rfl, _⟩ := h; rfl
  · have nd := sc_Ratio___floordiv__.nd
    refine ⟨_, (pss_one (ps_ret (pe_d Dquotient (hr.mono (by decide)) pass0 (pa_cons (pv 0) (pa_cons (pe_d Dabove (hr.mono (by decide)) (passes_call tk fun _ _ _ _ h => h) (pa_cons (pv 1) pa_nil)) pa_nil))))), ?_⟩
    obtain ⟨a, x, y, rfl, r, s, px, any, bad, good⟩ := h
    refine ⟨_, rfl, _, rfl, y, rfl, any, bad, fun p hp => ?_⟩
    obtain ⟨s2, p2, k1, k2⟩ := good p hp
    exact ⟨k1, fun z b H' e rb => ⟨a, b, x, p, rfl, Gs.Rat.ext r e, rb, s, s2, Int.mul_ne_zero (by omega) (by omega),  k2 z H' e⟩⟩
theorem sc_Ratio___rfloordiv__ : FnScope ["self", "other"] ["self", "other"] (defScope s_Ratio___rfloordiv__) := ⟨rfl, rfl, rfl, by decide +kernel, rfl, by decide +kernel, by decide +kernel⟩
theorem d_Ratio___rfloordiv__ (T : Txt K mg) (RF : RatF K (He.ga K "Ratio")) (Dquotient : DefOk P w K mg base CX0 1 "quotient" ["one", "other"] [] (spQuo (He.ga K "Ratio"))) (Dabove : DefOk P w K mg base (L2.CX P w) 6 "above" ["value"] [] (spAbv K (He.ga K "Ratio") (He.ga K "BadRatio"))) (Dtold_of : DefOk P w K mg base (L2.CX P w) 5 "told_of" ["value"] [] (spTold K (He.ga K "Ratio") (He.ga K "BadRatio"))) (A0 : AtF K (He.ma K (He.ga K "Ratio") "__rfloordiv__") "__rfloordiv__" "Ratio.__rfloordiv__" s_Ratio___rfloordiv__ []) {dvs : List V} (bnd : ∀ fd, FunD K "__rfloordiv__" "Ratio.__rfloordiv__" (defArgs s_Ratio___rfloordiv__) (defBody s_Ratio___rfloordiv__) (defScope s_Ratio___rfloordiv__) [] [] (He.ma K (He.ga K "Ratio") "__rfloordiv__") fd → ∃ ds, Vals dvs ds ∧ Binds K fd ["self", "other"] ds) : FunOk P w K mg base (L2.CX P w) 7 (He.ma K (He.ga K "Ratio") "__rfloordiv__") ["self", "other"] dvs (spDivR K (He.ga K "Ratio") (He.ga K "BadRatio") GQuo) := by
  refine AtF.okX A0 sc_Ratio___rfloordiv__ bnd (fun vs H Q E h => ?_) (fun cdv A out s H vs Q E hr tk h => ?_)
  · obtain ⟨a, x, y, rfl, _⟩ := h; rfl
  · have nd := sc_Ratio___rfloordiv__.nd
    refine ⟨_, (pss_one (ps_ret (pe_d Dquotient (hr.mono (by decide)) pass0 (pa_cons (pe_d Dtold_of (hr.mono (by decide)) (passes_call tk fun _ _ _ _ h => h) (pa_cons (pv 1) pa_nil)) (pa_cons (pe_d Dabove (hr.mono (by decide)) (passes_call tk fun _ _ _ _ h => h) (pa_cons (pv 0) pa_nil)) pa_nil))))), ?_⟩
    obtain ⟨a, x, y, rfl, r, s, px, any, bad, good⟩ := h
    refine ⟨_, rfl, y, rfl, told_num any bad fun p hp b H' e rb => ?_⟩
    obtain ⟨s2, p2, k1, k2⟩ := good p hp
    have r' := Gs.Rat.ext r e
    refine ⟨_, rfl, .ref a, rfl, self_wants r' ⟨fun z => (k1 z).up e, fun z c H2 e2 rc => ?_⟩⟩
    exact ⟨b, c, p, x, rfl, Gs.Rat.ext rb e2, rc, s2, s, Int.mul_ne_zero (by omega) (by omega),  k2 z H2 (e.trans e2)⟩
theorem sc_Ratio___mod__ : FnScope ["self", "other"] ["self", "other"] (defScope s_Ratio___mod__) := ⟨rfl, rfl, rfl, by decide +kernel, rfl, by decide +kernel, by decide +kernel⟩
theorem d_Ratio___mod__ (T : Txt K mg) (RF : RatF K (He.ga K "Ratio")) (Dremainder : DefOk P w K mg base CX0 5 "remainder" ["one", "other"] [] (spRem (He.ga K "Ratio"))) (Dabove : DefOk P w K mg base (L2.CX P w) 6 "above" ["value"] [] (spAbv K (He.ga K "Ratio") (He.ga K "BadRatio")))  (A0 : AtF K (He.ma K (He.ga K "Ratio") "__mod__") "__mod__" "Ratio.__mod__" s_Ratio___mod__ []) {dvs : List V} (bnd : ∀ fd, FunD K "__mod__" "Ratio.__mod__" (defArgs s_Ratio___mod__) (defBody s_Ratio___mod__) (defScope s_Ratio___mod__) [] [] (He.ma K (He.ga K "Ratio") "__mod__") fd → ∃ ds, Vals dvs ds ∧ Binds K fd ["self", "other"] ds) : FunOk P w K mg base (L2.CX P w) 7 (He.ma K (He.ga K "Ratio") "__mod__") ["self", "other"] dvs (spDivL K (He.ga K "Ratio") (He.ga K "BadRatio") GRem) := by
  refine AtF.okX A0 sc_Ratio___mod__ bnd (fun vs H Q E h => ?_) (fun cdv A out s H vs Q E hr tk h => ?_)
  · obtain ⟨a, x, y, rfl, _⟩ := h; rfl
  · have nd := sc_Ratio___mod__.nd
    refine ⟨_, (pss_one (ps_ret (pe_d Dremainder (hr.mono (by decide)) pass0 (pa_cons (pv 0) (pa_cons (pe_d Dabove (hr.mono (by decide)) (passes_call tk fun _ _ _ _ h => h) (pa_cons (pv 1) pa_nil)) pa_nil))))), ?_⟩
    obtain ⟨a, x, y, rfl, r, s, px, any, bad, good⟩ := h
    refine ⟨_, rfl, _, rfl, y, rfl, any, bad, fun p hp => ?_⟩
    obtain ⟨s2, p2, k1, k2⟩ := good p hp
    exact ⟨k1, fun z b H' e rb => ⟨a, b, x, p, rfl, Gs.Rat.ext r e, rb, s, s2, Int.mul_ne_zero (by omega) (by omega), Int.mul_ne_zero (by omega) (by omega), k2 z H' e⟩⟩
theorem sc_Ratio___rmod__ : FnScope ["self", "other"] ["self", "other"] (defScope s_Ratio___rmod__) := ⟨rfl, rfl, rfl, by decide +kernel, rfl, by decide +kernel, by decide +kernel⟩
theorem d_Ratio___rmod__ (T : Txt K mg) (RF : RatF K (He.ga K "Ratio")) (Dremainder : DefOk P w K mg base CX0 5 "remainder" ["one", "other"] [] (spRem (He.ga K "Ratio"))) (Dabove : DefOk P w K mg base (L2.CX P w) 6 "above" ["value"] [] (spAbv K (He.ga K "Ratio") (He.ga K "BadRatio"))) (Dtold_of : DefOk P w K mg base (L2.CX P w) 5 "told_of" ["value"] [] (spTold K (He.ga K "Ratio") (He.ga K "BadRatio"))) (A0 : AtF K (He.ma K (He.ga K "Ratio") "__rmod__") "__rmod__" "Ratio.__rmod__" s_Ratio___rmod__ []) {dvs : List V} (bnd : ∀ fd, FunD K "__rmod__" "Ratio.__rmod__" (defArgs s_Ratio___rmod__) (defBody s_Ratio___rmod__) (defScope s_Ratio___rmod__) [] [] (He.ma K (He.ga K "Ratio") "__rmod__") fd → ∃ ds, Vals dvs ds ∧ Binds K fd ["self", "other"] ds) : FunOk P w K mg base (L2.CX P w) 7 (He.ma K (He.ga K "Ratio") "__rmod__") ["self", "other"] dvs (spDivR K (He.ga K "Ratio") (He.ga K "BadRatio") GRem) := by
  refine AtF.okX A0 sc_Ratio___rmod__ bnd (fun vs H Q E h => ?_) (fun cdv A out s H vs Q E hr tk h => ?_)
  · obtain ⟨a, x, y, rfl, _⟩ := h; rfl
  · have nd := sc_Ratio___rmod__.nd
    refine ⟨_, (pss_one (ps_ret (pe_d Dremainder (hr.mono (by decide)) pass0 (pa_cons (pe_d Dtold_of (hr.mono (by decide)) (passes_call tk fun _ _ _ _ h => h) (pa_cons (pv 1) pa_nil)) (pa_cons (pe_d Dabove (hr.mono (by decide)) (passes_call tk fun _ _ _ _ h => h) (pa_cons (pv 0) pa_nil)) pa_nil))))), ?_⟩
    obtain ⟨a, x, y, rfl, r, s, px, any, bad, good⟩ := h
    refine ⟨_, rfl, y, rfl, told_num any bad fun p hp b H' e rb => ?_⟩
    obtain ⟨s2, p2, k1, k2⟩ := good p hp
    have r' := Gs.Rat.ext r e
    refine ⟨_, rfl, .ref a, rfl, self_wants r' ⟨fun z => (k1 z).up e, fun z c H2 e2 rc => ?_⟩⟩
    exact ⟨b, c, p, x, rfl, Gs.Rat.ext rb e2, rc, s2, s, Int.mul_ne_zero (by omega) (by omega), Int.mul_ne_zero (by omega) (by omega), k2 z H2 (e.trans e2)⟩
theorem sc_Ratio___eq__ : FnScope ["self", "other"] ["self", "other"] (defScope s_Ratio___eq__) := ⟨rfl, rfl, rfl, by decide +kernel, rfl, by decide +kernel, by decide +kernel⟩
theorem d_Ratio___eq__ (T : Txt K mg) (RF : RatF K (He.ga K "Ratio"))  (A0 : AtF K (He.ma K (He.ga K "Ratio") "__eq__") "__eq__" "Ratio.__eq__" s_Ratio___eq__ []) {dvs : List V} (bnd : ∀ fd, FunD K "__eq__" "Ratio.__eq__" (defArgs s_Ratio___eq__) (defBody s_Ratio___eq__) (defScope s_Ratio___eq__) [] [] (He.ma K (He.ga K "Ratio") "__eq__") fd → ∃ ds, Vals dvs ds ∧ Binds K fd ["self", "other"] ds) : FunOk P w K mg base CX0 1 (He.ma K (He.ga K "Ratio") "__eq__") ["self", "other"] dvs (spEqR K (He.ga K "Ratio")) := by
  refine AtF.ok0 A0 sc_Ratio___eq__ bnd (fun vs H Q E h => ?_) (fun cdv A out s H vs Q E hr h => ?_)
  · obtain ⟨a, n, d, y, rfl, _⟩ := h; rfl
  · have nd := sc_Ratio___eq__.nd
    refine ⟨_, (pss_one (ps_ret (pe_and (pe_callB call_isi (by rfl) T.f_isinstance (by decide +kernel) (pa_cons (pv 1) (pa_cons (pe_glob (v := .ref (He.ga K "Ratio")) (by rfl) T.c_Ratio rfl) pa_nil))) (pe_and (pe_cmpR op_eq (pe_fld (pv 0) rfl) (pe_fld (pv 1) rfl) (nomark _)) (pe_one (pe_cmpR op_eq (pe_fld (pv 0) rfl) (pe_fld (pv 1) rfl) (nomark _))))))), ?_⟩
    obtain ⟨a, n, d, y, rfl, ra, any, k1, k2⟩ := h
    obtain ⟨ho, t, ty, kt⟩ := any.odd RF
    refine ⟨_, rfl, _, _, t, _, _, rfl, .own _, ty, kt, _, rfl, ?_⟩
    cases hv : vRat (He.ga K "Ratio") H y with
    | false => exact k2 hv
    | true =>
      obtain ⟨b, n', d', rfl, rb⟩ := vrat_at any hv
      have k := k1 b n' d' rfl rb
      obtain ⟨dx, ra⟩ := ra
      obtain ⟨dy, rb⟩ := rb
      refine ⟨_, rfl, a, _, dx, _, _, rfl, ra, RF.cls, RF.over, rfl, _, rfl, b, _, dy, _, _, rfl, rb, RF.cls, RF.over, rfl, rfl, _, rfl, ?_⟩
      have e1 : decide (V.int n = V.int n') = decide (n = n') := by
        by_cases z : n = n'
        · rw [z, decide_eq_true rfl, decide_eq_true rfl]
        · rw [decide_eq_false z, decide_eq_false fun q => z (V.int.inj q)]
      have e2 : decide (V.int d = V.int d') = decide (d = d') := by
        by_cases z : d = d'
        · rw [z, decide_eq_true rfl, decide_eq_true rfl]
        · rw [decide_eq_false z, decide_eq_false fun q => z (V.int.inj q)]
      rw [e1]
      by_cases z : n = n'
      · rw [decide_eq_true z] at k ⊢
        refine iteT ⟨_, rfl, a, _, dx, _, _, rfl, ra, RF.cls, RF.under, rfl, _, rfl, b, _, dy, _, _, rfl, rb, RF.cls, RF.under, rfl, rfl, ?_⟩
        rw [e2]
        exact k
      · rw [decide_eq_false z] at k ⊢
        exact iteF k
theorem dC_Ratio___eq__ (T : Txt K mg) (RF : RatF K (He.ga K "Ratio"))  (A0 : AtF K (He.ma K (He.ga K "Ratio") "__eq__") "__eq__" "Ratio.__eq__" s_Ratio___eq__ []) : FunC P w K mg base 1 (He.ma K (He.ga K "Ratio") "__eq__") ["self", "other"] (spEqR K (He.ga K "Ratio")) := by
  refine AtF.okC A0 sc_Ratio___eq__ (fun fd F => F.bindsN fun _ _ _ _ _ _ us hl => match us, hl with | [_, _], _ => rfl) (fun vs H Q E h => ?_) (fun cdv A out s H vs Q E p hr h => ?_)
  · obtain ⟨a, n, d, y, rfl, _⟩ := h; rfl
  · have nd := sc_Ratio___eq__.nd
    refine ⟨_, (pss_one (ps_ret (pe_and (pe_callB call_isi (by rfl) T.f_isinstance (by decide +kernel) (pa_cons (pv 1) (pa_cons (pe_glob (v := .ref (He.ga K "Ratio")) (by rfl) T.c_Ratio rfl) pa_nil))) (pe_and (pe_cmpR op_eq (pe_fld (pv 0) rfl) (pe_fld (pv 1) rfl) (nomark _)) (pe_one (pe_cmpR op_eq (pe_fld (pv 0) rfl) (pe_fld (pv 1) rfl) (nomark _))))))), ?_⟩
    obtain ⟨a, n, d, y, rfl, ra, any, k1, k2⟩ := h
    obtain ⟨ho, t, ty, kt⟩ := any.odd RF
    refine ⟨_, rfl, _, _, t, _, _, rfl, .own _, ty, kt, _, rfl, ?_⟩
    cases hv : vRat (He.ga K "Ratio") H y with
    | false => exact k2 hv
    | true =>
      obtain ⟨b, n', d', rfl, rb⟩ := vrat_at any hv
      have k := k1 b n' d' rfl rb
      obtain ⟨dx, ra⟩ := ra
      obtain ⟨dy, rb⟩ := rb
      refine ⟨_, rfl, a, _, dx, _, _, rfl, ra, RF.cls, RF.over, rfl, _, rfl, b, _, dy, _, _, rfl, rb, RF.cls, RF.over, rfl, rfl, _, rfl, ?_⟩
      have e1 : decide (V.int n = V.int n') = decide (n = n') := by
        by_cases z : n = n'
        · rw [z, decide_eq_true rfl, decide_eq_true rfl]
        · rw [decide_eq_false z, decide_eq_false fun q => z (V.int.inj q)]
      have e2 : decide (V.int d = V.int d') = decide (d = d') := by
        by_cases z : d = d'
        · rw [z, decide_eq_true rfl, decide_eq_true rfl]
        · rw [decide_eq_false z, decide_eq_false fun q => z (V.int.inj q)]
      rw [e1]
      by_cases z : n = n'
      · rw [decide_eq_true z] at k ⊢
        refine iteT ⟨_, rfl, a, _, dx, _, _, rfl, ra, RF.cls, RF.under, rfl, _, rfl, b, _, dy, _, _, rfl, rb, RF.cls, RF.under, rfl, rfl, ?_⟩
        rw [e2]
        exact k
      · rw [decide_eq_false z] at k ⊢
        exact iteF k
end
end K06

set_option maxRecDepth 100000
set_option maxHeartbeats 4000000
namespace K06
open PySem PySem.Spec PyProof.Rows Gs
open L2 hiding Ext paired_get
open C8 (tCut pss_cut)
def spNear : Sp := fun vs H Q _ => ∃ (p c : Addr) (n : Nat) (q : Addr) (t b : Int), vs = [.ref p, .ref q] ∧ Pen H p c n ∧ n ≤ 999990 ∧ H q = some (.tup [.int t, .int b]) ∧ b ≠ 0 ∧ (t.natAbs < 2 ^ 100 ∧ b.natAbs < 2 ^ 100) ∧
  ∀ (q' : Addr) (t' b' : Int) H', H' q' = some (.tup [.int t', .int b']) → q' ≠ p → b' ≠ 0 → t'.natAbs < 2 ^ 200 → b'.natAbs < 2 ^ 200 → Pen H' p c (n + 1) → But p H H' → Q (.ref q') H'
section
variable {P : Program} {w : World} {K : PySem.W.Frag} {mg : Str → Option Value} {base : Heap}
theorem sc__law_near : FnScope ["pen", "pair", "top", "bottom", "some"] ["pen", "pair"] (defScope s__law_near) := ⟨rfl, rfl, rfl, by decide +kernel, rfl, by decide +kernel, by decide +kernel⟩
theorem d__law_near (T : Txt K mg) (D_law_pick : DefOk P w K mg base CX0 2 "_law_pick" ["pen", "some"] [] (spPick K)) (A0 : At K mg "_law_near" s__law_near) : DefOk P w K mg base CX0 3 "_law_near" ["pen", "pair"] [] spNear := by
  refine At.ok A0 sc__law_near (fun _ _ F => F.bindsN fun _ _ _ _ _ _ us hl => match us, hl with | [_, _], _ => rfl) (fun vs H Q E h => ?_) (fun f cdv A out s H vs Q E hr h => ?_)
  · obtain ⟨p, c, n, q, t, b, rfl, _⟩ := h; rfl
  · have nd := sc__law_near.nd
    refine ⟨_, (pss_cons (ps_asg (pv 1) (pg_tup (by rfl) (pgs_cons (pg_name (i := 2) nd rfl (Or.inl rfl)) (pgs_cons (pg_name (i := 3) nd rfl (Or.inl rfl)) pgs_nil))))
          (pss_cons (ps_set (i := 4) nd rfl (Or.inl rfl) (pe_lst (pa_cons (pe_tup (pa_cons (pe_op op_mulW pe_int (pv 2)) (pa_cons (pe_op op_mulW pe_int (pv 3)) pa_nil))) (pa_cons (pe_tup (pa_cons (pe_op op_add (pe_op op_mulW (pv 2) (pe_op op_pow pe_int pe_int)) pe_int) (pa_cons (pe_op op_mulW (pv 3) (pe_op op_pow pe_int pe_int)) pa_nil))) (pa_cons (pe_tup (pa_cons (pe_op op_add (pv 2) (pv 3)) (pa_cons (pv 3) pa_nil))) (pa_cons (pe_tup (pa_cons (pe_un un_neg (pv 2)) (pa_cons (pv 3) pa_nil))) pa_nil))))))
          (pss_one (ps_ret (pe_d D_law_pick (hr.mono (by decide)) pass0 (pa_cons (pv 0) (pa_cons (pv 4) pa_nil))))))), ?_⟩
    obtain ⟨p, c, n, q, t, b, rfl, P, hn, hq, b0, ⟨ht, hb⟩, k⟩ := h
    refine ⟨_, rfl, q, _, rfl, .inl (.inl hq), rfl, _, _, rfl, _, _, rfl, rfl, ?_⟩
    have t12 : ((10 : Int) ^ (12 : Int).toNat).natAbs < 2 ^ 40 := by decide +kernel
    refine ⟨_, rfl, _, _, rfl, rfl, wide_mul (show (5 : Int).natAbs < 2 ^ 3 by decide) ht (by decide) (by decide) (by decide), _, rfl, _, _, rfl, rfl, wide_mul (show (5 : Int).natAbs < 2 ^ 3 by decide) hb (by decide) (by decide) (by decide), by show 2 ≤ sizeLine; decide, fun u1 w1 => ?_⟩
    refine ⟨_, rfl, _, _, rfl, rfl, ⟨by decide, by decide, by decide⟩, _, _, rfl, rfl, wide_mul ht t12 (by decide) (by decide) (by decide), _, _, rfl, rfl, _, rfl, _, _, rfl, rfl, ⟨by decide, by decide, by decide⟩, _, _, rfl, rfl, wide_mul hb t12 (by decide) (by decide) (by decide), by show 2 ≤ sizeLine; decide, fun u2 w2 => ?_⟩
    refine ⟨_, rfl, _, rfl, _, _, rfl, rfl, _, rfl, by show 2 ≤ sizeLine; decide, fun u3 w3 => ?_⟩
    refine ⟨_, rfl, _, rfl, _, rfl, by show 2 ≤ sizeLine; decide, fun u4 w4 => ?_⟩
    refine ⟨by show 4 ≤ sizeLine; decide, fun l w5 => ?_⟩
    have P1 := P.new (o := .tup [.int (5 * t), .int (5 * b)]) w1
    have P2 := P1.new (o := .tup [.int (t * 10 ^ (12 : Int).toNat + 1), .int (b * 10 ^ (12 : Int).toNat)]) w2
    have P3 := P2.new (o := .tup [.int (t + b), .int b]) w3
    have P4 := P3.new (o := .tup [.int (-t), .int b]) w4
    have e2 := ext_new (o := .tup [.int (t * 10 ^ (12 : Int).toNat + 1), .int (b * 10 ^ (12 : Int).toNat)]) w2
    have e3 := ext_new (o := .tup [.int (t + b), .int b]) w3
    have e4 := ext_new (o := .tup [.int (-t), .int b]) w4
    have e5 := ext_new (o := .lst [.ref u1, .ref u2, .ref u3, .ref u4]) w5
    have ee := (((ext_new (o := .tup [.int (5 * t), .int (5 * b)]) w1).trans e2).trans e3).trans e4 |>.trans e5
    refine ⟨_, rfl, _, rfl, p, c, l, n, _, rfl, P4.new w5, by omega, SqL.of upd_same, P4.np w5, by simp, by show 4 < 1000000; decide, fun i x H' hx P' B' => ?_⟩
    have BB := ee.but.trans B'
    have z1 := B' _ _ (e5 _ _ (e4 _ _ (e3 _ _ (e2 _ _ upd_same)))) (P.np w1)
    have z2 := B' _ _ (e5 _ _ (e4 _ _ (e3 _ _ upd_same))) (P1.np w2)
    have z3 := B' _ _ (e5 _ _ (e4 _ _ upd_same)) (P2.np w3)
    have z4 := B' _ _ (e5 _ _ upd_same) (P3.np w4)
    have le : ∀ {a : Nat} {i : Int}, i.natAbs < 2 ^ a → a ≤ 200 → i.natAbs < 2 ^ 200 := fun h z => Nat.lt_of_lt_of_le h (Nat.pow_le_pow_right (by decide) z)
    have hm := List.mem_of_getElem? hx
    simp only [List.mem_cons, List.not_mem_nil, or_false] at hm
    rcases hm with rfl | rfl | rfl | rfl
    · exact k u1 _ _ H' z1 (P.np w1) (by omega) (le (mul_lt (show (5 : Int).natAbs < 2 ^ 3 by decide) ht) (by decide)) (le (mul_lt (show (5 : Int).natAbs < 2 ^ 3 by decide) hb) (by decide)) P' BB
    · refine k u2 _ _ H' z2 (P1.np w2) (Int.mul_ne_zero b0 (by decide +kernel)) ?_ (le (mul_lt hb t12) (by decide)) P' BB
      have h1 := mul_lt ht t12
      generalize t * 10 ^ (12 : Int).toNat = z at h1 ⊢
      have h2 : (2 : Nat) ^ (100 + 40) + 1 < 2 ^ 200 := by decide +kernel
      generalize (2 : Nat) ^ (100 + 40) = N at h1 h2
      generalize (2 : Nat) ^ 200 = M at h2 ⊢
      omega
    · refine k u3 _ _ H' z3 (P2.np w3) b0 ?_ (le hb (by decide)) P' BB
      have h2 : (2 : Nat) ^ 100 + 2 ^ 100 < 2 ^ 200 := by decide +kernel
      generalize (2 : Nat) ^ 100 = N at ht hb h2
      generalize (2 : Nat) ^ 200 = M at h2 ⊢
      omega
    · refine k u4 _ _ H' z4 (P3.np w4) b0 ?_ (le hb (by decide)) P' BB
      rw [Int.natAbs_neg]
      exact le ht (by decide)
end
end K06

set_option maxRecDepth 100000
set_option maxHeartbeats 4000000
namespace K06
open PySem PySem.Spec PyProof.Rows Gs
open L2 hiding Ext paired_get
open C8 (tCut pss_cut)
def RR (x : PII) : PII := (rN x.1 x.2, rD x.1 x.2)
def isRf : V → Bool
  | .ref _ => true
  | _ => false
theorem ratOf_uniq {C : Addr} {H : Hp} {v : V} {x p : PII} (h : RatOf C H v x) (h' : RatOf C H v p) : p = x := by
  rcases h with ⟨rfl, e⟩ | ⟨a, rfl, r⟩
  · rcases h' with ⟨z, e'⟩ | ⟨b, z, _⟩
    · exact Prod.ext (V.int.inj z).symm (e'.trans e.symm)
    · cases z
  · exact rat_uniq r h'
theorem num_wants {K : PySem.W.Frag} {C CB : Addr} {H : Hp} {v : V} {x : PII} {E : XK} {good : PII → Prop} (r : RatOf C H v x) (g : good x) : Wants K C CB H v E good := by
  refine ⟨r.any, fun z1 z2 => ?_, fun p hp => by rw [ratOf_uniq r hp]; exact g⟩
  rcases r with ⟨rfl, _⟩ | ⟨a, rfl, r⟩
  · cases z2
  · rw [Gs.Rat.is _ r] at z1
    cases z1
theorem num_ty {K : PySem.W.Frag} {C : Addr} {H : Hp} {v : V} {x : PII} (RF : RatF K C) (NF : ∀ T ∈ T7, PySem.W.subIn K (.type T) (.ref C) = some false) (r : RatOf C H v x) : ∃ t, TyX K H v t ∧ PySem.W.notFirst K C t = true ∧ PySem.W.kitOne K t (.ref C) = some (isRf v) := by
  rcases r with ⟨rfl, _⟩ | ⟨a, rfl, r⟩
  · exact ⟨.type "int", .base (.int _), by simp [PySem.W.notFirst, NF "int" (by decide)], RF.un "int" (by decide)⟩
  · exact ⟨.ref C, r.ty RF, by simp [PySem.W.notFirst], RF.self⟩
section
variable {K : PySem.W.Frag} {C CB : Addr} {H : Hp} {v1 v2 : V} {x y : PII} {Q : VK} {E : XK}
theorem cmp_go {op : CmpOp} {f f' : Int → Int → Bool} (RF : RatF K C) (NF : ∀ T ∈ T7, PySem.W.subIn K (.type T) (.ref C) = some false) (r1 : RatOf C H v1 x) (r2 : RatOf C H v2 y) (hb : isRf v1 = true ∨ isRf v2 = true) (s1 : Sm x) (s2 : Sm y) (cd : CDec op "int") (hf : ∀ i j, f i j = f' j i)
    (k : ∀ H', Gs.Ext H H' → Q (.bl (f (x.1 * y.2) (y.1 * x.2))) H') : rCmpO K C (spCmp K C CB f) E v1 v2 H Q ∨ rCmpR K C op (spCmp K C CB f') E v1 v2 H Q := by
  rcases id r1 with ⟨rfl, e1⟩ | ⟨a, rfl, ra⟩
  · rcases id r2 with ⟨rfl, e2⟩ | ⟨b, rfl, rb⟩
    · rcases hb with z | z <;> cases z
    · obtain ⟨dy, hy⟩ := id rb
      refine .inr ⟨b, dy, _, "int", rfl, hy, .int _, cd, b, y, _, rfl, rb, s2, num_wants r1 ⟨s1, fun H' e => ?_⟩⟩
      rw [← hf]
      exact k H' e
  · obtain ⟨dx, hx⟩ := id ra
    obtain ⟨t, ty, nf, _⟩ := num_ty RF NF r2
    exact .inl ⟨a, dx, _, t, rfl, hx, ty, nf, a, x, v2, rfl, ra, s1, num_wants r2 ⟨s2, fun H' e => k H' e⟩⟩
def sameB (v1 v2 : V) (x y : PII) : Bool := isRf v1 && (isRf v2 && (decide (x.1 = y.1) && decide (x.2 = y.2)))
theorem eq_sp {w : V} {a : Addr} {z : PII} {R : Bool → Prop} (ra : Gs.Rat C H a x.1 x.2) (r2 : RatOf C H w z) (k : Q (.bl (isRf w && (decide (x.1 = z.1) && decide (x.2 = z.2)))) H) : spEqR K C [.ref a, w] H Q E := by
  refine ⟨a, x.1, x.2, w, rfl, ra, r2.any, fun b n' d' e rb => ?_, fun e => ?_⟩
  · subst e
    have := ratOf_uniq r2 (p := (n', d')) (.inr ⟨b, rfl, rb⟩)
    subst this
    exact k
  · rcases r2 with ⟨rfl, _⟩ | ⟨b, rfl, rb⟩
    · exact k
    · rw [Gs.Rat.is _ rb] at e
      cases e
theorem eq_go (RF : RatF K C) (NF : ∀ T ∈ T7, PySem.W.subIn K (.type T) (.ref C) = some false) (r1 : RatOf C H v1 x) (r2 : RatOf C H v2 y) (hb : isRf v1 = true ∨ isRf v2 = true) (k : Q (.bl (sameB v1 v2 x y)) H) :
    rCmpO K C (spEqR K C) E v1 v2 H Q ∨ rCmpR K C .Eq (spEqR K C) E v1 v2 H Q := by
  rcases id r1 with ⟨rfl, e1⟩ | ⟨a, rfl, ra⟩
  · rcases id r2 with ⟨rfl, e2⟩ | ⟨b, rfl, rb⟩
    · rcases hb with z | z <;> cases z
    · obtain ⟨dy, hy⟩ := id rb
      exact .inr ⟨b, dy, _, "int", rfl, hy, .int _, cdec_int_eq, eq_sp (R := fun _ => True) rb r1 k⟩
  · obtain ⟨dx, hx⟩ := id ra
    obtain ⟨t, ty, nf, _⟩ := num_ty RF NF r2
    exact .inl ⟨a, dx, _, t, rfl, hx, ty, nf, eq_sp (R := fun _ => True) ra r2 k⟩
theorem ne_go (RF : RatF K C) (NF : ∀ T ∈ T7, PySem.W.subIn K (.type T) (.ref C) = some false) (r1 : RatOf C H v1 x) (r2 : RatOf C H v2 y) (hb : isRf v1 = true ∨ isRf v2 = true) (k : Q (.bl (!sameB v1 v2 x y)) H) :
    rNeO K C (spEqR K C) E v1 v2 H Q ∨ rNeR K C (spEqR K C) E v1 v2 H Q := by
  rcases id r1 with ⟨rfl, e1⟩ | ⟨a, rfl, ra⟩
  · rcases id r2 with ⟨rfl, e2⟩ | ⟨b, rfl, rb⟩
    · rcases hb with z | z <;> cases z
    · obtain ⟨dy, hy⟩ := id rb
      exact .inr ⟨b, dy, _, "int", rfl, hy, .int _, cdec_int_ne, eq_sp (R := fun _ => True) rb r1 ⟨_, rfl, k⟩⟩
  · obtain ⟨dx, hx⟩ := id ra
    obtain ⟨t, ty, nf, _⟩ := num_ty RF NF r2
    exact .inl ⟨a, dx, _, t, rfl, hx, ty, nf, eq_sp (R := fun _ => True) ra r2 ⟨_, rfl, k⟩⟩
end
theorem rr_eq {x y : PII} (h1 : x.2 ≠ 0) (h2 : y.2 ≠ 0) : (decide ((RR x).1 = (RR y).1) && decide ((RR x).2 = (RR y).2)) = decide ((RR x).1 * (RR y).2 = (RR y).1 * (RR x).2) := by
  rw [Bool.eq_iff_iff]
  simp only [Bool.and_eq_true, decide_eq_true_eq]
  exact (red_eq (r_pos _ h1) (r_pos _ h2) (r_cop _ h1) (r_cop _ h2)).symm
theorem lt200 {i : Int} (h : i.natAbs < 2 ^ 100) : i.natAbs < 2 ^ 200 := Nat.lt_of_lt_of_le h (Nat.pow_le_pow_right (by decide) (by decide))
theorem fine6 : ∀ b1 b2 b3 b4 b5 b6 : Bool, Fine (.list [.bool b1, .bool b2, .bool b3, .bool b4, .bool b5, .bool b6]) := by
  unfold Fine
  decide +kernel
theorem dec_V {i j : Int} : decide (V.int i = V.int j) = decide (i = j) := by
  by_cases z : i = j
  · rw [z, decide_eq_true rfl, decide_eq_true rfl]
  · rw [decide_eq_false z, decide_eq_false fun q => z (V.int.inj q)]
theorem sameB_eq {v1 v2 : V} {x y : PII} (h1 : x.2 ≠ 0) (h2 : y.2 ≠ 0) : sameB v1 v2 (RR x) (RR y) = (decide ((RR x).1 * (RR y).2 = (RR y).1 * (RR x).2) && (isRf v1 && isRf v2)) := by
  unfold sameB
  rw [rr_eq h1 h2]
  cases isRf v1 <;> cases isRf v2 <;> simp
abbrev bl4 (x y : PII) : List V := [.bl (decide (x.1 * y.2 < y.1 * x.2)), .bl (decide (x.1 * y.2 ≤ y.1 * x.2)), .bl (decide (x.1 * y.2 > y.1 * x.2)), .bl (decide (x.1 * y.2 ≥ y.1 * x.2))]
abbrev bl2 (s : Bool) : List V := [.bl s, .bl (!s)]
def spRight : Sp := fun vs H Q _ => ∃ (p c : Addr) (n : Nat), vs = [.ref p] ∧ Pen H p c n ∧ n ≤ 999900 ∧ ∀ H', Pen H' p c (n + 20) → But p H H' → Q (.bl true) H'
/-- two numbers and their raw pairs, one of both a fraction -/
def TwoR (C : Addr) (H : Hp) (v1 v2 : V) (q1 q2 : Addr) (x y : PII) : Prop := RatOf C H v1 (RR x) ∧ RatOf C H v2 (RR y) ∧ (isRf v1 = true ∨ isRf v2 = true) ∧ H q1 = some (.tup [.int x.1, .int x.2]) ∧ H q2 = some (.tup [.int y.1, .int y.2]) ∧
  (x.2 ≠ 0 ∧ x.1.natAbs < 2 ^ 200 ∧ x.2.natAbs < 2 ^ 200) ∧ y.2 ≠ 0 ∧ y.1.natAbs < 2 ^ 200 ∧ y.2.natAbs < 2 ^ 200
theorem ratOf_dl {C p c : Addr} {n : Nat} {H : Hp} {v : V} {x : PII} (P : Pen H p c n) (h : RatOf C H v x) : RatOf C (Gs.dl H p) v x := by
  rcases h with h | ⟨a, e, dx, hr⟩
  · exact .inl h
  · refine .inr ⟨a, e, dx, dl_at hr fun z => ?_⟩
    obtain ⟨ns, s1, g1, q1, _⟩ := P.ex
    rw [z, q1] at hr
    cases hr
theorem ratOf_but {C p c : Addr} {n : Nat} {H H' : Hp} {v : V} {x : PII} (P : Pen H p c n) (h : RatOf C H v x) (b : But p H H') : RatOf C H' v x := ((ratOf_dl P h).ext (dl_but b)).ext (dl_in _ _)
theorem TwoR.ext {C : Addr} {H H' : Hp} {v1 v2 : V} {q1 q2 : Addr} {x y : PII} (h : TwoR C H v1 v2 q1 q2 x y) (e : Gs.Ext H H') : TwoR C H' v1 v2 q1 q2 x y :=
  ⟨h.1.ext e, h.2.1.ext e, h.2.2.1, e _ _ h.2.2.2.1, e _ _ h.2.2.2.2.1, h.2.2.2.2.2⟩
theorem tup_np {p c q : Addr} {n : Nat} {H : Hp} {xs : List V} (P : Pen H p c n) (h : H q = some (.tup xs)) : q ≠ p := fun z => by
  obtain ⟨ns, s1, g1, q1, _⟩ := P.ex
  rw [z, q1] at h
  cases h
theorem TwoR.but {C p c : Addr} {n : Nat} {H H' : Hp} {v1 v2 : V} {q1 q2 : Addr} {x y : PII} (h : TwoR C H v1 v2 q1 q2 x y) (P : Pen H p c n) (b : But p H H') : TwoR C H' v1 v2 q1 q2 x y :=
  ⟨ratOf_but P h.1 b, ratOf_but P h.2.1 b, h.2.2.1, b _ _ h.2.2.2.1 (tup_np P h.2.2.2.1), b _ _ h.2.2.2.2.1 (tup_np P h.2.2.2.2.1), h.2.2.2.2.2⟩
theorem TwoR.swap {C : Addr} {H : Hp} {v1 v2 : V} {q1 q2 : Addr} {x y : PII} (h : TwoR C H v1 v2 q1 q2 x y) : TwoR C H v2 v1 q2 q1 y x := ⟨h.2.1, h.1, h.2.2.1.symm, h.2.2.2.2.1, h.2.2.2.1, h.2.2.2.2.2.2, h.2.2.2.2.2.1⟩
section
variable {P : Program} {w : World} {K : PySem.W.Frag} {mg : Str → Option Value} {base : Heap}
theorem sc__law_right : FnScope ["pen", "one_so", "two_so", "first_so", "second_so", "left", "right", "low", "high", "told_so", "is_same"] ["pen"] (defScope s__law_right) := ⟨rfl, rfl, rfl, by decide +kernel, rfl, by decide +kernel, by decide +kernel⟩
theorem d__law_right (T : Txt K mg) (RF : RatF K (He.ga K "Ratio")) (D_law_draw : DefOk P w K mg base CX0 1 "_law_draw" ["pen", "many"] [] spDraw) (D_law_pair : DefOk P w K mg base CX0 3 "_law_pair" ["pen"] [] spPair) (D_law_near : DefOk P w K mg base CX0 3 "_law_near" ["pen", "pair"] [] spNear) (D_law_number : DefOk P w K mg base CX0 5 "_law_number" ["pen", "pair"] [] (spNumber K)) (D_law_least : DefOk P w K mg base CX0 2 "_law_least" ["top", "bottom"] [] spLeast) (M_Ratio : Mk K (He.ga K "Ratio") (He.ma K (He.ga K "Ratio") "__init__"))(D_Ratio2 : FunOk P w K mg base (L2.CX P w) 3 (He.ma K (He.ga K "Ratio") "__init__") ["self", "over", "under"] [] (spInit K (He.ga K "Ratio") (He.ga K "BadRatio")))(D_Ratio___lt__ : FunOk P w K mg base (L2.CX P w) 6 (He.ma K (He.ga K "Ratio") "__lt__") ["self", "other"] [] (spCmp K (He.ga K "Ratio") (He.ga K "BadRatio") (fun i j => decide (i < j)))) (D_Ratio___le__ : FunOk P w K mg base (L2.CX P w) 6 (He.ma K (He.ga K "Ratio") "__le__") ["self", "other"] [] (spCmp K (He.ga K "Ratio") (He.ga K "BadRatio") (fun i j => decide (i ≤ j)))) (D_Ratio___gt__ : FunOk P w K mg base (L2.CX P w) 6 (He.ma K (He.ga K "Ratio") "__gt__") ["self", "other"] [] (spCmp K (He.ga K "Ratio") (He.ga K "BadRatio") (fun i j => decide (i > j)))) (D_Ratio___ge__ : FunOk P w K mg base (L2.CX P w) 6 (He.ma K (He.ga K "Ratio") "__ge__") ["self", "other"] [] (spCmp K (He.ga K "Ratio") (He.ga K "BadRatio") (fun i j => decide (i ≥ j)))) (D_Ratio___eq__ : FunOk P w K mg base CX0 1 (He.ma K (He.ga K "Ratio") "__eq__") ["self", "other"] [] (spEqR K (He.ga K "Ratio"))) (O_lt : PySem.W.findIn K (.ref (He.ga K "Ratio")) "__lt__" = some (some (.ref (He.ma K (He.ga K "Ratio") "__lt__"))) ∧ PySem.W.isFn K (.ref (He.ma K (He.ga K "Ratio") "__lt__")) = true) (O_le : PySem.W.findIn K (.ref (He.ga K "Ratio")) "__le__" = some (some (.ref (He.ma K (He.ga K "Ratio") "__le__"))) ∧ PySem.W.isFn K (.ref (He.ma K (He.ga K "Ratio") "__le__")) = true) (O_gt : PySem.W.findIn K (.ref (He.ga K "Ratio")) "__gt__" = some (some (.ref (He.ma K (He.ga K "Ratio") "__gt__"))) ∧ PySem.W.isFn K (.ref (He.ma K (He.ga K "Ratio") "__gt__")) = true) (O_ge : PySem.W.findIn K (.ref (He.ga K "Ratio")) "__ge__" = some (some (.ref (He.ma K (He.ga K "Ratio") "__ge__"))) ∧ PySem.W.isFn K (.ref (He.ma K (He.ga K "Ratio") "__ge__")) = true) (O_eq : PySem.W.findIn K (.ref (He.ga K "Ratio")) "__eq__" = some (some (.ref (He.ma K (He.ga K "Ratio") "__eq__"))) ∧ PySem.W.isFn K (.ref (He.ma K (He.ga K "Ratio") "__eq__")) = true) (O_ne : PySem.W.findIn K (.ref (He.ga K "Ratio")) "__ne__" = some (some (.builtin "object.__ne__")) ∧ PySem.W.subIn K (.ref (He.ga K "Ratio")) (.type "object") = some true) (SUB : ∀ T ∈ T7, PySem.W.subIn K (.ref (He.ga K "Ratio")) (.type T) = some false) (NF : ∀ T ∈ T7, PySem.W.subIn K (.type T) (.ref (He.ga K "Ratio")) = some false)  (A0 : At K mg "_law_right" s__law_right) : DefG P w K mg base CX0 9 "_law_right" ["pen"] [] spRight := by
  refine At.okG A0 sc__law_right (fun _ _ F => F.bindsN fun _ _ _ _ _ _ us hl => match us, hl with | [_], _ => rfl) (fun vs H Q E h => ?_) (fun f cdv A out s H vs Q E hG hr h => ?_)
  · obtain ⟨p, c, n, rfl, _⟩ := h; rfl
  · have nd := sc__law_right.nd
    refine ⟨_, (pss_cons (ps_set (i := 1) nd rfl (Or.inl rfl) (pe_d D_law_pair (hr.mono (by decide)) pass0 (pa_cons (pv 0) pa_nil)))
          (pss_cons (ps_set (i := 2) nd rfl (Or.inl rfl) (teM_ok (pe_ifExp (pt_cmpR op_eq (pe_d D_law_draw (hr.mono (by decide)) pass0 (pa_cons (pv 0) (pa_cons pe_int pa_nil))) pe_int (nomark _)) (pe_d D_law_near (hr.mono (by decide)) pass0 (pa_cons (pv 0) (pa_cons (pv 1) pa_nil))) (pe_d D_law_pair (hr.mono (by decide)) pass0 (pa_cons (pv 0) pa_nil)))))
          (pss_cons (ps_par (i := 3) (j := 4) rfl nd rfl rfl (by decide) rfl rfl (pa_cons (pe_mk2 (pe_mkF M_Ratio T.c_Ratio D_Ratio2 (hr.mono (by decide)) passL (taM_ok (pa_cons (pe_ix ix_tup (pv 1) pe_int (fun _ _ => rfl)) (pa_cons (pe_ix ix_tup (pv 1) pe_int (fun _ _ => rfl)) pa_nil))))) (pa_cons (pe_d D_law_number (hr.mono (by decide)) pass0 (pa_cons (pv 0) (pa_cons (pv 2) pa_nil))) pa_nil)) (by rfl))
          (pss_cut (ps_if (pt_cmpR op_eq (pe_d D_law_draw (hr.mono (by decide)) pass0 (pa_cons (pv 0) (pa_cons pe_int pa_nil))) pe_int (nomark _)) (pss_one (ps_asg (pe_tup (pa_cons (pv 4) (pa_cons (pv 3) (pa_cons (pv 2) (pa_cons (pv 1) pa_nil))))) (pg_tup (by rfl) (pgs_cons (pg_name (i := 3) nd rfl (Or.inl rfl)) (pgs_cons (pg_name (i := 4) nd rfl (Or.inl rfl)) (pgs_cons (pg_name (i := 1) nd rfl (Or.inl rfl)) (pgs_cons (pg_name (i := 2) nd rfl (Or.inl rfl)) pgs_nil))))))) pss_nil)
          (pss_cons (ps_par (i := 5) (j := 6) rfl nd rfl rfl (by decide) rfl rfl (pa_cons (pe_d D_law_least (hr.mono (by decide)) pass0 (pa_cons (pe_ix ix_tup (pv 1) pe_int (fun _ _ => rfl)) (pa_cons (pe_ix ix_tup (pv 1) pe_int (fun _ _ => rfl)) pa_nil))) (pa_cons (pe_d D_law_least (hr.mono (by decide)) pass0 (pa_cons (pe_ix ix_tup (pv 2) pe_int (fun _ _ => rfl)) (pa_cons (pe_ix ix_tup (pv 2) pe_int (fun _ _ => rfl)) pa_nil))) pa_nil)) (by rfl))
          (pss_cons (ps_par (i := 7) (j := 8) rfl nd rfl rfl (by decide) rfl rfl (pa_cons (pe_op op_mulW (pe_ix ix_tup (pv 5) pe_int (fun _ _ => rfl)) (pe_ix ix_tup (pv 6) pe_int (fun _ _ => rfl))) (pa_cons (pe_op op_mulW (pe_ix ix_tup (pv 6) pe_int (fun _ _ => rfl)) (pe_ix ix_tup (pv 5) pe_int (fun _ _ => rfl))) pa_nil)) (by rfl))
          (pss_cons (ps_set (i := 9) nd rfl (Or.inl rfl) (pe_lst (pa_cons (pe_cmpR (op_both (show OpR _ _ (rCmpO K (He.ga K "Ratio") (spCmp K (He.ga K "Ratio") (He.ga K "BadRatio") (fun i j => decide (i < j))) E0) from op_cmpO D_Ratio___lt__ O_lt.1 O_lt.2 (hr.mono (by decide)) passL) (show OpR _ _ (rCmpR K (He.ga K "Ratio") .Lt (spCmp K (He.ga K "Ratio") (He.ga K "BadRatio") (fun i j => decide (i > j))) E0) from op_cmpR D_Ratio___gt__ O_gt.1 O_gt.2 SUB (hr.mono (by decide)) passL)) (pv 3) (pv 4) (nomark _)) (pa_cons (pe_cmpR (op_both (show OpR _ _ (rCmpO K (He.ga K "Ratio") (spCmp K (He.ga K "Ratio") (He.ga K "BadRatio") (fun i j => decide (i ≤ j))) E0) from op_cmpO D_Ratio___le__ O_le.1 O_le.2 (hr.mono (by decide)) passL) (show OpR _ _ (rCmpR K (He.ga K "Ratio") .LtE (spCmp K (He.ga K "Ratio") (He.ga K "BadRatio") (fun i j => decide (i ≥ j))) E0) from op_cmpR D_Ratio___ge__ O_ge.1 O_ge.2 SUB (hr.mono (by decide)) passL)) (pv 3) (pv 4) (nomark _)) (pa_cons (pe_cmpR (op_both (show OpR _ _ (rCmpO K (He.ga K "Ratio") (spCmp K (He.ga K "Ratio") (He.ga K "BadRatio") (fun i j => decide (i > j))) E0) from op_cmpO D_Ratio___gt__ O_gt.1 O_gt.2 (hr.mono (by decide)) passL) (show OpR _ _ (rCmpR K (He.ga K "Ratio") .Gt (spCmp K (He.ga K "Ratio") (He.ga K "BadRatio") (fun i j => decide (i < j))) E0) from op_cmpR D_Ratio___lt__ O_lt.1 O_lt.2 SUB (hr.mono (by decide)) passL)) (pv 3) (pv 4) (nomark _)) (pa_cons (pe_cmpR (op_both (show OpR _ _ (rCmpO K (He.ga K "Ratio") (spCmp K (He.ga K "Ratio") (He.ga K "BadRatio") (fun i j => decide (i ≥ j))) E0) from op_cmpO D_Ratio___ge__ O_ge.1 O_ge.2 (hr.mono (by decide)) passL) (show OpR _ _ (rCmpR K (He.ga K "Ratio") .GtE (spCmp K (He.ga K "Ratio") (He.ga K "BadRatio") (fun i j => decide (i ≤ j))) E0) from op_cmpR D_Ratio___le__ O_le.1 O_le.2 SUB (hr.mono (by decide)) passL)) (pv 3) (pv 4) (nomark _)) pa_nil))))))
          (pss_cons (ps_set (i := 9) nd rfl (Or.inl rfl) (pe_op op_cat (pv 9) (pe_lst (pa_cons (pe_cmpR (op_both (show OpR _ _ (rCmpO K (He.ga K "Ratio") (spEqR K (He.ga K "Ratio")) E0) from op_cmpO D_Ratio___eq__ O_eq.1 O_eq.2 (hr.mono (by decide)) pass0) (show OpR _ _ (rCmpR K (He.ga K "Ratio") .Eq (spEqR K (He.ga K "Ratio")) E0) from op_cmpR D_Ratio___eq__ O_eq.1 O_eq.2 SUB (hr.mono (by decide)) pass0)) (pv 3) (pv 4) (nomark _)) (pa_cons (pe_cmpR (op_both (show OpR _ _ (rNeO K (He.ga K "Ratio") (spEqR K (He.ga K "Ratio")) E0) from op_neO D_Ratio___eq__ O_ne.1 O_ne.2 O_eq.1 O_eq.2 (hr.mono (by decide)) pass0) (show OpR _ _ (rNeR K (He.ga K "Ratio") (spEqR K (He.ga K "Ratio")) E0) from op_neR D_Ratio___eq__ O_ne.1 O_ne.2 O_eq.1 O_eq.2 SUB (hr.mono (by decide)) pass0)) (pv 3) (pv 4) (nomark _)) pa_nil)))))
          (pss_cons (ps_set (i := 10) nd rfl (Or.inl rfl) (teM_ok (pe_and (pe_cmpR op_eq (pv 7) (pv 8) (nomark _)) (pe_and (pe_callB call_isi (by rfl) T.f_isinstance (by decide +kernel) (pa_cons (pv 3) (pa_cons (pe_glob (v := .ref (He.ga K "Ratio")) (by rfl) T.c_Ratio rfl) pa_nil))) (pe_one (pe_callB call_isi (by rfl) T.f_isinstance (by decide +kernel) (pa_cons (pv 4) (pa_cons (pe_glob (v := .ref (He.ga K "Ratio")) (by rfl) T.c_Ratio rfl) pa_nil))))))))
          (pss_one (ps_ret (pe_cmpR op_eq (pe_callB (call_reprX hG hr.units) (by rfl) T.f_repr (by decide +kernel) (pa_cons (pv 9) pa_nil)) (pe_callB (call_reprX hG hr.units) (by rfl) T.f_repr (by decide +kernel) (pa_cons (pe_lst (pa_cons (pe_cmpR op_lt (pv 7) (pv 8) (nomark _)) (pa_cons (pe_cmpR op_le (pv 7) (pv 8) (nomark _)) (pa_cons (pe_cmpR op_gt (pv 7) (pv 8) (nomark _)) (pa_cons (pe_cmpR op_ge (pv 7) (pv 8) (nomark _)) (pa_cons (pv 10) (pa_cons (pe_not (pv 10)) pa_nil))))))) pa_nil)) (nomark _))))))))))))), ?_⟩
    obtain ⟨p, c, n, rfl, P, hn, k⟩ := h
    refine ⟨_, rfl, p, c, n, rfl, P, by omega, fun q1 t1 b1 H1 nq1 np1 hq1 hb1 ht1 hbb1 P1 B1 => ?_⟩
    refine ⟨fun v H2 => ∃ q2 t2 b2, v = .ref q2 ∧ q2 ≠ p ∧ H2 q2 = some (.tup [.int t2, .int b2]) ∧ b2 ≠ 0 ∧ t2.natAbs < 2 ^ 200 ∧ b2.natAbs < 2 ^ 200 ∧ Pen H2 p c (n + 9) ∧ But p H1 H2, ?_, ?_⟩
    · refine ⟨_, rfl, p, c, _, 2, rfl, P1, by omega, by decide, by decide, fun j Hj j0 j2 Pj Bj => ⟨rfl, _, rfl, ?_⟩⟩
      cases hj : decide (V.int j = V.int 0) with
      | true => exact iteT ⟨_, rfl, _, rfl, p, c, _, q1, t1, b1, rfl, Pj, by omega, Bj _ _ hq1 np1, hb1, ⟨ht1, hbb1⟩, fun q2 t2 b2 H2 hq2 np2 hb2 ht2 hbb2 P2 B2 => ⟨q2, t2, b2, rfl, np2, hq2, hb2, ht2, hbb2, P2.mono (by omega), Bj.trans B2⟩⟩
      | false => exact iteF ⟨_, rfl, p, c, _, rfl, Pj, by omega, fun q2 t2 b2 H2 nq2 np2 hq2 hb2 ht2 hbb2 P2 B2 => ⟨q2, t2, b2, rfl, np2, hq2, hb2, lt200 ht2, lt200 hbb2, P2.mono (by omega), Bj.trans B2⟩⟩
    rintro w2 H2 ⟨q2, t2, b2, rfl, np2, hq2, hb2, ht2, hbb2, P2, B2⟩
    have hq1' := B2 _ _ hq1 np1
    refine ⟨_, rfl, q1, _, 0, _, rfl, rfl, .inl (.inl hq1'), atI_nat (j := 0) rfl, _, rfl, q1, _, 1, _, rfl, rfl, .inl (.inl hq1'), atI_nat (j := 1) rfl, t1, b1, rfl, hb1, log2_200 (lt200 hbb1), fun a H3 e3 n3 ra => ?_⟩
    refine ⟨_, rfl, _, rfl, p, c, _, q2, t2, b2, rfl, P2.ext e3, by omega, e3 _ _ hq2, hb2, ⟨ht2, hbb2⟩, fun v H4 rv P4 B4 => ⟨_, _, rfl, ?_⟩⟩
    have tw : TwoR (He.ga K "Ratio") H4 (.ref a) v q1 q2 (t1, b1) (t2, b2) := ⟨ratOf_but (P2.ext e3) (.inr ⟨a, rfl, ra⟩) B4, rv, .inl rfl, B4 _ _ (e3 _ _ hq1') np1, B4 _ _ (e3 _ _ hq2) np2, ⟨hb1, lt200 ht1, lt200 hbb1⟩, hb2, ht2, hbb2⟩
    have B14 := B1.trans (B2.trans (e3.but.trans B4))
    refine ⟨fun σ' H5 => ∃ v1 v2 u1 u2 x y, σ' = [some (.ref p), some (.ref u1), some (.ref u2), some v1, some v2, none, none, none, none, none, none] ∧ TwoR (He.ga K "Ratio") H5 v1 v2 u1 u2 x y ∧ Pen H5 p c (n + 19) ∧ But p H H5, ?_, ?_⟩
    · refine ⟨_, rfl, p, c, _, 2, rfl, P4, by omega, by decide, by decide, fun j Hj j0 j2 Pj Bj => ⟨rfl, _, rfl, ?_⟩⟩
      cases hj : decide (V.int j = V.int 0) with
      | true => exact iteT ⟨_, rfl, _, rfl, _, rfl, _, rfl, by show 4 ≤ sizeLine; decide, fun u w => ⟨u, _, rfl, .inl (.inl upd_same), rfl, _, _, rfl, _, _, rfl, _, _, rfl, _, _, rfl, rfl, _, _, _, _, _, _, rfl, ((tw.but P4 Bj).swap).ext (ext_new w), (Pj.new w).mono (by omega), (B14.trans Bj).new w⟩⟩
      | false => exact iteF ⟨_, _, _, _, _, _, rfl, tw.but P4 Bj, Pj.mono (by omega), B14.trans Bj⟩
    rintro σ' H5 ⟨v1, v2, u1, u2, x, y, rfl, tw, P5, B5⟩
    have tw0 := tw
    obtain ⟨r1, r2, hrf, h1, h2, ⟨x0, x1, x2⟩, y0, y1, y2⟩ := tw
    have s1 := sm_least2 x0 x1 x2
    have s2 := sm_least2 y0 y1 y2
    refine ⟨_, rfl, u1, _, 0, _, rfl, rfl, .inl (.inl h1), atI_nat (j := 0) rfl, _, rfl, u1, _, 1, _, rfl, rfl, .inl (.inl h1), atI_nat (j := 1) rfl, x.1, x.2, rfl, x0, log2_200 x2, fun l1 H6 e6 n6 hl1 => ?_⟩
    have h2' := e6 _ _ h2
    refine ⟨_, rfl, u2, _, 0, _, rfl, rfl, .inl (.inl h2'), atI_nat (j := 0) rfl, _, rfl, u2, _, 1, _, rfl, rfl, .inl (.inl h2'), atI_nat (j := 1) rfl, y.1, y.2, rfl, y0, log2_200 y2, fun l2 H7 e7 n7 hl2 => ⟨_, _, rfl, ?_⟩⟩
    have hl1' := e7 _ _ hl1
    refine ⟨_, rfl, l1, _, 0, _, rfl, rfl, .inl (.inl hl1'), atI_nat (j := 0) rfl, _, rfl, l2, _, 1, _, rfl, rfl, .inl (.inl hl2), atI_nat (j := 1) rfl, _, _, rfl, rfl, wide_mul s1.1 s2.2 (by decide) (by decide) (by decide),
      _, rfl, l2, _, 0, _, rfl, rfl, .inl (.inl hl2), atI_nat (j := 0) rfl, _, rfl, l1, _, 1, _, rfl, rfl, .inl (.inl hl1'), atI_nat (j := 1) rfl, _, _, rfl, rfl, wide_mul s2.1 s1.2 (by decide) (by decide) (by decide), _, _, rfl, ?_⟩
    have q1 := r1.ext (e6.trans e7)
    have q2 := r2.ext (e6.trans e7)
    refine ⟨_, rfl, _, rfl, cmp_go RF NF q1 q2 hrf s1 s2 cdec_int_lt (fun _ _ => rfl) fun H8 e8 => ?_⟩
    refine ⟨_, rfl, _, rfl, cmp_go RF NF (q1.ext e8) (q2.ext e8) hrf s1 s2 cdec_int_le (fun _ _ => rfl) fun H9 e9 => ?_⟩
    have e89 := e8.trans e9
    refine ⟨_, rfl, _, rfl, cmp_go RF NF (q1.ext e89) (q2.ext e89) hrf s1 s2 cdec_int_gt (fun _ _ => rfl) fun H10 e10 => ?_⟩
    have e810 := e89.trans e10
    refine ⟨_, rfl, _, rfl, cmp_go RF NF (q1.ext e810) (q2.ext e810) hrf s1 s2 cdec_int_ge (fun _ _ => rfl) fun H11 e11 => ?_⟩
    have e811 := e810.trans e11
    refine ⟨by show 4 ≤ sizeLine; decide, fun l3 w3 => ?_⟩
    have e12 := e811.trans (ext_new (o := .lst (bl4 (RR x) (RR y))) w3)
    have hl3 := upd_same (H := H11) (a := l3) (o := HO.lst (bl4 (RR x) (RR y)))
    refine ⟨_, rfl, _, rfl, _, rfl, eq_go RF NF (q1.ext e12) (q2.ext e12) hrf ⟨_, rfl, _, rfl, ne_go RF NF (q1.ext e12) (q2.ext e12) hrf ⟨by show 2 ≤ sizeLine; decide, fun l4 w4 => ?_⟩⟩⟩
    have e4 := ext_new (o := .lst (bl2 (sameB v1 v2 (RR x) (RR y)))) w4
    refine ⟨l3, l4, _, _, rfl, rfl, e4 _ _ hl3, upd_same, by show 4 + 2 ≤ sizeLine; decide, fun l5 w5 => ?_⟩
    have h5 := upd_same (H := upd (upd H11 l3 (.lst (bl4 (RR x) (RR y)))) l4 (.lst (bl2 (sameB v1 v2 (RR x) (RR y))))) (a := l5) (o := HO.lst (bl4 (RR x) (RR y) ++ bl2 (sameB v1 v2 (RR x) (RR y))))
    have e13 := (e12.trans e4).trans (ext_new (o := .lst (bl4 (RR x) (RR y) ++ bl2 (sameB v1 v2 (RR x) (RR y)))) w5)
    generalize upd (upd (upd H11 l3 (.lst (bl4 (RR x) (RR y)))) l4 (.lst (bl2 (sameB v1 v2 (RR x) (RR y))))) l5 (.lst (bl4 (RR x) (RR y) ++ bl2 (sameB v1 v2 (RR x) (RR y)))) = H12 at h5 e13 ⊢
    obtain ⟨ty1, t1', _, k1⟩ := num_ty RF NF (q1.ext e13)
    obtain ⟨ty2, t2', _, k2⟩ := num_ty RF NF (q2.ext e13)
    refine ⟨fun v H' => v = .bl (sameB v1 v2 (RR x) (RR y)) ∧ H' = H12, ⟨_, rfl, _, rfl, rfl, _, rfl, ?_⟩, ?_⟩
    · rw [sameB_eq x0 y0, dec_V]
      by_cases z : (RR x).1 * (RR y).2 = (RR y).1 * (RR x).2
      · rw [show (decide ((rN x.1 x.2) * (rD y.1 y.2) = (rN y.1 y.2) * (rD x.1 x.2))) = true from decide_eq_true z, decide_eq_true z, if_pos rfl]
        refine ⟨_, rfl, _, _, ty1, _, _, rfl, .own _, t1', k1, _, rfl, ?_⟩
        cases z1 : isRf v1 with
        | true =>
          rw [if_pos rfl]
          exact ⟨_, rfl, _, _, ty2, _, _, rfl, .own _, t2', k2, by simp, rfl⟩
        | false =>
          rw [if_neg (by decide)]
          exact ⟨by simp, rfl⟩
      · rw [show (decide ((rN x.1 x.2) * (rD y.1 y.2) = (rN y.1 y.2) * (rD x.1 x.2))) = false from decide_eq_false z, decide_eq_false z, if_neg (by decide)]
        exact ⟨by simp, rfl⟩
    rintro w Hf ⟨rfl, rfl⟩
    have dd : ∀ {H : Hp} {l : Addr}, H l = some (.lst (bl4 (RR x) (RR y) ++ bl2 (sameB v1 v2 (RR x) (RR y)))) → Shw K H (.ref l) (.list [.bool (decide ((RR x).1 * (RR y).2 < (RR y).1 * (RR x).2)), .bool (decide ((RR x).1 * (RR y).2 ≤ (RR y).1 * (RR x).2)), .bool (decide ((RR x).1 * (RR y).2 > (RR y).1 * (RR x).2)), .bool (decide ((RR x).1 * (RR y).2 ≥ (RR y).1 * (RR x).2)), .bool (sameB v1 v2 (RR x) (RR y)), .bool (!sameB v1 v2 (RR x) (RR y))]) := fun h =>
      .data (.lst (SqL.of h) (.cons (.bl _) (.cons (.bl _) (.cons (.bl _) (.cons (.bl _) (.cons (.bl _) (.cons (.bl _) .nil)))))))
    refine ⟨_, rfl, _, _, rfl, dd h5, fine6 _ _ _ _ _ _, _, rfl, _, rfl, _, _, rfl, rfl, _, rfl, _, rfl, _, _, rfl, rfl, _, rfl, _, rfl, _, _, rfl, rfl, _, rfl, _, rfl, _, _, rfl, rfl, _, rfl, _, rfl, _, rfl, by show 6 ≤ sizeLine; decide, fun l6 w6 => ?_⟩
    refine ⟨_, _, rfl, dd upd_same, fine6 _ _ _ _ _ _, scal_str _ _, ?_⟩
    rw [decide_eq_true rfl]
    have ef := (e6.trans e7).trans (e13.trans (ext_new (o := .lst (bl4 (RR x) (RR y) ++ bl2 (sameB v1 v2 (RR x) (RR y)))) w6))
    exact k _ ((P5.ext ef).mono (by omega)) (B5.trans ef.but)
end
end K06

set_option maxRecDepth 100000
set_option maxHeartbeats 4000000
namespace K06
open PySem PySem.Spec PyProof.Rows Gs
open L2 hiding Ext paired_get
open C8 (tCut pss_cut)
theorem pe_m0 {X : Cx} {CX : CXT} {k : Nat} {C f : Addr} {m : Str} {sp : Sp} {E : XK} {o : Expr} {ta : TE} {ps : List Str} {apos pos : Pos} {pl : Sem Bool} (D : FunOk X.prog X.w X.K X.mg X.base CX k f ps [] sp) (hm : PySem.W.findIn X.K (.ref C) m = some (some (.ref f)) ∧ PySem.W.isFn X.K (.ref f) = true) (he : PE X o ta) (c : Cls X.K C) (hr : Room k X.A) (hx : Passes CX X E)
    (ht : eval (.Call (.Attribute o m apos) [] [] pos) X.env = (do
      let ov ← eval o X.env
      standAt apos.atName
      let (f, first) ← holding [ov] (getMethod ov m pl)
      callWith pos f first (backTo pos (starEach [] X.env)) (backToKw pos (keywordEach [] X.env))) := by rfl) : PE X (.Call (.Attribute o m apos) [] [] pos) (tMeth C m sp [] E ta tNil) := by
  obtain ⟨fd, ds, F, hb, hd⟩ := D.ex
  exact pe_meth0 he c ⟨hm.1, hm.2, D.kp⟩ F hr hb hd hx ht
theorem flo_ok {t b : Int} (hb : 0 < b) : t.fdiv b * b ≤ t ∧ t < (t.fdiv b + 1) * b := by
  rw [Int.fdiv_eq_ediv_of_nonneg _ (by omega)]
  exact ⟨Int.ediv_mul_le _ (by omega), Int.lt_ediv_add_one_mul_self _ hb⟩
theorem cei_ok {t b : Int} (hb : 0 < b) : (-((-t).fdiv b) - 1) * b < t ∧ t ≤ -((-t).fdiv b) * b := by
  obtain ⟨h1, h2⟩ := flo_ok (t := -t) hb
  generalize (-t).fdiv b = q at *
  have e1 : (-q - 1) * b = -((q + 1) * b) := by rw [← Int.neg_mul]; congr 1; omega
  have e2 : -q * b = -(q * b) := Int.neg_mul _ _
  rw [e1, e2]
  omega
theorem fine3 : ∀ b1 b2 b3 : Bool, Fine (.list [.bool b1, .bool b2, .bool b3]) := by
  unfold Fine
  decide +kernel
section
variable {P : Program} {w : World} {K : PySem.W.Frag} {mg : Str → Option Value} {base : Heap}
theorem sc__law_rounded_right : FnScope ["pen", "pair", "made", "top", "bottom", "low", "high"] ["pen"] (defScope s__law_rounded_right) := ⟨rfl, rfl, rfl, by decide +kernel, rfl, by decide +kernel, by decide +kernel⟩
theorem d__law_rounded_right (T : Txt K mg) (RF : RatF K (He.ga K "Ratio")) (D_law_pair : DefOk P w K mg base CX0 3 "_law_pair" ["pen"] [] spPair) (D_law_least : DefOk P w K mg base CX0 2 "_law_least" ["top", "bottom"] [] spLeast) (M_Ratio : Mk K (He.ga K "Ratio") (He.ma K (He.ga K "Ratio") "__init__"))(D_Ratio2 : FunOk P w K mg base (L2.CX P w) 3 (He.ma K (He.ga K "Ratio") "__init__") ["self", "over", "under"] [] (spInit K (He.ga K "Ratio") (He.ga K "BadRatio")))(D_Ratio_floor : FunOk P w K mg base CX0 1 (He.ma K (He.ga K "Ratio") "floor") ["self"] [] (spFlo (He.ga K "Ratio"))) (O_floor : PySem.W.findIn K (.ref (He.ga K "Ratio")) "floor" = some (some (.ref (He.ma K (He.ga K "Ratio") "floor"))) ∧ PySem.W.isFn K (.ref (He.ma K (He.ga K "Ratio") "floor")) = true) (D_Ratio_ceiling : FunOk P w K mg base CX0 1 (He.ma K (He.ga K "Ratio") "ceiling") ["self"] [] (spCei (He.ga K "Ratio"))) (O_ceiling : PySem.W.findIn K (.ref (He.ga K "Ratio")) "ceiling" = some (some (.ref (He.ma K (He.ga K "Ratio") "ceiling"))) ∧ PySem.W.isFn K (.ref (He.ma K (He.ga K "Ratio") "ceiling")) = true) (D_Ratio___bool__ : FunOk P w K mg base CX0 1 (He.ma K (He.ga K "Ratio") "__bool__") ["self"] [] (spBoo (He.ga K "Ratio"))) (O_bool : PySem.W.findIn K (.ref (He.ga K "Ratio")) "__bool__" = some (some (.ref (He.ma K (He.ga K "Ratio") "__bool__"))) ∧ PySem.W.isFn K (.ref (He.ma K (He.ga K "Ratio") "__bool__")) = true)  (A0 : At K mg "_law_rounded_right" s__law_rounded_right) : DefG P w K mg base CX0 9 "_law_rounded_right" ["pen"] [] spRight := by
  refine At.okG A0 sc__law_rounded_right (fun _ _ F => F.bindsN fun _ _ _ _ _ _ us hl => match us, hl with | [_], _ => rfl) (fun vs H Q E h => ?_) (fun f cdv A out s H vs Q E hG hr h => ?_)
  · obtain ⟨p, c, n, rfl, _⟩ := h; rfl
  · have nd := sc__law_rounded_right.nd
    refine ⟨_, (pss_cons (ps_set (i := 1) nd rfl (Or.inl rfl) (pe_d D_law_pair (hr.mono (by decide)) pass0 (pa_cons (pv 0) pa_nil)))
          (pss_cons (ps_asg (pe_tup (pa_cons (pe_mk2 (pe_mkF M_Ratio T.c_Ratio D_Ratio2 (hr.mono (by decide)) passL (taM_ok (pa_cons (pe_ix ix_tup (pv 1) pe_int (fun _ _ => rfl)) (pa_cons (pe_ix ix_tup (pv 1) pe_int (fun _ _ => rfl)) pa_nil))))) (pa_cons (pe_d D_law_least (hr.mono (by decide)) pass0 (pa_cons (pe_ix ix_tup (pv 1) pe_int (fun _ _ => rfl)) (pa_cons (pe_ix ix_tup (pv 1) pe_int (fun _ _ => rfl)) pa_nil))) pa_nil))) (pg_tup (by rfl) (pgs_cons (pg_name (i := 2) nd rfl (Or.inl rfl)) (pgs_cons (pg_tup (by rfl) (pgs_cons (pg_name (i := 3) nd rfl (Or.inl rfl)) (pgs_cons (pg_name (i := 4) nd rfl (Or.inl rfl)) pgs_nil))) pgs_nil))))
          (pss_cons (ps_par (i := 5) (j := 6) rfl nd rfl rfl (by decide) rfl rfl (pa_cons (pe_m0 D_Ratio_floor O_floor (pv 2) RF.cls (hr.mono (by decide)) pass0) (pa_cons (pe_m0 D_Ratio_ceiling O_ceiling (pv 2) RF.cls (hr.mono (by decide)) pass0) pa_nil)) (by rfl))
          (pss_cons (ps_if (PW.pt (pw_or (pt_not (pt_chain op_le op_lt (pe_op op_mulW (pv 5) (pv 4)) (pv 3) (pe_op op_mulW (pe_op op_add (pv 5) pe_int) (pv 4)))) (pw_or1 (pt_not (pt_chain op_lt op_le (pe_op op_mulW (pe_op op_sub (pv 6) pe_int) (pv 4)) (pv 3) (pe_op op_mulW (pv 6) (pv 4))))))) (pss_one (ps_ret pe_bl)) pss_nil)
          (pss_one (ps_ret (pe_cmpR op_eq (pe_callB (call_reprX hG hr.units) (by rfl) T.f_repr (by decide +kernel) (pa_cons (pe_lst (pa_cons (pe_callTy (show CallR _ _ (rBoolO (He.ga K "Ratio") (spBoo (He.ga K "Ratio")) E0) from call_boolO D_Ratio___bool__ O_bool.1 O_bool.2 (hr.mono (by decide)) pass0) (by rfl) T.f_bool (by decide +kernel) (pa_cons (pv 2) pa_nil)) (pa_cons (pe_callB call_isi (by rfl) T.f_isinstance (by decide +kernel) (pa_cons (pv 5) (pa_cons (pe_bltn (v := .ty "int") (by rfl) T.f_int (by decide +kernel) rfl) pa_nil))) (pa_cons (pe_callB call_isi (by rfl) T.f_isinstance (by decide +kernel) (pa_cons (pv 6) (pa_cons (pe_bltn (v := .ty "int") (by rfl) T.f_int (by decide +kernel) rfl) pa_nil))) pa_nil)))) pa_nil)) (pe_callB (call_reprX hG hr.units) (by rfl) T.f_repr (by decide +kernel) (pa_cons (pe_lst (pa_cons (pe_cmpR op_ne (pv 3) pe_int (nomark _)) (pa_cons pe_bl (pa_cons pe_bl pa_nil)))) pa_nil)) (nomark _)))))))), ?_⟩
    obtain ⟨p, c, n, rfl, P, hn, k⟩ := h
    refine ⟨_, rfl, p, c, n, rfl, P, by omega, fun q t b H1 nq np hq hb ht hbb P1 B1 => ?_⟩
    refine ⟨_, rfl, q, _, 0, _, rfl, rfl, .inl (.inl hq), atI_nat (j := 0) rfl, _, rfl, q, _, 1, _, rfl, rfl, .inl (.inl hq), atI_nat (j := 1) rfl, t, b, rfl, hb, log2_200 (lt200 hbb), fun a H2 e2 n2 ra => ?_⟩
    have hq2 := e2 _ _ hq
    refine ⟨_, rfl, q, _, 0, _, rfl, rfl, .inl (.inl hq2), atI_nat (j := 0) rfl, _, rfl, q, _, 1, _, rfl, rfl, .inl (.inl hq2), atI_nat (j := 1) rfl, t, b, rfl, hb, log2_200 (lt200 hbb), fun l H3 e3 n3 hl => ?_⟩
    refine ⟨by show 2 ≤ sizeLine; decide, fun u w => ⟨u, _, rfl, .inl (.inl upd_same), rfl, _, _, rfl, _, _, rfl, l, _, rfl, .inl (.inl (ext_new w _ _ hl)), rfl, _, _, rfl, _, _, rfl, rfl, rfl, ?_⟩⟩
    have e4 := e3.trans (ext_new (o := .tup [.ref a, .ref l]) w)
    have ra4 := Gs.Rat.ext ra e4
    obtain ⟨dx, hx⟩ := id ra4
    have s := sm_least2 hb (lt200 ht) (lt200 hbb)
    have d0 := r_pos t hb
    refine ⟨_, rfl, a, dx, _, rfl, hx, rfl, a, (rN t b, rD t b), rfl, ra4, s, Int.ne_of_gt d0, _, rfl, a, dx, _, rfl, hx, rfl, a, (rN t b, rD t b), rfl, ra4, s, Int.ne_of_gt d0, _, _, rfl, ?_⟩
    obtain ⟨f1, f2⟩ := flo_ok (t := rN t b) d0
    obtain ⟨g1, g2⟩ := cei_ok (t := rN t b) d0
    have q1 : ((rN t b).fdiv (rD t b)).natAbs < 2 ^ 4001 := by
      have := fdiv_le (rN t b) (rD t b)
      have h := s.1
      have e : (2 : Nat) ^ 4001 = 2 ^ 4000 + 2 ^ 4000 := by rw [show 4001 = 4000 + 1 from rfl, Nat.pow_succ, Nat.mul_two]
      have p : 0 < (2 : Nat) ^ 4000 := Nat.two_pow_pos _
      rw [e]
      generalize (2 : Nat) ^ 4000 = N at *
      omega
    have q1' : ((rN t b).fdiv (rD t b) + 1).natAbs < 2 ^ 4002 := by
      have e : (2 : Nat) ^ 4002 = 2 ^ 4001 + 2 ^ 4001 := by rw [show 4002 = 4001 + 1 from rfl, Nat.pow_succ, Nat.mul_two]
      have p : 0 < (2 : Nat) ^ 4001 := Nat.two_pow_pos _
      rw [e]
      generalize (2 : Nat) ^ 4001 = N at *
      omega
    have q2 : (-((-(rN t b)).fdiv (rD t b))).natAbs < 2 ^ 4001 := by
      have := fdiv_le (-(rN t b)) (rD t b)
      have h := s.1
      have e : (2 : Nat) ^ 4001 = 2 ^ 4000 + 2 ^ 4000 := by rw [show 4001 = 4000 + 1 from rfl, Nat.pow_succ, Nat.mul_two]
      have p : 0 < (2 : Nat) ^ 4000 := Nat.two_pow_pos _
      rw [e]
      generalize (2 : Nat) ^ 4000 = N at *
      omega
    have q2' : (-((-(rN t b)).fdiv (rD t b)) - 1).natAbs < 2 ^ 4002 := by
      have e : (2 : Nat) ^ 4002 = 2 ^ 4001 + 2 ^ 4001 := by rw [show 4002 = 4001 + 1 from rfl, Nat.pow_succ, Nat.mul_two]
      have p : 0 < (2 : Nat) ^ 4001 := Nat.two_pow_pos _
      rw [e]
      generalize (2 : Nat) ^ 4001 = N at *
      omega
    refine ⟨_, rfl, _, rfl, _, _, rfl, rfl, wide_mul q1 s.2 (by decide) (by decide) (by decide), _, rfl, _, _, rfl, rfl, true, congrArg V.bl (decide_eq_true f1), ?_⟩
    rw [if_pos rfl]
    refine ⟨_, rfl, _, _, rfl, rfl, _, rfl, _, _, rfl, rfl, wide_mul q1' s.2 (by decide) (by decide) (by decide), _, _, rfl, rfl, true, congrArg V.bl (decide_eq_true f2), iteF ?_⟩
    refine ⟨_, rfl, _, _, rfl, rfl, _, rfl, _, _, rfl, rfl, wide_mul q2' s.2 (by decide) (by decide) (by decide), _, rfl, _, _, rfl, rfl, true, congrArg V.bl (decide_eq_true g1), ?_⟩
    rw [if_pos rfl]
    refine ⟨_, rfl, _, rfl, _, _, rfl, rfl, wide_mul q2 s.2 (by decide) (by decide) (by decide), _, _, rfl, rfl, true, congrArg V.bl (decide_eq_true g2), iteF ?_⟩
    obtain ⟨y1, y2, y3⟩ := odd_int (K := K) (H := upd H3 u (.tup [.ref a, .ref l])) (v := .int ((rN t b).fdiv (rD t b))) trivial
    obtain ⟨z1, z2, z3⟩ := odd_int (K := K) (H := upd H3 u (.tup [.ref a, .ref l])) (v := .int (-((-(rN t b)).fdiv (rD t b)))) trivial
    refine ⟨_, rfl, a, dx, _, rfl, hx, a, (rN t b, rD t b), rfl, ra4, _, rfl, _, rfl, _, _, y1, _, _, rfl, .ty _, y2, y3, _, rfl, _, _, z1, _, _, rfl, .ty _, z2, z3, by show 3 ≤ sizeLine; decide, fun l3 w3 => ?_⟩
    have sh : ∀ {H : Hp} {l : Addr}, H l = some (.lst [.bl (!decide (rN t b = 0)), .bl true, .bl true]) → Shw K H (.ref l) (.list [.bool (!decide (rN t b = 0)), .bool true, .bool true]) := fun h => .data (.lst (SqL.of h) (.cons (.bl _) (.cons (.bl _) (.cons (.bl _) .nil))))
    refine ⟨_, _, rfl, sh upd_same, fine3 _ _ _, _, rfl, rfl, by show 3 ≤ sizeLine; decide, fun l4 w4 => ?_⟩
    refine ⟨_, _, rfl, sh (by rw [upd_same, dec_V]), fine3 _ _ _, scal_str _ _, ?_⟩
    rw [decide_eq_true rfl]
    have ef := e2.trans ((e4.trans (ext_new (o := .lst [.bl (!decide (rN t b = 0)), .bl true, .bl true]) w3)).trans (ext_new (o := .lst [.bl (!decide (V.int (rN t b) = V.int 0)), .bl true, .bl true]) w4))
    exact k _ ((P1.ext ef).mono (by omega)) (B1.trans ef.but)
end
end K06

set_option maxRecDepth 100000
set_option maxHeartbeats 4000000
namespace K06
open PySem PySem.Spec PyProof.Rows Gs
open L2 hiding Ext paired_get
open C8 (tCut pss_cut)
theorem div_go {K : PySem.W.Frag} {C CB : Addr} {H : Hp} {v1 v2 : V} {x y : PII} {Q : VK} {E : XK} {nm : String} {G : Addr → PII → PII → Hp → VK → Prop} (r1 : RatOf C H v1 x) (r2 : RatOf C H v2 y) (hb : isRf v1 = true ∨ isRf v2 = true) (s1 : Sm x) (s2 : Sm y) (p1 : 0 < x.2) (p2 : 0 < y.2) (p3 : 0 < y.1)
    (k : ∀ H', Gs.Ext H H' → G C x y H' Q) : rBinO K C nm (spDivL K C CB G) (spDivR K C CB G) E v1 v2 H Q := by
  rcases id r1 with ⟨rfl, e1⟩ | ⟨a, rfl, ra⟩
  · rcases id r2 with ⟨rfl, e2⟩ | ⟨b, rfl, rb⟩
    · rcases hb with z | z <;> cases z
    · obtain ⟨dy, hy⟩ := id rb
      exact .inr ⟨b, dy, _, rfl, hy, .inl ⟨_, rfl⟩, b, y, _, rfl, rb, s2, p2, num_wants r1 ⟨s1, p1, fun z => by omega, fun _ H' e => k H' e⟩⟩
  · obtain ⟨dx, hx⟩ := id ra
    refine .inl ⟨a, dx, _, rfl, hx, ?_, a, x, v2, rfl, ra, s1, p1, num_wants r2 ⟨s2, p2, fun z => by omega, fun _ H' e => k H' e⟩⟩
    rcases id r2 with ⟨rfl, e2⟩ | ⟨b, rfl, rb⟩
    · exact .inr (.inl ⟨_, rfl⟩)
    · obtain ⟨dy, hy⟩ := id rb
      exact .inl ⟨b, dy, _, rfl, hy⟩
theorem ipd_go {K : PySem.W.Frag} {C CB : Addr} {H : Hp} {v1 v2 : V} {x y : PII} {Q : VK} {E : XK} {nm : String} {G : Addr → PII → PII → Hp → VK → Prop} (r1 : RatOf C H v1 x) (r2 : RatOf C H v2 y) (hb : isRf v1 = true ∨ isRf v2 = true) (s1 : Sm x) (s2 : Sm y) (p1 : 0 < x.2) (p2 : 0 < y.2) (p3 : 0 < y.1)
    (k : ∀ H', Gs.Ext H H' → G C x y H' Q) : rInpO K C nm (spDivL K C CB G) (spDivR K C CB G) E v1 v2 H Q := by
  refine ⟨?_, div_go r1 r2 hb s1 s2 p1 p2 p3 k⟩
  rcases id r1 with ⟨rfl, e1⟩ | ⟨a, rfl, ⟨dx, hx⟩⟩
  · exact .inl ⟨_, rfl⟩
  · exact .inr ⟨a, dx, _, rfl, hx⟩
theorem rr_pos {x : PII} (b : x.2 ≠ 0) (h : 0 < x.1) (hb : 0 < x.2) : 0 < (RR x).1 := by
  obtain ⟨e1, e2⟩ := r_mul x.1 b
  have d := r_pos x.1 b
  have g : 0 < rG x.1 x.2 := by
    rcases Int.lt_or_le 0 (rG x.1 x.2) with q | q
    · exact q
    · have : rG x.1 x.2 * rD x.1 x.2 ≤ 0 := Int.mul_nonpos_of_nonpos_of_nonneg q (by omega)
      omega
  show 0 < rN x.1 x.2
  rcases Int.lt_or_le 0 (rN x.1 x.2) with q | q
  · exact q
  · have : rG x.1 x.2 * rN x.1 x.2 ≤ 0 := Int.mul_nonpos_of_nonneg_of_nonpos (by omega) q
    omega
/-- the rest by the law's own sums, and by the package's: least terms of both are the same -/
theorem rest_same {x y : PII} (hx : x.2 ≠ 0) (hy : y.2 ≠ 0) : ∃ g : Int, g ≠ 0 ∧ x.1 * y.2 - QuoP (RR x) (RR y) * y.1 * x.2 = g * (RemP (RR x) (RR y)).1 ∧ x.2 * y.2 = g * (RemP (RR x) (RR y)).2 := by
  obtain ⟨e1, e2⟩ := r_mul x.1 hx
  obtain ⟨e3, e4⟩ := r_mul y.1 hy
  refine ⟨rG x.1 x.2 * rG y.1 y.2, Int.mul_ne_zero (rG_ok _ hx) (rG_ok _ hy), ?_, ?_⟩
  · show _ = _ * ((rN x.1 x.2) * (rD y.1 y.2) - QuoP (RR x) (RR y) * (rN y.1 y.2) * (rD x.1 x.2))
    generalize QuoP (RR x) (RR y) = q
    clear hx hy
    obtain ⟨x1, x2⟩ := x
    obtain ⟨y1, y2⟩ := y
    dsimp only at *
    generalize rN x1 x2 = a at *
    generalize rD x1 x2 = b at *
    generalize rN y1 y2 = c at *
    generalize rD y1 y2 = d at *
    generalize rG x1 x2 = g at *
    generalize rG y1 y2 = h at *
    subst e1 e2 e3 e4
    rw [Int.mul_sub]
    congr 1
    · simp only [Int.mul_assoc, Int.mul_left_comm, Int.mul_comm]
    · simp only [Int.mul_assoc, Int.mul_left_comm, Int.mul_comm]
  · show _ = _ * ((rD x.1 x.2) * (rD y.1 y.2))
    clear hx hy
    obtain ⟨x1, x2⟩ := x
    obtain ⟨y1, y2⟩ := y
    dsimp only at *
    generalize rN x1 x2 = a at *
    generalize rD x1 x2 = b at *
    generalize rN y1 y2 = c at *
    generalize rD y1 y2 = d at *
    generalize rG x1 x2 = g at *
    generalize rG y1 y2 = h at *
    subst e1 e2 e3 e4
    simp only [Int.mul_assoc, Int.mul_left_comm]
theorem rest_least {x y : PII} (hx : x.2 ≠ 0) (hy : y.2 ≠ 0) : rN (RemP (RR x) (RR y)).1 (RemP (RR x) (RR y)).2 = rN (x.1 * y.2 - QuoP (RR x) (RR y) * y.1 * x.2) (x.2 * y.2) ∧ rD (RemP (RR x) (RR y)).1 (RemP (RR x) (RR y)).2 = rD (x.1 * y.2 - QuoP (RR x) (RR y) * y.1 * x.2) (x.2 * y.2) := by
  obtain ⟨g, hg, e1, e2⟩ := rest_same hx hy
  have hb : (RemP (RR x) (RR y)).2 ≠ 0 := Int.mul_ne_zero (Int.ne_of_gt (r_pos _ hx)) (Int.ne_of_gt (r_pos _ hy))
  obtain ⟨z1, z2⟩ := r_scale (t := (RemP (RR x) (RR y)).1) hb hg
  rw [e1, e2]
  exact ⟨z1.symm, z2.symm⟩
/-- the rest lies from 0 up to below the divisor -/
theorem rest_in {x y : PII} (hx : x.2 ≠ 0) (hy1 : 0 < y.1) (hy : 0 < y.2) :
    0 ≤ rN (x.1 * y.2 - QuoP (RR x) (RR y) * y.1 * x.2) (x.2 * y.2) * y.2 ∧ rN (x.1 * y.2 - QuoP (RR x) (RR y) * y.1 * x.2) (x.2 * y.2) * y.2 < y.1 * rD (x.1 * y.2 - QuoP (RR x) (RR y) * y.1 * x.2) (x.2 * y.2) := by
  obtain ⟨z1, z2⟩ := rest_least (x := x) (y := y) hx (by omega)
  rw [← z1, ← z2]
  have px : 0 < (RR x).2 := r_pos _ hx
  have py : 0 < (RR y).2 := r_pos _ (by omega)
  have pn : 0 < (RR y).1 := rr_pos (by omega) hy1 hy
  obtain ⟨e3, e4⟩ := r_mul y.1 (show y.2 ≠ 0 by omega)
  have e3 : rG y.1 y.2 * (RR y).1 = y.1 := e3
  have e4 : rG y.1 y.2 * (RR y).2 = y.2 := e4
  have hg : 0 < rG y.1 y.2 := by
    rcases Int.lt_or_le 0 (rG y.1 y.2) with q | q
    · exact q
    · have : rG y.1 y.2 * (RR y).2 ≤ 0 := Int.mul_nonpos_of_nonpos_of_nonneg q (by omega)
      omega
  have hR : 0 < (RemP (RR x) (RR y)).2 := Int.mul_pos px py
  obtain ⟨f1, f2⟩ := r_mul (RemP (RR x) (RR y)).1 (Int.ne_of_gt hR)
  have d := r_pos (RemP (RR x) (RR y)).1 (Int.ne_of_gt hR)
  have hT : 0 ≤ (RemP (RR x) (RR y)).1 ∧ (RemP (RR x) (RR y)).1 < (RR x).2 * (RR y).1 := by
    have D : 0 < (RR x).2 * (RR y).1 := Int.mul_pos px pn
    show 0 ≤ (RR x).1 * (RR y).2 - ((RR x).1 * (RR y).2).fdiv ((RR x).2 * (RR y).1) * (RR y).1 * (RR x).2 ∧ (RR x).1 * (RR y).2 - ((RR x).1 * (RR y).2).fdiv ((RR x).2 * (RR y).1) * (RR y).1 * (RR x).2 < _
    rw [Int.mul_assoc _ (RR y).1, Int.mul_comm (RR y).1 (RR x).2]
    obtain ⟨a1, a2⟩ := flo_ok (t := (RR x).1 * (RR y).2) D
    generalize ((RR x).1 * (RR y).2).fdiv ((RR x).2 * (RR y).1) = q at *
    generalize (RR x).2 * (RR y).1 = z at *
    rw [Int.add_mul, Int.one_mul] at a2
    omega
  have eR : (RemP (RR x) (RR y)).2 = (RR x).2 * (RR y).2 := rfl
  generalize (RemP (RR x) (RR y)).1 = T at *
  generalize (RemP (RR x) (RR y)).2 = B at *
  generalize rN T B = m at *
  generalize rD T B = e at *
  generalize rG T B = G at *
  generalize rG y.1 y.2 = h at *
  have hG : 0 < G := by
    rcases Int.lt_or_le 0 G with q | q
    · exact q
    · have : G * e ≤ 0 := Int.mul_nonpos_of_nonpos_of_nonneg q (by omega)
      omega
  have hm : 0 ≤ m := by
    rcases Int.lt_or_le m 0 with q | q
    · have : G * m < 0 := Int.mul_neg_of_pos_of_neg hG q
      omega
    · exact q
  refine ⟨Int.mul_nonneg hm (by omega), ?_⟩
  refine Int.lt_of_mul_lt_mul_left (a := G) ?_ (by omega)
  rw [← Int.mul_assoc, f1, Int.mul_left_comm, f2, eR, ← e3, ← e4, Int.mul_left_comm]
  have : h * (T * (RR y).2) < h * ((RR x).2 * (RR y).1 * (RR y).2) := Int.mul_lt_mul_of_pos_left (Int.mul_lt_mul_of_pos_right hT.2 py) hg
  refine Int.lt_of_lt_of_le this (Int.le_of_eq ?_)
  simp only [Int.mul_assoc, Int.mul_left_comm]
section
variable {P : Program} {w : World} {K : PySem.W.Frag} {mg : Str → Option Value} {base : Heap}
end
end K06

set_option maxRecDepth 100000
set_option maxHeartbeats 4000000
namespace K06
open PySem PySem.Spec PyProof.Rows Gs
open L2 hiding Ext paired_get
open C8 (tCut pss_cut)
section
variable {P : Program} {w : World} {K : PySem.W.Frag} {mg : Str → Option Value} {base : Heap}
theorem sc__law_divided_right : FnScope ["pen", "one_so", "above_so", "two_so", "first_so", "second_so", "many", "held_so", "less", "top", "bottom"] ["pen"] (defScope s__law_divided_right) := ⟨rfl, rfl, rfl, by decide +kernel, rfl, by decide +kernel, by decide +kernel⟩
theorem d__law_divided_right (T : Txt K mg) (RF : RatF K (He.ga K "Ratio")) (D_law_pick : DefOk P w K mg base CX0 2 "_law_pick" ["pen", "some"] [] (spPick K)) (D_law_draw : DefOk P w K mg base CX0 1 "_law_draw" ["pen", "many"] [] spDraw) (D_law_pair : DefOk P w K mg base CX0 3 "_law_pair" ["pen"] [] spPair) (D_law_number : DefOk P w K mg base CX0 5 "_law_number" ["pen", "pair"] [] (spNumber K)) (D_law_least : DefOk P w K mg base CX0 2 "_law_least" ["top", "bottom"] [] spLeast) (D_law_got : DefOk P w K mg base CX0 1 "_law_got" ["made"] [] (spGot K)) (M_Ratio : Mk K (He.ga K "Ratio") (He.ma K (He.ga K "Ratio") "__init__"))(D_Ratio2 : FunOk P w K mg base (L2.CX P w) 3 (He.ma K (He.ga K "Ratio") "__init__") ["self", "over", "under"] [] (spInit K (He.ga K "Ratio") (He.ga K "BadRatio")))(DL_floordiv : FunOk P w K mg base (L2.CX P w) 7 (He.ma K (He.ga K "Ratio") "__floordiv__") ["self", "other"] [] (spDivL K (He.ga K "Ratio") (He.ga K "BadRatio") GQuo)) (DR_floordiv : FunOk P w K mg base (L2.CX P w) 7 (He.ma K (He.ga K "Ratio") "__rfloordiv__") ["self", "other"] [] (spDivR K (He.ga K "Ratio") (He.ga K "BadRatio") GQuo)) (OW_floordiv : OwnB K (He.ga K "Ratio") "floordiv" (He.ma K (He.ga K "Ratio") "__floordiv__") (He.ma K (He.ga K "Ratio") "__rfloordiv__")) (IN_floordiv : InpF K (He.ga K "Ratio") "floordiv") (DL_mod : FunOk P w K mg base (L2.CX P w) 7 (He.ma K (He.ga K "Ratio") "__mod__") ["self", "other"] [] (spDivL K (He.ga K "Ratio") (He.ga K "BadRatio") GRem)) (DR_mod : FunOk P w K mg base (L2.CX P w) 7 (He.ma K (He.ga K "Ratio") "__rmod__") ["self", "other"] [] (spDivR K (He.ga K "Ratio") (He.ga K "BadRatio") GRem)) (OW_mod : OwnB K (He.ga K "Ratio") "mod" (He.ma K (He.ga K "Ratio") "__mod__") (He.ma K (He.ga K "Ratio") "__rmod__")) (IN_mod : InpF K (He.ga K "Ratio") "mod") (NF : ∀ T ∈ T7, PySem.W.subIn K (.type T) (.ref (He.ga K "Ratio")) = some false)  (A0 : At K mg "_law_divided_right" s__law_divided_right) : DefG P w K mg base CX0 9 "_law_divided_right" ["pen"] [] spRight := by
  refine At.okG A0 sc__law_divided_right (fun _ _ F => F.bindsN fun _ _ _ _ _ _ us hl => match us, hl with | [_], _ => rfl) (fun vs H Q E h => ?_) (fun f cdv A out s H vs Q E hG hr h => ?_)
  · obtain ⟨p, c, n, rfl, _⟩ := h; rfl
  · have nd := sc__law_divided_right.nd
    refine ⟨_, (pss_cons (ps_set (i := 1) nd rfl (Or.inl rfl) (pe_d D_law_pair (hr.mono (by decide)) pass0 (pa_cons (pv 0) pa_nil)))
          (pss_cons (ps_set (i := 2) nd rfl (Or.inl rfl) (pe_d D_law_pick (hr.mono (by decide)) pass0 (pa_cons (pv 0) (pa_cons (pe_lst (pa_cons pe_int (pa_cons pe_int (pa_cons pe_int (pa_cons pe_int (pa_cons (pe_op op_pow pe_int pe_int) (pa_cons (pe_op op_add pe_int (pe_d D_law_draw (hr.mono (by decide)) pass0 (pa_cons (pv 0) (pa_cons pe_int pa_nil)))) pa_nil))))))) pa_nil))))
          (pss_cons (ps_set (i := 3) nd rfl (Or.inl rfl) (pe_tup (pa_cons (pv 2) (pa_cons (pe_d D_law_pick (hr.mono (by decide)) pass0 (pa_cons (pv 0) (pa_cons (pe_lst (pa_cons pe_int (pa_cons pe_int (pa_cons pe_int (pa_cons pe_int (pa_cons pe_int (pa_cons (pe_op op_pow pe_int pe_int) pa_nil))))))) pa_nil))) pa_nil))))
          (pss_cut (ps_if (pt_cmpR op_eq (pe_d D_law_draw (hr.mono (by decide)) pass0 (pa_cons (pv 0) (pa_cons pe_int pa_nil))) pe_int (nomark _)) (pss_one (ps_set (i := 1) nd rfl (Or.inl rfl) (pe_tup (pa_cons (pe_op op_mulW (pe_ix ix_tup (pv 3) pe_int (fun _ _ => rfl)) (pe_op op_sub (pe_d D_law_draw (hr.mono (by decide)) pass0 (pa_cons (pv 0) (pa_cons pe_int pa_nil))) pe_int)) (pa_cons (pe_ix ix_tup (pv 3) pe_int (fun _ _ => rfl)) pa_nil))))) pss_nil)
          (pss_cons (ps_par (i := 4) (j := 5) rfl nd rfl rfl (by decide) rfl rfl (pa_cons (pe_d D_law_number (hr.mono (by decide)) pass0 (pa_cons (pv 0) (pa_cons (pv 1) pa_nil))) (pa_cons (pe_d D_law_number (hr.mono (by decide)) pass0 (pa_cons (pv 0) (pa_cons (pv 3) pa_nil))) pa_nil)) (by rfl))
          (pss_cut (ps_if (PW.pt (pw_and (pt_not (pt_val (pe_callB call_isi (by rfl) T.f_isinstance (by decide +kernel) (pa_cons (pv 4) (pa_cons (pe_glob (v := .ref (He.ga K "Ratio")) (by rfl) T.c_Ratio rfl) pa_nil))))) (pw_and1 (pt_not (pt_val (pe_callB call_isi (by rfl) T.f_isinstance (by decide +kernel) (pa_cons (pv 5) (pa_cons (pe_glob (v := .ref (He.ga K "Ratio")) (by rfl) T.c_Ratio rfl) pa_nil)))))))) (pss_one (ps_set (i := 4) nd rfl (Or.inl rfl) (pe_mk2 (pe_mkF M_Ratio T.c_Ratio D_Ratio2 (hr.mono (by decide)) passL (taM_ok (pa_cons (pe_ix ix_tup (pv 1) pe_int (fun _ _ => rfl)) (pa_cons (pe_ix ix_tup (pv 1) pe_int (fun _ _ => rfl)) pa_nil))))))) pss_nil)
          (pss_cons (ps_par3 (i := 6) (j := 7) (l := 8) rfl nd rfl rfl rfl (by decide) (by decide) (by decide) rfl rfl rfl (pa_cons (pe_op (show OpR _ _ (rBinO K (He.ga K "Ratio") "floordiv" (spDivL K (He.ga K "Ratio") (He.ga K "BadRatio") GQuo) (spDivR K (He.ga K "Ratio") (He.ga K "BadRatio") GQuo) E0) from op_binO (op := .FloorDiv) DL_floordiv DR_floordiv OW_floordiv (hr.mono (by decide)) (hr.mono (by decide)) passL) (pv 4) (pv 5)) (pa_cons (pv 4) (pa_cons (pv 4) pa_nil))) (by rfl))
          (pss_cons (ps_aug (i := 7) nd rfl (.inl rfl) (pv 5) (show PIp _ .FloorDiv (rInpO K (He.ga K "Ratio") "floordiv" (spDivL K (He.ga K "Ratio") (He.ga K "BadRatio") GQuo) (spDivR K (He.ga K "Ratio") (He.ga K "BadRatio") GQuo) E0) from ip_binO (op := .FloorDiv) DL_floordiv DR_floordiv OW_floordiv IN_floordiv (hr.mono (by decide)) (hr.mono (by decide)) passL))
          (pss_cons (ps_aug (i := 8) nd rfl (.inl rfl) (pv 5) (show PIp _ .Mod (rInpO K (He.ga K "Ratio") "mod" (spDivL K (He.ga K "Ratio") (He.ga K "BadRatio") GRem) (spDivR K (He.ga K "Ratio") (He.ga K "BadRatio") GRem) E0) from ip_binO (op := .Mod) DL_mod DR_mod OW_mod IN_mod (hr.mono (by decide)) (hr.mono (by decide)) passL))
          (pss_cons (ps_asg (pe_d D_law_least (hr.mono (by decide)) pass0 (pa_cons (pe_op op_sub (pe_op op_mulW (pe_ix ix_tup (pv 1) pe_int (fun _ _ => rfl)) (pe_ix ix_tup (pv 3) pe_int (fun _ _ => rfl))) (pe_op op_mulW (pe_op op_mulW (pv 6) (pe_ix ix_tup (pv 3) pe_int (fun _ _ => rfl))) (pe_ix ix_tup (pv 1) pe_int (fun _ _ => rfl)))) (pa_cons (pe_op op_mulW (pe_ix ix_tup (pv 1) pe_int (fun _ _ => rfl)) (pe_ix ix_tup (pv 3) pe_int (fun _ _ => rfl))) pa_nil))) (pg_tup (by rfl) (pgs_cons (pg_name (i := 9) nd rfl (Or.inl rfl)) (pgs_cons (pg_name (i := 10) nd rfl (Or.inl rfl)) pgs_nil))))
          (pss_cons (ps_if (PW.pt (pw_or (pt_val (pe_callB call_isi (by rfl) T.f_isinstance (by decide +kernel) (pa_cons (pv 6) (pa_cons (pe_bltn (v := .ty "bool") (by rfl) T.f_bool (by decide +kernel) rfl) pa_nil)))) (pw_or (pt_not (pt_val (pe_callB call_isi (by rfl) T.f_isinstance (by decide +kernel) (pa_cons (pv 6) (pa_cons (pe_bltn (v := .ty "int") (by rfl) T.f_int (by decide +kernel) rfl) pa_nil))))) (pw_or1 (pt_not (pt_chain op_le op_lt pe_int (pe_op op_mulW (pv 9) (pe_ix ix_tup (pv 3) pe_int (fun _ _ => rfl))) (pe_op op_mulW (pe_ix ix_tup (pv 3) pe_int (fun _ _ => rfl)) (pv 10)))))))) (pss_one (ps_ret pe_bl)) pss_nil)
          (pss_one (ps_ret (pe_and (pe_cmpR op_eq (pv 7) (pv 6) (nomark _)) (pe_one (pe_cmpR (op_eqD hr.units) (pe_lst (pa_cons (pe_d D_law_got (hr.mono (by decide)) pass0 (pa_cons (pe_op (show OpR _ _ (rBinO K (He.ga K "Ratio") "mod" (spDivL K (He.ga K "Ratio") (He.ga K "BadRatio") GRem) (spDivR K (He.ga K "Ratio") (He.ga K "BadRatio") GRem) E0) from op_binO (op := .Mod) DL_mod DR_mod OW_mod (hr.mono (by decide)) (hr.mono (by decide)) passL) (pv 4) (pv 5)) pa_nil)) (pa_cons (pe_d D_law_got (hr.mono (by decide)) pass0 (pa_cons (pv 8) pa_nil)) pa_nil))) (pe_op op_rep (pe_lst (pa_cons (pe_tup (pa_cons (pv 9) (pa_cons (pv 10) pa_nil))) pa_nil)) pe_int) (nomark _))))))))))))))))), ?_⟩
    obtain ⟨p, c, n, rfl, P, hn, k⟩ := h
    refine ⟨_, rfl, p, c, n, rfl, P, by omega, fun q1 t1 b1 H1 nq1 np1 hq1 hb1 ht1 hbb1 P1 B1 => ?_⟩
    refine ⟨_, rfl, _, _, rfl, rfl, ⟨by decide, by decide, by decide⟩, _, rfl, p, c, _, 90, rfl, P1, by omega, by decide, by decide, fun d H2 d0 d1 P2 B2 => ?_⟩
    refine ⟨_, _, rfl, rfl, by show 6 ≤ sizeLine; decide, fun l hl => ?_⟩
    refine ⟨p, c, l, _, _, rfl, P2.new hl, by omega, SqL.of upd_same, P2.np hl, by simp, by show 6 < 1000000; decide, fun i x H3 hx P3 B3 => ?_⟩
    obtain ⟨t2, rfl, _, ht2, htt2⟩ := int_of_menu (zs := [1, 2, 3, 21, 10 ^ (29 : Int).toNat, 1 + d]) (p := fun i => 0 < i ∧ i.natAbs < 2 ^ 100) (by
      intro z hz
      simp only [List.mem_cons, List.not_mem_nil, or_false] at hz
      rcases hz with rfl | rfl | rfl | rfl | rfl | rfl
      all_goals first
        | decide +kernel
        | exact ⟨by omega, Nat.lt_of_le_of_lt (show (1 + d).natAbs ≤ 91 by omega) (by decide +kernel)⟩) hx
    refine ⟨_, rfl, _, rfl, _, _, rfl, rfl, ⟨by decide, by decide, by decide⟩, by show 6 ≤ sizeLine; decide, fun l2 hl2 => ?_⟩
    refine ⟨p, c, l2, _, _, rfl, P3.new hl2, by omega, SqL.of upd_same, P3.np hl2, by simp, by show 6 < 1000000; decide, fun i2 x2 H4 hx2 P4 B4 => ?_⟩
    obtain ⟨b2, rfl, _, hb2, hbb2⟩ := int_of_menu (zs := [1, 1, 2, 7, 60, 10 ^ (29 : Int).toNat]) (p := fun i => 0 < i ∧ i.natAbs < 2 ^ 100) (by
      intro z hz
      simp only [List.mem_cons, List.not_mem_nil, or_false] at hz
      rcases hz with rfl | rfl | rfl | rfl | rfl | rfl
      all_goals decide +kernel) hx2
    refine ⟨by show 2 ≤ sizeLine; decide, fun q2 w2 => ?_⟩
    have B14 : But p H1 H4 := ((B2.new hl).trans B3).new hl2 |>.trans B4
    have P5 := P4.new (o := .tup [.int t2, .int b2]) w2
    have np2 := P4.np w2
    have hq2 := upd_same (H := H4) (a := q2) (o := HO.tup [.int t2, .int b2])
    have hq1' := (B14.new (o := .tup [.int t2, .int b2]) w2) _ _ hq1 np1
    have B5 : But p H (upd H4 q2 (.tup [.int t2, .int b2])) := B1.trans (B14.new w2)
    generalize upd H4 q2 (.tup [.int t2, .int b2]) = H5 at P5 hq2 hq1' B5 ⊢
    clear P4 P3 P2 B14 hx hx2 hl hl2 w2 hq1 B1 B2 B3 B4 P1
    refine ⟨fun σ' H6 => ∃ u1 t b, σ' = [some (.ref p), some (.ref u1), some (.int t2), some (.ref q2), none, none, none, none, none, none, none] ∧ u1 ≠ p ∧ H6 u1 = some (.tup [.int t, .int b]) ∧ b ≠ 0 ∧ t.natAbs < 2 ^ 200 ∧ b.natAbs < 2 ^ 200 ∧ H6 q2 = some (.tup [.int t2, .int b2]) ∧ Pen H6 p c (n + 14) ∧ But p H H6, ?_, ?_⟩
    · refine ⟨_, rfl, p, c, _, 4, rfl, P5, by omega, by decide, by decide, fun j Hj j0 j2 Pj Bj => ⟨rfl, _, rfl, ?_⟩⟩
      have hqj := Bj _ _ hq2 np2
      cases hj : decide (V.int j = V.int 0) with
      | true =>
        refine iteT ⟨_, rfl, q2, _, 0, _, rfl, rfl, .inl (.inl hqj), atI_nat (j := 0) rfl, _, rfl, p, c, _, 9, rfl, Pj, by omega, by decide, by decide, fun g Hg g0 g2 Pg Bg => ?_⟩
        have hqg := Bg _ _ hqj np2
        have hg : (g - 4).natAbs < 2 ^ 4 := by omega
        refine ⟨_, _, rfl, rfl, _, _, rfl, rfl, wide_mul htt2 hg (by decide) (by decide) (by decide), _, rfl, q2, _, 1, _, rfl, rfl, .inl (.inl hqg), atI_nat (j := 1) rfl, by show 2 ≤ sizeLine; decide, fun u w => ?_⟩
        have ew := ext_new (o := .tup [.int (t2 * (g - 4)), .int b2]) w
        exact ⟨u, _, _, rfl, Pg.np w, upd_same, by omega, Nat.lt_of_lt_of_le (mul_lt htt2 hg) (Nat.pow_le_pow_right (by decide) (by decide)), lt200 hbb2, ew _ _ hqg, (Pg.new w).mono (by omega), ((B5.trans Bj).trans Bg).new w⟩
      | false => exact iteF ⟨q1, t1, b1, rfl, np1, Bj _ _ hq1' np1, hb1, lt200 ht1, lt200 hbb1, hqj, Pj.mono (by omega), B5.trans Bj⟩
    rintro σ' H6 ⟨u1, t, b, rfl, nu1, hu1, hb, ht, hbb, hqq, P6, B6⟩
    clear hq1' hq2 hb1 ht1 hbb1 P5 B5
    refine ⟨_, rfl, _, rfl, p, c, _, u1, t, b, rfl, P6, by omega, hu1, hb, ⟨ht, hbb⟩, fun v1 H7 r1 P7 B7 => ?_⟩
    refine ⟨_, rfl, _, rfl, p, c, _, q2, t2, b2, rfl, P7, by omega, B7 _ _ hqq np2, by omega, ⟨lt200 htt2, lt200 hbb2⟩, fun v2 H8 r2 P8 B8 => ⟨_, _, rfl, ?_⟩⟩
    have r1' := ratOf_but P7 r1 B8
    have hu8 := B8 _ _ (B7 _ _ hu1 nu1) nu1
    have hq8 := B8 _ _ (B7 _ _ hqq np2) np2
    have B68 := (B6.trans B7).trans B8
    clear r1 hu1 hqq P6 P7 B6 B7 B8
    refine ⟨fun σ' H9 => ∃ v, σ' = [some (.ref p), some (.ref u1), some (.int t2), some (.ref q2), some v, some v2, none, none, none, none, none] ∧ Gs.Ext H8 H9 ∧ RatOf (He.ga K "Ratio") H9 v (RR (t, b)) ∧ (isRf v = true ∨ isRf v2 = true), ?_, ?_⟩
    · obtain ⟨y1, ty1, _, k1⟩ := num_ty RF NF r1'
      obtain ⟨y2, ty2, _, k2⟩ := num_ty RF NF r2
      refine ⟨_, rfl, _, _, y1, _, _, rfl, .own _, ty1, k1, _, rfl, ?_⟩
      cases z1 : isRf v1 with
      | true =>
        rw [if_neg (by simp)]
        exact iteF ⟨v1, rfl, Gs.Ext.refl _, r1', .inl z1⟩
      | false =>
        rw [if_pos (by simp)]
        refine ⟨_, rfl, _, _, y2, _, _, rfl, .own _, ty2, k2, _, rfl, ?_⟩
        cases z2 : isRf v2 with
        | true => exact iteF ⟨v1, rfl, Gs.Ext.refl _, r1', .inr rfl⟩
        | false => exact iteT ⟨_, rfl, u1, _, 0, _, rfl, rfl, .inl (.inl hu8), atI_nat (j := 0) rfl, _, rfl, u1, _, 1, _, rfl, rfl, .inl (.inl hu8), atI_nat (j := 1) rfl, t, b, rfl, hb, log2_200 hbb, fun a H9 e9 n9 ra => ⟨.ref a, rfl, e9, .inr ⟨a, rfl, ra⟩, .inl rfl⟩⟩
    rintro σ' H9 ⟨w1, rfl, e9, r1, hrf⟩
    clear r1'
    have r2 : RatOf (He.ga K "Ratio") H9 v2 (RR (t2, b2)) := r2.ext e9
    have hu := e9 _ _ hu8
    have hq := e9 _ _ hq8
    have s1 : Sm (RR (t, b)) := sm_least2 hb ht hbb
    have s2 : Sm (RR (t2, b2)) := sm_least2 (by omega) (lt200 htt2) (lt200 hbb2)
    have d1 : 0 < (RR (t, b)).2 := r_pos t hb
    have d2 : 0 < (RR (t2, b2)).2 := r_pos t2 (by omega)
    have n2 : 0 < (RR (t2, b2)).1 := rr_pos (x := (t2, b2)) (show b2 ≠ 0 by omega) ht2 hb2
    refine ⟨_, rfl, _, rfl, div_go r1 r2 hrf s1 s2 d1 d2 n2 fun H10 e10 => ⟨_, rfl, _, rfl, _, _, _, rfl, ?_⟩⟩
    refine ⟨_, rfl, _, rfl, ipd_go (r1.ext e10) (r2.ext e10) hrf s1 s2 d1 d2 n2 fun H11 e11 => ?_⟩
    have e911 := e10.trans e11
    refine ⟨_, rfl, _, rfl, ipd_go (r1.ext e911) (r2.ext e911) hrf s1 s2 d1 d2 n2 fun Hx ex a1 H12 e12 n12 ra1 => ?_⟩
    have e912 := e911.trans (ex.trans e12)
    have hu12 := e912 _ _ hu
    have hq12 := e912 _ _ hq
    have q1w := quo_lt s1 s2
    have q2w := mul_lt q1w htt2
    refine ⟨_, rfl, u1, _, 0, _, rfl, rfl, .inl (.inl hu12), atI_nat (j := 0) rfl, _, rfl, q2, _, 1, _, rfl, rfl, .inl (.inl hq12), atI_nat (j := 1) rfl, _, _, rfl, rfl, wide_mul ht (lt200 hbb2) (by decide) (by decide) (by decide), _, rfl, _, rfl, q2, _, 0, _, rfl, rfl, .inl (.inl hq12), atI_nat (j := 0) rfl, _, _, rfl, rfl, wide_mul q1w htt2 (by decide) (by decide) (by decide), _, rfl, u1, _, 1, _, rfl, rfl, .inl (.inl hu12), atI_nat (j := 1) rfl, _, _, rfl, rfl, wide_mul q2w hbb (by decide) (by decide) (by decide), _, _, rfl, rfl, ?_⟩
    have hB : b * b2 ≠ 0 := Int.mul_ne_zero hb (by omega)
    have lB : (b * b2).natAbs.log2 < 8999 := by
      by_cases z : (b * b2).natAbs = 0
      · rw [z]
        decide
      · exact (Nat.log2_lt z).mpr (Nat.lt_of_lt_of_le (mul_lt hbb hbb2) (Nat.pow_le_pow_right (by decide) (by decide)))
    refine ⟨_, rfl, u1, _, 1, _, rfl, rfl, .inl (.inl hu12), atI_nat (j := 1) rfl, _, rfl, q2, _, 1, _, rfl, rfl, .inl (.inl hq12), atI_nat (j := 1) rfl, _, _, rfl, rfl, wide_mul hbb hbb2 (by decide) (by decide) (by decide), _, _, rfl, hB, lB, fun u3 H13 e13 n13 h3 => ⟨u3, _, rfl, .inl (.inl h3), rfl, _, _, rfl, _, _, rfl, rfl, ?_⟩⟩
    have r1e := r1.ext (e912.trans e13)
    have r2e := r2.ext (e912.trans e13)
    have ra := Gs.Rat.ext ra1 e13
    have hq13 := e13 _ _ hq12
    obtain ⟨f1, f2⟩ := rest_in (x := (t, b)) (y := (t2, b2)) hb ht2 hb2
    obtain ⟨g1, g2⟩ := rest_least (x := (t, b)) (y := (t2, b2)) hb (show b2 ≠ 0 by omega)
    have q13w : (rN (t * b2 - QuoP (RR (t, b)) (RR (t2, b2)) * t2 * b) (b * b2)).natAbs < 2 ^ 12000 := by
      refine Nat.lt_of_le_of_lt (rN_le _ hB) ?_
      have h1 := mul_lt ht (lt200 hbb2)
      have h2 := mul_lt q2w hbb
      have h3 : (2 : Nat) ^ (200 + 200) + 2 ^ (8001 + 100 + 200) ≤ 2 ^ 12000 := by decide +kernel
      generalize t * b2 = i at *
      generalize QuoP (RR (t, b)) (RR (t2, b2)) * t2 * b = j at *
      generalize (2 : Nat) ^ (200 + 200) = N at *
      generalize (2 : Nat) ^ (8001 + 100 + 200) = M at *
      generalize (2 : Nat) ^ 12000 = L at *
      omega
    have q14w : (rD (t * b2 - QuoP (RR (t, b)) (RR (t2, b2)) * t2 * b) (b * b2)).natAbs < 2 ^ (200 + 100) := Nat.lt_of_le_of_lt (rD_le _ hB) (mul_lt hbb hbb2)
    generalize hT : rN (t * b2 - QuoP (RR (t, b)) (RR (t2, b2)) * t2 * b) (b * b2) = T1 at *
    generalize hD : rD (t * b2 - QuoP (RR (t, b)) (RR (t2, b2)) * t2 * b) (b * b2) = D1 at *
    generalize hQ : QuoP (RR (t, b)) (RR (t2, b2)) = qq at *
    obtain ⟨y1, y2, y3⟩ := odd_bool (K := K) (H := H13) (v := .int qq) trivial
    obtain ⟨z1, z2, z3⟩ := odd_int (K := K) (H := H13) (v := .int qq) trivial
    refine ⟨_, rfl, _, _, y1, _, _, rfl, .ty _, y2, y3, _, rfl, ?_⟩
    refine iteF ?_
    refine ⟨_, rfl, _, _, z1, _, _, rfl, .ty _, z2, z3, _, rfl, ?_⟩
    refine iteF ?_
    refine ⟨_, rfl, _, rfl, q2, _, 1, _, rfl, rfl, .inl (.inl hq13), atI_nat (j := 1) rfl, _, _, rfl, rfl, wide_mul q13w hbb2 (by decide) (by decide) (by decide), _, _, rfl, rfl, true, congrArg V.bl (decide_eq_true f1), ?_⟩
    rw [if_pos rfl]
    refine ⟨_, rfl, q2, _, 0, _, rfl, rfl, .inl (.inl hq13), atI_nat (j := 0) rfl, _, rfl, _, _, rfl, rfl, wide_mul htt2 q14w (by decide) (by decide) (by decide), _, _, rfl, rfl, true, congrArg V.bl (decide_eq_true f2), iteF ?_⟩
    rw [g1, g2] at ra
    refine ⟨_, rfl, _, rfl, rfl, _, rfl, ?_⟩
    rw [decide_eq_true rfl]
    refine iteT ⟨_, rfl, _, rfl, div_go r1e r2e hrf s1 s2 d1 d2 n2 fun Hy ey a2 H14 e14 n14 ra2 => ?_⟩
    rw [g1, g2] at ra2
    have ra' := Gs.Rat.ext ra (ey.trans e14)
    refine ⟨a2, _, _, rfl, ra2, fun u4 H15 e15 n15 h15 => ⟨_, rfl, a1, _, _, rfl, Gs.Rat.ext ra' e15, fun u5 H16 e16 n16 h16 => ?_⟩⟩
    refine ⟨by show 2 ≤ sizeLine; decide, fun l3 w3 => ⟨_, rfl, _, rfl, by show 2 ≤ sizeLine; decide, fun u6 w6 => ⟨by show 1 ≤ sizeLine; decide, fun l4 w4 => ⟨l4, 2, _, rfl, rfl, upd_same, by decide, by decide, by show 1 * 2 ≤ sizeLine; decide, fun l5 w5 => ?_⟩⟩⟩⟩
    have x3 := ext_new (o := .lst [.ref u4, .ref u5]) w3
    have x4 := ext_new (o := .tup [.int T1, .int D1]) w6
    have x5 := ext_new (o := .lst [.ref u6]) w4
    have x6 := ext_new (o := .lst (List.replicate (2 : Int).toNat [V.ref u6]).flatten) w5
    have x46 := (x4.trans x5).trans x6
    have hh4 := x46 _ _ (x3 _ _ (e16 _ _ h15))
    have hh5 := x46 _ _ (x3 _ _ h16)
    have hh3 := x46 _ _ (upd_same (H := H16) (a := l3) (o := HO.lst [.ref u4, .ref u5]))
    have hh6 := (x5.trans x6) _ _ (upd_same (H := upd H16 l3 (.lst [.ref u4, .ref u5])) (a := u6) (o := HO.tup [.int T1, .int D1]))
    have sh : SeqAt.shaped (.list [.tuple [.int T1, .int D1], .tuple [.int T1, .int D1]]) = true := by simp [SeqAt.shaped, PyData.canLay0, PyData.canLayAll0, PyData.depth, PyData.depthAll]
    refine ⟨_, _, .lst (SqL.of hh3) (.cons (.tup (.inl (.inl hh4)) (.cons (.int _) (.cons (.int _) .nil))) (.cons (.tup (.inl (.inl hh5)) (.cons (.int _) (.cons (.int _) .nil))) .nil)), .lst (SqL.of upd_same) (.cons (.tup (.inl (.inl hh6)) (.cons (.int _) (.cons (.int _) .nil))) (.cons (.tup (.inl (.inl hh6)) (.cons (.int _) (.cons (.int _) .nil))) .nil)), sh, sh, ?_⟩
    rw [SeqAt.eqv_refl _ (SeqAt.canLay_of_shaped sh)]
    have ef := (((((e9.trans e912).trans e13).trans (ey.trans e14)).trans (e15.trans e16)).trans x3).trans x46
    exact k _ ((P8.ext ef).mono (by omega)) (B68.trans ef.but)
end
end K06

set_option maxRecDepth 100000
set_option maxHeartbeats 4000000
namespace K06
open PySem PySem.Spec PyProof.Rows Gs
open L2 hiding Ext paired_get
open C8 (tCut pss_cut)
open LamX

def TL (K : PySem.W.Frag) : List (Addr × Str) := [((He.cT K ("_law_refused_right", none)).2, "_law_refused_right.<locals>.<lambda>"), ((He.cT K ("_law_below_refused", none)).2, "_law_below_refused.<locals>.<lambda>")]
theorem cdec_lt : ∀ T ∈ T7, CDec .Lt T := fun T h => by
  unfold T7 at h
  simp only [List.mem_cons, List.not_mem_nil, or_false] at h
  rcases h with rfl | rfl | rfl | rfl | rfl | rfl | rfl
  · exact cdec_NoneType_lt
  · exact cdec_bool_lt
  · exact cdec_int_lt
  · exact cdec_str_lt
  · exact cdec_list_lt
  · exact cdec_tuple_lt
  · exact cdec_dict_lt
theorem cdec_ge : ∀ T ∈ T7, CDec .GtE T := fun T h => by
  unfold T7 at h
  simp only [List.mem_cons, List.not_mem_nil, or_false] at h
  rcases h with rfl | rfl | rfl | rfl | rfl | rfl | rfl
  · exact cdec_NoneType_ge
  · exact cdec_bool_ge
  · exact cdec_int_ge
  · exact cdec_str_ge
  · exact cdec_list_ge
  · exact cdec_tuple_ge
  · exact cdec_dict_ge
theorem cdec_eq : ∀ T ∈ T7, CDec .Eq T := fun T h => by
  unfold T7 at h
  simp only [List.mem_cons, List.not_mem_nil, or_false] at h
  rcases h with rfl | rfl | rfl | rfl | rfl | rfl | rfl
  · exact cdec_NoneType_eq
  · exact cdec_bool_eq
  · exact cdec_int_eq
  · exact cdec_str_eq
  · exact cdec_list_eq
  · exact cdec_tuple_eq
  · exact cdec_dict_eq
theorem ratOf_not {C : Addr} {H : Hp} {v : V} {p : PII} (nr : vRat C H v = false) (ni : isI v = false) (h : RatOf C H v p) : False := by
  rcases h with ⟨rfl, _⟩ | ⟨b, rfl, rb⟩
  · cases ni
  · rw [Gs.Rat.is _ rb] at nr
    cases nr
section
variable {K : PySem.W.Frag} {C CB : Addr} {H : Hp} {v : V} {a : Addr} {x : PII} {T : String} {Q : VK} {E : XK}
theorem cmp_bad {f : Int → Int → Bool} (ra : Gs.Rat C H a x.1 x.2) (sx : Sm x) (pl : PlV H v T) (NF : ∀ T ∈ T7, PySem.W.subIn K (.type T) (.ref C) = some false) (nr : vRat C H v = false) (ni : isI v = false) (bad : BadV CB H E v) : rCmpO K C (spCmp K C CB f) E (.ref a) v H Q := by
  obtain ⟨dx, hx⟩ := id ra
  exact ⟨a, dx, _, .type T, rfl, hx, pl.ty, by simp [PySem.W.notFirst, NF T pl.mem], a, x, v, rfl, ra, sx, pl.any, fun _ _ => bad, fun p hp => (ratOf_not nr ni hp).elim⟩
theorem cmp_badR {op : CmpOp} {f : Int → Int → Bool} (ra : Gs.Rat C H a x.1 x.2) (sx : Sm x) (pl : PlV H v T) (cd : ∀ T ∈ T7, CDec op T) (nr : vRat C H v = false) (ni : isI v = false) (bad : BadV CB H E v) : rCmpR K C op (spCmp K C CB f) E v (.ref a) H Q := by
  obtain ⟨dx, hx⟩ := id ra
  exact ⟨a, dx, _, T, rfl, hx, pl, cd T pl.mem, a, x, v, rfl, ra, sx, pl.any, fun _ _ => bad, fun p hp => (ratOf_not nr ni hp).elim⟩
theorem eq_bad (ra : Gs.Rat C H a x.1 x.2) (pl : PlV H v T) (NF : ∀ T ∈ T7, PySem.W.subIn K (.type T) (.ref C) = some false) (nr : vRat C H v = false) (k : Q (.bl false) H) : rCmpO K C (spEqR K C) E (.ref a) v H Q := by
  obtain ⟨dx, hx⟩ := id ra
  refine ⟨a, dx, _, .type T, rfl, hx, pl.ty, by simp [PySem.W.notFirst, NF T pl.mem], a, _, _, v, rfl, ra, pl.any, fun b n' d' e rb => ?_, fun _ => k⟩
  subst e
  rw [Gs.Rat.is _ rb] at nr
  cases nr
theorem eq_badR (ra : Gs.Rat C H a x.1 x.2) (pl : PlV H v T) (nr : vRat C H v = false) (k : Q (.bl false) H) : rCmpR K C .Eq (spEqR K C) E v (.ref a) H Q := by
  obtain ⟨dx, hx⟩ := id ra
  refine ⟨a, dx, _, T, rfl, hx, pl, cdec_eq T pl.mem, a, _, _, v, rfl, ra, pl.any, fun b n' d' e rb => ?_, fun _ => k⟩
  subst e
  rw [Gs.Rat.is _ rb] at nr
  cases nr
theorem ne_bad (ra : Gs.Rat C H a x.1 x.2) (pl : PlV H v T) (NF : ∀ T ∈ T7, PySem.W.subIn K (.type T) (.ref C) = some false) (nr : vRat C H v = false) (k : Q (.bl true) H) : rNeO K C (spEqR K C) E (.ref a) v H Q := by
  obtain ⟨dx, hx⟩ := id ra
  refine ⟨a, dx, _, .type T, rfl, hx, pl.ty, by simp [PySem.W.notFirst, NF T pl.mem], a, _, _, v, rfl, ra, pl.any, fun b n' d' e rb => ?_, fun _ => ⟨false, rfl, k⟩⟩
  subst e
  rw [Gs.Rat.is _ rb] at nr
  cases nr
theorem PlV.side (pl : PlV H v T) : SideT K H v := by
  have ty := pl.ty (K := K)
  cases pl with
  | non => exact .inr (.inr ⟨_, by decide, ty⟩)
  | bl b => exact .inr (.inl ⟨_, rfl⟩)
  | int i => exact .inl ⟨_, rfl⟩
  | str x => exact .inr (.inr ⟨_, by decide, ty⟩)
  | lst h => exact .inr (.inr ⟨_, by decide, ty⟩)
  | tup h => exact .inr (.inr ⟨_, by decide, ty⟩)
  | dK h => exact .inr (.inr ⟨_, by decide, ty⟩)
/-- x // v, v not above 0 -/
theorem div_bad {nm : String} {G : Addr → PII → PII → Hp → VK → Prop} {spR : Sp} (ra : Gs.Rat C H a x.1 x.2) (sx : Sm x) (px : 0 < x.2) (pl : PlV H v T) (nr : vRat C H v = false) (ni : ∀ i, v = .int i → i ≤ 0 ∧ Sm (i, 1)) (bad : BadV CB H E v) : rBinO K C nm (spDivL K C CB G) spR E (.ref a) v H Q := by
  obtain ⟨dx, hx⟩ := id ra
  refine .inl ⟨a, dx, _, rfl, hx, .inr (PlV.side pl), a, x, v, rfl, ra, sx, px, pl.any, fun _ _ => bad, fun p hp => ?_⟩
  rcases id hp with ⟨rfl, e⟩ | ⟨b, rfl, rb⟩
  · obtain ⟨n, d⟩ := p
    obtain ⟨h1, h2⟩ := ni _ rfl
    cases e
    exact ⟨h2, (by show (0 : Int) < 1; decide), fun _ => bad, fun z => by simp only at z h1; omega⟩
  · rw [Gs.Rat.is _ rb] at nr
    cases nr
end
/-- the list at l holds what was heard -/
def HdL (H : Hp) (l : Addr) (ds : List PyData) : Prop := ∃ rs, H l = some (.lst rs) ∧ Paired (IsHd H) rs ds
section
variable {K : PySem.W.Frag} {H H' : Hp} {l p c : Addr} {n : Nat} {ds : List PyData}
theorem HdL.extN (h : HdL H l ds) (e : ExtN H H') : HdL H' l ds := let ⟨rs, a, b⟩ := h; ⟨rs, ExtN.lst e a, L2.Paired.mapP b fun _ _ z => z.extN e⟩
theorem HdL.dp (h : HdL H l ds) : Dp K H (.ref l) (.list (ds.map hdD)) := let ⟨_, a, b⟩ := h; .lst (SqL.of a) (isHds_dp b)
theorem HdL.but (h : HdL H l ds) (P : Pen H p c n) (b : But p H H') (nl : l ≠ p) : HdL H' l ds :=
  let ⟨rs, a, z⟩ := h
  ⟨rs, b _ _ a nl, L2.Paired.mapP z fun _ _ ⟨q, e, y⟩ => ⟨q, e, b _ _ y (tup_np P y)⟩⟩
theorem Hrd.hdl {T : List (Addr × Str)} {G : Hp} (h : Hrd T G H l ds) : HdL H l ds := h.at_
end
/-- many times the same -/
theorem rep_hd {H : Hp} {u : Addr} {d : PyData} (h : H u = some (.tup [.str "ratio", .str d.shown])) (k : Nat) : Paired (IsHd H) (List.replicate k [V.ref u]).flatten (List.replicate k d) := by
  induction k with
  | zero => exact .nil
  | succ k ih => exact .cons ⟨u, rfl, h⟩ ih
def spRefR (K : PySem.W.Frag) : Sp := fun vs H Q _ => ∃ (p c : Addr) (n : Nat), vs = [.ref p] ∧ Pen H p c n ∧ n ≤ 999900 ∧ Tabs (TL K) H ∧ ∀ H', Pen H' p c (n + 6) → Tabs (TL K) H' → Q (.bl true) H'
section
variable {P : Program} {w : World} {K : PySem.W.Frag} {mg : Str → Option Value} {base : Heap}
theorem sc__law_refused_right : FnScope ["pen", "odd", "made", "heard", "low", "lower"] ["pen"] (defScope s__law_refused_right) := ⟨rfl, rfl, rfl, by decide +kernel, rfl, by decide +kernel, by decide +kernel⟩
theorem d__law_refused_right (T : Txt K mg) (RF : RatF K (He.ga K "Ratio")) (XF : ExF K) (D_law_odd : DefOk P w K mg base CX0 3 "_law_odd" ["pen"] [] (spOdd K)) (D_law_pick : DefOk P w K mg base CX0 2 "_law_pick" ["pen", "some"] [] (spPick K)) (D_law_draw : DefOk P w K mg base CX0 1 "_law_draw" ["pen", "many"] [] spDraw)(M_Ratio : Mk K (He.ga K "Ratio") (He.ma K (He.ga K "Ratio") "__init__"))(D_Ratio2 : FunOk P w K mg base (L2.CX P w) 3 (He.ma K (He.ga K "Ratio") "__init__") ["self", "over", "under"] [] (spInit K (He.ga K "Ratio") (He.ga K "BadRatio")))(D_Ratio___lt__ : FunOk P w K mg base (L2.CX P w) 6 (He.ma K (He.ga K "Ratio") "__lt__") ["self", "other"] [] (spCmp K (He.ga K "Ratio") (He.ga K "BadRatio") (fun i j => decide (i < j)))) (D_Ratio___le__ : FunOk P w K mg base (L2.CX P w) 6 (He.ma K (He.ga K "Ratio") "__le__") ["self", "other"] [] (spCmp K (He.ga K "Ratio") (He.ga K "BadRatio") (fun i j => decide (i ≤ j)))) (D_Ratio___gt__ : FunOk P w K mg base (L2.CX P w) 6 (He.ma K (He.ga K "Ratio") "__gt__") ["self", "other"] [] (spCmp K (He.ga K "Ratio") (He.ga K "BadRatio") (fun i j => decide (i > j)))) (D_Ratio___ge__ : FunOk P w K mg base (L2.CX P w) 6 (He.ma K (He.ga K "Ratio") "__ge__") ["self", "other"] [] (spCmp K (He.ga K "Ratio") (He.ga K "BadRatio") (fun i j => decide (i ≥ j)))) (D_Ratio___eq__ : FunOk P w K mg base CX0 1 (He.ma K (He.ga K "Ratio") "__eq__") ["self", "other"] [] (spEqR K (He.ga K "Ratio"))) (O_lt : PySem.W.findIn K (.ref (He.ga K "Ratio")) "__lt__" = some (some (.ref (He.ma K (He.ga K "Ratio") "__lt__"))) ∧ PySem.W.isFn K (.ref (He.ma K (He.ga K "Ratio") "__lt__")) = true) (O_le : PySem.W.findIn K (.ref (He.ga K "Ratio")) "__le__" = some (some (.ref (He.ma K (He.ga K "Ratio") "__le__"))) ∧ PySem.W.isFn K (.ref (He.ma K (He.ga K "Ratio") "__le__")) = true) (O_gt : PySem.W.findIn K (.ref (He.ga K "Ratio")) "__gt__" = some (some (.ref (He.ma K (He.ga K "Ratio") "__gt__"))) ∧ PySem.W.isFn K (.ref (He.ma K (He.ga K "Ratio") "__gt__")) = true) (O_ge : PySem.W.findIn K (.ref (He.ga K "Ratio")) "__ge__" = some (some (.ref (He.ma K (He.ga K "Ratio") "__ge__"))) ∧ PySem.W.isFn K (.ref (He.ma K (He.ga K "Ratio") "__ge__")) = true) (O_eq : PySem.W.findIn K (.ref (He.ga K "Ratio")) "__eq__" = some (some (.ref (He.ma K (He.ga K "Ratio") "__eq__"))) ∧ PySem.W.isFn K (.ref (He.ma K (He.ga K "Ratio") "__eq__")) = true) (O_ne : PySem.W.findIn K (.ref (He.ga K "Ratio")) "__ne__" = some (some (.builtin "object.__ne__")) ∧ PySem.W.subIn K (.ref (He.ga K "Ratio")) (.type "object") = some true) (SUB : ∀ T ∈ T7, PySem.W.subIn K (.ref (He.ga K "Ratio")) (.type T) = some false) (NF : ∀ T ∈ T7, PySem.W.subIn K (.type T) (.ref (He.ga K "Ratio")) = some false) (DL_floordiv : FunOk P w K mg base (L2.CX P w) 7 (He.ma K (He.ga K "Ratio") "__floordiv__") ["self", "other"] [] (spDivL K (He.ga K "Ratio") (He.ga K "BadRatio") GQuo)) (DR_floordiv : FunOk P w K mg base (L2.CX P w) 7 (He.ma K (He.ga K "Ratio") "__rfloordiv__") ["self", "other"] [] (spDivR K (He.ga K "Ratio") (He.ga K "BadRatio") GQuo)) (OW_floordiv : OwnB K (He.ga K "Ratio") "floordiv" (He.ma K (He.ga K "Ratio") "__floordiv__") (He.ma K (He.ga K "Ratio") "__rfloordiv__")) (IN_floordiv : InpF K (He.ga K "Ratio") "floordiv") (DL_mod : FunOk P w K mg base (L2.CX P w) 7 (He.ma K (He.ga K "Ratio") "__mod__") ["self", "other"] [] (spDivL K (He.ga K "Ratio") (He.ga K "BadRatio") GRem)) (DR_mod : FunOk P w K mg base (L2.CX P w) 7 (He.ma K (He.ga K "Ratio") "__rmod__") ["self", "other"] [] (spDivR K (He.ga K "Ratio") (He.ga K "BadRatio") GRem)) (OW_mod : OwnB K (He.ga K "Ratio") "mod" (He.ma K (He.ga K "Ratio") "__mod__") (He.ma K (He.ga K "Ratio") "__rmod__")) (IN_mod : InpF K (He.ga K "Ratio") "mod") (A__law_heard : At K mg "_law_heard" s__law_heard) (TB__law_refused_right : TabB base mg (He.cT K ("_law_refused_right", none)).1 (He.cT K ("_law_refused_right", none)).2) (G0 : mg "_law_refused_right" = some (.ref (He.ga K "_law_refused_right"))) (hm__law_refused_right : ((He.cT K ("_law_refused_right", none)).2, ("_law_refused_right.<locals>.<lambda>" : Str)) ∈ TL K) (hu__law_refused_right : ∀ p ∈ TL K, p.1 = (He.cT K ("_law_refused_right", none)).2 → p.2 = "_law_refused_right.<locals>.<lambda>")  (A0 : At K mg "_law_refused_right" s__law_refused_right) : DefG P w K mg base CX0 12 "_law_refused_right" ["pen"] [] (spRefR K) := by
  refine At.okT A0 G0 sc__law_refused_right (fun _ _ F => F.bindsN fun _ _ _ _ _ _ us hl => match us, hl with | [_], _ => rfl) (fun vs H Q E h => ?_) (fun f A out s H vs Q E hG hr h => ?_)
  · obtain ⟨p, c, n, rfl, _⟩ := h; rfl
  · have nd := sc__law_refused_right.nd
    refine ⟨_, (pss_cons (ps_asg (pe_tup (pa_cons (pe_d D_law_odd (hr.mono (by decide)) pass0 (pa_cons (pv 0) pa_nil)) (pa_cons (pe_mk2 (pe_mkF M_Ratio T.c_Ratio D_Ratio2 (hr.mono (by decide)) passL (taM_ok (pa_cons (pe_d D_law_draw (hr.mono (by decide)) pass0 (pa_cons (pv 0) (pa_cons pe_int pa_nil))) (pa_cons (pe_op op_add pe_int (pe_d D_law_draw (hr.mono (by decide)) pass0 (pa_cons (pv 0) (pa_cons pe_int pa_nil)))) pa_nil))))) pa_nil))) (pg_tup (by rfl) (pgs_cons (pg_name (i := 1) nd rfl (Or.inr rfl)) (pgs_cons (pg_name (i := 2) nd rfl (Or.inr rfl)) pgs_nil))))
          (pss_cons (ps_set (i := 3) nd rfl (Or.inl rfl) (pe_lst (pa_cons (pe_heard (k := 8) (T := TL K) (x := "_law_heard") (a := "ask") A__law_heard sc__law_heard rfl (fun _ _ _ _ _ _ _ _ => rfl) (fun g cdg => hears T XF hG g cdg) TB__law_refused_right rfl hm__law_refused_right hu__law_refused_right (hr.mono (by decide)) (show LamS (defScope s__law_refused_right) _ from lamS_by (by decide +kernel)) (hbody := fun A out s H E f c' hr => (pe_cmpR (show OpR _ _ (rCmpO K (He.ga K "Ratio") (spCmp K (He.ga K "Ratio") (He.ga K "BadRatio") (fun i j => decide (i < j))) E) from op_cmpO D_Ratio___lt__ O_lt.1 O_lt.2 (hr.mono (by decide)) (passes_call takesLam fun _ _ _ _ h => h)) (pv 2) (pv 1) (nomark _)))) pa_nil)))
          (pss_cons (ps_expr (pe_bm PySem.F.plainAttrs_list PySem.F.slot_list_append PySem.F.type_list_append mt_append (pv 3) (pa_cons (pe_heard (k := 8) (T := TL K) (x := "_law_heard") (a := "ask") A__law_heard sc__law_heard rfl (fun _ _ _ _ _ _ _ _ => rfl) (fun g cdg => hears T XF hG g cdg) TB__law_refused_right rfl hm__law_refused_right hu__law_refused_right (hr.mono (by decide)) (show LamS (defScope s__law_refused_right) _ from lamS_by (by decide +kernel)) (hbody := fun A out s H E f c' hr => (pe_cmpR (show OpR _ _ (rCmpO K (He.ga K "Ratio") (spCmp K (He.ga K "Ratio") (He.ga K "BadRatio") (fun i j => decide (i ≤ j))) E) from op_cmpO D_Ratio___le__ O_le.1 O_le.2 (hr.mono (by decide)) (passes_call takesLam fun _ _ _ _ h => h)) (pv 2) (pv 1) (nomark _)))) pa_nil)))
          (pss_cons (ps_expr (pe_bm PySem.F.plainAttrs_list PySem.F.slot_list_append PySem.F.type_list_append mt_append (pv 3) (pa_cons (pe_heard (k := 8) (T := TL K) (x := "_law_heard") (a := "ask") A__law_heard sc__law_heard rfl (fun _ _ _ _ _ _ _ _ => rfl) (fun g cdg => hears T XF hG g cdg) TB__law_refused_right rfl hm__law_refused_right hu__law_refused_right (hr.mono (by decide)) (show LamS (defScope s__law_refused_right) _ from lamS_by (by decide +kernel)) (hbody := fun A out s H E f c' hr => (pe_cmpR (show OpR _ _ (rCmpO K (He.ga K "Ratio") (spCmp K (He.ga K "Ratio") (He.ga K "BadRatio") (fun i j => decide (i > j))) E) from op_cmpO D_Ratio___gt__ O_gt.1 O_gt.2 (hr.mono (by decide)) (passes_call takesLam fun _ _ _ _ h => h)) (pv 2) (pv 1) (nomark _)))) pa_nil)))
          (pss_cons (ps_expr (pe_bm PySem.F.plainAttrs_list PySem.F.slot_list_append PySem.F.type_list_append mt_append (pv 3) (pa_cons (pe_heard (k := 8) (T := TL K) (x := "_law_heard") (a := "ask") A__law_heard sc__law_heard rfl (fun _ _ _ _ _ _ _ _ => rfl) (fun g cdg => hears T XF hG g cdg) TB__law_refused_right rfl hm__law_refused_right hu__law_refused_right (hr.mono (by decide)) (show LamS (defScope s__law_refused_right) _ from lamS_by (by decide +kernel)) (hbody := fun A out s H E f c' hr => (pe_cmpR (show OpR _ _ (rCmpO K (He.ga K "Ratio") (spCmp K (He.ga K "Ratio") (He.ga K "BadRatio") (fun i j => decide (i ≥ j))) E) from op_cmpO D_Ratio___ge__ O_ge.1 O_ge.2 (hr.mono (by decide)) (passes_call takesLam fun _ _ _ _ h => h)) (pv 2) (pv 1) (nomark _)))) pa_nil)))
          (pss_cons (ps_expr (pe_bm PySem.F.plainAttrs_list PySem.F.slot_list_append PySem.F.type_list_append mt_append (pv 3) (pa_cons (pe_heard (k := 8) (T := TL K) (x := "_law_heard") (a := "ask") A__law_heard sc__law_heard rfl (fun _ _ _ _ _ _ _ _ => rfl) (fun g cdg => hears T XF hG g cdg) TB__law_refused_right rfl hm__law_refused_right hu__law_refused_right (hr.mono (by decide)) (show LamS (defScope s__law_refused_right) _ from lamS_by (by decide +kernel)) (hbody := fun A out s H E f c' hr => (pe_cmpR (show OpR _ _ (rCmpR K (He.ga K "Ratio") .Lt (spCmp K (He.ga K "Ratio") (He.ga K "BadRatio") (fun i j => decide (i > j))) E) from op_cmpR D_Ratio___gt__ O_gt.1 O_gt.2 SUB (hr.mono (by decide)) (passes_call takesLam fun _ _ _ _ h => h)) (pv 1) (pv 2) (nomark _)))) pa_nil)))
          (pss_cons (ps_expr (pe_bm PySem.F.plainAttrs_list PySem.F.slot_list_append PySem.F.type_list_append mt_append (pv 3) (pa_cons (pe_heard (k := 8) (T := TL K) (x := "_law_heard") (a := "ask") A__law_heard sc__law_heard rfl (fun _ _ _ _ _ _ _ _ => rfl) (fun g cdg => hears T XF hG g cdg) TB__law_refused_right rfl hm__law_refused_right hu__law_refused_right (hr.mono (by decide)) (show LamS (defScope s__law_refused_right) _ from lamS_by (by decide +kernel)) (hbody := fun A out s H E f c' hr => (pe_cmpR (show OpR _ _ (rCmpR K (He.ga K "Ratio") .GtE (spCmp K (He.ga K "Ratio") (He.ga K "BadRatio") (fun i j => decide (i ≤ j))) E) from op_cmpR D_Ratio___le__ O_le.1 O_le.2 SUB (hr.mono (by decide)) (passes_call takesLam fun _ _ _ _ h => h)) (pv 1) (pv 2) (nomark _)))) pa_nil)))
          (pss_cons (ps_set (i := 4) nd rfl (Or.inr rfl) (pe_d D_law_pick (hr.mono (by decide)) pass0 (pa_cons (pv 0) (pa_cons (pe_lst (pa_cons pe_int (pa_cons (pe_un un_neg pe_int) (pa_cons (pe_un un_neg (pe_op op_pow pe_int pe_int)) (pa_cons pe_non (pa_cons pe_bl (pa_cons pe_str (pa_cons (pe_tup (pa_cons pe_int pa_nil)) pa_nil)))))))) pa_nil))))
          (pss_cons (ps_set (i := 5) nd rfl (Or.inl rfl) (pe_lst (pa_cons (pe_heard (k := 8) (T := TL K) (x := "_law_heard") (a := "ask") A__law_heard sc__law_heard rfl (fun _ _ _ _ _ _ _ _ => rfl) (fun g cdg => hears T XF hG g cdg) TB__law_refused_right rfl hm__law_refused_right hu__law_refused_right (hr.mono (by decide)) (show LamS (defScope s__law_refused_right) _ from lamS_by (by decide +kernel)) (hbody := fun A out s H E f c' hr => (pe_op (show OpR _ _ (rBinO K (He.ga K "Ratio") "floordiv" (spDivL K (He.ga K "Ratio") (He.ga K "BadRatio") GQuo) (spDivR K (He.ga K "Ratio") (He.ga K "BadRatio") GQuo) E) from op_binO (op := .FloorDiv) DL_floordiv DR_floordiv OW_floordiv (hr.mono (by decide)) (hr.mono (by decide)) (passes_call takesLam fun _ _ _ _ h => h)) (pv 2) (pv 4)))) pa_nil)))
          (pss_cons (ps_expr (pe_bm PySem.F.plainAttrs_list PySem.F.slot_list_append PySem.F.type_list_append mt_append (pv 5) (pa_cons (pe_heard (k := 8) (T := TL K) (x := "_law_heard") (a := "ask") A__law_heard sc__law_heard rfl (fun _ _ _ _ _ _ _ _ => rfl) (fun g cdg => hears T XF hG g cdg) TB__law_refused_right rfl hm__law_refused_right hu__law_refused_right (hr.mono (by decide)) (show LamS (defScope s__law_refused_right) _ from lamS_by (by decide +kernel)) (hbody := fun A out s H E f c' hr => (pe_op (show OpR _ _ (rBinO K (He.ga K "Ratio") "mod" (spDivL K (He.ga K "Ratio") (He.ga K "BadRatio") GRem) (spDivR K (He.ga K "Ratio") (He.ga K "BadRatio") GRem) E) from op_binO (op := .Mod) DL_mod DR_mod OW_mod (hr.mono (by decide)) (hr.mono (by decide)) (passes_call takesLam fun _ _ _ _ h => h)) (pv 2) (pv 4)))) pa_nil)))
          (pss_cons (ps_if (PW.pt (pw_or (pt_cmpR (op_neD hr.units) (pv 3) (pe_op op_rep (pe_lst (pa_cons (pe_tup (pa_cons pe_str (pa_cons (pe_callB (call_reprX hG hr.units) (by rfl) T.f_repr (by decide +kernel) (pa_cons (pv 1) pa_nil)) pa_nil))) pa_nil)) pe_int) (nomark _)) (pw_or1 (pt_cmpR (op_neD hr.units) (pv 5) (pe_op op_rep (pe_lst (pa_cons (pe_tup (pa_cons pe_str (pa_cons (pe_callB (call_reprX hG hr.units) (by rfl) T.f_repr (by decide +kernel) (pa_cons (pv 4) pa_nil)) pa_nil))) pa_nil)) pe_int) (nomark _))))) (pss_one (ps_ret pe_bl)) pss_nil)
          (pss_one (ps_ret (pe_cmpR op_eq (pe_callB (call_reprX hG hr.units) (by rfl) T.f_repr (by decide +kernel) (pa_cons (pe_lst (pa_cons (pe_cmpR (show OpR _ _ (rCmpO K (He.ga K "Ratio") (spEqR K (He.ga K "Ratio")) E0) from op_cmpO D_Ratio___eq__ O_eq.1 O_eq.2 (hr.mono (by decide)) pass0) (pv 2) (pv 1) (nomark _)) (pa_cons (pe_cmpR (show OpR _ _ (rCmpR K (He.ga K "Ratio") .Eq (spEqR K (He.ga K "Ratio")) E0) from op_cmpR D_Ratio___eq__ O_eq.1 O_eq.2 SUB (hr.mono (by decide)) pass0) (pv 1) (pv 2) (nomark _)) (pa_cons (pe_cmpR (show OpR _ _ (rNeO K (He.ga K "Ratio") (spEqR K (He.ga K "Ratio")) E0) from op_neO D_Ratio___eq__ O_ne.1 O_ne.2 O_eq.1 O_eq.2 (hr.mono (by decide)) pass0) (pv 2) (pv 1) (nomark _)) pa_nil)))) pa_nil)) (pe_callB (call_reprX hG hr.units) (by rfl) T.f_repr (by decide +kernel) (pa_cons (pe_lst (pa_cons pe_bl (pa_cons pe_bl (pa_cons pe_bl pa_nil)))) pa_nil)) (nomark _))))))))))))))), ?_⟩
    obtain ⟨p, c, n, rfl, P, hn, tb, k⟩ := h
    refine ⟨_, rfl, p, c, n, rfl, P, by omega, fun odd D1 H1 ko T1 pl P1 B1 => ?_⟩
    refine ⟨_, rfl, p, c, _, 3, rfl, P1, by omega, by decide, by decide, fun i2 H2 i20 i21 P2 B2 => ⟨_, rfl, p, c, _, 2, rfl, P2, by omega, by decide, by decide, fun i3 H3 i30 i31 P3 B3 => ?_⟩⟩
    refine ⟨_, _, rfl, rfl, _, _, rfl, by omega, log2_200 (Nat.lt_of_le_of_lt (show (1 + i3).natAbs ≤ 3 by omega) (by decide +kernel)), fun a H4 e4 n4 ra => ?_⟩
    obtain ⟨x, ra, sx, px⟩ : ∃ x : PII, Gs.Rat (He.ga K "Ratio") H4 a x.1 x.2 ∧ Sm x ∧ 0 < x.2 := ⟨(rN i2 (1 + i3), rD i2 (1 + i3)), ra, sm_least2 (by omega) (Nat.lt_of_le_of_lt (show i2.natAbs ≤ 3 by omega) (by decide +kernel)) (Nat.lt_of_le_of_lt (show (1 + i3).natAbs ≤ 3 by omega) (by decide +kernel)), r_pos _ (by omega)⟩
    have t4 := (tabs_pen (tabs_pen (tabs_pen tb P B1) P1 B2) P2 B3).ext e4
    have ko4 := ((ko.ext (dl_but B2)).ext (dl_but B3)).ext (dl_ext e4)
    have pl4 := ((pl.ext (dl_but B2)).ext (dl_but B3)).ext (dl_ext e4)
    have P4 := P3.ext e4
    refine ⟨by show 2 ≤ sizeLine; decide, fun q m => ⟨q, _, rfl, .inl (.inl upd_same), rfl, _, _, rfl, _, _, rfl, rfl, ?_⟩⟩
    have e5 := ext_new (o := .tup [odd, .ref a]) m
    have t5 := t4.ext e5
    have P5 := P4.ext e5
    have ko5 := ko4.ext (dl_ext e5)
    have pl5 := pl4.ext (dl_ext e5)
    have ra5 := Gs.Rat.ext ra e5
    generalize upd H4 q (.tup [odd, .ref a]) = H5 at t5 P5 ko5 pl5 ra5 ⊢
    clear t4 ko4 pl4 P4 e5 e4 n4 ra ko pl B1 B2 B3 P1 P2 P3 P tb
    refine ⟨t5, fun H6 n6 t6 => ⟨_, rfl, _, rfl, ?_⟩⟩
    have ko6 := ko5.extN (dl_extN n6)
    have pl6 := pl5.extN (dl_extN n6)
    refine cmp_bad (Gs.Rat.extN ra5 n6) sx (pl6.ext (dl_in _ _)) NF (by rw [ko6.o.any.vrat (dl_in _ _)]; exact ko6.nr) ko6.ni (badV_heard (ko6.o.sh.ext (dl_in _ _)) ko6.o.fine fun r1 H7 e7 w7 => ?_)
    refine ⟨by show 1 ≤ sizeLine; decide, fun l m6 => ?_⟩
    have hrd1 : Hrd (TL K) H7 (upd H7 l (.lst [.ref r1])) l [D1] := Hrd.first (t6.ext e7) w7 m6
    have hl1 : upd H7 l (.lst [.ref r1]) l = some (.lst [.ref r1]) := upd_same
    have P7 := (P5.extN n6).ext e7
    have nlp : l ≠ p := P7.np m6
    have ko7 := ko6.ext (dl_ext e7)
    have pl7 := pl6.ext (dl_ext e7)
    have ra7 := Gs.Rat.ext (Gs.Rat.extN ra5 n6) e7
    clear ko6 pl6 ko5 pl5 ra5 P5 t5
    generalize upd H7 l (.lst [.ref r1]) = Z1 at hrd1 hl1 ⊢
    refine ⟨_, rfl, .inl ⟨rfl, _, SqL.of hl1⟩, hrd1.tb, fun X2 n2_ t2_ => ⟨_, rfl, _, rfl, ?_⟩⟩
    have hq2 := hrd1.extN n2_ t2_
    have ko_2 := ko7.extN (dl_extN hq2.en)
    have pl_2 := pl7.extN (dl_extN hq2.en)
    refine cmp_bad (Gs.Rat.extN ra7 hq2.en) sx (pl_2.ext (dl_in _ _)) NF (by rw [ko_2.o.any.vrat (dl_in _ _)]; exact ko_2.nr) ko_2.ni (badV_heard (ko_2.o.sh.ext (dl_in _ _)) ko_2.o.fine fun r2 Y2 y2 w2 => ?_)
    have hm2 := y2 _ _ (ExtN.lst n2_ hl1)
    have hrd2 := (hq2.ext y2).add hm2 w2
    have hl2 : upd Y2 l (.lst ([.ref r1] ++ [.ref r2])) l = some (.lst ([.ref r1] ++ [.ref r2])) := upd_same
    refine ⟨l, _, .ref r2, rfl, rfl, hm2, by show 1 < sizeLine; decide, ?_⟩
    generalize upd Y2 l (.lst ([.ref r1] ++ [.ref r2])) = Z2 at hrd2 hl2 ⊢
    clear hrd1 hl1 hq2 ko_2 pl_2 hm2 w2 y2 n2_ t2_
    refine ⟨_, rfl, .inl ⟨rfl, _, SqL.of hl2⟩, hrd2.tb, fun X3 n3_ t3_ => ⟨_, rfl, _, rfl, ?_⟩⟩
    have hq3 := hrd2.extN n3_ t3_
    have ko_3 := ko7.extN (dl_extN hq3.en)
    have pl_3 := pl7.extN (dl_extN hq3.en)
    refine cmp_bad (Gs.Rat.extN ra7 hq3.en) sx (pl_3.ext (dl_in _ _)) NF (by rw [ko_3.o.any.vrat (dl_in _ _)]; exact ko_3.nr) ko_3.ni (badV_heard (ko_3.o.sh.ext (dl_in _ _)) ko_3.o.fine fun r3 Y3 y3 w3 => ?_)
    have hm3 := y3 _ _ (ExtN.lst n3_ hl2)
    have hrd3 := (hq3.ext y3).add hm3 w3
    have hl3 : upd Y3 l (.lst (([.ref r1] ++ [.ref r2]) ++ [.ref r3])) l = some (.lst (([.ref r1] ++ [.ref r2]) ++ [.ref r3])) := upd_same
    refine ⟨l, _, .ref r3, rfl, rfl, hm3, by show 2 < sizeLine; decide, ?_⟩
    generalize upd Y3 l (.lst (([.ref r1] ++ [.ref r2]) ++ [.ref r3])) = Z3 at hrd3 hl3 ⊢
    clear hrd2 hl2 hq3 ko_3 pl_3 hm3 w3 y3 n3_ t3_
    refine ⟨_, rfl, .inl ⟨rfl, _, SqL.of hl3⟩, hrd3.tb, fun X4 n4_ t4_ => ⟨_, rfl, _, rfl, ?_⟩⟩
    have hq4 := hrd3.extN n4_ t4_
    have ko_4 := ko7.extN (dl_extN hq4.en)
    have pl_4 := pl7.extN (dl_extN hq4.en)
    refine cmp_bad (Gs.Rat.extN ra7 hq4.en) sx (pl_4.ext (dl_in _ _)) NF (by rw [ko_4.o.any.vrat (dl_in _ _)]; exact ko_4.nr) ko_4.ni (badV_heard (ko_4.o.sh.ext (dl_in _ _)) ko_4.o.fine fun r4 Y4 y4 w4 => ?_)
    have hm4 := y4 _ _ (ExtN.lst n4_ hl3)
    have hrd4 := (hq4.ext y4).add hm4 w4
    have hl4 : upd Y4 l (.lst ((([.ref r1] ++ [.ref r2]) ++ [.ref r3]) ++ [.ref r4])) l = some (.lst ((([.ref r1] ++ [.ref r2]) ++ [.ref r3]) ++ [.ref r4])) := upd_same
    refine ⟨l, _, .ref r4, rfl, rfl, hm4, by show 3 < sizeLine; decide, ?_⟩
    generalize upd Y4 l (.lst ((([.ref r1] ++ [.ref r2]) ++ [.ref r3]) ++ [.ref r4])) = Z4 at hrd4 hl4 ⊢
    clear hrd3 hl3 hq4 ko_4 pl_4 hm4 w4 y4 n4_ t4_
    refine ⟨_, rfl, .inl ⟨rfl, _, SqL.of hl4⟩, hrd4.tb, fun X5 n5_ t5_ => ⟨_, rfl, _, rfl, ?_⟩⟩
    have hq5 := hrd4.extN n5_ t5_
    have ko_5 := ko7.extN (dl_extN hq5.en)
    have pl_5 := pl7.extN (dl_extN hq5.en)
    refine cmp_badR (Gs.Rat.extN ra7 hq5.en) sx (pl_5.ext (dl_in _ _)) cdec_lt (by rw [ko_5.o.any.vrat (dl_in _ _)]; exact ko_5.nr) ko_5.ni (badV_heard (ko_5.o.sh.ext (dl_in _ _)) ko_5.o.fine fun r5 Y5 y5 w5 => ?_)
    have hm5 := y5 _ _ (ExtN.lst n5_ hl4)
    have hrd5 := (hq5.ext y5).add hm5 w5
    have hl5 : upd Y5 l (.lst (((([.ref r1] ++ [.ref r2]) ++ [.ref r3]) ++ [.ref r4]) ++ [.ref r5])) l = some (.lst (((([.ref r1] ++ [.ref r2]) ++ [.ref r3]) ++ [.ref r4]) ++ [.ref r5])) := upd_same
    refine ⟨l, _, .ref r5, rfl, rfl, hm5, by show 4 < sizeLine; decide, ?_⟩
    generalize upd Y5 l (.lst (((([.ref r1] ++ [.ref r2]) ++ [.ref r3]) ++ [.ref r4]) ++ [.ref r5])) = Z5 at hrd5 hl5 ⊢
    clear hrd4 hl4 hq5 ko_5 pl_5 hm5 w5 y5 n5_ t5_
    refine ⟨_, rfl, .inl ⟨rfl, _, SqL.of hl5⟩, hrd5.tb, fun X6 n6_ t6_ => ⟨_, rfl, _, rfl, ?_⟩⟩
    have hq6 := hrd5.extN n6_ t6_
    have ko_6 := ko7.extN (dl_extN hq6.en)
    have pl_6 := pl7.extN (dl_extN hq6.en)
    refine cmp_badR (Gs.Rat.extN ra7 hq6.en) sx (pl_6.ext (dl_in _ _)) cdec_ge (by rw [ko_6.o.any.vrat (dl_in _ _)]; exact ko_6.nr) ko_6.ni (badV_heard (ko_6.o.sh.ext (dl_in _ _)) ko_6.o.fine fun r6 Y6 y6 w6 => ?_)
    have hm6 := y6 _ _ (ExtN.lst n6_ hl5)
    have hrd6 := (hq6.ext y6).add hm6 w6
    have hl6 : upd Y6 l (.lst ((((([.ref r1] ++ [.ref r2]) ++ [.ref r3]) ++ [.ref r4]) ++ [.ref r5]) ++ [.ref r6])) l = some (.lst ((((([.ref r1] ++ [.ref r2]) ++ [.ref r3]) ++ [.ref r4]) ++ [.ref r5]) ++ [.ref r6])) := upd_same
    refine ⟨l, _, .ref r6, rfl, rfl, hm6, by show 5 < sizeLine; decide, ?_⟩
    generalize upd Y6 l (.lst ((((([.ref r1] ++ [.ref r2]) ++ [.ref r3]) ++ [.ref r4]) ++ [.ref r5]) ++ [.ref r6])) = Z6 at hrd6 hl6 ⊢
    clear hrd5 hl5 hq6 ko_6 pl_6 hm6 w6 y6 n6_ t6_
    have Ph := P7.extN hrd6.en
    have th := hrd6.tb
    have koh := ko7.extN (dl_extN hrd6.en)
    have plh := pl7.extN (dl_extN hrd6.en)
    have rah := Gs.Rat.extN ra7 hrd6.en
    have hdl : HdL Z6 l [D1, D1, D1, D1, D1, D1] := hrd6.at_
    clear hrd6 hl6 P7 ko7 pl7 ra7
    refine ⟨_, rfl, _, rfl, _, _, rfl, rfl, ⟨by decide, by decide, by decide⟩, _, rfl, by show 1 ≤ sizeLine; decide, fun q1 m1 => ⟨by show 7 ≤ sizeLine; decide, fun l2 m2 => ?_⟩⟩
    have e1 := (ext_new (o := .tup [.int 1]) m1).new (o := .lst [.int 0, .int (-1), .int (-(10 ^ (29 : Int).toNat)), .non, .bl true, .str "1", .ref q1]) m2
    have Pa := Ph.new (o := .tup [.int 1]) m1
    refine ⟨p, c, l2, _, _, rfl, Pa.new m2, by omega, SqL.of upd_same, Pa.np m2, by simp, by show 7 < 1000000; decide, fun i low H8 hx P8 B8 => ?_⟩
    have t8 := tabs_pen (th.ext e1) (Ph.ext e1) B8
    have ko8 := (koh.ext (dl_ext e1)).ext (dl_but B8)
    have pl8 := (plh.ext (dl_ext e1)).ext (dl_but B8)
    have hd8 := (hdl.extN (ExtN.ofE e1)).but (Ph.ext e1) B8 nlp
    have ra8 : Gs.Rat (He.ga K "Ratio") H8 a x.1 x.2 := by
      obtain ⟨d, y⟩ := Gs.Rat.ext rah e1
      refine ⟨d, B8 _ _ y fun z => ?_⟩
      obtain ⟨ns, s1, g1, z1, _⟩ := (Ph.ext e1).ex
      rw [z, z1] at y
      cases y
    have hlow : ∃ D, KnO K (He.ga K "Ratio") (dl H8 p) low D ∧ vRat (He.ga K "Ratio") (dl H8 p) low = false ∧ (∀ i, low = .int i → i ≤ 0 ∧ Sm (i, 1)) ∧ ∃ T, PlV (dl H8 p) low T := by
      have z1 := dl_at (B8 _ _ (ext_new (o := .lst [.int 0, .int (-1), .int (-(10 ^ (29 : Int).toNat)), .non, .bl true, .str "1", .ref q1]) m2 _ _ upd_same) (Ph.np m1)) (Ph.np m1)
      have hm := List.mem_of_getElem? hx
      have sm : ∀ {i : Int}, i ≤ 0 → i.natAbs < 2 ^ 100 → ∀ j, V.int i = .int j → j ≤ 0 ∧ Sm (j, 1) := fun {i} h1 h2 j e => by
        cases e
        exact ⟨h1, Nat.lt_of_lt_of_le h2 (Nat.pow_le_pow_right (by decide) (show 100 ≤ 4000 by decide)), Nat.lt_of_lt_of_le (show (1 : Int).natAbs < 2 ^ 100 by decide) (Nat.pow_le_pow_right (by decide) (show 100 ≤ 4000 by decide))⟩
      simp only [List.mem_cons, List.not_mem_nil, or_false] at hm
      rcases hm with rfl | rfl | rfl | rfl | rfl | rfl | rfl
      · exact ⟨.int 0, ⟨.int _, .data (.int _), by unfold Fine; decide +kernel, by decide +kernel⟩, rfl, sm (by decide) (by decide), _, .int _⟩
      · exact ⟨.int (-1), ⟨.int _, .data (.int _), by unfold Fine; decide +kernel, by decide +kernel⟩, rfl, sm (by decide) (by decide), _, .int _⟩
      · exact ⟨.int (-(10 ^ (29 : Int).toNat)), ⟨.int _, .data (.int _), by unfold Fine; decide +kernel, by decide +kernel⟩, rfl, sm (by decide) (by decide +kernel), _, .int _⟩
      · exact ⟨.none, ⟨.non, .data .non, by unfold Fine; decide +kernel, by decide +kernel⟩, rfl, (fun _ z => by cases z), _, .non⟩
      · exact ⟨.bool true, ⟨.bl _, .data (.bl _), by unfold Fine; decide +kernel, by decide +kernel⟩, rfl, (fun _ z => by cases z), _, .bl _⟩
      · exact ⟨.str "1", ⟨.str _, .data (.str _), by unfold Fine; decide +kernel, by decide +kernel⟩, rfl, (fun _ z => by cases z), _, .str _⟩
      · exact ⟨.tuple [.int 1], ⟨.tup z1, .data (.tup (.inl (.inl z1)) (.cons (.int 1) .nil)), by unfold Fine; decide +kernel, by decide +kernel⟩, by rw [vRat_ref, z1], (fun _ z => by cases z), _, .tup z1⟩
    obtain ⟨D2, kl8, vl8, nl8, T2, pq8⟩ := hlow
    clear hx th koh plh rah hdl Pa Ph
    refine ⟨t8, fun H9 n9 t9 => ⟨_, rfl, _, rfl, ?_⟩⟩
    have ra9 := Gs.Rat.extN ra8 n9
    have kl9 := kl8.extN (dl_extN n9)
    have pq9 := pq8.extN (dl_extN n9)
    have vl9 : vRat (He.ga K "Ratio") (dl H9 p) low = false := by rw [AnyV.vratN kl8.any (dl_extN n9)]; exact vl8
    refine div_bad ra9 sx px (pq9.ext (dl_in _ _)) (by rw [kl9.any.vrat (dl_in _ _)]; exact vl9) nl8 (badV_heard (kl9.sh.ext (dl_in _ _)) kl9.fine fun u1 H10 e10 v1 => ?_)
    refine ⟨by show 1 ≤ sizeLine; decide, fun l3 m3 => ?_⟩
    have gr1 : Hrd (TL K) H10 (upd H10 l3 (.lst [.ref u1])) l3 [D2] := Hrd.first (t9.ext e10) v1 m3
    have gl1 : upd H10 l3 (.lst [.ref u1]) l3 = some (.lst [.ref u1]) := upd_same
    have N10 : ExtN H8 H10 := n9.trans (ExtN.ofE e10)
    generalize upd H10 l3 (.lst [.ref u1]) = H11 at gr1 gl1 ⊢
    refine ⟨_, rfl, .inl ⟨rfl, _, SqL.of gl1⟩, gr1.tb, fun H12 n12 t12 => ⟨_, rfl, _, rfl, ?_⟩⟩
    have gr2 := gr1.extN n12 t12
    have N12 : ExtN H8 H12 := N10.trans gr2.en
    have kl12 := kl8.extN (dl_extN N12)
    have pq12 := pq8.extN (dl_extN N12)
    have vl12 : vRat (He.ga K "Ratio") (dl H12 p) low = false := by rw [AnyV.vratN kl8.any (dl_extN N12)]; exact vl8
    refine div_bad (Gs.Rat.extN ra8 N12) sx px (pq12.ext (dl_in _ _)) (by rw [kl12.any.vrat (dl_in _ _)]; exact vl12) nl8 (badV_heard (kl12.sh.ext (dl_in _ _)) kl12.fine fun u2 H13 e13 v2 => ?_)
    have gm2 := e13 _ _ (ExtN.lst n12 gl1)
    have gr3 := (gr2.ext e13).add gm2 v2
    refine ⟨l3, _, .ref u2, rfl, rfl, gm2, by show 1 < sizeLine; decide, ?_⟩
    generalize upd H13 l3 (.lst ([.ref u1] ++ [.ref u2])) = H14 at gr3 ⊢
    have N14 : ExtN H8 H14 := N10.trans gr3.en
    have hd14 := hd8.extN N14
    have he14 : HdL H14 l3 [D2, D2] := gr3.at_
    have t14 := gr3.tb
    have P14 := P8.extN N14
    have ko14 := ko8.extN (dl_extN N14)
    have pl14 := pl8.extN (dl_extN N14)
    have ra14 := Gs.Rat.extN ra8 N14
    have kl14 := kl8.extN (dl_extN N14)
    clear gr1 gr2 gr3 gm2 gl1 kl12 pq12 vl12 vl9 pq9 kl9 ra9 kl8 pq8 vl8 hd8 ra8 pl8 ko8 t8 P8 B8 N10 N12
    have ko14s := ko14.o.sh.ext (dl_in H14 p)
    refine ⟨_, rfl, _, rfl, _, D1, rfl, ko14s, ko14.o.fine, by show 2 ≤ sizeLine; decide, fun w1 z1 => ⟨by show 1 ≤ sizeLine; decide, fun w2 z2 => ⟨w2, 6, _, rfl, rfl, upd_same, by decide, by decide, by show 1 * 6 ≤ sizeLine; decide, fun w3 z3 => ?_⟩⟩⟩
    have x1 := ext_new (o := .tup [.str "ratio", .str D1.shown]) z1
    have x2 := ext_new (o := .lst [.ref w1]) z2
    have x3 := ext_new (o := .lst (List.replicate (6 : Int).toNat [V.ref w1]).flatten) z3
    have x13 := (x1.trans x2).trans x3
    have y1 := (x2.trans x3) _ _ (upd_same (H := H14) (a := w1) (o := .tup [.str "ratio", .str D1.shown]))
    have sh6 := shaped_hd (ds := [D1, D1, D1, D1, D1, D1]) (fun d hd => by
      simp only [List.mem_cons, List.not_mem_nil, or_false] at hd
      rcases hd with rfl | rfl | rfl | rfl | rfl | rfl <;> exact ko14.o.lay)
    refine ⟨_, _, (hd14.extN (ExtN.ofE x13)).dp, .lst (SqL.of upd_same) (isHds_dp (rep_hd y1 6)), sh6, sh6, ?_⟩
    rw [show List.replicate 6 D1 = [D1, D1, D1, D1, D1, D1] from rfl, SeqAt.eqv_refl _ (SeqAt.canLay_of_shaped sh6)]
    refine ⟨_, rfl, iteF ?_⟩
    have he15 := he14.extN (ExtN.ofE x13)
    have kl15 := kl14.ext (dl_ext x13)
    have P15 := P14.ext x13
    have t15 := t14.ext x13
    have ko15 := ko14.ext (dl_ext x13)
    have pl15 := pl14.ext (dl_ext x13)
    have ra15 := Gs.Rat.ext ra14 x13
    clear he14 kl14 P14 t14 ko14 pl14 ra14 hd14 y1 ko14s
    generalize upd (upd (upd H14 w1 (.tup [.str "ratio", .str D1.shown])) w2 (.lst [.ref w1])) w3 (.lst (List.replicate (6 : Int).toNat [V.ref w1]).flatten) = H15 at he15 kl15 P15 t15 ko15 pl15 ra15 ⊢
    have kl15s := kl15.sh.ext (dl_in H15 p)
    refine ⟨_, rfl, _, rfl, _, D2, rfl, kl15s, kl15.fine, by show 2 ≤ sizeLine; decide, fun v1 z1 => ⟨by show 1 ≤ sizeLine; decide, fun v2 z2 => ⟨v2, 2, _, rfl, rfl, upd_same, by decide, by decide, by show 1 * 2 ≤ sizeLine; decide, fun v3 z3 => ?_⟩⟩⟩
    have x1 := ext_new (o := .tup [.str "ratio", .str D2.shown]) z1
    have x2 := ext_new (o := .lst [.ref v1]) z2
    have x3 := ext_new (o := .lst (List.replicate (2 : Int).toNat [V.ref v1]).flatten) z3
    have x13 := (x1.trans x2).trans x3
    have y1 := (x2.trans x3) _ _ (upd_same (H := H15) (a := v1) (o := .tup [.str "ratio", .str D2.shown]))
    have sh2 := shaped_hd (ds := [D2, D2]) (fun d hd => by
      simp only [List.mem_cons, List.not_mem_nil, or_false] at hd
      rcases hd with rfl | rfl <;> exact kl15.lay)
    refine ⟨_, _, (he15.extN (ExtN.ofE x13)).dp, .lst (SqL.of upd_same) (isHds_dp (rep_hd y1 2)), sh2, sh2, ?_⟩
    rw [show List.replicate 2 D2 = [D2, D2] from rfl, SeqAt.eqv_refl _ (SeqAt.canLay_of_shaped sh2)]
    refine ⟨_, rfl, iteF ?_⟩
    have P16 := P15.ext x13
    have t16 := t15.ext x13
    have ko16 := ko15.ext (dl_ext x13)
    have pl16 := pl15.ext (dl_ext x13)
    have ra16 := Gs.Rat.ext ra15 x13
    clear he15 kl15 P15 t15 ko15 pl15 ra15 y1 kl15s
    generalize upd (upd (upd H15 v1 (.tup [.str "ratio", .str D2.shown])) v2 (.lst [.ref v1])) v3 (.lst (List.replicate (2 : Int).toNat [V.ref v1]).flatten) = H16 at P16 t16 ko16 pl16 ra16 ⊢
    have nr16 : vRat (He.ga K "Ratio") H16 odd = false := by rw [ko16.o.any.vrat (dl_in _ _)]; exact ko16.nr
    have plx := pl16.ext (dl_in _ _)
    refine ⟨_, rfl, _, rfl, eq_bad ra16 plx NF nr16 ⟨_, rfl, _, rfl, eq_badR ra16 plx nr16 ⟨_, rfl, _, rfl, ne_bad ra16 plx NF nr16 ?_⟩⟩⟩
    refine ⟨by show 3 ≤ sizeLine; decide, fun g1 c1 => ?_⟩
    have sh : ∀ {H : Hp} {l : Addr}, H l = some (.lst [.bl false, .bl false, .bl true]) → Shw K H (.ref l) (.list [.bool false, .bool false, .bool true]) := fun h => .data (.lst (SqL.of h) (.cons (.bl _) (.cons (.bl _) (.cons (.bl _) .nil))))
    refine ⟨_, _, rfl, sh upd_same, fine3 _ _ _, by show 3 ≤ sizeLine; decide, fun g2 c2 => ?_⟩
    refine ⟨_, _, rfl, sh upd_same, fine3 _ _ _, scal_str _ _, ?_⟩
    rw [decide_eq_true rfl]
    have xx := (ext_new (o := .lst [.bl false, .bl false, .bl true]) c1).trans (ext_new (o := .lst [.bl false, .bl false, .bl true]) c2)
    exact k _ ((P16.ext xx).mono (by omega)) (t16.ext xx)
end
end K06

set_option maxRecDepth 100000
set_option maxHeartbeats 4000000
namespace K06
open PySem PySem.Spec PyProof.Rows Gs
open L2 hiding Ext paired_get
open C8 (tCut pss_cut)
open LamX

def LamF (H : Hp) (cl : Nat → List (Str × Addr)) (j : Nat) (f c : Addr) : Prop := H f = some (LamO f c "_law_below_refused.<locals>.<lambda>" (lamAr (lamAt s__law_below_refused j)) (lamBd (lamAt s__law_below_refused j)) (lamSc (lamAt s__law_below_refused j)) (cl j)) ∧ H c = some (CodeO c "_law_below_refused.<locals>.<lambda>")
/-- what stands while the lambdas are called -/
structure BelR (K : PySem.W.Frag) (H : Hp) (cl : Nat → List (Str × Addr)) (ra rb l1 l2 : Addr) (fs : List (Addr × Addr)) (i : Nat) : Prop where
  tb : Tabs (TL K) H
  h1 : H l1 = some (.lst (List.replicate i (.bl true)))
  h2 : H l2 = some (.lst (fs.map fun p => .ref p.1))
  ne : l2 ≠ l1
  nr : rb ≠ ra
  lam : ∀ j p, fs[j]? = some p → LamF H cl j p.1 p.2
  ra_ : Gs.Rat (He.ga K "Ratio") H ra (-1) 2
  rb_ : Gs.Rat (He.ga K "Ratio") H rb 0 1
theorem keep_lst {H : Hp} {l b : Addr} {xs ys : List V} {o : HO} (h : H l = some (.lst xs)) (e : H b = some o) (n : ∀ xs, o ≠ .lst xs) : upd H l (.lst ys) b = some o := by
  rw [upd_ne (ne_of e h (n _))]
  exact e
theorem tabs_lst {T : List (Addr × Str)} {H : Hp} {l : Addr} {xs ys : List V} (t : Tabs T H) (h : H l = some (.lst xs)) : Tabs T (upd H l (.lst ys)) := tabs_but (p := l) t (fun b o e n => by rw [upd_ne n]; exact e) (fun ps z => by
  rw [h] at z
  cases z) fun q z => by
  rw [h] at z
  unfold CodeO at z
  cases z
section
variable {K : PySem.W.Frag} {H H' : Hp} {cl : Nat → List (Str × Addr)} {ra rb l1 l2 f c : Addr} {fs : List (Addr × Addr)} {i j : Nat}
theorem LamF.ext (h : LamF H cl j f c) (e : Gs.Ext H H') : LamF H' cl j f c := ⟨e _ _ h.1, e _ _ h.2⟩
theorem LamF.extN (h : LamF H cl j f c) (e : ExtN H H') : LamF H' cl j f c := ⟨e _ _ h.1 (fun _ z => by unfold LamO at z; cases z), e _ _ h.2 codeO_ne⟩
theorem LamF.lst {l : Addr} {xs ys : List V} (h : LamF H cl j f c) (hl : H l = some (.lst xs)) : LamF (upd H l (.lst ys)) cl j f c :=
  ⟨keep_lst hl h.1 (fun xs z => by unfold LamO at z; cases z), keep_lst hl h.2 (fun xs z => by unfold CodeO at z; cases z)⟩
theorem rat_lst {C a l : Addr} {n d : Int} {xs ys : List V} (h : Gs.Rat C H a n d) (hl : H l = some (.lst xs)) : Gs.Rat C (upd H l (.lst ys)) a n d :=
  let ⟨dx, r⟩ := h
  ⟨dx, keep_lst hl r (fun xs z => by cases z)⟩
theorem BelR.ext (h : BelR K H cl ra rb l1 l2 fs i) (e : Gs.Ext H H') : BelR K H' cl ra rb l1 l2 fs i :=
  ⟨h.tb.ext e, e _ _ h.h1, e _ _ h.h2, h.ne, h.nr, fun j p z => LamF.ext (h.lam j p z) e, Gs.Rat.ext h.ra_ e, Gs.Rat.ext h.rb_ e⟩
theorem BelR.extN (h : BelR K H cl ra rb l1 l2 fs i) (t : Tabs (TL K) H') (e : ExtN H H') : BelR K H' cl ra rb l1 l2 fs i :=
  ⟨t, ExtN.lst e h.h1, ExtN.lst e h.h2, h.ne, h.nr, fun j p z => LamF.extN (h.lam j p z) e, Gs.Rat.extN h.ra_ e, Gs.Rat.extN h.rb_ e⟩
theorem BelR.add (h : BelR K H cl ra rb l1 l2 fs i) : BelR K (upd H l1 (.lst (List.replicate i (.bl true) ++ [.bl true]))) cl ra rb l1 l2 fs (i + 1) := by
  refine ⟨tabs_lst h.tb h.h1, ?_, ?_, h.ne, h.nr, fun j p z => LamF.lst (h.lam j p z) h.h1, rat_lst h.ra_ h.h1, rat_lst h.rb_ h.h1⟩
  · rw [upd_same, List.replicate_succ']
  · rw [upd_ne h.ne]
    exact h.h2
theorem BelR.more (h : BelR K H cl ra rb l1 l2 fs i) (a : LamF H cl fs.length f c) : BelR K (upd H l2 (.lst (fs.map (fun p => V.ref p.1) ++ [.ref f]))) cl ra rb l1 l2 (fs ++ [(f, c)]) i := by
  refine ⟨tabs_lst h.tb h.h2, ?_, ?_, h.ne, h.nr, fun j p z => ?_, rat_lst h.ra_ h.h2, rat_lst h.rb_ h.h2⟩
  · rw [upd_ne (Ne.symm h.ne)]
    exact h.h1
  · rw [upd_same, List.map_append]
    rfl
  · rcases Nat.lt_or_ge j fs.length with q | q
    · rw [List.getElem?_append_left q] at z
      exact LamF.lst (h.lam j p z) h.h2
    · rw [List.getElem?_append_right q] at z
      have : j = fs.length := by
        rcases Nat.lt_or_ge (j - fs.length) 1 with q2 | q2
        · omega
        · rw [List.getElem?_eq_none (by simpa using q2)] at z
          cases z
      subst this
      rw [Nat.sub_self] at z
      cases z
      exact LamF.lst a h.h2
theorem BelR.start (tb : Tabs (TL K) H) (h1 : H l1 = some (.lst [])) (n : H l2 = none) (a : LamF H cl 0 f c) (hr : Gs.Rat (He.ga K "Ratio") H ra (-1) 2) (hs : Gs.Rat (He.ga K "Ratio") H rb 0 1) (nr : rb ≠ ra) : BelR K (upd H l2 (.lst [.ref f])) cl ra rb l1 l2 [(f, c)] 0 := by
  have e := ext_new (o := .lst [.ref f]) n
  refine ⟨tb.ext e, e _ _ h1, upd_same, fun z => ?_, nr, fun j p z => ?_, Gs.Rat.ext hr e, Gs.Rat.ext hs e⟩
  · rw [z, h1] at n
    cases n
  · match j, z with
    | 0, z =>
      cases z
      exact LamF.ext a e
end
/-- a tuple is laid, a list grows, and what was laid over the tuple's place -/
theorem ext_lua {H : Hp} {u l a : Addr} {xs ys : List V} {T O : HO} (hu : H u = none) (hl : H l = some (.lst xs)) (ha : H a = none) : Gs.Ext (upd H l (.lst ys)) (upd (upd (upd H u T) l (.lst ys)) a O) := fun b o e => by
  have la : l ≠ a := ne_of_none hl ha
  by_cases z : b = l
  · subst z
    rw [upd_same] at e
    rw [upd_ne la, upd_same]
    exact e
  · rw [upd_ne z] at e
    rw [upd_ne (ne_of_none e ha), upd_ne z, upd_ne (ne_of_none e hu)]
    exact e
def spBelow (K : PySem.W.Frag) : Sp := fun vs H Q _ => vs = [] ∧ Tabs (TL K) H ∧ ∀ H', Tabs (TL K) H' → Q (.bl true) H'
/-- what the package refuses of a value not above 0 -/
theorem low_bad {K : PySem.W.Frag} {C CB : Addr} {nm : String} {G : Addr → PII → PII → Hp → VK → Prop} {spL : Sp} {H : Hp} {a : Addr} {x : PII} {i : Int} {Q : VK} {E : XK} (ra : Gs.Rat C H a x.1 x.2) (sx : Sm x) (px : 0 < x.2) (z : x.1 ≤ 0) (si : Sm (i, 1)) (bad : BadV CB H E (.ref a)) : rBinO K C nm spL (spDivR K C CB G) E (.int i) (.ref a) H Q := by
  obtain ⟨dx, hx⟩ := id ra
  exact .inr ⟨a, dx, _, rfl, hx, .inl ⟨i, rfl⟩, a, x, .int i, rfl, ra, sx, px, num_wants (x := (i, 1)) (.inl ⟨rfl, rfl⟩) ⟨si, (by show (0 : Int) < 1; decide), fun _ => bad, fun q => by omega⟩⟩
theorem low_badL {K : PySem.W.Frag} {C CB : Addr} {nm : String} {G : Addr → PII → PII → Hp → VK → Prop} {spR : Sp} {H : Hp} {a b : Addr} {x y : PII} {Q : VK} {E : XK} (ra : Gs.Rat C H a x.1 x.2) (sx : Sm x) (px : 0 < x.2) (rb : Gs.Rat C H b y.1 y.2) (sy : Sm y) (py : 0 < y.2) (z : y.1 ≤ 0) (bad : BadV CB H E (.ref b)) : rBinO K C nm (spDivL K C CB G) spR E (.ref a) (.ref b) H Q := by
  obtain ⟨dx, hx⟩ := id ra
  obtain ⟨dy, hy⟩ := id rb
  exact .inl ⟨a, dx, _, rfl, hx, .inl ⟨b, dy, _, rfl, hy⟩, a, x, .ref b, rfl, ra, sx, px, num_wants (.inr ⟨b, rfl, rb⟩) ⟨sy, py, fun _ => bad, fun q => by omega⟩⟩
theorem sm_low {i d : Int} (h1 : i.natAbs < 2 ^ 100) (h2 : d.natAbs < 2 ^ 100) : Sm (i, d) := ⟨Nat.lt_of_lt_of_le h1 (Nat.pow_le_pow_right (by decide) (show 100 ≤ 4000 by decide)), Nat.lt_of_lt_of_le h2 (Nat.pow_le_pow_right (by decide) (show 100 ≤ 4000 by decide))⟩
/-- a comparison of two own values, read off -/
theorem eqR_of {K : PySem.W.Frag} {C a b : Addr} {n d n' d' : Int} {H : Hp} {Q : VK} {E : XK} (RF : RatF K C) (ra : Gs.Rat C H a n d) (rb : Gs.Rat C H b n' d') (k : Q (.bl (decide (n = n') && decide (d = d'))) H) : rCmpO K C (spEqR K C) E (.ref a) (.ref b) H Q := by
  obtain ⟨dx, hx⟩ := id ra
  obtain ⟨dy, hy⟩ := id rb
  refine ⟨a, dx, _, _, rfl, hx, Gs.Rat.ty RF rb, by simp [PySem.W.notFirst], a, n, d, .ref b, rfl, ra, .rat rb, fun c m' e' ec rc => ?_, fun z => ?_⟩
  · cases ec
    obtain ⟨dz, hz⟩ := rc
    rw [hy] at hz
    cases hz
    exact k
  · rw [Gs.Rat.is _ rb] at z
    cases z
section
variable {P : Program} {w : World} {K : PySem.W.Frag} {mg : Str → Option Value} {base : Heap}
theorem sc__law_below_refused : FnScope ["caught", "low", "nought", "asks", "ask", "error"] [] (defScope s__law_below_refused) := ⟨rfl, rfl, rfl, by decide +kernel, rfl, by decide +kernel, by decide +kernel⟩
theorem d__law_below_refused (T : Txt K mg) (RF : RatF K (He.ga K "Ratio")) (XF : ExF K) (M_Ratio : Mk K (He.ga K "Ratio") (He.ma K (He.ga K "Ratio") "__init__"))(D_Ratio1 : FunOk P w K mg base (L2.CX P w) 3 (He.ma K (He.ga K "Ratio") "__init__") ["self", "over", "under"] [.int 1] (spInit K (He.ga K "Ratio") (He.ga K "BadRatio")))(D_Ratio2 : FunOk P w K mg base (L2.CX P w) 3 (He.ma K (He.ga K "Ratio") "__init__") ["self", "over", "under"] [] (spInit K (He.ga K "Ratio") (He.ga K "BadRatio")))(D_eq : FunC P w K mg base 1 (He.ma K (He.ga K "Ratio") "__eq__") ["self", "other"] (spEqR K (He.ga K "Ratio"))) (EQ : PySem.W.findIn K (.ref (He.ga K "Ratio")) "__eq__" = some (some (.ref (He.ma K (He.ga K "Ratio") "__eq__"))) ∧ PySem.W.isFn K (.ref (He.ma K (He.ga K "Ratio") "__eq__")) = true) (DL_floordiv : FunOk P w K mg base (L2.CX P w) 7 (He.ma K (He.ga K "Ratio") "__floordiv__") ["self", "other"] [] (spDivL K (He.ga K "Ratio") (He.ga K "BadRatio") GQuo)) (DR_floordiv : FunOk P w K mg base (L2.CX P w) 7 (He.ma K (He.ga K "Ratio") "__rfloordiv__") ["self", "other"] [] (spDivR K (He.ga K "Ratio") (He.ga K "BadRatio") GQuo)) (OW_floordiv : OwnB K (He.ga K "Ratio") "floordiv" (He.ma K (He.ga K "Ratio") "__floordiv__") (He.ma K (He.ga K "Ratio") "__rfloordiv__")) (IN_floordiv : InpF K (He.ga K "Ratio") "floordiv") (DL_mod : FunOk P w K mg base (L2.CX P w) 7 (He.ma K (He.ga K "Ratio") "__mod__") ["self", "other"] [] (spDivL K (He.ga K "Ratio") (He.ga K "BadRatio") GRem)) (DR_mod : FunOk P w K mg base (L2.CX P w) 7 (He.ma K (He.ga K "Ratio") "__rmod__") ["self", "other"] [] (spDivR K (He.ga K "Ratio") (He.ga K "BadRatio") GRem)) (OW_mod : OwnB K (He.ga K "Ratio") "mod" (He.ma K (He.ga K "Ratio") "__mod__") (He.ma K (He.ga K "Ratio") "__rmod__")) (IN_mod : InpF K (He.ga K "Ratio") "mod") (TB__law_below_refused : TabB base mg (He.cT K ("_law_below_refused", none)).1 (He.cT K ("_law_below_refused", none)).2) (G0 : mg "_law_below_refused" = some (.ref (He.ga K "_law_below_refused"))) (hm__law_below_refused : ((He.cT K ("_law_below_refused", none)).2, ("_law_below_refused.<locals>.<lambda>" : Str)) ∈ TL K) (hu__law_below_refused : ∀ p ∈ TL K, p.1 = (He.cT K ("_law_below_refused", none)).2 → p.2 = "_law_below_refused.<locals>.<lambda>")  (A0 : At K mg "_law_below_refused" s__law_below_refused) : DefG P w K mg base CX0 14 "_law_below_refused" [] [] (spBelow K) := by
  refine At.okT A0 G0 sc__law_below_refused (fun _ _ F => F.bindsN fun _ _ _ _ _ _ us hl => match us, hl with | [], _ => rfl) (fun vs H Q E h => ?_) (fun f A out s H vs Q E hG hr h => ?_)
  · obtain ⟨rfl, _⟩ := h; rfl
  · have nd := sc__law_below_refused.nd
    refine ⟨_, (pss_cons (ps_asg (pe_tup (pa_cons (pe_lst pa_nil) (pa_cons (pe_mk2 (pe_mkF M_Ratio T.c_Ratio D_Ratio2 (hr.mono (by decide)) passL (taM_ok (pa_cons (pe_un un_neg pe_int) (pa_cons pe_int pa_nil))))) (pa_cons (pe_mk1 (pe_mkF M_Ratio T.c_Ratio D_Ratio1 (hr.mono (by decide)) passL (taM_ok (pa_cons pe_int pa_nil)))) pa_nil)))) (pg_tup (by rfl) (pgs_cons (pg_name (i := 0) nd rfl (Or.inl rfl)) (pgs_cons (pg_name (i := 1) nd rfl (Or.inr rfl)) (pgs_cons (pg_name (i := 2) nd rfl (Or.inr rfl)) pgs_nil)))))
          (pss_cons (ps_set (i := 3) nd rfl (Or.inl rfl) (pe_lst (pa_cons (pe_lamV (T := TL K) TB__law_below_refused rfl hm__law_below_refused hu__law_below_refused (show LamS (defScope s__law_below_refused) _ from lamS_by (by decide +kernel))) pa_nil)))
          (pss_cons (ps_expr (pe_bm PySem.F.plainAttrs_list PySem.F.slot_list_append PySem.F.type_list_append mt_append (pv 3) (pa_cons (pe_lamV (T := TL K) TB__law_below_refused rfl hm__law_below_refused hu__law_below_refused (show LamS (defScope s__law_below_refused) _ from lamS_by (by decide +kernel))) pa_nil)))
          (pss_cons (ps_expr (pe_bm PySem.F.plainAttrs_list PySem.F.slot_list_append PySem.F.type_list_append mt_append (pv 3) (pa_cons (pe_lamV (T := TL K) TB__law_below_refused rfl hm__law_below_refused hu__law_below_refused (show LamS (defScope s__law_below_refused) _ from lamS_by (by decide +kernel))) pa_nil)))
          (pss_cut (ps_for PassesOwn.never rfl (pi_list (pv 3)) (pg_name (i := 4) nd rfl (Or.inl rfl)) (pss_one (ps_id (ps_try_held (i := 5) rfl rfl rfl nd rfl rfl ⟨rfl, by decide, .inl T.c_GapError⟩ takesN (fun W pn xe tk _ => pss_one (ps_expr (pe_orr (pe_callV (ar := lamAr (lamAt s__law_below_refused 0)) (bd := lamBd (lamAt s__law_below_refused 0)) (sc := lamSc (lamAt s__law_below_refused 0)) (q0 := "_law_below_refused.<locals>.<lambda>") (cl0 := cloFrom (envOfC "_law_below_refused" (defScope s__law_below_refused) s.heap.objs.size f (.ref (He.cT K ("_law_below_refused", none)).1)).cells (lamSc (lamAt s__law_below_refused 0)).names []) (i := 4) (k := 10) rfl rfl  (show LamS (defScope s__law_below_refused) _ from lamS_by (by decide +kernel)) tk (hr.mono (by decide)) (fun _ _ _ _ _ => rfl) (fun A out s H E f c' hr => (pe_op (show OpR _ _ (rBinO K (He.ga K "Ratio") "floordiv" (spDivL K (He.ga K "Ratio") (He.ga K "BadRatio") GQuo) (spDivR K (He.ga K "Ratio") (He.ga K "BadRatio") GQuo) E) from op_binO (op := .FloorDiv) DL_floordiv DR_floordiv OW_floordiv (hr.mono (by decide)) (hr.mono (by decide)) (passes_call takesLam fun _ _ _ _ h => h)) pe_int (pv 1))) rfl (Or.inl rfl)) (pe_orr (pe_callV (ar := lamAr (lamAt s__law_below_refused 1)) (bd := lamBd (lamAt s__law_below_refused 1)) (sc := lamSc (lamAt s__law_below_refused 1)) (q0 := "_law_below_refused.<locals>.<lambda>") (cl0 := cloFrom (envOfC "_law_below_refused" (defScope s__law_below_refused) s.heap.objs.size f (.ref (He.cT K ("_law_below_refused", none)).1)).cells (lamSc (lamAt s__law_below_refused 1)).names []) (i := 4) (k := 10) rfl rfl  (show LamS (defScope s__law_below_refused) _ from lamS_by (by decide +kernel)) tk (hr.mono (by decide)) (fun _ _ _ _ _ => rfl) (fun A out s H E f c' hr => (pe_op (show OpR _ _ (rBinO K (He.ga K "Ratio") "mod" (spDivL K (He.ga K "Ratio") (He.ga K "BadRatio") GRem) (spDivR K (He.ga K "Ratio") (He.ga K "BadRatio") GRem) E) from op_binO (op := .Mod) DL_mod DR_mod OW_mod (hr.mono (by decide)) (hr.mono (by decide)) (passes_call takesLam fun _ _ _ _ h => h)) (pe_mk1 (pe_mkF M_Ratio T.c_Ratio D_Ratio1 (hr.mono (by decide)) (passes_call takesLam fun _ _ _ _ h => h) (taM_ok (pa_cons pe_int pa_nil)))) (pv 1))) rfl (Or.inl rfl)) (pe_callV (ar := lamAr (lamAt s__law_below_refused 2)) (bd := lamBd (lamAt s__law_below_refused 2)) (sc := lamSc (lamAt s__law_below_refused 2)) (q0 := "_law_below_refused.<locals>.<lambda>") (cl0 := cloFrom (envOfC "_law_below_refused" (defScope s__law_below_refused) s.heap.objs.size f (.ref (He.cT K ("_law_below_refused", none)).1)).cells (lamSc (lamAt s__law_below_refused 2)).names []) (i := 4) (k := 10) rfl rfl  (show LamS (defScope s__law_below_refused) _ from lamS_by (by decide +kernel)) tk (hr.mono (by decide)) (fun _ _ _ _ _ => rfl) (fun A out s H E f c' hr => (pe_op (show OpR _ _ (rBinO K (He.ga K "Ratio") "mod" (spDivL K (He.ga K "Ratio") (He.ga K "BadRatio") GRem) (spDivR K (He.ga K "Ratio") (He.ga K "BadRatio") GRem) E) from op_binO (op := .Mod) DL_mod DR_mod OW_mod (hr.mono (by decide)) (hr.mono (by decide)) (passes_call takesLam fun _ _ _ _ h => h)) pe_int (pv 2))) rfl (Or.inl rfl)))))) (fun a oe cls d pn hz hf => pss_one (ps_expr (show PE _ _ (tBM K "list" rAppend _ _) from pe_bm PySem.F.plainAttrs_list PySem.F.slot_list_append PySem.F.type_list_append mt_append (pv 0) (pa_cons (pe_and (pe_callB (show CallR _ _ (rIsS K (He.ga K "BadRatio") a cls d) from call_isS XF.xh hz hf) (by rfl) T.f_isinstance (by decide +kernel) (pa_cons (pv 5) (pa_cons (pe_glob (v := .ref (He.ga K "BadRatio")) (by rfl) T.c_BadRatio rfl) pa_nil))) (pe_one (pe_cmpR (show OpR _ _ (rInO K (rCmpO K (He.ga K "Ratio") (spEqR K (He.ga K "Ratio")) E0)) from op_inO (op1_cmpS D_eq EQ.1 EQ.2 (hr.mono (by decide)))) (pe_xf XF.xh.xf XF.no hz hf (pv 5)) (pe_tup (pa_cons (pv 1) (pa_cons (pv 2) pa_nil))) (by rfl)))) pa_nil))))))))
          (pss_one (ps_ret (pe_cmpR (op_eqD hr.units) (pv 0) (pe_lst (pa_cons pe_bl (pa_cons pe_bl (pa_cons pe_bl pa_nil)))) (nomark _))))))))), ?_⟩
    obtain ⟨rfl, tb, k⟩ := h
    refine ⟨by show 0 ≤ sizeLine; decide, fun l1 m1 => ?_⟩
    have x1 := ext_new (o := .lst []) m1
    refine ⟨_, rfl, _, _, rfl, by decide, by decide, fun ra H1 e1 n1 rat => ⟨0, rfl, fun rb H2 e2 n2 rbt => ?_⟩⟩
    refine ⟨by show 3 ≤ sizeLine; decide, fun q m => ⟨q, _, rfl, .inl (.inl upd_same), rfl, _, _, rfl, _, _, rfl, _, _, rfl, rfl, ?_⟩⟩
    have x2 := ext_new (o := .tup [.ref l1, .ref ra, .ref rb]) m
    have tb2 := tb.ext (((x1.trans e1).trans e2).trans x2)
    have ra2 : Gs.Rat (He.ga K "Ratio") _ ra (-1) 2 := Gs.Rat.ext rat (e2.trans x2)
    have rb2 : Gs.Rat (He.ga K "Ratio") _ rb 0 1 := Gs.Rat.ext rbt x2
    have nab : rb ≠ ra := fun z => by
      obtain ⟨dx, y⟩ := rat
      rw [z, y] at n2
      cases n2
    have h1 := (e1.trans (e2.trans x2)) _ _ (upd_same (H := H) (a := l1) (o := HO.lst []))
    generalize upd H2 q (.tup [.ref l1, .ref ra, .ref rb]) = H3 at tb2 ra2 rb2 h1 ⊢
    clear x1 x2 e1 e2 n1 n2 rat rbt m m1
    refine ⟨tb2, fun f1 c1 H4 n4 t4 z4 k4 => ⟨by show 1 ≤ sizeLine; decide, fun l2 m3 => ?_⟩⟩
    have en4 := ext_new (o := LamO f1 c1 "_law_below_refused.<locals>.<lambda>" (lamAr (lamAt s__law_below_refused 0)) (lamBd (lamAt s__law_below_refused 0)) (lamSc (lamAt s__law_below_refused 0)) (cloFrom (envOfC "_law_below_refused" (defScope s__law_below_refused) s.heap.objs.size f (.ref (He.cT K ("_law_below_refused", none)).1)).cells (lamSc (lamAt s__law_below_refused 0)).names [])) z4
    have A1 : LamF _ (fun j => cloFrom (envOfC "_law_below_refused" (defScope s__law_below_refused) s.heap.objs.size f (.ref (He.cT K ("_law_below_refused", none)).1)).cells (lamSc (lamAt s__law_below_refused j)).names []) 0 f1 c1 := ⟨upd_same (H := H4) (a := f1) (o := LamO f1 c1 "_law_below_refused.<locals>.<lambda>" (lamAr (lamAt s__law_below_refused 0)) (lamBd (lamAt s__law_below_refused 0)) (lamSc (lamAt s__law_below_refused 0)) (cloFrom (envOfC "_law_below_refused" (defScope s__law_below_refused) s.heap.objs.size f (.ref (He.cT K ("_law_below_refused", none)).1)).cells (lamSc (lamAt s__law_below_refused 0)).names [])), en4 _ _ k4⟩
    have I1 := BelR.start (l2 := l2) (t4.ext en4) (en4 _ _ (ExtN.lst n4 h1)) m3 A1 (Gs.Rat.ext (Gs.Rat.extN ra2 n4) en4) (Gs.Rat.ext (Gs.Rat.extN rb2 n4) en4) nab
    clear A1 en4 k4 t4 n4 tb2 ra2 rb2 h1
    refine ⟨_, rfl, .inl ⟨rfl, _, SqL.of I1.h2⟩, I1.tb, fun f2 c2 H6 n6 t6 z6 k6 => ?_⟩
    have en6 := ext_new (o := LamO f2 c2 "_law_below_refused.<locals>.<lambda>" (lamAr (lamAt s__law_below_refused 1)) (lamBd (lamAt s__law_below_refused 1)) (lamSc (lamAt s__law_below_refused 1)) (cloFrom (envOfC "_law_below_refused" (defScope s__law_below_refused) s.heap.objs.size f (.ref (He.cT K ("_law_below_refused", none)).1)).cells (lamSc (lamAt s__law_below_refused 1)).names [])) z6
    have A2 : LamF _ (fun j => cloFrom (envOfC "_law_below_refused" (defScope s__law_below_refused) s.heap.objs.size f (.ref (He.cT K ("_law_below_refused", none)).1)).cells (lamSc (lamAt s__law_below_refused j)).names []) 1 f2 c2 := ⟨upd_same (H := H6) (a := f2) (o := LamO f2 c2 "_law_below_refused.<locals>.<lambda>" (lamAr (lamAt s__law_below_refused 1)) (lamBd (lamAt s__law_below_refused 1)) (lamSc (lamAt s__law_below_refused 1)) (cloFrom (envOfC "_law_below_refused" (defScope s__law_below_refused) s.heap.objs.size f (.ref (He.cT K ("_law_below_refused", none)).1)).cells (lamSc (lamAt s__law_below_refused 1)).names [])), en6 _ _ k6⟩
    have J2 := (I1.extN t6 n6).ext en6
    have I2 := J2.more A2
    refine ⟨l2, _, .ref f2, rfl, rfl, J2.h2, by show 1 < sizeLine; decide, ?_⟩
    clear J2 A2 en6
    refine ⟨_, rfl, .inl ⟨rfl, _, SqL.of I2.h2⟩, I2.tb, fun f3 c3 H8 n8 t8 z8 k8 => ?_⟩
    have en8 := ext_new (o := LamO f3 c3 "_law_below_refused.<locals>.<lambda>" (lamAr (lamAt s__law_below_refused 2)) (lamBd (lamAt s__law_below_refused 2)) (lamSc (lamAt s__law_below_refused 2)) (cloFrom (envOfC "_law_below_refused" (defScope s__law_below_refused) s.heap.objs.size f (.ref (He.cT K ("_law_below_refused", none)).1)).cells (lamSc (lamAt s__law_below_refused 2)).names [])) z8
    have A3 : LamF _ (fun j => cloFrom (envOfC "_law_below_refused" (defScope s__law_below_refused) s.heap.objs.size f (.ref (He.cT K ("_law_below_refused", none)).1)).cells (lamSc (lamAt s__law_below_refused j)).names []) 2 f3 c3 := ⟨upd_same (H := H8) (a := f3) (o := LamO f3 c3 "_law_below_refused.<locals>.<lambda>" (lamAr (lamAt s__law_below_refused 2)) (lamBd (lamAt s__law_below_refused 2)) (lamSc (lamAt s__law_below_refused 2)) (cloFrom (envOfC "_law_below_refused" (defScope s__law_below_refused) s.heap.objs.size f (.ref (He.cT K ("_law_below_refused", none)).1)).cells (lamSc (lamAt s__law_below_refused 2)).names [])), en8 _ _ k8⟩
    have J3 := (I2.extN t8 n8).ext en8
    have I3 := J3.more A3
    refine ⟨l2, _, .ref f3, rfl, rfl, J3.h2, by show 2 < sizeLine; decide, ?_⟩
    clear J3 A3 en8
    refine ⟨fun σ' H' => BelR K H' (fun j => cloFrom (envOfC "_law_below_refused" (defScope s__law_below_refused) s.heap.objs.size f (.ref (He.cT K ("_law_below_refused", none)).1)).cells (lamSc (lamAt s__law_below_refused j)).names []) ra rb l1 l2 [(f1, c1), (f2, c2), (f3, c3)] 3 ∧ ∃ o1 o2, σ' = [some (.ref l1), some (.ref ra), some (.ref rb), some (.ref l2), o1, o2], ?_, ?_⟩
    rotate_left
    · rintro σ' H' ⟨I9, o1, o2, rfl⟩
      refine ⟨_, rfl, by show 3 ≤ sizeLine; decide, fun l m => ?_⟩
      have x := ext_new (o := .lst [.bl true, .bl true, .bl true]) m
      have sh : SeqAt.shaped (.list [.bool true, .bool true, .bool true]) = true := by decide +kernel
      refine ⟨_, _, .lst (SqL.of (x _ _ I9.h1)) (.cons (.bl _) (.cons (.bl _) (.cons (.bl _) .nil))), .lst (SqL.of upd_same) (.cons (.bl _) (.cons (.bl _) (.cons (.bl _) .nil))), sh, sh, ?_⟩
      rw [SeqAt.eqv_refl _ (SeqAt.canLay_of_shaped sh)]
      exact k _ (I9.tb.ext x)
    refine ⟨_, rfl, l2, rfl, ⟨_, SqL.of I3.h2⟩, ?_⟩
    refine for_list (D := { nx := fun σ' H' => BelR K H' (fun j => cloFrom (envOfC "_law_below_refused" (defScope s__law_below_refused) s.heap.objs.size f (.ref (He.cT K ("_law_below_refused", none)).1)).cells (lamSc (lamAt s__law_below_refused j)).names []) ra rb l1 l2 [(f1, c1), (f2, c2), (f3, c3)] 3 ∧ ∃ o1 o2, σ' = [some (.ref l1), some (.ref ra), some (.ref rb), some (.ref l2), o1, o2], rt := Q }) (xs := [.ref f1, .ref f2, .ref f3]) (fun i σ' H' => BelR K H' (fun j => cloFrom (envOfC "_law_below_refused" (defScope s__law_below_refused) s.heap.objs.size f (.ref (He.cT K ("_law_below_refused", none)).1)).cells (lamSc (lamAt s__law_below_refused j)).names []) ra rb l1 l2 [(f1, c1), (f2, c2), (f3, c3)] i ∧ ∃ o1 o2, σ' = [some (.ref l1), some (.ref ra), some (.ref rb), some (.ref l2), o1, o2]) ⟨I3, none, none, rfl⟩ ?_ ?_ ?_
    · rintro i σ H' _ ⟨I, o1, o2, rfl⟩
      exact SqL.of I.h2
    · rintro i x σ H' hx ⟨I, o1, o2, rfl⟩
      match i, hx with
      | 0, hx =>
        cases hx
        refine .inl ⟨f1, c1, rfl, (I.lam 0 _ rfl).1, (I.lam 0 _ rfl).2, _, fun _ _ _ h => h, _, rfl, low_bad (x := (-1, 2)) I.ra_ (sm_low (by decide) (by decide)) (by decide) (by decide) (sm_low (by decide) (by decide)) fun d H2 e n h => ?_⟩
        refine ⟨true, XF.gap, fun _ a na => ?_, fun z => by cases z⟩
        have I2 := I.ext e
        refine ⟨_, rfl, .inl ⟨rfl, _, SqL.of I2.h1⟩, ?_⟩
        refine ⟨_, rfl, _, _, true, d, _, rfl, .own _, rfl, rfl, h, XF.isB, true, rfl, ?_⟩
        rw [if_pos rfl]
        refine ⟨_, rfl, rfl, rfl, d, _, _, rfl, h, rfl, _, rfl, _, rfl, by show 2 ≤ sizeLine; decide, fun u m => ?_⟩
        have Iu := I2.ext (ext_new (o := .tup [.ref ra, .ref rb]) m)
        refine ⟨u, _, ra, rfl, rfl, .inl (.inl upd_same), ⟨⟨ra, rfl⟩, .inl ⟨rfl, ?_⟩⟩⟩
        refine ⟨l1, _, .bl true, rfl, rfl, Iu.h1, by rw [List.length_replicate]; show 0 < sizeLine; decide, ?_⟩
        exact ⟨I2.add.ext (ext_lua m I2.h1 na), _, _, rfl⟩
      | 1, hx =>
        cases hx
        refine .inr (.inl ⟨f2, c2, rfl, (I.lam 1 _ rfl).1, (I.lam 1 _ rfl).2, _, fun _ _ _ h => h, 5, rfl, fun a5 H5 e5 n5 r5 => ⟨_, rfl, low_badL (x := (5, 1)) (y := (-1, 2)) r5 (sm_low (by decide) (by decide)) (by decide) (Gs.Rat.ext I.ra_ e5) (sm_low (by decide) (by decide)) (by decide) (by decide) fun d H2 e n h => ?_⟩⟩)
        refine ⟨true, XF.gap, fun _ a na => ?_, fun z => by cases z⟩
        have I2 := I.ext (e5.trans e)
        refine ⟨_, rfl, .inl ⟨rfl, _, SqL.of I2.h1⟩, ?_⟩
        refine ⟨_, rfl, _, _, true, d, _, rfl, .own _, rfl, rfl, h, XF.isB, true, rfl, ?_⟩
        rw [if_pos rfl]
        refine ⟨_, rfl, rfl, rfl, d, _, _, rfl, h, rfl, _, rfl, _, rfl, by show 2 ≤ sizeLine; decide, fun u m => ?_⟩
        have Iu := I2.ext (ext_new (o := .tup [.ref ra, .ref rb]) m)
        refine ⟨u, _, ra, rfl, rfl, .inl (.inl upd_same), ⟨⟨ra, rfl⟩, .inl ⟨rfl, ?_⟩⟩⟩
        refine ⟨l1, _, .bl true, rfl, rfl, Iu.h1, by rw [List.length_replicate]; show 1 < sizeLine; decide, ?_⟩
        exact ⟨I2.add.ext (ext_lua m I2.h1 na), _, _, rfl⟩
      | 2, hx =>
        cases hx
        refine .inr (.inr ⟨f3, c3, rfl, (I.lam 2 _ rfl).1, (I.lam 2 _ rfl).2, _, fun _ _ _ h => h, _, rfl, low_bad (x := (0, 1)) I.rb_ (sm_low (by decide) (by decide)) (by decide) (by decide) (sm_low (by decide) (by decide)) fun d H2 e n h => ?_⟩)
        refine ⟨true, XF.gap, fun _ a na => ?_, fun z => by cases z⟩
        have I2 := I.ext e
        refine ⟨_, rfl, .inl ⟨rfl, _, SqL.of I2.h1⟩, ?_⟩
        refine ⟨_, rfl, _, _, true, d, _, rfl, .own _, rfl, rfl, h, XF.isB, true, rfl, ?_⟩
        rw [if_pos rfl]
        refine ⟨_, rfl, rfl, rfl, d, _, _, rfl, h, rfl, _, rfl, _, rfl, by show 2 ≤ sizeLine; decide, fun u m => ?_⟩
        have Iu := I2.ext (ext_new (o := .tup [.ref ra, .ref rb]) m)
        refine ⟨u, _, rb, rfl, rfl, .inl (.inl upd_same), ⟨⟨ra, rfl⟩, .inr ⟨fun z => nab (by cases z; rfl), eqR_of RF Iu.ra_ Iu.rb_ ⟨_, rfl, ?_⟩⟩⟩⟩
        rw [if_neg (by decide)]
        refine ⟨⟨rb, rfl⟩, .inl ⟨rfl, ?_⟩⟩
        refine ⟨l1, _, .bl true, rfl, rfl, Iu.h1, by rw [List.length_replicate]; show 2 < sizeLine; decide, ?_⟩
        exact ⟨I2.add.ext (ext_lua m I2.h1 na), _, _, rfl⟩
    · rintro σ H' ⟨I, o1, o2, rfl⟩
      exact ⟨I, o1, o2, rfl⟩
end
end K06

set_option maxRecDepth 100000
set_option maxHeartbeats 4000000
namespace K06
open PySem PySem.Spec PyProof.Rows Gs
open L2 hiding Ext paired_get
open C8 (tCut pss_cut)
open LamX

def spLaw (K : PySem.W.Frag) : Sp := fun vs H Q _ => ∃ (a : Addr) (ns : List Int), vs = [.ref a] ∧ SqL K H a (ns.map V.int) ∧ ns.length ≤ 63 ∧ Tabs (TL K) H ∧ ∀ H', Q (.bl true) H'
section
variable {P : Program} {w : World} {K : PySem.W.Frag} {mg : Str → Option Value} {base : Heap}
theorem sc_law : FnScope ["script", "pen", "lap", "told_so"] ["script"] (defScope s_law) := ⟨rfl, rfl, rfl, by decide +kernel, rfl, by decide +kernel, by decide +kernel⟩
theorem d_law (T : Txt K mg) (RF : RatF K (He.ga K "Ratio")) (M_Ratio : Mk K (He.ga K "Ratio") (He.ma K (He.ga K "Ratio") "__init__"))(D_Ratio1 : FunOk P w K mg base (L2.CX P w) 3 (He.ma K (He.ga K "Ratio") "__init__") ["self", "over", "under"] [.int 1] (spInit K (He.ga K "Ratio") (He.ga K "BadRatio")))(D_Ratio2 : FunOk P w K mg base (L2.CX P w) 3 (He.ma K (He.ga K "Ratio") "__init__") ["self", "over", "under"] [] (spInit K (He.ga K "Ratio") (He.ga K "BadRatio")))(D_law_pen : DefOk P w K mg base CX0 1 "_law_pen" ["script"] [] (spPen K)) (D_law_right : DefG P w K mg base CX0 9 "_law_right" ["pen"] [] spRight) (D_law_rounded_right : DefG P w K mg base CX0 9 "_law_rounded_right" ["pen"] [] spRight) (D_law_divided_right : DefG P w K mg base CX0 9 "_law_divided_right" ["pen"] [] spRight) (D_law_refused_right : DefG P w K mg base CX0 12 "_law_refused_right" ["pen"] [] (spRefR K)) (D_law_below_refused : DefG P w K mg base CX0 14 "_law_below_refused" [] [] (spBelow K)) (D_Ratio_floor : FunOk P w K mg base CX0 1 (He.ma K (He.ga K "Ratio") "floor") ["self"] [] (spFlo (He.ga K "Ratio"))) (O_floor : PySem.W.findIn K (.ref (He.ga K "Ratio")) "floor" = some (some (.ref (He.ma K (He.ga K "Ratio") "floor"))) ∧ PySem.W.isFn K (.ref (He.ma K (He.ga K "Ratio") "floor")) = true) (D_Ratio_ceiling : FunOk P w K mg base CX0 1 (He.ma K (He.ga K "Ratio") "ceiling") ["self"] [] (spCei (He.ga K "Ratio"))) (O_ceiling : PySem.W.findIn K (.ref (He.ga K "Ratio")) "ceiling" = some (some (.ref (He.ma K (He.ga K "Ratio") "ceiling"))) ∧ PySem.W.isFn K (.ref (He.ma K (He.ga K "Ratio") "ceiling")) = true) (D_Ratio___lt__ : FunOk P w K mg base (L2.CX P w) 6 (He.ma K (He.ga K "Ratio") "__lt__") ["self", "other"] [] (spCmp K (He.ga K "Ratio") (He.ga K "BadRatio") (fun i j => decide (i < j)))) (D_Ratio___le__ : FunOk P w K mg base (L2.CX P w) 6 (He.ma K (He.ga K "Ratio") "__le__") ["self", "other"] [] (spCmp K (He.ga K "Ratio") (He.ga K "BadRatio") (fun i j => decide (i ≤ j)))) (D_Ratio___gt__ : FunOk P w K mg base (L2.CX P w) 6 (He.ma K (He.ga K "Ratio") "__gt__") ["self", "other"] [] (spCmp K (He.ga K "Ratio") (He.ga K "BadRatio") (fun i j => decide (i > j)))) (D_Ratio___ge__ : FunOk P w K mg base (L2.CX P w) 6 (He.ma K (He.ga K "Ratio") "__ge__") ["self", "other"] [] (spCmp K (He.ga K "Ratio") (He.ga K "BadRatio") (fun i j => decide (i ≥ j)))) (D_Ratio___eq__ : FunOk P w K mg base CX0 1 (He.ma K (He.ga K "Ratio") "__eq__") ["self", "other"] [] (spEqR K (He.ga K "Ratio"))) (O_lt : PySem.W.findIn K (.ref (He.ga K "Ratio")) "__lt__" = some (some (.ref (He.ma K (He.ga K "Ratio") "__lt__"))) ∧ PySem.W.isFn K (.ref (He.ma K (He.ga K "Ratio") "__lt__")) = true) (O_le : PySem.W.findIn K (.ref (He.ga K "Ratio")) "__le__" = some (some (.ref (He.ma K (He.ga K "Ratio") "__le__"))) ∧ PySem.W.isFn K (.ref (He.ma K (He.ga K "Ratio") "__le__")) = true) (O_gt : PySem.W.findIn K (.ref (He.ga K "Ratio")) "__gt__" = some (some (.ref (He.ma K (He.ga K "Ratio") "__gt__"))) ∧ PySem.W.isFn K (.ref (He.ma K (He.ga K "Ratio") "__gt__")) = true) (O_ge : PySem.W.findIn K (.ref (He.ga K "Ratio")) "__ge__" = some (some (.ref (He.ma K (He.ga K "Ratio") "__ge__"))) ∧ PySem.W.isFn K (.ref (He.ma K (He.ga K "Ratio") "__ge__")) = true) (O_eq : PySem.W.findIn K (.ref (He.ga K "Ratio")) "__eq__" = some (some (.ref (He.ma K (He.ga K "Ratio") "__eq__"))) ∧ PySem.W.isFn K (.ref (He.ma K (He.ga K "Ratio") "__eq__")) = true) (O_ne : PySem.W.findIn K (.ref (He.ga K "Ratio")) "__ne__" = some (some (.builtin "object.__ne__")) ∧ PySem.W.subIn K (.ref (He.ga K "Ratio")) (.type "object") = some true) (SUB : ∀ T ∈ T7, PySem.W.subIn K (.ref (He.ga K "Ratio")) (.type T) = some false) (NF : ∀ T ∈ T7, PySem.W.subIn K (.type T) (.ref (He.ga K "Ratio")) = some false) (DL_floordiv : FunOk P w K mg base (L2.CX P w) 7 (He.ma K (He.ga K "Ratio") "__floordiv__") ["self", "other"] [] (spDivL K (He.ga K "Ratio") (He.ga K "BadRatio") GQuo)) (DR_floordiv : FunOk P w K mg base (L2.CX P w) 7 (He.ma K (He.ga K "Ratio") "__rfloordiv__") ["self", "other"] [] (spDivR K (He.ga K "Ratio") (He.ga K "BadRatio") GQuo)) (OW_floordiv : OwnB K (He.ga K "Ratio") "floordiv" (He.ma K (He.ga K "Ratio") "__floordiv__") (He.ma K (He.ga K "Ratio") "__rfloordiv__")) (IN_floordiv : InpF K (He.ga K "Ratio") "floordiv") (DL_mod : FunOk P w K mg base (L2.CX P w) 7 (He.ma K (He.ga K "Ratio") "__mod__") ["self", "other"] [] (spDivL K (He.ga K "Ratio") (He.ga K "BadRatio") GRem)) (DR_mod : FunOk P w K mg base (L2.CX P w) 7 (He.ma K (He.ga K "Ratio") "__rmod__") ["self", "other"] [] (spDivR K (He.ga K "Ratio") (He.ga K "BadRatio") GRem)) (OW_mod : OwnB K (He.ga K "Ratio") "mod" (He.ma K (He.ga K "Ratio") "__mod__") (He.ma K (He.ga K "Ratio") "__rmod__")) (IN_mod : InpF K (He.ga K "Ratio") "mod")  (A0 : At K mg "law" s_law) : DefG P w K mg base CX0 15 "law" ["script"] [] (spLaw K) := by
  refine At.okG A0 sc_law (fun _ _ F => F.bindsN fun _ _ _ _ _ _ us hl => match us, hl with | [_], _ => rfl) (fun vs H Q E h => ?_) (fun f cdv A out s H vs Q E hG hr h => ?_)
  · obtain ⟨a, ns, rfl, _⟩ := h; rfl
  · have nd := sc_law.nd
    refine ⟨_, (pss_cons (ps_set (i := 1) nd rfl (Or.inl rfl) (pe_d D_law_pen (hr.mono (by decide)) pass0 (pa_cons (pv 0) pa_nil)))
          (pss_cons (ps_for PassesOwn.never rfl (pi_range1 (by rfl) T.f_range (pa_cons pe_int pa_nil)) (pg_name (i := 2) nd rfl (Or.inl rfl)) (pss_cons (ps_if (PW.pt (pw_or (pt_not (pt_val (pe_g D_law_right hG (hr.mono (by decide)) pass0 (pa_cons (pv 1) pa_nil)))) (pw_or1 (pt_not (pt_val (pe_g D_law_rounded_right hG (hr.mono (by decide)) pass0 (pa_cons (pv 1) pa_nil))))))) (pss_one (ps_ret pe_bl)) pss_nil)
          (pss_one (ps_if (PW.pt (pw_or (pt_not (pt_val (pe_g D_law_divided_right hG (hr.mono (by decide)) pass0 (pa_cons (pv 1) pa_nil)))) (pw_or1 (pt_not (pt_val (pe_g D_law_refused_right hG (hr.mono (by decide)) pass0 (pa_cons (pv 1) pa_nil))))))) (pss_one (ps_ret pe_bl)) pss_nil))))
          (pss_cons (ps_set (i := 3) nd rfl (Or.inl rfl) (pe_lst (pa_cons (pe_cmpR (show OpR _ _ (rCmpO K (He.ga K "Ratio") (spEqR K (He.ga K "Ratio")) E0) from op_cmpO D_Ratio___eq__ O_eq.1 O_eq.2 (hr.mono (by decide)) pass0) (pe_mk2 (pe_mkF M_Ratio T.c_Ratio D_Ratio2 (hr.mono (by decide)) passL (taM_ok (pa_cons pe_int (pa_cons pe_int pa_nil))))) (pe_mk1 (pe_mkF M_Ratio T.c_Ratio D_Ratio1 (hr.mono (by decide)) passL (taM_ok (pa_cons pe_int pa_nil)))) (nomark _)) (pa_cons (pe_cmpR (show OpR _ _ (rCmpR K (He.ga K "Ratio") .Eq (spEqR K (He.ga K "Ratio")) E0) from op_cmpR D_Ratio___eq__ O_eq.1 O_eq.2 SUB (hr.mono (by decide)) pass0) pe_int (pe_mk2 (pe_mkF M_Ratio T.c_Ratio D_Ratio2 (hr.mono (by decide)) passL (taM_ok (pa_cons pe_int (pa_cons pe_int pa_nil))))) (nomark _)) (pa_cons (pe_cmpR (show OpR _ _ (rCmpO K (He.ga K "Ratio") (spEqR K (He.ga K "Ratio")) E0) from op_cmpO D_Ratio___eq__ O_eq.1 O_eq.2 (hr.mono (by decide)) pass0) (pe_mk1 (pe_mkF M_Ratio T.c_Ratio D_Ratio1 (hr.mono (by decide)) passL (taM_ok (pa_cons pe_int pa_nil)))) pe_bl (nomark _)) (pa_cons (pe_cmpR (show OpR _ _ (rCmpO K (He.ga K "Ratio") (spEqR K (He.ga K "Ratio")) E0) from op_cmpO D_Ratio___eq__ O_eq.1 O_eq.2 (hr.mono (by decide)) pass0) (pe_mk1 (pe_mkF M_Ratio T.c_Ratio D_Ratio1 (hr.mono (by decide)) passL (taM_ok (pa_cons pe_int pa_nil)))) pe_bl (nomark _)) (pa_cons (pe_cmpR (op_both (show OpR _ _ (rCmpO K (He.ga K "Ratio") (spCmp K (He.ga K "Ratio") (He.ga K "BadRatio") (fun i j => decide (i < j))) E0) from op_cmpO D_Ratio___lt__ O_lt.1 O_lt.2 (hr.mono (by decide)) passL) (show OpR _ _ (rCmpR K (He.ga K "Ratio") .Lt (spCmp K (He.ga K "Ratio") (He.ga K "BadRatio") (fun i j => decide (i > j))) E0) from op_cmpR D_Ratio___gt__ O_gt.1 O_gt.2 SUB (hr.mono (by decide)) passL)) (pe_mk2 (pe_mkF M_Ratio T.c_Ratio D_Ratio2 (hr.mono (by decide)) passL (taM_ok (pa_cons pe_int (pa_cons pe_int pa_nil))))) pe_int (nomark _)) pa_nil)))))))
          (pss_cons (ps_set (i := 3) nd rfl (Or.inl rfl) (pe_op op_cat (pv 3) (pe_lst (pa_cons (pe_cmpR (op_both (show OpR _ _ (rCmpO K (He.ga K "Ratio") (spCmp K (He.ga K "Ratio") (He.ga K "BadRatio") (fun i j => decide (i ≤ j))) E0) from op_cmpO D_Ratio___le__ O_le.1 O_le.2 (hr.mono (by decide)) passL) (show OpR _ _ (rCmpR K (He.ga K "Ratio") .LtE (spCmp K (He.ga K "Ratio") (He.ga K "BadRatio") (fun i j => decide (i ≥ j))) E0) from op_cmpR D_Ratio___ge__ O_ge.1 O_ge.2 SUB (hr.mono (by decide)) passL)) pe_int (pe_mk2 (pe_mkF M_Ratio T.c_Ratio D_Ratio2 (hr.mono (by decide)) passL (taM_ok (pa_cons (pe_un un_neg pe_int) (pa_cons pe_int pa_nil))))) (nomark _)) (pa_cons (pe_m0 D_Ratio_floor O_floor (pe_mk2 (pe_mkF M_Ratio T.c_Ratio D_Ratio2 (hr.mono (by decide)) passL (taM_ok (pa_cons (pe_un un_neg pe_int) (pa_cons pe_int pa_nil))))) RF.cls (hr.mono (by decide)) pass0) (pa_cons (pe_m0 D_Ratio_ceiling O_ceiling (pe_mk2 (pe_mkF M_Ratio T.c_Ratio D_Ratio2 (hr.mono (by decide)) passL (taM_ok (pa_cons (pe_un un_neg pe_int) (pa_cons pe_int pa_nil))))) RF.cls (hr.mono (by decide)) pass0) (pa_cons (pe_op (show OpR _ _ (rBinO K (He.ga K "Ratio") "floordiv" (spDivL K (He.ga K "Ratio") (He.ga K "BadRatio") GQuo) (spDivR K (He.ga K "Ratio") (He.ga K "BadRatio") GQuo) E0) from op_binO (op := .FloorDiv) DL_floordiv DR_floordiv OW_floordiv (hr.mono (by decide)) (hr.mono (by decide)) passL) pe_int (pe_mk2 (pe_mkF M_Ratio T.c_Ratio D_Ratio2 (hr.mono (by decide)) passL (taM_ok (pa_cons pe_int (pa_cons pe_int pa_nil)))))) pa_nil)))))))
          (pss_cons (ps_expr (pe_bm PySem.F.plainAttrs_list PySem.F.slot_list_append PySem.F.type_list_append mt_append (pv 3) (pa_cons (pe_op (show OpR _ _ (rBinO K (He.ga K "Ratio") "floordiv" (spDivL K (He.ga K "Ratio") (He.ga K "BadRatio") GQuo) (spDivR K (He.ga K "Ratio") (He.ga K "BadRatio") GQuo) E0) from op_binO (op := .FloorDiv) DL_floordiv DR_floordiv OW_floordiv (hr.mono (by decide)) (hr.mono (by decide)) passL) (pe_mk2 (pe_mkF M_Ratio T.c_Ratio D_Ratio2 (hr.mono (by decide)) passL (taM_ok (pa_cons (pe_un un_neg pe_int) (pa_cons pe_int pa_nil))))) pe_int) pa_nil)))
          (pss_one (ps_ret (pe_and (pe_cmpR (op_eqD hr.units) (pv 3) (pe_lst (pa_cons pe_bl (pa_cons pe_bl (pa_cons pe_bl (pa_cons pe_bl (pa_cons pe_bl (pa_cons pe_bl (pa_cons (pe_un un_neg pe_int) (pa_cons (pe_un un_neg pe_int) (pa_cons pe_int (pa_cons (pe_un un_neg pe_int) pa_nil))))))))))) (nomark _)) (pe_one (pe_g0 D_law_below_refused hG (hr.mono (by decide)) pass0)))))))))), ?_⟩
    obtain ⟨a, ns, rfl, hS, hn, tb, k⟩ := h
    refine ⟨_, rfl, a, ns, rfl, hS, hn, fun p c H1 _ _ P1 e1 => ?_⟩
    refine ⟨8, rfl, by decide, by decide, for_range (lo := 0) (n := 8) (fun i σ H2 => ∃ o, σ = [some (.ref a), some (.ref p), o, none] ∧ Pen H2 p c (i * 80) ∧ Tabs (TL K) H2) ⟨_, rfl, P1, tb.ext e1⟩ ?_ ?_⟩
    · rintro i σ H2 hi ⟨o, rfl, P2, t2⟩
      refine ⟨_, rfl, p, c, _, rfl, P2, by omega, fun H3 P3 B3 => ⟨true, rfl, iteF ?_⟩⟩
      refine ⟨_, rfl, p, c, _, rfl, P3, by omega, fun H4 P4 B4 => ⟨true, rfl, iteF ?_⟩⟩
      refine ⟨_, rfl, p, c, _, rfl, P4, by omega, fun H5 P5 B5 => ⟨true, rfl, iteF ?_⟩⟩
      refine ⟨_, rfl, p, c, _, rfl, P5, by omega, tabs_pen (tabs_pen (tabs_pen t2 P2 B3) P3 B4) P4 B5, fun H6 P6 t6 => ⟨true, rfl, iteF ?_⟩⟩
      exact ⟨_, rfl, P6.mono (by omega), t6⟩
    rintro σ H2 ⟨o, rfl, P2, t2⟩
    refine ⟨4, 2, rfl, by decide, by decide, fun a1 G1 x1 y1 r1 => ⟨2, rfl, fun a2 G2 x2 y2 r2 => ?_⟩⟩
    refine eqR_of RF (Gs.Rat.ext r1 x2) r2 ?_
    rw [show (decide (rN 4 2 = 2) && decide (rD 4 2 = 1)) = true from by decide +kernel]
    refine ⟨4, 2, rfl, by decide, by decide, fun a3 G3 x3 y3 r3 => eq_badR (x := (rN 4 2, rD 4 2)) r3 (.int 2) rfl ?_⟩
    refine ⟨1, rfl, fun a4 G4 x4 y4 r4 => eq_bad (x := (1, 1)) r4 (.bl true) NF rfl ?_⟩
    refine ⟨0, rfl, fun a5 G5 x5 y5 r5 => eq_bad (x := (0, 1)) r5 (.bl false) NF rfl ?_⟩
    have r6 : ∀ {H : Hp} {a : Addr} {i j : Int}, Gs.Rat (He.ga K "Ratio") H a (rN i j) (rD i j) → RatOf (He.ga K "Ratio") H (.ref a) (rN i j, rD i j) := fun r => .inr ⟨_, rfl, r⟩
    have q12 : Sm (rN 1 2, rD 1 2) := sm_least2 (by decide) (by decide) (by decide)
    have q72 : Sm (rN (-7) 2, rD (-7) 2) := sm_least2 (by decide) (by decide) (by decide)
    have q23 : Sm (rN 2 3, rD 2 3) := sm_least2 (by decide) (by decide) (by decide)
    refine ⟨1, 2, rfl, by decide, by decide, fun a6 G6 x6 y6 z6 => cmp_go RF NF (r6 z6) (.inl ⟨rfl, rfl⟩ : RatOf _ _ (.int 1) (1, 1)) (.inl rfl) q12 (sm_low (by decide) (by decide)) cdec_int_lt (fun _ _ => rfl) fun G7 x7 => ?_⟩
    rw [show (decide ((rN 1 2, rD 1 2).1 * (1, 1).2 < (1, 1).1 * (rN 1 2, rD 1 2).2)) = true from by decide +kernel]
    refine ⟨by show 5 ≤ sizeLine; decide, fun l1 m1 => ?_⟩
    have hl1 := upd_same (H := G7) (a := l1) (o := HO.lst [.bl true, .bl false, .bl false, .bl false, .bl true])
    have t8 := t2.ext ((x1.trans (x2.trans (x3.trans (x4.trans (x5.trans (x6.trans x7)))))).trans (ext_new (o := .lst [.bl true, .bl false, .bl false, .bl false, .bl true]) m1))
    generalize upd G7 l1 (.lst [.bl true, .bl false, .bl false, .bl false, .bl true]) = G8 at hl1 t8 ⊢
    refine ⟨_, rfl, _, rfl, _, _, rfl, by decide, by decide, fun a7 G9 x9 y9 z9 => cmp_go RF NF (.inl ⟨rfl, rfl⟩ : RatOf _ _ (.int 2) (2, 1)) (r6 z9) (.inr rfl) (sm_low (by decide) (by decide)) q72 cdec_int_le (fun _ _ => rfl) fun G10 x10 => ?_⟩
    rw [show (decide ((2, 1).1 * (rN (-7) 2, rD (-7) 2).2 ≤ (rN (-7) 2, rD (-7) 2).1 * (2, 1).2)) = false from by decide +kernel]
    refine ⟨_, rfl, _, _, rfl, by decide, by decide, fun a8 G11 x11 y11 z11 => ?_⟩
    obtain ⟨dx, hx⟩ := id z11
    refine ⟨a8, dx, _, rfl, hx, rfl, a8, (rN (-7) 2, rD (-7) 2), rfl, z11, q72, by decide +kernel, ?_⟩
    rw [show (rN (-7) 2, rD (-7) 2).1.fdiv (rN (-7) 2, rD (-7) 2).2 = -4 from by decide +kernel]
    refine ⟨_, rfl, _, _, rfl, by decide, by decide, fun a9 G12 x12 y12 z12 => ?_⟩
    obtain ⟨dy, hy⟩ := id z12
    refine ⟨a9, dy, _, rfl, hy, rfl, a9, (rN (-7) 2, rD (-7) 2), rfl, z12, q72, by decide +kernel, ?_⟩
    rw [show -((-(rN (-7) 2, rD (-7) 2).1).fdiv (rN (-7) 2, rD (-7) 2).2) = -3 from by decide +kernel]
    refine ⟨2, 3, rfl, by decide, by decide, fun a10 G13 x13 y13 z13 => div_go (.inl ⟨rfl, rfl⟩ : RatOf _ _ (.int 7) (7, 1)) (r6 z13) (.inr rfl) (sm_low (by decide) (by decide)) q23 (by decide) (by decide +kernel) (by decide +kernel) fun G14 x14 => ?_⟩
    unfold GQuo
    rw [show QuoP (7, 1) (rN 2 3, rD 2 3) = 10 from by decide +kernel]
    refine ⟨by show 4 ≤ sizeLine; decide, fun l2 m2 => ?_⟩
    have e14 := x9.trans (x10.trans (x11.trans (x12.trans (x13.trans x14))))
    have e15 := ext_new (o := .lst [.bl false, .int (-4), .int (-3), .int 10]) m2
    refine ⟨l1, l2, _, _, rfl, rfl, e15 _ _ (e14 _ _ hl1), upd_same, by show 5 + 4 ≤ sizeLine; decide, fun l3 m3 => ?_⟩
    have hl3 := upd_same (H := upd G14 l2 (.lst [.bl false, .int (-4), .int (-3), .int 10])) (a := l3) (o := HO.lst ([.bl true, .bl false, .bl false, .bl false, .bl true] ++ [.bl false, .int (-4), .int (-3), .int 10]))
    have t15 := t8.ext ((e14.trans e15).trans (ext_new (o := .lst ([.bl true, .bl false, .bl false, .bl false, .bl true] ++ [.bl false, .int (-4), .int (-3), .int 10])) m3))
    generalize upd (upd G14 l2 (.lst [.bl false, .int (-4), .int (-3), .int 10])) l3 _ = G15 at hl3 t15 ⊢
    refine ⟨_, rfl, .inl ⟨rfl, _, SqL.of hl3⟩, _, rfl, _, _, rfl, by decide, by decide, fun a11 G16 x16 y16 z16 => div_go (r6 z16) (.inl ⟨rfl, rfl⟩ : RatOf _ _ (.int 2) (2, 1)) (.inl rfl) q72 (sm_low (by decide) (by decide)) (by decide +kernel) (by decide) (by decide) fun G17 x17 => ?_⟩
    rw [show QuoP (rN (-7) 2, rD (-7) 2) (2, 1) = -2 from by decide +kernel]
    have hl17 := (x16.trans x17) _ _ hl3
    refine ⟨l3, _, .int (-2), rfl, rfl, hl17, by show 9 < sizeLine; decide, ?_⟩
    refine ⟨_, rfl, _, rfl, _, rfl, _, rfl, by show 10 ≤ sizeLine; decide, fun l4 m4 => ?_⟩
    have e4 := ext_new (o := .lst [.bl true, .bl false, .bl false, .bl false, .bl true, .bl false, .int (-4), .int (-3), .int 10, .int (-2)]) m4
    have sh : SeqAt.shaped (.list [.bool true, .bool false, .bool false, .bool false, .bool true, .bool false, .int (-4), .int (-3), .int 10, .int (-2)]) = true := by decide +kernel
    refine ⟨_, _, .lst (SqL.of (e4 _ _ upd_same)) (.cons (.bl _) (.cons (.bl _) (.cons (.bl _) (.cons (.bl _) (.cons (.bl _) (.cons (.bl _) (.cons (.int _) (.cons (.int _) (.cons (.int _) (.cons (.int _) .nil)))))))))), .lst (SqL.of upd_same) (.cons (.bl _) (.cons (.bl _) (.cons (.bl _) (.cons (.bl _) (.cons (.bl _) (.cons (.bl _) (.cons (.int _) (.cons (.int _) (.cons (.int _) (.cons (.int _) .nil)))))))))), sh, sh, ?_⟩
    rw [SeqAt.eqv_refl _ (SeqAt.canLay_of_shaped sh)]
    exact ⟨_, rfl, iteT ⟨rfl, (tabs_lst (t15.ext (x16.trans x17)) hl17).ext e4, fun H' _ => k H'⟩⟩
end
end K06

set_option maxRecDepth 100000
set_option maxHeartbeats 4000000
namespace K06
open PySem PySem.Spec PyProof.Rows Gs
open L2 hiding Ext paired_get
open C8 (tCut pss_cut)
open LamX
theorem law_in {K : PySem.W.Frag} {H : Hp} {a : Addr} {ns : List Int} (hl : ns.length ≤ 63) (hT : ∀ p ∈ tf.map (He.cT K), H p.2 = some (.tbl #[])) (hS : SqL K H a (ns.map V.int)) : spLaw K [.ref a] H (fun v _ => v = .bl true) fun _ _ _ => False :=
  ⟨a, ns, rfl, hS, hl, fun p hp => by
    unfold TL at hp
    simp only [List.mem_cons, List.not_mem_nil, or_false] at hp
    rcases hp with rfl | rfl
    · exact TabS.nil (hT _ (List.mem_map.mpr ⟨("_law_refused_right", none), List.mem_of_getElem? (l := tf) (i := 0) rfl, rfl⟩))
    · exact TabS.nil (hT _ (List.mem_map.mpr ⟨("_law_below_refused", none), List.mem_of_getElem? (l := tf) (i := 1) rfl, rfl⟩)), fun _ => rfl⟩
theorem facts {P : Program} {w : World} {K : PySem.W.Frag} {h : Heap} {mg : Str → Option Value} {f : Addr} (X : K.In h) (G : h.Ns mainGlobals mg) (hfa : mg ("law" : Str) = some (.ref f)) (topS : (P.main.scope.names.lookup ("super" : Str)).isSome = false) (hfile : P.main.file = file) (c : SaysS file fa fn xs tf ex h K) :
    ∃ fd : FuncData, (∀ (s : Shared) (v : Value), BindsTo s fd ⟨[v], []⟩ [("script", v)]) ∧ ∀ base : Heap, K.In base → base.Ns mainGlobals mg → NoDig base → (∀ p ∈ tf.map (He.cT K), TabB base mg p.1 p.2) → FnG P w K mg base CX0 15 f fd ["script"] (spLaw K) := by
  obtain ⟨fd0, F0⟩ := c.d.def_ 0 (d := ⟨fun K => He.ga K "is_integer", "is_integer", "is_integer", defArgs (top 2), defBody (top 2), defScope (top 2), [], []⟩) rfl
  have G_is_integer := He.glo_ok X G (c.d.fact 10 (f := .glo "is_integer") rfl)
  have A_is_integer : At K mg "is_integer" s_is_integer := ⟨_, fd0, F0, G_is_integer⟩
  obtain ⟨fd1, F1⟩ := c.d.def_ 1 (d := ⟨fun K => He.ga K "divisor_of", "divisor_of", "divisor_of", defArgs (top 11), defBody (top 11), defScope (top 11), [], []⟩) rfl
  have G_divisor_of := He.glo_ok X G (c.d.fact 11 (f := .glo "divisor_of") rfl)
  have A_divisor_of : At K mg "divisor_of" s_divisor_of := ⟨_, fd1, F1, G_divisor_of⟩
  obtain ⟨fd2, F2⟩ := c.d.def_ 2 (d := ⟨fun K => He.ma K (He.ga K "Ratio") "__init__", "__init__", "Ratio.__init__", defArgs (inClass (top 12) 0), defBody (inClass (top 12) 0), defScope (inClass (top 12) 0), [.int 1], []⟩) rfl
  have A_Ratio___init__ : AtF K (He.ma K (He.ga K "Ratio") "__init__") "__init__" "Ratio.__init__" s_Ratio___init__ [.int 1] := ⟨fd2, F2⟩
  obtain ⟨fd3, F3⟩ := c.d.def_ 3 (d := ⟨fun K => He.ma K (He.ga K "Ratio") "floor", "floor", "Ratio.floor", defArgs (inClass (top 12) 5), defBody (inClass (top 12) 5), defScope (inClass (top 12) 5), [], []⟩) rfl
  have A_Ratio_floor : AtF K (He.ma K (He.ga K "Ratio") "floor") "floor" "Ratio.floor" s_Ratio_floor [] := ⟨fd3, F3⟩
  obtain ⟨fd4, F4⟩ := c.d.def_ 4 (d := ⟨fun K => He.ma K (He.ga K "Ratio") "ceiling", "ceiling", "Ratio.ceiling", defArgs (inClass (top 12) 6), defBody (inClass (top 12) 6), defScope (inClass (top 12) 6), [], []⟩) rfl
  have A_Ratio_ceiling : AtF K (He.ma K (He.ga K "Ratio") "ceiling") "ceiling" "Ratio.ceiling" s_Ratio_ceiling [] := ⟨fd4, F4⟩
  obtain ⟨fd5, F5⟩ := c.d.def_ 5 (d := ⟨fun K => He.ma K (He.ga K "Ratio") "__floordiv__", "__floordiv__", "Ratio.__floordiv__", defArgs (inClass (top 12) 14), defBody (inClass (top 12) 14), defScope (inClass (top 12) 14), [], []⟩) rfl
  have A_Ratio___floordiv__ : AtF K (He.ma K (He.ga K "Ratio") "__floordiv__") "__floordiv__" "Ratio.__floordiv__" s_Ratio___floordiv__ [] := ⟨fd5, F5⟩
  obtain ⟨fd6, F6⟩ := c.d.def_ 6 (d := ⟨fun K => He.ma K (He.ga K "Ratio") "__rfloordiv__", "__rfloordiv__", "Ratio.__rfloordiv__", defArgs (inClass (top 12) 15), defBody (inClass (top 12) 15), defScope (inClass (top 12) 15), [], []⟩) rfl
  have A_Ratio___rfloordiv__ : AtF K (He.ma K (He.ga K "Ratio") "__rfloordiv__") "__rfloordiv__" "Ratio.__rfloordiv__" s_Ratio___rfloordiv__ [] := ⟨fd6, F6⟩
  obtain ⟨fd7, F7⟩ := c.d.def_ 7 (d := ⟨fun K => He.ma K (He.ga K "Ratio") "__mod__", "__mod__", "Ratio.__mod__", defArgs (inClass (top 12) 16), defBody (inClass (top 12) 16), defScope (inClass (top 12) 16), [], []⟩) rfl
  have A_Ratio___mod__ : AtF K (He.ma K (He.ga K "Ratio") "__mod__") "__mod__" "Ratio.__mod__" s_Ratio___mod__ [] := ⟨fd7, F7⟩
  obtain ⟨fd8, F8⟩ := c.d.def_ 8 (d := ⟨fun K => He.ma K (He.ga K "Ratio") "__rmod__", "__rmod__", "Ratio.__rmod__", defArgs (inClass (top 12) 17), defBody (inClass (top 12) 17), defScope (inClass (top 12) 17), [], []⟩) rfl
  have A_Ratio___rmod__ : AtF K (He.ma K (He.ga K "Ratio") "__rmod__") "__rmod__" "Ratio.__rmod__" s_Ratio___rmod__ [] := ⟨fd8, F8⟩
  obtain ⟨fd9, F9⟩ := c.d.def_ 9 (d := ⟨fun K => He.ma K (He.ga K "Ratio") "__bool__", "__bool__", "Ratio.__bool__", defArgs (inClass (top 12) 20), defBody (inClass (top 12) 20), defScope (inClass (top 12) 20), [], []⟩) rfl
  have A_Ratio___bool__ : AtF K (He.ma K (He.ga K "Ratio") "__bool__") "__bool__" "Ratio.__bool__" s_Ratio___bool__ [] := ⟨fd9, F9⟩
  obtain ⟨fd10, F10⟩ := c.d.def_ 10 (d := ⟨fun K => He.ma K (He.ga K "Ratio") "__lt__", "__lt__", "Ratio.__lt__", defArgs (inClass (top 12) 21), defBody (inClass (top 12) 21), defScope (inClass (top 12) 21), [], []⟩) rfl
  have A_Ratio___lt__ : AtF K (He.ma K (He.ga K "Ratio") "__lt__") "__lt__" "Ratio.__lt__" s_Ratio___lt__ [] := ⟨fd10, F10⟩
  obtain ⟨fd11, F11⟩ := c.d.def_ 11 (d := ⟨fun K => He.ma K (He.ga K "Ratio") "__le__", "__le__", "Ratio.__le__", defArgs (inClass (top 12) 22), defBody (inClass (top 12) 22), defScope (inClass (top 12) 22), [], []⟩) rfl
  have A_Ratio___le__ : AtF K (He.ma K (He.ga K "Ratio") "__le__") "__le__" "Ratio.__le__" s_Ratio___le__ [] := ⟨fd11, F11⟩
  obtain ⟨fd12, F12⟩ := c.d.def_ 12 (d := ⟨fun K => He.ma K (He.ga K "Ratio") "__gt__", "__gt__", "Ratio.__gt__", defArgs (inClass (top 12) 23), defBody (inClass (top 12) 23), defScope (inClass (top 12) 23), [], []⟩) rfl
  have A_Ratio___gt__ : AtF K (He.ma K (He.ga K "Ratio") "__gt__") "__gt__" "Ratio.__gt__" s_Ratio___gt__ [] := ⟨fd12, F12⟩
  obtain ⟨fd13, F13⟩ := c.d.def_ 13 (d := ⟨fun K => He.ma K (He.ga K "Ratio") "__ge__", "__ge__", "Ratio.__ge__", defArgs (inClass (top 12) 24), defBody (inClass (top 12) 24), defScope (inClass (top 12) 24), [], []⟩) rfl
  have A_Ratio___ge__ : AtF K (He.ma K (He.ga K "Ratio") "__ge__") "__ge__" "Ratio.__ge__" s_Ratio___ge__ [] := ⟨fd13, F13⟩
  obtain ⟨fd14, F14⟩ := c.d.def_ 14 (d := ⟨fun K => He.ma K (He.ga K "Ratio") "__eq__", "__eq__", "Ratio.__eq__", defArgs (inClass (top 12) 25), defBody (inClass (top 12) 25), defScope (inClass (top 12) 25), [], []⟩) rfl
  have A_Ratio___eq__ : AtF K (He.ma K (He.ga K "Ratio") "__eq__") "__eq__" "Ratio.__eq__" s_Ratio___eq__ [] := ⟨fd14, F14⟩
  obtain ⟨fd15, F15⟩ := c.d.def_ 15 (d := ⟨fun K => He.ga K "told_of", "told_of", "told_of", defArgs (top 13), defBody (top 13), defScope (top 13), [], []⟩) rfl
  have G_told_of := He.glo_ok X G (c.d.fact 12 (f := .glo "told_of") rfl)
  have A_told_of : At K mg "told_of" s_told_of := ⟨_, fd15, F15, G_told_of⟩
  obtain ⟨fd16, F16⟩ := c.d.def_ 16 (d := ⟨fun K => He.ga K "above", "above", "above", defArgs (top 14), defBody (top 14), defScope (top 14), [], []⟩) rfl
  have G_above := He.glo_ok X G (c.d.fact 13 (f := .glo "above") rfl)
  have A_above : At K mg "above" s_above := ⟨_, fd16, F16, G_above⟩
  obtain ⟨fd17, F17⟩ := c.d.def_ 17 (d := ⟨fun K => He.ga K "quotient", "quotient", "quotient", defArgs (top 15), defBody (top 15), defScope (top 15), [], []⟩) rfl
  have G_quotient := He.glo_ok X G (c.d.fact 14 (f := .glo "quotient") rfl)
  have A_quotient : At K mg "quotient" s_quotient := ⟨_, fd17, F17, G_quotient⟩
  obtain ⟨fd18, F18⟩ := c.d.def_ 18 (d := ⟨fun K => He.ga K "remainder", "remainder", "remainder", defArgs (top 16), defBody (top 16), defScope (top 16), [], []⟩) rfl
  have G_remainder := He.glo_ok X G (c.d.fact 15 (f := .glo "remainder") rfl)
  have A_remainder : At K mg "remainder" s_remainder := ⟨_, fd18, F18, G_remainder⟩
  obtain ⟨fd19, F19⟩ := c.d.def_ 19 (d := ⟨fun K => He.ga K "_law_pen", "_law_pen", "_law_pen", defArgs (top 18), defBody (top 18), defScope (top 18), [], []⟩) rfl
  have G__law_pen := He.glo_ok X G (c.d.fact 16 (f := .glo "_law_pen") rfl)
  have A__law_pen : At K mg "_law_pen" s__law_pen := ⟨_, fd19, F19, G__law_pen⟩
  obtain ⟨fd20, F20⟩ := c.d.def_ 20 (d := ⟨fun K => He.ga K "_law_draw", "_law_draw", "_law_draw", defArgs (top 19), defBody (top 19), defScope (top 19), [], []⟩) rfl
  have G__law_draw := He.glo_ok X G (c.d.fact 17 (f := .glo "_law_draw") rfl)
  have A__law_draw : At K mg "_law_draw" s__law_draw := ⟨_, fd20, F20, G__law_draw⟩
  obtain ⟨fd21, F21⟩ := c.d.def_ 21 (d := ⟨fun K => He.ga K "_law_pick", "_law_pick", "_law_pick", defArgs (top 20), defBody (top 20), defScope (top 20), [], []⟩) rfl
  have G__law_pick := He.glo_ok X G (c.d.fact 18 (f := .glo "_law_pick") rfl)
  have A__law_pick : At K mg "_law_pick" s__law_pick := ⟨_, fd21, F21, G__law_pick⟩
  obtain ⟨fd22, F22⟩ := c.d.def_ 22 (d := ⟨fun K => He.ga K "_law_shared", "_law_shared", "_law_shared", defArgs (top 21), defBody (top 21), defScope (top 21), [], []⟩) rfl
  have G__law_shared := He.glo_ok X G (c.d.fact 19 (f := .glo "_law_shared") rfl)
  have A__law_shared : At K mg "_law_shared" s__law_shared := ⟨_, fd22, F22, G__law_shared⟩
  obtain ⟨fd23, F23⟩ := c.d.def_ 23 (d := ⟨fun K => He.ga K "_law_least", "_law_least", "_law_least", defArgs (top 22), defBody (top 22), defScope (top 22), [], []⟩) rfl
  have G__law_least := He.glo_ok X G (c.d.fact 20 (f := .glo "_law_least") rfl)
  have A__law_least : At K mg "_law_least" s__law_least := ⟨_, fd23, F23, G__law_least⟩
  obtain ⟨fd24, F24⟩ := c.d.def_ 24 (d := ⟨fun K => He.ga K "_law_pair", "_law_pair", "_law_pair", defArgs (top 23), defBody (top 23), defScope (top 23), [], []⟩) rfl
  have G__law_pair := He.glo_ok X G (c.d.fact 21 (f := .glo "_law_pair") rfl)
  have A__law_pair : At K mg "_law_pair" s__law_pair := ⟨_, fd24, F24, G__law_pair⟩
  obtain ⟨fd25, F25⟩ := c.d.def_ 25 (d := ⟨fun K => He.ga K "_law_odd", "_law_odd", "_law_odd", defArgs (top 24), defBody (top 24), defScope (top 24), [], []⟩) rfl
  have G__law_odd := He.glo_ok X G (c.d.fact 22 (f := .glo "_law_odd") rfl)
  have A__law_odd : At K mg "_law_odd" s__law_odd := ⟨_, fd25, F25, G__law_odd⟩
  obtain ⟨fd26, F26⟩ := c.d.def_ 26 (d := ⟨fun K => He.ga K "_law_heard", "_law_heard", "_law_heard", defArgs (top 25), defBody (top 25), defScope (top 25), [], []⟩) rfl
  have G__law_heard := He.glo_ok X G (c.d.fact 23 (f := .glo "_law_heard") rfl)
  have A__law_heard : At K mg "_law_heard" s__law_heard := ⟨_, fd26, F26, G__law_heard⟩
  obtain ⟨fd27, F27⟩ := c.d.def_ 27 (d := ⟨fun K => He.ga K "_law_got", "_law_got", "_law_got", defArgs (top 26), defBody (top 26), defScope (top 26), [], []⟩) rfl
  have G__law_got := He.glo_ok X G (c.d.fact 24 (f := .glo "_law_got") rfl)
  have A__law_got : At K mg "_law_got" s__law_got := ⟨_, fd27, F27, G__law_got⟩
  obtain ⟨fd28, F28⟩ := c.d.def_ 28 (d := ⟨fun K => He.ga K "_law_number", "_law_number", "_law_number", defArgs (top 27), defBody (top 27), defScope (top 27), [], []⟩) rfl
  have G__law_number := He.glo_ok X G (c.d.fact 25 (f := .glo "_law_number") rfl)
  have A__law_number : At K mg "_law_number" s__law_number := ⟨_, fd28, F28, G__law_number⟩
  obtain ⟨fd29, F29⟩ := c.d.def_ 29 (d := ⟨fun K => He.ga K "_law_near", "_law_near", "_law_near", defArgs (top 28), defBody (top 28), defScope (top 28), [], []⟩) rfl
  have G__law_near := He.glo_ok X G (c.d.fact 26 (f := .glo "_law_near") rfl)
  have A__law_near : At K mg "_law_near" s__law_near := ⟨_, fd29, F29, G__law_near⟩
  obtain ⟨fd30, F30⟩ := c.d.def_ 30 (d := ⟨fun K => He.ga K "_law_right", "_law_right", "_law_right", defArgs (top 29), defBody (top 29), defScope (top 29), [], []⟩) rfl
  have G__law_right := He.glo_ok X G (c.d.fact 27 (f := .glo "_law_right") rfl)
  have A__law_right : At K mg "_law_right" s__law_right := ⟨_, fd30, F30, G__law_right⟩
  obtain ⟨fd31, F31⟩ := c.d.def_ 31 (d := ⟨fun K => He.ga K "_law_rounded_right", "_law_rounded_right", "_law_rounded_right", defArgs (top 30), defBody (top 30), defScope (top 30), [], []⟩) rfl
  have G__law_rounded_right := He.glo_ok X G (c.d.fact 28 (f := .glo "_law_rounded_right") rfl)
  have A__law_rounded_right : At K mg "_law_rounded_right" s__law_rounded_right := ⟨_, fd31, F31, G__law_rounded_right⟩
  obtain ⟨fd32, F32⟩ := c.d.def_ 32 (d := ⟨fun K => He.ga K "_law_divided_right", "_law_divided_right", "_law_divided_right", defArgs (top 31), defBody (top 31), defScope (top 31), [], []⟩) rfl
  have G__law_divided_right := He.glo_ok X G (c.d.fact 29 (f := .glo "_law_divided_right") rfl)
  have A__law_divided_right : At K mg "_law_divided_right" s__law_divided_right := ⟨_, fd32, F32, G__law_divided_right⟩
  obtain ⟨fd33, F33⟩ := c.d.def_ 33 (d := ⟨fun K => He.ga K "_law_refused_right", "_law_refused_right", "_law_refused_right", defArgs (top 32), defBody (top 32), defScope (top 32), [], []⟩) rfl
  have G__law_refused_right := He.glo_ok X G (c.d.fact 30 (f := .glo "_law_refused_right") rfl)
  have A__law_refused_right : At K mg "_law_refused_right" s__law_refused_right := ⟨_, fd33, F33, G__law_refused_right⟩
  obtain ⟨fd34, F34⟩ := c.d.def_ 34 (d := ⟨fun K => He.ga K "_law_below_refused", "_law_below_refused", "_law_below_refused", defArgs (top 33), defBody (top 33), defScope (top 33), [], []⟩) rfl
  have G__law_below_refused := He.glo_ok X G (c.d.fact 31 (f := .glo "_law_below_refused") rfl)
  have A__law_below_refused : At K mg "_law_below_refused" s__law_below_refused := ⟨_, fd34, F34, G__law_below_refused⟩
  obtain ⟨fd35, F35⟩ := c.d.def_ 35 (d := ⟨fun K => He.ga K "law", "law", "law", defArgs (top 34), defBody (top 34), defScope (top 34), [], []⟩) rfl
  have G_law := He.glo_ok X G (c.d.fact 32 (f := .glo "law") rfl)
  have A_law : At K mg "law" s_law := ⟨_, fd35, F35, G_law⟩
  have T : Txt K mg := ⟨He.free_ok X G (c.d.fact 0 (f := .free "isinstance") rfl), He.free_ok X G (c.d.fact 1 (f := .free "int") rfl), He.free_ok X G (c.d.fact 2 (f := .free "bool") rfl), He.free_ok X G (c.d.fact 3 (f := .free "len") rfl), He.free_ok X G (c.d.fact 4 (f := .free "abs") rfl), He.free_ok X G (c.d.fact 5 (f := .free "list") rfl), He.free_ok X G (c.d.fact 6 (f := .free "range") rfl), He.free_ok X G (c.d.fact 7 (f := .free "repr") rfl), He.free_ok X G (c.d.fact 8 (f := .free "tuple") rfl), He.free_ok X G (c.d.fact 9 (f := .free "super") rfl), He.glo_ok X G (c.d.fact 33 (f := .glo "GapError") rfl), He.glo_ok X G (c.d.fact 34 (f := .glo "BadRatio") rfl), He.glo_ok X G (c.d.fact 35 (f := .glo "BadText") rfl), He.glo_ok X G (c.d.fact 36 (f := .glo "Ratio") rfl)⟩
  have hx := c.more
  obtain ⟨x1, hx⟩ := He.ba hx
  obtain ⟨x2, hx⟩ := He.ba hx
  obtain ⟨x3, hx⟩ := He.ba hx
  obtain ⟨x4, hx⟩ := He.ba hx
  obtain ⟨x5, hx⟩ := He.ba hx
  obtain ⟨x6, hx⟩ := He.ba hx
  obtain ⟨x7, hx⟩ := He.ba hx
  obtain ⟨x8, hx⟩ := He.ba hx
  obtain ⟨x9, hx⟩ := He.ba hx
  obtain ⟨x10, hx⟩ := He.ba hx
  obtain ⟨x11, hx⟩ := He.ba hx
  obtain ⟨x12, hx⟩ := He.ba hx
  obtain ⟨x13, x14⟩ := He.ba hx
  have RF := ratB_ok x1
  have M_Ratio := He.mkr_ok x2
  have xbB := c.xb _ (List.mem_of_getElem? (l := xs) (i := 0) rfl)
  have XF : ExF K := ⟨xhB_ok (He.ba (He.ba xbB).2).1, of_decide_eq_true x3, of_decide_eq_true x4, of_decide_eq_true x5⟩
  have ne : (He.cT K ("_law_refused_right", none)).2 ≠ (He.cT K ("_law_below_refused", none)).2 := of_decide_eq_true x6
  have O_floor := mthB_ok (List.all_eq_true.mp x7 "floor" (by decide))
  have O_ceiling := mthB_ok (List.all_eq_true.mp x7 "ceiling" (by decide))
  have O_bool := mthB_ok (List.all_eq_true.mp x7 "__bool__" (by decide))
  have O_lt := mthB_ok (List.all_eq_true.mp x7 "__lt__" (by decide))
  have O_le := mthB_ok (List.all_eq_true.mp x7 "__le__" (by decide))
  have O_gt := mthB_ok (List.all_eq_true.mp x7 "__gt__" (by decide))
  have O_ge := mthB_ok (List.all_eq_true.mp x7 "__ge__" (by decide))
  have O_eq := mthB_ok (List.all_eq_true.mp x7 "__eq__" (by decide))
  have SUB : ∀ T ∈ T7, PySem.W.subIn K (.ref (He.ga K "Ratio")) (.type T) = some false := fun T hT => of_decide_eq_true (He.ba (List.all_eq_true.mp x8 T hT)).1
  have NF : ∀ T ∈ T7, PySem.W.subIn K (.type T) (.ref (He.ga K "Ratio")) = some false := fun T hT => of_decide_eq_true (He.ba (List.all_eq_true.mp x8 T hT)).2
  have O_ne := And.intro (of_decide_eq_true x9) (of_decide_eq_true x10)
  have OW_floordiv := ownBB_ok x11 declines_floordiv
  have OW_mod := ownBB_ok x12 declines_mod
  have IN_floordiv := inpB_ok x13
  have IN_mod := inpB_ok x14
  have EQ := O_eq
  have DXx : ∀ base : Heap, ExcD P w K mg base "BadRatio" ["value"] ["value"] := fun base =>
    exc_one (xc_at (st := s_BadRatio___init__) X G topS (c.xo _ (List.mem_of_getElem? (l := xs) (i := 0) rfl)) (by rw [hfile]; exact xbB) rfl rfl rfl) rfl
      ⟨rfl, rfl, rfl, by decide +kernel, rfl, by decide +kernel, by decide +kernel, by decide +kernel, rfl, rfl⟩ rfl rfl (fun _ _ _ _ => ⟨_, rfl⟩) (fun C hC => by
        rw [T.c_BadRatio] at hC
        cases hC
        exact XF.no) (fun kV doc pm an cdv ct cc us hl => match us, hl with | [_, _], _ => rfl) rfl rfl
  have hm__law_refused_right : ((He.cT K ("_law_refused_right", none)).2, ("_law_refused_right.<locals>.<lambda>" : Str)) ∈ TL K := List.mem_cons_self
  have hm__law_below_refused : ((He.cT K ("_law_below_refused", none)).2, ("_law_below_refused.<locals>.<lambda>" : Str)) ∈ TL K := List.mem_cons_of_mem _ List.mem_cons_self
  have hu__law_refused_right : ∀ p ∈ TL K, p.1 = (He.cT K ("_law_refused_right", none)).2 → p.2 = "_law_refused_right.<locals>.<lambda>" := fun p hp e => by
    unfold TL at hp
    simp only [List.mem_cons, List.not_mem_nil, or_false] at hp
    rcases hp with rfl | rfl
    · rfl
    · exact absurd e.symm ne
  have hu__law_below_refused : ∀ p ∈ TL K, p.1 = (He.cT K ("_law_below_refused", none)).2 → p.2 = "_law_below_refused.<locals>.<lambda>" := fun p hp e => by
    unfold TL at hp
    simp only [List.mem_cons, List.not_mem_nil, or_false] at hp
    rcases hp with rfl | rfl
    · exact absurd e ne
    · rfl
  have e := hfa.symm.trans (He.glo_ok X G (c.d.fact 32 (f := .glo "law") rfl))
  cases e
  have b := FunD.bindsA (ps := ["script"]) F35 fun _ _ _ _ _ _ us hl => match us, hl with | [_], _ => rfl
  refine ⟨fd35, fun s v => b s [v] rfl, fun base kb nb ND TBs => ?_⟩
  have DX_BadRatio := DXx base
  have TB__law_refused_right := TBs _ (List.mem_map.mpr ⟨("_law_refused_right", none), List.mem_of_getElem? (l := tf) (i := 0) rfl, rfl⟩)
  have TB__law_below_refused := TBs _ (List.mem_map.mpr ⟨("_law_below_refused", none), List.mem_of_getElem? (l := tf) (i := 1) rfl, rfl⟩)
  have Dis_integer := d_is_integer (P := P) (w := w) (K := K) (mg := mg) (base := base) T A_is_integer
  have Ddivisor_of := d_divisor_of (P := P) (w := w) (K := K) (mg := mg) (base := base) T A_divisor_of
  have D_Ratio1 := d_Ratio___init__ (P := P) (w := w) (K := K) (mg := mg) (base := base) T RF Dis_integer Ddivisor_of DX_BadRatio A_Ratio___init__ (fun fd F => FunD.binds1 (ps := ["self", "over", "under"]) F 2 0 (by simp) (by simp) fun T kV doc pm an cdv ct us its h1 h2 => match us, its, h1, h2 with | [_, _], [_], _, _ => ⟨_, rfl, rfl⟩)
  have D_Ratio2 := d_Ratio___init__ (P := P) (w := w) (K := K) (mg := mg) (base := base) T RF Dis_integer Ddivisor_of DX_BadRatio A_Ratio___init__ (fun fd F => FunD.binds1 (ps := ["self", "over", "under"]) F 3 1 (by simp) (by simp) fun T kV doc pm an cdv ct us its h1 h2 => match us, its, h1, h2 with | [_, _, _], [_], _, _ => ⟨_, rfl, rfl⟩)
  have Dtold_of := d_told_of (P := P) (w := w) (K := K) (mg := mg) (base := base) T RF Dis_integer DX_BadRatio M_Ratio D_Ratio1 A_told_of
  have D_law_draw := d__law_draw (P := P) (w := w) (K := K) (mg := mg) (base := base) T A__law_draw
  have D_law_pen := d__law_pen (P := P) (w := w) (K := K) (mg := mg) (base := base) T A__law_pen
  have D_law_pick := d__law_pick (P := P) (w := w) (K := K) (mg := mg) (base := base) T D_law_draw A__law_pick
  have D_law_shared := d__law_shared (P := P) (w := w) (K := K) (mg := mg) (base := base) T A__law_shared
  have D_law_least := d__law_least (P := P) (w := w) (K := K) (mg := mg) (base := base) T D_law_shared A__law_least
  have D_law_pair := d__law_pair (P := P) (w := w) (K := K) (mg := mg) (base := base) T D_law_pick D_law_draw A__law_pair
  have D_law_got := d__law_got (P := P) (w := w) (K := K) (mg := mg) (base := base) T RF A__law_got
  have D_law_number := d__law_number (P := P) (w := w) (K := K) (mg := mg) (base := base) T RF D_law_least D_law_draw M_Ratio D_Ratio2 A__law_number
  have D_law_odd := d__law_odd (P := P) (w := w) (K := K) (mg := mg) (base := base) T RF D_law_pick A__law_odd
  have Dquotient := d_quotient (P := P) (w := w) (K := K) (mg := mg) (base := base) T RF A_quotient
  have Dremainder := d_remainder (P := P) (w := w) (K := K) (mg := mg) (base := base) T RF Dquotient M_Ratio D_Ratio2 A_remainder
  have Dabove := d_above (P := P) (w := w) (K := K) (mg := mg) (base := base) T RF DX_BadRatio Dtold_of A_above
  have D_Ratio_floor := d_Ratio_floor (P := P) (w := w) (K := K) (mg := mg) (base := base) RF A_Ratio_floor (fun fd F => ⟨[], .nil, F.bindsN fun _ _ _ _ _ _ us hl => match us, hl with | [_], _ => rfl⟩)
  have D_Ratio_ceiling := d_Ratio_ceiling (P := P) (w := w) (K := K) (mg := mg) (base := base) RF A_Ratio_ceiling (fun fd F => ⟨[], .nil, F.bindsN fun _ _ _ _ _ _ us hl => match us, hl with | [_], _ => rfl⟩)
  have D_Ratio___bool__ := d_Ratio___bool__ (P := P) (w := w) (K := K) (mg := mg) (base := base) T RF A_Ratio___bool__ (fun fd F => ⟨[], .nil, F.bindsN fun _ _ _ _ _ _ us hl => match us, hl with | [_], _ => rfl⟩)
  have D_Ratio___lt__ := d_Ratio___lt__ (P := P) (w := w) (K := K) (mg := mg) (base := base) T RF Dtold_of A_Ratio___lt__ (fun fd F => ⟨[], .nil, F.bindsN fun _ _ _ _ _ _ us hl => match us, hl with | [_, _], _ => rfl⟩)
  have D_Ratio___le__ := d_Ratio___le__ (P := P) (w := w) (K := K) (mg := mg) (base := base) T RF Dtold_of A_Ratio___le__ (fun fd F => ⟨[], .nil, F.bindsN fun _ _ _ _ _ _ us hl => match us, hl with | [_, _], _ => rfl⟩)
  have D_Ratio___gt__ := d_Ratio___gt__ (P := P) (w := w) (K := K) (mg := mg) (base := base) T RF Dtold_of A_Ratio___gt__ (fun fd F => ⟨[], .nil, F.bindsN fun _ _ _ _ _ _ us hl => match us, hl with | [_, _], _ => rfl⟩)
  have D_Ratio___ge__ := d_Ratio___ge__ (P := P) (w := w) (K := K) (mg := mg) (base := base) T RF Dtold_of A_Ratio___ge__ (fun fd F => ⟨[], .nil, F.bindsN fun _ _ _ _ _ _ us hl => match us, hl with | [_, _], _ => rfl⟩)
  have DL_floordiv := d_Ratio___floordiv__ (P := P) (w := w) (K := K) (mg := mg) (base := base) T RF Dquotient Dabove A_Ratio___floordiv__ (fun fd F => ⟨[], .nil, F.bindsN fun _ _ _ _ _ _ us hl => match us, hl with | [_, _], _ => rfl⟩)
  have DR_floordiv := d_Ratio___rfloordiv__ (P := P) (w := w) (K := K) (mg := mg) (base := base) T RF Dquotient Dabove Dtold_of A_Ratio___rfloordiv__ (fun fd F => ⟨[], .nil, F.bindsN fun _ _ _ _ _ _ us hl => match us, hl with | [_, _], _ => rfl⟩)
  have DL_mod := d_Ratio___mod__ (P := P) (w := w) (K := K) (mg := mg) (base := base) T RF Dremainder Dabove A_Ratio___mod__ (fun fd F => ⟨[], .nil, F.bindsN fun _ _ _ _ _ _ us hl => match us, hl with | [_, _], _ => rfl⟩)
  have DR_mod := d_Ratio___rmod__ (P := P) (w := w) (K := K) (mg := mg) (base := base) T RF Dremainder Dabove Dtold_of A_Ratio___rmod__ (fun fd F => ⟨[], .nil, F.bindsN fun _ _ _ _ _ _ us hl => match us, hl with | [_, _], _ => rfl⟩)
  have D_Ratio___eq__ := d_Ratio___eq__ (P := P) (w := w) (K := K) (mg := mg) (base := base) T RF A_Ratio___eq__ (fun fd F => ⟨[], .nil, F.bindsN fun _ _ _ _ _ _ us hl => match us, hl with | [_, _], _ => rfl⟩)
  have D_eq := dC_Ratio___eq__ (P := P) (w := w) (K := K) (mg := mg) (base := base) T RF A_Ratio___eq__
  have D_law_near := d__law_near (P := P) (w := w) (K := K) (mg := mg) (base := base) T D_law_pick A__law_near
  have D_law_right := d__law_right (P := P) (w := w) (K := K) (mg := mg) (base := base) T RF D_law_draw D_law_pair D_law_near D_law_number D_law_least M_Ratio D_Ratio2 D_Ratio___lt__ D_Ratio___le__ D_Ratio___gt__ D_Ratio___ge__ D_Ratio___eq__ O_lt O_le O_gt O_ge O_eq O_ne SUB NF A__law_right
  have D_law_rounded_right := d__law_rounded_right (P := P) (w := w) (K := K) (mg := mg) (base := base) T RF D_law_pair D_law_least M_Ratio D_Ratio2 D_Ratio_floor O_floor D_Ratio_ceiling O_ceiling D_Ratio___bool__ O_bool A__law_rounded_right
  have D_law_divided_right := d__law_divided_right (P := P) (w := w) (K := K) (mg := mg) (base := base) T RF D_law_pick D_law_draw D_law_pair D_law_number D_law_least D_law_got M_Ratio D_Ratio2 DL_floordiv DR_floordiv OW_floordiv IN_floordiv DL_mod DR_mod OW_mod IN_mod NF A__law_divided_right
  have D_law_refused_right := d__law_refused_right (P := P) (w := w) (K := K) (mg := mg) (base := base) T RF XF D_law_odd D_law_pick D_law_draw M_Ratio D_Ratio2 D_Ratio___lt__ D_Ratio___le__ D_Ratio___gt__ D_Ratio___ge__ D_Ratio___eq__ O_lt O_le O_gt O_ge O_eq O_ne SUB NF DL_floordiv DR_floordiv OW_floordiv IN_floordiv DL_mod DR_mod OW_mod IN_mod A__law_heard TB__law_refused_right G__law_refused_right hm__law_refused_right hu__law_refused_right A__law_refused_right
  have D_law_below_refused := d__law_below_refused (P := P) (w := w) (K := K) (mg := mg) (base := base) T RF XF M_Ratio D_Ratio1 D_Ratio2 D_eq EQ DL_floordiv DR_floordiv OW_floordiv IN_floordiv DL_mod DR_mod OW_mod IN_mod TB__law_below_refused G__law_below_refused hm__law_below_refused hu__law_below_refused A__law_below_refused
  have DLAW := d_law (P := P) (w := w) (K := K) (mg := mg) (base := base) T RF M_Ratio D_Ratio1 D_Ratio2 D_law_pen D_law_right D_law_rounded_right D_law_divided_right D_law_refused_right D_law_below_refused D_Ratio_floor O_floor D_Ratio_ceiling O_ceiling D_Ratio___lt__ D_Ratio___le__ D_Ratio___gt__ D_Ratio___ge__ D_Ratio___eq__ O_lt O_le O_gt O_ge O_eq O_ne SUB NF DL_floordiv DR_floordiv OW_floordiv IN_floordiv DL_mod DR_mod OW_mod IN_mod A_law
  obtain ⟨_, _, _, _, _, _, _, _, _, _, rfl, l1, _⟩ := F35.ex
  exact (DLAW.lk _ _ (He.glo_ok X G (c.d.fact 32 (f := .glo "law") rfl)) ⟨_, _, _, l1⟩).1
end K06

open PySem PySem.W PySem.Calls PyProof.Rows LamX
set_option maxRecDepth 100000 in
set_option maxHeartbeats 0 in
theorem PySem.Challenge.cw_gapshares_k06_ratios_in_order_holds : PySem.Challenge.rw_gapshares_k06_ratios_in_order.Holds := by
  w_on; o_law
  refine HandSHeadRun.head_any (r := OpenLaw.row PySem.Challenge.rw_gapshares_k06_ratios_in_order) (q := view (OpenLaw.row PySem.Challenge.rw_gapshares_k06_ratios_in_order).prog [34]) (H := K06.hk) (ob := K06.ob) (M := 20000)
    (loose := ["_wall", "__name__", "is_integer", "GapError", "BadRatio", "BadText", "MOST_FIGURES", "is_figures", "divisor_of", "Ratio", "told_of", "above", "quotient", "remainder", "_law_pen", "_law_draw", "_law_pick", "_law_shared", "_law_least", "_law_pair", "_law_odd", "_law_heard", "_law_got", "_law_number", "_law_near", "_law_right", "_law_rounded_right", "_law_divided_right", "_law_refused_right", "_law_below_refused"])
    (d := HandSHeadRun.topDef (OpenLaw.row PySem.Challenge.rw_gapshares_k06_ratios_in_order).prog 34) (kwd := []) K06.ob_eq
    (by kernel_rfl) (fun s => by kernel_rfl) K06.run (by kernel_rfl) (by kernel_rfl) (by kernel_rfl) (by rfl) (by first | assumption | decide +kernel) (by decide +kernel) ⟨rfl, rfl, rfl, rfl, rfl, by decide +kernel⟩ ?hw ?hc
  case hw => w_witness2
  case hc =>
    refine Gs.walkS (l := PySem.Challenge.rw_gapshares_k06_ratios_in_order) (n := 63) (k := 15) (x := "script") rfl (by decide) (by kernel_rfl) ⟨rfl, by decide, by decide⟩ ?F
    intro w mg fa h Y G hmg0
    obtain ⟨K, KX, c⟩ := Y
    have hmg : mg ("law" : PySem.Str) = some (.ref fa) := by
      have e : (HandSHeadRun.topDef (OpenLaw.row PySem.Challenge.rw_gapshares_k06_ratios_in_order).prog 34).name = ("law" : PySem.Str) := by kernel_rfl
      rw [← e]
      exact hmg0
    obtain ⟨fd, hb, hF⟩ := K06.facts (P := (PySem.Challenge.rw_gapshares_k06_ratios_in_order).prog) (w := w) KX G hmg (by decide +kernel) (by rfl) c
    refine ⟨K, fd, K06.spLaw K, K06.tf.map (He.cT K), KX, hb, fun p hp => ?_, fun p hp => ?_, fun p hp => ?_, fun H a ns hl hT hS => K06.law_in hl hT hS, hF⟩
    · obtain ⟨x, hx, rfl⟩ := List.mem_map.mp hp
      exact c.empty x hx
    · obtain ⟨x, hx, rfl⟩ := List.mem_map.mp hp
      exact c.out x hx
    · obtain ⟨x, hx, rfl⟩ := List.mem_map.mp hp
      exact codeHd_of_K KX (c.hd x hx)

