import PyProof.Rows.All
import Wide.All
import OpenK.AllK
import Wide.FinOn
import PyProof.ReprRoads
import HandS.ForMost
import HandS.IsInst
import HandS.Walk
import HandS.Evl
import HandS.Defaults
import HandS.Flow
import HandS.Codes
import HandS.HeadEnd
import HandS.HeadHook1
import HandS.HeadHook2
import HandS.Head2
import KE.KIntText
import PySem.Challenge.RW_gapshares_k02_looks_at_any_values
set_option Elab.async false
set_option linter.all false
set_option maxRecDepth 100000
set_option maxHeartbeats 4000000
namespace Gs
open PySem PySem.Spec PyProof.Rows L2

/-! ### repr of data -/
/-- what repr asks: data, ints of bounded size, a text of bounded size -/
def rRepr (K : PySem.W.Frag) : List V → Hp → VK → Prop := fun vs H Q => ∃ v d, vs = [v] ∧ Dp K H v d ∧ d.showable = true ∧ d.depth ≤ 60 ∧ d.shown.length ≤ sizeLine ∧ Q (.str d.shown) H

theorem dp_noDict : ∀ {K : PySem.W.Frag} {H : Hp} {v : V} {d : PyData}, Dp K H v d → d.hasDict = false := by
  intro K H v d h
  induction h using Dp.rec (motive_2 := fun vs ds _ => PyData.hasDictAll ds = false) with
  | non => rfl
  | bl b => rfl
  | int i => rfl
  | str x => rfl
  | lst _ _ ih => simpa [PyData.hasDict] using ih
  | tup _ _ ih => simpa [PyData.hasDict] using ih
  | nil => rfl
  | cons _ _ ih1 ih2 => simp [PyData.hasDictAll, ih1, ih2]

theorem call_repr {X : Cx} (hg : X.A.guards = some []) (hu : X.A.units + 64 < cLine) : CallR X (.builtin "repr") (rRepr X.K) := by
  intro pins s σ H xs us Q I r h
  obtain ⟨v, d, rfl, hd, hsh, hdep, hsz, q⟩ := h
  obtain ⟨u, rfl, rv⟩ := vals1 r
  have hnd := dp_noDict hd
  obtain ⟨as, rd⟩ := Dp.reads I d v u hd rv
  cases rd with
  | none => exact PySem.P.repr_of_none ⟨.str _, H, I.tok _, ⟨_, rfl⟩, q⟩
  | bool b => exact PySem.P.repr_of_bool ⟨.str _, H, I.tok _, ⟨_, rfl⟩, by simpa [PyData.shown] using q⟩
  | int i t =>
    have hz : i.natAbs.log2 < 1920 := by simpa [PyData.showable] using hsh
    exact PySem.P.repr_of_int hz ⟨.str _, H, I.tok _, ⟨_, rfl⟩, q⟩
  | str x t => exact PySem.P.repr_of_str (hsz := hsz) ⟨.str _, H, I.tok _, ⟨_, rfl⟩, q⟩
  | list h1 h2 h3 h4 =>
    exact repr_of_reads' (.list h1 h2 h3 h4) hsh (PyData.noDict_hsm hnd) hg (by omega) (fun _ _ e => e) (fun h' u tk hk => ⟨.str _, H, I.kept hk, ⟨_, rfl⟩, q⟩) hsz
  | tuple h1 h2 h3 h4 =>
    exact repr_of_reads' (.tuple h1 h2 h3 h4) hsh (PyData.noDict_hsm hnd) hg (by omega) (fun _ _ e => e) (fun h' u tk hk => ⟨.str _, H, I.kept hk, ⟨_, rfl⟩, q⟩) hsz
  | dict _ _ _ _ _ => simp [PyData.hasDict] at hnd

/-! ### defs that are run where no repr is under way -/
structure FnG (P : Program) (w : World) (K : PySem.W.Frag) (mg : Str → Option Value) (base : Heap) (CX : CXT) (k : Nat) (f : Addr) (fd : FuncData) (ps : List Str) (sp : Sp) : Prop where
  ln : ∀ vs H Q E, sp vs H Q E → vs.length = ps.length
  go : ∀ (A : Around) (out : List Env) (s : Shared) (H : Hp) (as : Args) (us : List Value) (vs : List V) (Q : VK) (E : XK), A.guards = some [] → Room k A →
    Env0 P w K mg base A out s H → BindsTo s fd as (ps.zip us) → Vals vs us → sp vs H Q E → codeAny (model P w) A (.call (.ref f) as) (CR CX out P w H s Q E) s
theorem FnG.of {P : Program} {w : World} {K : PySem.W.Frag} {mg : Str → Option Value} {base : Heap} {CX : CXT} {k : Nat} {f : Addr} {fd : FuncData} {ps : List Str} {sp : Sp}
    (F : FnOk P w K mg base CX k f fd ps sp) : FnG P w K mg base CX k f fd ps sp :=
  ⟨F.len, fun A out s H as us vs Q E _ => F.run A out s H as us vs Q E⟩

/-- a body's theorem, the guards told -/
theorem fnG_of {CX : CXT} {P : Program} {w : World} {K : PySem.W.Frag} {mg : Str → Option Value} {base : Heap} {k : Nat} {f : Addr} {fd : FuncData} {x qual : Str} {params : Arguments} {body : List Stmt} {scope : Scope}
    {dvs : List V} {kws : List (Str × V)} {N ps : List Str} {sp : Sp} (F : FunD K x qual params body scope dvs kws f fd) (S : FnScope N ps scope) (ln : ∀ vs H Q E, sp vs H Q E → vs.length = ps.length)
    (bd : ∀ (cdv : Value) (A : Around) (out : List Env) (s : Shared) (H : Hp) (vs : List V) (Q : VK) (E : XK), (A.deeper (envOfC qual scope s.heap.objs.size f cdv)).guards = some [] →
      Room k (A.deeper (envOfC qual scope s.heap.objs.size f cdv)) → sp vs H Q E →
      ∃ t, PSs (cxOf CX P w K mg base N qual scope f cdv A out s H E) body t ∧ t { nx := fun _ H' => Q .non H', rt := Q } (start N vs) H) : FnG P w K mg base CX (k + 1) f fd ps sp := by
  obtain ⟨oc, od, dV, kV, doc, pm, an, cdv, ct, osl, rfl, lk, hcd, _, _⟩ := F.ex
  refine ⟨ln, fun A out s H as us vs Q E hg hr e0 hb rv hsp => ?_⟩
  have hz := ln _ _ _ _ hsp
  have KX : K.In s.heap := e0.mod.kin.keeps fun b o e => (e0.bs b o e).1
  have nl : s.heap.NoLimit := e0.mod.nolimit.keeps fun b o e => (e0.bs b o e).1
  have par : ∀ y ∈ ps.zip us, scope.names.lookup y.1 = some .local ∨ (scope.names.lookup y.1 = some .cell ∧ ((cellsFrom (s.heap.objs.size + 1) scope.names []).lookup y.1).isSome = true) := by
    rintro ⟨n, v⟩ hy
    cases S.par n (List.of_mem_zip hy).1 with
    | inl q => exact .inl q
    | inr q => exact .inr ⟨q, PySem.W.cellsFrom_some _ _ _ (.inl q)⟩
  refine codeAny_call_function hr.depth (KX _ _ lk) rfl S.co S.gen rfl (PySem.W.codeRec_of KX hcd) (hb _ _ _ _ (wpAny_newFunctionEnv_cells S.kind par ?_))
  rintro env rfl s1 ic
  refine ⟨nl.keeps ic.toInCall.keep, codeAny_func ?_⟩
  obtain ⟨t, ht, hq⟩ := bd cdv A out s H vs Q E hg (hr.deeper _) hsp
  refine wpAny_mono (ht.run [] s1 (start N vs) H _ (inv_start S hr.hd e0 hz rv ic) hq) ?_ fun e s' hs => hs
  intro fl s' hs
  match fl, hs with
  | .ret u, ⟨v, σ', H', J, r2, q⟩ => exact ⟨v, H', J.os, J.bare, J.base, J.hok, r2, q⟩
  | .next, ⟨σ', H', J, q⟩ => exact ⟨V.non, H', J.os, J.bare, J.base, J.hok, rfl, q⟩
  | .brk, ⟨_, _, _, q⟩ => exact q.elim
  | .cont, ⟨_, _, _, q⟩ => exact q.elim

section
variable {X : Cx} {CX : CXT} {k : Nat} {f : Addr} {fd : FuncData} {ps : List Str} {sp : Sp} {dvs : List V} {ds : List Value} {E : XK} {x : Str} {p pos : Pos} {e : Expr} {es : List Expr} {t : TA}
theorem runG {pins : List (Addr × Obj)} {σ : L2.St} {H : Hp} {s : Shared} {Q : VK} {us : List Value} {vs : List V} (F : FnG X.prog X.w X.K X.mg X.base CX k f fd ps sp) (hG : X.A.guards = some []) (hr : Room k X.A)
    (hb : Binds X.K fd ps ds) (hd : Vals dvs ds) (hx : Passes CX X E) (I : Inv X pins σ H s) (rv : Vals vs us) (h : sp (vs ++ dvs) H Q E) :
    wpAny (model X.prog X.w) X.A (call (.ref f) us) (EP X pins σ Q) X.xe s := by
  have rr := rv.append hd
  have lz : (us ++ ds).length = ps.length := rr.length ▸ F.ln _ _ _ _ h
  refine wpAny_call (codeAny_mono (F.go X.A X.stack s H ⟨us, []⟩ _ _ Q E hG hr I.env0 (hb s us I.kIn lz) rr h) ?_)
  intro r s' hq
  match r, hq with
  | .error e, hq => exact hx pins σ H s e s' I hq
  | .ok (.ret u), hq => exact I.after hq
  | .ok .next, hq => exact hq.elim
  | .ok .brk, hq => exact hq.elim
  | .ok .cont, hq => exact hq.elim
end

/-! ### a def by its name: one bundle -/
structure DefOk (P : Program) (w : World) (K : PySem.W.Frag) (mg : Str → Option Value) (base : Heap) (CX : CXT) (k : Nat) (x : Str) (ps : List Str) (dvs : List V) (sp : Sp) : Prop where
  ex : ∃ f fd ds, FnOk P w K mg base CX k f fd ps sp ∧ mg x = some (.ref f) ∧ PySem.W.keepIn K (.ref f) = true ∧ Binds K fd ps ds ∧ Vals dvs ds
  lk : ∀ f fd, mg x = some (.ref f) → (∃ oc od osl, K.lookup f = some ⟨oc, od, .func fd, osl⟩) → FnOk P w K mg base CX k f fd ps sp ∧ PySem.W.keepIn K (.ref f) = true
structure DefG (P : Program) (w : World) (K : PySem.W.Frag) (mg : Str → Option Value) (base : Heap) (CX : CXT) (k : Nat) (x : Str) (ps : List Str) (dvs : List V) (sp : Sp) : Prop where
  ex : ∃ f fd ds, FnG P w K mg base CX k f fd ps sp ∧ mg x = some (.ref f) ∧ PySem.W.keepIn K (.ref f) = true ∧ Binds K fd ps ds ∧ Vals dvs ds
  lk : ∀ f fd, mg x = some (.ref f) → (∃ oc od osl, K.lookup f = some ⟨oc, od, .func fd, osl⟩) → FnG P w K mg base CX k f fd ps sp ∧ PySem.W.keepIn K (.ref f) = true
theorem DefOk.g {P : Program} {w : World} {K : PySem.W.Frag} {mg : Str → Option Value} {base : Heap} {CX : CXT} {k : Nat} {x : Str} {ps : List Str} {dvs : List V} {sp : Sp} (D : DefOk P w K mg base CX k x ps dvs sp) : DefG P w K mg base CX k x ps dvs sp :=
  let ⟨f, fd, ds, F, a, b, c, d⟩ := D.ex
  ⟨⟨f, fd, ds, .of F, a, b, c, d⟩, fun f fd h1 h2 => let ⟨q1, q2⟩ := D.lk f fd h1 h2; ⟨.of q1, q2⟩⟩

section
variable {X : Cx} {CX : CXT} {k : Nat} {ps : List Str} {sp : Sp} {dvs : List V} {E : XK} {x : Str} {p pos : Pos} {e : Expr} {es : List Expr} {t : TA}
theorem pe_d (D : DefOk X.prog X.w X.K X.mg X.base CX k x ps dvs sp) (hr : Room k X.A) (hx : Passes CX X E) (ha : PA X (e :: es) t) (hg : Gl X x := by rfl) (hdb : (x == ("__debug__" : Str)) = false := by decide)
    (he : starEach (e :: es) X.env = (false, eval e X.env) :: starEach es X.env := by rfl) (hpl : (backTo pos (starEach es X.env)).any (·.1) = false := by rfl) :
    PE X (.Call (.Name x p) (e :: es) [] pos) (tCall sp dvs E t) :=
  let ⟨_, _, _, F, a, b, c, d⟩ := D.ex
  pe_call F hr hg a b c d hx ha hdb he hpl
theorem pe_d0 (D : DefOk X.prog X.w X.K X.mg X.base CX k x ps dvs sp) (hr : Room k X.A) (hx : Passes CX X E) (hg : Gl X x := by rfl) (hdb : (x == ("__debug__" : Str)) = false := by decide) :
    PE X (.Call (.Name x p) [] [] pos) (tCall sp dvs E tNil) :=
  let ⟨_, _, _, F, a, b, c, d⟩ := D.ex
  pe_call0 F hr hg a b c d hx hdb
theorem pe_g (D : DefG X.prog X.w X.K X.mg X.base CX k x ps dvs sp) (hG : X.A.guards = some []) (hr : Room k X.A) (hx : Passes CX X E) (ha : PA X (e :: es) t) (hg : Gl X x := by rfl) (hdb : (x == ("__debug__" : Str)) = false := by decide)
    (he : starEach (e :: es) X.env = (false, eval e X.env) :: starEach es X.env := by rfl) (hpl : (backTo pos (starEach es X.env)).any (·.1) = false := by rfl) :
    PE X (.Call (.Name x p) (e :: es) [] pos) (tCall sp dvs E t) := by
  obtain ⟨_, _, _, F, hm, hk, hb, hd⟩ := D.ex
  refine ⟨fun pins s σ H Q I h => wpAny_Call_Name_kw (ld_glob I hg hm ?_ hdb)⟩
  refine PySem.W.callWith_K (h₀ := X.base) I.ok.mod.kin hk (thn (ha.run pos pins s σ H _ I h) ?_) he hpl
  rintro us s1 ⟨vs, H1, I1, rv, q⟩
  exact ⟨I1.kIn, runG F hG hr hb hd hx I1 rv q⟩
theorem pe_g0 (D : DefG X.prog X.w X.K X.mg X.base CX k x ps dvs sp) (hG : X.A.guards = some []) (hr : Room k X.A) (hx : Passes CX X E) (hg : Gl X x := by rfl) (hdb : (x == ("__debug__" : Str)) = false := by decide) :
    PE X (.Call (.Name x p) [] [] pos) (tCall sp dvs E tNil) := by
  obtain ⟨_, _, _, F, hm, hk, hb, hd⟩ := D.ex
  refine ⟨fun pins s σ H Q I h => wpAny_Call_Name_kw (ld_glob I hg hm ?_ hdb)⟩
  exact PySem.W.callWith_K0 I.kIn hk (runG (us := []) F hG hr hb hd hx I .nil h)
end

/-! ### a def where the top has it -/
structure At (K : PySem.W.Frag) (mg : Str → Option Value) (x : Str) (st : Stmt) : Prop where
  ex : ∃ f fd, FunD K x x (defArgs st) (defBody st) (defScope st) [] [] f fd ∧ mg x = some (.ref f)
section
variable {P : Program} {w : World} {K : PySem.W.Frag} {mg : Str → Option Value} {base : Heap} {x : Str} {st : Stmt} {N ps : List Str} {k : Nat} {sp : Sp}
theorem At.ok (a : At K mg x st) (S : FnScope N ps (defScope st)) (bnd : ∀ f fd, FunD K x x (defArgs st) (defBody st) (defScope st) [] [] f fd → Binds K fd ps []) (ln : ∀ vs H Q E, sp vs H Q E → vs.length = ps.length)
    (bd : ∀ (f : Addr) (cdv : Value) (A : Around) (out : List Env) (s : Shared) (H : Hp) (vs : List V) (Q : VK) (E : XK), Room k (A.deeper (envOfC x (defScope st) s.heap.objs.size f cdv)) → sp vs H Q E →
      ∃ t, PSs (cxOf CX0 P w K mg base N x (defScope st) f cdv A out s H E).nox (defBody st) t ∧ t { nx := fun _ H' => Q .non H', rt := Q } (start N vs) H) : DefOk P w K mg base CX0 (k + 1) x ps [] sp := by
  obtain ⟨f, fd, F, hm⟩ := a.ex
  have ok : FnOk P w K mg base CX0 (k + 1) f fd ps sp := F.ok S ln fun cdv A out s H vs Q E hr h =>
    let ⟨t, h1, h2⟩ := bd f cdv A out s H vs Q E hr h
    ⟨t, h1.nox, h2⟩
  refine ⟨⟨f, fd, [], ok, hm, F.kp, bnd f fd F, .nil⟩, fun f2 fd2 e2 ⟨oc, od, osl, l2⟩ => ?_⟩
  rw [hm] at e2
  cases e2
  obtain ⟨_, _, _, _, _, _, _, _, _, _, rfl, l1, _⟩ := F.ex
  rw [l1] at l2
  cases l2
  exact ⟨ok, F.kp⟩
theorem At.okG (a : At K mg x st) (S : FnScope N ps (defScope st)) (bnd : ∀ f fd, FunD K x x (defArgs st) (defBody st) (defScope st) [] [] f fd → Binds K fd ps []) (ln : ∀ vs H Q E, sp vs H Q E → vs.length = ps.length)
    (bd : ∀ (f : Addr) (cdv : Value) (A : Around) (out : List Env) (s : Shared) (H : Hp) (vs : List V) (Q : VK) (E : XK), (A.deeper (envOfC x (defScope st) s.heap.objs.size f cdv)).guards = some [] →
      Room k (A.deeper (envOfC x (defScope st) s.heap.objs.size f cdv)) → sp vs H Q E →
      ∃ t, PSs (cxOf CX0 P w K mg base N x (defScope st) f cdv A out s H E).nox (defBody st) t ∧ t { nx := fun _ H' => Q .non H', rt := Q } (start N vs) H) : DefG P w K mg base CX0 (k + 1) x ps [] sp := by
  obtain ⟨f, fd, F, hm⟩ := a.ex
  have ok : FnG P w K mg base CX0 (k + 1) f fd ps sp := fnG_of F S ln fun cdv A out s H vs Q E hg hr h =>
    let ⟨t, h1, h2⟩ := bd f cdv A out s H vs Q E hg hr h
    ⟨t, h1.nox, h2⟩
  refine ⟨⟨f, fd, [], ok, hm, F.kp, bnd f fd F, .nil⟩, fun f2 fd2 e2 ⟨oc, od, osl, l2⟩ => ?_⟩
  rw [hm] at e2
  cases e2
  obtain ⟨_, _, _, _, _, _, _, _, _, _, rfl, l1, _⟩ := F.ex
  rw [l1] at l2
  cases l2
  exact ⟨ok, F.kp⟩
end

theorem dp_ints {K : PySem.W.Frag} {H : Hp} : ∀ ns : List Int, DpAll K H (ns.map V.int) (ns.map PyData.int)
  | [] => .nil
  | n :: ns => .cons (.int n) (dp_ints ns)
theorem shaped_ints (ns : List Int) : SeqAt.shaped (.list (ns.map PyData.int)) = true := by
  have h2 : PyData.depthAll (ns.map PyData.int) = 0 := by
    induction ns with
    | nil => rfl
    | cons n ns ih => simp [PyData.depthAll, PyData.depth] at ih ⊢; exact ih
  have h1 : PyData.canLayAll0 (ns.map PyData.int) = true := by
    clear h2
    induction ns with
    | nil => rfl
    | cons n ns ih => simp [PyData.canLayAll0, PyData.canLay0, ih]
  simp [SeqAt.shaped, PyData.canLay0, PyData.depth, h1, h2]
theorem eqv_ints_nil (ns : List Int) : PyData.eqv (.list (ns.map PyData.int)) (.list []) = ns.isEmpty := by
  cases ns <;> simp [PyData.eqv, PyData.eqvAll]
theorem atI_mod {α : Type} {xs : List α} (h : 0 < xs.length) (i : Int) : ∃ (j : Nat) (x : α), (i % (xs.length : Int)) = (j : Int) ∧ xs[j]? = some x ∧ atI xs (i % (xs.length : Int)) = some x := by
  have h0 : 0 ≤ i % (xs.length : Int) := Int.emod_nonneg _ (by omega)
  have h1 : i % (xs.length : Int) < xs.length := Int.emod_lt_of_pos _ (by omega)
  obtain ⟨j, hj⟩ := Int.eq_ofNat_of_zero_le h0
  rw [hj]
  have hlt : j < xs.length := by omega
  exact ⟨j, xs[j], rfl, List.getElem?_eq_getElem hlt, atI_nat (List.getElem?_eq_getElem hlt)⟩
theorem mul_box {a b A B : Int} (h1 : 0 ≤ a) (h2 : a ≤ A) (h3 : 0 ≤ b) (h4 : b ≤ B) : 0 ≤ a * b ∧ a * b ≤ A * B :=
  ⟨Int.mul_nonneg h1 h3, Int.mul_le_mul h2 h4 h3 (Int.le_trans h1 h2)⟩
/-! ### calls by keywords alone -/
def kwOnly {α : Type} (g : List α → List α) : List α → List α → List α := fun us ws => match us with
  | [] => g ws
  | _ => []
theorem pe_dK {X : Cx} {CX : CXT} {k : Nat} {ps ks : List Str} {sp : Sp} {E : XK} {x : Str} {p pos : Pos} {kws : List Keyword} {tk : TA} {st : Stmt} {g : {α : Type} → List α → List α}
    (D : DefOk X.prog X.w X.K X.mg X.base CX k x ps [] sp) (a : At X.K X.mg x st) (hr : Room k X.A) (hx : Passes CX X E)
    (hb : ∀ (kV doc pm : Value) (an : Option Addr) (cdv ct : Value) (ws : List Value), (g ws).length = ps.length → bindArgs (PySem.W.fnOf x x (defArgs st) (defBody st) (defScope st) .none kV doc pm an cdv ct) ⟨[], ks.zip ws⟩ = pure (ps.zip (g ws)))
    (rel : ∀ {zs : List V} {ws : List Value}, Vals zs ws → Vals (g zs) (g ws)) (hn : ps ≠ []) (hkw : PK X kws tk) (hg : Gl X x := by rfl) (hall : (backToKw pos (keywordEach kws X.env)).all (·.1.isSome) = true := by rfl)
    (hks : (backToKw pos (keywordEach kws X.env)).filterMap (·.1) = ks := by rfl) (hdb : (x == ("__debug__" : Str)) = false := by decide)
    (hpl : ((backTo pos (starEach [] X.env)).any (·.1) || (backToKw pos (keywordEach kws X.env)).any (·.1.isNone)) = false := by rfl) :
    PE X (.Call (.Name x p) [] kws pos) (fun σ H Q => tk σ H fun zs H2 => sp (g zs) H2 Q E) := by
  obtain ⟨f, fd, F, hm⟩ := a.ex
  obtain ⟨oc, od, dV, kV, doc, pm, an, cdv, ct, osl, rfl, l1, hcd, hD, hK⟩ := F.ex
  obtain ⟨ok, kp⟩ := D.lk f _ hm ⟨_, _, _, l1⟩
  rcases hD with ⟨_, rfl⟩ | ⟨e, _⟩
  · have KB : KBinds X.K (PySem.W.fnOf x x (defArgs st) (defBody st) (defScope st) .none kV doc pm an cdv ct) ps ks (kwOnly g) (kwOnly g) := by
      refine ⟨fun s us ws X hl => ?_, fun {vs us zs ws} r1 r2 => ?_⟩
      · match us, hl with
        | [], hl => exact .of_eq (hb _ _ _ _ _ _ ws hl)
        | _ :: _, hl => exact (hn (List.eq_nil_of_length_eq_zero (Eq.symm hl))).elim
      · cases r1 with
        | nil => exact rel r2
        | cons _ _ => exact .nil
    refine ⟨fun pins s σ H Q I h => wpAny_Call_Name_kw (ld_glob I hg hm ?_ hdb)⟩
    refine PySem.W.callWith_KW0 (h₀ := X.base) I.ok.mod.kin kp hall (thn (hkw.run pos pins s σ H _ I h) ?_) hpl
    rintro ws s2 ⟨zs, H2, I2, rz, q2⟩
    refine ⟨I2.kIn, ?_⟩
    rw [hks]
    exact run_fnk (vs := []) (us := []) ok hr KB hx I2 .nil rz q2
  · exact absurd rfl e

/-! ### what draws -/
/-- a pen at p: its cells at c, at most n of them are drawn -/
structure Pen (H : Hp) (p c : Addr) (n : Nat) : Prop where
  ex : ∃ (ns : List Int) (spot great : Int), H p = some (.lst [.ref c, .int spot, .int great]) ∧ H c = some (.lst (ns.map V.int)) ∧ ns.length ≤ 63 ∧ 0 ≤ spot ∧ spot ≤ n ∧ 0 ≤ great
theorem Pen.ne {H : Hp} {p c : Addr} {n : Nat} (h : Pen H p c n) : c ≠ p := by
  rintro rfl
  obtain ⟨ns, s, g, h1, h2, _⟩ := h.ex
  rw [h1] at h2
  cases ns with
  | nil => cases h2
  | cons a as => cases h2
theorem Pen.mono {H : Hp} {p c : Addr} {n m : Nat} (h : Pen H p c n) (hm : n ≤ m) : Pen H p c m :=
  let ⟨ns, s, g, h1, h2, h3, h4, h5, h6⟩ := h.ex
  ⟨ns, s, g, h1, h2, h3, h4, by omega, h6⟩
/-- all but p is as it was -/
def But (p : Addr) (H H' : Hp) : Prop := ∀ b o, H b = some o → b ≠ p → H' b = some o
theorem But.refl (p : Addr) (H : Hp) : But p H H := fun _ _ h _ => h
theorem But.trans {p : Addr} {H H1 H2 : Hp} (a : But p H H1) (b : But p H1 H2) : But p H H2 := fun x o h n => b x o (a x o h n) n
theorem But.new {p q : Addr} {H H1 : Hp} {o : HO} (a : But p H H1) (h : H1 q = none) : But p H (upd H1 q o) := fun x u e n => by
  have z := a x u e n
  rw [upd_ne (ne_of_none z h)]
  exact z
theorem But.self {p : Addr} {H H1 : Hp} {o : HO} (a : But p H H1) : But p H (upd H1 p o) := fun x u e n => by
  rw [upd_ne n]
  exact a x u e n
theorem Pen.new {H : Hp} {p c q : Addr} {n : Nat} {o : HO} (h : Pen H p c n) (hq : H q = none) : Pen (upd H q o) p c n := by
  obtain ⟨ns, s, g, h1, h2, h3⟩ := h.ex
  exact ⟨ns, s, g, by rw [upd_ne (ne_of_none h1 hq)]; exact h1, by rw [upd_ne (ne_of_none h2 hq)]; exact h2, h3⟩
theorem Pen.ext {H H' : Hp} {p c : Addr} {n : Nat} (h : Pen H p c n) (k : ∀ b o, H b = some o → H' b = some o) : Pen H' p c n := by
  obtain ⟨ns, s, g, h1, h2, h3⟩ := h.ex
  exact ⟨ns, s, g, k _ _ h1, k _ _ h2, h3⟩
def spPen (K : PySem.W.Frag) : Sp := fun vs H Q _ => ∃ (a : Addr) (ns : List Int), vs = [.ref a] ∧ SqL K H a (ns.map V.int) ∧ ns.length ≤ 63 ∧
  ∀ p c H', H p = none → H c = none → Pen H' p c 0 → (∀ b o, H b = some o → H' b = some o) → Q (.ref p) H'
def spDraw : Sp := fun vs H Q _ => ∃ (p c : Addr) (n : Nat) (m : Int), vs = [.ref p, .int m] ∧ Pen H p c n ∧ n ≤ 1000000 ∧ 0 < m ∧ m < 1073741824 ∧
  ∀ k H', 0 ≤ k → k < m → Pen H' p c (n + 1) → But p H H' → Q (.int k) H'
def spPick (K : PySem.W.Frag) : Sp := fun vs H Q _ => ∃ (p c l : Addr) (n : Nat) (xs : List V), vs = [.ref p, .ref l] ∧ Pen H p c n ∧ n ≤ 1000000 ∧ SqL K H l xs ∧ l ≠ p ∧ xs ≠ [] ∧ xs.length < 1000000 ∧
  ∀ (i : Nat) (x : V) H', xs[i]? = some x → Pen H' p c (n + 1) → But p H H' → Q x H'

theorem cut_map {α : Type} (f : α → V) (xs : List α) (lo hi : Option Int) : ∃ ys : List α, cutV (xs.map f) lo hi = ys.map f ∧ ys.length ≤ xs.length ∧ ∀ y ∈ ys, y ∈ xs := by
  unfold cutV
  rw [List.length_map]
  generalize HT.sIx xs.length 0 lo = i
  generalize HT.sIx xs.length xs.length hi - i = j
  refine ⟨(xs.drop i).take j, by rw [List.map_take, List.map_drop], ?_, fun y hy => List.mem_of_mem_drop (List.mem_of_mem_take hy)⟩
  rw [List.length_take, List.length_drop]
  omega
/-- what is kept -/
def Ext (H H' : Hp) : Prop := ∀ b o, H b = some o → H' b = some o
theorem Ext.refl (H : Hp) : Ext H H := fun _ _ h => h
theorem Ext.trans {H H1 H2 : Hp} (a : Ext H H1) (b : Ext H1 H2) : Ext H H2 := fun x o h => b x o (a x o h)
theorem Ext.new {H H1 : Hp} {q : Addr} {o : HO} (a : Ext H H1) (h : H1 q = none) : Ext H (upd H1 q o) := fun x u e => by
  have z := a x u e
  rw [upd_ne (ne_of_none z h)]
  exact z
theorem Ext.mut {H H1 : Hp} {q : Addr} {o : HO} (a : Ext H H1) (h : H q = none) : Ext H (upd H1 q o) := fun x u e => by
  rw [upd_ne (ne_of_none e h)]
  exact a x u e
theorem But.mut {p q : Addr} {H H1 : Hp} {o : HO} (a : But p H H1) (h : H q = none) : But p H (upd H1 q o) := fun x u e n => by
  rw [upd_ne (ne_of_none e h)]
  exact a x u e n
theorem Ext.but {H H1 : Hp} {p : Addr} (a : Ext H H1) : But p H H1 := fun x u e _ => a x u e
theorem ext_new {H : Hp} {q : Addr} {o : HO} (h : H q = none) : Ext H (upd H q o) := (Ext.refl H).new h
theorem Ext.sq {K : PySem.W.Frag} {H H' : Hp} {a : Addr} {xs : List V} (e : Ext H H') (h : SqL K H a xs) : SqL K H' a xs := Evl.ex_l e h
theorem Ext.st {K : PySem.W.Frag} {H H' : Hp} {a : Addr} {xs : List V} (e : Ext H H') (h : SqT K H a xs) : SqT K H' a xs := Evl.ex_t e h
theorem But.sq {K : PySem.W.Frag} {H H' : Hp} {p a : Addr} {xs : List V} (e : But p H H') (hn : a ≠ p) (h : SqL K H a xs) : SqL K H' a xs := by
  rcases h with h | h
  · rcases h with h | ⟨o, h⟩
    · exact .inl (.inl (e a _ h hn))
    · exact .inl (.inr ⟨o, e a _ h hn⟩)
  · exact .inr h
theorem But.st {K : PySem.W.Frag} {H H' : Hp} {p a : Addr} {xs : List V} (e : But p H H') (hn : a ≠ p) (h : SqT K H a xs) : SqT K H' a xs := by
  rcases h with h | h
  · rcases h with h | ⟨o, h⟩
    · exact .inl (.inl (e a _ h hn))
    · exact .inl (.inr ⟨o, e a _ h hn⟩)
  · exact .inr h

/-! ### comprehensions over a text -/
section
theorem wipe_one (σ : L2.St) (i : Nat) (x : Option V) : wipe ((wipe σ [i]).set i x) [i] = wipe σ [i] := by
  show ((σ.set i none).set i x).set i none = σ.set i none
  rw [List.set_set, List.set_set]
/-- [f c for c in z if b c], nothing else touched -/
theorem lc_txt {i : Nat} {tt : TT} {te : TE} {σ : L2.St} {H1 : Hp} {D : Addr} {Qd : Hp → Prop} {z : Str} (b : Nat → Bool) (f : Nat → V)
    (ht : ∀ c H (Q : Bool → Hp → Prop), c ∈ z.cps.toList → Q (b c) H → tt ((wipe σ [i]).set i (some (.str ⟨#[c]⟩))) H Q)
    (he : ∀ c H (Q : VK), c ∈ z.cps.toList → b c = true → Q (f c) H → te ((wipe σ [i]).set i (some (.str ⟨#[c]⟩))) H Q)
    (hz : z.length ≤ sizeLine) (hd : Qd (upd H1 D (.lst ((z.cps.toList.filter b).map f)))) :
    ∃ W : Nat → Nat → Hp → Prop, (∃ m, W 0 m (upd H1 D (.lst []))) ∧ ∀ i' m H, W i' m H →
      ((Its z).stop i' H ∧ Qd H) ∨ ((Its z).go i' H ∧ ∃ Nx : Hp → Prop, (∀ H', Nx H' → ∃ m', m' < m ∧ W (i' + 1) m' H') ∧ ∀ x H', (Its z).yld i' H x H' → gName i x (wipe σ [i]) H' fun σ2 H2 => wipe σ2 [i] = wipe σ [i] ∧ tt σ2 H2 fun b H3 =>
        if b = true then te σ2 H3 fun y H4 => ∃ acc, H4 D = some (.lst acc) ∧ acc.length < sizeLine ∧ Nx (upd H4 D (.lst (acc ++ [y]))) else Nx H3) := by
  have hsz : z.cps.size = z.cps.toList.length := by simp
  refine lc_it (J := Its z) walk_str (fun i H => H = upd H1 D (.lst (((z.cps.toList.take i).filter b).map f))) (by simp) (fun _ _ _ _ => trivial) ?_ ?_
  · rintro j x H H' hj rfl ⟨rfl, c, hc, rfl⟩
    have hj2 : j < z.cps.toList.length := by omega
    have hc2 : z.cps.toList[j]? = some c := by simpa using hc
    have hm : c ∈ z.cps.toList := List.mem_of_getElem? hc2
    have tk : z.cps.toList.take (j + 1) = z.cps.toList.take j ++ [c] := by rw [List.take_succ, hc2]; rfl
    refine ⟨wipe_one _ _ _, ht c _ _ hm ?_⟩
    cases hb : b c with
    | true =>
      refine iteT (he c _ _ hm hb ⟨_, upd_same, ?_, ?_⟩)
      · rw [List.length_map]
        refine Nat.lt_of_le_of_lt (List.length_filter_le _ _) ?_
        rw [List.length_take]
        have : z.length = z.cps.toList.length := by simp [Str.length]
        omega
      · rw [upd_upd, tk, List.filter_append, List.map_append]
        simp [List.filter, hb]
    | false =>
      refine iteF ?_
      rw [tk, List.filter_append, List.map_append]
      simp [List.filter, hb]
  · intro H h
    subst h
    rw [hsz, List.take_length]
    exact hd
end
theorem lc_txt1 {i : Nat} {te : TE} {σ : L2.St} {H1 : Hp} {D : Addr} {Qd : Hp → Prop} {z : Str} (f : Nat → V)
    (he : ∀ c H (Q : VK), c ∈ z.cps.toList → Q (f c) H → te ((wipe σ [i]).set i (some (.str ⟨#[c]⟩))) H Q)
    (hz : z.length ≤ sizeLine) (hd : Qd (upd H1 D (.lst (z.cps.toList.map f)))) :
    ∃ W : Nat → Nat → Hp → Prop, (∃ m, W 0 m (upd H1 D (.lst []))) ∧ ∀ i' m H, W i' m H →
      ((Its z).stop i' H ∧ Qd H) ∨ ((Its z).go i' H ∧ ∃ Nx : Hp → Prop, (∀ H', Nx H' → ∃ m', m' < m ∧ W (i' + 1) m' H') ∧ ∀ x H', (Its z).yld i' H x H' → gName i x (wipe σ [i]) H' fun σ2 H2 => wipe σ2 [i] = wipe σ [i] ∧ tYes σ2 H2 fun b H3 =>
        if b = true then te σ2 H3 fun y H4 => ∃ acc, H4 D = some (.lst acc) ∧ acc.length < sizeLine ∧ Nx (upd H4 D (.lst (acc ++ [y]))) else Nx H3) :=
  lc_txt (fun _ => true) f (fun _ _ _ _ q => q) (fun c H Q hc _ q => he c H Q hc q) hz (by
    rw [List.filter_eq_self.mpr fun _ _ => rfl]
    exact hd)
theorem yes_go {σ : L2.St} {H : Hp} {P R : Hp → Prop} (h : P H) : tYes σ H (fun b H3 => if b = true then P H3 else R H3) := by
  have e : (if true = true then P H else R H) = P H := if_pos rfl
  exact e.mpr h
theorem scal_str (a b : Str) : scal (.str a) (.str b) = true := rfl
/-! ### what is at hand at once -/
def Pu (te : TE) (σ : L2.St) (v : V) : Prop := ∀ H (Q : VK), Q v H → te σ H Q
theorem pu_var {σ : L2.St} {i : Nat} {v : V} (h : σ[i]? = some (some v)) : Pu (tVar i) σ v := fun _ _ q => ⟨v, h, q⟩
theorem pu_c {σ : L2.St} {v : V} : Pu (tC v) σ v := fun _ _ q => q
theorem ch_le {ta tb tc : TE} {σ : L2.St} {H : Hp} {Q : VK} {i j k : Int} (ha : Pu ta σ (.int i)) (hb : Pu tb σ (.int j)) (hc : Pu tc σ (.int k)) (q : Q (.bl (decide (i ≤ j ∧ j ≤ k))) H) :
    tChain (rI0 fun i j => .bl (decide (i ≤ j))) (rI0 fun i j => .bl (decide (i ≤ j))) ta tb tc σ H Q := by
  refine ha H _ (hb H _ ⟨i, j, rfl, rfl, _, rfl, ?_⟩)
  by_cases h1 : i ≤ j
  · rw [decide_eq_true h1]
    refine iteT (hc H _ ⟨j, k, rfl, rfl, ?_⟩)
    have e : decide (i ≤ j ∧ j ≤ k) = decide (j ≤ k) := decide_eq_decide.mpr ⟨fun z => z.2, fun z => ⟨h1, z⟩⟩
    show Q (.bl (decide (j ≤ k))) H
    rw [← e]
    exact q
  · rw [decide_eq_false h1]
    refine iteF ?_
    have e : decide (i ≤ j ∧ j ≤ k) = false := decide_eq_false fun z => h1 z.1
    rw [← e]
    exact q
theorem iff_str (a b : Str) : decide (V.str a = V.str b) = decide (a.cps.toList = b.cps.toList) := by
  have e : (V.str a = V.str b) ↔ (a.cps.toList = b.cps.toList) := by
    constructor
    · intro h
      cases h
      rfl
    · intro h
      rw [← SX.S_tl a, ← SX.S_tl b, h]
  exact decide_eq_decide.mpr e
theorem cut_to (z : Str) {i : Int} (h : 0 ≤ i) : cutS z none (some i) = SX.S (z.cps.toList.take i.toNat) := by
  conv => lhs; rw [← SX.S_tl z]
  rw [C8.cutS_slice, SX.slice_to h]
theorem cut_from (z : Str) {i : Int} (h : 0 ≤ i) : cutS z (some i) none = SX.S (z.cps.toList.drop i.toNat) := by
  conv => lhs; rw [← SX.S_tl z]
  rw [C8.cutS_slice, SX.slice_from h]
theorem len_tl (z : Str) : z.length = z.cps.toList.length := by simp [Str.length]

/-! ### isinstance of plain things -/
/-- a value whose type is known and is none of int, bool, str -/
def Odd (K : PySem.W.Frag) (H : Hp) : V → Prop
  | .non => True
  | .bl _ => True
  | .int _ => True
  | .str _ => True
  | .ref a => ∃ t, TyX K H (.ref a) t ∧ PySem.W.kitOne K t (.type "int") = some false ∧ PySem.W.kitOne K t (.type "bool") = some false ∧ PySem.W.kitOne K t (.type "str") = some false
  | _ => False
def vInt : V → Bool
  | .int _ => true
  | .bl _ => true
  | _ => false
def vBool : V → Bool
  | .bl _ => true
  | _ => false
def vStr : V → Bool
  | .str _ => true
  | _ => false
def vPlain (v : V) : Bool := vInt v && !vBool v
section
variable {K : PySem.W.Frag} {H : Hp} {v : V} {Q : VK}
theorem odd_int (h : Odd K H v) : ∃ t, TyX K H v t ∧ PySem.W.kitOne K t (.type "int") = some (vInt v) := by
  cases v with
  | non => exact ⟨_, .base .non, kit_ty (r := false) (by decide +kernel)⟩
  | bl b => exact ⟨_, .base (.bl b), kit_ty (r := true) (by decide +kernel)⟩
  | int i => exact ⟨_, .base (.int i), kit_ty (r := true) (by decide +kernel)⟩
  | str x => exact ⟨_, .base (.str x), kit_ty (r := false) (by decide +kernel)⟩
  | ref a => obtain ⟨t, ty, h1, _⟩ := h; exact ⟨t, ty, h1⟩
  | byt _ => exact h.elim
  | flt _ => exact h.elim
  | ty _ => exact h.elim
theorem odd_bool (h : Odd K H v) : ∃ t, TyX K H v t ∧ PySem.W.kitOne K t (.type "bool") = some (vBool v) := by
  cases v with
  | non => exact ⟨_, .base .non, kit_ty (r := false) (by decide +kernel)⟩
  | bl b => exact ⟨_, .base (.bl b), kit_ty (r := true) (by decide +kernel)⟩
  | int i => exact ⟨_, .base (.int i), kit_ty (r := false) (by decide +kernel)⟩
  | str x => exact ⟨_, .base (.str x), kit_ty (r := false) (by decide +kernel)⟩
  | ref a => obtain ⟨t, ty, _, h1, _⟩ := h; exact ⟨t, ty, h1⟩
  | byt _ => exact h.elim
  | flt _ => exact h.elim
  | ty _ => exact h.elim
theorem odd_str (h : Odd K H v) : ∃ t, TyX K H v t ∧ PySem.W.kitOne K t (.type "str") = some (vStr v) := by
  cases v with
  | non => exact ⟨_, .base .non, kit_ty (r := false) (by decide +kernel)⟩
  | bl b => exact ⟨_, .base (.bl b), kit_ty (r := false) (by decide +kernel)⟩
  | int i => exact ⟨_, .base (.int i), kit_ty (r := false) (by decide +kernel)⟩
  | str x => exact ⟨_, .base (.str x), kit_ty (r := true) (by decide +kernel)⟩
  | ref a => obtain ⟨t, ty, _, _, h1⟩ := h; exact ⟨t, ty, h1⟩
  | byt _ => exact h.elim
  | flt _ => exact h.elim
  | ty _ => exact h.elim
theorem odd_lst {a : Addr} {xs : List V} (h : H a = some (.lst xs)) : Odd K H (.ref a) := ⟨_, .base (.lst h), kit_ty (by decide +kernel), kit_ty (by decide +kernel), kit_ty (by decide +kernel)⟩
theorem odd_tup {a : Addr} {xs : List V} (h : H a = some (.tup xs)) : Odd K H (.ref a) := ⟨_, .base (.tup h), kit_ty (by decide +kernel), kit_ty (by decide +kernel), kit_ty (by decide +kernel)⟩
theorem odd_dK {a : Addr} {xs : List (Key × V)} (h : H a = some (.dK xs)) : Odd K H (.ref a) := ⟨_, .base (.dK h), kit_ty (by decide +kernel), kit_ty (by decide +kernel), kit_ty (by decide +kernel)⟩
end

/-! ### the law's end, the guards told -/
def NoDig (h : Heap) : Prop := ∃ mc : Str → Option Value, h.Ns cStatics mc ∧ mc "sys.int_max_str_digits" = none
theorem NoDig.keeps {h h' : Heap} (x : NoDig h) (hk : ∀ b o, h.get? b = some o → h'.get? b = some o) : NoDig h' :=
  let ⟨mc, a, b⟩ := x
  ⟨mc, a.keeps hk, b⟩

/-- the entry's state, H all that is tracked there: the script alone, or nothing -/
theorem enterG {P : Program} {w : World} {K : PySem.W.Frag} {mg mb : Str → Option Value} {a : Addr} {s : Shared} {vs : List Value} (KX : K.In s.heap) (hns : s.heap.Ns mainGlobals mg) (hb : s.heap.Ns builtinsNs mb)
    (hbb : ∀ x : Str, x ≠ "__name__" → mb x = bootBuiltins x) (hlim : s.heap.NoLimit) (hg : s.gens = #[]) (ha : s.heap.get? a = some { cls := .type "list", data := .seq vs.toArray })
    {H : Hp} (hok : HOk P w H s.heap) (hA : ∀ b, H b ≠ none → b = a) (hK : H a ≠ none → K.lookup a = none) :
    K.In (hidT s.heap H) ∧ (hidT s.heap H).Ns mainGlobals mg ∧ (NoDig s.heap → NoDig (hidT s.heap H)) ∧ Env0 P w K mg (hidT s.heap H) callerA [] s H := by
  have free : ∀ {b : Addr} {o : Obj}, s.heap.get? b = some o → (o ≠ { cls := .type "list", data := .seq vs.toArray } ∨ K.lookup b = some o) → H b = none := by
    intro b o e d
    by_cases z : H b = none
    · exact z
    · have eb := hA b z
      subst eb
      rcases d with d | d
      · rw [ha] at e
        exact (d (Option.some.inj e).symm).elim
      · rw [hK z] at d
        cases d
  have ns : ∀ {b : Addr} {m : Str → Option Value}, s.heap.Ns b m → (hidT s.heap H).Ns b m := by
    rintro b m ⟨o, es, ep, e, d, r⟩
    refine ⟨o, es, ep, hidT_get e (free e (.inl fun z => ?_)), d, r⟩
    rw [z] at d
    cases d
  have kin : K.In (hidT s.heap H) := fun b o e => hidT_get (KX b o e) (free (KX b o e) (.inr e))
  obtain ⟨mc, h1, h2⟩ := hlim
  exact ⟨kin, ns hns, fun ⟨md, d1, d2⟩ => ⟨md, ns d1, d2⟩, ⟨rfl, ⟨kin, ns hns, ⟨mb, ns hb, hbb⟩, ⟨mc, ns h1, h2⟩⟩, fun b o e => of_hidT e, Nat.le_of_eq (hidT_size _ _), trivial,
    fun b z => absurd (show b ∈ ([] : List Addr) from z) (by simp), hok, .of_eq hg⟩⟩
theorem leaveG {P : Program} {w : World} {s s' : Shared} {H H' : Hp} (hO : Only H) (hok : HOk P w H s.heap) (hok' : HOk P w H' s'.heap) (un : Un (frs []) [] H H' s.heap s'.heap) : OldK s.heap s'.heap := by
  refine OldK.of_keep fun b o e => ?_
  rcases hO b with z | ⟨ob, xs, z⟩
  · exact un.keep b o e z (fun y => absurd (show b ∈ ([] : List Addr) from y) (by simp)) (by simp)
  · have e1 := (hok b _ z).1
    have e2 := (hok' b _ (un.frzs b ob _ z)).1
    rw [e] at e1
    cases e1
    exact e2
theorem lawG {P : Program} {w : World} {K : PySem.W.Frag} {mg mb : Str → Option Value} {k : Nat} {fa a : Addr} {fd : FuncData} {x : Str} {sp : Sp} {s : Shared} {vs : List Value} {ns : List Int}
    (KX : K.In s.heap) (hns : s.heap.Ns mainGlobals mg) (hb : s.heap.Ns builtinsNs mb) (hbb : ∀ x : Str, x ≠ "__name__" → mb x = bootBuiltins x) (hlim : s.heap.NoLimit) (hdig : NoDig s.heap) (hg : s.gens = #[])
    (ha : s.heap.get? a = some { cls := .type "list", data := .seq vs.toArray }) (hi : IntsAre vs ns) (hl : ns.length ≤ sizeLine) (hr : Room k callerA)
    (F : ∀ base : Heap, K.In base → base.Ns mainGlobals mg → NoDig base → FnG P w K mg base CX0 k fa fd [x] sp) (hbind : ∀ (s : Shared) (u : Value), BindsTo s fd ⟨[u], []⟩ [(x, u)])
    (hsp : ∀ H : Hp, Only H → SqL K H a (ns.map V.int) → sp [.ref a] H (fun v _ => v = .bl true) fun _ _ _ => False) :
    codeAny (model P w) callerA (.call (.ref fa) ⟨[.ref a], []⟩) (fun r s' => r = .ok (.ret (.bool true)) ∧ OldK s.heap s'.heap ∧ s'.os = s.os ∧ AllBare s'.gens) s := by
  have rv := vals_ints hi
  have run : ∀ H : Hp, Only H → SqL K H a (ns.map V.int) → HOk P w H s.heap → (∀ b, H b ≠ none → b = a) → (H a ≠ none → K.lookup a = none) →
      codeAny (model P w) callerA (.call (.ref fa) ⟨[.ref a], []⟩) (fun r s' => r = .ok (.ret (.bool true)) ∧ OldK s.heap s'.heap ∧ s'.os = s.os ∧ AllBare s'.gens) s := by
    intro H hO hS hok hA hK
    obtain ⟨kin, nsb, ndb, e0⟩ := enterG KX hns hb hbb hlim hg ha hok hA hK
    refine codeAny_mono ((F _ kin nsb (ndb hdig)).go callerA [] s H ⟨[.ref a], []⟩ [.ref a] [.ref a] _ _ rfl hr e0 (hbind s (.ref a)) (.cons rfl .nil) (hsp H hO hS)) ?_
    intro r s' h
    match r, h with
    | .error e, h => exact (show False from h).elim
    | .ok .next, h => exact (show False from h).elim
    | .ok .brk, h => exact (show False from h).elim
    | .ok .cont, h => exact (show False from h).elim
    | .ok (.ret u), ⟨v, H', os, bare, un, hok', r2, q⟩ =>
      obtain rfl : v = .bl true := q
      obtain rfl : u = Value.bool true := r2
      exact ⟨rfl, leaveG hO hok hok' un, os, bare⟩
  cases hk : K.lookup a with
  | some o =>
    have e := KX a o hk
    rw [ha] at e
    cases e
    exact run (fun _ => none) (fun _ => .inl rfl) (.inr ⟨_, vs.toArray, _, hk, rfl, rfl, rfl, by rw [List.size_toArray, hi.length]; exact hl, by simpa using rv⟩) (fun b u z => nomatch (show (none : Option HO) = some u from z))
      (fun b z => absurd rfl z) fun z => absurd rfl z
  | none =>
    have at_a : (upd (fun _ => none) a (.frz { cls := .type "list", data := .seq vs.toArray } (.lst (ns.map V.int)))) a = some (.frz { cls := .type "list", data := .seq vs.toArray } (.lst (ns.map V.int))) := upd_same
    refine run (upd (fun _ => none) a (.frz { cls := .type "list", data := .seq vs.toArray } (.lst (ns.map V.int)))) (fun b => ?_) (.inl (.inr ⟨_, at_a⟩)) (fun b u z => ?_) (fun b z => ?_) fun _ => hk
    · by_cases hb : b = a
      · exact .inr ⟨_, _, (congrArg _ hb).trans at_a⟩
      · exact .inl (upd_ne hb)
    · by_cases hb : b = a
      · subst hb
        rw [at_a] at z
        cases z
        exact ⟨ha, by rw [List.length_map]; exact hl, vs, _, rv, ha⟩
      · rw [upd_ne hb] at z
        cases z
    · by_cases hb : b = a
      · exact hb
      · exact absurd (upd_ne hb) z
theorem walkG {l : PySem.W.OpenLaw} {n k : Nat} {q : Program} {loose : List Str} {XP : (Str → Option Value) → Heap → Prop} {YP : World → Heap → Prop} {d : DefRec} {x : Str}
    (hn : l.most = some n) (hn2 : n ≤ sizeLine) (hdf : d.params.defaults = []) (hr : Room k callerA)
    (F : ∀ (w : World) (mg : Str → Option Value) (fa : Addr) (h : Heap), YP w h → h.Ns mainGlobals mg → mg d.name = some (.ref fa) →
      ∃ (K : PySem.W.Frag) (fd : FuncData) (sp : Sp), K.In h ∧ (∀ (s : Shared) (u : Value), BindsTo s fd ⟨[u], []⟩ [(x, u)]) ∧
        (∀ (H : Hp) (a : Addr) (ns : List Int), ns.length ≤ n → Only H → SqL K H a (ns.map V.int) → sp [.ref a] H (fun v _ => v = .bl true) fun _ _ _ => False) ∧
        ∀ base : Heap, K.In base → base.Ns mainGlobals mg → NoDig base → FnG l.prog w K mg base CX0 k fa fd [x] sp) :
    PySem.W.WalkO q loose XP YP l.row.toRowW d [] (fun f vs => PySem.call f vs) := by
  refine Att.attach_call hn hdf fun w s0 s mg mb fa o pm cd doc a vs ns G Y ho hd hcd hmg hobj hints hlen hg => ?_
  obtain ⟨K, fd, sp, KX, hb, hsp, hF⟩ := F w mg fa _ Y G.T.g hmg
  exact lawG KX G.T.g G.T.b G.T.builtins G.T.nolimit G.T.nodigits hg hobj hints (Nat.le_trans hlen hn2) hr hF hb fun H hO hS => hsp H a ns hlen hO hS
end Gs

set_option maxRecDepth 100000
set_option maxHeartbeats 4000000
namespace Gs
open PySem PySem.Spec PyProof.Rows L2
/-! ### figures: what a number's text is -/
theorem dv_snoc (a : List Nat) (c : Nat) : NumText.digitsVal (a ++ [c]) = NumText.digitsVal a * 10 + (c - 48) := by
  simp [NumText.digitsVal, List.foldl_append]
theorem rev_ind {α : Type} {p : List α → Prop} (h0 : p []) (hs : ∀ a c, p a → p (a ++ [c])) (l : List α) : p l := by
  rw [← List.reverse_reverse l]
  induction l.reverse with
  | nil => exact h0
  | cons x xs ih => rw [List.reverse_cons]; exact hs _ _ ih
theorem dv_lt {a : List Nat} (h : NumText.AllDigits a) : NumText.digitsVal a < 10 ^ a.length := by
  induction a using rev_ind with
  | h0 => simp [NumText.digitsVal]
  | hs a c ih =>
    have hc := h c (by simp)
    have ha := ih fun d hd => h d (by simp [hd])
    rw [dv_snoc, List.length_append, List.length_singleton, Nat.pow_succ]
    omega
/-- without a nought ahead a text of figures is the text of its number -/
theorem dv_back {a : List Nat} (h : NumText.AllDigits a) (hne : a ≠ []) (h0 : a.head? ≠ some 48) : TL.numL (NumText.digitsVal a) = a ∧ 0 < NumText.digitsVal a := by
  induction a using rev_ind with
  | h0 => exact absurd rfl hne
  | hs a c ih =>
    have hc := h c (by simp)
    by_cases ha : a = []
    · subst ha
      have e : NumText.digitsVal ([] ++ [c]) = c - 48 := by simp [NumText.digitsVal]
      have hc0 : c ≠ 48 := by simpa using h0
      rw [e, TL.numL_lt (by omega)]
      refine ⟨?_, by omega⟩
      show [48 + (c - 48)] = [c]
      congr 1
      omega
    · obtain ⟨i1, i2⟩ := ih (fun d hd => h d (by simp [hd])) ha (by
        cases a with
        | nil => exact absurd rfl ha
        | cons x xs => simpa using h0)
      rw [dv_snoc]
      refine ⟨?_, by omega⟩
      rw [TL.numL_step (by omega), show (NumText.digitsVal a * 10 + (c - 48)) / 10 = NumText.digitsVal a by omega, show (NumText.digitsVal a * 10 + (c - 48)) % 10 = c - 48 by omega, i1]
      congr 2
      omega
/-- with a nought ahead it is not, but "0" -/
theorem dv_nought {a : List Nat} (h : NumText.AllDigits a) (h0 : a.head? = some 48) : TL.numL (NumText.digitsVal a) = a ↔ a = [48] := by
  constructor
  · intro e
    cases a with
    | nil => cases h0
    | cons x xs =>
      have hx : x = 48 := by simpa using h0
      subst hx
      cases xs with
      | nil => rfl
      | cons y ys =>
        have h2 : NumText.AllDigits (y :: ys) := fun d hd => h d (by simp at hd ⊢; exact .inr hd)
        have e2 : NumText.digitsVal (48 :: y :: ys) = NumText.digitsVal (y :: ys) := by simp [NumText.digitsVal]
        have lt := dv_lt h2
        rw [e2] at e
        have l1 := TL.numL_len (n := NumText.digitsVal (y :: ys)) (k := (y :: ys).length) (by simp) lt
        rw [e] at l1
        simp at l1
        omega
  · rintro rfl
    decide +kernel
/-- the signs of an integer's text -/
def codesI (i : Int) : List Nat := if i < 0 then 45 :: TL.numL i.natAbs else TL.numL i.natAbs
theorem tl_int (i : Int) : (Str.ofString (toString i)).cps.toList = codesI i := by
  unfold codesI
  by_cases h : i < 0
  · rw [if_pos h]
    obtain ⟨n, rfl⟩ : ∃ n : Nat, i = Int.negSucc n := ⟨(-i - 1).toNat, by omega⟩
    have e : toString (Int.negSucc n) = "-" ++ Nat.repr (n + 1) := rfl
    have e2 : toString (((n + 1 : Nat)) : Int) = Nat.repr (n + 1) := rfl
    have q := TL.tl_num (n + 1)
    rw [e2] at q
    show TL.tl (Str.ofString _) = 45 :: TL.numL (n + 1)
    rw [e, ← q, TL.tl_ofString, TL.tl_ofString, String.toList_append, List.map_append]
    rfl
  · rw [if_neg h]
    obtain ⟨n, rfl⟩ : ∃ n : Nat, i = (n : Int) := ⟨i.toNat, by omega⟩
    exact TL.tl_num n

/-- the figures of a word -/
def dec (a : List Nat) : List Nat := if a.take 1 = [45] then a.drop 1 else a
def isFig (c : Nat) : Bool := decide (c ∈ [48, 49, 50, 51, 52, 53, 54, 55, 56, 57])
theorem isFig_iff {c : Nat} : isFig c = true ↔ 48 ≤ c ∧ c ≤ 57 := by
  unfold isFig
  simp
  omega
/-- a word of figures with a number's form -/
def figs (a : List Nat) : Bool := decide (1 ≤ (dec a).length ∧ (dec a).length ≤ 4000) && (dec a).all isFig && (decide (a = [48]) || decide ((dec a).head? ≠ some 48))
def valI (a : List Nat) : Int := if a.take 1 = [45] then -(NumText.digitsVal (a.drop 1) : Int) else (NumText.digitsVal a : Int)
theorem all_dig {a : List Nat} (h : a.all isFig = true) : NumText.AllDigits a := fun c hc => isFig_iff.mp (List.all_eq_true.mp h c hc)
theorem neg_form {a : List Nat} (h : a.take 1 = [45]) : a = 45 :: a.drop 1 := by
  cases a with
  | nil => cases h
  | cons x xs => simp at h; simp [h]
/-- a word whose figures are figures is read as its number -/
theorem int_word {z : Str} (h : (dec z.cps.toList).all isFig = true) (hne : dec z.cps.toList ≠ []) (hl : z.length ≤ 4300) : intText? z = some (valI z.cps.toList) := by
  unfold dec at h hne
  unfold valI
  by_cases hn : z.cps.toList.take 1 = [45]
  · rw [if_pos hn] at h hne ⊢
    exact intText_neg (neg_form hn) (all_dig h) hne hl
  · rw [if_neg hn] at h hne ⊢
    exact intText_digits (all_dig h) hne hl
/-- its text is that of its number just if it has the form -/
theorem codes_back {a : List Nat} (h : (dec a).all isFig = true) (hne : dec a ≠ []) : codesI (valI a) = a ↔ (a = [48] ∨ (dec a).head? ≠ some 48) := by
  unfold dec at h hne ⊢
  unfold valI
  by_cases hn : a.take 1 = [45]
  · rw [if_pos hn] at h hne ⊢
    rw [if_pos hn]
    have hd := all_dig h
    have ha := neg_form hn
    generalize a.drop 1 = f at *
    subst ha
    have ne48 : (45 :: f) ≠ [48] := by simp
    by_cases h0 : f.head? = some 48
    · constructor
      · intro e
        exfalso
        unfold codesI at e
        by_cases hz : NumText.digitsVal f = 0
        · rw [hz] at e
          rw [if_neg (by omega)] at e
          have : TL.numL (-((0 : Nat) : Int)).natAbs = [48] := by decide +kernel
          rw [this] at e
          cases e
        · rw [if_pos (by omega)] at e
          have e2 : TL.numL (NumText.digitsVal f) = f := by simpa using e
          have e3 := (dv_nought hd h0).mp e2
          subst e3
          exact hz (by decide +kernel)
      · rintro (e | e)
        · exact absurd e ne48
        · exact absurd h0 e
    · obtain ⟨b1, b2⟩ := dv_back hd hne h0
      constructor
      · intro _
        exact .inr h0
      · intro _
        unfold codesI
        rw [if_pos (by omega)]
        simpa using b1
  · rw [if_neg hn] at h hne ⊢
    rw [if_neg hn]
    have hd := all_dig h
    have ec : codesI (NumText.digitsVal a : Int) = TL.numL (NumText.digitsVal a) := by
      unfold codesI
      rw [if_neg (by omega)]
      rfl
    rw [ec]
    by_cases h0 : a.head? = some 48
    · rw [dv_nought hd h0]
      constructor
      · exact .inl
      · rintro (e | e)
        · exact e
        · exact absurd h0 e
    · exact ⟨fun _ => .inr h0, fun _ => (dv_back hd hne h0).1⟩
theorem dash_test (z : Str) : decide (V.str (cutS z none (some 1)) = V.str "-") = decide (z.cps.toList.take 1 = [45]) := by
  rw [iff_str, cut_to z (by decide)]
  have e : ("-" : Str).cps.toList = [45] := by decide +kernel
  rw [e]
  rfl
theorem cut_from1 (z : Str) : cutS z (some 1) none = SX.S (z.cps.toList.drop 1) := cut_from z (by decide)
theorem cut_to1 (z : Str) : cutS z none (some 1) = SX.S (z.cps.toList.take 1) := cut_to z (by decide)
theorem dec_pos {a : List Nat} (h : a.take 1 = [45]) : dec a = a.drop 1 := if_pos h
theorem dec_neg {a : List Nat} (h : ¬ a.take 1 = [45]) : dec a = a := if_neg h
theorem dec_len (a : List Nat) : (dec a).length ≤ a.length := by
  unfold dec
  split
  · rw [List.length_drop]; omega
  · exact Nat.le_refl _
/-! ### what repr can write -/
def small (d : PyData) : Bool := d.showable && decide (d.depth ≤ 60) && d.leavesShort 2000 && decide (d.weight ≤ 8000)
theorem small_len {d : PyData} (h : small d = true) : d.showable = true ∧ d.depth ≤ 60 ∧ d.shown.length ≤ sizeLine := by
  unfold small at h
  simp only [Bool.and_eq_true, decide_eq_true_eq] at h
  obtain ⟨⟨⟨h1, h2⟩, h3⟩, h4⟩ := h
  refine ⟨h1, h2, Nat.le_trans (PyData.shown_le 2000 (by decide) d h3) ?_⟩
  rw [sizeLine_eq]
  omega
theorem log2_lt {n k : Nat} (hk : 0 < k) (h : n < 2 ^ k) : n.log2 < k := by
  by_cases h0 : n = 0
  · subst h0
    simpa using hk
  · exact (Nat.log2_lt h0).mpr h
theorem int_leaf {i : Int} (h : i.natAbs < 2 ^ 1000) : (PyData.int i).showable = true ∧ PyData.leavesShort 2000 (.int i) = true ∧ PyData.weight (.int i) ≤ 1000 := by
  have h2 : i.natAbs.log2 < 1000 := log2_lt (by decide) h
  have h3 := int_text_length_le (a := i) (k := 1000) (by decide) h2
  refine ⟨decide_eq_true (show i.natAbs.log2 < 1920 by omega), ?_, ?_⟩
  · refine decide_eq_true ?_
    show (Str.ofString (toString i)).length ≤ 2000
    rw [PySem.ofString_length]
    omega
  · show (if i == 0 then 0 else i.natAbs.log2 + 1) ≤ 1000
    split <;> omega
theorem str_of_menu {zs : List Str} {m : Nat} (hm : ∀ z ∈ zs, z.length ≤ m) {x : V} {j : Nat} (h : (zs.map V.str)[j]? = some x) : ∃ z, x = .str z ∧ z ∈ zs ∧ z.length ≤ m := by
  rw [List.getElem?_map] at h
  cases q : zs[j]? with
  | none => rw [q] at h; cases h
  | some z =>
    rw [q] at h
    exact ⟨z, (Option.some.inj h).symm, List.mem_of_getElem? q, hm z (List.mem_of_getElem? q)⟩
theorem int_of_menu {zs : List Int} {p : Int → Prop} (hm : ∀ z ∈ zs, p z) {x : V} {j : Nat} (h : (zs.map V.int)[j]? = some x) : ∃ z, x = .int z ∧ z ∈ zs ∧ p z := by
  rw [List.getElem?_map] at h
  cases q : zs[j]? with
  | none => rw [q] at h; cases h
  | some z =>
    rw [q] at h
    exact ⟨z, (Option.some.inj h).symm, List.mem_of_getElem? q, hm z (List.mem_of_getElem? q)⟩
/-- what stays odd while p alone is changed -/
def OddP (K : PySem.W.Frag) (p : Addr) (H : Hp) (v : V) : Prop := ∀ H', But p H H' → Odd K H' v
theorem OddP.mono {K : PySem.W.Frag} {p : Addr} {H H' : Hp} {v : V} (h : OddP K p H v) (b : But p H H') : OddP K p H' v := fun _ c => h _ (b.trans c)
theorem OddP.now {K : PySem.W.Frag} {p : Addr} {H : Hp} {v : V} (h : OddP K p H v) : Odd K H v := h _ (But.refl _ _)
theorem oddP_lst {K : PySem.W.Frag} {p a : Addr} {H : Hp} {xs : List V} (h : H a = some (.lst xs)) (n : a ≠ p) : OddP K p H (.ref a) := fun _ b => odd_lst (b a _ h n)
theorem oddP_tup {K : PySem.W.Frag} {p a : Addr} {H : Hp} {xs : List V} (h : H a = some (.tup xs)) (n : a ≠ p) : OddP K p H (.ref a) := fun _ b => odd_tup (b a _ h n)
theorem oddP_dK {K : PySem.W.Frag} {p a : Addr} {H : Hp} {xs : List (Key × V)} (h : H a = some (.dK xs)) (n : a ≠ p) : OddP K p H (.ref a) := fun _ b => odd_dK (b a _ h n)
/-- signs below 128 alone -/
def Asc (z : Str) : Prop := ∀ c ∈ z.cps.toList, c < 128
theorem asc_cut {z : Str} (h : Asc z) (lo hi : Option Int) : Asc (cutS z lo hi) := fun c hc => h c (List.mem_of_mem_drop (List.mem_of_mem_take hc))
theorem asc_app {a b : Str} (ha : Asc a) (hb : Asc b) : Asc (a ++ b) := fun c hc => by
  have e : (a ++ b).cps.toList = a.cps.toList ++ b.cps.toList := TL.tl_append a b
  rw [e] at hc
  rcases List.mem_append.mp hc with q | q
  · exact ha c q
  · exact hb c q
theorem asc_join {ys : List Str} (h : ∀ y ∈ ys, Asc y) : Asc (Txt.join "" ys) := by
  have ee : TL.tl ("" : Str) = [] := by decide +kernel
  have e : (Txt.join "" ys).cps.toList = TL.joinL [] (ys.map TL.tl) := by
    rw [TL.join_eq, ← ee]
    exact TL.tl_join "" ys
  intro c hc
  rw [e] at hc
  clear e
  induction ys with
  | nil => simp [TL.joinL] at hc
  | cons y ys ih =>
    cases ys with
    | nil => exact h y (by simp) c (by simpa [TL.joinL] using hc)
    | cons y2 ys =>
      simp only [List.map_cons, TL.joinL, List.append_nil, List.mem_append] at hc
      rcases hc with hc | hc
      · exact h y (by simp) c (by simpa using hc)
      · exact ih (fun z hz => h z (by simp at hz ⊢; exact .inr hz)) (by simpa using hc)
theorem asc_int (i : Int) : Asc (Str.ofString (toString i)) := fun c hc => by
  rw [tl_int] at hc
  unfold codesI at hc
  split at hc
  · rcases List.mem_cons.mp hc with rfl | hc
    · decide
    · have := TL.numL_digits _ c hc
      omega
  · have := TL.numL_digits _ c hc
    omega
theorem dp_signs {K : PySem.W.Frag} {H : Hp} : ∀ cs : List Nat, DpAll K H (cs.map fun c => V.str ⟨#[c]⟩) (cs.map fun c => PyData.str ⟨#[c]⟩)
  | [] => .nil
  | c :: cs => .cons (.str _) (dp_signs cs)
theorem shaped_signs {cs : List Nat} (h : ∀ c ∈ cs, c < 128) : SeqAt.shaped (.list (cs.map fun c => PyData.str ⟨#[c]⟩)) = true := by
  have h2 : PyData.depthAll (cs.map fun c => PyData.str ⟨#[c]⟩) = 0 := by
    clear h
    induction cs with
    | nil => rfl
    | cons n ns ih => simp [PyData.depthAll, PyData.depth] at ih ⊢; exact ih
  have h1 : PyData.canLayAll0 (cs.map fun c => PyData.str ⟨#[c]⟩) = true := by
    clear h2
    induction cs with
    | nil => rfl
    | cons n ns ih =>
      have := h n (by simp)
      simp [PyData.canLayAll0, PyData.canLay0, PyData.strOk, ih fun c hc => h c (by simp [hc])]
      omega
  simp [SeqAt.shaped, PyData.canLay0, PyData.depth, h1, h2]
theorem eqv_signs_nil (cs : List Nat) : PyData.eqv (.list (cs.map fun c => PyData.str ⟨#[c]⟩)) (.list []) = cs.isEmpty := by
  cases cs <;> simp [PyData.eqv, PyData.eqvAll]
/-! ### a text times a number -/
def repS (z : Str) (n : Nat) : Str := ⟨(List.replicate n z.cps).foldl (· ++ ·) #[]⟩
theorem repS_tl (z : Str) (n : Nat) : (repS z n).cps.toList = (List.replicate n z.cps.toList).flatten := by
  have gen : ∀ (n : Nat) (a : Array Nat), ((List.replicate n z.cps).foldl (· ++ ·) a).toList = a.toList ++ (List.replicate n z.cps.toList).flatten := by
    intro n
    induction n with
    | zero => intro a; simp
    | succ n ih =>
      intro a
      rw [List.replicate_succ, List.foldl_cons, ih, List.replicate_succ, List.flatten_cons]
      simp
  show ((List.replicate n z.cps).foldl (· ++ ·) #[]).toList = _
  rw [gen]
  rfl
theorem repS_len (z : Str) (n : Nat) : (repS z n).length = z.length * n := by
  rw [len_tl, repS_tl, List.length_flatten, List.map_replicate, List.sum_replicate_nat, len_tl, Nat.mul_comm]
theorem op_rep_str {X : Cx} : OpR X (binaryOp .Mult) (fun x y H Q => ∃ z k, x = .str z ∧ y = .int k ∧ 2 ≤ k ∧ 0 < z.length ∧ z.length * k.toNat ≤ sizeLine ∧ Q (.str (repS z k.toNat)) H) := by
  intro pins s σ H x y v u Q I rx ry h
  obtain ⟨z, k, rfl, rfl, hk, hz, hl, q⟩ := h
  obtain ⟨t, rfl⟩ := rx
  obtain ⟨t2, rfl⟩ := ry
  have hs := sizeLine_eq
  have hk2 : k.toNat ≤ sizeLine := by
    have : 1 * k.toNat ≤ z.length * k.toNat := Nat.mul_le_mul_right _ hz
    omega
  refine PySem.P.mul_str ?_ (fun _ _ => ?_) (fun _ _ => ?_) ?_
  · rw [decide_eq_false (by omega), decide_eq_false (by omega)]
    rfl
  · intro h
    have h1 : (2 ^ 63 - 1) / k < (z.length : Int) := h
    rw [Int.ediv_lt_iff_lt_mul (by omega)] at h1
    have h2 : (z.length : Int) * k = ((z.length * k.toNat : Nat) : Int) := by
      rw [Int.natCast_mul]
      congr 1
      omega
    rw [h2] at h1
    omega
  · show decide _ = false
    exact decide_eq_false (by omega)
  · rw [if_neg (by omega), if_neg]
    · exact ⟨by show (repS z k.toNat).length ≤ sizeLine; rw [repS_len]; exact hl, ⟨.str _, H, I.tok _, ⟨_, rfl⟩, q⟩⟩
    · have e1 : (k == 1) = false := by
        rw [beq_eq_false_iff_ne]
        omega
      have e2 : (z.length == 0) = false := by
        rw [beq_eq_false_iff_ne]
        omega
      rw [e1, e2]
      decide
end Gs

set_option maxRecDepth 100000
set_option maxHeartbeats 4000000
namespace Gs
open PySem PySem.Spec PySem.NumText PyProof.Rows L2 PySem.Calls PySem.W
theorem wp_long {M : Model} {A : Around} {E : Value → Shared → Prop} {s : Shared} {Q : Value → Shared → Prop} {v : Value} {text : List Nat} {n : Int} {mc : Str → Option Value} (hns : s.heap.Ns cStatics mc) (hnone : mc "sys.int_max_str_digits" = none)
    (hs : ¬ (text.takeWhile (· != 0)).length ≤ 640) (hr : (int_private% "readNumeral") 4300 10 (text.takeWhile (· != 0)) = (int_private% "Numeral.value") n)
    (ha : ((text.takeWhile (· != 0)).length == text.length) = true) (h : Q (.int n s.toks) { s with toks := s.toks + 1 }) :
    wpAny M A ((int_private% "intFromText") v text 10) Q E s := by
  obtain ⟨hp, g, d, tk, os⟩ := s
  have hs2 : decide ((text.takeWhile (· != 0)).length ≤ 640) = false := decide_eq_false hs
  have hl : wpAny M A Builtin.intMaxStrDigits (fun l s' => l = 4300 ∧ s' = ({ heap := hp, gens := g, drawn := d, toks := tk, os := os } : Shared)) E { heap := hp, gens := g, drawn := d, toks := tk, os := os } := by
    unfold Builtin.intMaxStrDigits
    refine wpAny_bind (wpAny_nsGet hns ?_)
    rw [hnone]
    exact wpAny_pure ⟨rfl, rfl⟩
  repeat (any_goals (first
    | assumption
    | ((with_reducible show wpAny _ _ Builtin.intMaxStrDigits _ _ _); refine wpAny_mono hl (fun l s' hq => ?_) (fun _ _ z => z); obtain ⟨rfl, rfl⟩ := hq)
    | (with_reducible refine wpAny_ite_false hs2 ?_)
    | (with_reducible refine wpAny_ite_true (decide_eq_true ha) ?_)
    | wp_step))
  all_goals (try rw [hr])
  all_goals (try dsimp only)
  repeat (any_goals (first
    | assumption
    | (with_reducible refine wpAny_ite_true (decide_eq_true ha) ?_)
    | wp_step))

structure Hid (p : Prop) : Prop where
  out : p
theorem meets_long {x : PySem.Str} {u : Tok} {n : Int} (hl : x.length ≤ 4300) (hn : PySem.intText? x = some n) :
    Meets (Builtin.«int.__new__» ⟨[.type "int", .str x u], []⟩) (fun A R s => NoDig s.heap ∧ R (.ok (.ret (.int n s.toks))) { s with toks := s.toks + 1 }) := by
  intro prog w A R s hh
  have key : ∀ (M : Model) (E : Value → Shared → Prop) (Q : Value → Shared → Prop) (s : Shared), NoDig s.heap → Q (.int n s.toks) { s with toks := s.toks + 1 } →
      wpAny M A.in1 (Builtin.«int.__new__» ⟨[.type "int", .str x u], []⟩) (fun fin s' => ∃ v, fin = .done (.ret v) ∧ Q v s') E s := by
    intro M E Q s hd h
    obtain ⟨mc, hns, hnone⟩ := hd
    have f1 := F.conv_sub_int
    have f2 := F.madeHere_int
    have f3 := KIN.str_int
    have f4 := KIN.str_idx
    have f5 := KIN.str_trunc
    have f6 : typeOf (.str x u) = pure (.type "str") := rfl
    have hr : ((numSeenOf x).length == (numTextOf x).length) = true ∧ (((numSeenOf x).length ≤ 640 ∧ (int_private% "readNumeral") 0 10 (numSeenOf x) = (int_private% "Numeral.value") n) ∨
        (¬ (numSeenOf x).length ≤ 640 ∧ (int_private% "readNumeral") 4300 10 (numSeenOf x) = (int_private% "Numeral.value") n)) := by
      by_cases h6 : (numSeenOf x).length ≤ 640
      · rcases read0 x h6 with ⟨m, h1, h2, h3⟩ | ⟨h1, _⟩
        · rw [hn] at h1
          injection h1 with h1
          subst h1
          exact ⟨h2, .inl ⟨h6, h3⟩⟩
        · rw [hn] at h1
          cases h1
      · rcases read4300 x (Nat.le_trans hl (by decide)) with ⟨m, h1, h2, h3⟩ | ⟨h1, _⟩
        · rw [hn] at h1
          injection h1 with h1
          subst h1
          exact ⟨h2, .inr ⟨h6, h3⟩⟩
        · rw [hn] at h1
          cases h1
    obtain ⟨hall, hr⟩ := hr
    rcases hr with ⟨h6, hr⟩ | ⟨h6, hr⟩
    · have hk := Hid.mk (And.intro h6 (And.intro hr hall))
      clear hr hl hn hall h6
      obtain ⟨hp, g, d, tk, os⟩ := s
      repeat (any_goals (first
        | assumption
        | ((with_reducible show wpAny _ _ ((int_private% "intFromText") _ _ _) _ _ _); refine KIN.wp_text hk.out.1 hk.out.2.1 hk.out.2.2 ?_)
        | wp_step))
      all_goals first | exact ⟨_, rfl, h⟩ | skip
    · have hk := Hid.mk (And.intro h6 (And.intro hr (And.intro hall (And.intro hns hnone))))
      clear hr hl hn hall h6 hns hnone
      obtain ⟨hp, g, d, tk, os⟩ := s
      repeat (any_goals (first
        | assumption
        | ((with_reducible show wpAny _ _ ((int_private% "intFromText") _ _ _) _ _ _); refine wp_long hk.out.2.2.2.1 hk.out.2.2.2.2 hk.out.1 hk.out.2.1 hk.out.2.2.1 ?_)
        | wp_step))
      all_goals first | exact ⟨_, rfl, h⟩ | skip
  exact wpAny_mono (key _ _ (fun v s' => R (.ok (.ret v)) s') s hh.1 hh.2) (fun fin s' h' => by obtain ⟨v, rfl, hv⟩ := h'; exact hv) fun _ _ x => x
theorem call_int_str' {X : Cx} (hd : NoDig X.base) : CallR X (.type "int") (fun xs H Q => ∃ a n, xs = [.str a] ∧ PySem.intText? a = some n ∧ a.length ≤ 4300 ∧ Q (.int n) H) := by
  intro pins s σ H xs us Q I rs h
  obtain ⟨a, n, rfl, hn, hl, h⟩ := h
  obtain ⟨u, rfl, r1⟩ := vals1 rs
  obtain ⟨t, rfl⟩ := r1
  exact call_int_1 (meets_long hl hn) ⟨hd.keeps I.bk, typeIs_int _ _ _, .int n, H, I.tok _, ⟨_, rfl⟩, h⟩
end Gs

set_option maxRecDepth 100000
set_option maxHeartbeats 0
namespace K02
open PySem PySem.Spec PyProof.Rows L2 Gs
def top (i : Nat) : Stmt := PySem.Challenge.pw_gapshares_k02_looks_at_any_values.main.body.getD i (.Pass ⟨0, 0, 0, 0⟩)
def dd (x : Str) (i : Nat) : He.DefD := ⟨(x, none), x, x, defArgs (top i), defBody (top i), defScope (top i), [], []⟩
def fn : List He.DefD := [dd "is_figures" 2, dd "number_of" 3, dd "is_integer" 6, dd "is_within" 7, dd "is_name" 8, dd "_law_pen" 10, dd "_law_draw" 11, dd "_law_pick" 12, dd "_law_thing" 13, dd "_law_letters" 14,
  dd "_law_figures" 15, dd "_law_is_plain" 16, dd "_law_written" 17, dd "_law_right" 18, dd "_law_word_right" 19, dd "law" 20]
def fa : List He.Fa := [.free "isinstance", .free "int", .free "str", .free "bool", .free "len", .free "all", .free "abs", .free "list", .free "range", .free "repr", .int "MOST_FIGURES" 4000, .str "SIGNS" "abcdefghijklmnopqrstuvwxyz"] ++ fn.map fun d => .glo d.name
abbrev R : PySem.W.OpenRow := PySem.W.OpenLaw.row PySem.Challenge.rw_gapshares_k02_looks_at_any_values
abbrev hk : PySem.W.Hook := He.hookD 4 fa fn
def ob (s : PySem.W.SharedT) : He.AlD := He.obsDG 4 fa fn (HandSHeadRun.getT s)
theorem ob_eq (s : PySem.W.SharedT) : ob s = hk.obs s.abs := He.obsDG_eq (HandSHeadRun.getT_eq s)
theorem run (w : World) : HandSHeadRun.RunEq R (PySem.W.view R.prog [20]) hk ob 2000 ["__name__", "MOST_FIGURES", "is_figures", "number_of", "SIGNS", "is_integer", "is_within", "is_name", "_law_pen", "_law_draw", "_law_pick", "_law_thing", "_law_letters", "_law_figures", "_law_is_plain", "_law_written", "_law_right", "_law_word_right"] w := by
  intro os
  kernel_rfl
end K02

set_option maxRecDepth 100000
set_option maxHeartbeats 4000000
namespace K02
open PySem PySem.Spec PyProof.Rows L2 Gs
open C8 (tCut pss_cut)
abbrev s_is_figures : Stmt := top 2
abbrev s_number_of : Stmt := top 3
abbrev s_is_integer : Stmt := top 6
abbrev s_is_within : Stmt := top 7
abbrev s_is_name : Stmt := top 8
abbrev s__law_pen : Stmt := top 10
abbrev s__law_draw : Stmt := top 11
abbrev s__law_pick : Stmt := top 12
abbrev s__law_thing : Stmt := top 13
abbrev s__law_letters : Stmt := top 14
abbrev s__law_figures : Stmt := top 15
abbrev s__law_is_plain : Stmt := top 16
abbrev s__law_written : Stmt := top 17
abbrev s__law_right : Stmt := top 18
abbrev s__law_word_right : Stmt := top 19
abbrev s_law : Stmt := top 20
structure Txt (mg : Str → Option Value) : Prop where
  f_isinstance : mg "isinstance" = none
  f_int : mg "int" = none
  f_str : mg "str" = none
  f_bool : mg "bool" = none
  f_len : mg "len" = none
  f_all : mg "all" = none
  f_abs : mg "abs" = none
  f_list : mg "list" = none
  f_range : mg "range" = none
  f_repr : mg "repr" = none
  g_MOST_FIGURES : ∃ t, mg "MOST_FIGURES" = some (.int 4000 t)
  g_SIGNS : ∃ t, mg "SIGNS" = some (.str "abcdefghijklmnopqrstuvwxyz" t)
section
variable {P : Program} {w : World} {K : PySem.W.Frag} {mg : Str → Option Value} {base : Heap}
theorem sc__law_draw : FnScope ["pen", "many", "digit", "spot", "cell", "great", "stirred"] ["pen", "many"] (defScope s__law_draw) := ⟨rfl, rfl, rfl, by decide +kernel, rfl, by decide +kernel, by decide +kernel⟩
theorem d__law_draw (T : Txt mg) (A0 : At K mg "_law_draw" s__law_draw) : DefOk P w K mg base CX0 1 "_law_draw" ["pen", "many"] [] spDraw := by
  refine A0.ok sc__law_draw (fun _ _ F => F.bindsN fun _ _ _ _ _ _ us hl => match us, hl with | [_, _], _ => rfl) (fun vs H Q E h => ?_) (fun f cdv A out s H vs Q E hr h => ?_)
  · obtain ⟨p, c, n, m, rfl, _⟩ := h; rfl
  · have nd := sc__law_draw.nd
    refine ⟨_, (pss_cons (ps_if (pt_cmpR op_gt (pe_ix ix_list (pv 0) pe_int (fun _ _ => rfl)) pe_int (nomark _)) (pss_cons (ps_set (i := 2) nd rfl (Or.inl rfl) (pe_op op_mod (pe_callTy call_int1 (by rfl) T.f_int (by decide +kernel) (pa_cons (pe_ix ix_list (pv 0) pe_int (fun _ _ => rfl)) pa_nil)) (pv 1)))
          (pss_cons (ps_asg (pe_op op_fdiv (pe_callTy call_int1 (by rfl) T.f_int (by decide +kernel) (pa_cons (pe_ix ix_list (pv 0) pe_int (fun _ _ => rfl)) pa_nil)) (pv 1)) (pg_sub (pv 0) pe_int set_list))
          (pss_one (ps_ret (pv 2))))) pss_nil)
          (pss_cons (ps_set (i := 3) nd rfl (Or.inl rfl) (pe_ix ix_list (pv 0) pe_int (fun _ _ => rfl)))
          (pss_cons (ps_asg (pe_op op_add (pv 3) pe_int) (pg_sub (pv 0) pe_int set_list))
          (pss_cons (ps_set (i := 4) nd rfl (Or.inl rfl) (pe_op op_add (pe_op op_mul pe_int (pv 3)) pe_int))
          (pss_cut (ps_if (pt_cmpR (op_neD hr.units) (pe_ix ix_list (pv 0) pe_int (fun _ _ => rfl)) (pe_lst pa_nil) (nomark _)) (pss_one (ps_set (i := 4) nd rfl (Or.inl rfl) (pe_ix ix_list (pe_ix ix_list (pv 0) pe_int (fun _ _ => rfl)) (pe_op op_mod (pe_callTy call_int1 (by rfl) T.f_int (by decide +kernel) (pa_cons (pv 3) pa_nil)) (pe_callB call_len (by rfl) T.f_len (by decide +kernel) (pa_cons (pe_ix ix_list (pv 0) pe_int (fun _ _ => rfl)) pa_nil))) (fun _ _ => rfl)))) pss_nil)
          (pss_cut (ps_if (PW.pt (pw_and (pt_cmpR op_lt (pv 3) (pe_callB call_len (by rfl) T.f_len (by decide +kernel) (pa_cons (pe_ix ix_list (pv 0) pe_int (fun _ _ => rfl)) pa_nil)) (nomark _)) (pw_and1 (pt_cmpR op_ge (pe_callB call_abs (by rfl) T.f_abs (by decide +kernel) (pa_cons (pv 4) pa_nil)) (pe_op op_pow pe_int pe_int) (nomark _))))) (pss_cons (ps_set (i := 5) nd rfl (Or.inl rfl) (pe_op op_add (pe_op op_mul pe_int (pe_op op_sub (pe_callB call_abs (by rfl) T.f_abs (by decide +kernel) (pa_cons (pv 4) pa_nil)) (pe_op op_pow pe_int pe_int))) (pe_callTy call_int1 (by rfl) T.f_int (by decide +kernel) (pa_cons (pe_cmpR op_lt (pv 4) pe_int (nomark _)) pa_nil))))
          (pss_cons (ps_asg (pe_op op_fdiv (pe_callTy call_int1 (by rfl) T.f_int (by decide +kernel) (pa_cons (pv 5) pa_nil)) (pv 1)) (pg_sub (pv 0) pe_int set_list))
          (pss_one (ps_ret (pe_op op_mod (pe_callTy call_int1 (by rfl) T.f_int (by decide +kernel) (pa_cons (pv 5) pa_nil)) (pv 1)))))) pss_nil)
          (pss_cons (ps_set (i := 6) nd rfl (Or.inl rfl) (pe_op op_mod (pe_callTy call_int1 (by rfl) T.f_int (by decide +kernel) (pa_cons (pe_op op_pow (pe_op op_add (pe_op op_add (pe_op op_mod (pe_callTy call_int1 (by rfl) T.f_int (by decide +kernel) (pa_cons (pv 4) pa_nil)) pe_int) (pe_op op_mul pe_int (pv 3))) pe_int) pe_int) pa_nil)) pe_int))
          (pss_cons (ps_set (i := 6) nd rfl (Or.inl rfl) (pe_op op_mod (pe_callTy call_int1 (by rfl) T.f_int (by decide +kernel) (pa_cons (pe_op op_pow (pe_op op_add (pe_op op_add (pe_op op_mul (pv 6) (pe_op op_add (pe_op op_mul pe_int (pv 3)) pe_int)) (pe_op op_mul (pe_op op_mul pe_int (pv 3)) (pv 3))) pe_int) pe_int) pa_nil)) pe_int))
          (pss_one (ps_ret (pe_op op_mod (pe_callTy call_int1 (by rfl) T.f_int (by decide +kernel) (pa_cons (pe_op op_fdiv (pv 6) pe_int) pa_nil)) (pv 1)))))))))))), ?_⟩
    obtain ⟨p, c, n, m, rfl, pn, hn, hm, hm2, k⟩ := h
    have hc := pn.ne
    obtain ⟨ns, spot, great, h1, h2, hl, hs0, hs1, hg⟩ := pn.ex
    refine ⟨_, rfl, p, _, 2, _, rfl, rfl, SqL.of h1, rfl, _, _, rfl, rfl, _, rfl, ite2 (fun hb => ?_) (fun hb => ?_)⟩
    · have hb := of_decide_eq_true hb
      refine ⟨_, rfl, p, _, 2, _, rfl, rfl, SqL.of h1, rfl, .inl ⟨_, rfl, _, rfl, _, _, rfl, rfl, hm, ?_⟩⟩
      refine ⟨_, rfl, p, _, 2, _, rfl, rfl, SqL.of h1, rfl, .inl ⟨_, rfl, _, rfl, _, _, rfl, rfl, ⟨hm, hm2⟩, ?_⟩⟩
      refine ⟨_, rfl, p, _, 2, 2, rfl, rfl, h1, rfl, _, rfl, ?_⟩
      refine k _ _ (Int.emod_nonneg _ (by omega)) (Int.emod_lt_of_pos _ hm) ⟨ns, spot, great / m, upd_same, by rw [upd_ne hc]; exact h2, hl, hs0, by omega, Int.ediv_nonneg hg (by omega)⟩ (But.refl _ _).self
    -- spot = pen[1]; pen[1] = spot + 1; cell = ..
    refine ⟨_, rfl, p, _, 1, _, rfl, rfl, SqL.of h1, rfl, _, rfl, _, _, rfl, rfl, _, rfl, p, _, 1, 1, rfl, rfl, h1, rfl, ?_⟩
    have g1 : upd H p (.lst [.ref c, .int (spot + 1), .int great]) p = some (.lst [.ref c, .int (spot + 1), .int great]) := upd_same
    have g2 : upd H p (.lst [.ref c, .int (spot + 1), .int great]) c = some (.lst (ns.map V.int)) := by rw [upd_ne hc]; exact h2
    have g3 : ∀ b, b ≠ p → upd H p (.lst [.ref c, .int (spot + 1), .int great]) b = H b := fun b hb => upd_ne hb
    show tSeq _ _ _ _ (upd H p (.lst [.ref c, .int (spot + 1), .int great]))
    generalize upd H p (.lst [.ref c, .int (spot + 1), .int great]) = H1 at g1 g2 g3
    refine ⟨_, rfl, _, _, rfl, rfl, .inl ⟨by decide, by decide⟩, _, _, rfl, rfl, ?_⟩
    -- if pen[0] != []: cell = ..
    refine ⟨fun σ H2 => ∃ z : Int, σ = [some (.ref p), some (.int m), none, some (.int spot), some (.int z), none, none] ∧ H2 p = some (.lst [.ref c, .int (spot + 1), .int great]) ∧ H2 c = some (.lst (ns.map V.int)) ∧ (∀ b o, H b = some o → b ≠ p → H2 b = some o), ?_, ?_⟩
    · refine ⟨_, rfl, p, _, 0, _, rfl, rfl, SqL.of g1, rfl, by decide, fun l hl' => ?_⟩
      have e1 : upd H1 l (.lst []) p = some (.lst [.ref c, .int (spot + 1), .int great]) := by rw [upd_ne (ne_of_none g1 hl')]; exact g1
      have e2 : upd H1 l (.lst []) c = some (.lst (ns.map V.int)) := by rw [upd_ne (ne_of_none g2 hl')]; exact g2
      have e3 : ∀ b o, H b = some o → b ≠ p → upd H1 l (.lst []) b = some o := fun b o e hb => by
        have z : H1 b = some o := (g3 b hb).trans e
        rw [upd_ne (ne_of_none z hl')]
        exact z
      have e4 : upd H1 l (.lst []) l = some (.lst []) := upd_same
      show rNeD K _ _ (upd H1 l (.lst [])) _
      generalize upd H1 l (.lst []) = H3 at e1 e2 e3 e4
      refine ⟨.list (ns.map PyData.int), .list [], .lst (SqL.of e2) (dp_ints ns), .lst (SqL.of e4) .nil, shaped_ints ns, by decide +kernel, _, rfl, ?_⟩
      rw [eqv_ints_nil]
      cases hns : ns with
      | nil => exact ⟨_, rfl, e1, hns ▸ e2, e3⟩
      | cons z zs =>
        refine iteT ?_
        rw [← hns]
        have h0 : 0 < (ns.map V.int).length := by rw [hns]; simp
        obtain ⟨j, x, hj, hx, hat⟩ := atI_mod h0 spot
        obtain ⟨y, rfl⟩ : ∃ y, x = V.int y := by
          rw [List.getElem?_map] at hx
          cases q : ns[j]? with
          | none => rw [q] at hx; cases hx
          | some y => rw [q] at hx; exact ⟨y, (Option.some.inj hx).symm⟩
        refine ⟨_, rfl, p, _, 0, _, rfl, rfl, SqL.of e1, rfl, _, rfl, .inl ⟨_, rfl, _, rfl, p, _, 0, _, rfl, rfl, SqL.of e1, rfl, _, _, rfl, .inl ⟨_, SqL.of e2, rfl⟩, _, _, rfl, rfl, (by omega), c, _, _, _, rfl, rfl, SqL.of e2, hat, ?_⟩⟩
        exact ⟨y, rfl, e1, e2, e3⟩
    · rintro σ H2 ⟨z, rfl, f1, f2, f3⟩
      have fin : ∀ (v : Int) (g : Int) H', H' p = some (.lst [.ref c, .int (spot + 1), .int g]) → H' c = some (.lst (ns.map V.int)) → (∀ b o, H b = some o → b ≠ p → H' b = some o) → 0 ≤ g → Q (.int (v % m)) H' := fun v g H' q1 q2 q3 q4 =>
        k _ _ (Int.emod_nonneg _ (by omega)) (Int.emod_lt_of_pos _ hm) ⟨ns, _, _, q1, q2, hl, by omega, by omega, q4⟩ q3
      -- if spot < len(pen[0]) and abs(cell) >= 10 ** 18
      refine ⟨fun σ H3 => σ = [some (.ref p), some (.int m), none, some (.int spot), some (.int z), none, none] ∧ H3 = H2, ?_, ?_⟩
      · refine ⟨_, rfl, _, rfl, p, _, 0, _, rfl, rfl, SqL.of f1, rfl, _, _, rfl, .inl ⟨_, SqL.of f2, rfl⟩, _, _, rfl, rfl, _, rfl, ite2 (fun _ => ?_) (fun _ => iteF ⟨rfl, rfl⟩)⟩
        refine ⟨_, rfl, _, rfl, _, _, rfl, rfl, ⟨by decide, by decide, by decide⟩, _, _, rfl, rfl, _, rfl, ite2 (fun hz => ?_) (fun _ => ⟨rfl, rfl⟩)⟩
        have hz := of_decide_eq_true hz
        refine ⟨_, rfl, _, rfl, _, _, rfl, rfl, ⟨by decide, by decide, by decide⟩, _, _, rfl, rfl, _, _, rfl, rfl, .inl ⟨by decide, by decide⟩, _, rfl, _, _, rfl, rfl, .inr ⟨_, rfl, _, _, rfl, rfl, ?_⟩⟩
        refine ⟨_, rfl, .inl ⟨_, rfl, _, rfl, _, _, rfl, rfl, ⟨hm, hm2⟩, _, rfl, p, _, 2, 2, rfl, rfl, f1, rfl, _, rfl, .inl ⟨_, rfl, _, rfl, _, _, rfl, rfl, hm, ?_⟩⟩⟩
        refine fin _ _ _ upd_same (by rw [upd_ne hc]; exact f2) (fun b o e hb => by rw [upd_ne hb]; exact f3 b o e hb) (Int.ediv_nonneg ?_ (by omega))
        have h18 : (10 : Int) ^ (18 : Int).toNat = 1000000000000000000 := by decide
        rw [h18] at hz ⊢
        generalize (if z < 0 then -z else z) = y at hz ⊢
        have hc2 : 0 ≤ (if decide (z < 0) = true then (1 : Int) else 0) := by split <;> omega
        omega
      · rintro σ H3 ⟨rfl, rfl⟩
        -- stirred = ..
        have b1 := Int.emod_nonneg z (show (2147439967 : Int) ≠ 0 by decide)
        have b2 := Int.emod_lt_of_pos z (show (0 : Int) < 2147439967 by decide)
        refine ⟨_, rfl, .inl ⟨_, rfl, _, _, rfl, rfl, (by show (0 : Int) < 2147439967; decide), _, rfl, _, _, rfl, rfl, .inl ⟨by decide, by decide⟩, _, _, rfl, rfl, _, _, rfl, rfl, _, _, rfl, rfl, ⟨by decide, by decide, ?_⟩, .inl ⟨_, rfl, _, _, rfl, rfl, (by show (0 : Int) < 2147429989; decide), ?_⟩⟩⟩
        · omega
        have b3 := Int.emod_nonneg ((z % 2147439967 + 86043 * spot + 503) ^ (5 : Int).toNat) (show (2147429989 : Int) ≠ 0 by decide)
        have b4 := Int.emod_lt_of_pos ((z % 2147439967 + 86043 * spot + 503) ^ (5 : Int).toNat) (show (0 : Int) < 2147429989 by decide)
        show tSeq _ _ _ [some (.ref p), some (.int m), none, some (.int spot), some (.int z), none, some (.int ((z % 2147439967 + 86043 * spot + 503) ^ (5 : Int).toNat % 2147429989))] _
        generalize ((z % 2147439967 + 86043 * spot + 503) ^ (5 : Int).toNat) % 2147429989 = st at b3 b4 ⊢
        obtain ⟨c1, c2⟩ := mul_box (a := st) (b := 2 * spot + 145) (A := 2147429989) (B := 2000145) (by omega) (by omega) (by omega) (by omega)
        obtain ⟨c3, c4⟩ := mul_box (a := 73037 * spot) (b := spot) (A := 73037000000) (B := 1000000) (by omega) (by omega) (by omega) (by omega)
        refine ⟨_, rfl, _, rfl, _, _, rfl, rfl, .inl ⟨by decide, by decide⟩, _, _, rfl, rfl, _, _, rfl, rfl, .inl ⟨by omega, by omega⟩, _, rfl, _, _, rfl, rfl, .inl ⟨by decide, by decide⟩, _, rfl, _, _, rfl, rfl, .inl ⟨by omega, by omega⟩,
          _, _, rfl, rfl, _, _, rfl, rfl, _, _, rfl, rfl, ⟨by decide, by decide, by omega⟩, .inl ⟨_, rfl, _, _, rfl, rfl, (by show (0 : Int) < 2147420001; decide), ?_⟩⟩
        refine ⟨_, rfl, _, _, rfl, rfl, ⟨by decide, by decide⟩, .inl ⟨_, rfl, _, rfl, _, _, rfl, rfl, hm, ?_⟩⟩
        exact fin _ _ _ f1 f2 f3 hg
theorem sc__law_pen : FnScope ["script"] ["script"] (defScope s__law_pen) := ⟨rfl, rfl, rfl, by decide +kernel, rfl, by decide +kernel, by decide +kernel⟩
theorem d__law_pen (T : Txt mg) (A0 : At K mg "_law_pen" s__law_pen) : DefOk P w K mg base CX0 1 "_law_pen" ["script"] [] (spPen K) := by
  refine A0.ok sc__law_pen (fun _ _ F => F.bindsN fun _ _ _ _ _ _ us hl => match us, hl with | [_], _ => rfl) (fun vs H Q E h => ?_) (fun f cdv A out s H vs Q E hr h => ?_)
  · obtain ⟨a, ns, rfl, _⟩ := h; rfl
  · have nd := sc__law_pen.nd
    refine ⟨_, (pss_one (ps_ret (pe_lst (pa_cons (pe_callTy call_list_of (by rfl) T.f_list (by decide +kernel) (pa_cons (pe_slice sl_list (pv 0) po_none (po_some pe_int)) pa_nil)) (pa_cons pe_int (pa_cons pe_int pa_nil)))))), ?_⟩
    obtain ⟨a, ns, rfl, hS, hn, k⟩ := h
    obtain ⟨ys, ey, ly, _⟩ := cut_map V.int ns none (some 63)
    refine ⟨_, rfl, _, rfl, a, _, rfl, hS, fun q hq => ?_⟩
    refine ⟨q, _, rfl, .inl (SqL.of upd_same), fun l hl => ?_⟩
    refine ⟨by show 3 ≤ sizeLine; decide, fun p hp => ?_⟩
    have e1 := ext_new (o := .lst (cutV (ns.map V.int) none (some 63))) hq
    have e2 := e1.new (o := .lst (cutV (ns.map V.int) none (some 63))) hl
    have e3 := e2.new (o := .lst [.ref l, .int 0, .int 0]) hp
    have nl : l ≠ p := ne_of_none upd_same hp
    refine k p l _ ?_ ?_ ⟨ys, 0, 0, upd_same, ?_, by omega, by omega, by omega, by omega⟩ e3
    · cases z : H p with
      | none => rfl
      | some u =>
        have := e2 p u z
        rw [hp] at this
        cases this
    · cases z : H l with
      | none => rfl
      | some u =>
        have := e1 l u z
        rw [hl] at this
        cases this
    · rw [upd_ne nl, upd_same, ey]
theorem sc__law_pick : FnScope ["pen", "some"] ["pen", "some"] (defScope s__law_pick) := ⟨rfl, rfl, rfl, by decide +kernel, rfl, by decide +kernel, by decide +kernel⟩
theorem d__law_pick (T : Txt mg) (D_law_draw : DefOk P w K mg base CX0 1 "_law_draw" ["pen", "many"] [] spDraw) (A0 : At K mg "_law_pick" s__law_pick) : DefOk P w K mg base CX0 2 "_law_pick" ["pen", "some"] [] (spPick K) := by
  refine A0.ok sc__law_pick (fun _ _ F => F.bindsN fun _ _ _ _ _ _ us hl => match us, hl with | [_, _], _ => rfl) (fun vs H Q E h => ?_) (fun f cdv A out s H vs Q E hr h => ?_)
  · obtain ⟨p, c, l, n, xs, rfl, _⟩ := h; rfl
  · have nd := sc__law_pick.nd
    refine ⟨_, (pss_one (ps_ret (pe_ix ix_list (pv 1) (pe_d D_law_draw (hr.mono (by decide)) pass0 (pa_cons (pv 0) (pa_cons (pe_callB call_len (by rfl) T.f_len (by decide +kernel) (pa_cons (pv 1) pa_nil)) pa_nil))) (fun _ _ => rfl)))), ?_⟩
    obtain ⟨p, c, l, n, xs, rfl, pn, hn, hS, hlp, hne, hz, k⟩ := h
    have h0 : 0 < xs.length := List.length_pos_iff.mpr hne
    refine ⟨_, rfl, _, rfl, _, rfl, _, _, rfl, .inl ⟨_, hS, rfl⟩, p, c, n, _, rfl, pn, hn, by omega, by omega, fun i H' h1 h2 P' B' => ?_⟩
    obtain ⟨j, rfl⟩ := Int.eq_ofNat_of_zero_le h1
    have hj : j < xs.length := by omega
    refine ⟨l, xs, _, xs[j], rfl, rfl, B'.sq hlp hS, atI_nat (List.getElem?_eq_getElem hj), k j _ _ (List.getElem?_eq_getElem hj) P' B'⟩

end
end K02

set_option maxRecDepth 100000
set_option maxHeartbeats 4000000
namespace K02
open PySem PySem.Spec PyProof.Rows L2 Gs
open C8 (tCut pss_cut)
def figV : V → Bool
  | .str z => figs z.cps.toList
  | _ => false
def Short (v : V) : Prop := ∀ z, v = .str z → z.length ≤ 4200
def numV (v : V) (lo hi : Int) : V := if figV v = true then (match v with | .str z => if lo ≤ valI z.cps.toList ∧ valI z.cps.toList ≤ hi then .int (valI z.cps.toList) else .non | _ => .non) else .non
def withinV (v : V) (lo hi : Int) : Bool := vPlain v && (match v with | .int i => decide (lo ≤ i ∧ i ≤ hi) | _ => false)
def isLow (c : Nat) : Bool := decide (c ∈ ("abcdefghijklmnopqrstuvwxyz" : Str).cps.toList)
def nameV : V → Bool
  | .str z => decide (1 ≤ z.length ∧ z.length ≤ 8) && z.cps.toList.all isLow
  | _ => false
def spNum (K : PySem.W.Frag) : Sp := fun vs H Q _ => ∃ v lo hi, vs = [v, .int lo, .int hi] ∧ Odd K H v ∧ Short v ∧ ∀ H', Ext H H' → Q (numV v lo hi) H'
def spIsInt (K : PySem.W.Frag) : Sp := fun vs H Q _ => ∃ v, vs = [v] ∧ Odd K H v ∧ Q (.bl (vPlain v)) H
def spWithin (K : PySem.W.Frag) : Sp := fun vs H Q _ => ∃ v lo hi, vs = [v, .int lo, .int hi] ∧ Odd K H v ∧ Q (.bl (withinV v lo hi)) H
def spName (K : PySem.W.Frag) : Sp := fun vs H Q _ => ∃ v, vs = [v] ∧ Odd K H v ∧ Short v ∧ ∀ H', Ext H H' → Q (.bl (nameV v)) H'
def spFig (K : PySem.W.Frag) : Sp := fun vs H Q _ => ∃ v, vs = [v] ∧ Odd K H v ∧ Short v ∧ ∀ H', Ext H H' → Q (.bl (figV v)) H'
section
variable {P : Program} {w : World} {K : PySem.W.Frag} {mg : Str → Option Value} {base : Heap}
theorem sc_is_figures : FnScope ["word", "figures", "sign"] ["word"] (defScope s_is_figures) := ⟨rfl, rfl, rfl, by decide +kernel, rfl, by decide +kernel, by decide +kernel⟩
theorem d_is_figures (T : Txt mg) (A0 : At K mg "is_figures" s_is_figures) : DefOk P w K mg base CX0 1 "is_figures" ["word"] [] (spFig K) := by
  refine A0.ok sc_is_figures (fun _ _ F => F.bindsN fun _ _ _ _ _ _ us hl => match us, hl with | [_], _ => rfl) (fun vs H Q E h => ?_) (fun f cdv A out s H vs Q E hr h => ?_)
  · obtain ⟨v, rfl, _⟩ := h; rfl
  · have nd := sc_is_figures.nd
    refine ⟨_, (pss_cons (ps_if (pt_not (pt_val (pe_callB call_isi (by rfl) T.f_isinstance (by decide +kernel) (pa_cons (pv 0) (pa_cons (pe_bltn (v := .ty "str") (by rfl) T.f_str (by decide +kernel) rfl) pa_nil))))) (pss_one (ps_ret pe_bl)) pss_nil)
          (pss_cut (ps_set (i := 1) nd rfl (Or.inl rfl) (pe_ifExp (pt_cmpR op_eq (pe_slice sl_str (pv 0) po_none (po_some pe_int)) pe_str (nomark _)) (pe_slice sl_str (pv 0) (po_some pe_int) po_none) (pv 0)))
          (pss_cons (ps_if (pt_not (pt_chain op_le op_le pe_int (pe_callB call_len_str (by rfl) T.f_len (by decide +kernel) (pa_cons (pv 1) pa_nil)) (pe_glob (v := .int 4000) (by rfl) T.g_MOST_FIGURES.choose_spec ⟨_, rfl⟩))) (pss_one (ps_ret pe_bl)) pss_nil)
          (pss_cons (ps_if (pt_not (pt_val (pe_callB (cr_all rfl) (by rfl) T.f_all (by decide +kernel) (pa_cons (pe_lc (own := [("sign", 2)]) rfl nd (pi_str (pv 1)) (blkOk_by (N := ["word", "figures", "sign"]) (sc := defScope s_is_figures) (own := [("sign", 2)]) (by decide +kernel)) (fun _ _ _ _ _ => (pg_name (i := 2) nd rfl (Or.inl rfl))) (fun _ _ _ _ _ => pts_nil) (fun _ _ _ _ _ => (pe_cmpR op_in_sign (pv 2) pe_str (by rfl)))) pa_nil)))) (pss_one (ps_ret pe_bl)) pss_nil)
          (pss_one (ps_ret (pe_or (pe_cmpR op_eq (pv 0) pe_str (nomark _)) (pe_one (pe_cmpR op_ne (pe_ix ix_str (pv 1) pe_int (fun _ _ => rfl)) pe_str (nomark _)))))))))), ?_⟩
    obtain ⟨v, rfl, hv, hsh, k⟩ := h
    obtain ⟨t, ty, kt⟩ := odd_str hv
    refine ⟨_, rfl, _, _, t, _, _, rfl, .ty _, ty, kt, _, rfl, ?_⟩
    cases v with
    | str z => ?_
    | _ => exact iteT (k _ (Ext.refl _))
    refine iteF ?_
    have hz : z.length ≤ sizeLine := Nat.le_trans (hsh z rfl) (by decide)
    have hz2 : (dec z.cps.toList).length ≤ sizeLine := Nat.le_trans (dec_len _) (by rw [← len_tl]; exact hz)
    refine ⟨fun σ H2 => σ = [some (.str z), some (.str (SX.S (dec z.cps.toList))), none] ∧ H2 = H, ?_, ?_⟩
    · refine ⟨_, rfl, _, rfl, z, rfl, hz, rfl, _, rfl, ?_⟩
      rw [dash_test]
      by_cases hn : z.cps.toList.take 1 = [45]
      · rw [decide_eq_true hn]
        refine iteT ⟨_, rfl, _, rfl, z, rfl, hz, ?_⟩
        rw [cut_from1, ← dec_pos hn]
        exact ⟨rfl, rfl⟩
      · rw [decide_eq_false hn]
        refine iteF ⟨_, rfl, ?_⟩
        rw [dec_neg hn, SX.S_tl]
        exact ⟨rfl, rfl⟩
    rintro σ H2 ⟨rfl, rfl⟩
    have ez : (SX.S (dec z.cps.toList)).length = (dec z.cps.toList).length := SX.S_len _
    refine ch_le (i := 1) (j := ((dec z.cps.toList).length : Int)) (k := 4000) pu_c (fun H Q q => ⟨_, rfl, _, rfl, by rw [ez]; exact hz2, by rw [ez]; exact q⟩) pu_c ⟨_, rfl, ?_⟩
    by_cases hc : 1 ≤ (dec z.cps.toList).length ∧ (dec z.cps.toList).length ≤ 4000
    case neg =>
      rw [decide_eq_false (by omega)]
      refine iteT ?_
      have e : figV (.str z) = false := by
        show figs _ = false
        unfold figs
        rw [decide_eq_false hc]
        rfl
      exact e ▸ k _ (Ext.refl _)
    rw [decide_eq_true (by omega)]
    refine iteF ?_
    refine ⟨_, rfl, _, rfl, fun D hD => lc_txt1 (fun c => .bl (isFig c)) (fun c H Q _ q => ⟨_, rfl, c, _, rfl, rfl, q⟩) (by rw [ez]; exact hz2) ?_⟩
    refine ⟨D, (dec z.cps.toList).map isFig, rfl, SqL.of (by rw [upd_same, List.map_map]; rfl), _, rfl, ?_⟩
    have ex : Ext H2 (upd H2 D (.lst ((SX.S (dec z.cps.toList)).cps.toList.map fun c => V.bl (isFig c)))) := ext_new hD
    rw [show ((dec z.cps.toList).map isFig).all id = (dec z.cps.toList).all isFig by simp [List.all_map]]
    cases hd : (dec z.cps.toList).all isFig with
    | false =>
      refine iteT ?_
      have e : figV (.str z) = false := by
        show figs _ = false
        unfold figs
        rw [hd, Bool.and_false]
        rfl
      exact e ▸ k _ ex
    | true =>
      have ef : figV (.str z) = (decide (z.cps.toList = [48]) || decide ((dec z.cps.toList).head? ≠ some 48)) := by
        show figs _ = _
        unfold figs
        rw [decide_eq_true hc, hd]
        rfl
      rw [ef] at k
      refine iteF ⟨_, rfl, rfl, _, rfl, ?_⟩
      rw [iff_str, show ("0" : Str).cps.toList = [48] by decide +kernel]
      by_cases h48 : z.cps.toList = [48]
      · rw [decide_eq_true h48] at k ⊢
        exact iteT (k _ ex)
      · rw [decide_eq_false h48] at k ⊢
        refine iteF ?_
        cases hdz : dec z.cps.toList with
        | nil =>
          rw [hdz] at hc
          exact absurd hc.1 (by decide)
        | cons c cs =>
          refine ⟨_, rfl, SX.S (c :: cs), 0, c, rfl, rfl, by rw [SX.S_len, ← hdz]; exact hz2, atI_nat (j := 0) rfl, rfl, ?_⟩
          rw [iff_str, show ("0" : Str).cps.toList = [48] by decide +kernel]
          rw [hdz] at k ex
          have e : (!decide ((⟨#[c]⟩ : Str).cps.toList = [48])) = (false || decide ((c :: cs).head? ≠ some 48)) := by
            by_cases hc0 : c = 48 <;> simp [hc0]
          rw [e]
          exact k _ ex
theorem sc_number_of : FnScope ["word", "least", "most", "found"] ["word", "least", "most"] (defScope s_number_of) := ⟨rfl, rfl, rfl, by decide +kernel, rfl, by decide +kernel, by decide +kernel⟩
theorem d_number_of (T : Txt mg) (ND : NoDig base) (Dis_figures : DefOk P w K mg base CX0 1 "is_figures" ["word"] [] (spFig K)) (A0 : At K mg "number_of" s_number_of) : DefOk P w K mg base CX0 2 "number_of" ["word", "least", "most"] [] (spNum K) := by
  refine A0.ok sc_number_of (fun _ _ F => F.bindsN fun _ _ _ _ _ _ us hl => match us, hl with | [_, _, _], _ => rfl) (fun vs H Q E h => ?_) (fun f cdv A out s H vs Q E hr h => ?_)
  · obtain ⟨v, lo, hi, rfl, _⟩ := h; rfl
  · have nd := sc_number_of.nd
    refine ⟨_, (pss_cons (ps_if (pt_not (pt_val (pe_d Dis_figures (hr.mono (by decide)) pass0 (pa_cons (pv 0) pa_nil)))) (pss_one (ps_ret pe_non)) pss_nil)
          (pss_cons (ps_set (i := 3) nd rfl (Or.inl rfl) (pe_callTy (call_int_str' ND) (by rfl) T.f_int (by decide +kernel) (pa_cons (pv 0) pa_nil)))
          (pss_one (ps_ret (pe_ifExp (pt_chain op_le op_le (pv 1) (pv 3) (pv 2)) (pv 3) pe_non))))), ?_⟩
    obtain ⟨v, lo, hi, rfl, hv, hsh, k⟩ := h
    refine ⟨_, rfl, v, rfl, hv, hsh, fun H1 e1 => ⟨_, rfl, ?_⟩⟩
    cases hf : figV v with
    | false =>
      refine iteT ?_
      have e : numV v lo hi = .non := by
        unfold numV
        rw [hf]
        rfl
      exact e ▸ k _ e1
    | true =>
      refine iteF ?_
      cases v with
      | str z => ?_
      | _ => cases hf
      have hf2 : figs z.cps.toList = true := hf
      have hw : intText? z = some (valI z.cps.toList) := by
        unfold figs at hf2
        simp only [Bool.and_eq_true, decide_eq_true_eq] at hf2
        refine int_word hf2.1.2 (fun e => ?_) (Nat.le_trans (hsh z rfl) (by decide))
        have := hf2.1.1.1
        rw [e] at this
        exact absurd this (by decide)
      refine ⟨_, rfl, z, _, rfl, hw, Nat.le_trans (hsh z rfl) (by decide), ?_⟩
      refine ch_le (pu_var rfl) (pu_var rfl) (pu_var rfl) ⟨_, rfl, ?_⟩
      have e : numV (.str z) lo hi = if lo ≤ valI z.cps.toList ∧ valI z.cps.toList ≤ hi then .int (valI z.cps.toList) else .non := by
        unfold numV
        rw [hf]
        rfl
      rw [e] at k
      by_cases hc : lo ≤ valI z.cps.toList ∧ valI z.cps.toList ≤ hi
      · rw [if_pos hc] at k
        rw [decide_eq_true hc]
        exact iteT ⟨_, rfl, k _ e1⟩
      · rw [if_neg hc] at k
        rw [decide_eq_false hc]
        exact iteF (k _ e1)
theorem sc_is_integer : FnScope ["value"] ["value"] (defScope s_is_integer) := ⟨rfl, rfl, rfl, by decide +kernel, rfl, by decide +kernel, by decide +kernel⟩
theorem d_is_integer (T : Txt mg) (A0 : At K mg "is_integer" s_is_integer) : DefOk P w K mg base CX0 1 "is_integer" ["value"] [] (spIsInt K) := by
  refine A0.ok sc_is_integer (fun _ _ F => F.bindsN fun _ _ _ _ _ _ us hl => match us, hl with | [_], _ => rfl) (fun vs H Q E h => ?_) (fun f cdv A out s H vs Q E hr h => ?_)
  · obtain ⟨v, rfl, _⟩ := h; rfl
  · have nd := sc_is_integer.nd
    refine ⟨_, (pss_one (ps_ret (pe_and (pe_callB call_isi (by rfl) T.f_isinstance (by decide +kernel) (pa_cons (pv 0) (pa_cons (pe_bltn (v := .ty "int") (by rfl) T.f_int (by decide +kernel) rfl) pa_nil))) (pe_one (pe_not (pe_callB call_isi (by rfl) T.f_isinstance (by decide +kernel) (pa_cons (pv 0) (pa_cons (pe_bltn (v := .ty "bool") (by rfl) T.f_bool (by decide +kernel) rfl) pa_nil)))))))), ?_⟩
    obtain ⟨v, rfl, hv, k⟩ := h
    obtain ⟨t, ty, kt⟩ := odd_int hv
    obtain ⟨t2, ty2, kt2⟩ := odd_bool hv
    refine ⟨_, rfl, _, _, t, _, _, rfl, .ty _, ty, kt, _, rfl, ?_⟩
    unfold vPlain at k
    cases hi : vInt v with
    | true =>
      rw [hi] at k
      exact iteT ⟨_, rfl, _, _, t2, _, _, rfl, .ty _, ty2, kt2, _, rfl, k⟩
    | false =>
      rw [hi] at k
      exact iteF k
theorem sc_is_within : FnScope ["value", "least", "most"] ["value", "least", "most"] (defScope s_is_within) := ⟨rfl, rfl, rfl, by decide +kernel, rfl, by decide +kernel, by decide +kernel⟩
theorem d_is_within (T : Txt mg) (Dis_integer : DefOk P w K mg base CX0 1 "is_integer" ["value"] [] (spIsInt K)) (A0 : At K mg "is_within" s_is_within) : DefOk P w K mg base CX0 2 "is_within" ["value", "least", "most"] [] (spWithin K) := by
  refine A0.ok sc_is_within (fun _ _ F => F.bindsN fun _ _ _ _ _ _ us hl => match us, hl with | [_, _, _], _ => rfl) (fun vs H Q E h => ?_) (fun f cdv A out s H vs Q E hr h => ?_)
  · obtain ⟨v, lo, hi, rfl, _⟩ := h; rfl
  · have nd := sc_is_within.nd
    refine ⟨_, (pss_one (ps_ret (pe_and (pe_d Dis_integer (hr.mono (by decide)) pass0 (pa_cons (pv 0) pa_nil)) (pe_one (pe_chain op_le op_le (pv 1) (pv 0) (pv 2)))))), ?_⟩
    obtain ⟨v, lo, hi, rfl, hv, k⟩ := h
    refine ⟨_, rfl, v, rfl, hv, _, rfl, ?_⟩
    unfold withinV at k
    cases hp : vPlain v with
    | false =>
      rw [hp] at k
      exact iteF k
    | true =>
      rw [hp] at k
      refine iteT ?_
      cases v with
      | int i => exact ch_le (pu_var rfl) (pu_var rfl) (pu_var rfl) k
      | _ => cases hp
theorem sc_is_name : FnScope ["value", "sign"] ["value"] (defScope s_is_name) := ⟨rfl, rfl, rfl, by decide +kernel, rfl, by decide +kernel, by decide +kernel⟩
theorem d_is_name (T : Txt mg) (A0 : At K mg "is_name" s_is_name) : DefOk P w K mg base CX0 1 "is_name" ["value"] [] (spName K) := by
  refine A0.ok sc_is_name (fun _ _ F => F.bindsN fun _ _ _ _ _ _ us hl => match us, hl with | [_], _ => rfl) (fun vs H Q E h => ?_) (fun f cdv A out s H vs Q E hr h => ?_)
  · obtain ⟨v, rfl, _⟩ := h; rfl
  · have nd := sc_is_name.nd
    refine ⟨_, (pss_cons (ps_if (PW.pt (pw_or (pt_not (pt_val (pe_callB call_isi (by rfl) T.f_isinstance (by decide +kernel) (pa_cons (pv 0) (pa_cons (pe_bltn (v := .ty "str") (by rfl) T.f_str (by decide +kernel) rfl) pa_nil))))) (pw_or1 (pt_not (pt_chain op_le op_le pe_int (pe_callB call_len_str (by rfl) T.f_len (by decide +kernel) (pa_cons (pv 0) pa_nil)) pe_int))))) (pss_one (ps_ret pe_bl)) pss_nil)
          (pss_one (ps_ret (pe_callB (cr_all rfl) (by rfl) T.f_all (by decide +kernel) (pa_cons (pe_lc (own := [("sign", 1)]) rfl nd (pi_str (pv 0)) (blkOk_by (N := ["value", "sign"]) (sc := defScope s_is_name) (own := [("sign", 1)]) (by decide +kernel)) (fun _ _ _ _ _ => (pg_name (i := 1) nd rfl (Or.inl rfl))) (fun _ _ _ _ _ => pts_nil) (fun _ _ _ _ _ => (pe_cmpR op_in_sign (pv 1) (pe_glob (v := .str "abcdefghijklmnopqrstuvwxyz") (by rfl) T.g_SIGNS.choose_spec ⟨_, rfl⟩) (by rfl)))) pa_nil))))), ?_⟩
    obtain ⟨v, rfl, hv, hsh, k⟩ := h
    obtain ⟨t, ty, kt⟩ := odd_str hv
    refine ⟨_, rfl, _, _, t, _, _, rfl, .ty _, ty, kt, _, rfl, ?_⟩
    cases v with
    | str z => ?_
    | _ => exact iteT (iteT (k _ (Ext.refl _)))
    refine iteF ?_
    have hz : z.length ≤ sizeLine := Nat.le_trans (hsh z rfl) (by decide)
    refine ch_le (i := 1) (j := (z.length : Int)) (k := 8) pu_c (fun H Q q => ⟨_, rfl, _, rfl, hz, q⟩) pu_c ⟨_, rfl, ?_⟩
    have ec : nameV (.str z) = (decide (1 ≤ z.length ∧ z.length ≤ 8) && z.cps.toList.all isLow) := rfl
    rw [ec] at k
    by_cases hc : 1 ≤ z.length ∧ z.length ≤ 8
    case neg =>
      rw [decide_eq_false hc] at k
      rw [decide_eq_false (by omega)]
      exact iteT (k _ (Ext.refl _))
    rw [decide_eq_true hc] at k
    rw [decide_eq_true (by omega)]
    refine iteF ?_
    refine ⟨_, rfl, _, rfl, fun D hD => lc_txt1 (fun c => .bl (isLow c)) (fun c H Q _ q => ⟨_, rfl, c, _, rfl, rfl, q⟩) hz ?_⟩
    refine ⟨D, z.cps.toList.map isLow, rfl, SqL.of (by rw [upd_same, List.map_map]; rfl), ?_⟩
    rw [show (z.cps.toList.map isLow).all id = z.cps.toList.all isLow by simp [List.all_map]]
    exact k _ (ext_new hD)

end
end K02

set_option maxRecDepth 100000
set_option maxHeartbeats 4000000
namespace K02
open PySem PySem.Spec PyProof.Rows L2 Gs
open C8 (tCut pss_cut)
def spThing (K : PySem.W.Frag) : Sp := fun vs H Q _ => ∃ (p c : Addr) (n : Nat), vs = [.ref p] ∧ Pen H p c n ∧ n ≤ 900000 ∧ ∀ v H', OddP K p H' v → Short v → Pen H' p c (n + 1) → But p H H' → Q v H'
def spWord (K : PySem.W.Frag) : Sp := fun vs H Q _ => ∃ (p c : Addr) (n : Nat), vs = [.ref p] ∧ Pen H p c n ∧ n ≤ 900000 ∧ ∀ z H', z.length ≤ 300 → Asc z → Pen H' p c (n + 30) → But p H H' → Q (.str z) H'
theorem ok_sc {K : PySem.W.Frag} {p : Addr} {H : Hp} {v : V} (h : (match v with | .non => true | .bl _ => true | .int _ => true | .str z => decide (z.length ≤ 4200) | _ => false) = true) : OddP K p H v ∧ Short v := by
  cases v with
  | non => exact ⟨fun _ _ => trivial, fun z e => by cases e⟩
  | bl b => exact ⟨fun _ _ => trivial, fun z e => by cases e⟩
  | int b => exact ⟨fun _ _ => trivial, fun z e => by cases e⟩
  | str b => exact ⟨fun _ _ => trivial, fun z e => by cases e; exact of_decide_eq_true h⟩
  | _ => cases h
theorem short_ref {a : Addr} : Short (.ref a) := fun z e => by cases e
def writV (z : Str) : V := if (dec z.cps.toList).all isFig = true ∧ dec z.cps.toList ≠ [] ∧ codesI (valI z.cps.toList) = z.cps.toList then .int (valI z.cps.toList) else .non
def spWrit : Sp := fun vs H Q _ => ∃ z : Str, vs = [.str z] ∧ z.length ≤ 300 ∧ Asc z ∧ ∀ H', Ext H H' → Q (writV z) H'
def spRight (K : PySem.W.Frag) : Sp := fun vs H Q _ => ∃ v lo hi p, vs = [v, .int lo, .int hi] ∧ OddP K p H v ∧ ∀ H', Ext H H' → Q (.bl true) H'
def spWordRight : Sp := fun vs H Q _ => ∃ (z : Str) (lo hi : Int), vs = [.str z, .int lo, .int hi] ∧ z.length ≤ 300 ∧ Asc z ∧ ∀ H', Ext H H' → Q (.bl true) H'
section
variable {P : Program} {w : World} {K : PySem.W.Frag} {mg : Str → Option Value} {base : Heap}
theorem sc__law_thing : FnScope ["pen", "some"] ["pen"] (defScope s__law_thing) := ⟨rfl, rfl, rfl, by decide +kernel, rfl, by decide +kernel, by decide +kernel⟩
theorem d__law_thing (T : Txt mg) (D_law_pick : DefOk P w K mg base CX0 2 "_law_pick" ["pen", "some"] [] (spPick K)) (A0 : At K mg "_law_thing" s__law_thing) : DefOk P w K mg base CX0 3 "_law_thing" ["pen"] [] (spThing K) := by
  refine A0.ok sc__law_thing (fun _ _ F => F.bindsN fun _ _ _ _ _ _ us hl => match us, hl with | [_], _ => rfl) (fun vs H Q E h => ?_) (fun f cdv A out s H vs Q E hr h => ?_)
  · obtain ⟨p, c, n, rfl, _⟩ := h; rfl
  · have nd := sc__law_thing.nd
    refine ⟨_, (pss_cons (ps_set (i := 1) nd rfl (Or.inl rfl) (pe_lst (pa_cons pe_non (pa_cons pe_bl (pa_cons pe_bl (pa_cons pe_int (pa_cons pe_int (pa_cons (pe_un un_neg pe_int) (pa_cons pe_int (pa_cons (pe_op op_pow pe_int pe_int) (pa_cons pe_str (pa_cons pe_str (pa_cons pe_str (pa_cons (pe_tup pa_nil) (pa_cons (pe_tup (pa_cons pe_int pa_nil)) (pa_cons (pe_tup (pa_cons pe_str pa_nil)) (pa_cons (pe_lst pa_nil) (pa_cons (pe_lst (pa_cons pe_int pa_nil)) (pa_cons (pe_lst (pa_cons pe_str pa_nil)) (pa_cons pe_dnewK (pa_cons (pe_disp (pps_cons pe_int pe_int pps_nil) (by rfl) (by rfl) (fun z => by cases z) (by decide)) pa_nil)))))))))))))))))))))
          (pss_one (ps_ret (pe_d D_law_pick (hr.mono (by decide)) pass0 (pa_cons (pv 0) (pa_cons (pv 1) pa_nil)))))), ?_⟩
    obtain ⟨p, c, n, rfl, pn, hn, k⟩ := h
    obtain ⟨op, hp⟩ : ∃ o, H p = some o := let ⟨_, _, _, h1, _⟩ := pn.ex; ⟨_, h1⟩
    refine ⟨_, rfl, _, _, rfl, rfl, ⟨by decide, by decide, by decide⟩, ?_⟩
    refine ⟨by decide, ?_⟩
    intro t0 h0
    have e0 := ext_new (o := .tup []) h0
    have q0 := @upd_same H t0 (.tup [])
    generalize upd H t0 (.tup []) = H0 at e0 q0 ⊢
    refine ⟨by decide, ?_⟩
    intro t1 h1
    have e1 := ext_new (o := .tup [.int 1]) h1
    have q1 := @upd_same H0 t1 (.tup [.int 1])
    generalize upd H0 t1 (.tup [.int 1]) = H1 at e1 q1 ⊢
    refine ⟨by decide, ?_⟩
    intro t2 h2
    have e2 := ext_new (o := .tup [.str "a"]) h2
    have q2 := @upd_same H1 t2 (.tup [.str "a"])
    generalize upd H1 t2 (.tup [.str "a"]) = H2 at e2 q2 ⊢
    refine ⟨by decide, ?_⟩
    intro t3 h3
    have e3 := ext_new (o := .lst []) h3
    have q3 := @upd_same H2 t3 (.lst [])
    generalize upd H2 t3 (.lst []) = H3 at e3 q3 ⊢
    refine ⟨by decide, ?_⟩
    intro t4 h4
    have e4 := ext_new (o := .lst [.int 0]) h4
    have q4 := @upd_same H3 t4 (.lst [.int 0])
    generalize upd H3 t4 (.lst [.int 0]) = H4 at e4 q4 ⊢
    refine ⟨by decide, ?_⟩
    intro t5 h5
    have e5 := ext_new (o := .lst [.str "a"]) h5
    have q5 := @upd_same H4 t5 (.lst [.str "a"])
    generalize upd H4 t5 (.lst [.str "a"]) = H5 at e5 q5 ⊢
    intro t6 h6
    have e6 := ext_new (o := .dK []) h6
    have q6 := @upd_same H5 t6 (.dK [])
    generalize upd H5 t6 (.dK []) = H6 at e6 q6 ⊢
    intro t7 h7
    refine ⟨upd_same, [(Sum.inl 1, .int 2)], rfl, by decide, ?_⟩
    have e7 : Ext H6 (upd (upd H6 t7 (.dK [])) t7 (.dK (mergeK [] [(Sum.inl 1, .int 2)]))) := (ext_new h7).mut h7
    have q7 : (upd (upd H6 t7 (.dK [])) t7 (.dK (mergeK [] [(Sum.inl 1, .int 2)]))) t7 = some (.dK (mergeK [] [(Sum.inl 1, .int 2)])) := upd_same
    generalize upd (upd H6 t7 (.dK [])) t7 (.dK (mergeK [] [(Sum.inl 1, .int 2)])) = H7 at e7 q7 ⊢
    refine ⟨by show 19 ≤ sizeLine; decide, ?_⟩
    intro l hl
    have p0 := e0 p _ hp
    have p1 := e1 p _ p0
    have p2 := e2 p _ p1
    have p3 := e3 p _ p2
    have p4 := e4 p _ p3
    have p5 := e5 p _ p4
    have p6 := e6 p _ p5
    have p7 := e7 p _ p6
    have n0 : t0 ≠ p := fun z => by rw [z, hp] at h0; cases h0
    have n1 : t1 ≠ p := fun z => by rw [z, p0] at h1; cases h1
    have n2 : t2 ≠ p := fun z => by rw [z, p1] at h2; cases h2
    have n3 : t3 ≠ p := fun z => by rw [z, p2] at h3; cases h3
    have n4 : t4 ≠ p := fun z => by rw [z, p3] at h4; cases h4
    have n5 : t5 ≠ p := fun z => by rw [z, p4] at h5; cases h5
    have n6 : t6 ≠ p := fun z => by rw [z, p5] at h6; cases h6
    have n7 : t7 ≠ p := fun z => by rw [z, p6] at h7; cases h7
    have nl : l ≠ p := fun z => by rw [z, p7] at hl; cases hl
    have e01 := e0.trans (e1.trans (e2.trans (e3.trans (e4.trans (e5.trans (e6.trans e7))))))
    refine ⟨_, rfl, _, rfl, p, c, l, n, _, rfl, (pn.ext e01).new hl, by omega, SqL.of upd_same, nl, by simp, by show 19 < 1000000; decide, ?_⟩
    have el := e01.new (o := .lst [.non, .bl true, .bl false, .int 0, .int 1, .int (-1), .int 60, .int (10 ^ (39 : Int).toNat), .str "0", .str "1", .str "a", .ref t0, .ref t1, .ref t2, .ref t3, .ref t4, .ref t5, .ref t6, .ref t7]) hl
    have en := ext_new (o := .lst [.non, .bl true, .bl false, .int 0, .int 1, .int (-1), .int 60, .int (10 ^ (39 : Int).toNat), .str "0", .str "1", .str "a", .ref t0, .ref t1, .ref t2, .ref t3, .ref t4, .ref t5, .ref t6, .ref t7]) hl
    intro i x H' hx P' B'
    have hall : ∀ x ∈ [V.non, .bl true, .bl false, .int 0, .int 1, .int (-1), .int 60, .int (10 ^ (39 : Int).toNat), .str "0", .str "1", .str "a", .ref t0, .ref t1, .ref t2, .ref t3, .ref t4, .ref t5, .ref t6, .ref t7],
        OddP K p (upd H7 l (.lst [.non, .bl true, .bl false, .int 0, .int 1, .int (-1), .int 60, .int (10 ^ (39 : Int).toNat), .str "0", .str "1", .str "a", .ref t0, .ref t1, .ref t2, .ref t3, .ref t4, .ref t5, .ref t6, .ref t7])) x ∧ Short x := by
      simp only [List.forall_mem_cons]
      have f7 := e7
      have f6 := e6.trans f7
      have f5 := e5.trans f6
      have f4 := e4.trans f5
      have f3 := e3.trans f4
      have f2 := e2.trans f3
      have f1 := e1.trans f2
      refine ⟨ok_sc rfl, ok_sc rfl, ok_sc rfl, ok_sc rfl, ok_sc rfl, ok_sc rfl, ok_sc rfl, ok_sc rfl, ok_sc (by decide +kernel), ok_sc (by decide +kernel), ok_sc (by decide +kernel), ⟨(oddP_tup q0 n0).mono (f1.trans en).but, short_ref⟩,
        ⟨(oddP_tup q1 n1).mono (f2.trans en).but, short_ref⟩, ⟨(oddP_tup q2 n2).mono (f3.trans en).but, short_ref⟩, ⟨(oddP_lst q3 n3).mono (f4.trans en).but, short_ref⟩, ⟨(oddP_lst q4 n4).mono (f5.trans en).but, short_ref⟩,
        ⟨(oddP_lst q5 n5).mono (f6.trans en).but, short_ref⟩, ⟨(oddP_dK q6 n6).mono (f7.trans en).but, short_ref⟩, ⟨(oddP_dK q7 n7).mono en.but, short_ref⟩, fun _ z => nomatch z⟩
    obtain ⟨o1, o2⟩ := hall x (List.mem_of_getElem? hx)
    exact k x H' (o1.mono B') o2 P' (el.but.trans B')
theorem sc__law_letters : FnScope ["pen", "wordy", "lap", "at_so"] ["pen"] (defScope s__law_letters) := ⟨rfl, rfl, rfl, by decide +kernel, rfl, by decide +kernel, by decide +kernel⟩
theorem d__law_letters (T : Txt mg) (D_law_pick : DefOk P w K mg base CX0 2 "_law_pick" ["pen", "some"] [] (spPick K)) (D_law_draw : DefOk P w K mg base CX0 1 "_law_draw" ["pen", "many"] [] spDraw) (A0 : At K mg "_law_letters" s__law_letters) : DefOk P w K mg base CX0 3 "_law_letters" ["pen"] [] (spWord K) := by
  refine A0.ok sc__law_letters (fun _ _ F => F.bindsN fun _ _ _ _ _ _ us hl => match us, hl with | [_], _ => rfl) (fun vs H Q E h => ?_) (fun f cdv A out s H vs Q E hr h => ?_)
  · obtain ⟨p, c, n, rfl, _⟩ := h; rfl
  · have nd := sc__law_letters.nd
    refine ⟨_, (pss_cons (ps_set (i := 1) nd rfl (Or.inl rfl) (pe_join pe_str (pe_lc (own := [("lap", 2)]) rfl nd (pi_range1 (by rfl) T.f_range (pa_cons (pe_d D_law_draw (hr.mono (by decide)) pass0 (pa_cons (pv 0) (pa_cons pe_int pa_nil))) pa_nil)) (blkOk_by (N := ["pen", "wordy", "lap", "at_so"]) (sc := defScope s__law_letters) (own := [("lap", 2)]) (by decide +kernel)) (fun _ _ _ _ _ => (pg_name (i := 2) nd rfl (Or.inl rfl))) (fun _ _ _ _ _ => pts_nil) (fun _ _ _ _ _ => (pe_d D_law_pick (hr.mono (by decide)) pass0 (pa_cons (pv 0) (pa_cons (pe_lst (pa_cons pe_str (pa_cons pe_str (pa_cons pe_str (pa_cons pe_str (pa_cons pe_str pa_nil)))))) pa_nil)))))))
          (pss_cons (ps_set (i := 3) nd rfl (Or.inl rfl) (pe_d D_law_draw (hr.mono (by decide)) pass0 (pa_cons (pv 0) (pa_cons (pe_op op_add (pe_callB call_len_str (by rfl) T.f_len (by decide +kernel) (pa_cons (pv 1) pa_nil)) pe_int) pa_nil))))
          (pss_one (ps_ret (pe_op op_add_str (pe_op op_add_str (pe_slice sl_str (pv 1) po_none (po_some (pv 3))) (pe_d D_law_pick (hr.mono (by decide)) pass0 (pa_cons (pv 0) (pa_cons (pe_lst (pa_cons pe_str (pa_cons pe_str (pa_cons pe_str (pa_cons pe_str (pa_cons pe_str (pa_cons pe_str (pa_cons pe_str (pa_cons pe_str (pa_cons pe_str (pa_cons pe_str pa_nil))))))))))) pa_nil)))) (pe_slice sl_str (pv 1) (po_some (pv 3)) po_none)))))), ?_⟩
    obtain ⟨p, c, n, rfl, pn, hn, k⟩ := h
    refine ⟨⟨_, rfl⟩, _, rfl, p, c, n, 10, rfl, pn, by omega, by decide, by decide, fun m H1 m0 m1 P1 B1 => ⟨m, rfl, by omega, by omega, fun D hD => ?_⟩⟩
    have hDp : D ≠ p := fun z => by
      obtain ⟨_, _, _, x1, _⟩ := P1.ex
      rw [z, x1] at hD
      cases hD
    refine lc_range (lo := 0) (n := m.toNat) (fun i H2 => ∃ ys : List Str, H2 D = some (.lst (ys.map V.str)) ∧ ys.length = i ∧ (∀ y ∈ ys, y.length ≤ 1 ∧ Asc y) ∧ Pen H2 p c (n + 1 + i) ∧ But p H1 H2)
      ⟨[], upd_same, rfl, (fun _ z => nomatch z), P1.new hD, (But.refl _ _).new hD⟩ ?_ ?_
    · rintro i H2 hi ⟨ys, d1, d2, d3, P2, B2⟩
      refine ⟨rfl, yes_go ?_⟩
      refine ⟨_, rfl, by show 5 ≤ sizeLine; decide, fun l hl => ?_⟩
      refine ⟨p, c, l, n + 1 + i, _, rfl, P2.new hl, by omega, SqL.of upd_same, fun z => ?_, by simp, by show 5 < 1000000; decide, fun j x H' hx P' B' => ?_⟩
      · obtain ⟨_, _, _, x1, _⟩ := P2.ex
        rw [z, x1] at hl
        cases hl
      obtain ⟨z, rfl, zm, hz⟩ := str_of_menu (zs := ["a", "e", "k", "q", "z"]) (m := 1) (by decide +kernel) hx
      have za : Asc z := (show ∀ z ∈ (["a", "e", "k", "q", "z"] : List Str), ∀ c ∈ z.cps.toList, c < 128 by decide +kernel) z zm
      have d4 : H' D = some (.lst (ys.map V.str)) := B' D _ (by rw [upd_ne (ne_of_none d1 hl)]; exact d1) hDp
      have d5 : But p H1 H' := (B2.new hl).trans B'
      refine ⟨_, d4, ?_, ys ++ [z], ?_, by simp [d2], ?_, ?_, ?_⟩
      · rw [List.length_map]
        exact Nat.lt_of_lt_of_le (show ys.length < 1000 by omega) (by decide)
      · rw [upd_same, List.map_append]
        rfl
      · intro y hy
        rcases List.mem_append.mp hy with hy | hy
        · exact d3 y hy
        · rw [List.mem_singleton.mp hy]
          exact ⟨hz, za⟩
      · obtain ⟨ns, sp, gr, x1, x2, x3⟩ := P'.ex
        refine Pen.mono (n := n + 1 + i + 1) ⟨ns, sp, gr, ?_, ?_, x3⟩ (by omega)
        · rw [upd_ne (Ne.symm hDp)]
          exact x1
        · rw [upd_ne (fun z => ?_)]
          · exact x2
          · obtain ⟨_, _, _, _, w2, _⟩ := P1.ex
            rw [← z, w2] at hD
            cases hD
      · exact d5.mut hD
    rintro H2 ⟨ys, d1, d2, d3, P2, B2⟩
    have hsum : (ys.map (·.length)).sum ≤ ys.length := by
      clear d1 d2
      induction ys with
      | nil => simp
      | cons y ys ih =>
        have h1 := (d3 y (by simp)).1
        have h2 := ih fun z hz => d3 z (by simp [hz])
        simp
        omega
    refine ⟨"", D, ys, rfl, rfl, .inl (SqL.of d1), ?_, ?_⟩
    · show (ys.map (·.length)).sum + ys.length * ("" : Str).length ≤ 16777216
      have e0 : ("" : Str).length = 0 := by decide +kernel
      rw [e0]
      omega
    have hj : (Txt.join "" ys).length ≤ 10 := by
      rw [TL.join_eq, TL.len_tl, TL.tl_join]
      have ee : TL.tl ("" : Str) = [] := by decide +kernel
      rw [ee]
      have gen : ∀ zs : List Str, (TL.joinL [] (zs.map TL.tl)).length = (zs.map (·.length)).sum := by
        intro zs
        induction zs with
        | nil => rfl
        | cons y zs ih =>
          cases zs with
          | nil => simp [TL.joinL, TL.len_tl]
          | cons y2 zs =>
            simp only [List.map_cons, TL.joinL, List.length_append, List.sum_cons, List.length_nil] at ih ⊢
            rw [ih, ← TL.len_tl]
            omega
      rw [gen]
      omega
    have wa : Asc (Txt.join "" ys) := asc_join fun y hy => (d3 y hy).2
    generalize Txt.join "" ys = wd at hj wa
    refine ⟨_, rfl, _, rfl, wd, rfl, Nat.le_trans hj (by decide), _, _, rfl, rfl, p, c, n + 20, (wd.length : Int) + 1, rfl, P2.mono (by omega), by omega, by omega, by omega, fun a H3 a0 a1 P3 B3 => ?_⟩
    refine ⟨_, rfl, _, rfl, _, rfl, wd, rfl, Nat.le_trans hj (by decide), _, rfl, by show 10 ≤ sizeLine; decide, fun l hl => ?_⟩
    refine ⟨p, c, l, n + 21, _, rfl, P3.new hl, by omega, SqL.of upd_same, fun z => ?_, by simp, by show 10 < 1000000; decide, fun j x H' hx P' B' => ?_⟩
    · obtain ⟨_, _, _, x1, _⟩ := P3.ex
      rw [z, x1] at hl
      cases hl
    obtain ⟨z, rfl, zm, hz⟩ := str_of_menu (zs := ["", "", "", "A", "1", " ", "-", "_", "~", "\n"]) (m := 1) (by decide +kernel) hx
    have za : Asc z := (show ∀ z ∈ (["", "", "", "A", "1", " ", "-", "_", "~", "\n"] : List Str), ∀ c ∈ z.cps.toList, c < 128 by decide +kernel) z zm
    have c1 := cutS_length wd none (some a)
    have c2 := cutS_length wd (some a) none
    have l1 : (cutS wd none (some a) ++ z).length = (cutS wd none (some a)).length + z.length := Str.length_append _ _
    have l2 : ((cutS wd none (some a) ++ z) ++ cutS wd (some a) none).length = (cutS wd none (some a) ++ z).length + (cutS wd (some a) none).length := Str.length_append _ _
    refine ⟨_, _, rfl, rfl, Nat.le_trans (show _ ≤ 11 by omega) (by decide), _, rfl, _, rfl, _, rfl, wd, rfl, Nat.le_trans hj (by decide), _, _, rfl, rfl, Nat.le_trans (show _ ≤ 31 by omega) (by decide), ?_⟩
    exact k _ H' (by omega) (asc_app (asc_app (asc_cut wa _ _) za) (asc_cut wa _ _)) (P'.mono (by omega)) ((B1.trans B2).trans ((B3.new hl).trans B'))
theorem sc__law_figures : FnScope ["pen", "wordy", "at_so"] ["pen"] (defScope s__law_figures) := ⟨rfl, rfl, rfl, by decide +kernel, rfl, by decide +kernel, by decide +kernel⟩
theorem d__law_figures (T : Txt mg) (D_law_pick : DefOk P w K mg base CX0 2 "_law_pick" ["pen", "some"] [] (spPick K)) (D_law_draw : DefOk P w K mg base CX0 1 "_law_draw" ["pen", "many"] [] spDraw) (A0 : At K mg "_law_figures" s__law_figures) : DefOk P w K mg base CX0 3 "_law_figures" ["pen"] [] (spWord K) := by
  refine A0.ok sc__law_figures (fun _ _ F => F.bindsN fun _ _ _ _ _ _ us hl => match us, hl with | [_], _ => rfl) (fun vs H Q E h => ?_) (fun f cdv A out s H vs Q E hr h => ?_)
  · obtain ⟨p, c, n, rfl, _⟩ := h; rfl
  · have nd := sc__law_figures.nd
    refine ⟨_, (pss_cons (ps_set (i := 1) nd rfl (Or.inl rfl) (pe_callTy call_str_int (by rfl) T.f_str (by decide +kernel) (pa_cons (pe_d D_law_pick (hr.mono (by decide)) pass0 (pa_cons (pv 0) (pa_cons (pe_lst (pa_cons pe_int (pa_cons pe_int (pa_cons (pe_un un_neg pe_int) (pa_cons pe_int (pa_cons pe_int (pa_cons (pe_op op_pow pe_int pe_int) (pa_cons (pe_un un_neg (pe_op op_pow pe_int pe_int)) (pa_cons (pe_d D_law_draw (hr.mono (by decide)) pass0 (pa_cons (pv 0) (pa_cons pe_int pa_nil))) pa_nil))))))))) pa_nil))) pa_nil)))
          (pss_cons (ps_set (i := 2) nd rfl (Or.inl rfl) (pe_d D_law_draw (hr.mono (by decide)) pass0 (pa_cons (pv 0) (pa_cons (pe_op op_add (pe_callB call_len_str (by rfl) T.f_len (by decide +kernel) (pa_cons (pv 1) pa_nil)) pe_int) pa_nil))))
          (pss_one (ps_ret (pe_op op_add_str (pe_op op_add_str (pe_slice sl_str (pv 1) po_none (po_some (pv 2))) (pe_d D_law_pick (hr.mono (by decide)) pass0 (pa_cons (pv 0) (pa_cons (pe_lst (pa_cons pe_str (pa_cons pe_str (pa_cons pe_str (pa_cons pe_str (pa_cons pe_str (pa_cons pe_str (pa_cons pe_str (pa_cons pe_str (pa_cons pe_str (pa_cons pe_str (pa_cons pe_str pa_nil)))))))))))) pa_nil)))) (pe_slice sl_str (pv 1) (po_some (pv 2)) po_none)))))), ?_⟩
    obtain ⟨p, c, n, rfl, pn, hn, k⟩ := h
    refine ⟨_, rfl, _, rfl, _, _, rfl, rfl, ⟨by decide, by decide, by decide⟩, _, _, rfl, rfl, ⟨by decide, by decide, by decide⟩, _, rfl, _, rfl, p, c, n, 5000, rfl, pn, by omega, by decide, by decide, fun m H1 m0 m1 P1 B1 => ?_⟩
    refine ⟨by show 8 ≤ sizeLine; decide, fun l hl => ?_⟩
    refine ⟨p, c, l, n + 1, _, rfl, P1.new hl, by omega, SqL.of upd_same, fun z => ?_, by simp, by show 8 < 1000000; decide, fun j x H2 hx P2 B2 => ?_⟩
    · obtain ⟨_, _, _, x1, _⟩ := P1.ex
      rw [z, x1] at hl
      cases hl
    obtain ⟨i, rfl, _, hi⟩ := int_of_menu (zs := [0, 7, -7, 10, 999, 10 ^ (29 : Int).toNat, -(10 ^ (29 : Int).toNat), m]) (p := fun i => i.natAbs < 2 ^ 100) (by
      intro z hz
      simp only [List.mem_cons, List.not_mem_nil, or_false] at hz
      rcases hz with rfl | rfl | rfl | rfl | rfl | rfl | rfl | rfl
      all_goals first | decide +kernel | omega) hx
    have hlog := log2_lt (by decide) hi
    have hlen : (Str.ofString (toString i)).length ≤ 101 := by
      rw [PySem.ofString_length]
      exact int_text_length_le (by decide) hlog
    refine ⟨_, rfl, by omega, ?_⟩
    show tSeq _ _ _ [some (.ref p), some (.str (Str.ofString (toString i))), none] H2
    have wa := asc_int i
    generalize Str.ofString (toString i) = wd at hlen wa ⊢
    refine ⟨_, rfl, _, rfl, wd, rfl, Nat.le_trans hlen (by decide), _, _, rfl, rfl, p, c, n + 2, (wd.length : Int) + 1, rfl, P2.mono (by omega), by omega, by omega, by omega, fun a H3 a0 a1 P3 B3 => ?_⟩
    refine ⟨_, rfl, _, rfl, _, rfl, wd, rfl, Nat.le_trans hlen (by decide), _, rfl, by show 11 ≤ sizeLine; decide, fun l2 hl2 => ?_⟩
    refine ⟨p, c, l2, n + 3, _, rfl, P3.new hl2, by omega, SqL.of upd_same, fun z => ?_, by simp, by show 11 < 1000000; decide, fun j x H' hx P' B' => ?_⟩
    · obtain ⟨_, _, _, x1, _⟩ := P3.ex
      rw [z, x1] at hl2
      cases hl2
    obtain ⟨z, rfl, zm, hz⟩ := str_of_menu (zs := ["", "", "", "0", "-", "+", " ", ".", "/", "a", "_"]) (m := 1) (by decide +kernel) hx
    have za : Asc z := (show ∀ z ∈ (["", "", "", "0", "-", "+", " ", ".", "/", "a", "_"] : List Str), ∀ c ∈ z.cps.toList, c < 128 by decide +kernel) z zm
    have c1 := cutS_length wd none (some a)
    have c2 := cutS_length wd (some a) none
    have l1 : (cutS wd none (some a) ++ z).length = (cutS wd none (some a)).length + z.length := Str.length_append _ _
    have l2e : ((cutS wd none (some a) ++ z) ++ cutS wd (some a) none).length = (cutS wd none (some a) ++ z).length + (cutS wd (some a) none).length := Str.length_append _ _
    refine ⟨_, _, rfl, rfl, Nat.le_trans (show _ ≤ 110 by omega) (by decide), _, rfl, _, rfl, _, rfl, wd, rfl, Nat.le_trans hlen (by decide), _, _, rfl, rfl, Nat.le_trans (show _ ≤ 310 by omega) (by decide), ?_⟩
    exact k _ H' (by omega) (asc_app (asc_app (asc_cut wa _ _) za) (asc_cut wa _ _)) (P'.mono (by omega)) ((B1.new hl).trans (B2.trans ((B3.new hl2).trans B')))
theorem sc__law_is_plain : FnScope ["thing"] ["thing"] (defScope s__law_is_plain) := ⟨rfl, rfl, rfl, by decide +kernel, rfl, by decide +kernel, by decide +kernel⟩
theorem d__law_is_plain (T : Txt mg) (A0 : At K mg "_law_is_plain" s__law_is_plain) : DefOk P w K mg base CX0 1 "_law_is_plain" ["thing"] [] (spIsInt K) := by
  refine A0.ok sc__law_is_plain (fun _ _ F => F.bindsN fun _ _ _ _ _ _ us hl => match us, hl with | [_], _ => rfl) (fun vs H Q E h => ?_) (fun f cdv A out s H vs Q E hr h => ?_)
  · obtain ⟨v, rfl, _⟩ := h; rfl
  · have nd := sc__law_is_plain.nd
    refine ⟨_, (pss_one (ps_ret (pe_and (pe_callB call_isi (by rfl) T.f_isinstance (by decide +kernel) (pa_cons (pv 0) (pa_cons (pe_bltn (v := .ty "int") (by rfl) T.f_int (by decide +kernel) rfl) pa_nil))) (pe_one (pe_not (pe_callB call_isi (by rfl) T.f_isinstance (by decide +kernel) (pa_cons (pv 0) (pa_cons (pe_bltn (v := .ty "bool") (by rfl) T.f_bool (by decide +kernel) rfl) pa_nil)))))))), ?_⟩
    obtain ⟨v, rfl, hv, k⟩ := h
    obtain ⟨t, ty, kt⟩ := odd_int hv
    obtain ⟨t2, ty2, kt2⟩ := odd_bool hv
    refine ⟨_, rfl, _, _, t, _, _, rfl, .ty _, ty, kt, _, rfl, ?_⟩
    unfold vPlain at k
    cases hi : vInt v with
    | true =>
      rw [hi] at k
      exact iteT ⟨_, rfl, _, _, t2, _, _, rfl, .ty _, ty2, kt2, _, rfl, k⟩
    | false =>
      rw [hi] at k
      exact iteF k
theorem sc__law_written : FnScope ["wordy", "plain", "sign"] ["wordy"] (defScope s__law_written) := ⟨rfl, rfl, rfl, by decide +kernel, rfl, by decide +kernel, by decide +kernel⟩
theorem d__law_written (T : Txt mg) (ND : NoDig base) (A0 : At K mg "_law_written" s__law_written) : DefOk P w K mg base CX0 1 "_law_written" ["wordy"] [] spWrit := by
  refine A0.ok sc__law_written (fun _ _ F => F.bindsN fun _ _ _ _ _ _ us hl => match us, hl with | [_], _ => rfl) (fun vs H Q E h => ?_) (fun f cdv A out s H vs Q E hr h => ?_)
  · obtain ⟨z, rfl, _⟩ := h; rfl
  · have nd := sc__law_written.nd
    refine ⟨_, (pss_cut (ps_set (i := 1) nd rfl (Or.inl rfl) (pe_ifExp (pt_cmpR op_eq (pe_slice sl_str (pv 0) po_none (po_some pe_int)) pe_str (nomark _)) (pe_slice sl_str (pv 0) (po_some pe_int) po_none) (pv 0)))
          (pss_cons (ps_if (PW.pt (pw_or (pt_cmpR op_eq (pv 1) pe_str (nomark _)) (pw_or1 (pt_cmpR (op_neD hr.units) (pe_lc (own := [("sign", 2)]) rfl nd (pi_str (pv 1)) (blkOk_by (N := ["wordy", "plain", "sign"]) (sc := defScope s__law_written) (own := [("sign", 2)]) (by decide +kernel)) (fun _ _ _ _ _ => (pg_name (i := 2) nd rfl (Or.inl rfl))) (fun _ _ _ _ _ => (pts_one (pt_cmpR op_notIn_sign (pv 2) pe_str (by rfl)))) (fun _ _ _ _ _ => (pv 2))) (pe_lst pa_nil) (nomark _))))) (pss_one (ps_ret pe_non)) pss_nil)
          (pss_one (ps_ret (pe_ifExp (pt_cmpR op_eq (pe_callTy call_str_int (by rfl) T.f_str (by decide +kernel) (pa_cons (pe_callTy (call_int_str' ND) (by rfl) T.f_int (by decide +kernel) (pa_cons (pv 0) pa_nil)) pa_nil)) (pv 0) (nomark _)) (pe_callTy (call_int_str' ND) (by rfl) T.f_int (by decide +kernel) (pa_cons (pv 0) pa_nil)) pe_non))))), ?_⟩
    obtain ⟨z, rfl, hl, ha, k⟩ := h
    have hz : z.length ≤ sizeLine := Nat.le_trans hl (by decide)
    have hz2 : (dec z.cps.toList).length ≤ sizeLine := Nat.le_trans (dec_len _) (by rw [← len_tl]; exact hz)
    refine ⟨fun σ H2 => σ = [some (.str z), some (.str (SX.S (dec z.cps.toList))), none] ∧ H2 = H, ?_, ?_⟩
    · refine ⟨_, rfl, _, rfl, z, rfl, hz, rfl, _, rfl, ?_⟩
      rw [dash_test]
      by_cases hn : z.cps.toList.take 1 = [45]
      · rw [decide_eq_true hn]
        refine iteT ⟨_, rfl, _, rfl, z, rfl, hz, ?_⟩
        rw [cut_from1, ← dec_pos hn]
        exact ⟨rfl, rfl⟩
      · rw [decide_eq_false hn]
        refine iteF ⟨_, rfl, ?_⟩
        rw [dec_neg hn, SX.S_tl]
        exact ⟨rfl, rfl⟩
    rintro σ H2 ⟨rfl, rfl⟩
    refine ⟨_, rfl, rfl, _, rfl, ?_⟩
    rw [iff_str, show ("" : Str).cps.toList = [] by decide +kernel]
    by_cases h0 : dec z.cps.toList = []
    · rw [decide_eq_true (show (SX.S (dec z.cps.toList)).cps.toList = [] from h0)]
      have e : writV z = .non := if_neg fun q => q.2.1 h0
      exact iteT (iteT (e ▸ k _ (Ext.refl _)))
    rw [decide_eq_false (show ¬ (SX.S (dec z.cps.toList)).cps.toList = [] from h0)]
    refine iteF ?_
    have ez : (SX.S (dec z.cps.toList)).length = (dec z.cps.toList).length := SX.S_len _
    refine ⟨_, rfl, _, rfl, fun D hD => lc_txt (fun c => !isFig c) (fun c => .str ⟨#[c]⟩) (fun c H Q _ q => ⟨_, rfl, c, _, rfl, rfl, _, rfl, q⟩) (fun c H Q _ _ q => ⟨_, rfl, q⟩) (by rw [ez]; exact hz2) ?_⟩
    refine ⟨by decide, ?_⟩
    have e1 := ext_new (o := .lst (((SX.S (dec z.cps.toList)).cps.toList.filter fun c => !isFig c).map fun c => V.str ⟨#[c]⟩)) hD
    have q1 := @upd_same H2 D (.lst (((SX.S (dec z.cps.toList)).cps.toList.filter fun c => !isFig c).map fun c => V.str ⟨#[c]⟩))
    generalize upd H2 D (.lst (((SX.S (dec z.cps.toList)).cps.toList.filter fun c => !isFig c).map fun c => V.str ⟨#[c]⟩)) = H3 at e1 q1 ⊢
    intro l hlv
    have e2 := e1.new (o := .lst []) hlv
    have q2 : upd H3 l (.lst []) D = _ := ext_new hlv D _ q1
    have hsub : ∀ c ∈ (SX.S (dec z.cps.toList)).cps.toList.filter (fun c => !isFig c), c < 128 := fun c hc => by
      have hc2 : c ∈ dec z.cps.toList := (List.mem_filter.mp hc).1
      unfold dec at hc2
      split at hc2
      · exact ha c (List.mem_of_mem_drop hc2)
      · exact ha c hc2
    refine ⟨_, _, .lst (SqL.of q2) (dp_signs _), .lst (SqL.of upd_same) .nil, shaped_signs hsub, by decide +kernel, _, rfl, ?_⟩
    rw [eqv_signs_nil]
    have ef : ((SX.S (dec z.cps.toList)).cps.toList.filter fun c => !isFig c).isEmpty = (dec z.cps.toList).all isFig := by
      show ((dec z.cps.toList).filter fun c => !isFig c).isEmpty = _
      generalize dec z.cps.toList = a
      induction a with
      | nil => rfl
      | cons x xs ih =>
        cases hx : isFig x <;> simp [hx, ih]
    rw [ef]
    cases hd : (dec z.cps.toList).all isFig with
    | false =>
      have e : writV z = .non := if_neg fun q => by rw [hd] at q; exact absurd q.1 (by decide)
      exact iteT (e ▸ k _ e2)
    | true =>
      refine iteF ?_
      have hw := int_word hd h0 (Nat.le_trans hl (by decide))
      have hv : (valI z.cps.toList).natAbs < 2 ^ 1900 := by
        have hd2 := all_dig hd
        have b1 : NumText.digitsVal (dec z.cps.toList) < 10 ^ (dec z.cps.toList).length := dv_lt hd2
        have b2 : (dec z.cps.toList).length ≤ 300 := Nat.le_trans (dec_len _) (by rw [← len_tl]; exact hl)
        have b3 : 10 ^ (dec z.cps.toList).length ≤ 10 ^ 300 := Nat.pow_le_pow_right (by decide) b2
        have b4 : (10 : Nat) ^ 300 < 2 ^ 1900 := by decide +kernel
        have b5 : (valI z.cps.toList).natAbs = NumText.digitsVal (dec z.cps.toList) := by
          unfold valI dec
          split <;> simp
        omega
      have hlog := log2_lt (k := 1900) (by decide) hv
      refine ⟨_, rfl, z, _, rfl, hw, Nat.le_trans hl (by decide), _, rfl, by omega, _, rfl, rfl, _, rfl, ?_⟩
      rw [iff_str, tl_int]
      by_cases hc : codesI (valI z.cps.toList) = z.cps.toList
      · rw [decide_eq_true hc]
        have e : writV z = .int (valI z.cps.toList) := if_pos ⟨hd, h0, hc⟩
        exact iteT ⟨_, rfl, z, _, rfl, hw, Nat.le_trans hl (by decide), e ▸ k _ e2⟩
      · rw [decide_eq_false hc]
        have e : writV z = .non := if_neg fun q => hc q.2.2
        exact iteF (e ▸ k _ e2)

end
end K02

set_option maxRecDepth 100000
set_option maxHeartbeats 4000000
namespace K02
open PySem PySem.Spec PyProof.Rows L2 Gs
open C8 (tCut pss_cut)
set_option exponentiation.threshold 3000
theorem within_plain {v : V} {lo hi : Int} (h : vPlain v = true) : ∃ i, v = .int i ∧ withinV v lo hi = decide (lo ≤ i ∧ i ≤ hi) := by
  cases v with
  | int i => exact ⟨i, rfl, rfl⟩
  | _ => cases h
/-- the program's word and the law's -/
def clip (v : V) (lo hi : Int) : V := match v with
  | .int i => if lo ≤ i ∧ i ≤ hi then .int i else .non
  | _ => .non
theorem clip_non (lo hi : Int) : clip .non lo hi = .non := rfl
theorem clip_int (i lo hi : Int) : clip (.int i) lo hi = if lo ≤ i ∧ i ≤ hi then .int i else .non := rfl
theorem word_same {z : Str} (hz : z.length ≤ 300) (lo hi : Int) : numV (.str z) lo hi = clip (writV z) lo hi := by
  have e1 : numV (.str z) lo hi = if figs z.cps.toList = true then (if lo ≤ valI z.cps.toList ∧ valI z.cps.toList ≤ hi then .int (valI z.cps.toList) else .non) else .non := rfl
  rw [e1]
  have l1 : (dec z.cps.toList).length ≤ 300 := Nat.le_trans (dec_len _) (by rw [← len_tl]; exact hz)
  by_cases hd : (dec z.cps.toList).all isFig = true
  · by_cases h0 : dec z.cps.toList = []
    · have f : ¬ figs z.cps.toList = true := by
        unfold figs
        rw [h0]
        simp
      have w : writV z = .non := if_neg fun q => q.2.1 h0
      rw [if_neg f, w, clip_non]
    · have hb := codes_back hd h0
      have l2 : 1 ≤ (dec z.cps.toList).length := List.length_pos_iff.mpr h0
      by_cases hc : codesI (valI z.cps.toList) = z.cps.toList
      · have f : figs z.cps.toList = true := by
          unfold figs
          rw [hd, decide_eq_true (⟨l2, by omega⟩ : 1 ≤ (dec z.cps.toList).length ∧ (dec z.cps.toList).length ≤ 4000)]
          rcases hb.mp hc with q | q
          · rw [decide_eq_true q]
            rfl
          · rw [decide_eq_true q]
            simp
        have w : writV z = .int (valI z.cps.toList) := if_pos ⟨hd, h0, hc⟩
        rw [if_pos f, w, clip_int]
      · have f : ¬ figs z.cps.toList = true := by
          unfold figs
          intro q
          simp only [Bool.and_eq_true, Bool.or_eq_true, decide_eq_true_eq] at q
          exact hc (hb.mpr q.2)
        have w : writV z = .non := if_neg fun q => hc q.2.2
        rw [if_neg f, w, clip_non]
  · have f : ¬ figs z.cps.toList = true := by
      unfold figs
      intro q
      simp only [Bool.and_eq_true] at q
      exact hd q.1.2
    have w : writV z = .non := if_neg fun q => hd q.1
    rw [if_neg f, w, clip_non]
theorem valI_small {z : Str} (hl : z.length ≤ 300) (hd : (dec z.cps.toList).all isFig = true) : (valI z.cps.toList).natAbs < 2 ^ 1000 := by
  have b1 : NumText.digitsVal (dec z.cps.toList) < 10 ^ (dec z.cps.toList).length := dv_lt (all_dig hd)
  have b2 : (dec z.cps.toList).length ≤ 300 := Nat.le_trans (dec_len _) (by rw [← len_tl]; exact hl)
  have b3 : 10 ^ (dec z.cps.toList).length ≤ 10 ^ 300 := Nat.pow_le_pow_right (by decide) b2
  have b4 : (10 : Nat) ^ 300 < 2 ^ 1000 := by decide +kernel
  have b5 : (valI z.cps.toList).natAbs = NumText.digitsVal (dec z.cps.toList) := by
    unfold valI dec
    split <;> simp
  omega
/-- None or an int of bounded size, as data -/
def datum : V → PyData
  | .int i => .int i
  | .bl b => .bool b
  | _ => .none
theorem writ_datum (z : Str) : writV z = .non ∨ ((dec z.cps.toList).all isFig = true ∧ writV z = .int (valI z.cps.toList)) := by
  unfold writV
  split
  · rename_i h
    exact .inr ⟨h.1, rfl⟩
  · exact .inl rfl
theorem num_datum {z : Str} (hl : z.length ≤ 300) (lo hi : Int) : (∀ K H, Dp K H (numV (.str z) lo hi) (datum (numV (.str z) lo hi))) ∧ (datum (numV (.str z) lo hi)).showable = true ∧ (datum (numV (.str z) lo hi)).leavesShort 2000 = true ∧
    (datum (numV (.str z) lo hi)).weight ≤ 1000 ∧ (datum (numV (.str z) lo hi)).depth = 0 := by
  rw [word_same hl]
  rcases writ_datum z with e | ⟨hd, e⟩
  · rw [e, clip_non]
    exact ⟨fun _ _ => .non, rfl, rfl, Nat.zero_le _, rfl⟩
  · rw [e, clip_int]
    obtain ⟨h1, h2, h3⟩ := int_leaf (valI_small hl hd)
    by_cases hc : lo ≤ valI z.cps.toList ∧ valI z.cps.toList ≤ hi
    · simp only [if_pos hc]
      exact ⟨fun _ _ => .int _, h1, h2, h3, rfl⟩
    · simp only [if_neg hc]
      exact ⟨fun _ _ => .non, rfl, rfl, Nat.zero_le _, rfl⟩
section
variable {P : Program} {w : World} {K : PySem.W.Frag} {mg : Str → Option Value} {base : Heap}
theorem sc__law_right : FnScope ["thing", "low", "high", "told_so", "due"] ["thing", "low", "high"] (defScope s__law_right) := ⟨rfl, rfl, rfl, by decide +kernel, rfl, by decide +kernel, by decide +kernel⟩
theorem d__law_right (T : Txt mg) (Dis_integer : DefOk P w K mg base CX0 1 "is_integer" ["value"] [] (spIsInt K)) (Dis_within : DefOk P w K mg base CX0 2 "is_within" ["value", "least", "most"] [] (spWithin K)) (D_law_is_plain : DefOk P w K mg base CX0 1 "_law_is_plain" ["thing"] [] (spIsInt K)) (A0 : At K mg "_law_right" s__law_right) : DefG P w K mg base CX0 3 "_law_right" ["thing", "low", "high"] [] (spRight K) := by
  refine A0.okG sc__law_right (fun _ _ F => F.bindsN fun _ _ _ _ _ _ us hl => match us, hl with | [_, _, _], _ => rfl) (fun vs H Q E h => ?_) (fun f cdv A out s H vs Q E hG hr h => ?_)
  · obtain ⟨v, lo, hi, p, rfl, _⟩ := h; rfl
  · have nd := sc__law_right.nd
    refine ⟨_, (pss_cons (ps_set (i := 3) nd rfl (Or.inl rfl) (pe_lst (pa_cons (pe_d Dis_integer (hr.mono (by decide)) pass0 (pa_cons (pv 0) pa_nil)) (pa_cons (pe_d Dis_within (hr.mono (by decide)) pass0 (pa_cons (pv 0) (pa_cons (pv 1) (pa_cons (pv 2) pa_nil)))) pa_nil))))
          (pss_cut (ps_set (i := 4) nd rfl (Or.inl rfl) (pe_lst (pa_cons (pe_d D_law_is_plain (hr.mono (by decide)) pass0 (pa_cons (pv 0) pa_nil)) (pa_cons (pe_and (pe_d D_law_is_plain (hr.mono (by decide)) pass0 (pa_cons (pv 0) pa_nil)) (pe_one (pe_chain op_le op_le (pv 1) (pv 0) (pv 2)))) pa_nil))))
          (pss_one (ps_ret (pe_cmpR op_eq (pe_callB (call_repr hG hr.units) (by rfl) T.f_repr (by decide +kernel) (pa_cons (pv 3) pa_nil)) (pe_callB (call_repr hG hr.units) (by rfl) T.f_repr (by decide +kernel) (pa_cons (pv 4) pa_nil)) (nomark _)))))), ?_⟩
    obtain ⟨v, lo, hi, p, rfl, hv, k⟩ := h
    refine ⟨_, rfl, v, rfl, hv.now, _, rfl, _, rfl, _, rfl, v, lo, hi, rfl, hv.now, by show 2 ≤ sizeLine; decide, ?_⟩
    intro t ht
    have e1 := ext_new (o := .lst [.bl (vPlain v), .bl (withinV v lo hi)]) ht
    have q1 := @upd_same H t (.lst [.bl (vPlain v), .bl (withinV v lo hi)])
    generalize upd H t (.lst [.bl (vPlain v), .bl (withinV v lo hi)]) = H1 at e1 q1 ⊢
    have hv1 : OddP K p H1 v := hv.mono e1.but
    refine ⟨fun σ H2 => ∃ d, σ = [some v, some (.int lo), some (.int hi), some (.ref t), some (.ref d)] ∧ H2 d = some (.lst [.bl (vPlain v), .bl (withinV v lo hi)]) ∧ Ext H1 H2, ?_, ?_⟩
    · refine ⟨_, rfl, v, rfl, hv1.now, _, rfl, v, rfl, hv1.now, _, rfl, ?_⟩
      cases hp : vPlain v with
      | false =>
        have e : withinV v lo hi = false := by
          unfold withinV
          rw [hp]
          rfl
        refine iteF ⟨by decide, fun d hd => ⟨d, rfl, ?_, ext_new hd⟩⟩
        rw [e]
        exact upd_same
      | true =>
        obtain ⟨i, rfl, e⟩ := within_plain (lo := lo) (hi := hi) hp
        refine iteT (ch_le (pu_var rfl) (pu_var rfl) (pu_var rfl) ⟨by show 2 ≤ sizeLine; decide, fun d hd => ⟨d, rfl, ?_, ext_new hd⟩⟩)
        rw [e]
        exact upd_same
    rintro σ H2 ⟨d, rfl, q2, e2⟩
    have hs : small (.list [.bool (vPlain v), .bool (withinV v lo hi)]) = true := by
      cases vPlain v <;> cases withinV v lo hi <;> decide +kernel
    obtain ⟨s1, s2, s3⟩ := small_len hs
    refine ⟨_, rfl, _, _, rfl, .lst (SqL.of (e2 t _ q1)) (.cons (.bl _) (.cons (.bl _) .nil)), s1, s2, s3, _, rfl, _, _, rfl, .lst (SqL.of q2) (.cons (.bl _) (.cons (.bl _) .nil)), s1, s2, s3, scal_str _ _, ?_⟩
    rw [decide_eq_true rfl]
    exact k _ (e1.trans e2)
theorem sc__law_word_right : FnScope ["wordy", "low", "high", "found", "strange", "sign", "told_so", "inside"] ["wordy", "low", "high"] (defScope s__law_word_right) := ⟨rfl, rfl, rfl, by decide +kernel, rfl, by decide +kernel, by decide +kernel⟩
theorem d__law_word_right (T : Txt mg) (Dis_name : DefOk P w K mg base CX0 1 "is_name" ["value"] [] (spName K)) (Dnumber_of : DefOk P w K mg base CX0 2 "number_of" ["word", "least", "most"] [] (spNum K)) (Dis_integer : DefOk P w K mg base CX0 1 "is_integer" ["value"] [] (spIsInt K)) (D_law_written : DefOk P w K mg base CX0 1 "_law_written" ["wordy"] [] spWrit) (A0 : At K mg "_law_word_right" s__law_word_right) : DefG P w K mg base CX0 3 "_law_word_right" ["wordy", "low", "high"] [] spWordRight := by
  refine A0.okG sc__law_word_right (fun _ _ F => F.bindsN fun _ _ _ _ _ _ us hl => match us, hl with | [_, _, _], _ => rfl) (fun vs H Q E h => ?_) (fun f cdv A out s H vs Q E hG hr h => ?_)
  · obtain ⟨z, lo, hi, rfl, _⟩ := h; rfl
  · have nd := sc__law_word_right.nd
    refine ⟨_, (pss_cons (ps_set (i := 3) nd rfl (Or.inl rfl) (pe_d D_law_written (hr.mono (by decide)) pass0 (pa_cons (pv 0) pa_nil)))
          (pss_cons (ps_setLc (i := 4) (own := [("sign", 5)]) rfl nd rfl rfl (sw_true rfl rfl rfl (by decide +kernel)) (pi_str (pv 0)) (blkOk_by (N := ["wordy", "low", "high", "found", "strange", "sign", "told_so", "inside"]) (sc := defScope s__law_word_right) (own := [("sign", 5)]) (by decide +kernel)) (fun _ _ _ _ _ => (pg_name (i := 5) nd rfl (Or.inl rfl))) (fun _ _ _ _ _ => (pts_one (pt_cmpR op_notIn_sign (pv 5) pe_str (by rfl)))) (fun _ _ _ _ _ => (pv 5)))
          (pss_cons (ps_set (i := 6) nd rfl (Or.inl rfl) (pe_lst (pa_cons (pe_d Dis_name (hr.mono (by decide)) pass0 (pa_cons (pv 0) pa_nil)) (pa_cons (pe_d Dnumber_of (hr.mono (by decide)) pass0 (pa_cons (pv 0) (pa_cons (pv 1) (pa_cons (pv 2) pa_nil)))) (pa_cons (pe_d Dis_integer (hr.mono (by decide)) pass0 (pa_cons (pv 0) pa_nil)) pa_nil)))))
          (pss_cut (ps_set (i := 7) nd rfl (Or.inl rfl) (pe_ifExp (PW.pt (pw_and (pt_cmpR op_notN (pv 3) pe_non (nomark _)) (pw_and1 (pt_chain op_le op_le (pv 1) (pv 3) (pv 2))))) (pv 3) pe_non))
          (pss_one (ps_ret (pe_cmpR op_eq (pe_callB (call_repr hG hr.units) (by rfl) T.f_repr (by decide +kernel) (pa_cons (pv 6) pa_nil)) (pe_callB (call_repr hG hr.units) (by rfl) T.f_repr (by decide +kernel) (pa_cons (pe_lst (pa_cons (pe_and (pe_chain op_le op_le pe_int (pe_callB call_len_str (by rfl) T.f_len (by decide +kernel) (pa_cons (pv 0) pa_nil)) pe_int) (pe_one (pe_cmpR (op_eqD hr.units) (pv 4) (pe_lst pa_nil) (nomark _)))) (pa_cons (pv 7) (pa_cons pe_bl pa_nil)))) pa_nil)) (nomark _)))))))), ?_⟩
    obtain ⟨z, lo, hi, rfl, hl, ha, k⟩ := h
    have hz : z.length ≤ sizeLine := Nat.le_trans hl (by decide)
    have hsh : Short (.str z) := fun y e => by cases e; exact Nat.le_trans hl (by decide)
    refine ⟨_, rfl, z, rfl, hl, ha, fun H1 e1 => ?_⟩
    refine ⟨_, rfl, _, rfl, fun D hD => lc_txt (fun c => !isLow c) (fun c => .str ⟨#[c]⟩) (fun c H Q _ q => ⟨_, rfl, c, _, rfl, rfl, _, rfl, q⟩) (fun c H Q _ _ q => ⟨_, rfl, q⟩) hz ?_⟩
    have e2 := ext_new (o := .lst ((z.cps.toList.filter fun c => !isLow c).map fun c => V.str ⟨#[c]⟩)) hD
    have q2 := @upd_same H1 D (.lst ((z.cps.toList.filter fun c => !isLow c).map fun c => V.str ⟨#[c]⟩))
    generalize upd H1 D (.lst ((z.cps.toList.filter fun c => !isLow c).map fun c => V.str ⟨#[c]⟩)) = H2 at e2 q2 ⊢
    refine ⟨_, rfl, _, rfl, trivial, hsh, fun H3 e3 => ?_⟩
    refine ⟨_, rfl, _, rfl, _, rfl, _, lo, hi, rfl, trivial, hsh, fun H4 e4 => ?_⟩
    refine ⟨_, rfl, _, rfl, trivial, by show 3 ≤ sizeLine; decide, fun t ht => ?_⟩
    have e5 := ext_new (o := .lst [.bl (nameV (.str z)), numV (.str z) lo hi, .bl false]) ht
    have q5 := @upd_same H4 t (.lst [.bl (nameV (.str z)), numV (.str z) lo hi, .bl false])
    have e24 : Ext H2 H4 := e3.trans e4
    show tCut _ _ _ _ (upd H4 t (.lst [.bl (nameV (.str z)), numV (.str z) lo hi, .bl false]))
    generalize upd H4 t (.lst [.bl (nameV (.str z)), numV (.str z) lo hi, .bl false]) = H5 at e5 q5 ⊢
    refine ⟨fun σ H6 => σ = [some (.str z), some (.int lo), some (.int hi), some (writV z), some (.ref D), none, some (.ref t), some (numV (.str z) lo hi)] ∧ H6 = H5, ?_, ?_⟩
    · refine ⟨_, rfl, rfl, _, rfl, ?_⟩
      rw [word_same hl]
      rcases writ_datum z with e | ⟨hd, e⟩
      · rw [e, clip_non]
        exact iteF (iteF ⟨rfl, rfl⟩)
      · rw [e, clip_int]
        refine iteT (ch_le (pu_var rfl) (pu_var rfl) (pu_var rfl) ⟨_, rfl, ?_⟩)
        by_cases hc : lo ≤ valI z.cps.toList ∧ valI z.cps.toList ≤ hi
        · rw [decide_eq_true hc, if_pos hc]
          exact iteT ⟨_, rfl, rfl, rfl⟩
        · rw [decide_eq_false hc, if_neg hc]
          exact iteF ⟨rfl, rfl⟩
    rintro σ H6 ⟨rfl, rfl⟩
    obtain ⟨n1, n2, n3, n4, n5⟩ := num_datum hl lo hi
    have hs : small (.list [.bool (nameV (.str z)), datum (numV (.str z) lo hi), .bool false]) = true := by
      have w1 : (PyData.list [.bool (nameV (.str z)), datum (numV (.str z) lo hi), .bool false]).weight ≤ 8000 := by
        simp only [PyData.weight, PyData.weightAll]
        omega
      have w2 : (PyData.list [.bool (nameV (.str z)), datum (numV (.str z) lo hi), .bool false]).depth ≤ 60 := by
        simp only [PyData.depth, PyData.depthAll, n5]
        decide
      unfold small
      simp only [PyData.showable, PyData.showableAll, PyData.leavesShort, PyData.leavesShortAll, n2, n3, decide_eq_true w1, decide_eq_true w2]
      rfl
    obtain ⟨s1, s2, s3⟩ := small_len hs
    refine ⟨_, rfl, _, _, rfl, .lst (SqL.of q5) (.cons (.bl _) (.cons (n1 _ _) (.cons (.bl _) .nil))), s1, s2, s3, ?_⟩
    refine ch_le (i := 1) (j := (z.length : Int)) (k := 8) pu_c (fun H Q q => ⟨_, rfl, _, rfl, hz, q⟩) pu_c ⟨_, rfl, ?_⟩
    have en : nameV (.str z) = (decide (1 ≤ z.length ∧ z.length ≤ 8) && z.cps.toList.all isLow) := rfl
    have fin : ∀ H7, Ext H6 H7 → Q (.bl (decide (V.str (PyData.list [.bool (nameV (.str z)), datum (numV (.str z) lo hi), .bool false]).shown = V.str (PyData.list [.bool (nameV (.str z)), datum (numV (.str z) lo hi), .bool false]).shown))) H7 := fun H7 e7 => by
      rw [decide_eq_true rfl]
      exact k _ (((e1.trans e2).trans (e24.trans e5)).trans e7)
    by_cases hc : 1 ≤ z.length ∧ z.length ≤ 8
    · rw [decide_eq_true (show (1 : Int) ≤ z.length ∧ (z.length : Int) ≤ 8 by omega)]
      refine iteT ⟨_, rfl, by decide, fun l hl' => ?_⟩
      have hsub : ∀ c ∈ z.cps.toList.filter (fun c => !isLow c), c < 128 := fun c hc => ha c (List.mem_filter.mp hc).1
      refine ⟨_, _, .lst (SqL.of (ext_new hl' D _ (e5 D _ (e24 D _ q2)))) (dp_signs _), .lst (SqL.of upd_same) .nil, shaped_signs hsub, by decide +kernel, ?_⟩
      rw [eqv_signs_nil]
      have ef : (z.cps.toList.filter fun c => !isLow c).isEmpty = nameV (.str z) := by
        rw [en, decide_eq_true hc]
        generalize z.cps.toList = a
        induction a with
        | nil => rfl
        | cons x xs ih =>
          simp only [Bool.true_and] at ih
          cases hx : isLow x <;> simp [hx, ih]
      rw [ef]
      refine ⟨_, rfl, by show 3 ≤ sizeLine; decide, fun t2 ht2 => ?_⟩
      refine ⟨_, _, rfl, .lst (SqL.of upd_same) (.cons (.bl _) (.cons (n1 _ _) (.cons (.bl _) .nil))), s1, s2, s3, scal_str _ _, ?_⟩
      exact fin _ ((ext_new hl').new ht2)
    · rw [decide_eq_false (show ¬ ((1 : Int) ≤ z.length ∧ (z.length : Int) ≤ 8) by omega)]
      refine iteF ?_
      have ef : nameV (.str z) = false := by
        rw [en, decide_eq_false hc]
        rfl
      rw [ef] at s1 s2 s3 fin ⊢
      refine ⟨_, rfl, by show 3 ≤ sizeLine; decide, fun t2 ht2 => ?_⟩
      refine ⟨_, _, rfl, .lst (SqL.of upd_same) (.cons (.bl _) (.cons (n1 _ _) (.cons (.bl _) .nil))), s1, s2, s3, scal_str _ _, ?_⟩
      exact fin _ (ext_new ht2)

end
end K02

set_option maxRecDepth 100000
set_option maxHeartbeats 4000000
namespace K02
open PySem PySem.Spec PyProof.Rows L2 Gs
open C8 (tCut pss_cut)
set_option exponentiation.threshold 3000
def spLaw (K : PySem.W.Frag) : Sp := fun vs H Q _ => ∃ (a : Addr) (ns : List Int), vs = [.ref a] ∧ SqL K H a (ns.map V.int) ∧ ns.length ≤ 63 ∧ ∀ H', Q (.bl true) H'
theorem pen_new_ne {H : Hp} {p c l : Addr} {n : Nat} (h : Pen H p c n) (hl : H l = none) : l ≠ p := fun z => by
  obtain ⟨_, _, _, x1, _⟩ := h.ex
  rw [z, x1] at hl
  cases hl
theorem not_str {v : V} (h : Gs.vStr v = false) (lo hi : Int) : nameV v = false ∧ numV v lo hi = .non := by
  cases v with
  | str z => cases h
  | _ => exact ⟨rfl, rfl⟩
theorem cut_off (n : Int) : n = n := rfl
section
variable {P : Program} {w : World} {K : PySem.W.Frag} {mg : Str → Option Value} {base : Heap}
theorem sc_law : FnScope ["script", "pen", "lap", "low", "high", "thing", "told_so"] ["script"] (defScope s_law) := ⟨rfl, rfl, rfl, by decide +kernel, rfl, by decide +kernel, by decide +kernel⟩
theorem d_law (T : Txt mg) (Ais_integer : At K mg "is_integer" s_is_integer) (Ais_name : At K mg "is_name" s_is_name) (Ais_within : At K mg "is_within" s_is_within) (Anumber_of : At K mg "number_of" s_number_of) (Dis_integer : DefOk P w K mg base CX0 1 "is_integer" ["value"] [] (spIsInt K)) (Dis_within : DefOk P w K mg base CX0 2 "is_within" ["value", "least", "most"] [] (spWithin K)) (Dis_name : DefOk P w K mg base CX0 1 "is_name" ["value"] [] (spName K)) (Dnumber_of : DefOk P w K mg base CX0 2 "number_of" ["word", "least", "most"] [] (spNum K)) (D_law_pen : DefOk P w K mg base CX0 1 "_law_pen" ["script"] [] (spPen K)) (D_law_pick : DefOk P w K mg base CX0 2 "_law_pick" ["pen", "some"] [] (spPick K)) (D_law_thing : DefOk P w K mg base CX0 3 "_law_thing" ["pen"] [] (spThing K)) (D_law_letters : DefOk P w K mg base CX0 3 "_law_letters" ["pen"] [] (spWord K)) (D_law_figures : DefOk P w K mg base CX0 3 "_law_figures" ["pen"] [] (spWord K)) (D_law_right : DefG P w K mg base CX0 3 "_law_right" ["thing", "low", "high"] [] (spRight K)) (D_law_word_right : DefG P w K mg base CX0 3 "_law_word_right" ["wordy", "low", "high"] [] spWordRight) (A0 : At K mg "law" s_law) : DefG P w K mg base CX0 4 "law" ["script"] [] (spLaw K) := by
  refine A0.okG sc_law (fun _ _ F => F.bindsN fun _ _ _ _ _ _ us hl => match us, hl with | [_], _ => rfl) (fun vs H Q E h => ?_) (fun f cdv A out s H vs Q E hG hr h => ?_)
  · obtain ⟨a, ns, rfl, _⟩ := h; rfl
  · have nd := sc_law.nd
    refine ⟨_, (pss_cons (ps_set (i := 1) nd rfl (Or.inl rfl) (pe_d D_law_pen (hr.mono (by decide)) pass0 (pa_cons (pv 0) pa_nil)))
          (pss_cons (ps_for PassesOwn.never rfl (pi_range1 (by rfl) T.f_range (pa_cons pe_int pa_nil)) (pg_name (i := 2) nd rfl (Or.inl rfl)) (pss_cons (ps_set (i := 3) nd rfl (Or.inl rfl) (pe_d D_law_pick (hr.mono (by decide)) pass0 (pa_cons (pv 1) (pa_cons (pe_lst (pa_cons (pe_un un_neg (pe_op op_pow pe_int pe_int)) (pa_cons (pe_un un_neg pe_int) (pa_cons (pe_un un_neg pe_int) (pa_cons pe_int (pa_cons pe_int (pa_cons pe_int pa_nil))))))) pa_nil))))
          (pss_cons (ps_set (i := 4) nd rfl (Or.inl rfl) (pe_op op_add (pv 3) (pe_d D_law_pick (hr.mono (by decide)) pass0 (pa_cons (pv 1) (pa_cons (pe_lst (pa_cons (pe_un un_neg pe_int) (pa_cons pe_int (pa_cons pe_int (pa_cons pe_int (pa_cons (pe_op op_pow pe_int pe_int) pa_nil)))))) pa_nil)))))
          (pss_cons (ps_set (i := 5) nd rfl (Or.inl rfl) (pe_d D_law_thing (hr.mono (by decide)) pass0 (pa_cons (pv 1) pa_nil)))
          (pss_cons (ps_if (PW.pt (pw_or (pt_not (pt_val (pe_g D_law_right hG (hr.mono (by decide)) pass0 (pa_cons (pv 5) (pa_cons (pv 3) (pa_cons (pv 4) pa_nil)))))) (pw_or (pt_not (pt_val (pe_g D_law_right hG (hr.mono (by decide)) pass0 (pa_cons (pv 3) (pa_cons (pv 3) (pa_cons (pv 4) pa_nil)))))) (pw_or1 (pt_not (pt_val (pe_g D_law_right hG (hr.mono (by decide)) pass0 (pa_cons (pv 4) (pa_cons (pv 3) (pa_cons (pv 4) pa_nil)))))))))) (pss_one (ps_ret pe_bl)) pss_nil)
          (pss_cons (ps_if (PW.pt (pw_or (pt_not (pt_val (pe_g D_law_word_right hG (hr.mono (by decide)) pass0 (pa_cons (pe_d D_law_letters (hr.mono (by decide)) pass0 (pa_cons (pv 1) pa_nil)) (pa_cons (pv 3) (pa_cons (pv 4) pa_nil)))))) (pw_or1 (pt_not (pt_val (pe_g D_law_word_right hG (hr.mono (by decide)) pass0 (pa_cons (pe_d D_law_figures (hr.mono (by decide)) pass0 (pa_cons (pv 1) pa_nil)) (pa_cons (pv 3) (pa_cons (pv 4) pa_nil))))))))) (pss_one (ps_ret pe_bl)) pss_nil)
          (pss_one (ps_if (PW.pt (pw_and (pt_not (pt_val (pe_callB call_isi (by rfl) T.f_isinstance (by decide +kernel) (pa_cons (pv 5) (pa_cons (pe_bltn (v := .ty "str") (by rfl) T.f_str (by decide +kernel) rfl) pa_nil))))) (pw_and1 (pt_cmpR op_ne (pe_callB (call_repr hG hr.units) (by rfl) T.f_repr (by decide +kernel) (pa_cons (pe_lst (pa_cons (pe_d Dis_name (hr.mono (by decide)) pass0 (pa_cons (pv 5) pa_nil)) (pa_cons (pe_d Dnumber_of (hr.mono (by decide)) pass0 (pa_cons (pv 5) (pa_cons (pv 3) (pa_cons (pv 4) pa_nil)))) pa_nil))) pa_nil)) (pe_callB (call_repr hG hr.units) (by rfl) T.f_repr (by decide +kernel) (pa_cons (pe_lst (pa_cons pe_bl (pa_cons pe_non pa_nil))) pa_nil)) (nomark _))))) (pss_one (ps_ret pe_bl)) pss_nil))))))))
          (pss_cons (ps_set (i := 6) nd rfl (Or.inl rfl) (pe_lst (pa_cons (pe_dK (ks := ["value"]) (g := fun ws => ws) Dis_integer Ais_integer (hr.mono (by decide)) pass0 (fun _ _ _ _ _ _ ws hl => match ws, hl with | [_], _ => rfl) (fun r => r) (by decide) (pk_cons pe_int pk_nil)) (pa_cons (pe_dK (ks := ["value"]) (g := fun ws => ws) Dis_name Ais_name (hr.mono (by decide)) pass0 (fun _ _ _ _ _ _ ws hl => match ws, hl with | [_], _ => rfl) (fun r => r) (by decide) (pk_cons pe_str pk_nil)) (pa_cons (pe_dK (ks := ["value", "least", "most"]) (g := fun ws => ws) Dis_within Ais_within (hr.mono (by decide)) pass0 (fun _ _ _ _ _ _ ws hl => match ws, hl with | [_, _, _], _ => rfl) (fun r => r) (by decide) (pk_cons pe_int (pk_cons pe_int (pk_cons pe_int pk_nil)))) pa_nil)))))
          (pss_cons (ps_set (i := 6) nd rfl (Or.inl rfl) (pe_op op_cat (pv 6) (pe_lst (pa_cons (pe_dK (ks := ["word", "least", "most"]) (g := fun ws => ws) Dnumber_of Anumber_of (hr.mono (by decide)) pass0 (fun _ _ _ _ _ _ ws hl => match ws, hl with | [_, _, _], _ => rfl) (fun r => r) (by decide) (pk_cons pe_str (pk_cons (pe_un un_neg pe_int) (pk_cons pe_int pk_nil)))) (pa_cons (pe_d Dnumber_of (hr.mono (by decide)) pass0 (pa_cons pe_str (pa_cons pe_int (pa_cons pe_int pa_nil)))) pa_nil)))))
          (pss_cons (ps_expr (pe_bm PySem.F.plainAttrs_list PySem.F.slot_list_append PySem.F.type_list_append mt_append (pv 6) (pa_cons (pe_d Dnumber_of (hr.mono (by decide)) pass0 (pa_cons (pe_op op_rep_str pe_str pe_int) (pa_cons pe_int (pa_cons (pe_op op_pow pe_int pe_int) pa_nil)))) pa_nil)))
          (pss_one (ps_ret (pe_cmpR (op_eqD hr.units) (pv 6) (pe_lst (pa_cons pe_bl (pa_cons pe_bl (pa_cons pe_bl (pa_cons (pe_un un_neg pe_int) (pa_cons pe_non (pa_cons pe_non pa_nil))))))) (nomark _))))))))), ?_⟩
    obtain ⟨a, ns, rfl, hS, hn, k⟩ := h
    refine ⟨_, rfl, a, ns, rfl, hS, hn, fun p c H1 _ _ P1 _ => ?_⟩
    refine ⟨12, rfl, by decide, by decide, for_range (lo := 0) (n := 12) (fun i σ H2 => ∃ o1 o2 o3 o4, σ = [some (.ref a), some (.ref p), o1, o2, o3, o4, none] ∧ Pen H2 p c (i * 200)) ⟨_, _, _, _, rfl, P1⟩ ?_ ?_⟩
    · rintro i σ H2 hi ⟨o1, o2, o3, o4, rfl, P2⟩
      -- low
      refine ⟨_, rfl, _, _, rfl, rfl, ⟨by decide, by decide, by decide⟩, _, rfl, _, rfl, _, rfl, by show 6 ≤ sizeLine; decide, fun l hl => ?_⟩
      refine ⟨p, c, l, i * 200, _, rfl, P2.new hl, by omega, SqL.of upd_same, pen_new_ne P2 hl, by simp, by show 6 < 1000000; decide, fun j x H3 hx P3 B3 => ?_⟩
      obtain ⟨lo, rfl, _, hlo⟩ := int_of_menu (zs := [-(10 ^ (29 : Int).toNat), -7, -1, 0, 1, 10]) (p := fun i => i.natAbs < 2 ^ 100) (by decide +kernel) hx
      -- high
      refine ⟨_, rfl, _, rfl, _, rfl, _, _, rfl, rfl, ⟨by decide, by decide, by decide⟩, by show 5 ≤ sizeLine; decide, fun l2 hl2 => ?_⟩
      refine ⟨p, c, l2, i * 200 + 1, _, rfl, P3.new hl2, by omega, SqL.of upd_same, pen_new_ne P3 hl2, by simp, by show 5 < 1000000; decide, fun j2 x2 H4 hx2 P4 B4 => ?_⟩
      obtain ⟨d, rfl, _, hd⟩ := int_of_menu (zs := [-1, 0, 1, 5000, 10 ^ (29 : Int).toNat]) (p := fun i => i.natAbs < 2 ^ 100) (by decide +kernel) hx2
      refine ⟨_, _, rfl, rfl, ?_⟩
      -- thing
      refine ⟨_, rfl, p, c, i * 200 + 2, rfl, P4, by omega, fun v H5 ov sh P5 B5 => ?_⟩
      show tSeq _ _ _ [some (.ref a), some (.ref p), some (.int (0 + (i : Int))), some (.int lo), some (.int (lo + d)), some v, none] H5
      generalize lo + d = hi'
      refine ⟨_, rfl, _, rfl, _, rfl, v, lo, hi', p, rfl, ov, fun H6 e6 => ⟨true, rfl, iteF ?_⟩⟩
      have sc : ∀ n H, OddP K p H (.int n) := fun _ _ _ _ => trivial
      refine ⟨_, rfl, _, rfl, _, rfl, _, lo, hi', p, rfl, sc _ _, fun H7 e7 => ⟨true, rfl, iteF ?_⟩⟩
      refine ⟨_, rfl, _, rfl, _, rfl, _, lo, hi', p, rfl, sc _ _, fun H8 e8 => ⟨true, rfl, iteF ?_⟩⟩
      have e58 := e6.trans (e7.trans e8)
      -- words
      refine ⟨_, rfl, p, c, i * 200 + 3, rfl, P5.ext e58, by omega, fun z1 H9 hz1 ha1 P9 B9 => ⟨_, rfl, _, rfl, z1, lo, hi', rfl, hz1, ha1, fun H10 e10 => ⟨true, rfl, iteF ?_⟩⟩⟩
      refine ⟨_, rfl, p, c, i * 200 + 33, rfl, P9.ext e10, by omega, fun z2 H11 hz2 ha2 P11 B11 => ⟨_, rfl, _, rfl, z2, lo, hi', rfl, hz2, ha2, fun H12 e12 => ⟨true, rfl, iteF ?_⟩⟩⟩
      have P12 := (P11.ext e12).mono (show i * 200 + 33 + 30 ≤ (i + 1) * 200 by omega)
      have ov12 : OddP K p H12 v := ov.mono (e58.but.trans (B9.trans (e10.but.trans (B11.trans e12.but))))
      obtain ⟨t, ty, kt⟩ := odd_str ov12.now
      refine ⟨_, rfl, _, _, t, _, _, rfl, .ty _, ty, kt, _, rfl, ?_⟩
      cases hv : Gs.vStr v with
      | true => exact iteF (iteF ⟨_, _, _, _, rfl, P12⟩)
      | false =>
        obtain ⟨n1, n2⟩ := not_str hv lo hi'
        refine iteT ?_
        refine ⟨_, rfl, v, rfl, ov12.now, sh, fun H13 e13 => ⟨_, rfl, _, rfl, _, rfl, v, lo, hi', rfl, (ov12.mono e13.but).now, sh, fun H14 e14 => ?_⟩⟩
        rw [n1, n2]
        refine ⟨by show 2 ≤ sizeLine; decide, fun t1 ht1 => ?_⟩
        have hs : small (.list [.bool false, .none]) = true := by decide +kernel
        obtain ⟨s1, s2, s3⟩ := small_len hs
        refine ⟨_, _, rfl, .lst (SqL.of upd_same) (.cons (.bl _) (.cons .non .nil)), s1, s2, s3, ?_⟩
        refine ⟨by show 2 ≤ sizeLine; decide, fun t2 ht2 => ?_⟩
        refine ⟨_, _, rfl, .lst (SqL.of upd_same) (.cons (.bl _) (.cons .non .nil)), s1, s2, s3, scal_str _ _, _, rfl, ?_⟩
        rw [decide_eq_true rfl]
        refine iteF ⟨_, _, _, _, rfl, ?_⟩
        exact (((P12.ext e13).ext e14).new ht1).new ht2
    · rintro σ H2 ⟨o1, o2, o3, o4, rfl, P2⟩
      have shs : ∀ s : Str, s.length ≤ 4200 → Short (.str s) := fun s h z e => by cases e; exact h
      refine ⟨.int 3, rfl, trivial, .str "abcdefgh", rfl, trivial, shs _ (by decide +kernel), fun H3 _ => ⟨.int 5, 5, 5, rfl, trivial, by show 3 ≤ sizeLine; decide, fun t ht => ?_⟩⟩
      have v1 : vPlain (.int 3) = true := rfl
      have v2 : nameV (.str "abcdefgh") = true := by decide +kernel
      have v3 : withinV (.int 5) 5 5 = true := by decide +kernel
      rw [v1, v2, v3]
      have q1 := @upd_same H3 t (.lst [.bl true, .bl true, .bl true])
      show tSeq _ _ _ _ (upd H3 t (.lst [.bl true, .bl true, .bl true]))
      generalize upd H3 t (.lst [.bl true, .bl true, .bl true]) = H4 at q1 ⊢
      refine ⟨_, rfl, _, rfl, .str "-3", -3, 5, rfl, trivial, shs _ (by decide +kernel), fun H5 e5 => ⟨.str "5", 6, 9, rfl, trivial, shs _ (by decide +kernel), fun H6 e6 => ?_⟩⟩
      have v4 : numV (.str "-3") (-3) 5 = .int (-3) := by decide +kernel
      have v5 : numV (.str "5") 6 9 = .non := by decide +kernel
      rw [v4, v5]
      refine ⟨by show 2 ≤ sizeLine; decide, fun b hb => ?_⟩
      have q2 := (e5.trans (e6.trans (ext_new (o := .lst [.int (-3), .non]) hb))) t _ q1
      refine ⟨t, b, _, _, rfl, rfl, q2, upd_same, by show 5 ≤ sizeLine; decide, fun u hu => ?_⟩
      have q3 := @upd_same (upd H6 b (.lst [.int (-3), .non])) u (.lst ([.bl true, .bl true, .bl true] ++ [.int (-3), .non]))
      show tSeq _ _ _ _ (upd (upd H6 b (.lst [.int (-3), .non])) u (.lst ([.bl true, .bl true, .bl true] ++ [.int (-3), .non])))
      generalize upd (upd H6 b (.lst [.int (-3), .non])) u (.lst ([.bl true, .bl true, .bl true] ++ [.int (-3), .non])) = H7 at q3 ⊢
      refine ⟨_, rfl, .inl ⟨rfl, _, SqL.of q3⟩, "9", 1900, rfl, rfl, by decide, by decide +kernel, by decide +kernel, _, _, rfl, rfl, ⟨by decide, by decide, by decide⟩, .str (repS "9" 1900), 0, _, rfl, trivial, shs _ ?_, fun H8 e8 => ?_⟩
      · rw [repS_len]
        decide +kernel
      have v6 : numV (.str (repS "9" 1900)) 0 (10 ^ (29 : Int).toNat) = .non := by decide +kernel
      refine ⟨u, _, _, rfl, rfl, e8 u _ q3, by show 5 < sizeLine; decide, ?_⟩
      rw [v6]
      have q4 := @upd_same H8 u (.lst (([.bl true, .bl true, .bl true] ++ [.int (-3), .non]) ++ [.non]))
      generalize upd H8 u (.lst (([.bl true, .bl true, .bl true] ++ [.int (-3), .non]) ++ [.non])) = H9 at q4 ⊢
      refine ⟨_, rfl, _, rfl, by show 6 ≤ sizeLine; decide, fun w hw => ?_⟩
      refine ⟨.list [.bool true, .bool true, .bool true, .int (-3), .none, .none], .list [.bool true, .bool true, .bool true, .int (-3), .none, .none], .lst (SqL.of (ext_new hw u _ q4)) ?_, .lst (SqL.of upd_same) ?_, by decide +kernel, by decide +kernel, ?_⟩
      · exact .cons (.bl _) (.cons (.bl _) (.cons (.bl _) (.cons (.int _) (.cons .non (.cons .non .nil)))))
      · exact .cons (.bl _) (.cons (.bl _) (.cons (.bl _) (.cons (.int _) (.cons .non (.cons .non .nil)))))
      have ve : PyData.eqv (.list [.bool true, .bool true, .bool true, .int (-3), .none, .none]) (.list [.bool true, .bool true, .bool true, .int (-3), .none, .none]) = true := by decide +kernel
      rw [ve]
      exact k _

end
end K02

set_option maxRecDepth 100000
set_option maxHeartbeats 4000000
namespace K02
open PySem PySem.Spec PyProof.Rows L2 Gs
open C8 (tCut pss_cut)
theorem facts {P : Program} {w : World} {K : PySem.W.Frag} {h : Heap} {mg : Str → Option Value} {f : Addr} (X : K.In h) (G : h.Ns mainGlobals mg) (hfa : mg ("law" : Str) = some (.ref f)) (c : He.SaysD fa fn K) :
    ∃ fd : FuncData, (∀ (s : Shared) (v : Value), BindsTo s fd ⟨[v], []⟩ [("script", v)]) ∧ ∀ base : Heap, K.In base → base.Ns mainGlobals mg → NoDig base → FnG P w K mg base CX0 4 f fd ["script"] (spLaw K) := by
  obtain ⟨fd0, F0⟩ := c.def_ 0 (d := dd "is_figures" 2) rfl
  have Ais_figures : At K mg "is_figures" s_is_figures := ⟨_, fd0, F0, He.glo_ok X G (c.fact 12 (f := .glo "is_figures") rfl)⟩
  obtain ⟨fd1, F1⟩ := c.def_ 1 (d := dd "number_of" 3) rfl
  have Anumber_of : At K mg "number_of" s_number_of := ⟨_, fd1, F1, He.glo_ok X G (c.fact 13 (f := .glo "number_of") rfl)⟩
  obtain ⟨fd2, F2⟩ := c.def_ 2 (d := dd "is_integer" 6) rfl
  have Ais_integer : At K mg "is_integer" s_is_integer := ⟨_, fd2, F2, He.glo_ok X G (c.fact 14 (f := .glo "is_integer") rfl)⟩
  obtain ⟨fd3, F3⟩ := c.def_ 3 (d := dd "is_within" 7) rfl
  have Ais_within : At K mg "is_within" s_is_within := ⟨_, fd3, F3, He.glo_ok X G (c.fact 15 (f := .glo "is_within") rfl)⟩
  obtain ⟨fd4, F4⟩ := c.def_ 4 (d := dd "is_name" 8) rfl
  have Ais_name : At K mg "is_name" s_is_name := ⟨_, fd4, F4, He.glo_ok X G (c.fact 16 (f := .glo "is_name") rfl)⟩
  obtain ⟨fd5, F5⟩ := c.def_ 5 (d := dd "_law_pen" 10) rfl
  have A_law_pen : At K mg "_law_pen" s__law_pen := ⟨_, fd5, F5, He.glo_ok X G (c.fact 17 (f := .glo "_law_pen") rfl)⟩
  obtain ⟨fd6, F6⟩ := c.def_ 6 (d := dd "_law_draw" 11) rfl
  have A_law_draw : At K mg "_law_draw" s__law_draw := ⟨_, fd6, F6, He.glo_ok X G (c.fact 18 (f := .glo "_law_draw") rfl)⟩
  obtain ⟨fd7, F7⟩ := c.def_ 7 (d := dd "_law_pick" 12) rfl
  have A_law_pick : At K mg "_law_pick" s__law_pick := ⟨_, fd7, F7, He.glo_ok X G (c.fact 19 (f := .glo "_law_pick") rfl)⟩
  obtain ⟨fd8, F8⟩ := c.def_ 8 (d := dd "_law_thing" 13) rfl
  have A_law_thing : At K mg "_law_thing" s__law_thing := ⟨_, fd8, F8, He.glo_ok X G (c.fact 20 (f := .glo "_law_thing") rfl)⟩
  obtain ⟨fd9, F9⟩ := c.def_ 9 (d := dd "_law_letters" 14) rfl
  have A_law_letters : At K mg "_law_letters" s__law_letters := ⟨_, fd9, F9, He.glo_ok X G (c.fact 21 (f := .glo "_law_letters") rfl)⟩
  obtain ⟨fd10, F10⟩ := c.def_ 10 (d := dd "_law_figures" 15) rfl
  have A_law_figures : At K mg "_law_figures" s__law_figures := ⟨_, fd10, F10, He.glo_ok X G (c.fact 22 (f := .glo "_law_figures") rfl)⟩
  obtain ⟨fd11, F11⟩ := c.def_ 11 (d := dd "_law_is_plain" 16) rfl
  have A_law_is_plain : At K mg "_law_is_plain" s__law_is_plain := ⟨_, fd11, F11, He.glo_ok X G (c.fact 23 (f := .glo "_law_is_plain") rfl)⟩
  obtain ⟨fd12, F12⟩ := c.def_ 12 (d := dd "_law_written" 17) rfl
  have A_law_written : At K mg "_law_written" s__law_written := ⟨_, fd12, F12, He.glo_ok X G (c.fact 24 (f := .glo "_law_written") rfl)⟩
  obtain ⟨fd13, F13⟩ := c.def_ 13 (d := dd "_law_right" 18) rfl
  have A_law_right : At K mg "_law_right" s__law_right := ⟨_, fd13, F13, He.glo_ok X G (c.fact 25 (f := .glo "_law_right") rfl)⟩
  obtain ⟨fd14, F14⟩ := c.def_ 14 (d := dd "_law_word_right" 19) rfl
  have A_law_word_right : At K mg "_law_word_right" s__law_word_right := ⟨_, fd14, F14, He.glo_ok X G (c.fact 26 (f := .glo "_law_word_right") rfl)⟩
  obtain ⟨fd15, F15⟩ := c.def_ 15 (d := dd "law" 20) rfl
  have Alaw : At K mg "law" s_law := ⟨_, fd15, F15, He.glo_ok X G (c.fact 27 (f := .glo "law") rfl)⟩
  have T : Txt mg := ⟨He.free_ok X G (c.fact 0 (f := .free "isinstance") rfl), He.free_ok X G (c.fact 1 (f := .free "int") rfl), He.free_ok X G (c.fact 2 (f := .free "str") rfl), He.free_ok X G (c.fact 3 (f := .free "bool") rfl), He.free_ok X G (c.fact 4 (f := .free "len") rfl), He.free_ok X G (c.fact 5 (f := .free "all") rfl), He.free_ok X G (c.fact 6 (f := .free "abs") rfl), He.free_ok X G (c.fact 7 (f := .free "list") rfl), He.free_ok X G (c.fact 8 (f := .free "range") rfl), He.free_ok X G (c.fact 9 (f := .free "repr") rfl), He.int_ok X G (c.fact 10 (f := .int "MOST_FIGURES" 4000) rfl), He.str_ok X G (c.fact 11 (f := .str "SIGNS" "abcdefghijklmnopqrstuvwxyz") rfl)⟩
  have e := hfa.symm.trans (He.glo_ok X G (c.fact 27 (f := .glo "law") rfl))
  cases e
  have b := FunD.bindsA (ps := ["script"]) F15 fun _ _ _ _ _ _ us hl => match us, hl with | [_], _ => rfl
  refine ⟨fd15, fun s v => b s [v] rfl, fun base kb nb ND => ?_⟩
  have D_law_draw := d__law_draw (P := P) (w := w) (K := K) (mg := mg) (base := base) T  A_law_draw
  have D_law_pen := d__law_pen (P := P) (w := w) (K := K) (mg := mg) (base := base) T  A_law_pen
  have D_law_pick := d__law_pick (P := P) (w := w) (K := K) (mg := mg) (base := base) T D_law_draw A_law_pick
  have Dis_figures := d_is_figures (P := P) (w := w) (K := K) (mg := mg) (base := base) T  Ais_figures
  have Dnumber_of := d_number_of (P := P) (w := w) (K := K) (mg := mg) (base := base) T ND Dis_figures Anumber_of
  have Dis_integer := d_is_integer (P := P) (w := w) (K := K) (mg := mg) (base := base) T  Ais_integer
  have Dis_within := d_is_within (P := P) (w := w) (K := K) (mg := mg) (base := base) T Dis_integer Ais_within
  have Dis_name := d_is_name (P := P) (w := w) (K := K) (mg := mg) (base := base) T  Ais_name
  have D_law_thing := d__law_thing (P := P) (w := w) (K := K) (mg := mg) (base := base) T D_law_pick A_law_thing
  have D_law_letters := d__law_letters (P := P) (w := w) (K := K) (mg := mg) (base := base) T D_law_pick D_law_draw A_law_letters
  have D_law_figures := d__law_figures (P := P) (w := w) (K := K) (mg := mg) (base := base) T D_law_pick D_law_draw A_law_figures
  have D_law_is_plain := d__law_is_plain (P := P) (w := w) (K := K) (mg := mg) (base := base) T  A_law_is_plain
  have D_law_written := d__law_written (P := P) (w := w) (K := K) (mg := mg) (base := base) T ND A_law_written
  have D_law_right := d__law_right (P := P) (w := w) (K := K) (mg := mg) (base := base) T Dis_integer Dis_within D_law_is_plain A_law_right
  have D_law_word_right := d__law_word_right (P := P) (w := w) (K := K) (mg := mg) (base := base) T Dis_name Dnumber_of Dis_integer D_law_written A_law_word_right
  have DL := d_law (P := P) (w := w) (K := K) (mg := mg) (base := base) T Ais_integer Ais_name Ais_within Anumber_of Dis_integer Dis_within Dis_name Dnumber_of D_law_pen D_law_pick D_law_thing D_law_letters D_law_figures D_law_right D_law_word_right Alaw
  obtain ⟨_, _, _, _, _, _, _, _, _, _, rfl, l1, _⟩ := F15.ex
  exact (DL.lk _ _ (He.glo_ok X G (c.fact 27 (f := .glo "law") rfl)) ⟨_, _, _, l1⟩).1
end K02
open PySem PySem.W PySem.Calls PyProof.Rows
set_option maxRecDepth 100000 in
set_option maxHeartbeats 0 in
theorem PySem.Challenge.cw_gapshares_k02_looks_at_any_values_holds : PySem.Challenge.rw_gapshares_k02_looks_at_any_values.Holds := by
  w_on; o_law
  refine HandSHeadRun.head_any (r := OpenLaw.row PySem.Challenge.rw_gapshares_k02_looks_at_any_values) (q := view (OpenLaw.row PySem.Challenge.rw_gapshares_k02_looks_at_any_values).prog [20]) (H := K02.hk) (ob := K02.ob) (M := 2000)
    (loose := ["__name__", "MOST_FIGURES", "is_figures", "number_of", "SIGNS", "is_integer", "is_within", "is_name", "_law_pen", "_law_draw", "_law_pick", "_law_thing", "_law_letters", "_law_figures", "_law_is_plain", "_law_written", "_law_right", "_law_word_right"])
    (d := HandSHeadRun.topDef (OpenLaw.row PySem.Challenge.rw_gapshares_k02_looks_at_any_values).prog 20) (kwd := []) K02.ob_eq
    (by kernel_rfl) (fun s => by kernel_rfl) K02.run (by kernel_rfl) (by kernel_rfl) (by kernel_rfl) (by rfl) (by first | assumption | decide +kernel) (by decide +kernel) ⟨rfl, rfl, rfl, rfl, rfl, by decide +kernel⟩ ?hw ?hc
  case hw => w_witness2
  case hc =>
    refine Gs.walkG (l := PySem.Challenge.rw_gapshares_k02_looks_at_any_values) (n := 63) (k := 4) (x := "script") rfl (by decide) (by kernel_rfl) ⟨rfl, by decide, by decide⟩ ?F
    intro w mg fa h Y G hmg0
    obtain ⟨K, KX, c⟩ := Y
    have hmg : mg ("law" : PySem.Str) = some (.ref fa) := by
      have e : (HandSHeadRun.topDef (OpenLaw.row PySem.Challenge.rw_gapshares_k02_looks_at_any_values).prog 20).name = ("law" : PySem.Str) := by kernel_rfl
      rw [← e]
      exact hmg0
    obtain ⟨fd, hb, hF⟩ := K02.facts (P := (PySem.Challenge.rw_gapshares_k02_looks_at_any_values).prog) (w := w) KX G hmg c
    exact ⟨K, fd, K02.spLaw K, KX, hb, fun H a ns hl _ hS => ⟨a, ns, rfl, hS, hl, fun _ => rfl⟩, hF⟩
#print axioms PySem.Challenge.cw_gapshares_k02_looks_at_any_values_holds
