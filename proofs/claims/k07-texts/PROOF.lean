import PyProof.Rows.All
import Wide.All
import OpenK.AllK
import Wide.FinOn
import PyProof.ReprRoads
import HandS.ForMost
import HandS.IsInst
import HandS.Walk
import HandS.Evl
import HandS.Defaults
import HandS.Flow
import HandS.Codes
import HandS.HeadEnd
import HandS.HeadHook1
import HandS.HeadHook2
import HandS.Head2
import HandS.OwnEq
import HandS.Iter
import HandS.Style
import HandS.HotCalls
import HandS.SlotsOwn
import KE.KOpsOwn
import KE.KIntText
import KE.KExcSuper
import HandS.ExcInit
import HandS.ExcField
import HandS.ExcIs
import HandS.ExcValue
import KE.KExcIs
import HandS.HeadHook4
import HandS.EndTab
import HandS.EndBits
import HandS.HeadNt
import HandS.Wide
import HandS.MakeKw
import HandS.MakeKwOnly
import HandS.HeadWalk
import PyProof.MeetsIn
import KE.KCallOwn
import HandS.ClsMeth
import HandS.FStr
import PySem.Challenge.RW_gapshares_k07_texts_of_ratios
set_option Elab.async false
set_option linter.all false
set_option maxRecDepth 100000
set_option maxHeartbeats 4000000
namespace Gs
open PySem PySem.Spec PyProof.Rows L2

/-! ### repr of data -/
/-- what repr asks: data, ints of bounded size, a text of bounded size -/
def rRepr (K : PySem.W.Frag) : List V → Hp → VK → Prop := fun vs H Q => ∃ v d, vs = [v] ∧ Dp K H v d ∧ d.showable = true ∧ d.depth ≤ 60 ∧ d.shown.length ≤ sizeLine ∧ Q (.str d.shown) H

theorem dp_noDict : ∀ {K : PySem.W.Frag} {H : Hp} {v : V} {d : PyData}, Dp K H v d → d.hasDict = false := by
  intro K H v d h
  induction h using Dp.rec (motive_2 := fun vs ds _ => PyData.hasDictAll ds = false) with
  | non => rfl
  | bl b => rfl
  | int i => rfl
  | str x => rfl
  | lst _ _ ih => simpa [PyData.hasDict] using ih
  | tup _ _ ih => simpa [PyData.hasDict] using ih
  | nil => rfl
  | cons _ _ ih1 ih2 => simp [PyData.hasDictAll, ih1, ih2]

theorem call_repr {X : Cx} (hg : X.A.guards = some []) (hu : X.A.units + 64 < cLine) : CallR X (.builtin "repr") (rRepr X.K) := by
  intro pins s σ H xs us Q I r h
  obtain ⟨v, d, rfl, hd, hsh, hdep, hsz, q⟩ := h
  obtain ⟨u, rfl, rv⟩ := vals1 r
  have hnd := dp_noDict hd
  obtain ⟨as, rd⟩ := Dp.reads I d v u hd rv
  cases rd with
  | none => exact PySem.P.repr_of_none ⟨.str _, H, I.tok _, ⟨_, rfl⟩, q⟩
  | bool b => exact PySem.P.repr_of_bool ⟨.str _, H, I.tok _, ⟨_, rfl⟩, by simpa [PyData.shown] using q⟩
  | int i t =>
    have hz : i.natAbs.log2 < 1920 := by simpa [PyData.showable] using hsh
    exact PySem.P.repr_of_int hz ⟨.str _, H, I.tok _, ⟨_, rfl⟩, q⟩
  | str x t => exact PySem.P.repr_of_str (hsz := hsz) ⟨.str _, H, I.tok _, ⟨_, rfl⟩, q⟩
  | list h1 h2 h3 h4 =>
    exact repr_of_reads' (.list h1 h2 h3 h4) hsh (PyData.noDict_hsm hnd) hg (by omega) (fun _ _ e => e) (fun h' u tk hk => ⟨.str _, H, I.kept hk, ⟨_, rfl⟩, q⟩) hsz
  | tuple h1 h2 h3 h4 =>
    exact repr_of_reads' (.tuple h1 h2 h3 h4) hsh (PyData.noDict_hsm hnd) hg (by omega) (fun _ _ e => e) (fun h' u tk hk => ⟨.str _, H, I.kept hk, ⟨_, rfl⟩, q⟩) hsz
  | dict _ _ _ _ _ => simp [PyData.hasDict] at hnd

/-! ### defs that are run where no repr is under way -/
structure FnG (P : Program) (w : World) (K : PySem.W.Frag) (mg : Str → Option Value) (base : Heap) (CX : CXT) (k : Nat) (f : Addr) (fd : FuncData) (ps : List Str) (sp : Sp) : Prop where
  ln : ∀ vs H Q E, sp vs H Q E → vs.length = ps.length
  go : ∀ (A : Around) (out : List Env) (s : Shared) (H : Hp) (as : Args) (us : List Value) (vs : List V) (Q : VK) (E : XK), A.guards = some [] → Room k A →
    Env0 P w K mg base A out s H → BindsTo s fd as (ps.zip us) → Vals vs us → sp vs H Q E → codeAny (model P w) A (.call (.ref f) as) (CR CX out P w H s Q E) s
theorem FnG.of {P : Program} {w : World} {K : PySem.W.Frag} {mg : Str → Option Value} {base : Heap} {CX : CXT} {k : Nat} {f : Addr} {fd : FuncData} {ps : List Str} {sp : Sp}
    (F : FnOk P w K mg base CX k f fd ps sp) : FnG P w K mg base CX k f fd ps sp :=
  ⟨F.len, fun A out s H as us vs Q E _ => F.run A out s H as us vs Q E⟩

/-- a body's theorem, the guards told -/
theorem fnG_of {CX : CXT} {P : Program} {w : World} {K : PySem.W.Frag} {mg : Str → Option Value} {base : Heap} {k : Nat} {f : Addr} {fd : FuncData} {x qual : Str} {params : Arguments} {body : List Stmt} {scope : Scope}
    {dvs : List V} {kws : List (Str × V)} {N ps : List Str} {sp : Sp} (F : FunD K x qual params body scope dvs kws f fd) (S : FnScope N ps scope) (ln : ∀ vs H Q E, sp vs H Q E → vs.length = ps.length)
    (bd : ∀ (cdv : Value) (A : Around) (out : List Env) (s : Shared) (H : Hp) (vs : List V) (Q : VK) (E : XK), (A.deeper (envOfC qual scope s.heap.objs.size f cdv)).guards = some [] →
      Room k (A.deeper (envOfC qual scope s.heap.objs.size f cdv)) → sp vs H Q E →
      ∃ t, PSs (cxOf CX P w K mg base N qual scope f cdv A out s H E) body t ∧ t { nx := fun _ H' => Q .non H', rt := Q } (start N vs) H) : FnG P w K mg base CX (k + 1) f fd ps sp := by
  obtain ⟨oc, od, dV, kV, doc, pm, an, cdv, ct, osl, rfl, lk, hcd, _, _⟩ := F.ex
  refine ⟨ln, fun A out s H as us vs Q E hg hr e0 hb rv hsp => ?_⟩
  have hz := ln _ _ _ _ hsp
  have KX : K.In s.heap := e0.mod.kin.keeps fun b o e => (e0.bs b o e).1
  have nl : s.heap.NoLimit := e0.mod.nolimit.keeps fun b o e => (e0.bs b o e).1
  have par : ∀ y ∈ ps.zip us, scope.names.lookup y.1 = some .local ∨ (scope.names.lookup y.1 = some .cell ∧ ((cellsFrom (s.heap.objs.size + 1) scope.names []).lookup y.1).isSome = true) := by
    rintro ⟨n, v⟩ hy
    cases S.par n (List.of_mem_zip hy).1 with
    | inl q => exact .inl q
    | inr q => exact .inr ⟨q, PySem.W.cellsFrom_some _ _ _ (.inl q)⟩
  refine codeAny_call_function hr.depth (KX _ _ lk) rfl S.co S.gen rfl (PySem.W.codeRec_of KX hcd) (hb _ _ _ _ (wpAny_newFunctionEnv_cells S.kind par ?_))
  rintro env rfl s1 ic
  refine ⟨nl.keeps ic.toInCall.keep, codeAny_func ?_⟩
  obtain ⟨t, ht, hq⟩ := bd cdv A out s H vs Q E hg (hr.deeper _) hsp
  refine wpAny_mono (ht.run [] s1 (start N vs) H _ (inv_start S hr.hd e0 hz rv ic) hq) ?_ fun e s' hs => hs
  intro fl s' hs
  match fl, hs with
  | .ret u, ⟨v, σ', H', J, r2, q⟩ => exact ⟨v, H', J.os, J.bare, J.base, J.hok, r2, q⟩
  | .next, ⟨σ', H', J, q⟩ => exact ⟨V.non, H', J.os, J.bare, J.base, J.hok, rfl, q⟩
  | .brk, ⟨_, _, _, q⟩ => exact q.elim
  | .cont, ⟨_, _, _, q⟩ => exact q.elim

section
variable {X : Cx} {CX : CXT} {k : Nat} {f : Addr} {fd : FuncData} {ps : List Str} {sp : Sp} {dvs : List V} {ds : List Value} {E : XK} {x : Str} {p pos : Pos} {e : Expr} {es : List Expr} {t : TA}
theorem runG {pins : List (Addr × Obj)} {σ : L2.St} {H : Hp} {s : Shared} {Q : VK} {us : List Value} {vs : List V} (F : FnG X.prog X.w X.K X.mg X.base CX k f fd ps sp) (hG : X.A.guards = some []) (hr : Room k X.A)
    (hb : Binds X.K fd ps ds) (hd : Vals dvs ds) (hx : Passes CX X E) (I : Inv X pins σ H s) (rv : Vals vs us) (h : sp (vs ++ dvs) H Q E) :
    wpAny (model X.prog X.w) X.A (call (.ref f) us) (EP X pins σ Q) X.xe s := by
  have rr := rv.append hd
  have lz : (us ++ ds).length = ps.length := rr.length ▸ F.ln _ _ _ _ h
  refine wpAny_call (codeAny_mono (F.go X.A X.stack s H ⟨us, []⟩ _ _ Q E hG hr I.env0 (hb s us I.kIn lz) rr h) ?_)
  intro r s' hq
  match r, hq with
  | .error e, hq => exact hx pins σ H s e s' I hq
  | .ok (.ret u), hq => exact I.after hq
  | .ok .next, hq => exact hq.elim
  | .ok .brk, hq => exact hq.elim
  | .ok .cont, hq => exact hq.elim
end

/-! ### a def by its name: one bundle -/
structure DefOk (P : Program) (w : World) (K : PySem.W.Frag) (mg : Str → Option Value) (base : Heap) (CX : CXT) (k : Nat) (x : Str) (ps : List Str) (dvs : List V) (sp : Sp) : Prop where
  ex : ∃ f fd ds, FnOk P w K mg base CX k f fd ps sp ∧ mg x = some (.ref f) ∧ PySem.W.keepIn K (.ref f) = true ∧ Binds K fd ps ds ∧ Vals dvs ds
  lk : ∀ f fd, mg x = some (.ref f) → (∃ oc od osl, K.lookup f = some ⟨oc, od, .func fd, osl⟩) → FnOk P w K mg base CX k f fd ps sp ∧ PySem.W.keepIn K (.ref f) = true
structure DefG (P : Program) (w : World) (K : PySem.W.Frag) (mg : Str → Option Value) (base : Heap) (CX : CXT) (k : Nat) (x : Str) (ps : List Str) (dvs : List V) (sp : Sp) : Prop where
  ex : ∃ f fd ds, FnG P w K mg base CX k f fd ps sp ∧ mg x = some (.ref f) ∧ PySem.W.keepIn K (.ref f) = true ∧ Binds K fd ps ds ∧ Vals dvs ds
  lk : ∀ f fd, mg x = some (.ref f) → (∃ oc od osl, K.lookup f = some ⟨oc, od, .func fd, osl⟩) → FnG P w K mg base CX k f fd ps sp ∧ PySem.W.keepIn K (.ref f) = true
theorem DefOk.g {P : Program} {w : World} {K : PySem.W.Frag} {mg : Str → Option Value} {base : Heap} {CX : CXT} {k : Nat} {x : Str} {ps : List Str} {dvs : List V} {sp : Sp} (D : DefOk P w K mg base CX k x ps dvs sp) : DefG P w K mg base CX k x ps dvs sp :=
  let ⟨f, fd, ds, F, a, b, c, d⟩ := D.ex
  ⟨⟨f, fd, ds, .of F, a, b, c, d⟩, fun f fd h1 h2 => let ⟨q1, q2⟩ := D.lk f fd h1 h2; ⟨.of q1, q2⟩⟩

section
variable {X : Cx} {CX : CXT} {k : Nat} {ps : List Str} {sp : Sp} {dvs : List V} {E : XK} {x : Str} {p pos : Pos} {e : Expr} {es : List Expr} {t : TA}
theorem pe_d (D : DefOk X.prog X.w X.K X.mg X.base CX k x ps dvs sp) (hr : Room k X.A) (hx : Passes CX X E) (ha : PA X (e :: es) t) (hg : Gl X x := by rfl) (hdb : (x == ("__debug__" : Str)) = false := by decide)
    (he : starEach (e :: es) X.env = (false, eval e X.env) :: starEach es X.env := by rfl) (hpl : (backTo pos (starEach es X.env)).any (·.1) = false := by rfl) :
    PE X (.Call (.Name x p) (e :: es) [] pos) (tCall sp dvs E t) :=
  let ⟨_, _, _, F, a, b, c, d⟩ := D.ex
  pe_call F hr hg a b c d hx ha hdb he hpl
theorem pe_d0 (D : DefOk X.prog X.w X.K X.mg X.base CX k x ps dvs sp) (hr : Room k X.A) (hx : Passes CX X E) (hg : Gl X x := by rfl) (hdb : (x == ("__debug__" : Str)) = false := by decide) :
    PE X (.Call (.Name x p) [] [] pos) (tCall sp dvs E tNil) :=
  let ⟨_, _, _, F, a, b, c, d⟩ := D.ex
  pe_call0 F hr hg a b c d hx hdb
theorem pe_g (D : DefG X.prog X.w X.K X.mg X.base CX k x ps dvs sp) (hG : X.A.guards = some []) (hr : Room k X.A) (hx : Passes CX X E) (ha : PA X (e :: es) t) (hg : Gl X x := by rfl) (hdb : (x == ("__debug__" : Str)) = false := by decide)
    (he : starEach (e :: es) X.env = (false, eval e X.env) :: starEach es X.env := by rfl) (hpl : (backTo pos (starEach es X.env)).any (·.1) = false := by rfl) :
    PE X (.Call (.Name x p) (e :: es) [] pos) (tCall sp dvs E t) := by
  obtain ⟨_, _, _, F, hm, hk, hb, hd⟩ := D.ex
  refine ⟨fun pins s σ H Q I h => wpAny_Call_Name_kw (ld_glob I hg hm ?_ hdb)⟩
  refine PySem.W.callWith_K (h₀ := X.base) I.ok.mod.kin hk (thn (ha.run pos pins s σ H _ I h) ?_) he hpl
  rintro us s1 ⟨vs, H1, I1, rv, q⟩
  exact ⟨I1.kIn, runG F hG hr hb hd hx I1 rv q⟩
theorem pe_g0 (D : DefG X.prog X.w X.K X.mg X.base CX k x ps dvs sp) (hG : X.A.guards = some []) (hr : Room k X.A) (hx : Passes CX X E) (hg : Gl X x := by rfl) (hdb : (x == ("__debug__" : Str)) = false := by decide) :
    PE X (.Call (.Name x p) [] [] pos) (tCall sp dvs E tNil) := by
  obtain ⟨_, _, _, F, hm, hk, hb, hd⟩ := D.ex
  refine ⟨fun pins s σ H Q I h => wpAny_Call_Name_kw (ld_glob I hg hm ?_ hdb)⟩
  exact PySem.W.callWith_K0 I.kIn hk (runG (us := []) F hG hr hb hd hx I .nil h)
end

/-! ### a def where the top has it -/
structure At (K : PySem.W.Frag) (mg : Str → Option Value) (x : Str) (st : Stmt) : Prop where
  ex : ∃ f fd, FunD K x x (defArgs st) (defBody st) (defScope st) [] [] f fd ∧ mg x = some (.ref f)
section
variable {P : Program} {w : World} {K : PySem.W.Frag} {mg : Str → Option Value} {base : Heap} {x : Str} {st : Stmt} {N ps : List Str} {k : Nat} {sp : Sp}
theorem At.ok (a : At K mg x st) (S : FnScope N ps (defScope st)) (bnd : ∀ f fd, FunD K x x (defArgs st) (defBody st) (defScope st) [] [] f fd → Binds K fd ps []) (ln : ∀ vs H Q E, sp vs H Q E → vs.length = ps.length)
    (bd : ∀ (f : Addr) (cdv : Value) (A : Around) (out : List Env) (s : Shared) (H : Hp) (vs : List V) (Q : VK) (E : XK), Room k (A.deeper (envOfC x (defScope st) s.heap.objs.size f cdv)) → sp vs H Q E →
      ∃ t, PSs (cxOf CX0 P w K mg base N x (defScope st) f cdv A out s H E).nox (defBody st) t ∧ t { nx := fun _ H' => Q .non H', rt := Q } (start N vs) H) : DefOk P w K mg base CX0 (k + 1) x ps [] sp := by
  obtain ⟨f, fd, F, hm⟩ := a.ex
  have ok : FnOk P w K mg base CX0 (k + 1) f fd ps sp := F.ok S ln fun cdv A out s H vs Q E hr h =>
    let ⟨t, h1, h2⟩ := bd f cdv A out s H vs Q E hr h
    ⟨t, h1.nox, h2⟩
  refine ⟨⟨f, fd, [], ok, hm, F.kp, bnd f fd F, .nil⟩, fun f2 fd2 e2 ⟨oc, od, osl, l2⟩ => ?_⟩
  rw [hm] at e2
  cases e2
  obtain ⟨_, _, _, _, _, _, _, _, _, _, rfl, l1, _⟩ := F.ex
  rw [l1] at l2
  cases l2
  exact ⟨ok, F.kp⟩
theorem At.okG (a : At K mg x st) (S : FnScope N ps (defScope st)) (bnd : ∀ f fd, FunD K x x (defArgs st) (defBody st) (defScope st) [] [] f fd → Binds K fd ps []) (ln : ∀ vs H Q E, sp vs H Q E → vs.length = ps.length)
    (bd : ∀ (f : Addr) (cdv : Value) (A : Around) (out : List Env) (s : Shared) (H : Hp) (vs : List V) (Q : VK) (E : XK), (A.deeper (envOfC x (defScope st) s.heap.objs.size f cdv)).guards = some [] →
      Room k (A.deeper (envOfC x (defScope st) s.heap.objs.size f cdv)) → sp vs H Q E →
      ∃ t, PSs (cxOf CX0 P w K mg base N x (defScope st) f cdv A out s H E).nox (defBody st) t ∧ t { nx := fun _ H' => Q .non H', rt := Q } (start N vs) H) : DefG P w K mg base CX0 (k + 1) x ps [] sp := by
  obtain ⟨f, fd, F, hm⟩ := a.ex
  have ok : FnG P w K mg base CX0 (k + 1) f fd ps sp := fnG_of F S ln fun cdv A out s H vs Q E hg hr h =>
    let ⟨t, h1, h2⟩ := bd f cdv A out s H vs Q E hg hr h
    ⟨t, h1.nox, h2⟩
  refine ⟨⟨f, fd, [], ok, hm, F.kp, bnd f fd F, .nil⟩, fun f2 fd2 e2 ⟨oc, od, osl, l2⟩ => ?_⟩
  rw [hm] at e2
  cases e2
  obtain ⟨_, _, _, _, _, _, _, _, _, _, rfl, l1, _⟩ := F.ex
  rw [l1] at l2
  cases l2
  exact ⟨ok, F.kp⟩
end

theorem dp_ints {K : PySem.W.Frag} {H : Hp} : ∀ ns : List Int, DpAll K H (ns.map V.int) (ns.map PyData.int)
  | [] => .nil
  | n :: ns => .cons (.int n) (dp_ints ns)
theorem shaped_ints (ns : List Int) : SeqAt.shaped (.list (ns.map PyData.int)) = true := by
  have h2 : PyData.depthAll (ns.map PyData.int) = 0 := by
    induction ns with
    | nil => rfl
    | cons n ns ih => simp [PyData.depthAll, PyData.depth] at ih ⊢; exact ih
  have h1 : PyData.canLayAll0 (ns.map PyData.int) = true := by
    clear h2
    induction ns with
    | nil => rfl
    | cons n ns ih => simp [PyData.canLayAll0, PyData.canLay0, ih]
  simp [SeqAt.shaped, PyData.canLay0, PyData.depth, h1, h2]
theorem eqv_ints_nil (ns : List Int) : PyData.eqv (.list (ns.map PyData.int)) (.list []) = ns.isEmpty := by
  cases ns <;> simp [PyData.eqv, PyData.eqvAll]
theorem atI_mod {α : Type} {xs : List α} (h : 0 < xs.length) (i : Int) : ∃ (j : Nat) (x : α), (i % (xs.length : Int)) = (j : Int) ∧ xs[j]? = some x ∧ atI xs (i % (xs.length : Int)) = some x := by
  have h0 : 0 ≤ i % (xs.length : Int) := Int.emod_nonneg _ (by omega)
  have h1 : i % (xs.length : Int) < xs.length := Int.emod_lt_of_pos _ (by omega)
  obtain ⟨j, hj⟩ := Int.eq_ofNat_of_zero_le h0
  rw [hj]
  have hlt : j < xs.length := by omega
  exact ⟨j, xs[j], rfl, List.getElem?_eq_getElem hlt, atI_nat (List.getElem?_eq_getElem hlt)⟩
theorem mul_box {a b A B : Int} (h1 : 0 ≤ a) (h2 : a ≤ A) (h3 : 0 ≤ b) (h4 : b ≤ B) : 0 ≤ a * b ∧ a * b ≤ A * B :=
  ⟨Int.mul_nonneg h1 h3, Int.mul_le_mul h2 h4 h3 (Int.le_trans h1 h2)⟩
/-! ### calls by keywords alone -/
def kwOnly {α : Type} (g : List α → List α) : List α → List α → List α := fun us ws => match us with
  | [] => g ws
  | _ => []
theorem pe_dK {X : Cx} {CX : CXT} {k : Nat} {ps ks : List Str} {sp : Sp} {E : XK} {x : Str} {p pos : Pos} {kws : List Keyword} {tk : TA} {st : Stmt} {g : {α : Type} → List α → List α}
    (D : DefOk X.prog X.w X.K X.mg X.base CX k x ps [] sp) (a : At X.K X.mg x st) (hr : Room k X.A) (hx : Passes CX X E)
    (hb : ∀ (kV doc pm : Value) (an : Option Addr) (cdv ct : Value) (ws : List Value), (g ws).length = ps.length → bindArgs (PySem.W.fnOf x x (defArgs st) (defBody st) (defScope st) .none kV doc pm an cdv ct) ⟨[], ks.zip ws⟩ = pure (ps.zip (g ws)))
    (rel : ∀ {zs : List V} {ws : List Value}, Vals zs ws → Vals (g zs) (g ws)) (hn : ps ≠ []) (hkw : PK X kws tk) (hg : Gl X x := by rfl) (hall : (backToKw pos (keywordEach kws X.env)).all (·.1.isSome) = true := by rfl)
    (hks : (backToKw pos (keywordEach kws X.env)).filterMap (·.1) = ks := by rfl) (hdb : (x == ("__debug__" : Str)) = false := by decide)
    (hpl : ((backTo pos (starEach [] X.env)).any (·.1) || (backToKw pos (keywordEach kws X.env)).any (·.1.isNone)) = false := by rfl) :
    PE X (.Call (.Name x p) [] kws pos) (fun σ H Q => tk σ H fun zs H2 => sp (g zs) H2 Q E) := by
  obtain ⟨f, fd, F, hm⟩ := a.ex
  obtain ⟨oc, od, dV, kV, doc, pm, an, cdv, ct, osl, rfl, l1, hcd, hD, hK⟩ := F.ex
  obtain ⟨ok, kp⟩ := D.lk f _ hm ⟨_, _, _, l1⟩
  rcases hD with ⟨_, rfl⟩ | ⟨e, _⟩
  · have KB : KBinds X.K (PySem.W.fnOf x x (defArgs st) (defBody st) (defScope st) .none kV doc pm an cdv ct) ps ks (kwOnly g) (kwOnly g) := by
      refine ⟨fun s us ws X hl => ?_, fun {vs us zs ws} r1 r2 => ?_⟩
      · match us, hl with
        | [], hl => exact .of_eq (hb _ _ _ _ _ _ ws hl)
        | _ :: _, hl => exact (hn (List.eq_nil_of_length_eq_zero (Eq.symm hl))).elim
      · cases r1 with
        | nil => exact rel r2
        | cons _ _ => exact .nil
    refine ⟨fun pins s σ H Q I h => wpAny_Call_Name_kw (ld_glob I hg hm ?_ hdb)⟩
    refine PySem.W.callWith_KW0 (h₀ := X.base) I.ok.mod.kin kp hall (thn (hkw.run pos pins s σ H _ I h) ?_) hpl
    rintro ws s2 ⟨zs, H2, I2, rz, q2⟩
    refine ⟨I2.kIn, ?_⟩
    rw [hks]
    exact run_fnk (vs := []) (us := []) ok hr KB hx I2 .nil rz q2
  · exact absurd rfl e

/-! ### what draws -/
/-- a pen at p: its cells at c, at most n of them are drawn -/
structure Pen (H : Hp) (p c : Addr) (n : Nat) : Prop where
  ex : ∃ (ns : List Int) (spot great : Int), H p = some (.lst [.ref c, .int spot, .int great]) ∧ H c = some (.lst (ns.map V.int)) ∧ ns.length ≤ 63 ∧ 0 ≤ spot ∧ spot ≤ n ∧ 0 ≤ great
theorem Pen.ne {H : Hp} {p c : Addr} {n : Nat} (h : Pen H p c n) : c ≠ p := by
  rintro rfl
  obtain ⟨ns, s, g, h1, h2, _⟩ := h.ex
  rw [h1] at h2
  cases ns with
  | nil => cases h2
  | cons a as => cases h2
theorem Pen.mono {H : Hp} {p c : Addr} {n m : Nat} (h : Pen H p c n) (hm : n ≤ m) : Pen H p c m :=
  let ⟨ns, s, g, h1, h2, h3, h4, h5, h6⟩ := h.ex
  ⟨ns, s, g, h1, h2, h3, h4, by omega, h6⟩
/-- all but p is as it was -/
def But (p : Addr) (H H' : Hp) : Prop := ∀ b o, H b = some o → b ≠ p → H' b = some o
theorem But.refl (p : Addr) (H : Hp) : But p H H := fun _ _ h _ => h
theorem But.trans {p : Addr} {H H1 H2 : Hp} (a : But p H H1) (b : But p H1 H2) : But p H H2 := fun x o h n => b x o (a x o h n) n
theorem But.new {p q : Addr} {H H1 : Hp} {o : HO} (a : But p H H1) (h : H1 q = none) : But p H (upd H1 q o) := fun x u e n => by
  have z := a x u e n
  rw [upd_ne (ne_of_none z h)]
  exact z
theorem But.self {p : Addr} {H H1 : Hp} {o : HO} (a : But p H H1) : But p H (upd H1 p o) := fun x u e n => by
  rw [upd_ne n]
  exact a x u e n
theorem Pen.new {H : Hp} {p c q : Addr} {n : Nat} {o : HO} (h : Pen H p c n) (hq : H q = none) : Pen (upd H q o) p c n := by
  obtain ⟨ns, s, g, h1, h2, h3⟩ := h.ex
  exact ⟨ns, s, g, by rw [upd_ne (ne_of_none h1 hq)]; exact h1, by rw [upd_ne (ne_of_none h2 hq)]; exact h2, h3⟩
theorem Pen.ext {H H' : Hp} {p c : Addr} {n : Nat} (h : Pen H p c n) (k : ∀ b o, H b = some o → H' b = some o) : Pen H' p c n := by
  obtain ⟨ns, s, g, h1, h2, h3⟩ := h.ex
  exact ⟨ns, s, g, k _ _ h1, k _ _ h2, h3⟩
def spPen (K : PySem.W.Frag) : Sp := fun vs H Q _ => ∃ (a : Addr) (ns : List Int), vs = [.ref a] ∧ SqL K H a (ns.map V.int) ∧ ns.length ≤ 63 ∧
  ∀ p c H', H p = none → H c = none → Pen H' p c 0 → (∀ b o, H b = some o → H' b = some o) → Q (.ref p) H'
def spDraw : Sp := fun vs H Q _ => ∃ (p c : Addr) (n : Nat) (m : Int), vs = [.ref p, .int m] ∧ Pen H p c n ∧ n ≤ 1000000 ∧ 0 < m ∧ m < 1073741824 ∧
  ∀ k H', 0 ≤ k → k < m → Pen H' p c (n + 1) → But p H H' → Q (.int k) H'
def spPick (K : PySem.W.Frag) : Sp := fun vs H Q _ => ∃ (p c l : Addr) (n : Nat) (xs : List V), vs = [.ref p, .ref l] ∧ Pen H p c n ∧ n ≤ 1000000 ∧ SqL K H l xs ∧ l ≠ p ∧ xs ≠ [] ∧ xs.length < 1000000 ∧
  ∀ (i : Nat) (x : V) H', xs[i]? = some x → Pen H' p c (n + 1) → But p H H' → Q x H'

theorem cut_map {α : Type} (f : α → V) (xs : List α) (lo hi : Option Int) : ∃ ys : List α, cutV (xs.map f) lo hi = ys.map f ∧ ys.length ≤ xs.length ∧ ∀ y ∈ ys, y ∈ xs := by
  unfold cutV
  rw [List.length_map]
  generalize HT.sIx xs.length 0 lo = i
  generalize HT.sIx xs.length xs.length hi - i = j
  refine ⟨(xs.drop i).take j, by rw [List.map_take, List.map_drop], ?_, fun y hy => List.mem_of_mem_drop (List.mem_of_mem_take hy)⟩
  rw [List.length_take, List.length_drop]
  omega
/-- what is kept -/
def Ext (H H' : Hp) : Prop := ∀ b o, H b = some o → H' b = some o
theorem Ext.refl (H : Hp) : Ext H H := fun _ _ h => h
theorem Ext.trans {H H1 H2 : Hp} (a : Ext H H1) (b : Ext H1 H2) : Ext H H2 := fun x o h => b x o (a x o h)
theorem Ext.new {H H1 : Hp} {q : Addr} {o : HO} (a : Ext H H1) (h : H1 q = none) : Ext H (upd H1 q o) := fun x u e => by
  have z := a x u e
  rw [upd_ne (ne_of_none z h)]
  exact z
theorem Ext.mut {H H1 : Hp} {q : Addr} {o : HO} (a : Ext H H1) (h : H q = none) : Ext H (upd H1 q o) := fun x u e => by
  rw [upd_ne (ne_of_none e h)]
  exact a x u e
theorem But.mut {p q : Addr} {H H1 : Hp} {o : HO} (a : But p H H1) (h : H q = none) : But p H (upd H1 q o) := fun x u e n => by
  rw [upd_ne (ne_of_none e h)]
  exact a x u e n
theorem Ext.but {H H1 : Hp} {p : Addr} (a : Ext H H1) : But p H H1 := fun x u e _ => a x u e
theorem ext_new {H : Hp} {q : Addr} {o : HO} (h : H q = none) : Ext H (upd H q o) := (Ext.refl H).new h
theorem Ext.sq {K : PySem.W.Frag} {H H' : Hp} {a : Addr} {xs : List V} (e : Ext H H') (h : SqL K H a xs) : SqL K H' a xs := Evl.ex_l e h
theorem Ext.st {K : PySem.W.Frag} {H H' : Hp} {a : Addr} {xs : List V} (e : Ext H H') (h : SqT K H a xs) : SqT K H' a xs := Evl.ex_t e h
theorem But.sq {K : PySem.W.Frag} {H H' : Hp} {p a : Addr} {xs : List V} (e : But p H H') (hn : a ≠ p) (h : SqL K H a xs) : SqL K H' a xs := by
  rcases h with h | h
  · rcases h with h | ⟨o, h⟩
    · exact .inl (.inl (e a _ h hn))
    · exact .inl (.inr ⟨o, e a _ h hn⟩)
  · exact .inr h
theorem But.st {K : PySem.W.Frag} {H H' : Hp} {p a : Addr} {xs : List V} (e : But p H H') (hn : a ≠ p) (h : SqT K H a xs) : SqT K H' a xs := by
  rcases h with h | h
  · rcases h with h | ⟨o, h⟩
    · exact .inl (.inl (e a _ h hn))
    · exact .inl (.inr ⟨o, e a _ h hn⟩)
  · exact .inr h

/-! ### comprehensions over a text -/
section
theorem wipe_one (σ : L2.St) (i : Nat) (x : Option V) : wipe ((wipe σ [i]).set i x) [i] = wipe σ [i] := by
  show ((σ.set i none).set i x).set i none = σ.set i none
  rw [List.set_set, List.set_set]
/-- [f c for c in z if b c], nothing else touched -/
theorem lc_txt {i : Nat} {tt : TT} {te : TE} {σ : L2.St} {H1 : Hp} {D : Addr} {Qd : Hp → Prop} {z : Str} (b : Nat → Bool) (f : Nat → V)
    (ht : ∀ c H (Q : Bool → Hp → Prop), c ∈ z.cps.toList → Q (b c) H → tt ((wipe σ [i]).set i (some (.str ⟨#[c]⟩))) H Q)
    (he : ∀ c H (Q : VK), c ∈ z.cps.toList → b c = true → Q (f c) H → te ((wipe σ [i]).set i (some (.str ⟨#[c]⟩))) H Q)
    (hz : z.length ≤ sizeLine) (hd : Qd (upd H1 D (.lst ((z.cps.toList.filter b).map f)))) :
    ∃ W : Nat → Nat → Hp → Prop, (∃ m, W 0 m (upd H1 D (.lst []))) ∧ ∀ i' m H, W i' m H →
      ((Its z).stop i' H ∧ Qd H) ∨ ((Its z).go i' H ∧ ∃ Nx : Hp → Prop, (∀ H', Nx H' → ∃ m', m' < m ∧ W (i' + 1) m' H') ∧ ∀ x H', (Its z).yld i' H x H' → gName i x (wipe σ [i]) H' fun σ2 H2 => wipe σ2 [i] = wipe σ [i] ∧ tt σ2 H2 fun b H3 =>
        if b = true then te σ2 H3 fun y H4 => ∃ acc, H4 D = some (.lst acc) ∧ acc.length < sizeLine ∧ Nx (upd H4 D (.lst (acc ++ [y]))) else Nx H3) := by
  have hsz : z.cps.size = z.cps.toList.length := by simp
  refine lc_it (J := Its z) walk_str (fun i H => H = upd H1 D (.lst (((z.cps.toList.take i).filter b).map f))) (by simp) (fun _ _ _ _ => trivial) ?_ ?_
  · rintro j x H H' hj rfl ⟨rfl, c, hc, rfl⟩
    have hj2 : j < z.cps.toList.length := by omega
    have hc2 : z.cps.toList[j]? = some c := by simpa using hc
    have hm : c ∈ z.cps.toList := List.mem_of_getElem? hc2
    have tk : z.cps.toList.take (j + 1) = z.cps.toList.take j ++ [c] := by rw [List.take_succ, hc2]; rfl
    refine ⟨wipe_one _ _ _, ht c _ _ hm ?_⟩
    cases hb : b c with
    | true =>
      refine iteT (he c _ _ hm hb ⟨_, upd_same, ?_, ?_⟩)
      · rw [List.length_map]
        refine Nat.lt_of_le_of_lt (List.length_filter_le _ _) ?_
        rw [List.length_take]
        have : z.length = z.cps.toList.length := by simp [Str.length]
        omega
      · rw [upd_upd, tk, List.filter_append, List.map_append]
        simp [List.filter, hb]
    | false =>
      refine iteF ?_
      rw [tk, List.filter_append, List.map_append]
      simp [List.filter, hb]
  · intro H h
    subst h
    rw [hsz, List.take_length]
    exact hd
end
theorem lc_txt1 {i : Nat} {te : TE} {σ : L2.St} {H1 : Hp} {D : Addr} {Qd : Hp → Prop} {z : Str} (f : Nat → V)
    (he : ∀ c H (Q : VK), c ∈ z.cps.toList → Q (f c) H → te ((wipe σ [i]).set i (some (.str ⟨#[c]⟩))) H Q)
    (hz : z.length ≤ sizeLine) (hd : Qd (upd H1 D (.lst (z.cps.toList.map f)))) :
    ∃ W : Nat → Nat → Hp → Prop, (∃ m, W 0 m (upd H1 D (.lst []))) ∧ ∀ i' m H, W i' m H →
      ((Its z).stop i' H ∧ Qd H) ∨ ((Its z).go i' H ∧ ∃ Nx : Hp → Prop, (∀ H', Nx H' → ∃ m', m' < m ∧ W (i' + 1) m' H') ∧ ∀ x H', (Its z).yld i' H x H' → gName i x (wipe σ [i]) H' fun σ2 H2 => wipe σ2 [i] = wipe σ [i] ∧ tYes σ2 H2 fun b H3 =>
        if b = true then te σ2 H3 fun y H4 => ∃ acc, H4 D = some (.lst acc) ∧ acc.length < sizeLine ∧ Nx (upd H4 D (.lst (acc ++ [y]))) else Nx H3) :=
  lc_txt (fun _ => true) f (fun _ _ _ _ q => q) (fun c H Q hc _ q => he c H Q hc q) hz (by
    rw [List.filter_eq_self.mpr fun _ _ => rfl]
    exact hd)
theorem yes_go {σ : L2.St} {H : Hp} {P R : Hp → Prop} (h : P H) : tYes σ H (fun b H3 => if b = true then P H3 else R H3) := by
  have e : (if true = true then P H else R H) = P H := if_pos rfl
  exact e.mpr h
theorem scal_str (a b : Str) : scal (.str a) (.str b) = true := rfl
/-! ### what is at hand at once -/
def Pu (te : TE) (σ : L2.St) (v : V) : Prop := ∀ H (Q : VK), Q v H → te σ H Q
theorem pu_var {σ : L2.St} {i : Nat} {v : V} (h : σ[i]? = some (some v)) : Pu (tVar i) σ v := fun _ _ q => ⟨v, h, q⟩
theorem pu_c {σ : L2.St} {v : V} : Pu (tC v) σ v := fun _ _ q => q
theorem ch_le {ta tb tc : TE} {σ : L2.St} {H : Hp} {Q : VK} {i j k : Int} (ha : Pu ta σ (.int i)) (hb : Pu tb σ (.int j)) (hc : Pu tc σ (.int k)) (q : Q (.bl (decide (i ≤ j ∧ j ≤ k))) H) :
    tChain (rI0 fun i j => .bl (decide (i ≤ j))) (rI0 fun i j => .bl (decide (i ≤ j))) ta tb tc σ H Q := by
  refine ha H _ (hb H _ ⟨i, j, rfl, rfl, _, rfl, ?_⟩)
  by_cases h1 : i ≤ j
  · rw [decide_eq_true h1]
    refine iteT (hc H _ ⟨j, k, rfl, rfl, ?_⟩)
    have e : decide (i ≤ j ∧ j ≤ k) = decide (j ≤ k) := decide_eq_decide.mpr ⟨fun z => z.2, fun z => ⟨h1, z⟩⟩
    show Q (.bl (decide (j ≤ k))) H
    rw [← e]
    exact q
  · rw [decide_eq_false h1]
    refine iteF ?_
    have e : decide (i ≤ j ∧ j ≤ k) = false := decide_eq_false fun z => h1 z.1
    rw [← e]
    exact q
theorem iff_str (a b : Str) : decide (V.str a = V.str b) = decide (a.cps.toList = b.cps.toList) := by
  have e : (V.str a = V.str b) ↔ (a.cps.toList = b.cps.toList) := by
    constructor
    · intro h
      cases h
      rfl
    · intro h
      rw [← SX.S_tl a, ← SX.S_tl b, h]
  exact decide_eq_decide.mpr e
theorem cut_to (z : Str) {i : Int} (h : 0 ≤ i) : cutS z none (some i) = SX.S (z.cps.toList.take i.toNat) := by
  conv => lhs; rw [← SX.S_tl z]
  rw [C8.cutS_slice, SX.slice_to h]
theorem cut_from (z : Str) {i : Int} (h : 0 ≤ i) : cutS z (some i) none = SX.S (z.cps.toList.drop i.toNat) := by
  conv => lhs; rw [← SX.S_tl z]
  rw [C8.cutS_slice, SX.slice_from h]
theorem len_tl (z : Str) : z.length = z.cps.toList.length := by simp [Str.length]

/-! ### isinstance of plain things -/
/-- a value whose type is known and is none of int, bool, str -/
def Odd (K : PySem.W.Frag) (H : Hp) : V → Prop
  | .non => True
  | .bl _ => True
  | .int _ => True
  | .str _ => True
  | .ref a => ∃ t, TyX K H (.ref a) t ∧ PySem.W.kitOne K t (.type "int") = some false ∧ PySem.W.kitOne K t (.type "bool") = some false ∧ PySem.W.kitOne K t (.type "str") = some false
  | _ => False
def vInt : V → Bool
  | .int _ => true
  | .bl _ => true
  | _ => false
def vBool : V → Bool
  | .bl _ => true
  | _ => false
def vStr : V → Bool
  | .str _ => true
  | _ => false
def vPlain (v : V) : Bool := vInt v && !vBool v
section
variable {K : PySem.W.Frag} {H : Hp} {v : V} {Q : VK}
theorem odd_int (h : Odd K H v) : ∃ t, TyX K H v t ∧ PySem.W.kitOne K t (.type "int") = some (vInt v) := by
  cases v with
  | non => exact ⟨_, .base .non, kit_ty (r := false) (by decide +kernel)⟩
  | bl b => exact ⟨_, .base (.bl b), kit_ty (r := true) (by decide +kernel)⟩
  | int i => exact ⟨_, .base (.int i), kit_ty (r := true) (by decide +kernel)⟩
  | str x => exact ⟨_, .base (.str x), kit_ty (r := false) (by decide +kernel)⟩
  | ref a => obtain ⟨t, ty, h1, _⟩ := h; exact ⟨t, ty, h1⟩
  | byt _ => exact h.elim
  | flt _ => exact h.elim
  | ty _ => exact h.elim
theorem odd_bool (h : Odd K H v) : ∃ t, TyX K H v t ∧ PySem.W.kitOne K t (.type "bool") = some (vBool v) := by
  cases v with
  | non => exact ⟨_, .base .non, kit_ty (r := false) (by decide +kernel)⟩
  | bl b => exact ⟨_, .base (.bl b), kit_ty (r := true) (by decide +kernel)⟩
  | int i => exact ⟨_, .base (.int i), kit_ty (r := false) (by decide +kernel)⟩
  | str x => exact ⟨_, .base (.str x), kit_ty (r := false) (by decide +kernel)⟩
  | ref a => obtain ⟨t, ty, _, h1, _⟩ := h; exact ⟨t, ty, h1⟩
  | byt _ => exact h.elim
  | flt _ => exact h.elim
  | ty _ => exact h.elim
theorem odd_str (h : Odd K H v) : ∃ t, TyX K H v t ∧ PySem.W.kitOne K t (.type "str") = some (vStr v) := by
  cases v with
  | non => exact ⟨_, .base .non, kit_ty (r := false) (by decide +kernel)⟩
  | bl b => exact ⟨_, .base (.bl b), kit_ty (r := false) (by decide +kernel)⟩
  | int i => exact ⟨_, .base (.int i), kit_ty (r := false) (by decide +kernel)⟩
  | str x => exact ⟨_, .base (.str x), kit_ty (r := true) (by decide +kernel)⟩
  | ref a => obtain ⟨t, ty, _, _, h1⟩ := h; exact ⟨t, ty, h1⟩
  | byt _ => exact h.elim
  | flt _ => exact h.elim
  | ty _ => exact h.elim
theorem odd_lst {a : Addr} {xs : List V} (h : H a = some (.lst xs)) : Odd K H (.ref a) := ⟨_, .base (.lst h), kit_ty (by decide +kernel), kit_ty (by decide +kernel), kit_ty (by decide +kernel)⟩
theorem odd_tup {a : Addr} {xs : List V} (h : H a = some (.tup xs)) : Odd K H (.ref a) := ⟨_, .base (.tup h), kit_ty (by decide +kernel), kit_ty (by decide +kernel), kit_ty (by decide +kernel)⟩
theorem odd_dK {a : Addr} {xs : List (Key × V)} (h : H a = some (.dK xs)) : Odd K H (.ref a) := ⟨_, .base (.dK h), kit_ty (by decide +kernel), kit_ty (by decide +kernel), kit_ty (by decide +kernel)⟩
end

/-! ### the law's end, the guards told -/
def NoDig (h : Heap) : Prop := ∃ mc : Str → Option Value, h.Ns cStatics mc ∧ mc "sys.int_max_str_digits" = none
theorem NoDig.keeps {h h' : Heap} (x : NoDig h) (hk : ∀ b o, h.get? b = some o → h'.get? b = some o) : NoDig h' :=
  let ⟨mc, a, b⟩ := x
  ⟨mc, a.keeps hk, b⟩

/-- the entry's state, H all that is tracked there: the script alone, or nothing -/
theorem enterG {P : Program} {w : World} {K : PySem.W.Frag} {mg mb : Str → Option Value} {a : Addr} {s : Shared} {vs : List Value} (KX : K.In s.heap) (hns : s.heap.Ns mainGlobals mg) (hb : s.heap.Ns builtinsNs mb)
    (hbb : ∀ x : Str, x ≠ "__name__" → mb x = bootBuiltins x) (hlim : s.heap.NoLimit) (hg : s.gens = #[]) (ha : s.heap.get? a = some { cls := .type "list", data := .seq vs.toArray })
    {H : Hp} (hok : HOk P w H s.heap) (hA : ∀ b, H b ≠ none → b = a) (hK : H a ≠ none → K.lookup a = none) :
    K.In (hidT s.heap H) ∧ (hidT s.heap H).Ns mainGlobals mg ∧ (NoDig s.heap → NoDig (hidT s.heap H)) ∧ Env0 P w K mg (hidT s.heap H) callerA [] s H := by
  have free : ∀ {b : Addr} {o : Obj}, s.heap.get? b = some o → (o ≠ { cls := .type "list", data := .seq vs.toArray } ∨ K.lookup b = some o) → H b = none := by
    intro b o e d
    by_cases z : H b = none
    · exact z
    · have eb := hA b z
      subst eb
      rcases d with d | d
      · rw [ha] at e
        exact (d (Option.some.inj e).symm).elim
      · rw [hK z] at d
        cases d
  have ns : ∀ {b : Addr} {m : Str → Option Value}, s.heap.Ns b m → (hidT s.heap H).Ns b m := by
    rintro b m ⟨o, es, ep, e, d, r⟩
    refine ⟨o, es, ep, hidT_get e (free e (.inl fun z => ?_)), d, r⟩
    rw [z] at d
    cases d
  have kin : K.In (hidT s.heap H) := fun b o e => hidT_get (KX b o e) (free (KX b o e) (.inr e))
  obtain ⟨mc, h1, h2⟩ := hlim
  exact ⟨kin, ns hns, fun ⟨md, d1, d2⟩ => ⟨md, ns d1, d2⟩, ⟨rfl, ⟨kin, ns hns, ⟨mb, ns hb, hbb⟩, ⟨mc, ns h1, h2⟩⟩, fun b o e => of_hidT e, Nat.le_of_eq (hidT_size _ _), trivial,
    fun b z => absurd (show b ∈ ([] : List Addr) from z) (by simp), hok, .of_eq hg⟩⟩
theorem leaveG {P : Program} {w : World} {s s' : Shared} {H H' : Hp} (hO : Only H) (hok : HOk P w H s.heap) (hok' : HOk P w H' s'.heap) (un : Un (frs []) [] H H' s.heap s'.heap) : OldK s.heap s'.heap := by
  refine OldK.of_keep fun b o e => ?_
  rcases hO b with z | ⟨ob, xs, z⟩
  · exact un.keep b o e z (fun y => absurd (show b ∈ ([] : List Addr) from y) (by simp)) (by simp)
  · have e1 := (hok b _ z).1
    have e2 := (hok' b _ (un.frzs b ob _ z)).1
    rw [e] at e1
    cases e1
    exact e2
theorem lawG {P : Program} {w : World} {K : PySem.W.Frag} {mg mb : Str → Option Value} {k : Nat} {fa a : Addr} {fd : FuncData} {x : Str} {sp : Sp} {s : Shared} {vs : List Value} {ns : List Int}
    (KX : K.In s.heap) (hns : s.heap.Ns mainGlobals mg) (hb : s.heap.Ns builtinsNs mb) (hbb : ∀ x : Str, x ≠ "__name__" → mb x = bootBuiltins x) (hlim : s.heap.NoLimit) (hdig : NoDig s.heap) (hg : s.gens = #[])
    (ha : s.heap.get? a = some { cls := .type "list", data := .seq vs.toArray }) (hi : IntsAre vs ns) (hl : ns.length ≤ sizeLine) (hr : Room k callerA)
    (F : ∀ base : Heap, K.In base → base.Ns mainGlobals mg → NoDig base → FnG P w K mg base CX0 k fa fd [x] sp) (hbind : ∀ (s : Shared) (u : Value), BindsTo s fd ⟨[u], []⟩ [(x, u)])
    (hsp : ∀ H : Hp, Only H → SqL K H a (ns.map V.int) → sp [.ref a] H (fun v _ => v = .bl true) fun _ _ _ => False) :
    codeAny (model P w) callerA (.call (.ref fa) ⟨[.ref a], []⟩) (fun r s' => r = .ok (.ret (.bool true)) ∧ OldK s.heap s'.heap ∧ s'.os = s.os ∧ AllBare s'.gens) s := by
  have rv := vals_ints hi
  have run : ∀ H : Hp, Only H → SqL K H a (ns.map V.int) → HOk P w H s.heap → (∀ b, H b ≠ none → b = a) → (H a ≠ none → K.lookup a = none) →
      codeAny (model P w) callerA (.call (.ref fa) ⟨[.ref a], []⟩) (fun r s' => r = .ok (.ret (.bool true)) ∧ OldK s.heap s'.heap ∧ s'.os = s.os ∧ AllBare s'.gens) s := by
    intro H hO hS hok hA hK
    obtain ⟨kin, nsb, ndb, e0⟩ := enterG KX hns hb hbb hlim hg ha hok hA hK
    refine codeAny_mono ((F _ kin nsb (ndb hdig)).go callerA [] s H ⟨[.ref a], []⟩ [.ref a] [.ref a] _ _ rfl hr e0 (hbind s (.ref a)) (.cons rfl .nil) (hsp H hO hS)) ?_
    intro r s' h
    match r, h with
    | .error e, h => exact (show False from h).elim
    | .ok .next, h => exact (show False from h).elim
    | .ok .brk, h => exact (show False from h).elim
    | .ok .cont, h => exact (show False from h).elim
    | .ok (.ret u), ⟨v, H', os, bare, un, hok', r2, q⟩ =>
      obtain rfl : v = .bl true := q
      obtain rfl : u = Value.bool true := r2
      exact ⟨rfl, leaveG hO hok hok' un, os, bare⟩
  cases hk : K.lookup a with
  | some o =>
    have e := KX a o hk
    rw [ha] at e
    cases e
    exact run (fun _ => none) (fun _ => .inl rfl) (.inr ⟨_, vs.toArray, _, hk, rfl, rfl, rfl, by rw [List.size_toArray, hi.length]; exact hl, by simpa using rv⟩) (fun b u z => nomatch (show (none : Option HO) = some u from z))
      (fun b z => absurd rfl z) fun z => absurd rfl z
  | none =>
    have at_a : (upd (fun _ => none) a (.frz { cls := .type "list", data := .seq vs.toArray } (.lst (ns.map V.int)))) a = some (.frz { cls := .type "list", data := .seq vs.toArray } (.lst (ns.map V.int))) := upd_same
    refine run (upd (fun _ => none) a (.frz { cls := .type "list", data := .seq vs.toArray } (.lst (ns.map V.int)))) (fun b => ?_) (.inl (.inr ⟨_, at_a⟩)) (fun b u z => ?_) (fun b z => ?_) fun _ => hk
    · by_cases hb : b = a
      · exact .inr ⟨_, _, (congrArg _ hb).trans at_a⟩
      · exact .inl (upd_ne hb)
    · by_cases hb : b = a
      · subst hb
        rw [at_a] at z
        cases z
        exact ⟨ha, by rw [List.length_map]; exact hl, vs, _, rv, ha⟩
      · rw [upd_ne hb] at z
        cases z
    · by_cases hb : b = a
      · exact hb
      · exact absurd (upd_ne hb) z
theorem walkG {l : PySem.W.OpenLaw} {n k : Nat} {q : Program} {loose : List Str} {XP : (Str → Option Value) → Heap → Prop} {YP : World → Heap → Prop} {d : DefRec} {x : Str}
    (hn : l.most = some n) (hn2 : n ≤ sizeLine) (hdf : d.params.defaults = []) (hr : Room k callerA)
    (F : ∀ (w : World) (mg : Str → Option Value) (fa : Addr) (h : Heap), YP w h → h.Ns mainGlobals mg → mg d.name = some (.ref fa) →
      ∃ (K : PySem.W.Frag) (fd : FuncData) (sp : Sp), K.In h ∧ (∀ (s : Shared) (u : Value), BindsTo s fd ⟨[u], []⟩ [(x, u)]) ∧
        (∀ (H : Hp) (a : Addr) (ns : List Int), ns.length ≤ n → Only H → SqL K H a (ns.map V.int) → sp [.ref a] H (fun v _ => v = .bl true) fun _ _ _ => False) ∧
        ∀ base : Heap, K.In base → base.Ns mainGlobals mg → NoDig base → FnG l.prog w K mg base CX0 k fa fd [x] sp) :
    PySem.W.WalkO q loose XP YP l.row.toRowW d [] (fun f vs => PySem.call f vs) := by
  refine Att.attach_call hn hdf fun w s0 s mg mb fa o pm cd doc a vs ns G Y ho hd hcd hmg hobj hints hlen hg => ?_
  obtain ⟨K, fd, sp, KX, hb, hsp, hF⟩ := F w mg fa _ Y G.T.g hmg
  exact lawG KX G.T.g G.T.b G.T.builtins G.T.nolimit G.T.nodigits hg hobj hints (Nat.le_trans hlen hn2) hr hF hb fun H hO hS => hsp H a ns hlen hO hS
end Gs

set_option maxRecDepth 100000
set_option maxHeartbeats 4000000
namespace Gs
open PySem PySem.Spec PyProof.Rows L2
/-! ### figures: what a number's text is -/
theorem dv_snoc (a : List Nat) (c : Nat) : NumText.digitsVal (a ++ [c]) = NumText.digitsVal a * 10 + (c - 48) := by
  simp [NumText.digitsVal, List.foldl_append]
theorem rev_ind {α : Type} {p : List α → Prop} (h0 : p []) (hs : ∀ a c, p a → p (a ++ [c])) (l : List α) : p l := by
  rw [← List.reverse_reverse l]
  induction l.reverse with
  | nil => exact h0
  | cons x xs ih => rw [List.reverse_cons]; exact hs _ _ ih
theorem dv_lt {a : List Nat} (h : NumText.AllDigits a) : NumText.digitsVal a < 10 ^ a.length := by
  induction a using rev_ind with
  | h0 => simp [NumText.digitsVal]
  | hs a c ih =>
    have hc := h c (by simp)
    have ha := ih fun d hd => h d (by simp [hd])
    rw [dv_snoc, List.length_append, List.length_singleton, Nat.pow_succ]
    omega
/-- without a nought ahead a text of figures is the text of its number -/
theorem dv_back {a : List Nat} (h : NumText.AllDigits a) (hne : a ≠ []) (h0 : a.head? ≠ some 48) : TL.numL (NumText.digitsVal a) = a ∧ 0 < NumText.digitsVal a := by
  induction a using rev_ind with
  | h0 => exact absurd rfl hne
  | hs a c ih =>
    have hc := h c (by simp)
    by_cases ha : a = []
    · subst ha
      have e : NumText.digitsVal ([] ++ [c]) = c - 48 := by simp [NumText.digitsVal]
      have hc0 : c ≠ 48 := by simpa using h0
      rw [e, TL.numL_lt (by omega)]
      refine ⟨?_, by omega⟩
      show [48 + (c - 48)] = [c]
      congr 1
      omega
    · obtain ⟨i1, i2⟩ := ih (fun d hd => h d (by simp [hd])) ha (by
        cases a with
        | nil => exact absurd rfl ha
        | cons x xs => simpa using h0)
      rw [dv_snoc]
      refine ⟨?_, by omega⟩
      rw [TL.numL_step (by omega), show (NumText.digitsVal a * 10 + (c - 48)) / 10 = NumText.digitsVal a by omega, show (NumText.digitsVal a * 10 + (c - 48)) % 10 = c - 48 by omega, i1]
      congr 2
      omega
/-- with a nought ahead it is not, but "0" -/
theorem dv_nought {a : List Nat} (h : NumText.AllDigits a) (h0 : a.head? = some 48) : TL.numL (NumText.digitsVal a) = a ↔ a = [48] := by
  constructor
  · intro e
    cases a with
    | nil => cases h0
    | cons x xs =>
      have hx : x = 48 := by simpa using h0
      subst hx
      cases xs with
      | nil => rfl
      | cons y ys =>
        have h2 : NumText.AllDigits (y :: ys) := fun d hd => h d (by simp at hd ⊢; exact .inr hd)
        have e2 : NumText.digitsVal (48 :: y :: ys) = NumText.digitsVal (y :: ys) := by simp [NumText.digitsVal]
        have lt := dv_lt h2
        rw [e2] at e
        have l1 := TL.numL_len (n := NumText.digitsVal (y :: ys)) (k := (y :: ys).length) (by simp) lt
        rw [e] at l1
        simp at l1
        omega
  · rintro rfl
    decide +kernel
/-- the signs of an integer's text -/
def codesI (i : Int) : List Nat := if i < 0 then 45 :: TL.numL i.natAbs else TL.numL i.natAbs
theorem tl_int (i : Int) : (Str.ofString (toString i)).cps.toList = codesI i := by
  unfold codesI
  by_cases h : i < 0
  · rw [if_pos h]
    obtain ⟨n, rfl⟩ : ∃ n : Nat, i = Int.negSucc n := ⟨(-i - 1).toNat, by omega⟩
    have e : toString (Int.negSucc n) = "-" ++ Nat.repr (n + 1) := rfl
    have e2 : toString (((n + 1 : Nat)) : Int) = Nat.repr (n + 1) := rfl
    have q := TL.tl_num (n + 1)
    rw [e2] at q
    show TL.tl (Str.ofString _) = 45 :: TL.numL (n + 1)
    rw [e, ← q, TL.tl_ofString, TL.tl_ofString, String.toList_append, List.map_append]
    rfl
  · rw [if_neg h]
    obtain ⟨n, rfl⟩ : ∃ n : Nat, i = (n : Int) := ⟨i.toNat, by omega⟩
    exact TL.tl_num n

/-- the figures of a word -/
def dec (a : List Nat) : List Nat := if a.take 1 = [45] then a.drop 1 else a
def isFig (c : Nat) : Bool := decide (c ∈ [48, 49, 50, 51, 52, 53, 54, 55, 56, 57])
theorem isFig_iff {c : Nat} : isFig c = true ↔ 48 ≤ c ∧ c ≤ 57 := by
  unfold isFig
  simp
  omega
/-- a word of figures with a number's form -/
def figs (a : List Nat) : Bool := decide (1 ≤ (dec a).length ∧ (dec a).length ≤ 4000) && (dec a).all isFig && (decide (a = [48]) || decide ((dec a).head? ≠ some 48))
def valI (a : List Nat) : Int := if a.take 1 = [45] then -(NumText.digitsVal (a.drop 1) : Int) else (NumText.digitsVal a : Int)
theorem all_dig {a : List Nat} (h : a.all isFig = true) : NumText.AllDigits a := fun c hc => isFig_iff.mp (List.all_eq_true.mp h c hc)
theorem neg_form {a : List Nat} (h : a.take 1 = [45]) : a = 45 :: a.drop 1 := by
  cases a with
  | nil => cases h
  | cons x xs => simp at h; simp [h]
/-- a word whose figures are figures is read as its number -/
theorem int_word {z : Str} (h : (dec z.cps.toList).all isFig = true) (hne : dec z.cps.toList ≠ []) (hl : z.length ≤ 4300) : intText? z = some (valI z.cps.toList) := by
  unfold dec at h hne
  unfold valI
  by_cases hn : z.cps.toList.take 1 = [45]
  · rw [if_pos hn] at h hne ⊢
    exact intText_neg (neg_form hn) (all_dig h) hne hl
  · rw [if_neg hn] at h hne ⊢
    exact intText_digits (all_dig h) hne hl
/-- its text is that of its number just if it has the form -/
theorem codes_back {a : List Nat} (h : (dec a).all isFig = true) (hne : dec a ≠ []) : codesI (valI a) = a ↔ (a = [48] ∨ (dec a).head? ≠ some 48) := by
  unfold dec at h hne ⊢
  unfold valI
  by_cases hn : a.take 1 = [45]
  · rw [if_pos hn] at h hne ⊢
    rw [if_pos hn]
    have hd := all_dig h
    have ha := neg_form hn
    generalize a.drop 1 = f at *
    subst ha
    have ne48 : (45 :: f) ≠ [48] := by simp
    by_cases h0 : f.head? = some 48
    · constructor
      · intro e
        exfalso
        unfold codesI at e
        by_cases hz : NumText.digitsVal f = 0
        · rw [hz] at e
          rw [if_neg (by omega)] at e
          have : TL.numL (-((0 : Nat) : Int)).natAbs = [48] := by decide +kernel
          rw [this] at e
          cases e
        · rw [if_pos (by omega)] at e
          have e2 : TL.numL (NumText.digitsVal f) = f := by simpa using e
          have e3 := (dv_nought hd h0).mp e2
          subst e3
          exact hz (by decide +kernel)
      · rintro (e | e)
        · exact absurd e ne48
        · exact absurd h0 e
    · obtain ⟨b1, b2⟩ := dv_back hd hne h0
      constructor
      · intro _
        exact .inr h0
      · intro _
        unfold codesI
        rw [if_pos (by omega)]
        simpa using b1
  · rw [if_neg hn] at h hne ⊢
    rw [if_neg hn]
    have hd := all_dig h
    have ec : codesI (NumText.digitsVal a : Int) = TL.numL (NumText.digitsVal a) := by
      unfold codesI
      rw [if_neg (by omega)]
      rfl
    rw [ec]
    by_cases h0 : a.head? = some 48
    · rw [dv_nought hd h0]
      constructor
      · exact .inl
      · rintro (e | e)
        · exact e
        · exact absurd h0 e
    · exact ⟨fun _ => .inr h0, fun _ => (dv_back hd hne h0).1⟩
theorem dash_test (z : Str) : decide (V.str (cutS z none (some 1)) = V.str "-") = decide (z.cps.toList.take 1 = [45]) := by
  rw [iff_str, cut_to z (by decide)]
  have e : ("-" : Str).cps.toList = [45] := by decide +kernel
  rw [e]
  rfl
theorem cut_from1 (z : Str) : cutS z (some 1) none = SX.S (z.cps.toList.drop 1) := cut_from z (by decide)
theorem cut_to1 (z : Str) : cutS z none (some 1) = SX.S (z.cps.toList.take 1) := cut_to z (by decide)
theorem dec_pos {a : List Nat} (h : a.take 1 = [45]) : dec a = a.drop 1 := if_pos h
theorem dec_neg {a : List Nat} (h : ¬ a.take 1 = [45]) : dec a = a := if_neg h
theorem dec_len (a : List Nat) : (dec a).length ≤ a.length := by
  unfold dec
  split
  · rw [List.length_drop]; omega
  · exact Nat.le_refl _
/-! ### what repr can write -/
def small (d : PyData) : Bool := d.showable && decide (d.depth ≤ 60) && d.leavesShort 2000 && decide (d.weight ≤ 8000)
theorem small_len {d : PyData} (h : small d = true) : d.showable = true ∧ d.depth ≤ 60 ∧ d.shown.length ≤ sizeLine := by
  unfold small at h
  simp only [Bool.and_eq_true, decide_eq_true_eq] at h
  obtain ⟨⟨⟨h1, h2⟩, h3⟩, h4⟩ := h
  refine ⟨h1, h2, Nat.le_trans (PyData.shown_le 2000 (by decide) d h3) ?_⟩
  rw [sizeLine_eq]
  omega
theorem log2_lt {n k : Nat} (hk : 0 < k) (h : n < 2 ^ k) : n.log2 < k := by
  by_cases h0 : n = 0
  · subst h0
    simpa using hk
  · exact (Nat.log2_lt h0).mpr h
theorem int_leaf {i : Int} (h : i.natAbs < 2 ^ 1000) : (PyData.int i).showable = true ∧ PyData.leavesShort 2000 (.int i) = true ∧ PyData.weight (.int i) ≤ 1000 := by
  have h2 : i.natAbs.log2 < 1000 := log2_lt (by decide) h
  have h3 := int_text_length_le (a := i) (k := 1000) (by decide) h2
  refine ⟨decide_eq_true (show i.natAbs.log2 < 1920 by omega), ?_, ?_⟩
  · refine decide_eq_true ?_
    show (Str.ofString (toString i)).length ≤ 2000
    rw [PySem.ofString_length]
    omega
  · show (if i == 0 then 0 else i.natAbs.log2 + 1) ≤ 1000
    split <;> omega
theorem str_of_menu {zs : List Str} {m : Nat} (hm : ∀ z ∈ zs, z.length ≤ m) {x : V} {j : Nat} (h : (zs.map V.str)[j]? = some x) : ∃ z, x = .str z ∧ z ∈ zs ∧ z.length ≤ m := by
  rw [List.getElem?_map] at h
  cases q : zs[j]? with
  | none => rw [q] at h; cases h
  | some z =>
    rw [q] at h
    exact ⟨z, (Option.some.inj h).symm, List.mem_of_getElem? q, hm z (List.mem_of_getElem? q)⟩
theorem int_of_menu {zs : List Int} {p : Int → Prop} (hm : ∀ z ∈ zs, p z) {x : V} {j : Nat} (h : (zs.map V.int)[j]? = some x) : ∃ z, x = .int z ∧ z ∈ zs ∧ p z := by
  rw [List.getElem?_map] at h
  cases q : zs[j]? with
  | none => rw [q] at h; cases h
  | some z =>
    rw [q] at h
    exact ⟨z, (Option.some.inj h).symm, List.mem_of_getElem? q, hm z (List.mem_of_getElem? q)⟩
/-- what stays odd while p alone is changed -/
def OddP (K : PySem.W.Frag) (p : Addr) (H : Hp) (v : V) : Prop := ∀ H', But p H H' → Odd K H' v
theorem OddP.mono {K : PySem.W.Frag} {p : Addr} {H H' : Hp} {v : V} (h : OddP K p H v) (b : But p H H') : OddP K p H' v := fun _ c => h _ (b.trans c)
theorem OddP.now {K : PySem.W.Frag} {p : Addr} {H : Hp} {v : V} (h : OddP K p H v) : Odd K H v := h _ (But.refl _ _)
theorem oddP_lst {K : PySem.W.Frag} {p a : Addr} {H : Hp} {xs : List V} (h : H a = some (.lst xs)) (n : a ≠ p) : OddP K p H (.ref a) := fun _ b => odd_lst (b a _ h n)
theorem oddP_tup {K : PySem.W.Frag} {p a : Addr} {H : Hp} {xs : List V} (h : H a = some (.tup xs)) (n : a ≠ p) : OddP K p H (.ref a) := fun _ b => odd_tup (b a _ h n)
theorem oddP_dK {K : PySem.W.Frag} {p a : Addr} {H : Hp} {xs : List (Key × V)} (h : H a = some (.dK xs)) (n : a ≠ p) : OddP K p H (.ref a) := fun _ b => odd_dK (b a _ h n)
/-- signs below 128 alone -/
def Asc (z : Str) : Prop := ∀ c ∈ z.cps.toList, c < 128
theorem asc_cut {z : Str} (h : Asc z) (lo hi : Option Int) : Asc (cutS z lo hi) := fun c hc => h c (List.mem_of_mem_drop (List.mem_of_mem_take hc))
theorem asc_app {a b : Str} (ha : Asc a) (hb : Asc b) : Asc (a ++ b) := fun c hc => by
  have e : (a ++ b).cps.toList = a.cps.toList ++ b.cps.toList := TL.tl_append a b
  rw [e] at hc
  rcases List.mem_append.mp hc with q | q
  · exact ha c q
  · exact hb c q
theorem asc_join {ys : List Str} (h : ∀ y ∈ ys, Asc y) : Asc (Txt.join "" ys) := by
  have ee : TL.tl ("" : Str) = [] := by decide +kernel
  have e : (Txt.join "" ys).cps.toList = TL.joinL [] (ys.map TL.tl) := by
    rw [TL.join_eq, ← ee]
    exact TL.tl_join "" ys
  intro c hc
  rw [e] at hc
  clear e
  induction ys with
  | nil => simp [TL.joinL] at hc
  | cons y ys ih =>
    cases ys with
    | nil => exact h y (by simp) c (by simpa [TL.joinL] using hc)
    | cons y2 ys =>
      simp only [List.map_cons, TL.joinL, List.append_nil, List.mem_append] at hc
      rcases hc with hc | hc
      · exact h y (by simp) c (by simpa using hc)
      · exact ih (fun z hz => h z (by simp at hz ⊢; exact .inr hz)) (by simpa using hc)
theorem asc_int (i : Int) : Asc (Str.ofString (toString i)) := fun c hc => by
  rw [tl_int] at hc
  unfold codesI at hc
  split at hc
  · rcases List.mem_cons.mp hc with rfl | hc
    · decide
    · have := TL.numL_digits _ c hc
      omega
  · have := TL.numL_digits _ c hc
    omega
theorem dp_signs {K : PySem.W.Frag} {H : Hp} : ∀ cs : List Nat, DpAll K H (cs.map fun c => V.str ⟨#[c]⟩) (cs.map fun c => PyData.str ⟨#[c]⟩)
  | [] => .nil
  | c :: cs => .cons (.str _) (dp_signs cs)
theorem shaped_signs {cs : List Nat} (h : ∀ c ∈ cs, c < 128) : SeqAt.shaped (.list (cs.map fun c => PyData.str ⟨#[c]⟩)) = true := by
  have h2 : PyData.depthAll (cs.map fun c => PyData.str ⟨#[c]⟩) = 0 := by
    clear h
    induction cs with
    | nil => rfl
    | cons n ns ih => simp [PyData.depthAll, PyData.depth] at ih ⊢; exact ih
  have h1 : PyData.canLayAll0 (cs.map fun c => PyData.str ⟨#[c]⟩) = true := by
    clear h2
    induction cs with
    | nil => rfl
    | cons n ns ih =>
      have := h n (by simp)
      simp [PyData.canLayAll0, PyData.canLay0, PyData.strOk, ih fun c hc => h c (by simp [hc])]
      omega
  simp [SeqAt.shaped, PyData.canLay0, PyData.depth, h1, h2]
theorem eqv_signs_nil (cs : List Nat) : PyData.eqv (.list (cs.map fun c => PyData.str ⟨#[c]⟩)) (.list []) = cs.isEmpty := by
  cases cs <;> simp [PyData.eqv, PyData.eqvAll]
/-! ### a text times a number -/
def repS (z : Str) (n : Nat) : Str := ⟨(List.replicate n z.cps).foldl (· ++ ·) #[]⟩
theorem repS_tl (z : Str) (n : Nat) : (repS z n).cps.toList = (List.replicate n z.cps.toList).flatten := by
  have gen : ∀ (n : Nat) (a : Array Nat), ((List.replicate n z.cps).foldl (· ++ ·) a).toList = a.toList ++ (List.replicate n z.cps.toList).flatten := by
    intro n
    induction n with
    | zero => intro a; simp
    | succ n ih =>
      intro a
      rw [List.replicate_succ, List.foldl_cons, ih, List.replicate_succ, List.flatten_cons]
      simp
  show ((List.replicate n z.cps).foldl (· ++ ·) #[]).toList = _
  rw [gen]
  rfl
theorem repS_len (z : Str) (n : Nat) : (repS z n).length = z.length * n := by
  rw [len_tl, repS_tl, List.length_flatten, List.map_replicate, List.sum_replicate_nat, len_tl, Nat.mul_comm]
theorem op_rep_str {X : Cx} : OpR X (binaryOp .Mult) (fun x y H Q => ∃ z k, x = .str z ∧ y = .int k ∧ 2 ≤ k ∧ 0 < z.length ∧ z.length * k.toNat ≤ sizeLine ∧ Q (.str (repS z k.toNat)) H) := by
  intro pins s σ H x y v u Q I rx ry h
  obtain ⟨z, k, rfl, rfl, hk, hz, hl, q⟩ := h
  obtain ⟨t, rfl⟩ := rx
  obtain ⟨t2, rfl⟩ := ry
  have hs := sizeLine_eq
  have hk2 : k.toNat ≤ sizeLine := by
    have : 1 * k.toNat ≤ z.length * k.toNat := Nat.mul_le_mul_right _ hz
    omega
  refine PySem.P.mul_str ?_ (fun _ _ => ?_) (fun _ _ => ?_) ?_
  · rw [decide_eq_false (by omega), decide_eq_false (by omega)]
    rfl
  · intro h
    have h1 : (2 ^ 63 - 1) / k < (z.length : Int) := h
    rw [Int.ediv_lt_iff_lt_mul (by omega)] at h1
    have h2 : (z.length : Int) * k = ((z.length * k.toNat : Nat) : Int) := by
      rw [Int.natCast_mul]
      congr 1
      omega
    rw [h2] at h1
    omega
  · show decide _ = false
    exact decide_eq_false (by omega)
  · rw [if_neg (by omega), if_neg]
    · exact ⟨by show (repS z k.toNat).length ≤ sizeLine; rw [repS_len]; exact hl, ⟨.str _, H, I.tok _, ⟨_, rfl⟩, q⟩⟩
    · have e1 : (k == 1) = false := by
        rw [beq_eq_false_iff_ne]
        omega
      have e2 : (z.length == 0) = false := by
        rw [beq_eq_false_iff_ne]
        omega
      rw [e1, e2]
      decide
end Gs

set_option maxRecDepth 100000
set_option maxHeartbeats 4000000
namespace Gs
open PySem PySem.Spec PySem.NumText PyProof.Rows L2 PySem.Calls PySem.W
theorem wp_long {M : Model} {A : Around} {E : Value → Shared → Prop} {s : Shared} {Q : Value → Shared → Prop} {v : Value} {text : List Nat} {n : Int} {mc : Str → Option Value} (hns : s.heap.Ns cStatics mc) (hnone : mc "sys.int_max_str_digits" = none)
    (hs : ¬ (text.takeWhile (· != 0)).length ≤ 640) (hr : (int_private% "readNumeral") 4300 10 (text.takeWhile (· != 0)) = (int_private% "Numeral.value") n)
    (ha : ((text.takeWhile (· != 0)).length == text.length) = true) (h : Q (.int n s.toks) { s with toks := s.toks + 1 }) :
    wpAny M A ((int_private% "intFromText") v text 10) Q E s := by
  obtain ⟨hp, g, d, tk, os⟩ := s
  have hs2 : decide ((text.takeWhile (· != 0)).length ≤ 640) = false := decide_eq_false hs
  have hl : wpAny M A Builtin.intMaxStrDigits (fun l s' => l = 4300 ∧ s' = ({ heap := hp, gens := g, drawn := d, toks := tk, os := os } : Shared)) E { heap := hp, gens := g, drawn := d, toks := tk, os := os } := by
    unfold Builtin.intMaxStrDigits
    refine wpAny_bind (wpAny_nsGet hns ?_)
    rw [hnone]
    exact wpAny_pure ⟨rfl, rfl⟩
  repeat (any_goals (first
    | assumption
    | ((with_reducible show wpAny _ _ Builtin.intMaxStrDigits _ _ _); refine wpAny_mono hl (fun l s' hq => ?_) (fun _ _ z => z); obtain ⟨rfl, rfl⟩ := hq)
    | (with_reducible refine wpAny_ite_false hs2 ?_)
    | (with_reducible refine wpAny_ite_true (decide_eq_true ha) ?_)
    | wp_step))
  all_goals (try rw [hr])
  all_goals (try dsimp only)
  repeat (any_goals (first
    | assumption
    | (with_reducible refine wpAny_ite_true (decide_eq_true ha) ?_)
    | wp_step))

structure Hid (p : Prop) : Prop where
  out : p
theorem meets_long {x : PySem.Str} {u : Tok} {n : Int} (hl : x.length ≤ 4300) (hn : PySem.intText? x = some n) :
    Meets (Builtin.«int.__new__» ⟨[.type "int", .str x u], []⟩) (fun A R s => NoDig s.heap ∧ R (.ok (.ret (.int n s.toks))) { s with toks := s.toks + 1 }) := by
  intro prog w A R s hh
  have key : ∀ (M : Model) (E : Value → Shared → Prop) (Q : Value → Shared → Prop) (s : Shared), NoDig s.heap → Q (.int n s.toks) { s with toks := s.toks + 1 } →
      wpAny M A.in1 (Builtin.«int.__new__» ⟨[.type "int", .str x u], []⟩) (fun fin s' => ∃ v, fin = .done (.ret v) ∧ Q v s') E s := by
    intro M E Q s hd h
    obtain ⟨mc, hns, hnone⟩ := hd
    have f1 := F.conv_sub_int
    have f2 := F.madeHere_int
    have f3 := KIN.str_int
    have f4 := KIN.str_idx
    have f5 := KIN.str_trunc
    have f6 : typeOf (.str x u) = pure (.type "str") := rfl
    have hr : ((numSeenOf x).length == (numTextOf x).length) = true ∧ (((numSeenOf x).length ≤ 640 ∧ (int_private% "readNumeral") 0 10 (numSeenOf x) = (int_private% "Numeral.value") n) ∨
        (¬ (numSeenOf x).length ≤ 640 ∧ (int_private% "readNumeral") 4300 10 (numSeenOf x) = (int_private% "Numeral.value") n)) := by
      by_cases h6 : (numSeenOf x).length ≤ 640
      · rcases read0 x h6 with ⟨m, h1, h2, h3⟩ | ⟨h1, _⟩
        · rw [hn] at h1
          injection h1 with h1
          subst h1
          exact ⟨h2, .inl ⟨h6, h3⟩⟩
        · rw [hn] at h1
          cases h1
      · rcases read4300 x (Nat.le_trans hl (by decide)) with ⟨m, h1, h2, h3⟩ | ⟨h1, _⟩
        · rw [hn] at h1
          injection h1 with h1
          subst h1
          exact ⟨h2, .inr ⟨h6, h3⟩⟩
        · rw [hn] at h1
          cases h1
    obtain ⟨hall, hr⟩ := hr
    rcases hr with ⟨h6, hr⟩ | ⟨h6, hr⟩
    · have hk := Hid.mk (And.intro h6 (And.intro hr hall))
      clear hr hl hn hall h6
      obtain ⟨hp, g, d, tk, os⟩ := s
      repeat (any_goals (first
        | assumption
        | ((with_reducible show wpAny _ _ ((int_private% "intFromText") _ _ _) _ _ _); refine KIN.wp_text hk.out.1 hk.out.2.1 hk.out.2.2 ?_)
        | wp_step))
      all_goals first | exact ⟨_, rfl, h⟩ | skip
    · have hk := Hid.mk (And.intro h6 (And.intro hr (And.intro hall (And.intro hns hnone))))
      clear hr hl hn hall h6 hns hnone
      obtain ⟨hp, g, d, tk, os⟩ := s
      repeat (any_goals (first
        | assumption
        | ((with_reducible show wpAny _ _ ((int_private% "intFromText") _ _ _) _ _ _); refine wp_long hk.out.2.2.2.1 hk.out.2.2.2.2 hk.out.1 hk.out.2.1 hk.out.2.2.1 ?_)
        | wp_step))
      all_goals first | exact ⟨_, rfl, h⟩ | skip
  exact wpAny_mono (key _ _ (fun v s' => R (.ok (.ret v)) s') s hh.1 hh.2) (fun fin s' h' => by obtain ⟨v, rfl, hv⟩ := h'; exact hv) fun _ _ x => x
theorem call_int_str' {X : Cx} (hd : NoDig X.base) : CallR X (.type "int") (fun xs H Q => ∃ a n, xs = [.str a] ∧ PySem.intText? a = some n ∧ a.length ≤ 4300 ∧ Q (.int n) H) := by
  intro pins s σ H xs us Q I rs h
  obtain ⟨a, n, rfl, hn, hl, h⟩ := h
  obtain ⟨u, rfl, r1⟩ := vals1 rs
  obtain ⟨t, rfl⟩ := r1
  exact call_int_1 (meets_long hl hn) ⟨hd.keeps I.bk, typeIs_int _ _ _, .int n, H, I.tok _, ⟨_, rfl⟩, h⟩
end Gs

set_option maxRecDepth 100000
set_option maxHeartbeats 4000000
namespace Gs
open PySem PySem.Spec PyProof.Rows L2

/-! ### an exception's __init__ that says super().__init__(..): its frame, its body -/
theorem boot_super : bootBuiltins (Str.ofString "super") = some (.type "super") := by kernel_rfl

abbrev supEnv (qual : Str) (scope : Scope) (L f : Addr) (cd : Value) (cc : Addr) : Env := PySem.W.ksEnv qual scope L f cd cc

def cxSup (CX : CXT) (P : Program) (w : World) (K : PySem.W.Frag) (mg : Str → Option Value) (base : Heap) (N : List Str) (qual : Str) (scope : Scope) (f : Addr) (cd : Value) (cc : Addr) (A : Around) (outer : List Env) (s : Shared) (H : Hp) (E : XK) : Cx where
  prog := P
  w := w
  K := K
  mg := mg
  base := base
  A := A.deeper (supEnv qual scope s.heap.objs.size f cd cc)
  N := N
  s_0 := s
  H_0 := H
  env := supEnv qual scope s.heap.objs.size f cd cc
  outer := outer
  stack := supEnv qual scope s.heap.objs.size f cd cc :: outer
  ex := []
  calm := true
  fn := fun _ => false
  pn := []
  xe := fun e s' => wpAny (model P w) (A.deeper (supEnv qual scope s.heap.objs.size f cd cc)) (leaving (supEnv qual scope s.heap.objs.size f cd cc) e) (fun _ s'' => CX outer H s E e s'') (fun e' s'' => CX outer H s E e' s'') s'

structure SupScope (N P : List Str) (sc : Scope) : Prop where
  kind : sc.kind = .function
  co : sc.isCoroutine = false
  gen : sc.isGenerator = false
  nd : N.Nodup
  pre : N.take P.length = P
  par : ∀ x ∈ P, sc.names.lookup x = some .local
  nocell : ∀ x ∈ sc.names, x.2 ≠ .cell
  free : ∀ x ∈ sc.names, x.2 = .free → x.1 = ("__class__" : Str)
  sup : sc.names.lookup ("super" : Str) = some .globalImplicit
  cls : sc.names.lookup ("__class__" : Str) = some .free

theorem rzip_out {x : Str} : ∀ {P : List Str} {us : List Value}, x ∉ P → (P.zip us).reverse.lookup x = none
  | [], _, _ => rfl
  | _ :: _, [], _ => rfl
  | p :: P, u :: us, h => by
    rw [List.zip_cons_cons, List.reverse_cons, List.lookup_append, rzip_out fun z => h (List.mem_cons_of_mem _ z), Option.none_or]
    have : (x == p) = false := by
      have : x ≠ p := fun z => h (z ▸ List.mem_cons_self)
      simpa using this
    simp [List.lookup, this]
theorem rzip_get {x : Str} {v : Value} : ∀ {P : List Str} {us : List Value} {i : Nat}, P.Nodup → P[i]? = some x → us[i]? = some v → (P.zip us).reverse.lookup x = some v
  | [], _, _, _, h, _ => by simp at h
  | _ :: _, [], _, _, _, h => by simp at h
  | p :: P, u :: us, 0, nd, h1, h2 => by
    simp at h1 h2
    subst h1 h2
    rw [List.zip_cons_cons, List.reverse_cons, List.lookup_append, rzip_out (List.nodup_cons.mp nd).1, Option.none_or]
    simp [List.lookup]
  | p :: P, u :: us, i + 1, nd, h1, h2 => by
    rw [List.zip_cons_cons, List.reverse_cons, List.lookup_append, rzip_get (i := i) (List.nodup_cons.mp nd).2 (by simpa using h1) (by simpa using h2)]
    rfl

theorem sup_start {CX : CXT} {P : Program} {w : World} {K : PySem.W.Frag} {mg : Str → Option Value} {base : Heap} {N ps : List Str} {qual : Str} {scope : Scope} {f cc : Addr} {cd : Value} {A : Around} {outer : List Env} {s : Shared} {H : Hp} {E : XK} {us : List Value} {vs : List V} {h1 : Heap} {tk : Nat} {C : Addr} {cl : Value} {cld : Option Addr} {csl : Array (Option Value)}
    (S : SupScope N ps scope) (hd : A.handled = none) (e0 : Env0 P w K mg base A outer s H) (hl : vs.length = ps.length) (r : Vals vs us) (hcell : K.lookup cc = some ⟨cl, cld, .cell (some (.ref C)), csl⟩)
    (hns : h1.Ns s.heap.objs.size fun x => (ps.zip us).reverse.lookup x) (hk : ∀ b o, s.heap.get? b = some o → h1.get? b = some o) :
    Inv (cxSup CX P w K mg base N qual scope f cd cc A outer s H E) [] (L2.start N vs) H { s with heap := h1, toks := tk } := by
  have hpl : ps.length ≤ N.length := by have := congrArg List.length S.pre; rw [List.length_take] at this; omega
  have noA : ∀ b : Addr, b ∉ (cxSup CX P w K mg base N qual scope f cd cc A outer s H E).ex := fun b z => absurd (show b ∈ ([] : List Addr) from z) (by simp)
  have hcb : base.get? cc = some ⟨cl, cld, .cell (some (.ref C)), csl⟩ := e0.mod.kin _ _ hcell
  have hcs : s.heap.get? cc = some ⟨cl, cld, .cell (some (.ref C)), csl⟩ := (e0.bs _ _ hcb).1
  have only : ∀ {x : Str} {c : Addr}, (supEnv qual scope s.heap.objs.size f cd cc).cells.lookup x = some c → x = ("__class__" : Str) ∧ c = cc := fun {x c} q => by
    have q' : (if x = ("__class__" : Str) then some cc else none) = some c := by
      have e := q
      simp only [supEnv, PySem.W.ksEnv, PySem.W.envX, List.lookup] at e
      split at e
      · rename_i z
        rw [if_pos (by simpa using z)]
        exact e
      · cases e
    split at q'
    · rename_i z
      cases q'
      exact ⟨z, rfl⟩
    · cases q'
  refine ⟨⟨e0.mod, S.kind, rfl, rfl, Nat.le_refl _, fun y z c h1 h2 => (only h1).1.trans (only h2).1.symm, fun y hy => ?_, fun y c h _ => absurd h (by show ¬ (false = true); decide), fun _ => hd, Around.frames_deeper e0.frames, .inr ⟨rfl, rfl⟩, fun b z => absurd z (noA b), e0.bs, e0.bsz, fun b _ _ => noA b, fun b z => absurd z (noA b), e0.funs, e0.frf⟩,
    rfl, e0.bare, Un.kept hk, ⟨_, hns, fun i y v h1 h2 h3 => ?_⟩, fun y c h => ?_, e0.hok.fresh (Nat.le_refl _), fun y c h => ?_, fun p hp => absurd (show p ∈ ([] : List (Addr × Obj)) from hp) (by simp), e0.hok.kept hk, ?_⟩
  · have hy : scope.names.lookup y = some .cell ∨ scope.names.lookup y = some .free := hy
    rcases hy with hy | hy
    · exact absurd rfl (S.nocell _ (PySem.mem_of_lookup hy))
    · have e := S.free _ (PySem.mem_of_lookup hy) rfl
      refine ⟨cc, ?_⟩
      show List.lookup y [(("__class__" : Str), cc)] = some cc
      rw [show y = ("__class__" : Str) from e]
      simp [List.lookup]
  · have hi : i < vs.length := by
      unfold L2.start at h2
      by_cases hi : i < vs.length
      · exact hi
      · rw [List.getElem?_append_right (by simpa using hi)] at h2
        rw [List.getElem?_replicate] at h2
        split at h2 <;> cases h2
    have ha : vs[i]? = some v := by
      unfold L2.start at h2
      rw [List.getElem?_append_left (by simpa using hi), List.getElem?_map] at h2
      cases e : vs[i]? with
      | none => rw [e] at h2; cases h2
      | some a => rw [e] at h2; cases h2; rfl
    obtain ⟨u, hu, rv⟩ := r.get ha
    have hp : ps[i]? = some y := by
      rw [← S.pre, List.getElem?_take_of_lt (by omega)]; exact h1
    have ndP : ps.Nodup := by rw [← S.pre]; exact S.nd.sublist (List.take_sublist _ _)
    exact ⟨u, rv, .inl ⟨S.par y (List.mem_of_getElem? hp), rzip_get ndP hp hu⟩⟩
  · obtain ⟨_, rfl⟩ := only h
    exact ⟨_, _, hk _ _ hcs, rfl⟩
  · obtain ⟨_, rfl⟩ := only h
    exact (e0.bs _ _ hcb).2
  · unfold L2.start
    show _ = N.length
    rw [List.length_append, List.length_map, List.length_replicate]
    omega

/-- what the written part says of such an __init__ -/
structure SupF (P : Program) (K : PySem.W.Frag) (mg : Str → Option Value) (C cda cc : Addr) (vs : Array Value) : Prop where
  oex : OexC K C
  code : ∃ ccl cdd ccs, K.lookup cda = some ⟨ccl, cdd, .fields vs, ccs⟩
  file : ∃ (fl : Str) (tf : Tok), vs[2]? = some (.str fl tf) ∧ ((P.main.file : Str) == fl) = true
  cell : ∃ cl cld csl, K.lookup cc = some ⟨cl, cld, .cell (some (.ref C)), csl⟩
  init : PySem.W.ks_superIn K C C "__init__" = some (some (.builtin "ValueError.__init__"))
  inVE : PySem.W.subIn K (.ref C) (.type "ValueError") = some true
  inC : PySem.W.mroIn K C (.ref C) = some true
  open_ : PySem.W.nsIn K cStatics "thirdparty.any" = some none
  mgs : mg "super" = none
  top : (P.main.scope.names.lookup ("super" : Str)).isSome = false

theorem ne_cls {X : Cx} {pins : List (Addr × Obj)} {σ : L2.St} {H : Hp} {s : Shared} {a C : Addr} (I : Inv X pins σ H s) (e : H a = some (exo a C none)) (T : OexC X.K C) : a ≠ C := fun z => by
  obtain ⟨nm, q, N, bs, bm, sn, sub, ab, col, dd, k0, k1, k2, k3, k5, hC, hbm⟩ := T.cls
  have := (I.bs C _ (I.ok.mod.kin _ _ hC)).2
  rw [← z, e] at this
  cases this
theorem exo_eq {H : Hp} {a C : Addr} {o : HO} (e : H a = some o) : upd H a o = H := by
  funext b
  by_cases hb : b = a
  · rw [hb, upd_same, e]
  · rw [upd_ne hb]

section
variable {X : Cx} {pins : List (Addr × Obj)} {σ : L2.St} {H : Hp} {s : Shared} {a C f cda cc : Addr} {ar : Arg} {vs : Array Value} {qual : Str} {scope : Scope} {e : Expr} {es : List Expr} {ta : TA} {body : List Stmt} {p0 p1 p2 p3 pos : Pos} {E : Value → Shared → Prop} {Q : Flow → Shared → Prop}
/-- super().__init__(..) of an exception that is being made -/
theorem sup_run {pl : Sem Bool} {fd : FuncData} {oc : Value} {od : Option Addr} {osl : Array (Option Value)} (SF : SupF X.prog X.K X.mg C cda cc vs) {N P : List Str} {L : Addr} (S : SupScope N P scope) (henv : X.env = supEnv qual scope L f (.ref cda) cc)
    (lk : X.K.lookup f = some ⟨oc, od, .func fd, osl⟩) (hp : (fd.params.posonlyargs ++ fd.params.args).head? = some ar) (hN : X.N[0]? = some ar.arg) (hka : scope.names.lookup ar.arg = some .local)
    (I : Inv X pins σ H s) (hσ : σ[0]? = some (some (.ref a))) (ea : H a = some (exo a C none)) (ha : PA X (e :: es) ta)
    (h : ta σ H fun ws H1 => H1 = H ∧ ws.length ≤ 1000) (hE : X.xe = E) (hq : ∀ s', Inv X pins σ H s' → Q .next s')
    (he : starEach (e :: es) X.env = (false, eval e X.env) :: starEach es X.env) (hpl : (backTo p3 (starEach es X.env)).any (·.1) = false)
    (hm : eval (.Call (.Attribute (.Call (.Name "super" p0) [] [] p1) "__init__" p2) (e :: es) [] p3) X.env = (do
      let ov ← attributeBase (.Call (.Name "super" p0) [] [] p1) "__init__" X.env (eval (.Call (.Name "super" p0) [] [] p1) X.env)
      standAt p2.atName
      let (f, first) ← holding [ov] (getMethod ov "__init__" pl)
      callWith p3 f first (backTo p3 (starEach (e :: es) X.env)) []))
    (hsw : swapsWith (.Call (.Attribute (.Call (.Name "super" p0) [] [] p1) "__init__" p2) (e :: es) [] p3) none pos.line X.env = pure false) (hint : interactive X.env = false) :
    _root_.PySem.wpAt (model X.prog X.w) X.A (.func body X.env) (exec (.Expr (.Call (.Attribute (.Call (.Name "super" p0) [] [] p1) "__init__" p2) (e :: es) [] p3) pos) X.env) Q E s := by
  subst hE
  refine ks_wpAt_Expr_any ?_ hint hsw
  refine ks_wpAt_MethodCall ?_ hm
  rw [henv]
  obtain ⟨ccl, cdd, ccs, hcode⟩ := SF.code
  obtain ⟨fl, tf, hvs, hfile⟩ := SF.file
  obtain ⟨cl, cld, csl, hcell⟩ := SF.cell
  obtain ⟨nm, q, N', bs, bm, sn, sub, ab, col, dd, k0, k1, k2, k3, k5, hC, hbm⟩ := SF.oex.cls
  have hcl : PySem.W.clsIn X.K C = some { name := nm, bases := bs, mro := .ref C :: bm, ns := N', qualname := q, hasDict := true, slotNames := sn, subclasses := sub, abstract := ab, collection := col, hasDel := false } := by unfold PySem.W.clsIn; rw [hC] <;> rfl
  have kin := I.kIn
  obtain ⟨t1, ho⟩ := exo_at I.hok ea
  obtain ⟨m, hns, look⟩ := I.loc
  have hkl : X.env.kindOf ar.arg = some .local := by rw [henv]; exact hka
  obtain ⟨u, ru, lu⟩ := look 0 ar.arg (.ref a) hN hσ (by rw [henv]; exact .inl hka)
  obtain rfl : u = Value.ref a := ru
  have hma : m ar.arg = some (.ref a) := by
    rcases lu with ⟨_, z⟩ | ⟨z, _⟩
    · exact z
    · rw [hkl] at z
      rcases z with z | z <;> cases z
  have hnc : ∀ c, ({ cls := .ref C, dict := none, data := .fields #[.ref t1, .none, .none, .none, .bool false, .none] } : Obj).data ≠ .cls c := fun c z => by cases z
  obtain ⟨mb, b1, b2⟩ := I.mod.blt
  obtain ⟨hh, g, d, t, os⟩ := s
  refine ks_wpAt_super_base (env := supEnv qual scope L f (.ref cda) cc) S.sup S.cls (by decide) rfl (kin _ _ lk) rfl hp rfl (kin _ _ hcode) rfl hvs hfile SF.top ?_
  have hg : hh.Ns mainGlobals X.mg := I.mod.glob.keeps I.bk
  have hb : hh.Ns builtinsNs mb := b1.keeps I.bk
  refine PySem.W.ks_loadName_global S.kind S.sup (PySem.Calls.loadGlobal_builtin (env := supEnv qual scope L f (.ref cda) cc) hg SF.mgs hb ((b2 _ (by decide)).trans boot_super) ⟨rfl, ?_⟩)
  refine wpAny_loadName_free S.kind S.cls rfl ⟨_, kin _ _ hcell, rfl⟩ ?_
  refine wpAny_loadName_local (m := m) S.kind hka (by rw [henv] at hns; exact hns) hma ?_
  have hCb := kin _ _ hC
  refine ks_wpAny_isType_cls hCb rfl ⟨rfl, ?_⟩
  refine ks_wpAny_call_super hCb rfl ho rfl hnc (PySem.W.looks_mroIn kin SF.inC) (fun h1 e1 kk1 => ?_)
  have I1 : Inv X pins σ H ⟨h1, g, d, t, os⟩ := I.kept (t' := t) kk1
  have kin1 := I1.kIn
  have IA1 : PySem.W.InstAt h1 a { cls := .ref C, dict := none, data := .fields #[.ref t1, .none, .none, .none, .bool false, .none] } C none := ⟨kk1 _ _ ho, rfl, rfl, trivial⟩
  have hin : PySem.W.Looks (model X.prog X.w) h1 (isInstance (.ref a) (.type "ValueError")) true := IA1.type.andThen (PySem.W.looks_subIn kin1 SF.inVE)
  have hm1 := SF.init
  unfold PySem.W.ks_superIn at hm1
  rw [hcl] at hm1
  refine PySem.W.kxs_getMethod PySem.W.kxs_ValueError e1 (PySem.W.looks_opaque kin1 SF.open_) (l₀ := .ref C :: bm) ?_ rfl kin1 hm1 hin (ne_cls I ea SF.oex) (by decide) ?_
  · exact fun A Q E s k q => wpAny_bind ((PySem.W.looks_clsIn kin1 hcl) A _ E s k (wpAny_pure q))
  have e2 : (h1.push (PySem.W.kxs_mw "ValueError.__init__" a)).get? h1.objs.size = some (PySem.W.kxs_mw "ValueError.__init__" a) := Heap.get?_push_at rfl rfl
  have I2 : Inv X pins σ H ⟨h1.push (PySem.W.kxs_mw "ValueError.__init__" a), g, d, t + 1, os⟩ := I1.kept (t' := t + 1) fun b o z => Heap.get?_push_of_some _ z
  have hlt : h1.objs.size < (h1.push (PySem.W.kxs_mw "ValueError.__init__" a)).objs.size := Heap.lt_size e2
  have hnew : H h1.objs.size = none := I1.hok.fresh (Nat.le_refl _)
  have hlc : h1.objs.size ≠ X.env.locals := Nat.ne_of_gt I1.lt
  have hfs : h1.objs.size ∉ X.fs := I1.nofs (Nat.le_refl _)
  have I3 : Inv X ((h1.objs.size, PySem.W.kxs_mw "ValueError.__init__" a) :: pins) σ H ⟨h1.push (PySem.W.kxs_mw "ValueError.__init__" a), g, d, t + 1, os⟩ := by
    refine I2.pins_of fun p hp => ?_
    rcases List.mem_cons.mp hp with rfl | hp
    · exact ⟨e2, hnew, hlc, hfs, fun v z => by cases z⟩
    · exact I2.pin p (List.mem_append_right _ hp)
  rw [← henv]
  refine PySem.W.kxs_callWith (i := "ValueError.__init__") (x := a) (by rw [he]; show (false || (backTo p3 (starEach es X.env)).any (·.1)) = false; rw [hpl]; rfl) ?_
  rw [he]
  have run := ha.run p3 _ _ σ H _ I3 h
  rw [he] at run
  refine PySem.Calls.evalArgs_plain (wpAny_mono run (fun us s1 ⟨ws, H1, J, rw', eH, hlen⟩ => ?_) fun _ _ z => z)
  subst eH
  have pu := (J.pin (h1.objs.size, PySem.W.kxs_mw "ValueError.__init__" a) (List.mem_append_right _ List.mem_cons_self)).1
  refine ⟨pu, ?_⟩
  obtain ⟨t2, ho2⟩ := exo_at J.hok ea
  have hC2 := J.kIn _ _ hC
  have J0 : Inv X pins σ H1 s1 := J.pins_of fun p hp => J.pin p (List.mem_append_right _ (List.mem_cons_of_mem _ hp))
  obtain ⟨hz, g2, d2, tk2, os2⟩ := s1
  have hlen' : us.length ≤ sizeLine := by rw [← Paired.length rw', sizeLine_eq]; omega
  refine wpAny_call (codeAny_of_tree ?_)
  show wpAny _ X.A.in1 (callAny (.ref h1.objs.size) ⟨us, []⟩) _ _ _
  simp only [callAny]
  refine wpAny_bind (wpAny_load pu ?_)
  simp only [PySem.W.kxs_mw, show (Value.type "method-wrapper" == Value.type "method" || Value.type "method-wrapper" == Value.type "builtin_function_or_method" || Value.type "method-wrapper" == Value.type "method-wrapper") = true by decide, if_true]
  refine PySem.W.KFB.if_so (by decide) ?_
  refine wpAny_bind (PySem.W.check_bound_init F.excBase_ValueError.toExcCallFacts hC2 ho2 rfl ?_)
  refine wpAny_bind (wpAny_pure (wpAny_pure ?_))
  refine ⟨plainId_quiet F.excBase_ValueError.init.plain _, codeAny_builtin F.excBase_ValueError.initEntry ?_⟩
  refine PySem.W.exc_init_tree (cls := .ref C) (t0 := t2) (dv := none) (c2 := .none) (c3 := .none) (b4 := .bool false) ho2 hlen' fun h' k' hx _ => ?_
  have K1 := J0.write (t' := tk2) (x := a) (e := a) (o := exo a C none) (by rw [ea]; exact True.intro) (.inl rfl) k' ⟨_, hx⟩ (exo_ok hx)
  rw [exo_eq ea] at K1
  exact hq _ K1
  all_goals exact a
end

theorem pins0 {X : Cx} {pins : List (Addr × Obj)} {σ : L2.St} {H : Hp} {s : Shared} (I : Inv X [] σ H s) (h : pins = []) : Inv X pins σ H s := by subst h; exact I

def SupM (p0 p1 p2 p3 p5 : Pos) (x : Str) (j : Nat) (env : Env) : Prop := ∃ pl : Sem Bool, eval (.Call (.Attribute (.Call (.Name "super" p0) [] [] p1) "__init__" p2) [.Constant (.str x) j p5] [] p3) env = (do
      let ov ← attributeBase (.Call (.Name "super" p0) [] [] p1) "__init__" env (eval (.Call (.Name "super" p0) [] [] p1) env)
      standAt p2.atName
      let (f, first) ← holding [ov] (getMethod ov "__init__" pl)
      callWith p3 f first (backTo p3 (starEach [.Constant (.str x) j p5] env)) [])
example (env : Env) : SupM ⟨1, 2, 1, 5⟩ ⟨1, 2, 1, 7⟩ ⟨1, 2, 1, 10⟩ ⟨1, 2, 1, 20⟩ ⟨1, 12, 1, 19⟩ "abc" 0 env := ⟨_, rfl⟩
/-- THE RULE: an exception's __init__ that says super().__init__(text) first: by the rest of its body -/
theorem fn_sup {CX : CXT} {P : Program} {w : World} {K : PySem.W.Frag} {mg : Str → Option Value} {base : Heap} {k : Nat} {C f cda cc : Addr} {ar : Arg} {vv : Array Value} {name qual : Str} {params : Arguments} {rest : List Stmt} {scope : Scope} {dV kV doc pm ct oc : Value} {an od : Option Addr}
    {osl : Array (Option Value)} {N ps : List Str} {sp : Sp} {x : Str} {j : Nat} {p0 p1 p2 p3 p4 p5 : Pos} {body : List Stmt}
    (hbd : body = .Expr (.Call (.Attribute (.Call (.Name "super" p0) [] [] p1) "__init__" p2) [.Constant (.str x) j p5] [] p3) p4 :: rest)
    (SF : SupF P K mg C cda cc vv) (lk : K.lookup f = some ⟨oc, od, .func (PySem.W.ksFn name qual params body scope dV kV doc pm an (.ref cda) ct cc), osl⟩)
    (hcd : PySem.W.codeIn K (.ref cda) qual = true) (S : SupScope N ps scope) (hp : (params.posonlyargs ++ params.args).head? = some ar) (hN : N[0]? = some ar.arg) (hP : ps[0]? = some ar.arg)
    (hm : ∀ L, SupM p0 p1 p2 p3 p5 x j (supEnv qual scope L f (.ref cda) cc))
    (len : ∀ vs H Q E, sp vs H Q E → vs.length = ps.length)
    (hself : ∀ vs H Q E, sp vs H Q E → ∃ a ws, vs = .ref a :: ws ∧ H a = some (exo a C none))
    (hbody : ∀ (A : Around) (outer : List Env) (s : Shared) (H : Hp) (vs : List V) (Q : VK) (E : XK), Room k (A.deeper (supEnv qual scope s.heap.objs.size f (.ref cda) cc)) → sp vs H Q E →
      ∃ t, PSs (cxSup CX P w K mg base N qual scope f (.ref cda) cc A outer s H E) rest t ∧ t { nx := fun _ H' => Q .non H', rt := Q } (L2.start N vs) H) :
    FnOk P w K mg base CX (k + 1) f (PySem.W.ksFn name qual params body scope dV kV doc pm an (.ref cda) ct cc) ps sp := by
  refine ⟨len, fun A outer s H args us vs Q E hr e0 hb r hsp => ?_⟩
  have hl := len _ _ _ _ hsp
  obtain ⟨a, ws, ev, ea⟩ := hself _ _ _ _ hsp
  have KX : K.In s.heap := e0.mod.kin.keeps fun b o e => (e0.bs b o e).1
  have lim : s.heap.NoLimit := e0.mod.nolimit.keeps fun b o e => (e0.bs b o e).1
  obtain ⟨cl, cld, csl, hcell⟩ := SF.cell
  obtain ⟨t, ht, hq⟩ := hbody A outer s H vs Q E (hr.deeper _) hsp
  have hloc : ∀ y ∈ ps.zip us, scope.names.lookup y.1 = some .local := fun ⟨n, v⟩ hy => S.par n (List.of_mem_zip hy).1
  refine ks_codeAny_call_defAt (fd := PySem.W.ksFn name qual params body scope dV kV doc pm an (.ref cda) ct cc) (body := body) (binds := ps.zip us) hr.depth (KX _ _ lk) rfl lim (PySem.W.codeRec_of KX hcd) rfl hb S.nocell hloc (fun h₀ hns hk => ?_) S.co S.gen S.kind
  have I : Inv (cxSup CX P w K mg base N qual scope f (.ref cda) cc A outer s H E) [] (L2.start N vs) H { s with heap := h₀, toks := s.toks + (ps.zip us).length } := sup_start S hr.hd e0 hl r hcell hns hk
  have hka : scope.names.lookup ar.arg = some .local := S.par _ (List.mem_of_getElem? hP)
  have hσ : (L2.start N vs)[0]? = some (some (.ref a)) := by rw [ev]; rfl
  subst hbd
  obtain ⟨pl, hm⟩ := hm s.heap.objs.size
  refine ks_wpAt_execs_cons ?_
  refine sup_run (pl := pl) (X := cxSup CX P w K mg base N qual scope f (.ref cda) cc A outer s H E) (pins := []) (σ := L2.start N vs) (H := H) SF S rfl lk hp hN hka I hσ ea (pa_cons pe_str pa_nil) ?_ rfl (fun s' J => ?_) rfl rfl hm ?_ I.quiet
  · exact ⟨rfl, by show 1 ≤ 1000; decide⟩
  · refine wpAt_of_wpAny (wpAny_mono (ht.run [] s' (L2.start N vs) H _ J hq) (fun fl s2 hs => ?_) fun e s2 hs => hs)
    have fin : ∀ {σ' : L2.St} {H' : Hp} {v : V} {u : Value}, Inv (cxSup CX P w K mg base N qual scope f (.ref cda) cc A outer s H E) [] σ' H' s2 → L2.RelV v u → Q v H' → CE outer P w H s Q u s2 :=
      fun {σ' H' v u} J rv q => ⟨v, H', J.os, J.bare, J.base, J.hok, rv, q⟩
    cases fl with
    | ret u =>
      obtain ⟨v, σ', H', J, rv, q⟩ := hs
      exact fin J rv q
    | next =>
      obtain ⟨σ', H', J, q⟩ := hs
      exact fin (v := V.non) (u := Value.none) J rfl q
    | brk =>
      obtain ⟨_, _, _, q⟩ := hs
      exact False.elim q
    | cont =>
      obtain ⟨_, _, _, q⟩ := hs
      exact False.elim q
  · rfl

/-! ### exception classes by their names -/
/-- an exception object that is held: its class, its dict -/
def ExV (cls : Value) (a : Addr) (d : Option Addr) : HO := .ext fun h => ∃ (oe : Obj) (vs : Array Value), h.get? a = some oe ∧ Zc cls d oe ∧ oe.data = .fields vs
theorem exV_ok {P : Program} {w : World} {H : Hp} {h : Heap} {cls : Value} {a : Addr} {d : Option Addr} {oe : Obj} {vs : Array Value} (e : h.get? a = some oe) (z : Zc cls d oe) (dd : oe.data = .fields vs) : ObjOk P w H h a (ExV cls a d) :=
  ⟨⟨oe, vs, e, z, dd⟩, ⟨oe, e⟩, fun _ _ ⟨o, v, q, r⟩ k => ⟨o, v, k o q, r⟩⟩
theorem exV_at {P : Program} {w : World} {H : Hp} {h : Heap} {cls : Value} {a : Addr} {d : Option Addr} (hok : HOk P w H h) (e : H a = some (ExV cls a d)) : ∃ (oe : Obj) (vs : Array Value), h.get? a = some oe ∧ Zc cls d oe ∧ oe.data = .fields vs := by
  have x : ObjOk P w H h a (.ext fun h => ∃ (oe : Obj) (vs : Array Value), h.get? a = some oe ∧ Zc cls d oe ∧ oe.data = .fields vs) := hok a _ e
  exact x.1

/-- what is asked of an exception class: its object, its fields' reading, isinstance -/
structure XhC (K : PySem.W.Frag) (C : Addr) : Prop where
  oex : OexC K C
  xf : XfC K C
  at_ : PySem.W.findIn K (.ref C) "__class__" = some (some (.builtin "object.__class__"))
  sp : PySem.W.specialIn K (.builtin "object.__class__") "__get__" = some (some (.builtin "getset_descriptor.__get__"))
  tk : PySem.W.takesIn K (.builtin "object.__class__") = some true
  ob : PySem.W.mroIn K C (.type "object") = some true
theorem XhC.some_ {K : PySem.W.Frag} {C : Addr} (x : XhC K C) : (PySem.W.clsIn K C).isSome = true := by
  obtain ⟨nm, q, N', bs, bm, sn, sub, ab, col, dd, k0, k1, k2, k3, k5, hC, hbm⟩ := x.oex.cls
  unfold PySem.W.clsIn
  rw [hC] <;> rfl
/-- an own exception class that stands in the written part, by its module's name; its fields -/
structure ExcAt (P : Program) (K : PySem.W.Frag) (mg : Str → Option Value) (x qual : Str) (st : Stmt) : Prop where
  ex : ∃ (C f cda cc : Addr) (vv : Array Value) (oc : Value) (od : Option Addr) (osl : Array (Option Value)) (kV doc pm ct : Value) (an : Option Addr), mg x = some (.ref C) ∧ XhC K C ∧
    K.lookup f = some ⟨oc, od, .func (PySem.W.ksFn "__init__" qual (defArgs st) (defBody st) (defScope st) .none kV doc pm an (.ref cda) ct cc), osl⟩ ∧ PySem.W.codeIn K (.ref cda) qual = true ∧ SupF P K mg C cda cc vv ∧
    PySem.W.findIn K (.ref C) "__init__" = some (some (.ref f)) ∧ PySem.W.typeIn K (.ref f) = some (.type "function")

/-- the made exception's dict: the fields, the last one ahead -/
def xds (fs : List Str) (ys : List V) : List (Str × V) := (fs.zip ys).reverse
/-- an exception class's __init__ that takes one field, two fields -/
def spX1 (C : Addr) (f : Str) : Sp := fun vs H Q _ => ∃ a y, vs = [.ref a, y] ∧ H a = some (exo a C none) ∧ ∀ d, H d = none → d ≠ a → Q .non (upd (upd H d (exd d [(f, y)])) a (exo a C (some d)))
def spX2 (C : Addr) (f g : Str) : Sp := fun vs H Q _ => ∃ a y z, vs = [.ref a, y, z] ∧ H a = some (exo a C none) ∧ ∀ d, H d = none → d ≠ a → Q .non (upd (upd (upd H d (exd d [(f, y)])) a (exo a C (some d))) d (exd d [(g, z), (f, y)]))

/-- a class whose call with these arguments makes an exception with these fields; ps: the parameters' names -/
structure ExcD (P : Program) (w : World) (K : PySem.W.Frag) (mg : Str → Option Value) (base : Heap) (x : Str) (ps fs : List Str) : Prop where
  ex : ∃ (C f : Addr) (fd : FuncData) (sp : Sp), mg x = some (.ref C) ∧ XhC K C ∧ FnOk P w K mg base CX0 1 f fd ("self" :: ps) sp ∧ Binds K fd ("self" :: ps) [] ∧ ps.length = fs.length ∧ ps.length ≤ 2 ∧
    PySem.W.findIn K (.ref C) "__init__" = some (some (.ref f)) ∧ PySem.W.typeIn K (.ref f) = some (.type "function") ∧
    ∀ (H : Hp) (ys : List V) (a : Addr) (Q : VK) (E : XK), ys.length = fs.length → H a = none →
      (∀ d H2, H d = none → d ≠ a → H2 a = some (exo a C (some d)) → H2 d = some (exd d (xds fs ys)) → upd (del H2 a) d (.xd (xds fs ys)) = upd H d (.xd (xds fs ys)) → Q .non H2) → sp (.ref a :: ys) (upd H a (exo a C none)) Q E

section
variable {P : Program} {w : World} {K : PySem.W.Frag} {mg : Str → Option Value} {base : Heap} {x qual : Str} {st : Stmt}
theorem xd_end {H H2 : Hp} {a d : Addr} {fs : List (Str × V)} (n : H a = none) (h : ∀ b, b ≠ a → b ≠ d → H2 b = H b) (hd : d ≠ a) : upd (del H2 a) d (.xd fs) = upd H d (.xd fs) := by
  funext b
  by_cases h1 : b = d
  · rw [h1, upd_same, upd_same]
  · rw [upd_ne h1, upd_ne h1]
    by_cases h2 : b = a
    · rw [h2, del_same, n]
    · rw [del_ne h2, h b h2 h1]
theorem bnd_sup {qual : Str} {params : Arguments} {body : List Stmt} {scope : Scope} {kV doc pm cdv ct : Value} {an : Option Addr} {cc : Addr} {ps : List Str}
    (h : ∀ us : List Value, us.length = ps.length → bindArgs (PySem.W.ksFn "__init__" qual params body scope .none kV doc pm an cdv ct cc) ⟨us, []⟩ = pure (ps.zip us)) : Binds K (PySem.W.ksFn "__init__" qual params body scope .none kV doc pm an cdv ct cc) ps [] := .all h
theorem exc_one {p f : Str} {xt : Str} {j : Nat} {p0 p1 p2 p3 p4 p5 q1 q2 q3 q4 : Pos} {ar : Arg} (a : ExcAt P K mg x qual st)
    (hbd : defBody st = [.Expr (.Call (.Attribute (.Call (.Name "super" p0) [] [] p1) "__init__" p2) [.Constant (.str xt) j p5] [] p3) p4, .Assign [.Attribute (.Name "self" q1) f q2] (.Name p q3) q4])
    (S : SupScope ["self", p] ["self", p] (defScope st)) (hp : ((defArgs st).posonlyargs ++ (defArgs st).args).head? = some ar) (har : ar.arg = ("self" : Str))
    (hm : ∀ L f cda cc, SupM p0 p1 p2 p3 p5 xt j (supEnv qual (defScope st) L f (.ref cda) cc)) (hno : ∀ C, mg x = some (.ref C) → PySem.W.findIn K (.ref C) f = some none)
    (hb : ∀ (kV doc pm : Value) (an : Option Addr) (cdv ct : Value) (cc : Addr) (us : List Value), us.length = 2 → bindArgs (PySem.W.ksFn "__init__" qual (defArgs st) (defBody st) (defScope st) .none kV doc pm an cdv ct cc) ⟨us, []⟩ = pure ((["self", p] : List Str).zip us))
    (hd : (p == ("__debug__" : Str)) = false) (hc : (p == ("__classdict__" : Str)) = false) :
    ExcD P w K mg base x [p] [f] := by
  obtain ⟨C, fa, cda, cc, vv, oc, od, osl, kV, doc, pm, ct, an, hC, XC, lk, hcd, SF, hi, ht⟩ := a.ex
  refine ⟨C, fa, _, spX1 C f, hC, XC, ?_, bnd_sup (hb kV doc pm an (.ref cda) ct cc), rfl, by show 1 ≤ 2; decide, hi, ht, fun H ys a Q E hl n h => ?_⟩
  · refine fn_sup (N := ["self", p]) (ps := ["self", p]) (k := 0) hbd SF lk hcd S hp (by rw [har]; rfl) (by rw [har]; rfl) (fun L => hm L _ _ _) (fun vs H Q E h => ?_) (fun vs H Q E h => ?_) (fun A outer s H vs Q E hr h => ?_)
    · obtain ⟨a, y, rfl, _⟩ := h
      rfl
    · obtain ⟨a, y, rfl, ea, _⟩ := h
      exact ⟨a, [y], rfl, ea⟩
    · have l0 : (defScope st).names.lookup ("self" : Str) = some .local := S.par _ List.mem_cons_self
      have l1 : (defScope st).names.lookup p = some .local := S.par _ (List.mem_cons_of_mem _ List.mem_cons_self)
      refine ⟨_, pss_one (ps_ost (pv 0 rfl (.inl l0)) (pv 1 rfl (.inl l1) hd hc) rfl), ?_⟩
      obtain ⟨a, y, rfl, ea, q⟩ := h
      exact ⟨y, rfl, .ref a, rfl, a, C, rfl, XC.oex, hno C hC, .inl ⟨ea, fun dx n ne => q dx n ne⟩⟩
  · match ys, hl with
    | [y], _ =>
      refine ⟨a, y, rfl, upd_same, fun d hn hne => ?_⟩
      refine h d _ (by rw [upd_ne hne] at hn; exact hn) hne upd_same (by rw [upd_ne hne, upd_same]; rfl) (xd_end n (fun b h1 h2 => ?_) hne)
      rw [upd_ne h1, upd_ne h2, upd_ne h1]
theorem exc_two {p p' f g : Str} {xt : Str} {j : Nat} {p0 p1 p2 p3 p4 p5 q1 q2 q3 q4 r1 r2 r3 r4 : Pos} {ar : Arg} (a : ExcAt P K mg x qual st)
    (hbd : defBody st = [.Expr (.Call (.Attribute (.Call (.Name "super" p0) [] [] p1) "__init__" p2) [.Constant (.str xt) j p5] [] p3) p4, .Assign [.Attribute (.Name "self" q1) f q2] (.Name p q3) q4, .Assign [.Attribute (.Name "self" r1) g r2] (.Name p' r3) r4])
    (S : SupScope ["self", p, p'] ["self", p, p'] (defScope st)) (hp : ((defArgs st).posonlyargs ++ (defArgs st).args).head? = some ar) (har : ar.arg = ("self" : Str))
    (hm : ∀ L f cda cc, SupM p0 p1 p2 p3 p5 xt j (supEnv qual (defScope st) L f (.ref cda) cc)) (hno : ∀ C, mg x = some (.ref C) → PySem.W.findIn K (.ref C) f = some none) (hno' : ∀ C, mg x = some (.ref C) → PySem.W.findIn K (.ref C) g = some none)
    (hb : ∀ (kV doc pm : Value) (an : Option Addr) (cdv ct : Value) (cc : Addr) (us : List Value), us.length = 3 → bindArgs (PySem.W.ksFn "__init__" qual (defArgs st) (defBody st) (defScope st) .none kV doc pm an cdv ct cc) ⟨us, []⟩ = pure ((["self", p, p'] : List Str).zip us))
    (hd : (p == ("__debug__" : Str)) = false) (hc : (p == ("__classdict__" : Str)) = false) (hd' : (p' == ("__debug__" : Str)) = false) (hc' : (p' == ("__classdict__" : Str)) = false) :
    ExcD P w K mg base x [p, p'] [f, g] := by
  obtain ⟨C, fa, cda, cc, vv, oc, od, osl, kV, doc, pm, ct, an, hC, XC, lk, hcd, SF, hi, ht⟩ := a.ex
  refine ⟨C, fa, _, spX2 C f g, hC, XC, ?_, bnd_sup (hb kV doc pm an (.ref cda) ct cc), rfl, by show 2 ≤ 2; decide, hi, ht, fun H ys a Q E hl n h => ?_⟩
  · refine fn_sup (N := ["self", p, p']) (ps := ["self", p, p']) (k := 0) hbd SF lk hcd S hp (by rw [har]; rfl) (by rw [har]; rfl) (fun L => hm L _ _ _) (fun vs H Q E h => ?_) (fun vs H Q E h => ?_) (fun A outer s H vs Q E hr h => ?_)
    · obtain ⟨a, y, z, rfl, _⟩ := h
      rfl
    · obtain ⟨a, y, z, rfl, ea, _⟩ := h
      exact ⟨a, [y, z], rfl, ea⟩
    · have l0 : (defScope st).names.lookup ("self" : Str) = some .local := S.par _ List.mem_cons_self
      have l1 : (defScope st).names.lookup p = some .local := S.par _ (List.mem_cons_of_mem _ List.mem_cons_self)
      have l2 : (defScope st).names.lookup p' = some .local := S.par _ (List.mem_cons_of_mem _ (List.mem_cons_of_mem _ List.mem_cons_self))
      refine ⟨_, pss_cons (ps_ost (pv 0 rfl (.inl l0)) (pv 1 rfl (.inl l1) hd hc) rfl) (pss_one (ps_ost (pv 0 rfl (.inl l0)) (pv 2 rfl (.inl l2) hd' hc') rfl)), ?_⟩
      obtain ⟨a, y, z, rfl, ea, q⟩ := h
      refine ⟨y, rfl, .ref a, rfl, a, C, rfl, XC.oex, hno C hC, .inl ⟨ea, fun dx n ne => ?_⟩⟩
      exact ⟨z, rfl, .ref a, rfl, a, C, rfl, XC.oex, hno' C hC, .inr ⟨dx, [(f, y)], upd_same, by rw [upd_ne ne, upd_same], by show 1 ≤ 900; decide, q dx n ne⟩⟩
  · match ys, hl with
    | [y, z], _ =>
      refine ⟨a, y, z, rfl, upd_same, fun d hn hne => ?_⟩
      refine h d _ (by rw [upd_ne hne] at hn; exact hn) hne (by rw [upd_ne (Ne.symm hne), upd_same]) (by rw [upd_same]; rfl) (xd_end n (fun b h1 h2 => ?_) hne)
      rw [upd_ne h2, upd_ne h1, upd_ne h2, upd_ne h1]
end

/-- a reading made monotone -/
def taM (ta : TA) : TA := fun σ H Q => ∃ R, ta σ H R ∧ ∀ ys H1, R ys H1 → Q ys H1
theorem taM_ok {X : Cx} {es : List Expr} {ta : TA} (h : PA X es ta) : PA X es (taM ta) :=
  ⟨fun pos pins s σ H Q I ⟨R, a, b⟩ => thn (h.run pos pins s σ H R I a) fun us s' ⟨vs, H1, I1, r, q⟩ => ⟨vs, H1, I1, r, b _ _ q⟩⟩
def teM (te : TE) : TE := fun σ H Q => ∃ R, te σ H R ∧ ∀ y H1, R y H1 → Q y H1
theorem teM_ok {X : Cx} {e : Expr} {te : TE} (h : PE X e te) : PE X e (teM te) :=
  ⟨fun pins s σ H Q I ⟨R, a, b⟩ => thn (h.run pins s σ H R I a) fun us s' ⟨vs, H1, I1, r, q⟩ => ⟨vs, H1, I1, r, b _ _ q⟩⟩

section
variable {X : Cx} {x : Str} {ps fs : List Str} {e : Expr} {es : List Expr} {ta : TA} {p pos : Pos}
/-- C(e, ..), C an own exception class with an own __init__ -/
def tMkX (mg : Str → Option Value) (x : Str) (fs : List Str) (ta : TA) : L2.St → Hp → XK → Prop := fun σ H Q => ta σ H fun ys H1 => ys.length = fs.length ∧ ∀ C, mg x = some (.ref C) → ∀ d, H1 d = none → Q (.ref C) (some d) (upd H1 d (.xd (xds fs ys)))
theorem pmk_x (D : ExcD X.prog X.w X.K X.mg X.base x ps fs) (hr : Room 2 X.A) (ha : PA X (e :: es) ta) (hg : Gl X x := by rfl) (hdb : (x == ("__debug__" : Str)) = false := by decide)
    (he : starEach (e :: es) X.env = (false, eval e X.env) :: starEach es X.env := by rfl) (hpl : (backTo pos (starEach es X.env)).any (·.1) = false := by rfl) :
    PMk X (.Call (.Name x p) (e :: es) [] pos) (tMkX X.mg x fs ta) := by
  obtain ⟨C, f, fd, sp, hC, XC, F, hb, l1, l2, hi, ht, hs⟩ := D.ex
  intro pins s σ H Q I h
  have hz : fs.length ≤ 2 := l1 ▸ l2
  refine pmk_oex XC.oex hi ht F hr hb .nil pass0 hg hC (taM_ok ha) hdb he hpl pins s σ H Q I ⟨_, h, fun ys H1 ⟨hl, q⟩ => ⟨by omega, fun a n => ?_⟩⟩
  rw [List.append_nil]
  refine hs H1 ys a _ _ hl n fun d H2 hn hne e1 e2 e3 => ⟨rfl, d, xds fs ys, e1, e2, hn, ?_⟩
  rw [e3]
  exact q C hC d hn
end

/-! ### an exception that is held -/
section
variable {X : Cx} {pins : List (Addr × Obj)} {σ : L2.St} {H : Hp} {s s' : Shared} {a : Addr} {o : HO}
/-- an object that stood untracked, newer than the entry, is tracked from here on -/
theorem inv_take (I : Inv X pins σ H s) (n : H a = none) (n0 : X.s_0.heap.get? a = none) (np : ∀ p ∈ X.pn ++ pins, p.1 ≠ a) (nL : a ≠ X.env.locals) (nc : ∀ x c, X.env.cells.lookup x = some c → c ≠ a) (ok : ObjOk X.prog X.w (upd H a o) s.heap a o) : Inv X pins σ (upd H a o) s := by
  have ne : ∀ {b : Addr} {u : Obj}, X.s_0.heap.get? b = some u → b ≠ a := fun {b u} e z => by
    rw [z, n0] at e
    cases e
  refine ⟨I.ok, I.os, I.bare, ⟨I.base.keep, I.base.slot, fun b u e h hx => ?_, I.base.there, fun b xs e => ?_, fun b u v e => ?_, fun b ps e => ?_⟩, I.loc, I.cell, ?_, fun x c e => ?_, fun p hp => ?_, fun b u e => ?_, I.len⟩
  · rw [upd_ne (ne e)]
    exact I.base.free b u e h hx
  · have q := I.base.tups b xs e
    rw [upd_ne (ne_of_none q n)]
    exact q
  · have q := I.base.frzs b u v e
    rw [upd_ne (ne_of_none q n)]
    exact q
  · obtain ⟨m, q⟩ := I.base.tbls b ps e
    exact ⟨m, by rw [upd_ne (ne_of_none q n)]; exact q⟩
  · rw [upd_ne (Ne.symm nL)]
    exact I.free
  · rw [upd_ne (nc x c e)]
    exact I.freeC x c e
  · obtain ⟨e, f, r⟩ := I.pin p hp
    exact ⟨e, by rw [upd_ne (np p hp)]; exact f, r⟩
  · by_cases hb : b = a
    · subst hb
      rw [upd_same] at e
      cases e
      exact ok
    · rw [upd_ne hb] at e
      exact (I.hok b u e).stay (fun _ _ _ q => q) (fun c q => by rw [upd_ne (ne_of_none q n)]; exact q) fun c xs q => by rw [upd_ne (ne_of_none q n)]; exact q
/-- the same state, other things than the heap changed -/
theorem inv_same (I : Inv X pins σ H s) (ho : s'.os = s.os) (hg : AllBare s'.gens) : Inv X pins σ H { s' with heap := s.heap } :=
  ⟨I.ok, ho.trans I.os, hg, I.base, I.loc, I.cell, I.free, I.freeC, I.pin, I.hok, I.len⟩
/-- an expression that makes an exception, as a value -/
theorem pe_mkv {e : Expr} {t : L2.St → Hp → XK → Prop} (h : PMk X e t) : PE X e (fun σ H Q => t σ H fun cls d H1 => ∀ a, H1 a = none → Q (.ref a) (upd H1 a (ExV cls a d))) := by
  refine ⟨fun pins s σ H Q I hq => thn (h pins s σ H _ I hq) fun u s1 ⟨a, oe, vs, sI, H', cls, d, eu, J, k, na, ea, z, dd, _, hn, os, bare, _, q⟩ => ?_⟩
  subst eu
  have J1 : Inv X pins σ H' { s1 with heap := sI.heap } := inv_same J os bare
  obtain ⟨h1, g1, d1, t1, o1⟩ := s1
  have J2 : Inv X pins σ (upd H' a (ExV cls a d)) ⟨h1, g1, d1, t1, o1⟩ := J1.laidN (t' := t1) k na hn (exV_ok ea z dd)
  exact ⟨.ref a, _, J2, rfl, q a hn⟩
end

/-- what 'except x as n' with this suite wishes of an exception of the body: behind the suite the exception is held -/
def wHeld (K : PySem.W.Frag) (c : Value) (i : Nat) (ts : Addr → Value → Option Addr → TS) (Wout : WX) (D : Ends) : WX := fun cls d σ H =>
  ∃ b, PySem.W.exmOne K cls c = some b ∧ (b = true → ∀ a, H a = none → ts a cls d { nx := fun σ' H' => D.nx (σ'.set i none) (upd H' a (ExV cls a d)), rt := fun v H' => D.rt v (upd H' a (ExV cls a d)), bk := fun σ' H' => D.bk (σ'.set i none) (upd H' a (ExV cls a d)), ct := fun σ' H' => D.ct (σ'.set i none) (upd H' a (ExV cls a d)) } (σ.set i (some (.ref a))) H) ∧ (b = false → Wout cls d σ H)
section
variable {X : Cx} {x n : Str} {c : Value} {i : Nat} {body suite : List Stmt} {b₀ : Stmt} {np pos pos' : Pos} {tb : WX → TS} {ts : Addr → Value → Option Addr → TS} {Wout : WX}
theorem ps_try_held (hs : X.stack = X.env :: X.outer) (hf : X.env.frame = some X.env.locals) (hex : X.ex = []) (hN : X.N.Nodup) (hi : X.N[i]? = some n) (hln : X.env.kindOf n = some .local) (hc : Names X x c) (tk : Takes X Wout)
    (hb : ∀ (W : WX) (pn : List (Addr × Obj)) (xe : Value → Shared → Prop), Takes (X.tr pn xe) W → PassesOwn (model X.prog X.w) X.A X.env xe → PSs (X.tr pn xe) body (tb W))
    (hsu : ∀ (a : Addr) (oe : Obj) (cls : Value) (d : Option Addr) (pn : List (Addr × Obj)), Zc cls d oe → (∃ vs, oe.data = .fields vs) → PSs (X.suite a ((a, oe) :: pn)) (b₀ :: suite) (ts a cls d)) :
    PS X (.Try body [.ExceptHandler (some (.Name x np)) (some n) (b₀ :: suite) pos'] [] [] pos) (fun D σ H => tb (wHeld X.K c i ts Wout D) D σ H) := by
  refine ⟨fun pins s σ H D I h => ?_⟩
  have ok := I.ok
  have fr : X.A.frames = some (X.env :: X.outer) := ok.frames.trans (congrArg some hs)
  refine wpAny_Try_except (wpAny_mono ((hb (wHeld X.K c i ts Wout D) (X.pn ++ pins) _ (fun u s' xx => ?_) PassesOwn.looking).run [] s σ H D (I.toTry _) h) (fun f s1 hsp => ?_) fun _ _ z => z)
  rotate_left
  · match f, hsp with
    | .next, ⟨σ', H', J, q⟩ => exact wpAny_execs_nil ⟨σ', H', J.ofTry ok, q⟩
    | .brk, ⟨σ', H', J, q⟩ => exact ⟨σ', H', J.ofTry ok, q⟩
    | .cont, ⟨σ', H', J, q⟩ => exact ⟨σ', H', J.ofTry ok, q⟩
    | .ret u, ⟨v, σ', H', J, r, q⟩ => exact ⟨v, σ', H', J.ofTry ok, r, q⟩
  obtain ⟨a, B, sI, pins', σ', H', cls, d, rfl, JT, nb, up, sky, na, os, ag, b, hb1, yes, no⟩ := xx
  have J : Inv X pins σ' H' sI := JT.ofTry ok
  rw [hs] at sky
  refine Sky.land (env := X.env) (outer := X.outer) Zc.steady fr hf sky fun h3 f3 u3 => ?_
  obtain ⟨o3, v3, g3, z3, d3⟩ := f3.there
  have J3 : Inv X pins σ' H' { s' with heap := h3 } := J.landed nb f3.1 (up.trans u3) os ag
  have nfr : a ∉ frs (X.env :: X.outer) := fun hm => by
    obtain ⟨_, o', e', hnf⟩ := f3.2.2.1.mem hm
    rw [g3] at e'
    cases e'
    exact hnf _ d3
  have nL : a ≠ X.env.locals := fun z => nfr (List.mem_filterMap.mpr ⟨X.env, List.mem_cons_self, by rw [hf, z]⟩)
  have nF : a ∉ X.fs := fun hm => by
    obtain ⟨e, he, q⟩ := List.mem_filterMap.mp hm
    exact nfr (List.mem_filterMap.mpr ⟨e, List.mem_cons_of_mem _ he, q⟩)
  have nI : sI.heap.get? a = none := by
    cases e : sI.heap.get? a with
    | none => rfl
    | some u =>
      have z := nb a u e (by rw [hs]; exact nfr)
      rw [f3.2.1] at z
      cases z
  have n0 : X.s_0.heap.get? a = none := by
    cases e : X.s_0.heap.get? a with
    | none => rfl
    | some u =>
      obtain ⟨o', z⟩ := J.base.there a u e (by rw [hex]; exact fun z => nomatch z)
      rw [nI] at z
      cases z
  have npin : ∀ p ∈ X.pn ++ pins, p.1 ≠ a := fun p hp z => by
    have e := (J.pin p hp).1
    rw [z, nI] at e
    cases e
  have nc : ∀ y c, X.env.cells.lookup y = some c → c ≠ a := fun y c e z => by
    obtain ⟨v, o', e', _⟩ := J.cell y c e
    rw [z, nI] at e'
    cases e'
  have S3 := J3.suite g3 d3 na nL nF
  refine wpAny_handleBy_cons (codeAny_handlers_test ?_) (by intro q; cases q)
  have LT : PySem.W.Looks (model X.prog X.w) h3 (typeOf (.ref a)) cls := fun A Q E s k q => wpAny_typeOf_ref (k _ _ g3) (by rw [z3.1]; exact q)
  have LM := PySem.W.exm_one (M := model X.prog X.w) J3.kIn LT hb1
  have clause : ∀ {Q : Value → Shared → Prop} {E : Value → Shared → Prop}, Q c { s' with heap := h3 } → wpAny (model X.prog X.w) (X.A.mark (some (.ref a))) (eval (.Name x np) X.env) Q E { s' with heap := h3 } := fun q => by
    obtain ⟨hg, hdbg, hm | ⟨hm, hv, hnn⟩⟩ := hc
    · exact ld_glob (X := X.suite a ((a, o3) :: (X.pn ++ pins))) S3 hg hm q hdbg
    · exact ld_blt (X := X.suite a ((a, o3) :: (X.pn ++ pins))) S3 hg hm hv q hnn hdbg
  refine clause (LM.here ?_)
  cases b with
  | true =>
    refine codeAny_handlers_suite_as (HandSPX.lands_againZ f3 fun h4 f4 u4 => ?_)
    have J4 : Inv X pins σ' H' { s' with heap := h4 } := J.landed nb f4.1 ((up.trans u3).trans u4) os ag
    obtain ⟨o4, v4, g4, z4, d4⟩ := f4.there
    refine store_ok (X := X.suite a ((a, o4) :: (X.pn ++ pins))) (v := .ref a) (J4.suite g4 d4 na nL nF) hN hi (.inl hln) rfl (fun s5 S5 => ?_) (.inr hln)
    refine wpAny_mono ((hsu a o4 cls d (X.pn ++ pins) z4 ⟨_, d4⟩).run [] s5 _ H' _ S5 (yes rfl a na)) (fun f s6 hsp => ?_) fun _ _ z => z.elim
    have fin : ∀ {σ6 : L2.St} {H6 : Hp} {Q : Shared → Prop}, Inv (X.suite a ((a, o4) :: (X.pn ++ pins))) [] σ6 H6 s6 → (∀ s7, Inv X pins (σ6.set i none) (upd H6 a (ExV cls a d)) s7 → Q s7) →
        wpAny (model X.prog X.w) X.A (do bindName X.env n .none; unbindBehindTheSuite X.env n pos') (fun _ s7 => Q s7) X.xe s6 := fun {σ6 H6 Q} S6 hq => by
      have P6 : Inv X ((a, o4) :: pins) σ6 H6 s6 := (S6.unsuite ok).pins_of fun p hp => by
        rcases List.mem_cons.mp hp with rfl | hp
        · exact S6.pin _ (List.mem_append_left _ List.mem_cons_self)
        · exact S6.pin p (List.mem_append_left _ (List.mem_cons_of_mem _ (List.mem_append_right _ hp)))
      refine gone_ok P6 hN hi hln fun s7 J7 => hq s7 ?_
      obtain ⟨e7, n7, _⟩ := J7.pin (a, o4) (List.mem_append_right _ List.mem_cons_self)
      have J8 : Inv X pins (σ6.set i none) H6 s7 := J7.pins_of fun p hp => J7.pin p (List.mem_append_right _ (List.mem_cons_of_mem _ hp))
      exact inv_take J8 n7 n0 npin nL nc (exV_ok e7 z4 d4)
    match f, hsp with
    | .next, ⟨σ6, H6, S6, q6⟩ => exact fin S6 fun s7 J7 => ⟨_, _, J7, q6⟩
    | .brk, ⟨σ6, H6, S6, q6⟩ => exact fin S6 fun s7 J7 => ⟨_, _, J7, q6⟩
    | .cont, ⟨σ6, H6, S6, q6⟩ => exact fin S6 fun s7 J7 => ⟨_, _, J7, q6⟩
    | .ret u, ⟨v6, σ6, H6, S6, r6, q6⟩ => exact fin S6 fun s7 J7 => ⟨_, _, _, J7, r6, q6⟩
  | false =>
    refine wpAny_handleBy_nil ?_
    obtain ⟨_, _, _, oe, vs, T, oT, ts', he, hz, hd, h1, hr⟩ := id f3
    unfold PySem.passOn
    refine wpAny_bind (wpAny_field he hd h1 ?_)
    rw [if_neg (show ¬ ((Value.ref T == Value.none) = true) from by simp)]
    have goes : wpAny (model X.prog X.w) X.A (setFlight (.ref a) X.env.frame) (fun _ s4 => wpAny (model X.prog X.w) X.A (throw (.ref a) : Sem Flow) (SP X pins D) X.xe s4) X.xe { s' with heap := h3 } := by
      rw [hf]
      refine HandSPX.setFlight_upZ f3 fun h4 hh4 u4 => wpAny_throw (tk _ _ ?_)
      exact ⟨a, B, sI, pins, σ', H', cls, d, rfl, J, nb, (up.trans u3).trans u4, .inr (.inr (by rw [hs]; exact hh4)), na, os, ag, no rfl⟩
    first
      | exact wpAny_bind (wpAny_pure (wpAny_bind goes))
      | exact wpAny_bind goes
end

/-! ### a held exception asked -/
/-- the instance that it is -/
theorem held_inst {P : Program} {w : World} {H : Hp} {h : Heap} {C a : Addr} {d : Option Addr} (hok : HOk P w H h) (e : H a = some (ExV (.ref C) a d)) (hd : ∀ dd, d = some dd → ∃ fs, H dd = some (.xd fs)) :
    ∃ (oe : Obj) (od : Option Obj), PySem.W.InstAt h a oe C od ∧ (d = none → od = none) ∧ ∀ dd fs, d = some dd → H dd = some (.xd fs) → ∃ mA o, h.Ns1 dd mA ∧ (∀ f, RelO (fs.lookup f) (mA f)) ∧ od = some o ∧ h.get? dd = some o := by
  obtain ⟨oe, vs, g, z, dt⟩ := exV_at hok e
  obtain ⟨oc, odd, da, sl⟩ := oe
  obtain ⟨z1, z2⟩ := z
  dsimp only at z1 z2 dt
  subst z1 z2 dt
  cases odd with
  | none => exact ⟨_, none, ⟨g, rfl, rfl, trivial⟩, fun _ => rfl, fun dd fs e => by cases e⟩
  | some dd =>
    obtain ⟨fs, ed⟩ := hd dd rfl
    have hx : ObjOk P w H h dd (.xd fs) := hok dd _ ed
    obtain ⟨mA, hns, hr⟩ := hx
    obtain ⟨o, es, ep, ho, r⟩ := id hns
    refine ⟨_, some o, ⟨g, rfl, rfl, ho⟩, fun z => (nomatch z), fun dd' fs' e' ed' => ?_⟩
    cases e'
    have hx' : ObjOk P w H h dd (.xd fs') := hok dd _ ed'
    obtain ⟨mA', hns', hr'⟩ := hx'
    exact ⟨mA', o, hns', hr', rfl, ho⟩
/-- e.f, e a held exception -/
def tXh (K : PySem.W.Frag) (f : Str) (te : TE) : TE := fun σ H Q => te σ H fun x H1 => ∃ a C dd fs v, x = .ref a ∧ H1 a = some (ExV (.ref C) a (some dd)) ∧ XhC K C ∧ PySem.W.findIn K (.ref C) f = some none ∧ H1 dd = some (.xd fs) ∧ fs.lookup f = some v ∧ Q v H1
theorem pe_xh {X : Cx} {e : Expr} {te : TE} {f : Str} {pos : Pos} (he : PE X e te) (hb : attributeBase e f X.env (eval e X.env) = eval e X.env := by rfl) : PE X (.Attribute e f pos) (tXh X.K f te) := by
  refine ⟨fun pins s σ H Q I h => attr_of hb (thn (he.run pins s σ H _ I h) fun u s1 hh => ?_)⟩
  obtain ⟨x, H1, I1, rx, a, C, dd, fs, v, ex, ea, XC, hno, ed, l, q⟩ := hh
  subst ex
  obtain rfl : u = Value.ref a := rx
  obtain ⟨oe, od, J, _, hd⟩ := held_inst I1.hok ea fun d' e' => by cases e'; exact ⟨fs, ed⟩
  obtain ⟨mA, o, hns, hr, eo, ho⟩ := hd dd fs rfl ed
  obtain ⟨o2, ho2, hl⟩ := lookIn_ns hns
  rw [ho] at ho2
  cases ho2
  obtain ⟨u, hu, ru⟩ := RelO.some_of (v := v) (o := mA f) (by rw [← l]; exact hr f)
  subst eo
  exact HandSPX.exc_get I1.kIn J XC.xf.ga XC.xf.gg XC.xf.exC (PySem.W.findObj_own XC.xf.hdC hno rfl (by rw [hl, hu])) (handed_of ru) ⟨v, H1, I1.tok _, ru, q⟩
/-- a value's type, a held exception's too -/
inductive TyH (K : PySem.W.Frag) (H : Hp) : V → Value → Prop where
  | x {x : V} {t : Value} (h : TyX K H x t) : TyH K H x t
  | exc {a C : Addr} {d : Option Addr} (e : H a = some (ExV (.ref C) a d)) (c : XhC K C) (hd : ∀ dd, d = some dd → ∃ fs, H dd = some (.xd fs)) : TyH K H (.ref a) (.ref C)
/-- isinstance(x, c), x perhaps a held exception -/
def rIsH (K : PySem.W.Frag) : List V → Hp → VK → Prop := fun xs H Q => ∃ (x c : V) (t u : Value) (b : Bool), xs = [x, c] ∧ ClsV c u ∧ TyH K H x t ∧ PySem.W.kitOne K t u = some b ∧ Q (.bl b) H
theorem call_isH {X : Cx} : CallR X (.builtin "isinstance") (rIsH X.K) := by
  intro pins s σ H xs us Q I r h
  obtain ⟨x, c, t, u, b, rfl, k, ty, e, q⟩ := h
  obtain ⟨u1, u2, rfl, r1, r2⟩ := vals2 r
  have e2 := k.eq r2
  subst e2
  cases ty with
  | x ty =>
    obtain ⟨P, Z, p, hx⟩ := kit_of I r1 ty
    exact PySem.W.kia_one Z I.kIn p e hx fun tk => ⟨.bl b, H, I.tok tk, rfl, q⟩
  | @exc a C d ea XC hd =>
    obtain rfl : u1 = Value.ref a := r1
    obtain ⟨oe, od, J, _⟩ := held_inst I.hok ea hd
    exact PySem.W.kia_one (PySem.W.kitx_exc XC.some_ XC.xf.ga XC.xf.gg XC.xf.exC XC.at_ XC.sp XC.tk XC.ob) I.kIn J e (fun z => nomatch z) fun tk => ⟨.bl b, H, I.tok tk, rfl, q⟩
end Gs

set_option maxRecDepth 100000
set_option maxHeartbeats 4000000
/-! the head's facts, exceptions with super().__init__ and tables of code objects among them; the law's end -/
namespace Gs
open PySem PySem.Spec PyProof.Rows L2

/-! ### an exception class that stands in the written part -/
structure XcD where
  x : Str
  qual : Str
  params : Arguments
  body : List Stmt
  scope : Scope
abbrev XcV : Type := Option (Str × Str × Arguments × FuncBody × Scope × Addr × List Str × Addr)
def xcInit (K : PySem.W.Frag) (x : Str) : Addr := He.ma K (He.ga K x) "__init__"
def xcObs (K : PySem.W.Frag) (x : Str) : XcV := match K.lookup (xcInit K x) with
  | some ⟨_, _, .func fd, _⟩ => some (fd.name, fd.qualname, fd.params, fd.body, fd.scope, fd.globals, fd.closure.map (·.1), fd.builtins)
  | _ => none
def XcD.val (d : XcD) : XcV := some ("__init__", d.qual, d.params, .stmts d.body, d.scope, mainGlobals, ["__class__"], builtinsNs)
def oexB (K : PySem.W.Frag) (C : Addr) : Bool := (match K.lookup C with
  | some ⟨.type t, _, .cls cd, sl⟩ => decide (t = "type") && (match cd.mro, sl.toList with
    | .ref C' :: bm, [_, _, _, _, some (.builtin n), _] => decide (C' = C) && (decide (n = "ValueError.__new__") && ((!cd.hasDel) && (cd.hasDict && PySem.HandSPX.refsVE bm)))
    | _, _ => false)
  | _ => false) && (decide (PySem.W.findIn K (.ref C) "__setattr__" = some (some (.builtin "object.__setattr__"))) && (decide (PySem.W.subIn K (.ref C) (.type "BaseException") = some true) &&
    (decide (PySem.W.typeIn K (.ref C) = some (.type "type")) && PySem.W.keepIn K (.ref C))))
theorem oexB_ok {K : PySem.W.Frag} {C : Addr} (h : oexB K C = true) : OexC K C := by
  obtain ⟨h1, h⟩ := He.ba h
  obtain ⟨h2, h⟩ := He.ba h
  obtain ⟨h3, h⟩ := He.ba h
  obtain ⟨h4, h5⟩ := He.ba h
  refine ⟨?_, of_decide_eq_true h2, of_decide_eq_true h3, of_decide_eq_true h4, h5⟩
  split at h1
  · rename_i t dd cd sl ho
    obtain ⟨e0, h1⟩ := He.ba h1
    have e0 : t = "type" := of_decide_eq_true e0
    subst e0
    split at h1
    · rename_i C' bm k0 k1 k2 k3 n k5 hm hs
      obtain ⟨_, f1⟩ := He.ba h1
      obtain ⟨e1, f1⟩ := He.ba f1
      obtain ⟨e2, f1⟩ := He.ba f1
      obtain ⟨e3, f1⟩ := He.ba f1
      obtain ⟨e4, e5⟩ := He.ba f1
      have e1 : C' = C := of_decide_eq_true e1
      have e2 : n = "ValueError.__new__" := of_decide_eq_true e2
      subst e1 e2
      obtain ⟨nm, bs, mro, ns, qn, hd, sn, sub, ab, col, del⟩ := cd
      dsimp only at hm e3 e4
      simp only [Bool.not_eq_true'] at e3
      subst hm e3 e4
      have hsl : sl = #[k0, k1, k2, k3, some (.builtin "ValueError.__new__"), k5] := by
        obtain ⟨l⟩ := sl
        simp only at hs
        rw [hs]
      subst hsl
      exact ⟨nm, qn, ns, bs, bm, sn, sub, ab, col, dd, k0, k1, k2, k3, k5, ho, e5⟩
    · cases h1
  · cases h1
def xhB (K : PySem.W.Frag) (C : Addr) : Bool := oexB K C && (xfB K C && (decide (PySem.W.findIn K (.ref C) "__class__" = some (some (.builtin "object.__class__"))) &&
  (decide (PySem.W.specialIn K (.builtin "object.__class__") "__get__" = some (some (.builtin "getset_descriptor.__get__"))) && (decide (PySem.W.takesIn K (.builtin "object.__class__") = some true) && decide (PySem.W.mroIn K C (.type "object") = some true)))))
theorem xhB_ok {K : PySem.W.Frag} {C : Addr} (h : xhB K C = true) : XhC K C := by
  obtain ⟨h1, h⟩ := He.ba h
  obtain ⟨h2, h⟩ := He.ba h
  obtain ⟨h3, h⟩ := He.ba h
  obtain ⟨h4, h⟩ := He.ba h
  obtain ⟨h5, h6⟩ := He.ba h
  exact ⟨oexB_ok h1, xfB_ok h2, of_decide_eq_true h3, of_decide_eq_true h4, of_decide_eq_true h5, of_decide_eq_true h6⟩
/-- the __init__'s code object and its cell -/
def xcFn (K : PySem.W.Frag) (file : Str) (C f : Addr) (q : Str) : Bool := match K.lookup f with
  | some ⟨_, _, .func fd, _⟩ => PySem.W.codeIn K fd.code q && ((match fd.defaults with
    | .none => true
    | _ => false) && ((match fd.code with
    | .ref cda => (match K.lookup cda with
      | some ⟨_, _, .fields vs, _⟩ => (match (vs[2]? : Option Value) with
        | some (Value.str fl _) => file == fl
        | _ => false)
      | _ => false)
    | _ => false) && (match fd.closure with
    | [(_, cc)] => (match K.lookup cc with
      | some ⟨_, _, .cell (some (.ref D)), _⟩ => decide (D = C)
      | _ => false)
    | _ => false)))
  | _ => false
def xcB (K : PySem.W.Frag) (file : Str) (d : XcD) : Bool :=
  decide (PySem.W.nsIn K mainGlobals d.x = some (some (.ref (He.ga K d.x)))) && (xhB K (He.ga K d.x) && (xcFn K file (He.ga K d.x) (xcInit K d.x) d.qual &&
    (decide (PySem.W.findIn K (.ref (He.ga K d.x)) "__init__" = some (some (.ref (xcInit K d.x)))) && (decide (PySem.W.typeIn K (.ref (xcInit K d.x)) = some (.type "function")) &&
    (decide (PySem.W.ks_superIn K (He.ga K d.x) (He.ga K d.x) "__init__" = some (some (.builtin "ValueError.__init__"))) && (decide (PySem.W.subIn K (.ref (He.ga K d.x)) (.type "ValueError") = some true) &&
    (decide (PySem.W.mroIn K (He.ga K d.x) (.ref (He.ga K d.x)) = some true) && (decide (PySem.W.nsIn K cStatics "thirdparty.any" = some none) && decide (PySem.W.nsIn K mainGlobals "super" = some none)))))))))

theorem xc_at {P : Program} {K : PySem.W.Frag} {h : Heap} {mg : Str → Option Value} {d : XcD} {st : Stmt} (X : K.In h) (G : h.Ns mainGlobals mg) (top : (P.main.scope.names.lookup ("super" : Str)).isSome = false)
    (e : xcObs K d.x = d.val) (b : xcB K P.main.file d = true) (e1 : d.params = defArgs st) (e2 : d.body = defBody st) (e3 : d.scope = defScope st) : ExcAt P K mg d.x d.qual st := by
  obtain ⟨x, qual, params, body, scope⟩ := d
  dsimp only at e1 e2 e3
  subst e1 e2 e3
  obtain ⟨b1, b⟩ := He.ba b
  obtain ⟨b2, b⟩ := He.ba b
  obtain ⟨b3, b⟩ := He.ba b
  obtain ⟨b4, b⟩ := He.ba b
  obtain ⟨b5, b⟩ := He.ba b
  obtain ⟨b6, b⟩ := He.ba b
  obtain ⟨b7, b⟩ := He.ba b
  obtain ⟨b8, b⟩ := He.ba b
  obtain ⟨b9, b10⟩ := He.ba b
  dsimp only at b1 b2 b3 b4 b5 b6 b7 b8 b9 b10 e ⊢
  unfold xcObs at e
  unfold xcFn at b3
  cases q : K.lookup (xcInit K x) with
  | none =>
    rw [q] at b3
    cases b3
  | some o =>
    obtain ⟨oc, od, dt, osl⟩ := o
    rw [q] at b3 e
    cases dt with
    | func fd =>
      obtain ⟨n1, n2, n3, n4, n5, n6, n7, n8, n9, n10, n11, n12, n13, n14, n15⟩ := fd
      have e2 : (some (n1, n2, n3, n4, n5, n6, n7.map (·.1), n15) : XcV) = (some (("__init__" : Str), qual, defArgs st, FuncBody.stmts (defBody st), defScope st, mainGlobals, [("__class__" : Str)], builtinsNs) : XcV) := e
      simp only [Option.some.injEq, Prod.mk.injEq] at e2
      obtain ⟨h1, h2, h3, h4, h5, h6, h7, h8⟩ := e2
      subst h1 h2 h3 h4 h5 h6 h8
      obtain ⟨c1, c⟩ := He.ba b3
      obtain ⟨c2, c⟩ := He.ba c
      obtain ⟨c3, c4⟩ := He.ba c
      dsimp only at c1 c2 c3 c4
      have d2 : n8 = .none := by
        cases n8 with
        | none => rfl
        | _ => cases c2
      subst d2
      cases n13 with
      | ref cda =>
        dsimp only at c3
        cases q2 : K.lookup cda with
        | none =>
          rw [q2] at c3
          cases c3
        | some oc2 =>
          obtain ⟨ccl, cdd, dt2, ccs⟩ := oc2
          rw [q2] at c3
          cases dt2 with
          | fields vs =>
            dsimp only at c3
            cases q3 : vs[2]? with
            | none =>
              rw [q3] at c3
              cases c3
            | some u =>
              rw [q3] at c3
              cases u with
              | str fl tf =>
                match n7, h7, c4 with
                | [(nm, cc)], h7, c4 =>
                  have hnm : nm = ("__class__" : Str) := by
                    have h7' : [nm] = [("__class__" : Str)] := h7
                    cases h7'
                    rfl
                  subst hnm
                  dsimp only at c4
                  cases q4 : K.lookup cc with
                  | none =>
                    rw [q4] at c4
                    cases c4
                  | some oc4 =>
                    obtain ⟨cl, cld, dt4, csl⟩ := oc4
                    rw [q4] at c4
                    cases dt4 with
                    | cell w4 =>
                      cases w4 with
                      | some w5 =>
                        cases w5 with
                        | ref D =>
                          have eD : D = He.ga K x := of_decide_eq_true c4
                          subst eD
                          have XC := xhB_ok b2
                          exact ⟨_, _, cda, cc, vs, oc, od, osl, _, _, _, _, _, PySem.W.mg_of X G (of_decide_eq_true b1), XC, q, c1,
                            ⟨XC.oex, ⟨_, _, _, q2⟩, ⟨fl, tf, q3, c3⟩, ⟨_, _, _, q4⟩, of_decide_eq_true b6, of_decide_eq_true b7, of_decide_eq_true b8, of_decide_eq_true b9, PySem.W.mg_none_of X G (of_decide_eq_true b10), top⟩,
                            of_decide_eq_true b4, of_decide_eq_true b5⟩
                        | _ => cases c4
                      | none => cases c4
                    | _ => cases c4
              | _ => cases c3
          | _ => cases c3
      | _ => cases c3
    | _ => cases b3

/-! ### the Hook -/
def asS (g : Addr → Option Obj) : Nat → List Addr
  | 0 => [mainGlobals, cStatics]
  | n + 1 => He.growD g (asS g n)
abbrev AlS : Type := He.AlD × (List XcV × Bool)
def obsK (file : Str) (fa : List He.Fa) (fn : List He5.DefA) (xs : List XcD) (tf : List He.Defn) (ex : PySem.W.Frag → Bool) (g : Addr → Option Obj) (K : PySem.W.Frag) : AlS :=
  (He5.obsA fa fn K, (xs.map fun d => xcObs K d.x, ex K && ((xs.all fun d => xcB K file d) && He.tabsB g tf K)))
def obsS (n : Nat) (file : Str) (fa : List He.Fa) (fn : List He5.DefA) (xs : List XcD) (tf : List He.Defn) (ex : PySem.W.Frag → Bool) (g : Addr → Option Obj) : AlS := obsK file fa fn xs tf ex g (He.frT g (asS g n))
def valS (fn : List He5.DefA) (xs : List XcD) : AlS := (He5.valA fn, (xs.map XcD.val, true))
/-- what the end leans on -/
structure SaysS (file : Str) (fa : List He.Fa) (fn : List He5.DefA) (xs : List XcD) (tf : List He.Defn) (ex : PySem.W.Frag → Bool) (h : Heap) (K : PySem.W.Frag) : Prop where
  d : He5.SaysA fa fn K
  xo : ∀ d ∈ xs, xcObs K d.x = d.val
  xb : ∀ d ∈ xs, xcB K file d = true
  more : ex K = true
  hd : ∀ p ∈ tf, PySem.W.codeHdIn K (He.cT K p).1 (He.cT K p).2 = true
  out : ∀ p ∈ tf, K.lookup (He.cT K p).2 = none
  empty : ∀ p ∈ tf, h.get? (He.cT K p).2 = some { cls := .none, data := .fields #[] }
theorem saysS_of {n : Nat} {file : Str} {fa : List He.Fa} {fn : List He5.DefA} {xs : List XcD} {tf : List He.Defn} {ex : PySem.W.Frag → Bool} {h : Heap} (e : obsS n file fa fn xs tf ex h.get? = valS fn xs) : SaysS file fa fn xs tf ex h (He.frT h.get? (asS h.get? n)) := by
  unfold obsS at e
  generalize eK : He.frT h.get? (asS h.get? n) = K at e ⊢
  have e1 : He5.obsA fa fn K = He5.valA fn := congrArg (fun z : AlS => z.1) e
  have e2 : (xs.map fun d => xcObs K d.x) = xs.map XcD.val := congrArg (fun z : AlS => z.2.1) e
  have e3 : (ex K && ((xs.all fun d => xcB K file d) && He.tabsB h.get? tf K)) = true := congrArg (fun z : AlS => z.2.2) e
  obtain ⟨h1, h2⟩ := He.ba e3
  obtain ⟨h2, h3⟩ := He.ba h2
  have tab : ∀ p ∈ tf, PySem.W.codeHdIn K (He.cT K p).1 (He.cT K p).2 = true ∧ ∃ o, h.get? (He.cT K p).2 = some o ∧ He.emptyTab o = true := fun p hp => by
    obtain ⟨h4, h5⟩ := He.ba (List.all_eq_true.mp h3 p hp)
    cases q : h.get? (He.cT K p).2 with
    | none =>
      rw [q] at h5
      cases h5
    | some o =>
      rw [q] at h5
      exact ⟨h4, o, rfl, h5⟩
  refine ⟨e1, fun d hd => ?_, fun d hd => List.all_eq_true.mp h2 d hd, h1, fun p hp => (tab p hp).1, fun p hp => ?_, fun p hp => ?_⟩
  · exact List.map_inj_left.mp e2 d hd
  · obtain ⟨_, o, q, z⟩ := tab p hp
    rw [← eK] at q ⊢
    exact He.frT_none q z
  · obtain ⟨_, o, q, z⟩ := tab p hp
    rw [q, He.emptyTab_eq z]
def hookS (n : Nat) (file : Str) (fa : List He.Fa) (fn : List He5.DefA) (xs : List XcD) (tf : List He.Defn) (ex : PySem.W.Frag → Bool) : PySem.W.Hook where
  α := AlS
  obs := fun s => obsS n file fa fn xs tf ex s.heap.get?
  val := fun _ => valS fn xs
  says := fun _ h => ∃ K : PySem.W.Frag, K.In h ∧ SaysS file fa fn xs tf ex h K
  of := fun _ _ e => ⟨_, He.frT_in, saysS_of e⟩
  keeps := fun _ _ _ ⟨K, hK, c⟩ k => ⟨K, PySem.W.Frag.In.keeps hK k, ⟨c.d, c.xo, c.xb, c.more, c.hd, c.out, fun p hp => k _ _ (c.empty p hp)⟩⟩
theorem obsS_eq {n : Nat} {file : Str} {fa : List He.Fa} {fn : List He5.DefA} {xs : List XcD} {tf : List He.Defn} {ex : PySem.W.Frag → Bool} {g : Addr → Option Obj} {s : Shared} (h : ∀ a, g a = s.heap.get? a) : obsS n file fa fn xs tf ex g = (hookS n file fa fn xs tf ex).obs s := by
  have e : g = s.heap.get? := funext h
  rw [e] <;> rfl

/-! ### the law's end with tables, the guards told -/
open LamX
section
variable {P : Program} {w : World} {K : PySem.W.Frag} {mg mb : Str → Option Value} {a : Addr} {s s' : Shared} {vs : List Value} {cs : List (Addr × Addr)} {H H' : Hp}
/-- the entry's state, H all that is tracked there: the script, the tables -/
theorem enterS (KX : K.In s.heap) (hns : s.heap.Ns mainGlobals mg) (hb : s.heap.Ns builtinsNs mb)
    (hbb : ∀ x : Str, x ≠ "__name__" → mb x = bootBuiltins x) (hlim : s.heap.NoLimit) (hg : s.gens = #[]) (ha : s.heap.get? a = some { cls := .type "list", data := .seq vs.toArray })
    (hT : ∀ p ∈ cs, s.heap.get? p.2 = some { cls := .none, data := .fields #[] }) (nT : ∀ p ∈ cs, K.lookup p.2 = none) (C : ∀ p ∈ cs, PySem.W.CodeHd s.heap p.1 p.2)
    (hbm : ∃ (bm : Addr) (ob : Obj), mg "__builtins__" = some (.ref bm) ∧ bm ≠ builtinsNs ∧ s.heap.get? bm = some ob ∧ ob.cls = .type "module" ∧ ob.dict = some builtinsNs ∧ ob.data = .plain)
    (hok : HOk P w H s.heap) (hA : ∀ b, H b ≠ none → b = a ∨ ∃ p ∈ cs, b = p.2) (hK : H a ≠ none → K.lookup a = none) :
    K.In (hidT s.heap H) ∧ (hidT s.heap H).Ns mainGlobals mg ∧ (NoDig s.heap → NoDig (hidT s.heap H)) ∧ (∀ p ∈ cs, TabB (hidT s.heap H) mg p.1 p.2) ∧ Env0 P w K mg (hidT s.heap H) callerA [] s H := by
  have free : ∀ {b : Addr} {o : Obj}, s.heap.get? b = some o → ((o ≠ { cls := .type "list", data := .seq vs.toArray } ∧ o ≠ { cls := .none, data := .fields #[] }) ∨ K.lookup b = some o) → H b = none := by
    intro b o e d
    by_cases z : H b = none
    · exact z
    · rcases hA b z with eb | ⟨p, hp, eb⟩
      · subst eb
        rcases d with ⟨d, _⟩ | d
        · rw [ha] at e
          exact (d (Option.some.inj e).symm).elim
        · rw [hK z] at d
          cases d
      · subst eb
        rcases d with ⟨_, d⟩ | d
        · rw [hT p hp] at e
          exact (d (Option.some.inj e).symm).elim
        · rw [nT p hp] at d
          cases d
  have dict : ∀ {b : Addr} {o : Obj} {es : Array DictEntry} {ep : Nat}, s.heap.get? b = some o → o.data = .dict es ep → (hidT s.heap H).get? b = some o := by
    intro b o es ep e d
    refine hidT_get e (free e (.inl ⟨fun z => ?_, fun z => ?_⟩))
    · rw [z] at d
      cases d
    · rw [z] at d
      cases d
  have ns : ∀ {b : Addr} {m : Str → Option Value}, s.heap.Ns b m → (hidT s.heap H).Ns b m := by
    rintro b m ⟨o, es, ep, e, d, r⟩
    exact ⟨o, es, ep, dict e d, d, r⟩
  have kin : K.In (hidT s.heap H) := fun b o e => hidT_get (KX b o e) (free (KX b o e) (.inr e))
  obtain ⟨mc, h1, h2⟩ := hlim
  refine ⟨kin, ns hns, fun ⟨md, d1, d2⟩ => ⟨md, ns d1, d2⟩, fun p hp => ⟨?_, ?_, fun z => ?_⟩, ⟨rfl, ⟨kin, ns hns, ⟨mb, ns hb, hbb⟩, ⟨mc, ns h1, h2⟩⟩, fun b o e => of_hidT e, Nat.le_of_eq (hidT_size _ _), trivial,
    fun b z => absurd (show b ∈ ([] : List Addr) from z) (by simp), hok, .of_eq hg⟩⟩
  · obtain ⟨o, us, file, tf, flags, tg, inF, text, tt, e1, r1, r2, r3, r⟩ := C p hp
    refine ⟨o, us, file, tf, flags, tg, inF, text, tt, hidT_get e1 (free e1 (.inl ⟨fun z => ?_, fun z => ?_⟩)), r1, r2, r3, r⟩
    · rw [z] at r2
      cases r2
    · rw [z] at r2
      cases r2
      simp at r3
  · obtain ⟨bm, ob, b1, b2, b3, b4, b5, b6⟩ := hbm
    refine ⟨bm, ob, b1, b2, fun q => ?_, fun q => ?_, hidT_get b3 (free b3 (.inl ⟨fun z => ?_, fun z => ?_⟩)), b4, b5, b6⟩
    · obtain ⟨o, es, ep, e, d, _⟩ := hns
      rw [q, e] at b3
      cases b3
      rw [d] at b6
      cases b6
    · rw [q, hT p hp] at b3
      cases b3
      cases b6
    · rw [z] at b6
      cases b6
    · rw [z] at b6
      cases b6
  · obtain ⟨o, es, ep, e, d, _⟩ := hns
    rw [z, hT p hp] at e
    cases e
    cases d
theorem leaveS (hT : ∀ p ∈ cs, s.heap.get? p.2 = some { cls := .none, data := .fields #[] }) (C : ∀ p ∈ cs, PySem.W.CodeHd s.heap p.1 p.2) (hH : ∀ p ∈ cs, H p.2 = some (.tbl #[]))
    (hO : ∀ b, H b = none ∨ (∃ p ∈ cs, b = p.2) ∨ ∃ ob xs, H b = some (.frz ob (.lst xs))) (hok : HOk P w H s.heap) (hok' : HOk P w H' s'.heap) (un : Un (frs []) [] H H' s.heap s'.heap) : OldK s.heap s'.heap := by
  have key : ∀ b o, s.heap.get? b = some o → (s'.heap.get? b = some o ∨ ∃ p ∈ cs, b = p.2) := fun b o e => by
    rcases hO b with z | z | ⟨ob, xs, z⟩
    · exact .inl (un.keep b o e z (fun y => absurd (show b ∈ ([] : List Addr) from y) (by simp)) (by simp))
    · exact .inr z
    · have e1 := (hok b _ z).1
      have e2 := (hok' b _ (un.frzs b ob _ z)).1
      rw [e] at e1
      cases e1
      exact .inl e2
  have grown : ∀ p ∈ cs, ∃ more : Array Value, s'.heap.get? p.2 = some { cls := .none, data := .fields more } := fun p hp => by
    obtain ⟨more, z⟩ := un.tbls p.2 #[] (hH p hp)
    exact ⟨_, hok' p.2 _ z⟩
  refine ⟨fun b o e => ?_, fun b o e => ?_⟩
  · rcases key b o e with q | ⟨p, hp, rfl⟩
    · exact .inl q
    · obtain ⟨more, hm⟩ := grown p hp
      rw [hT p hp] at e
      cases e
      exact .inr (.inl ⟨((C p hp).tab (hT p hp)).isCodeTable, rfl, #[], more, rfl, by rw [Array.empty_append]; exact hm⟩)
  · rcases key b o e with q | ⟨p, hp, rfl⟩
    · exact ⟨o, q⟩
    · obtain ⟨more, hm⟩ := grown p hp
      exact ⟨_, hm⟩
end

theorem lawS {P : Program} {w : World} {K : PySem.W.Frag} {mg mb : Str → Option Value} {k : Nat} {fa a : Addr} {fd : FuncData} {x : Str} {sp : Sp} {s : Shared} {vs : List Value} {ns : List Int} {cs : List (Addr × Addr)}
    (KX : K.In s.heap) (hns : s.heap.Ns mainGlobals mg) (hb : s.heap.Ns builtinsNs mb) (hbb : ∀ x : Str, x ≠ "__name__" → mb x = bootBuiltins x) (hlim : s.heap.NoLimit) (hdig : NoDig s.heap) (hg : s.gens = #[])
    (ha : s.heap.get? a = some { cls := .type "list", data := .seq vs.toArray }) (hi : IntsAre vs ns) (hl : ns.length ≤ sizeLine) (hr : Room k callerA)
    (hT : ∀ p ∈ cs, s.heap.get? p.2 = some { cls := .none, data := .fields #[] }) (nT : ∀ p ∈ cs, K.lookup p.2 = none) (C : ∀ p ∈ cs, PySem.W.CodeHd s.heap p.1 p.2)
    (hbm : ∃ (bm : Addr) (ob : Obj), mg "__builtins__" = some (.ref bm) ∧ bm ≠ builtinsNs ∧ s.heap.get? bm = some ob ∧ ob.cls = .type "module" ∧ ob.dict = some builtinsNs ∧ ob.data = .plain)
    (F : ∀ base : Heap, K.In base → base.Ns mainGlobals mg → NoDig base → (∀ p ∈ cs, TabB base mg p.1 p.2) → FnG P w K mg base CX0 k fa fd [x] sp) (hbind : ∀ (s : Shared) (u : Value), BindsTo s fd ⟨[u], []⟩ [(x, u)])
    (hsp : ∀ H : Hp, (∀ p ∈ cs, H p.2 = some (.tbl #[])) → SqL K H a (ns.map V.int) → sp [.ref a] H (fun v _ => v = .bl true) fun _ _ _ => False) :
    codeAny (model P w) callerA (.call (.ref fa) ⟨[.ref a], []⟩) (fun r s' => r = .ok (.ret (.bool true)) ∧ OldK s.heap s'.heap ∧ s'.os = s.os ∧ AllBare s'.gens) s := by
  have rv := vals_ints hi
  have aT : ∀ p ∈ cs, p.2 ≠ a := fun p hp z => by
    have q := hT p hp
    rw [z, ha] at q
    have z' := congrArg Obj.data (Option.some.inj q)
    cases z'
  have run : ∀ H : Hp, (∀ p ∈ cs, H p.2 = some (.tbl #[])) → (∀ b, H b = none ∨ (∃ p ∈ cs, b = p.2) ∨ ∃ ob xs, H b = some (.frz ob (.lst xs))) → SqL K H a (ns.map V.int) → HOk P w H s.heap → (∀ b, H b ≠ none → b = a ∨ ∃ p ∈ cs, b = p.2) → (H a ≠ none → K.lookup a = none) →
      codeAny (model P w) callerA (.call (.ref fa) ⟨[.ref a], []⟩) (fun r s' => r = .ok (.ret (.bool true)) ∧ OldK s.heap s'.heap ∧ s'.os = s.os ∧ AllBare s'.gens) s := by
    intro H hH hO hS hok hA hK
    obtain ⟨kin, nsb, ndb, TB, e0⟩ := enterS KX hns hb hbb hlim hg ha hT nT C hbm hok hA hK
    refine codeAny_mono ((F _ kin nsb (ndb hdig) TB).go callerA [] s H ⟨[.ref a], []⟩ [.ref a] [.ref a] _ _ rfl hr e0 (hbind s (.ref a)) (.cons rfl .nil) (hsp H hH hS)) ?_
    intro r s' h
    match r, h with
    | .error e, h => exact (show False from h).elim
    | .ok .next, h => exact (show False from h).elim
    | .ok .brk, h => exact (show False from h).elim
    | .ok .cont, h => exact (show False from h).elim
    | .ok (.ret u), ⟨v, H', os, bare, un, hok', r2, q⟩ =>
      obtain rfl : v = .bl true := q
      obtain rfl : u = Value.bool true := r2
      exact ⟨rfl, leaveS hT C hH hO hok hok' un, os, bare⟩
  -- the tables alone
  let T : Hp := fun b => if b ∈ cs.map (·.2) then some (.tbl #[]) else none
  have memT : ∀ {b : Addr}, b ∈ cs.map (·.2) → ∃ p ∈ cs, b = p.2 := fun hb => by
    obtain ⟨p, hp, e⟩ := List.mem_map.mp hb
    exact ⟨p, hp, e.symm⟩
  have T1 : ∀ p ∈ cs, T p.2 = some (.tbl #[]) := fun p hp => if_pos (List.mem_map.mpr ⟨p, hp, rfl⟩)
  have Ta : T a = none := if_neg fun hb => by
    obtain ⟨p, hp, e⟩ := memT hb
    exact aT p hp e.symm
  have Tc : ∀ b, T b = none ∨ ∃ p ∈ cs, b = p.2 := fun b => by
    by_cases hb : b ∈ cs.map (·.2)
    · exact .inr (memT hb)
    · exact .inl (if_neg hb)
  have Tok : HOk P w T s.heap := fun b u e => by
    rcases Tc b with z | ⟨p, hp, rfl⟩
    · rw [z] at e
      cases e
    · rw [T1 p hp] at e
      cases e
      exact hT p hp
  cases hk : K.lookup a with
  | some o =>
    have e := KX a o hk
    rw [ha] at e
    cases e
    refine run T T1 (fun b => (Tc b).elim .inl fun z => .inr (.inl z)) (.inr ⟨_, vs.toArray, _, hk, rfl, rfl, rfl, by rw [List.size_toArray, hi.length]; exact hl, by simpa using rv⟩) Tok (fun b z => ?_) fun z => absurd Ta z
    rcases Tc b with q | q
    · exact absurd q z
    · exact .inr q
  | none =>
    have at_a : (upd T a (.frz { cls := .type "list", data := .seq vs.toArray } (.lst (ns.map V.int)))) a = some (.frz { cls := .type "list", data := .seq vs.toArray } (.lst (ns.map V.int))) := upd_same
    refine run (upd T a (.frz { cls := .type "list", data := .seq vs.toArray } (.lst (ns.map V.int)))) (fun p hp => by rw [upd_ne (aT p hp)]; exact T1 p hp) (fun b => ?_) (.inl (.inr ⟨_, at_a⟩)) (fun b u z => ?_) (fun b z => ?_) fun _ => hk
    · by_cases hb : b = a
      · exact .inr (.inr ⟨_, _, (congrArg _ hb).trans at_a⟩)
      · rw [upd_ne hb]
        exact (Tc b).elim .inl fun z => .inr (.inl z)
    · by_cases hb : b = a
      · subst hb
        rw [at_a] at z
        cases z
        exact ⟨ha, by rw [List.length_map]; exact hl, vs, _, rv, ha⟩
      · rw [upd_ne hb] at z
        have q := Tok b u z
        rcases Tc b with y | ⟨p, hp, rfl⟩
        · rw [y] at z
          cases z
        · rw [T1 p hp] at z
          cases z
          exact hT p hp
    · by_cases hb : b = a
      · exact .inl hb
      · rw [upd_ne hb] at z
        rcases Tc b with y | y
        · exact absurd y z
        · exact .inr y
theorem walkS {l : PySem.W.OpenLaw} {n k : Nat} {q : Program} {loose : List Str} {XP : (Str → Option Value) → Heap → Prop} {YP : World → Heap → Prop} {d : DefRec} {x : Str}
    (hn : l.most = some n) (hn2 : n ≤ sizeLine) (hdf : d.params.defaults = []) (hr : Room k callerA)
    (F : ∀ (w : World) (mg : Str → Option Value) (fa : Addr) (h : Heap), YP w h → h.Ns mainGlobals mg → mg d.name = some (.ref fa) →
      ∃ (K : PySem.W.Frag) (fd : FuncData) (sp : Sp) (cs : List (Addr × Addr)), K.In h ∧ (∀ (s : Shared) (u : Value), BindsTo s fd ⟨[u], []⟩ [(x, u)]) ∧
        (∀ p ∈ cs, h.get? p.2 = some { cls := .none, data := .fields #[] }) ∧ (∀ p ∈ cs, K.lookup p.2 = none) ∧ (∀ p ∈ cs, PySem.W.CodeHd h p.1 p.2) ∧
        (∀ (H : Hp) (a : Addr) (ns : List Int), ns.length ≤ n → (∀ p ∈ cs, H p.2 = some (.tbl #[])) → SqL K H a (ns.map V.int) → sp [.ref a] H (fun v _ => v = .bl true) fun _ _ _ => False) ∧
        ∀ base : Heap, K.In base → base.Ns mainGlobals mg → NoDig base → (∀ p ∈ cs, TabB base mg p.1 p.2) → FnG l.prog w K mg base CX0 k fa fd [x] sp) :
    PySem.W.WalkO q loose XP YP l.row.toRowW d [] (fun f vs => PySem.call f vs) := by
  refine Att.attach_callB hn hdf fun w s0 s mg mb fa o pm cd doc a vs ns G Y ho hd hcd hmg hobj hints hlen hbits hg => ?_
  obtain ⟨K, fd, sp, cs, KX, hb, hT, nT, C, hsp, hF⟩ := F w mg fa _ Y G.T.g hmg
  exact lawS KX G.T.g G.T.b G.T.builtins G.T.nolimit G.T.nodigits hg hobj hints (Nat.le_trans hlen hn2) hr hT nT C G.T.bmain hF hb fun H hH hS => hsp H a ns hlen hH hS
end Gs

set_option maxRecDepth 100000
set_option maxHeartbeats 4000000
/-! calls that may raise, the caller's slots told; lambdas given to a def that hears what they raise -/
namespace Gs
open PySem PySem.Spec PyProof.Rows L2 LamX

section
variable {X : Cx} {W : WX} {k : Nat} {ps : List Str} {sp : Sp} {dvs : List V} {x : Str} {p pos : Pos} {e : Expr} {es : List Expr} {t : TA} {f : Addr} {fd : FuncData} {ds : List Value}
/-- a call's end where the callee may raise: E is chosen with the caller's slots in sight -/
theorem runW {pins : List (Addr × Obj)} {σ : L2.St} {H : Hp} {s : Shared} {Q : VK} {us : List Value} {vs : List V} {E : XK} (F : FnOk X.prog X.w X.K X.mg X.base (L2.CX X.prog X.w) k f fd ps sp) (hr : Room k X.A)
    (hb : Binds X.K fd ps ds) (hd : Vals dvs ds) (tk : Takes X W) (hW : ∀ cls d H', E cls d H' → W cls d σ H') (I : Inv X pins σ H s) (rv : Vals vs us) (h : sp (vs ++ dvs) H Q E) :
    wpAny (model X.prog X.w) X.A (call (.ref f) us) (EP X pins σ Q) X.xe s := by
  have rr := rv.append hd
  have lz : (us ++ ds).length = ps.length := rr.length ▸ F.len _ _ _ _ h
  refine wpAny_call (codeAny_mono (F.run X.A X.stack s H ⟨us, []⟩ _ _ Q E hr I.env0 (hb s us I.kIn lz) rr h) ?_)
  intro r s' hq
  match r, hq with
  | .error e, hq => exact tk e s' (XE.of_call I hW hq)
  | .ok (.ret u), hq => exact I.after hq
  | .ok .next, hq => exact hq.elim
  | .ok .brk, hq => exact hq.elim
  | .ok .cont, hq => exact hq.elim
/-- what a call that may raise asks: a wish E, at these slots within W -/
def tW (W : WX) (sp : Sp) (dvs : List V) (ta : TA) : TE := fun σ H Q => ∃ E : XK, (∀ cls d H', E cls d H' → W cls d σ H') ∧ ta σ H fun vs H1 => sp (vs ++ dvs) H1 Q E
theorem pe_dW (D : DefOk X.prog X.w X.K X.mg X.base (L2.CX X.prog X.w) k x ps dvs sp) (hr : Room k X.A) (tk : Takes X W) (ha : PA X (e :: es) t) (hg : Gl X x := by rfl) (hdb : (x == ("__debug__" : Str)) = false := by decide)
    (he : starEach (e :: es) X.env = (false, eval e X.env) :: starEach es X.env := by rfl) (hpl : (backTo pos (starEach es X.env)).any (·.1) = false := by rfl) :
    PE X (.Call (.Name x p) (e :: es) [] pos) (tW W sp dvs t) := by
  obtain ⟨_, _, _, F, hm, hk, hb, hd⟩ := D.ex
  refine ⟨fun pins s σ H Q I ⟨E, hW, h⟩ => wpAny_Call_Name_kw (ld_glob I hg hm ?_ hdb)⟩
  refine PySem.W.callWith_K (h₀ := X.base) I.ok.mod.kin hk (thn (ha.run pos pins s σ H _ I h) ?_) he hpl
  rintro us s1 ⟨vs, H1, I1, rv, q⟩
  exact ⟨I1.kIn, runW F hr hb hd tk hW I1 rv q⟩
end

/-! ### a raising def, where the top has it -/
section
variable {P : Program} {w : World} {K : PySem.W.Frag} {mg : Str → Option Value} {base : Heap} {x : Str} {st : Stmt} {N ps : List Str} {k : Nat} {sp : Sp}
/-- a def's body where what it raises is wished by E -/
theorem At.okX (a : At K mg x st) (S : FnScope N ps (defScope st)) (bnd : ∀ f fd, FunD K x x (defArgs st) (defBody st) (defScope st) [] [] f fd → Binds K fd ps []) (ln : ∀ vs H Q E, sp vs H Q E → vs.length = ps.length)
    (bd : ∀ (f : Addr) (cdv : Value) (A : Around) (out : List Env) (s : Shared) (H : Hp) (vs : List V) (Q : VK) (E : XK), Room k (A.deeper (envOfC x (defScope st) s.heap.objs.size f cdv)) →
      Takes (cxOf (L2.CX P w) P w K mg base N x (defScope st) f cdv A out s H E) (fun cls d _ H => E cls d H) → sp vs H Q E →
      ∃ t, PSs (cxOf (L2.CX P w) P w K mg base N x (defScope st) f cdv A out s H E) (defBody st) t ∧ t { nx := fun _ H' => Q .non H', rt := Q } (L2.start N vs) H) : DefOk P w K mg base (L2.CX P w) (k + 1) x ps [] sp := by
  obtain ⟨f, fd, F, hm⟩ := a.ex
  have ok : FnOk P w K mg base (L2.CX P w) (k + 1) f fd ps sp := F.ok S ln fun cdv A out s H vs Q E hr h => bd f cdv A out s H vs Q E hr (takes_of rfl rfl rfl rfl) h
  refine ⟨⟨f, fd, [], ok, hm, F.kp, bnd f fd F, .nil⟩, fun f2 fd2 e2 ⟨oc, od, osl, l2⟩ => ?_⟩
  rw [hm] at e2
  cases e2
  obtain ⟨_, _, _, _, _, _, _, _, _, _, rfl, l1, _⟩ := F.ex
  rw [l1] at l2
  cases l2
  exact ⟨ok, F.kp⟩
end

/-! ### lambdas heard -/
section
variable {X : Cx} {pins : List (Addr × Obj)} {σ : L2.St} {H : Hp} {s : Shared}
/-- a(), a the parameter that holds the lambda; Z: the context of the def that got it -/
theorem act_heard {CXg : CXT} {Eg : XK} {Ng : List Str} {qg : Str} {sg : Scope} {g f c' : Addr} {cdg pm ctv : Value} {params : Arguments} {body : Expr} {scope : Scope} {k i : Nat} {a : Str} {pn : List (Addr × Obj)} {xe : Value → Shared → Prop} {W : WX} {tb : XK → TE} {p1 p2 : Pos}
    (I : Inv X pins σ H s) (L : LamS X.env.scope scope) (hf : s.heap.get? f = some (PySem.W.kla_obj "<lambda>" (X.env.qual ++ "<lambda>") params body scope (cloFrom X.env.cells scope.names []) pm c' ctv)) (hfn : H f = none) (hfr : f ∉ frs X.stack)
    (hbind : bindArgs (PySem.W.kla_fn "<lambda>" (X.env.qual ++ "<lambda>") params body scope (cloFrom X.env.cells scope.names []) pm (.ref c') ctv) ⟨[], []⟩ = pure [])
    (tk : Takes ((cxOf CXg X.prog X.w X.K X.mg X.base Ng qg sg g cdg X.A X.stack s H Eg).tr pn xe) W) (hr : Room (k + 1) (X.A.deeper (envOfC qg sg s.heap.objs.size g cdg)))
    (hbody : ∀ (A : Around) (out : List Env) (s : Shared) (H : Hp) (E : XK), Room k (A.deeper (lamEnv X scope s.heap.objs.size f c')) → PE (lamCx X A out s H E scope f c') body (tb E))
    (hN : Ng[i]? = some a) (hv : Vis sg a) (hd : (a == ("__debug__" : Str)) = false) (hcd : (a == ("__classdict__" : Str)) = false) :
    PE ((cxOf CXg X.prog X.w X.K X.mg X.base Ng qg sg g cdg X.A X.stack s H Eg).tr pn xe) (.Call (.Name a p1) [] [] p2)
      (fun σZ HZ Q => σZ[i]? = some (some (.ref f)) ∧ HZ c' = some (CodeO c' (X.env.qual ++ "<lambda>")) ∧ ∃ E : XK, (∀ cls d H', E cls d H' → W cls d σZ H') ∧ tb E σ HZ Q) := by
  refine ⟨fun pz sZ σZ HZ Q IZ ⟨hs, hc, E, hW, ht⟩ => wpAny_Call_Name_kw (thn ((pe_var (pos := p1) (i := i) hN hv hd hcd).run pz sZ σZ HZ (fun v H1 => v = .ref f ∧ H1 = HZ) IZ ⟨.ref f, hs, rfl, rfl⟩) ?_)⟩
  rintro u s1 ⟨v, H1, I1, r1, rfl, rfl⟩
  obtain rfl : u = Value.ref f := r1
  have here := I1.base.keep f _ hf hfn hfr (fun z => nomatch (show f ∈ ([] : List Addr) from z))
  obtain ⟨⟨oc, vs, t, c1, c2, c3⟩, _, _⟩ := I1.hok c' _ hc
  refine PySem.W.callWith_F0 ⟨_, _, _, _, here⟩ (wpAny_call (codeAny_mono (R := CR (L2.CX X.prog X.w) (envOfC qg sg s.heap.objs.size g cdg :: X.stack) X.prog X.w H1 s1 Q E) ?_ fun r s' hq => ?_))
  · refine PySem.W.kla_callFunE hr.depth here rfl L.co L.gen rfl ⟨c', oc, vs, t, rfl, c1, c2, c3⟩ ?_
    refine wpAny_of_eq hbind (wpAny_newFunctionEnv (fun y hy => (L.own y hy).2) (fun y hy => absurd hy (by simp)) (fun h₁ ns sb => ⟨I1.nolimit.fresh _ sb, ?_⟩) L.kind)
    have J := lam_start2 (E := E) (f := f) (c' := c') (tk := s1.toks + ([] : List (Str × Value)).length) I L I1.env0 hr.hd I1.base ns fun b o e => sb.extBut b o (Nat.ne_of_lt (Heap.lt_size e)) (Heap.get?_push_of_some _ e)
    show codeAny _ _ (.expr body (lamEnv X scope s1.heap.objs.size f c')) _ _
    refine PySem.W.kla_codeExpr (wpAny_mono ((hbody _ _ s1 H1 E (hr.deeper _)).run [] _ _ H1 Q J ht) ?_ fun _ _ y => y)
    rintro v s' ⟨u, H', J', rv, q⟩
    exact ⟨u, H', J'.os, J'.bare, J'.base, J'.hok, rv, q⟩
  · match r, hq with
    | .error e, hq => exact tk e s' (XE.of_call I1 hW hq)
    | .ok (.ret u), hq => exact I1.after hq
    | .ok .next, hq => exact hq.elim
    | .ok .brk, hq => exact hq.elim
    | .ok .cont, hq => exact hq.elim
end
/-- the def at g that hears lambdas: what it makes of the lambda's reading tl -/
def Hears (X : Cx) (Ng : List Str) (x : Str) (sg : Scope) (g : Addr) (cdg : Value) (bg : List Stmt) (a : Str) (q : Str) (TT : (XK → Hp → VK → Prop) → Hp → VK → Prop) : Prop :=
  ∀ (f c' : Addr) (s : Shared) (H : Hp) (Q : VK) (tl : XK → Hp → VK → Prop),
    (∀ (W : WX) (pn : List (Addr × Obj)) (xe : Value → Shared → Prop) (p1 p2 : Pos), Takes ((cxOf CX0 X.prog X.w X.K X.mg X.base Ng x sg g cdg X.A X.stack s H E0).tr pn xe) W →
      PE ((cxOf CX0 X.prog X.w X.K X.mg X.base Ng x sg g cdg X.A X.stack s H E0).tr pn xe) (.Call (.Name a p1) [] [] p2)
        (fun σZ HZ Q => σZ[0]? = some (some (.ref f)) ∧ HZ c' = some (CodeO c' q) ∧ ∃ E : XK, (∀ cls d H', E cls d H' → W cls d σZ H') ∧ tl E HZ Q)) →
    H c' = some (CodeO c' q) → TT tl H Q → Room 1 (X.A.deeper (envOfC x sg s.heap.objs.size g cdg)) →
    ∃ t, PSs (cxOf CX0 X.prog X.w X.K X.mg X.base Ng x sg g cdg X.A X.stack s H E0).nox bg t ∧ t { nx := fun _ H' => Q .non H', rt := Q } (L2.start Ng [.ref f]) H
section
variable {X : Cx}
/-- x(lambda: body) -/
theorem pe_heard {T : List (Addr × Str)} {TT : (XK → Hp → VK → Prop) → Hp → VK → Prop} {x a : Str} {st : Stmt} {c P : Addr} {k : Nat} {Ng : List Str}
    {params : Arguments} {body : Expr} {scope : Scope} {t : XK → TE} {p lpos pos : Pos} (at_ : At X.K X.mg x st) (Sg : FnScope Ng [a] (defScope st)) (hNg : Ng[0]? = some a)
    (hbg : ∀ (dV kV doc pm : Value) (an : Option Addr) (cdv ct u : Value), bindArgs (PySem.W.fnOf x x (defArgs st) (defBody st) (defScope st) .none kV doc pm an cdv ct) ⟨[u], []⟩ = pure [(a, u)])
    (hG : ∀ g cdg, Hears X Ng x (defScope st) g cdg (defBody st) a (X.env.qual ++ "<lambda>") TT)
    (TB : TabB X.base X.mg c P) (hcode : X.env.code = .ref c) (hmT : (P, X.env.qual ++ "<lambda>") ∈ T) (hu : ∀ p ∈ T, p.1 = P → p.2 = X.env.qual ++ "<lambda>") (hr : Room (k + 2) X.A) (L : LamS X.env.scope scope) (hg : Gl X x := by rfl) (hdef : defaultsOf params X.env = ([], []) := by rfl)
    (hbind : ∀ (q : Str) (cl : List (Str × Addr)) (pm cv ctv : Value), bindArgs (PySem.W.kla_fn "<lambda>" q params body scope cl pm cv ctv) ⟨[], []⟩ = pure [] := by intros; rfl)
    (hbody : ∀ (A : Around) (out : List Env) (s : Shared) (H : Hp) (E : XK) (f c' : Addr), Room k (A.deeper (lamEnv X scope s.heap.objs.size f c')) → PE (lamCx X A out s H E scope f c') body (t E))
    (hdb : (x == ("__debug__" : Str)) = false := by decide) (hd : (a == ("__debug__" : Str)) = false := by decide) (hcd : (a == ("__classdict__" : Str)) = false := by decide) :
    PE X (.Call (.Name x p) [.Lambda params body scope lpos] [] pos) (tLam T TT t) := by
  obtain ⟨g, fd, F, hm⟩ := at_.ex
  obtain ⟨oc, od, dV, kV, doc, pm, an, cdv, ct, osl, rfl, lk, hcg, hD, _⟩ := F.ex
  obtain ⟨_, rfl⟩ | ⟨e, _⟩ := hD
  rotate_left
  · exact absurd rfl e
  have lv : (defScope st).names.lookup a = some .local ∨ (defScope st).names.lookup a = some .cell := Sg.par a List.mem_cons_self
  have hva : Vis (defScope st) a := lv.elim .inl fun z => .inr (.inl z)
  refine ⟨fun pins s σ H Q I ⟨hT, h⟩ => wpAny_Call_Name_kw (ld_glob I hg hm ?_ hdb)⟩
  refine PySem.W.callWith_K (h₀ := X.base) I.ok.mod.kin F.kp ?_ (by rfl) (by rfl)
  show wpAny _ _ (spliced ((false, eval (.Lambda params body scope lpos) X.env) :: backTo pos (starEach [] X.env))) _ _ s
  refine Calls.spliced_cons (lam_make2 I TB hcode hmT hu hT hdef (L.has I.ok) fun f c' pm' ctv H1 s' I1 eN T1 hf hfn hfr hco => ?_)
  refine Calls.spliced_nil ⟨I1.kIn, wpAny_call (codeAny_mono (R := CR CX0 X.stack X.prog X.w H1 s' Q E0) ?_ fun r s2 hq => ?_)⟩
  · refine run_ofS (N := Ng) (ps := [a]) (us := [.ref f]) (vs := [.ref f]) lk hcg Sg hr I1.env0 (.of_eq (hbg .none kV doc pm an cdv ct (.ref f))) (.cons rfl .nil) rfl fun hr' => ?_
    obtain ⟨t', ht', hq'⟩ := hG g cdv f c' s' H1 Q (fun E H' Q' => t E σ H' Q') (fun W pn xe p1 p2 tk => act_heard (i := 0) I1 L hf hfn hfr (hbind _ _ _ _ _) tk hr' (fun A out s H E hr2 => hbody A out s H E f c' hr2) hNg hva hd hcd) hco (h H1 eN T1) (hr'.mono (by omega))
    exact ⟨t', ht'.nox, hq'⟩
  · match r, hq with
    | .error e, hq => exact (show False from hq).elim
    | .ok (.ret u), hq => exact I1.after hq
    | .ok .next, hq => exact hq.elim
    | .ok .brk, hq => exact hq.elim
    | .ok .cont, hq => exact hq.elim
end
end Gs

set_option maxRecDepth 100000
set_option maxHeartbeats 4000000
/-! fractions: the class Ratio's facts, its values, what is told of any value beside them -/
namespace Gs
open PySem PySem.Spec PyProof.Rows L2

theorem op_fdivX {X : Cx} : OpR X (binaryOp .FloorDiv) (rI (fun _ j => j ≠ 0 ∧ j.natAbs.log2 < 9000) fun i j => .int (i.fdiv j)) := opI fun i j _ _ _ _ _ hc q => floordiv_int hc.1 q (.inl (PyProof.noPylong_of_log2 hc.2))

/-! ### functions at addresses (methods, static ones) -/
structure AtF (K : PySem.W.Frag) (f : Addr) (x qual : Str) (st : Stmt) (dvs : List V) : Prop where
  ex : ∃ fd, FunD K x qual (defArgs st) (defBody st) (defScope st) dvs [] f fd
structure FunOk (P : Program) (w : World) (K : PySem.W.Frag) (mg : Str → Option Value) (base : Heap) (CX : CXT) (k : Nat) (f : Addr) (ps : List Str) (dvs : List V) (sp : Sp) : Prop where
  ex : ∃ fd ds, FnOk P w K mg base CX k f fd ps sp ∧ Binds K fd ps ds ∧ Vals dvs ds
  lk : ∀ fd, (∃ oc od osl, K.lookup f = some ⟨oc, od, .func fd, osl⟩) → FnOk P w K mg base CX k f fd ps sp
  kp : PySem.W.keepIn K (.ref f) = true
section
variable {P : Program} {w : World} {K : PySem.W.Frag} {mg : Str → Option Value} {base : Heap} {x qual : Str} {st : Stmt} {N ps : List Str} {k : Nat} {sp : Sp} {f : Addr} {dvs dv : List V}
theorem AtF.okX (a : AtF K f x qual st dv) (S : FnScope N ps (defScope st)) (bnd : ∀ fd, FunD K x qual (defArgs st) (defBody st) (defScope st) dv [] f fd → ∃ ds, Vals dvs ds ∧ Binds K fd ps ds) (ln : ∀ vs H Q E, sp vs H Q E → vs.length = ps.length)
    (bd : ∀ (cdv : Value) (A : Around) (out : List Env) (s : Shared) (H : Hp) (vs : List V) (Q : VK) (E : XK), Room k (A.deeper (envOfC qual (defScope st) s.heap.objs.size f cdv)) →
      Takes (cxOf (L2.CX P w) P w K mg base N qual (defScope st) f cdv A out s H E) (fun cls d _ H => E cls d H) → sp vs H Q E →
      ∃ t, PSs (cxOf (L2.CX P w) P w K mg base N qual (defScope st) f cdv A out s H E) (defBody st) t ∧ t { nx := fun _ H' => Q .non H', rt := Q } (L2.start N vs) H) : FunOk P w K mg base (L2.CX P w) (k + 1) f ps dvs sp := by
  obtain ⟨fd, F⟩ := a.ex
  have ok : FnOk P w K mg base (L2.CX P w) (k + 1) f fd ps sp := F.ok S ln fun cdv A out s H vs Q E hr h => bd cdv A out s H vs Q E hr (takes_of rfl rfl rfl rfl) h
  obtain ⟨ds, hd, hb⟩ := bnd fd F
  refine ⟨⟨fd, ds, ok, hb, hd⟩, fun fd2 ⟨oc, od, osl, l2⟩ => ?_, F.kp⟩
  obtain ⟨_, _, _, _, _, _, _, _, _, _, rfl, l1, _⟩ := F.ex
  rw [l1] at l2
  cases l2
  exact ok
theorem AtF.ok0 (a : AtF K f x qual st dv) (S : FnScope N ps (defScope st)) (bnd : ∀ fd, FunD K x qual (defArgs st) (defBody st) (defScope st) dv [] f fd → ∃ ds, Vals dvs ds ∧ Binds K fd ps ds) (ln : ∀ vs H Q E, sp vs H Q E → vs.length = ps.length)
    (bd : ∀ (cdv : Value) (A : Around) (out : List Env) (s : Shared) (H : Hp) (vs : List V) (Q : VK) (E : XK), Room k (A.deeper (envOfC qual (defScope st) s.heap.objs.size f cdv)) → sp vs H Q E →
      ∃ t, PSs (cxOf CX0 P w K mg base N qual (defScope st) f cdv A out s H E).nox (defBody st) t ∧ t { nx := fun _ H' => Q .non H', rt := Q } (L2.start N vs) H) : FunOk P w K mg base CX0 (k + 1) f ps dvs sp := by
  obtain ⟨fd, F⟩ := a.ex
  have ok : FnOk P w K mg base CX0 (k + 1) f fd ps sp := F.ok S ln fun cdv A out s H vs Q E hr h =>
    let ⟨t, h1, h2⟩ := bd cdv A out s H vs Q E hr h
    ⟨t, h1.nox, h2⟩
  obtain ⟨ds, hd, hb⟩ := bnd fd F
  refine ⟨⟨fd, ds, ok, hb, hd⟩, fun fd2 ⟨oc, od, osl, l2⟩ => ?_, F.kp⟩
  obtain ⟨_, _, _, _, _, _, _, _, _, _, rfl, l1, _⟩ := F.ex
  rw [l1] at l2
  cases l2
  exact ok
end

/-! ### static methods of a class -/
structure StM (K : PySem.W.Frag) (C : Addr) (m : Str) (g : Addr) : Prop where
  ga : PySem.W.specialIn K (.ref C) "__getattribute__" = some (some (.builtin "type.__getattribute__"))
  rd : PySem.W.readsIn K C (.type "type") = true
  at_ : ∃ p rest, PySem.W.findCls K (.ref C) (.type "type") m = some (.get (.builtin "staticmethod.__get__") (.ref p) .none (.ref C)) ∧ PySem.W.recIn K p "staticmethod" = some (.ref g :: rest)
section
variable {X : Cx} {CX : CXT} {k : Nat} {ps : List Str} {sp : Sp} {dvs : List V} {E : XK} {m : Str} {C g : Addr} {p pos apos : Pos} {o e : Expr} {es : List Expr} {to : TE} {t : TA}
/-- C.m(e, ..), m a static method -/
def tStM (C : Addr) (sp : Sp) (dvs : List V) (E : XK) (to : TE) (t : TA) : TE := fun σ H Q => to σ H fun x H1 => x = .ref C ∧ t σ H1 fun vs H2 => sp (vs ++ dvs) H2 Q E
theorem pe_sm (D : FunOk X.prog X.w X.K X.mg X.base CX k g ps dvs sp) (M : StM X.K C m g) (hr : Room k X.A) (hx : Passes CX X E) (ho : PE X o to) (ha : PA X (e :: es) t)
    (hb : attributeBase o m X.env (eval o X.env) = eval o X.env := by rfl) (hl : (apos.endLine == pos.line) = true := by rfl)
    (hf : methodCallForm ((e :: es).length + ([] : List Keyword).length) (backTo pos (starEach (e :: es) X.env)) (backToKw pos (keywordEach [] X.env)) = true := by rfl)
    (he : starEach (e :: es) X.env = (false, eval e X.env) :: starEach es X.env := by rfl) (hpl : (backTo pos (starEach es X.env)).any (·.1) = false := by rfl) :
    PE X (.Call (.Attribute o m apos) (e :: es) [] pos) (tStM C sp dvs E to t) := by
  obtain ⟨fd, ds, F, hbn, hd⟩ := D.ex
  obtain ⟨q, rest, h1, h2⟩ := M.at_
  refine ⟨fun pins s σ H Q I h => ?_⟩
  show wpAny _ _ (do let ov ← attributeBase o m X.env (eval o X.env); standAt apos.atName; methodCall o m apos pos X.env ov ((e :: es).length + ([] : List Keyword).length) (backTo pos (starEach (e :: es) X.env)) (backToKw pos (keywordEach [] X.env))) _ _ _
  rw [hb]
  refine wpAny_bind (thn (ho.run pins s σ H _ I h) fun u s1 ⟨x, H1, I1, r1, ex, h3⟩ => ?_)
  subst ex
  obtain rfl : u = Value.ref C := r1
  rw [mcall_line hf hl]
  refine wpAny_bind (wpAny_standAt (wpAny_bind (wpAny_holding (PySem.W.method_cls I1.kIn M.ga (PySem.W.cls_bind I1.kIn M.rd h1 ?_)))))
  refine wpAny_call (PySem.W.sm_get (s := { s1 with toks := s1.toks + 1 }) I1.kIn h2 (PySem.W.handed_on rfl ?_))
  refine PySem.W.callWith_K (h₀ := X.base) I1.ok.mod.kin D.kp (thn (ha.run pos pins _ σ H1 _ (I1.tok _) h3) fun us s2 ⟨vs, H2, I2, r2, h4⟩ => ⟨I2.kIn, ?_⟩) he hpl
  have rr := r2.append hd
  have lz : (us ++ ds).length = ps.length := rr.length ▸ F.len _ _ _ _ h4
  refine wpAny_call (codeAny_mono (F.run X.A X.stack s2 H2 ⟨us, []⟩ _ _ Q E hr I2.env0 (hbn s2 us I2.kIn lz) rr h4) ?_)
  intro r s' hq
  match r, hq with
  | .error e, hq => exact hx pins σ H2 s2 e s' I2 hq
  | .ok (.ret u), hq => exact I2.after hq
  | .ok .next, hq => exact hq.elim
  | .ok .brk, hq => exact hq.elim
  | .ok .cont, hq => exact hq.elim
end

/-! ### the class Ratio -/
structure RatF (K : PySem.W.Frag) (C : Addr) : Prop where
  cls : Cls K C
  over : NoAttr K C "over"
  under : NoAttr K C "under"
  ha : PySem.W.findIn K (.ref C) "__class__" = some (some (.builtin "object.__class__"))
  hn : PySem.W.specialIn K (.builtin "object.__class__") "__get__" = some (some (.builtin "getset_descriptor.__get__"))
  htk : PySem.W.takesIn K (.builtin "object.__class__") = some true
  hm : PySem.W.mroIn K C (.type "object") = some true
  no : ∀ c ∈ (["int", "bool", "str", "list", "tuple", "dict"] : List String), PySem.W.kitOne K (.ref C) (.type c) = some false
  self : PySem.W.kitOne K (.ref C) (.ref C) = some true
  un : ∀ c ∈ (["NoneType", "bool", "int", "str", "list", "tuple", "dict"] : List String), PySem.W.kitOne K (.type c) (.ref C) = some false
def ratB (K : PySem.W.Frag) (C : Addr) : Bool :=
  (PySem.W.plainGet K C Str.empty && (PySem.W.hasDictIn K C && (PySem.W.plainOver K C && He.eqO (PySem.W.findIn K (.ref C) "__setattr__") (some (some (.builtin "object.__setattr__")))))) &&
  (He.eqO (PySem.W.findIn K (.ref C) "over") (some none) && (He.eqO (PySem.W.findIn K (.ref C) "under") (some none) && (decide (PySem.W.findIn K (.ref C) "__class__" = some (some (.builtin "object.__class__"))) &&
  (decide (PySem.W.specialIn K (.builtin "object.__class__") "__get__" = some (some (.builtin "getset_descriptor.__get__"))) && (decide (PySem.W.takesIn K (.builtin "object.__class__") = some true) && (decide (PySem.W.mroIn K C (.type "object") = some true) &&
  ((["int", "bool", "str", "list", "tuple", "dict"] : List String).all (fun c => decide (PySem.W.kitOne K (.ref C) (.type c) = some false)) && (decide (PySem.W.kitOne K (.ref C) (.ref C) = some true) &&
  (["NoneType", "bool", "int", "str", "list", "tuple", "dict"] : List String).all (fun c => decide (PySem.W.kitOne K (.type c) (.ref C) = some false))))))))))
theorem ratB_ok {K : PySem.W.Frag} {C : Addr} (h : ratB K C = true) : RatF K C := by
  obtain ⟨h1, h⟩ := He.ba h
  obtain ⟨h2, h⟩ := He.ba h
  obtain ⟨h3, h⟩ := He.ba h
  obtain ⟨h4, h⟩ := He.ba h
  obtain ⟨h5, h⟩ := He.ba h
  obtain ⟨h6, h⟩ := He.ba h
  obtain ⟨h7, h⟩ := He.ba h
  obtain ⟨h8, h⟩ := He.ba h
  obtain ⟨h9, h10⟩ := He.ba h
  obtain ⟨c1, c⟩ := He.ba h1
  obtain ⟨c2, c⟩ := He.ba c
  obtain ⟨c3, c4⟩ := He.ba c
  exact ⟨⟨c1, c2, c3, He.eqO_ok c4⟩, He.eqO_ok h2, He.eqO_ok h3, of_decide_eq_true h4, of_decide_eq_true h5, of_decide_eq_true h6, of_decide_eq_true h7, fun c hc => of_decide_eq_true (List.all_eq_true.mp h8 c hc), of_decide_eq_true h9,
    fun c hc => of_decide_eq_true (List.all_eq_true.mp h10 c hc)⟩

/-- the fraction n / d at a -/
def Rat (C : Addr) (H : Hp) (a : Addr) (n d : Int) : Prop := ∃ dx, H a = some (.ins C dx [("over", .int n), ("under", .int d)])
theorem Rat.ext {C : Addr} {H H' : Hp} {a : Addr} {n d : Int} (r : Rat C H a n d) (e : Ext H H') : Rat C H' a n d :=
  let ⟨dx, h⟩ := r
  ⟨dx, e _ _ h⟩
def vRat (C : Addr) (H : Hp) : V → Bool
  | .ref a => (match H a with
    | some (.ins D _ _) => decide (D = C)
    | _ => false)
  | _ => false
theorem vRat_ref (C : Addr) (H : Hp) (a : Addr) : vRat C H (.ref a) = (match H a with
    | some (.ins D _ _) => decide (D = C)
    | _ => false) := rfl
/-- isinstance's answer about a value -/
def Kit (K : PySem.W.Frag) (H : Hp) (v : V) (c : Value) (b : Bool) : Prop := ∃ t, TyX K H v t ∧ PySem.W.kitOne K t c = some b
/-- any value that the laws draw, a fraction perhaps -/
def OddX (K : PySem.W.Frag) (C : Addr) (H : Hp) (v : V) : Prop := Odd K H v ∧ Kit K H v (.ref C) (vRat C H v)
section
variable {K : PySem.W.Frag} {C : Addr} {H : Hp}
theorem Rat.ty (F : RatF K C) {a : Addr} {n d : Int} (r : Rat C H a n d) : TyX K H (.ref a) (.ref C) := by
  obtain ⟨dx, h⟩ := r
  exact .base (.ins h F.cls F.ha F.hn F.htk F.hm)
theorem Rat.is (C : Addr) {a : Addr} {n d : Int} (r : Rat C H a n d) : vRat C H (.ref a) = true := by
  obtain ⟨dx, h⟩ := r
  rw [vRat_ref, h]
  exact decide_eq_true rfl
theorem Rat.odd (F : RatF K C) {a : Addr} {n d : Int} (r : Rat C H a n d) : OddX K C H (.ref a) :=
  ⟨⟨_, r.ty F, F.no "int" (by decide), F.no "bool" (by decide), F.no "str" (by decide)⟩, _, r.ty F, by rw [r.is]; exact F.self⟩
theorem oddX_non (F : RatF K C) : OddX K C H .non := ⟨trivial, _, .base .non, F.un "NoneType" (by decide)⟩
theorem oddX_bl (F : RatF K C) (b : Bool) : OddX K C H (.bl b) := ⟨trivial, _, .base (.bl b), F.un "bool" (by decide)⟩
theorem oddX_int (F : RatF K C) (i : Int) : OddX K C H (.int i) := ⟨trivial, _, .base (.int i), F.un "int" (by decide)⟩
theorem oddX_str (F : RatF K C) (x : Str) : OddX K C H (.str x) := ⟨trivial, _, .base (.str x), F.un "str" (by decide)⟩
theorem oddX_lst (F : RatF K C) {a : Addr} {xs : List V} (h : H a = some (.lst xs)) : OddX K C H (.ref a) := ⟨odd_lst h, _, .base (.lst h), by rw [vRat_ref, h]; exact F.un "list" (by decide)⟩
theorem oddX_tup (F : RatF K C) {a : Addr} {xs : List V} (h : H a = some (.tup xs)) : OddX K C H (.ref a) := ⟨odd_tup h, _, .base (.tup h), by rw [vRat_ref, h]; exact F.un "tuple" (by decide)⟩
theorem oddX_dK (F : RatF K C) {a : Addr} {xs : List (Key × V)} (h : H a = some (.dK xs)) : OddX K C H (.ref a) := ⟨odd_dK h, _, .base (.dK h), by rw [vRat_ref, h]; exact F.un "dict" (by decide)⟩
end

/-- any value that the laws draw -/
inductive AnyV (K : PySem.W.Frag) (C : Addr) (H : Hp) : V → Prop where
  | non : AnyV K C H .non
  | bl (b : Bool) : AnyV K C H (.bl b)
  | int (i : Int) : AnyV K C H (.int i)
  | str (x : Str) : AnyV K C H (.str x)
  | lst {a : Addr} {xs : List V} (h : H a = some (.lst xs)) : AnyV K C H (.ref a)
  | tup {a : Addr} {xs : List V} (h : H a = some (.tup xs)) : AnyV K C H (.ref a)
  | dK {a : Addr} {xs : List (Key × V)} (h : H a = some (.dK xs)) : AnyV K C H (.ref a)
  | rat {a : Addr} {n d : Int} (h : Rat C H a n d) : AnyV K C H (.ref a)
  | oth {a : Addr} {u : HO} (h : H a = some u) (t : Value) (ty : ∀ H' : Hp, H' a = some u → TyX K H' (.ref a) t) (no : ∀ c ∈ (["int", "bool", "str", "list", "tuple", "dict"] : List String), PySem.W.kitOne K t (.type c) = some false)
      (nr : PySem.W.kitOne K t (.ref C) = some false) (ni : ∀ D dx fs, u = .ins D dx fs → D ≠ C) (nl : (∀ xs, u ≠ .lst xs) ∧ (∀ xs, u ≠ .tup xs) ∧ ∀ ps, u ≠ .tbl ps) : AnyV K C H (.ref a)
theorem AnyV.ext {K : PySem.W.Frag} {C : Addr} {H H' : Hp} {v : V} (h : AnyV K C H v) (e : Ext H H') : AnyV K C H' v := by
  cases h with
  | non => exact .non
  | bl b => exact .bl b
  | int i => exact .int i
  | str x => exact .str x
  | lst h => exact .lst (e _ _ h)
  | tup h => exact .tup (e _ _ h)
  | dK h => exact .dK (e _ _ h)
  | rat h => exact .rat (h.ext e)
  | oth h t ty no nr ni nl => exact .oth (e _ _ h) t ty no nr ni nl
theorem AnyV.odd {K : PySem.W.Frag} {C : Addr} {H : Hp} {v : V} (F : RatF K C) (h : AnyV K C H v) : OddX K C H v := by
  cases h with
  | non => exact oddX_non F
  | bl b => exact oddX_bl F b
  | int i => exact oddX_int F i
  | str x => exact oddX_str F x
  | lst h => exact oddX_lst F h
  | tup h => exact oddX_tup F h
  | dK h => exact oddX_dK F h
  | rat h => exact h.odd F
  | @oth a u h t ty no nr ni nl =>
    refine ⟨⟨t, ty H h, no "int" (by decide), no "bool" (by decide), no "str" (by decide)⟩, t, ty H h, ?_⟩
    have : vRat C H (.ref a) = false := by
      rw [vRat_ref, h]
      cases u with
      | ins D dx fs => exact decide_eq_false (ni D dx fs rfl)
      | _ => rfl
    rw [this]
    exact nr
theorem AnyV.vrat {K : PySem.W.Frag} {C : Addr} {H H' : Hp} {v : V} (h : AnyV K C H v) (e : Ext H H') : vRat C H' v = vRat C H v := by
  cases h with
  | non => rfl
  | bl b => rfl
  | int i => rfl
  | str x => rfl
  | lst h => rw [vRat_ref, vRat_ref, h, e _ _ h]
  | tup h => rw [vRat_ref, vRat_ref, h, e _ _ h]
  | dK h => rw [vRat_ref, vRat_ref, h, e _ _ h]
  | rat h => rw [h.is, (h.ext e).is]
  | oth h => rw [vRat_ref, vRat_ref, h, e _ _ h]
/-- a list or a tuple of these -/
def SeqOf (H : Hp) (v : V) (xs : List V) : Prop := ∃ l, v = .ref l ∧ (H l = some (.lst xs) ∨ H l = some (.tup xs))
def vSeq (H : Hp) : V → Bool
  | .ref a => (match H a with
    | some (.lst _) => true
    | some (.tup _) => true
    | _ => false)
  | _ => false
theorem vSeq_ref (H : Hp) (a : Addr) : vSeq H (.ref a) = (match H a with
    | some (.lst _) => true
    | some (.tup _) => true
    | _ => false) := rfl
theorem vSeq_ok {H : Hp} {v : V} (h : vSeq H v = true) : ∃ xs, SeqOf H v xs := by
  cases v with
  | ref a =>
    rw [vSeq_ref] at h
    cases e : H a with
    | none =>
      rw [e] at h
      cases h
    | some u =>
      rw [e] at h
      cases u with
      | lst xs => exact ⟨xs, a, rfl, .inl e⟩
      | tup xs => exact ⟨xs, a, rfl, .inr e⟩
      | _ => cases h
  | _ => cases h
theorem SeqOf.is {H : Hp} {v : V} {xs : List V} (h : SeqOf H v xs) : vSeq H v = true := by
  obtain ⟨l, rfl, e | e⟩ := h <;> rw [vSeq_ref, e]
theorem SeqOf.ext {H H' : Hp} {v : V} {xs : List V} (h : SeqOf H v xs) (e : Ext H H') : SeqOf H' v xs := by
  obtain ⟨l, rfl, z | z⟩ := h
  · exact ⟨l, rfl, .inl (e _ _ z)⟩
  · exact ⟨l, rfl, .inr (e _ _ z)⟩
theorem SeqOf.inj {H : Hp} {v : V} {xs ys : List V} (h : SeqOf H v xs) (h' : SeqOf H v ys) : xs = ys := by
  obtain ⟨l, rfl, z⟩ := h
  obtain ⟨l', e, z'⟩ := h'
  cases e
  rcases z with z | z <;> rcases z' with z' | z' <;> rw [z] at z' <;> cases z' <;> rfl
theorem AnyV.known {K : PySem.W.Frag} {C : Addr} {H : Hp} {a : Addr} (h : AnyV K C H (.ref a)) : ∃ u, H a = some u := by
  cases h with
  | lst h => exact ⟨_, h⟩
  | tup h => exact ⟨_, h⟩
  | dK h => exact ⟨_, h⟩
  | rat h => exact let ⟨dx, e⟩ := h; ⟨_, e⟩
  | oth h => exact ⟨_, h⟩
theorem AnyV.back {K : PySem.W.Frag} {C : Addr} {H H' : Hp} {v : V} {xs : List V} (h : AnyV K C H v) (e : Ext H H') (q : SeqOf H' v xs) : SeqOf H v xs := by
  obtain ⟨l, rfl, z⟩ := q
  obtain ⟨u, hu⟩ := h.known
  have := e _ _ hu
  refine ⟨l, rfl, ?_⟩
  rcases z with z | z
  · rw [this] at z
    cases z
    exact .inl hu
  · rw [this] at z
    cases z
    exact .inr hu
theorem SeqOf.len {K : PySem.W.Frag} {H : Hp} {v : V} {xs : List V} (q : SeqOf H v xs) : LenV K v H xs.length := by
  obtain ⟨l, rfl, z | z⟩ := q
  · exact .inl ⟨xs, SqL.of z, rfl⟩
  · exact .inr ⟨xs, .inl (.inl z), rfl⟩
theorem AnyV.seq {K : PySem.W.Frag} {C : Addr} {H : Hp} {v : V} (F : RatF K C) (h : AnyV K C H v) : ∃ t, TyX K H v t ∧ PySem.W.kitAny K t [.type "list", .type "tuple"] = some (vSeq H v) := by
  have two : ∀ {t : Value} {a b : Bool}, PySem.W.kitOne K t (.type "list") = some a → PySem.W.kitOne K t (.type "tuple") = some b → PySem.W.kitAny K t [.type "list", .type "tuple"] = some (a || b) := fun {t a b} h1 h2 => by
    refine kitAny_cons h1 (fun z => ?_) fun z => by rw [z]; rfl
    refine kitAny_cons h2 (fun y => ?_) fun y => by rw [y, Bool.or_true]
    rw [z, y]
    exact kitAny_nil
  cases h with
  | non => exact ⟨_, .base .non, two (kit_ty (r := false) (by decide +kernel)) (kit_ty (r := false) (by decide +kernel))⟩
  | bl b => exact ⟨_, .base (.bl b), two (kit_ty (r := false) (by decide +kernel)) (kit_ty (r := false) (by decide +kernel))⟩
  | int i => exact ⟨_, .base (.int i), two (kit_ty (r := false) (by decide +kernel)) (kit_ty (r := false) (by decide +kernel))⟩
  | str x => exact ⟨_, .base (.str x), two (kit_ty (r := false) (by decide +kernel)) (kit_ty (r := false) (by decide +kernel))⟩
  | lst h => exact ⟨_, .base (.lst h), by rw [vSeq_ref, h]; exact two (b := false) (kit_ty (r := true) (by decide +kernel)) (kit_ty (r := false) (by decide +kernel))⟩
  | tup h => exact ⟨_, .base (.tup h), by rw [vSeq_ref, h]; exact two (a := false) (kit_ty (r := false) (by decide +kernel)) (kit_ty (r := true) (by decide +kernel))⟩
  | dK h => exact ⟨_, .base (.dK h), by rw [vSeq_ref, h]; exact two (a := false) (b := false) (kit_ty (by decide +kernel)) (kit_ty (by decide +kernel))⟩
  | rat h =>
    obtain ⟨dx, e⟩ := id h
    exact ⟨_, h.ty F, by rw [vSeq_ref, e]; exact two (a := false) (b := false) (F.no "list" (by decide)) (F.no "tuple" (by decide))⟩
  | @oth a u h t ty no nr ni nl =>
    refine ⟨t, ty H h, ?_⟩
    have : vSeq H (.ref a) = false := by
      rw [vSeq_ref, h]
      cases u with
      | lst xs => exact absurd rfl (nl.1 xs)
      | tup xs => exact absurd rfl (nl.2.1 xs)
      | _ => rfl
    rw [this]
    exact two (a := false) (b := false) (no "list" (by decide)) (no "tuple" (by decide))

section
variable {X : Cx} {CX : CXT} {k : Nat} {ps : List Str} {sp : Sp} {dvs : List V} {E : XK} {x : Str} {C f : Addr} {p pos : Pos} {e : Expr} {es : List Expr} {t : TA} {tg : Expr} {w1 w2 : TI}
theorem pe_mkF (M : Mk X.K C f) (hm : X.mg x = some (.ref C)) (D : FunOk X.prog X.w X.K X.mg X.base CX k f ps dvs sp) (hr : Room (k + 1) X.A) (hx : Passes CX X E) (ha : PA X (e :: es) t) (hg : Gl X x := by rfl) (hdb : (x == ("__debug__" : Str)) = false := by decide)
    (he : starEach (e :: es) X.env = (false, eval e X.env) :: starEach es X.env := by rfl) (hpl : (backTo pos (starEach es X.env)).any (·.1) = false := by rfl) : PE X (.Call (.Name x p) (e :: es) [] pos) (tMake C sp dvs E t) := by
  obtain ⟨fd, ds, F, hb, hd⟩ := D.ex
  exact pe_make M F hr hg hm hb hd hx ha hdb he hpl
theorem pi_or (h1 : PI X tg e w1) (h2 : PI X tg e w2) : PI X tg e (fun σ H R => w1 σ H R ∨ w2 σ H R) :=
  ⟨fun pins s σ H R I h => h.elim (fun h => h1.run pins s σ H R I h) fun h => h2.run pins s σ H R I h⟩
end

/-! ### what the functions promise -/
def isI : V → Bool
  | .int _ => true
  | _ => false
theorem isI_kits (v : V) : isI v = (vInt v && !vBool v) := by cases v <;> rfl
theorem isI_int {v : V} (h : isI v = true) : ∃ i, v = .int i := by
  cases v with
  | int i => exact ⟨i, rfl⟩
  | _ => cases h
/-- the divisor with the sign of j -/
def rG (i j : Int) : Int := if j < 0 then -(Int.gcd i j : Int) else (Int.gcd i j : Int)
def rN (i j : Int) : Int := i.fdiv (rG i j)
def rD (i j : Int) : Int := j.fdiv (rG i j)
/-- a BadRatio of v is wished -/
def BadV (CB : Addr) (H : Hp) (E : XK) (v : V) : Prop := ∀ d H', Ext H H' → H d = none → H' d = some (.xd [("value", v)]) → E (.ref CB) (some d) H'
theorem BadV.up {CB : Addr} {H H1 : Hp} {E : XK} {v : V} (b : BadV CB H E v) (e : Ext H H1) : BadV CB H1 E v := fun d H' e' n h => b d H' (e.trans e') (by
  cases z : H d with
  | none => rfl
  | some u =>
    rw [e _ _ z] at n
    cases n) h
/-- a new fraction n / d is wished -/
def Made (C : Addr) (H : Hp) (n d : Int) (Q : VK) : Prop := ∀ a H', Ext H H' → H a = none → Rat C H' a n d → Q (.ref a) H'
theorem Made.up {C : Addr} {H H1 : Hp} {n d : Int} {Q : VK} (b : Made C H n d Q) (e : Ext H H1) : Made C H1 n d Q := fun a H' e' m h => b a H' (e.trans e') (by
  cases z : H a with
  | none => rfl
  | some u =>
    rw [e _ _ z] at m
    cases m) h
def spIsI (K : PySem.W.Frag) : Sp := fun vs H Q _ => ∃ v, vs = [v] ∧ Odd K H v ∧ Q (.bl (isI v)) H
def spGcd : Sp := fun vs H Q _ => ∃ a b : Int, vs = [.int a, .int b] ∧ 0 ≤ a ∧ 0 ≤ b ∧ Q (.int (Int.gcd a b)) H
def spInit (K : PySem.W.Frag) (C CB : Addr) : Sp := fun vs H Q E => ∃ a dx x y, vs = [.ref a, x, y] ∧ H a = some (.ins C dx []) ∧ Odd K H x ∧ Odd K H y ∧ (isI x = false → BadV CB H E x) ∧
  (isI x = true → (isI y = false ∨ y = .int 0) → BadV CB H E y) ∧
  ∀ i j, x = .int i → y = .int j → j ≠ 0 → j.natAbs.log2 < 8999 ∧ Q .non (upd H a (.ins C dx [("over", .int (rN i j)), ("under", .int (rD i j))]))
/-- what told_of makes of a value -/
def Told (K : PySem.W.Frag) (C CB : Addr) (H : Hp) (v : V) (Q : VK) (E : XK) : Prop := AnyV K C H v ∧ (vRat C H v = true → ∀ H', Ext H H' → Q v H') ∧ (vRat C H v = false → isI v = false → BadV CB H E v) ∧ ∀ i, v = .int i → Made C H i 1 Q
theorem Told.up {K : PySem.W.Frag} {C CB : Addr} {H H1 : Hp} {v : V} {Q : VK} {E : XK} (h : Told K C CB H v Q E) (e : Ext H H1) : Told K C CB H1 v Q E := by
  obtain ⟨a, b, c, d⟩ := h
  refine ⟨a.ext e, fun z H' e' => b (by rw [← a.vrat e]; exact z) H' (e.trans e'), fun z i => (c (by rw [← a.vrat e]; exact z) i).up e, fun i z => (d i z).up e⟩
def spTold (K : PySem.W.Frag) (C CB : Addr) : Sp := fun vs H Q E => ∃ v, vs = [v] ∧ Told K C CB H v Q E
def spFirst (K : PySem.W.Frag) (C CB : Addr) : Sp := fun vs H Q E => ∃ v, vs = [v] ∧ AnyV K C H v ∧ (∀ x xs, SeqOf H v (x :: xs) → Told K C CB H x Q E) ∧ ((∀ x xs, ¬ SeqOf H v (x :: xs)) → BadV CB H E v)
def spLess (C : Addr) : Sp := fun vs H Q _ => ∃ a b n d n' d', vs = [.ref a, .ref b] ∧ Rat C H a n d ∧ Rat C H b n' d' ∧ CMulW n d' ∧ CMulW n' d ∧ Q (.bl (decide (n * d' < n' * d))) H

/-! ### Euclid -/
theorem gcd_step {a b : Int} (ha : 0 ≤ a) (hb : 0 < b) : Int.gcd b (a % b) = Int.gcd a b := by
  obtain ⟨m, rfl⟩ := Int.eq_ofNat_of_zero_le ha
  obtain ⟨n, rfl⟩ := Int.eq_ofNat_of_zero_le (Int.le_of_lt hb)
  show Nat.gcd n (((m : Int) % (n : Int)).natAbs) = Nat.gcd m n
  have e : ((m : Int) % (n : Int)).natAbs = m % n := by rw [← Int.natCast_emod, Int.natAbs_natCast]
  rw [e, Nat.gcd_comm n, ← Nat.gcd_rec, Nat.gcd_comm]
theorem rG_ok (i : Int) {j : Int} (h : j ≠ 0) : rG i j ≠ 0 := by
  have : Int.gcd i j ≠ 0 := fun z => h (Int.gcd_eq_zero_iff.mp z).2
  unfold rG
  split <;> omega
theorem rG_le (i : Int) {j : Int} (h : j ≠ 0) : (rG i j).natAbs ≤ j.natAbs := by
  have h1 : Int.gcd i j ≤ j.natAbs := Nat.le_of_dvd (by omega) (Nat.gcd_dvd_right _ _)
  unfold rG
  split <;> omega
theorem log2_mono {a b : Nat} (h : a ≤ b) : a.log2 ≤ b.log2 := by
  by_cases z : a = 0
  · rw [z]
    exact Nat.zero_le _
  · exact (Nat.le_log2 (by omega)).mpr (Nat.le_trans (Nat.log2_self_le z) h)
theorem upd_again {H : Hp} {a : Addr} {o o' : HO} : upd (upd H a o) a o' = upd H a o' := by
  funext b
  by_cases h : b = a
  · rw [h, upd_same, upd_same]
  · rw [upd_ne h, upd_ne h, upd_ne h]
theorem rG_one (i : Int) : rG i 1 = 1 := by
  unfold rG
  rw [if_neg (by decide), Int.gcd_one_right]
  rfl
theorem rN_one (i : Int) : rN i 1 = i := by
  unfold rN
  rw [rG_one, Int.fdiv_one]
theorem rD_one (i : Int) : rD i 1 = 1 := by
  unfold rD
  rw [rG_one]
  rfl

/-! ### the greatest, the least of some numbers -/
def RatOf (C : Addr) (H : Hp) (x : V) (p : Int × Int) : Prop := (x = .int p.1 ∧ p.2 = 1) ∨ ∃ a, x = .ref a ∧ Rat C H a p.1 p.2
theorem RatOf.ext {C : Addr} {H H' : Hp} {x : V} {p : Int × Int} (h : RatOf C H x p) (e : Ext H H') : RatOf C H' x p := h.elim .inl fun ⟨a, e1, r⟩ => .inr ⟨a, e1, r.ext e⟩
theorem RatOf.any {K : PySem.W.Frag} {C : Addr} {H : Hp} {x : V} {p : Int × Int} (h : RatOf C H x p) : AnyV K C H x := by
  rcases h with ⟨rfl, _⟩ | ⟨a, rfl, r⟩
  · exact .int _
  · exact .rat r
/-- small enough to be multiplied -/
def Sm (p : Int × Int) : Prop := p.1.natAbs < 2 ^ 4000 ∧ p.2.natAbs < 2 ^ 4000
theorem Sm.mul {p q : Int × Int} (h : Sm p) (h' : Sm q) : CMulW p.1 q.2 := wide_mul h.1 h'.2 (by decide) (by decide) (by decide)
def ltR (p q : Int × Int) : Bool := decide (p.1 * q.2 < q.1 * p.2)
def maxR (f t : Int × Int) : Int × Int := if ltR f t then t else f
def minR (f t : Int × Int) : Int × Int := if ltR t f then t else f
theorem told_good {K : PySem.W.Frag} {C CB : Addr} {H : Hp} {x : V} {p : Int × Int} {Q : VK} {E : XK} (h : RatOf C H x p) (k : ∀ a H', Ext H H' → Rat C H' a p.1 p.2 → Q (.ref a) H') : Told K C CB H x Q E := by
  refine ⟨h.any, ?_⟩
  rcases h with ⟨rfl, h1⟩ | ⟨a, rfl, r⟩
  · refine ⟨(fun z => by cases z), (fun _ z => by cases z), fun i z a H' e n r => ?_⟩
    cases z
    rw [← h1] at r
    exact k a H' e r
  · refine ⟨fun _ H' e => k a H' e (r.ext e), fun z => ?_, (fun i z => by cases z)⟩
    rw [r.is] at z
    cases z
theorem told_bad {K : PySem.W.Frag} {C CB : Addr} {H : Hp} {x : V} {Q : VK} {E : XK} (h : AnyV K C H x) (h1 : vRat C H x = false) (h2 : isI x = false) (k : BadV CB H E x) : Told K C CB H x Q E :=
  ⟨h, (fun z => by rw [h1] at z; cases z), fun _ _ => k, (fun i z => by rw [z] at h2; cases h2)⟩
/-- some numbers: the good ones gs, whose fractions are ps, then perhaps one that is none -/
structure Row (K : PySem.W.Frag) (C CB : Addr) (H : Hp) (xs gs bs : List V) (ps : List (Int × Int)) : Prop where
  eq : xs = gs ++ bs
  ok : Paired (RatOf C H) gs ps
  sm : ∀ p ∈ ps, Sm p
  bad : ∀ b r, bs = b :: r → AnyV K C H b ∧ vRat C H b = false ∧ isI b = false
def spBest (K : PySem.W.Frag) (C CB : Addr) (f : Int × Int → Int × Int → Int × Int) : Sp := fun vs H Q E => ∃ v, vs = [v] ∧ AnyV K C H v ∧ ((∀ x xs, ¬ SeqOf H v (x :: xs)) → BadV CB H E v) ∧
  ∀ xs, SeqOf H v xs → ∃ gs bs ps, Row K C CB H xs gs bs ps ∧ (∀ b r, bs = b :: r → BadV CB H E b) ∧ (bs = [] → ∀ p pt, ps = p :: pt → ∀ a H', Ext H H' → Rat C H' a (pt.foldl f p).1 (pt.foldl f p).2 → Q (.ref a) H')
theorem cut_tail (x : V) (xs : List V) : cutV (x :: xs) (some 1) none = xs := by
  unfold cutV
  simp [HT.sIx]
theorem paired_get {α β : Type} {F : α → β → Prop} {xs : List α} {ys : List β} (h : Paired F xs ys) : ∀ {i : Nat} {x : α}, xs[i]? = some x → ∃ y, ys[i]? = some y ∧ F x y := by
  induction h with
  | nil => intro i x e; simp at e
  | cons h1 _ ih =>
    intro i x e
    cases i with
    | zero =>
      simp at e
      subst e
      exact ⟨_, rfl, h1⟩
    | succ i => exact ih (by simpa using e)
theorem fold_more {α β : Type} (f : β → α → β) (p : β) {ps : List α} {i : Nat} {y : α} (h : ps[i]? = some y) : (ps.take (i + 1)).foldl f p = f ((ps.take i).foldl f p) y := by
  rw [List.take_add_one, h, List.foldl_append]
  rfl
theorem fold_sm {f : Int × Int → Int × Int → Int × Int} (hf : ∀ p q, f p q = p ∨ f p q = q) : ∀ {ps : List (Int × Int)} {p : Int × Int}, Sm p → (∀ q ∈ ps, Sm q) → Sm (ps.foldl f p)
  | [], _, h, _ => h
  | q :: ps, p, h, hs => by
    refine fold_sm (ps := ps) hf ?_ fun r hr => hs r (List.mem_cons_of_mem _ hr)
    rcases hf p q with e | e <;> rw [e]
    · exact h
    · exact hs q List.mem_cons_self
theorem max_or (p q : Int × Int) : maxR p q = p ∨ maxR p q = q := by
  unfold maxR
  split
  · exact .inr rfl
  · exact .inl rfl
theorem min_or (p q : Int × Int) : minR p q = p ∨ minR p q = q := by
  unfold minR
  split
  · exact .inr rfl
  · exact .inl rfl
/-- a turn of the loop that seeks the greatest, the least -/
theorem best_step {K : PySem.W.Frag} {C CB l b : Addr} {gs bs : List V} {ps : List (Int × Int)} {p : Int × Int} {i : Nat} {x : V} {E E1 : XK} {D : Ends} {H H2 : Hp} {o : Option V} {i1 i3 : Nat} {f : Int × Int → Int × Int → Int × Int}
    (hf : (i1 = 1 ∧ i3 = 3 ∧ f = maxR) ∨ (i1 = 3 ∧ i3 = 1 ∧ f = minR)) (hx : (gs ++ bs)[i]? = some x) (hi : i ≤ gs.length) (ex : Ext H H2) (rb : Rat C H2 b ((ps.take i).foldl f p).1 ((ps.take i).foldl f p).2) (pr : Paired (RatOf C H) gs ps)
    (sm : ∀ q ∈ p :: ps, Sm q) (bad : ∀ b r, bs = b :: r → AnyV K C H b ∧ vRat C H b = false ∧ isI b = false) (hb : ∀ b r, bs = b :: r → BadV CB H E b)
    (nx : ∀ b' H3 o', i + 1 ≤ gs.length → Ext H2 H3 → Rat C H3 b' ((ps.take (i + 1)).foldl f p).1 ((ps.take (i + 1)).foldl f p).2 → D.nx [some (.ref l), some (.ref b'), some x, o'] H3) :
    (tSeq (tAsg (tCall (spTold K C CB) [] E (tCons (tVar 2) tNil)) (gName 3)) (tIfS (tB (tCall (spLess C) [] E1 (tCons (tVar i1) (tCons (tVar i3) tNil)))) (tAsg (tVar 3) (gName 1)) tNext)) D [some (.ref l), some (.ref b), some x, o] H2 := by
  have hor : ∀ p q, f p q = p ∨ f p q = q := by
    rcases hf with ⟨_, _, rfl⟩ | ⟨_, _, rfl⟩
    · exact max_or
    · exact min_or
  by_cases hlt : i < gs.length
  · have hg : gs[i]? = some x := by rw [List.getElem?_append_left hlt] at hx; exact hx
    obtain ⟨y, hy, r⟩ := paired_get pr hg
    have sf : Sm ((ps.take i).foldl f p) := fold_sm hor (sm p List.mem_cons_self) fun q hq => sm q (List.mem_cons_of_mem _ (List.mem_of_mem_take hq))
    have sy : Sm y := sm y (List.mem_cons_of_mem _ (List.mem_of_getElem? hy))
    rw [fold_more f p hy] at nx
    refine ⟨x, rfl, x, rfl, told_good (r.ext ex) fun c H3 e3 rc => ?_⟩
    have rb3 := rb.ext e3
    rcases hf with ⟨rfl, rfl, rfl⟩ | ⟨rfl, rfl, rfl⟩
    · refine ⟨_, rfl, _, rfl, b, c, _, _, _, _, rfl, rb3, rc, sf.mul sy, sy.mul sf, _, rfl, ?_⟩
      by_cases h : ltR ((ps.take i).foldl maxR p) y = true
      · have e : maxR ((ps.take i).foldl maxR p) y = y := if_pos h
        rw [e] at nx
        have hd : decide (((ps.take i).foldl maxR p).1 * y.2 < y.1 * ((ps.take i).foldl maxR p).2) = true := h
        rw [hd]
        exact iteT ⟨_, rfl, nx c H3 _ (by omega) e3 rc⟩
      · have e : maxR ((ps.take i).foldl maxR p) y = (ps.take i).foldl maxR p := if_neg h
        rw [e] at nx
        have hd : decide (((ps.take i).foldl maxR p).1 * y.2 < y.1 * ((ps.take i).foldl maxR p).2) = false := Bool.eq_false_iff.mpr h
        rw [hd]
        exact iteF (nx b H3 _ (by omega) e3 rb3)
    · refine ⟨_, rfl, _, rfl, c, b, _, _, _, _, rfl, rc, rb3, sy.mul sf, sf.mul sy, _, rfl, ?_⟩
      by_cases h : ltR y ((ps.take i).foldl minR p) = true
      · have e : minR ((ps.take i).foldl minR p) y = y := if_pos h
        rw [e] at nx
        have hd : decide (y.1 * ((ps.take i).foldl minR p).2 < ((ps.take i).foldl minR p).1 * y.2) = true := h
        rw [hd]
        exact iteT ⟨_, rfl, nx c H3 _ (by omega) e3 rc⟩
      · have e : minR ((ps.take i).foldl minR p) y = (ps.take i).foldl minR p := if_neg h
        rw [e] at nx
        have hd : decide (y.1 * ((ps.take i).foldl minR p).2 < ((ps.take i).foldl minR p).1 * y.2) = false := Bool.eq_false_iff.mpr h
        rw [hd]
        exact iteF (nx b H3 _ (by omega) e3 rb3)
  · have e : i = gs.length := by omega
    subst e
    rw [List.getElem?_append_right (Nat.le_refl _), Nat.sub_self] at hx
    cases bs with
    | nil => simp at hx
    | cons b0 r =>
      simp at hx
      subst hx
      obtain ⟨h1, h2, h3⟩ := bad b0 r rfl
      exact ⟨b0, rfl, b0, rfl, told_bad (h1.ext ex) (by rw [h1.vrat ex]; exact h2) h3 ((hb b0 r rfl).up ex)⟩
theorem Pen.at_ {H : Hp} {p c : Addr} {n : Nat} (h : Pen H p c n) : ∃ u, H p = some u :=
  let ⟨_, _, _, h1, _⟩ := h.ex
  ⟨_, h1⟩
theorem Pen.np {H : Hp} {p c q : Addr} {n : Nat} (h : Pen H p c n) (hq : H q = none) : q ≠ p := fun z => by
  obtain ⟨u, e⟩ := h.at_
  rw [z, e] at hq
  cases hq
theorem But.none {p q : Addr} {H H' : Hp} (b : But p H H') (hq : H' q = none) (hn : q ≠ p) : H q = none := by
  cases e : H q with
  | none => rfl
  | some o =>
    rw [b q o e hn] at hq
    cases hq
theorem fdiv_le {a b : Int} (hb : b ≠ 0) (h : b ∣ a) : (a.fdiv b).natAbs ≤ a.natAbs := by
  obtain ⟨k, rfl⟩ := h
  rw [Int.mul_fdiv_cancel_left _ hb, Int.natAbs_mul]
  exact Nat.le_mul_of_pos_left _ (Int.natAbs_pos.mpr hb)
theorem rG_dvd (i j : Int) : rG i j ∣ i ∧ rG i j ∣ j := by
  unfold rG
  split
  · exact ⟨Int.neg_dvd.mpr (Int.gcd_dvd_left ..), Int.neg_dvd.mpr (Int.gcd_dvd_right ..)⟩
  · exact ⟨Int.gcd_dvd_left .., Int.gcd_dvd_right ..⟩
theorem rN_le (i : Int) {j : Int} (h : j ≠ 0) : (rN i j).natAbs ≤ i.natAbs := fdiv_le (rG_ok i h) (rG_dvd i j).1
theorem rD_le (i : Int) {j : Int} (h : j ≠ 0) : (rD i j).natAbs ≤ j.natAbs := fdiv_le (rG_ok i h) (rG_dvd i j).2
theorem log2_100 {i : Int} (h : i.natAbs < 2 ^ 100) : i.natAbs.log2 < 8999 := Nat.lt_of_lt_of_le (PySem.Flt.log2_lt_of (by decide) h) (by decide)
theorem sm_least {t b : Int} (h : b ≠ 0) (ht : t.natAbs < 2 ^ 100) (hb : b.natAbs < 2 ^ 100) : Sm (rN t b, rD t b) :=
  ⟨Nat.lt_of_le_of_lt (rN_le t h) (Nat.lt_of_lt_of_le ht (Nat.pow_le_pow_right (by decide) (by decide))), Nat.lt_of_le_of_lt (rD_le t h) (Nat.lt_of_lt_of_le hb (Nat.pow_le_pow_right (by decide) (by decide)))⟩
/-- where nothing may be raised -/
theorem passL {X : Cx} : Passes (L2.CX X.prog X.w) X E0 := fun _ _ _ _ _ _ _ ⟨_, _, _, _, _, _, _, _, _, _, _, _, z⟩ => z.elim
end Gs

set_option maxRecDepth 100000
set_option maxHeartbeats 4000000
/-! repr of dicts of plain things -/
namespace Gs
open PySem PySem.Spec PyProof.Rows L2
inductive ScD : V → PyData → Prop
  | non : ScD .non .none
  | bl (b : Bool) : ScD (.bl b) (.bool b)
  | int (i : Int) : ScD (.int i) (.int i)
  | str (x : Str) : ScD (.str x) (.str x)
def keyD : Key → PyData
  | .inl i => .int i
  | .inr x => .str x
/-- a dict's pairs as data -/
def PrD (kv : Key × V) (d : PyData × PyData) : Prop := d.1 = keyD kv.1 ∧ ScD kv.2 d.2
theorem scD_reads {h : Heap} {v : V} {d : PyData} {u : Value} (s : ScD v d) (r : L2.RelV v u) : Reads h u d [] := by
  cases s with
  | non => cases (show u = Value.none from r); exact .none
  | bl b => cases (show u = Value.bool b from r); exact .bool b
  | int i => obtain ⟨t, e⟩ := (show ∃ t, u = Value.int i t from r); subst e; exact .int i t
  | str x => obtain ⟨t, e⟩ := (show ∃ t, u = Value.str x t from r); subst e; exact .str x t
theorem keyD_reads {P : Program} {w : World} {h : Heap} {k : Key} {u : Value} (e : (mixKind P w).is k u = true) : Reads h u (keyD k) [] := by
  rcases keyIs_shape (show keyIs k u = true from e) with ⟨i, t, rfl, rfl⟩ | ⟨x, t, rfl, rfl⟩
  · exact .int i t
  · exact .str x t
theorem dk_all {P : Program} {w : World} {h : Heap} : ∀ {es : List DictEntry} {vs : List (Key × Value)} {kvs : List (Key × V)} {ds : List (PyData × PyData)}, Pairs (mixKind P w) es vs → KV kvs vs → Paired PrD kvs ds →
    ReadsAll h (es.map (·.key)) (ds.map (·.1)) [] ∧ ReadsAll h (es.map (·.val)) (ds.map (·.2)) []
  | _, _, _, _, .nil, .nil, .nil => ⟨.nil, .nil⟩
  | _, _, _, _, .cons k1 v1 ps, .cons r1 rs, .cons d1 dd => by
    obtain ⟨a, b⟩ := dk_all ps rs dd
    obtain ⟨e1, e2⟩ := r1
    obtain ⟨f1, f2⟩ := d1
    refine ⟨?_, ?_⟩
    · rw [List.map_cons, List.map_cons, f1, e1]
      exact .cons (as := []) (bs := []) (keyD_reads k1) a
    · rw [List.map_cons, List.map_cons, v1]
      exact .cons (as := []) (bs := []) (scD_reads f2 e2) b
/-- repr of such a dict -/
def rReprD : List V → Hp → VK → Prop := fun vs H Q => ∃ a kvs ds, vs = [.ref a] ∧ H a = some (.dK kvs) ∧ Paired PrD kvs ds ∧ (PyData.dict ds).showable = true ∧ (PyData.dict ds).depth ≤ 60 ∧ (PyData.dict ds).shown.length ≤ sizeLine ∧ Q (.str (PyData.dict ds).shown) H
theorem call_reprD {X : Cx} (hg : X.A.guards = some []) (hu : X.A.units + 64 < cLine) : CallR X (.builtin "repr") rReprD := by
  intro pins s σ H xs us Q I r h
  obtain ⟨a, kvs, ds, rfl, ea, pd, hs, hd, hz, q⟩ := h
  obtain ⟨u, rfl, rv⟩ := vals1 r
  obtain rfl : u = Value.ref a := rv
  obtain ⟨hz2, hy, vs, rel, o, es, ep, ho, ex, hdt, _, prs, _⟩ := (show ObjOk X.prog X.w H s.heap a (.dK kvs) from I.hok a _ ea)
  obtain ⟨k1, k2⟩ := dk_all (h := s.heap) prs rel pd
  have rd : Reads s.heap (.ref a) (.dict ds) (a :: [] ++ []) := .dict ho ex.1 hdt k1 k2
  refine repr_of_reads' rd hs (fun _ z => ?_) hg (by omega) (fun _ _ e => e) (fun h' u tk hk => ⟨.str _, H, I.kept hk, ⟨_, rfl⟩, q⟩) hz
  have e : sysModules = a := by simpa using z
  rw [← e] at hy
  simp at hy
/-- what repr may be asked here: data, or such a dict; d: what it shows -/
inductive Shw (K : PySem.W.Frag) (H : Hp) : V → PyData → Prop
  | data {v : V} {d : PyData} (h : Dp K H v d) : Shw K H v d
  | dict {a : Addr} {kvs : List (Key × V)} {ds : List (PyData × PyData)} (h : H a = some (.dK kvs)) (p : Paired PrD kvs ds) : Shw K H (.ref a) (.dict ds)
/-- of bounded size -/
def Fine (d : PyData) : Prop := d.showable = true ∧ d.depth ≤ 60 ∧ d.shown.length ≤ sizeLine
def rReprX (K : PySem.W.Frag) : List V → Hp → VK → Prop := fun vs H Q => ∃ v d, vs = [v] ∧ Shw K H v d ∧ Fine d ∧ Q (.str d.shown) H
theorem call_reprX {X : Cx} (hg : X.A.guards = some []) (hu : X.A.units + 64 < cLine) : CallR X (.builtin "repr") (rReprX X.K) := by
  intro pins s σ H xs us Q I r ⟨v, d, e, sh, ⟨f1, f2, f3⟩, q⟩
  cases sh with
  | data h => exact call_repr hg hu pins s σ H xs us Q I r ⟨v, d, e, h, f1, f2, f3, q⟩
  | dict h p => exact call_reprD hg hu pins s σ H xs us Q I r ⟨_, _, _, e, h, p, f1, f2, f3, q⟩
theorem dp_ext {K : PySem.W.Frag} {H H' : Hp} (e : Ext H H') : ∀ {v : V} {d : PyData}, Dp K H v d → Dp K H' v d := by
  intro v d h
  induction h using Dp.rec (motive_2 := fun vs ds _ => DpAll K H' vs ds) with
  | non => exact .non
  | bl b => exact .bl b
  | int i => exact .int i
  | str x => exact .str x
  | lst h _ ih => exact .lst (e.sq h) ih
  | tup h _ ih => exact .tup (e.st h) ih
  | nil => exact .nil
  | cons _ _ a b => exact .cons a b
theorem Shw.ext {K : PySem.W.Frag} {H H' : Hp} {v : V} {d : PyData} (h : Shw K H v d) (e : Ext H H') : Shw K H' v d := by
  cases h with
  | data h => exact .data (dp_ext e h)
  | dict h p => exact .dict (e _ _ h) p
end Gs

set_option maxRecDepth 100000
set_option maxHeartbeats 4000000
/-! calls by keywords alone: an own class made, a static method -/
namespace Gs
open PySem PySem.Spec PyProof.Rows L2
section
variable {X : Cx} {CX : CXT} {k : Nat} {ps ks : List Str} {sp : Sp} {dvs dv : List V} {E : XK} {x y qual m : Str} {C f : Addr} {st : Stmt} {p pos apos : Pos} {o : Expr} {kws : List Keyword} {to : TE} {tk : TA} {gV : List V → List V → List V}
theorem pe_mkK (M : Mk X.K C f) (hm : X.mg x = some (.ref C)) (D : FunOk X.prog X.w X.K X.mg X.base CX k f ps dvs sp) (a : AtF X.K f y qual st dv)
    (kb : ∀ fd, FunD X.K y qual (defArgs st) (defBody st) (defScope st) dv [] f fd → ∃ g, KBn X.K fd ps 1 ks g gV) (hr : Room (k + 1) X.A) (hx : Passes CX X E) (hkw : PK X kws tk) (hg : Gl X x := by rfl)
    (hall : (backToKw pos (keywordEach kws X.env)).all (·.1.isSome) = true := by rfl) (hks : (backToKw pos (keywordEach kws X.env)).filterMap (·.1) = ks := by rfl) (hdb : (x == ("__debug__" : Str)) = false := by decide)
    (hpl : ((backTo pos (starEach [] X.env)).any (·.1) || (backToKw pos (keywordEach kws X.env)).any (·.1.isNone)) = false := by rfl) : PE X (.Call (.Name x p) [] kws pos) (tMakeK C 0 ks.length sp gV E tNil tk) := by
  obtain ⟨fd, F⟩ := a.ex
  obtain ⟨g, hb⟩ := kb fd F
  obtain ⟨_, _, _, _, _, _, _, _, _, _, _, l1, _⟩ := F.ex
  exact pe_makeK0 M (D.lk fd ⟨_, _, _, l1⟩) hr hg hm hb hx hkw hall hks hdb hpl
/-- C.m(k = v, ..), m a static method -/
def tStK (C : Addr) (n : Nat) (sp : Sp) (gV : List V → List V) (E : XK) (to : TE) (tk : TA) : TE := fun σ H Q => to σ H fun x H1 => x = .ref C ∧ tk σ H1 fun zs H2 => zs.length = n ∧ sp (gV zs) H2 Q E
theorem pe_smK {gV : List V → List V} (D : FunOk X.prog X.w X.K X.mg X.base CX k f ps dvs sp) (a : AtF X.K f y qual st dv) (M : StM X.K C m f)
    (kb : ∀ fd, FunD X.K y qual (defArgs st) (defBody st) (defScope st) dv [] f fd → ∃ g : List Value → List Value, (∀ (s : Shared) (ws : List Value), X.K.In s.heap → ws.length = ks.length → BindsTo s fd ⟨[], ks.zip ws⟩ (ps.zip (g ws))) ∧ ∀ {zs : List V} {ws : List Value}, Vals zs ws → Vals (gV zs) (g ws))
    (hr : Room k X.A) (hx : Passes CX X E) (ho : PE X o to) (hkw : PK X kws tk)
    (hb : attributeBase o m X.env (eval o X.env) = eval o X.env := by rfl) (hl : (apos.endLine == pos.line) = true := by rfl)
    (hf : methodCallForm (([] : List Expr).length + kws.length) (backTo pos (starEach [] X.env)) (backToKw pos (keywordEach kws X.env)) = true := by rfl)
    (hall : (backToKw pos (keywordEach kws X.env)).all (·.1.isSome) = true := by rfl) (hks : (backToKw pos (keywordEach kws X.env)).filterMap (·.1) = ks := by rfl)
    (hpl : ((backTo pos (starEach [] X.env)).any (·.1) || (backToKw pos (keywordEach kws X.env)).any (·.1.isNone)) = false := by rfl) :
    PE X (.Call (.Attribute o m apos) [] kws pos) (tStK C ks.length sp gV E to tk) := by
  obtain ⟨fd, F⟩ := a.ex
  obtain ⟨g, bd, rel⟩ := kb fd F
  obtain ⟨_, _, _, _, _, _, _, _, _, _, _, l1, _⟩ := F.ex
  have Fn := D.lk fd ⟨_, _, _, l1⟩
  obtain ⟨q, rest, h1, h2⟩ := M.at_
  refine ⟨fun pins s σ H Q I h => ?_⟩
  show wpAny _ _ (do let ov ← attributeBase o m X.env (eval o X.env); standAt apos.atName; methodCall o m apos pos X.env ov (([] : List Expr).length + kws.length) (backTo pos (starEach [] X.env)) (backToKw pos (keywordEach kws X.env))) _ _ _
  rw [hb]
  refine wpAny_bind (thn (ho.run pins s σ H _ I h) fun u s1 ⟨x, H1, I1, r1, ex, h3⟩ => ?_)
  subst ex
  obtain rfl : u = Value.ref C := r1
  rw [mcall_line hf hl]
  refine wpAny_bind (wpAny_standAt (wpAny_bind (wpAny_holding (PySem.W.method_cls I1.kIn M.ga (PySem.W.cls_bind I1.kIn M.rd h1 ?_)))))
  refine wpAny_call (PySem.W.sm_get (s := { s1 with toks := s1.toks + 1 }) I1.kIn h2 (PySem.W.handed_on rfl ?_))
  refine PySem.W.callWith_KW0 (h₀ := X.base) I1.ok.mod.kin D.kp hall (thn (hkw.run pos pins _ σ H1 _ (I1.tok _) h3) fun ws s2 ⟨zs, H2, I2, rz, lz, q2⟩ => ⟨I2.kIn, ?_⟩) hpl
  rw [hks]
  have lw : ws.length = ks.length := rz.length.symm.trans lz
  refine wpAny_call (codeAny_mono (Fn.run X.A X.stack s2 H2 ⟨[], ks.zip ws⟩ _ _ Q E hr I2.env0 (bd s2 ws I2.kIn lw) (rel rz) q2) ?_)
  intro r s' hq
  match r, hq with
  | .error e, hq => exact hx pins σ H2 s2 e s' I2 hq
  | .ok (.ret u), hq => exact I2.after hq
  | .ok .next, hq => exact hq.elim
  | .ok .brk, hq => exact hq.elim
  | .ok .cont, hq => exact hq.elim
end
/-- a fraction of two integers is made -/
theorem mk_two {K : PySem.W.Frag} {C CB : Addr} {H : Hp} {Q : VK} {E : XK} {i j : Int} (hj : j ≠ 0) (hl : j.natAbs.log2 < 8999) (k : Made C H (rN i j) (rD i j) Q) :
    ∀ x dx, H x = none → H dx = none → dx ≠ x → spInit K C CB [.ref x, .int i, .int j] (upd (upd H dx (.own x)) x (.ins C dx [])) (fun v H2 => v = .non ∧ Q (.ref x) H2) E := fun x dx nx nd hne => by
  have nx' : upd H dx (.own x) x = none := by rw [upd_ne (Ne.symm hne)]; exact nx
  refine ⟨x, dx, .int i, .int j, rfl, upd_same, trivial, trivial, (fun z => by cases z), (fun _ z => ?_), fun i' j' ei ej _ => ?_⟩
  · rcases z with z | z
    · cases z
    · exact absurd (V.int.inj z) hj
  · cases ei
    cases ej
    refine ⟨hl, rfl, ?_⟩
    rw [upd_again]
    exact k x _ ((ext_new nd).new nx') nx ⟨dx, upd_same⟩
theorem fine_pair {a b : Int} (ha : a.natAbs < 2 ^ 100) (hb : b.natAbs < 2 ^ 100) : Fine (.list [.int a, .int b]) := by
  refine small_len ?_
  have h1 := log2_lt (by decide) ha
  have h2 := log2_lt (by decide) hb
  unfold small
  simp only [Bool.and_eq_true, decide_eq_true_eq]
  refine ⟨⟨⟨?_, by simp [PyData.depth, PyData.depthAll]⟩, ?_⟩, ?_⟩
  · simp [PyData.showable, PyData.showableAll]
    omega
  · have k1 := (int_leaf (Nat.lt_of_lt_of_le ha (Nat.pow_le_pow_right (by decide) (show 100 ≤ 1000 by decide)))).2.1
    have k2 := (int_leaf (Nat.lt_of_lt_of_le hb (Nat.pow_le_pow_right (by decide) (show 100 ≤ 1000 by decide)))).2.1
    simp only [PyData.leavesShort] at k1 k2
    simp [PyData.leavesShort, PyData.leavesShortAll]
    exact ⟨by simpa using k1, by simpa using k2⟩
  · simp [PyData.weight, PyData.weightAll]
    split <;> split <;> omega
section
variable {X : Cx} {C CB : Addr} {t tk : TA} {E : XK} {e : Expr}
/-- a fraction made of two integers -/
def tMk2 (C : Addr) (t : TA) : TE := fun σ H Q => t σ H fun vs H1 => ∃ i j : Int, vs = [.int i, .int j] ∧ j ≠ 0 ∧ j.natAbs.log2 < 8999 ∧ Made C H1 (rN i j) (rD i j) Q
theorem pe_mk2 (h : PE X e (tMake C (spInit X.K C CB) [] E (taM t))) : PE X e (tMk2 C t) :=
  ⟨fun pins s σ H Q I q => h.run pins s σ H Q I ⟨_, q, fun vs H1 ⟨i, j, ev, hj, hl, k⟩ => by
    subst ev
    exact mk_two hj hl k⟩⟩
/-- of one -/
def tMk1 (C : Addr) (t : TA) : TE := fun σ H Q => t σ H fun vs H1 => ∃ i : Int, vs = [.int i] ∧ Made C H1 i 1 Q
theorem pe_mk1 (h : PE X e (tMake C (spInit X.K C CB) [.int 1] E (taM t))) : PE X e (tMk1 C t) :=
  ⟨fun pins s σ H Q I q => h.run pins s σ H Q I ⟨_, q, fun vs H1 ⟨i, ev, k⟩ => by
    subst ev
    exact mk_two (j := 1) (by decide) (by decide) (by rw [rN_one, rD_one]; exact k)⟩⟩
end
def gUO {α : Type} : List α → List α → List α → List α := fun us _ ws => match us, ws with
  | [a], [u, o] => [a, o, u]
  | _, _ => []
section
variable {X : Cx} {C CB : Addr} {tk : TA} {E : XK} {e : Expr}
/-- .. by keywords, under ahead of over -/
def tMk2K (C : Addr) (tk : TA) : TE := fun σ H Q => tk σ H fun zs H1 => ∃ i j : Int, zs = [.int j, .int i] ∧ j ≠ 0 ∧ j.natAbs.log2 < 8999 ∧ Made C H1 (rN i j) (rD i j) Q
theorem pe_mk2K (h : PE X e (tMakeK C 0 2 (spInit X.K C CB) (fun vs zs => gUO vs [.int 1] zs) E tNil (taM tk))) : PE X e (tMk2K C tk) :=
  ⟨fun pins s σ H Q I q => h.run pins s σ H Q I ⟨_, q, fun zs H1 ⟨i, j, ev, hj, hl, k⟩ => by
    subst ev
    exact ⟨rfl, rfl, mk_two hj hl k⟩⟩⟩
end
theorem pkM_ok {X : Cx} {kws : List Keyword} {tk : TA} (h : PK X kws tk) : PK X kws (taM tk) :=
  ⟨fun pos pins s σ H Q I ⟨R, a, b⟩ => thn (h.run pos pins s σ H R I a) fun us s' ⟨vs, H1, I1, r, q⟩ => ⟨vs, H1, I1, r, b _ _ q⟩⟩
end Gs

set_option maxRecDepth 100000
set_option maxHeartbeats 4000000
/-! lambdas as values: made, kept in names and lists, called where they were made -/
namespace Gs
open PySem PySem.Spec PyProof.Rows L2 LamX
/-- a lambda's function object, kept at f -/
def LamO (f c' : Addr) (q : Str) (ar : Arguments) (bd : Expr) (sc : Scope) (cl : List (Str × Addr)) : HO :=
  .ext fun h => ∃ pm ctv, h.get? f = some (PySem.W.kla_obj "<lambda>" q ar bd sc cl pm c' ctv)
theorem lamO_ok {P : Program} {w : World} {H : Hp} {h : Heap} {f c' : Addr} {q : Str} {ar : Arguments} {bd : Expr} {sc : Scope} {cl : List (Str × Addr)} {pm ctv : Value}
    (e : h.get? f = some (PySem.W.kla_obj "<lambda>" q ar bd sc cl pm c' ctv)) : ObjOk P w H h f (LamO f c' q ar bd sc cl) :=
  ⟨⟨pm, ctv, e⟩, ⟨_, e⟩, fun _ _ ⟨a, b, z⟩ st => ⟨a, b, st _ z⟩⟩
section
variable {X : Cx} {pins : List (Addr × Obj)} {σ : L2.St} {H : Hp} {s : Shared}
/-- an object that is there, of no one so far, is told of from now on -/
theorem inv_track {f : Addr} {φ : Heap → Prop} (I : Inv X pins σ H s) (lo : X.s_0.heap.objs.size ≤ f) (n : H f = none) (ne : f ≠ X.env.locals) (nc : ∀ x c, X.env.cells.lookup x = some c → c ≠ f)
    (np : ∀ p ∈ X.pn ++ pins, p.1 ≠ f) (ob : ∀ H', ObjOk X.prog X.w H' s.heap f (.ext φ)) : Inv X pins σ (upd H f (.ext φ)) s := by
  have ot : ∀ {b : Addr} {o : HO}, H b = some o → upd H f (.ext φ) b = some o := fun {b o} e => by
    rw [upd_ne (ne_of_none e n)]
    exact e
  exact I.step (g' := s.gens) (t' := s.toks) (d' := s.drawn) (h' := s.heap) (ch := [f])
    (fun b hb => by
      obtain rfl := List.mem_singleton.mp hb
      exact ⟨.inr lo, ne, nc, np⟩)
    (fun _ _ _ _ _ e _ => e) (fun _ o _ _ _ e _ => ⟨o.slots, e⟩)
    (fun b _ hb _ z => by rw [upd_ne (fun q => hb (List.mem_singleton.mpr q))]; exact z) (fun _ o _ e => ⟨o, e⟩)
    (fun _ _ e => ot e) (fun _ _ _ e => ot e) (fun _ _ e => ⟨#[], by rw [Array.append_empty]; exact ot e⟩) (fun _ z => z)
    (fun b o e => by
      by_cases hb : b = f
      · subst hb
        rw [upd_same] at e
        cases e
        exact ob _
      · rw [upd_ne hb] at e
        exact (I.hok b o e).stay (fun _ _ _ z => z) (fun _ z => ot z) fun _ _ z => ot z) I.bare
/-- a lambda is made and told of -/
theorem lam_track {T : List (Addr × Str)} {c P : Addr} {ar : Arguments} {bd : Expr} {sc : Scope} {pos : Pos} {E Q : Value → Shared → Prop} (I : Inv X pins σ H s) (TB : TabB X.base X.mg c P)
    (hc0 : X.env.code = .ref c) (hm : (P, X.env.qual ++ "<lambda>") ∈ T) (hu : ∀ p ∈ T, p.1 = P → p.2 = X.env.qual ++ "<lambda>") (hT : Tabs T H) (hd : defaultsOf ar X.env = ([], []))
    (hf : ∀ y ∈ sc.names, y.2 = .free → ∃ c, X.env.cells.lookup y.1 = some c)
    (k : ∀ (f c' : Addr) (H1 : Hp) (s1 : Shared), ExtN H H1 → Tabs T H1 → H1 f = none → H1 c' = some (CodeO c' (X.env.qual ++ "<lambda>")) →
      Inv X pins σ (upd H1 f (LamO f c' (X.env.qual ++ "<lambda>") ar bd sc (cloFrom X.env.cells sc.names []))) s1 → Q (.ref f) s1) :
    wpAny (model X.prog X.w) X.A (eval (.Lambda ar bd sc pos) X.env) Q E s := by
  have fresh : ∀ {f c' : Addr} {H1 : Hp} {s1 : Shared} {pm ctv : Value}, s.heap.objs.size ≤ f → Inv X pins σ H1 s1 → H1 f = none →
      s1.heap.get? f = some (PySem.W.kla_obj "<lambda>" (X.env.qual ++ "<lambda>") ar bd sc (cloFrom X.env.cells sc.names []) pm c' ctv) →
      Inv X pins σ (upd H1 f (LamO f c' (X.env.qual ++ "<lambda>") ar bd sc (cloFrom X.env.cells sc.names []))) s1 := fun {f c' H1 s1 pm ctv} lf I1 n e =>
    inv_track I1 (Nat.le_trans I.sz lf) n (fun z => absurd (Nat.lt_of_lt_of_le I.lt lf) (by rw [z]; exact Nat.lt_irrefl _))
      (fun x c hx z => by
        obtain ⟨_, _, ho, _⟩ := I.cell x c hx
        have := Heap.lt_size ho
        rw [z] at this
        exact absurd (Nat.lt_of_lt_of_le this lf) (Nat.lt_irrefl _))
      (fun p hp z => by
        have := Heap.lt_size (I.pin p hp).1
        rw [z] at this
        exact absurd (Nat.lt_of_lt_of_le this lf) (Nat.lt_irrefl _)) fun H' => lamO_ok e
  obtain ⟨ps, hP, tri, among⟩ := hT _ hm
  have hP' : s.heap.get? P = some { cls := .none, data := .fields ps } := I.hok P _ hP
  have bP : s.heap.BuiltinsAt X.mg P := TB.bm.keeps I.bk
  refine PySem.W.kla_eval hd ?_
  cases hc : codeAmong pos ps.toList with
  | some cv =>
    obtain ⟨c', rfl, known⟩ := among pos cv hc
    refine PySem.W.kla_makeFunctionHit (mg := X.mg) (c := c) (P := P) (ps := ps) (closure_ok hf) I.ok.glob (I.mod.glob.keeps I.bk) hc0 (TB.code.keeps I.bk) hP' tri hc bP fun ctv h' tk hx hsz => ?_
    exact k h'.objs.size c' H _ (ExtN.refl H) hT (I.hok.fresh hsz) known (fresh hsz (I.kept fun b o e => Heap.get?_push_of_some _ (hx b o e)) (I.hok.fresh hsz) (Heap.get?_push_size _ rfl))
  | none =>
    refine PySem.W.kla_makeFunction (mg := X.mg) (c := c) (P := P) (ps := ps) (closure_ok hf) I.ok.glob (I.mod.glob.keeps I.bk) hc0 (TB.code.keeps I.bk) hP' tri hc TB.gP bP fun c' ctv h' tk hx hge hlt hrec htb => ?_
    obtain ⟨c2, oc, vs, t, e2, q1, q2, q3⟩ := hrec
    cases e2
    have big := Nat.le_trans hge (Nat.le_of_lt hlt)
    have nC : H c' = none := I.hok.fresh hge
    have I1 := inv_table (t' := tk) (q := X.env.qual ++ "<lambda>") (more := #[rawInt pos.line, rawInt pos.col, .ref c']) (h' := h'.push (PySem.W.kla_obj "<lambda>" (X.env.qual ++ "<lambda>") ar bd sc (cloFrom X.env.cells sc.names []) ((X.mg "__name__").getD .none) c' ctv)) I hP
      (fun b o hb e => Heap.get?_push_of_some _ (hx b o hb e)) (Heap.get?_push_of_some _ htb) hge ⟨oc, vs, t, Heap.get?_push_of_some _ q1, q2, q3⟩
    have nf : upd (upd H P (.tbl (ps ++ #[rawInt pos.line, rawInt pos.col, .ref c']))) c' (CodeO c' (X.env.qual ++ "<lambda>")) h'.objs.size = none := by
      rw [upd_ne (Nat.ne_of_gt hlt), upd_ne (Nat.ne_of_gt (Nat.lt_of_lt_of_le (Heap.lt_size hP') big))]
      exact I.hok.fresh big
    have grow : ExtN H (upd (upd H P (.tbl (ps ++ #[rawInt pos.line, rawInt pos.col, .ref c']))) c' (CodeO c' (X.env.qual ++ "<lambda>"))) := by
      intro b o e n
      rw [upd_ne (ne_of_none e nC), upd_ne]
      · exact e
      · rintro rfl
        rw [hP] at e
        exact n ps (Option.some.inj e).symm
    refine k _ c' _ _ grow (fun p hp => ?_) nf upd_same (fresh big I1 nf (Heap.get?_push_size _ rfl))
    by_cases hb : p.1 = P
    · have z := hu p hp hb
      rw [z, hb]
      have eL : (ps ++ #[rawInt pos.line, rawInt pos.col, .ref c']).toList = ps.toList ++ [rawInt pos.line, rawInt pos.col, .ref c'] := by simp
      refine ⟨_, by rw [upd_ne (ne_of_none hP nC), upd_same], by rw [eL]; exact PySem.TriplesOk_snoc _ _ _ _ tri, fun p' cv h => ?_⟩
      rw [eL] at h
      rcases among_app _ tri h with z | z
      · obtain ⟨c0, e1, e2⟩ := among p' cv z
        exact ⟨c0, e1, grow _ _ e2 codeO_ne⟩
      · exact ⟨c', z, upd_same⟩
    · obtain ⟨l, a1, a2, a3⟩ := hT p hp
      refine ⟨l, by rw [upd_ne (ne_of_none a1 nC), upd_ne hb]; exact a1, a2, fun p' cv h => ?_⟩
      obtain ⟨c0, e1, e2⟩ := a3 p' cv h
      exact ⟨c0, e1, grow _ _ e2 codeO_ne⟩
end
/-- what a lambda's making asks -/
def tLamV (T : List (Addr × Str)) (q : Str) (ar : Arguments) (bd : Expr) (sc : Scope) (cl : List (Str × Addr)) : TE := fun σ H Q =>
  Tabs T H ∧ ∀ (f c' : Addr) (H1 : Hp), ExtN H H1 → Tabs T H1 → H1 f = none → H1 c' = some (CodeO c' q) → Q (.ref f) (upd H1 f (LamO f c' q ar bd sc cl))
section
variable {X : Cx}
theorem pe_lamV {T : List (Addr × Str)} {c P : Addr} {ar : Arguments} {bd : Expr} {sc : Scope} {pos : Pos} (TB : TabB X.base X.mg c P) (hc0 : X.env.code = .ref c) (hm : (P, X.env.qual ++ "<lambda>") ∈ T)
    (hu : ∀ p ∈ T, p.1 = P → p.2 = X.env.qual ++ "<lambda>") (L : LamS X.env.scope sc) (hd : defaultsOf ar X.env = ([], []) := by rfl) :
    PE X (.Lambda ar bd sc pos) (tLamV T (X.env.qual ++ "<lambda>") ar bd sc (cloFrom X.env.cells sc.names [])) :=
  ⟨fun pins s σ H Q I ⟨hT, h⟩ => lam_track I TB hc0 hm hu hT hd (L.has I.ok) fun f c' H1 s1 e t n hc J => ⟨.ref f, _, J, rfl, h f c' H1 e t n hc⟩⟩
/-- a(), a name that holds a lambda of this very def -/
theorem pe_callV {W : WX} {i k : Nat} {a : Str} {ar : Arguments} {bd : Expr} {sc : Scope} {tb : XK → TE} {p1 p2 : Pos} {q0 : Str} {cl0 : List (Str × Addr)} (hq0 : X.env.qual ++ "<lambda>" = q0) (hcl0 : cloFrom X.env.cells sc.names [] = cl0) (L : LamS X.env.scope sc) (tk : Takes X W) (hr : Room (k + 1) X.A)
    (hbind : ∀ (q : Str) (cl : List (Str × Addr)) (pm cv ctv : Value), bindArgs (PySem.W.kla_fn "<lambda>" q ar bd sc cl pm cv ctv) ⟨[], []⟩ = pure [])
    (hbody : ∀ (A : Around) (out : List Env) (s : Shared) (H : Hp) (E : XK) (f c' : Addr), Room k (A.deeper (lamEnv X sc s.heap.objs.size f c')) → PE (lamCx X A out s H E sc f c') bd (tb E))
    (hN : X.N[i]? = some a) (hv : Vis X.env.scope a) (hd : (a == ("__debug__" : Str)) = false := by decide) (hcd : (a == ("__classdict__" : Str)) = false := by decide) :
    PE X (.Call (.Name a p1) [] [] p2) (fun σ H Q => ∃ f c', σ[i]? = some (some (.ref f)) ∧ H f = some (LamO f c' q0 ar bd sc cl0) ∧ H c' = some (CodeO c' q0) ∧
      ∃ E : XK, (∀ cls d H', E cls d H' → W cls d σ H') ∧ tb E σ H Q) := by
  subst hq0 hcl0
  refine ⟨fun pins s σ H Q I ⟨f, c', hs, hl, hc, E, hW, ht⟩ => wpAny_Call_Name_kw (thn ((pe_var (pos := p1) (i := i) hN hv hd hcd).run pins s σ H (fun v H1 => v = .ref f ∧ H1 = H) I ⟨.ref f, hs, rfl, rfl⟩) ?_)⟩
  rintro u s1 ⟨v, H1, I1, r1, rfl, rfl⟩
  obtain rfl : u = Value.ref f := r1
  obtain ⟨⟨pm, ctv, here⟩, _, _⟩ := I1.hok f _ hl
  obtain ⟨⟨oc, vs, t, c1, c2, c3⟩, _, _⟩ := I1.hok c' _ hc
  refine PySem.W.callWith_F0 ⟨_, _, _, _, here⟩ (wpAny_call (codeAny_mono (R := CR (L2.CX X.prog X.w) X.stack X.prog X.w H1 s1 Q E) ?_ fun r s' hq => ?_))
  · refine PySem.W.kla_callFunE hr.depth here rfl L.co L.gen rfl ⟨c', oc, vs, t, rfl, c1, c2, c3⟩ ?_
    refine wpAny_of_eq (hbind _ _ _ _ _) (wpAny_newFunctionEnv (fun y hy => (L.own y hy).2) (fun y hy => absurd hy (by simp)) (fun h₁ ns sb => ⟨I1.nolimit.fresh _ sb, ?_⟩) L.kind)
    have J := lam_start2 (E := E) (f := f) (c' := c') (tk := s1.toks + ([] : List (Str × Value)).length) I1 L I1.env0 hr.hd (Un.kept fun _ _ e => e) ns fun b o e => sb.extBut b o (Nat.ne_of_lt (Heap.lt_size e)) (Heap.get?_push_of_some _ e)
    show codeAny _ _ (.expr bd (lamEnv X sc s1.heap.objs.size f c')) _ _
    refine PySem.W.kla_codeExpr (wpAny_mono ((hbody _ _ s1 H1 E f c' (hr.deeper _)).run [] _ _ H1 Q J ht) ?_ fun _ _ y => y)
    rintro v s' ⟨u, H', J', rv, q⟩
    exact ⟨u, H', J'.os, J'.bare, J'.base, J'.hok, rv, q⟩
  · match r, hq with
    | .error e, hq => exact tk e s' (XE.of_call I1 hW hq)
    | .ok (.ret u), hq => exact I1.after hq
    | .ok .next, hq => exact hq.elim
    | .ok .brk, hq => exact hq.elim
    | .ok .cont, hq => exact hq.elim
end
end Gs

set_option maxRecDepth 100000
set_option maxHeartbeats 4000000
/-! operators of a class of the text: x + y, y + x, x += y, -x -/
namespace Gs
open PySem PySem.Spec PyProof.Rows L2 PySem.Calls PySem.W
/-- the types that may stand beside an own value, and whether they have number slots of their own -/
structure OpT (K : PySem.W.Frag) (C : Addr) (nm : String) (T : String) (left : Bool) : Prop where
  fill : ∃ fo ro, PySem.W.findIn K (.type T) (PySem.dunder nm) = some fo ∧ PySem.W.findIn K (.type T) (dunderR nm) = some ro ∧ ((fo.isSome && !isSeqSlot fo) || (ro.isSome && !isSeqSlot ro)) = left
  sub : PySem.W.subIn K (.type T) (.ref C) = some false
  sup : PySem.W.subIn K (.ref C) (.type T) = some false
structure OpF (K : PySem.W.Frag) (C : Addr) (nm : String) (f g : Addr) : Prop where
  first : PySem.W.selfFirst K C = true
  l : PySem.W.findIn K (.ref C) (PySem.dunder nm) = some (some (.ref f))
  r : PySem.W.findIn K (.ref C) (dunderR nm) = some (some (.ref g))
  lf : PySem.W.isFn K (.ref f) = true
  rf : PySem.W.isFn K (.ref g) = true
section
variable {prog : Program} {w : World} {A : Around} {E : Value → Shared → Prop} {s : Shared} {K : PySem.W.Frag} {x C f g : Addr} {ox : Obj} {od : Option Obj} {nm T : String} {a b tb : Value} {left : Bool} {Q : Value → Shared → Prop}
theorem ne_ref_type : (Value.ref C == Value.type T) = false := Bool.eq_false_iff.mpr fun q => by cases beq_iff_eq.mp q
theorem ne_type_ref : (Value.type T == Value.ref C) = false := Bool.eq_false_iff.mpr fun q => by cases beq_iff_eq.mp q
theorem bin1_same (X : K.In s.heap) (I : PySem.W.InstAt s.heap x ox C od) (F : OpF K C nm f g) (hb : Looks (model prog w) s.heap (typeOf b) (.ref C))
    (h : wpAny (model prog w) A (call (.ref f) [.ref x, b]) (PySem.W.CmpBack Q) E s) : wpAny (model prog w) A (binaryOp1 nm (.ref x) b) (fun r s' => ∃ v, r = some v ∧ Q v s') E s := by
  obtain ⟨cd, rest, hcd, hm⟩ := PySem.W.ksp_first F.first
  have one := PySem.W.ksp_try X I F.l F.lf h
  obtain ⟨hh, gg, d, tt, os⟩ := s
  have L1 : Looks (model prog w) hh (typeOf (.ref x)) (.ref C) := I.type
  have L2 : Looks (model prog w) hh (typeOf b) (.ref C) := hb
  have L3 : Looks (model prog w) hh (fillsNumberSlot (.ref C) nm) true := PySem.W.fills_K X hcd hm F.l
  have e : (Value.ref C == Value.ref C) = true := beq_self_eq_true _
  unfold binaryOp1
  refine wpAny_bind (L1.at (wpAny_bind (L2.at (wpAny_bind (L3.at ?_)))))
  simp only [e, if_true]
  ksp_lk
  refine wpAny_mono one (fun r s' hr' => ?_) fun _ _ e => e
  obtain ⟨v, rfl, hq⟩ := hr'
  ksp_lk
  exact ⟨v, rfl, hq⟩
theorem bin1_left (X : K.In s.heap) (I : PySem.W.InstAt s.heap x ox C od) (F : OpF K C nm f g) (hb : Looks (model prog w) s.heap (typeOf b) (.type T)) (t : OpT K C nm T left)
    (h : wpAny (model prog w) A (call (.ref f) [.ref x, b]) (PySem.W.CmpBack Q) E s) : wpAny (model prog w) A (binaryOp1 nm (.ref x) b) (fun r s' => ∃ v, r = some v ∧ Q v s') E s := by
  obtain ⟨cd, rest, hcd, hm⟩ := PySem.W.ksp_first F.first
  obtain ⟨fo, ro, h1, h2, e⟩ := t.fill
  have one := PySem.W.ksp_try X I F.l F.lf h
  obtain ⟨hh, gg, d, tt, os⟩ := s
  have L1 : Looks (model prog w) hh (typeOf (.ref x)) (.ref C) := I.type
  have L2 : Looks (model prog w) hh (typeOf b) (.type T) := hb
  have L3 : Looks (model prog w) hh (fillsNumberSlot (.ref C) nm) true := PySem.W.fills_K X hcd hm F.l
  have L4 : Looks (model prog w) hh (fillsNumberSlot (.type T) nm) left := e ▸ PySem.W.ksp_fillsT X h1 h2
  have L5 : Looks (model prog w) hh (isSubtype (.type T) (.ref C)) false := PySem.W.looks_subIn X t.sub
  have L6 : Looks (model prog w) hh (numberSlotInPython (.ref C) nm) true := PySem.W.ksp_inPy X F.l F.r (.inr ⟨_, rfl⟩)
  have L7 : Looks (model prog w) hh (numberSlotInPython (.type T) nm) false := Looks.of_pure rfl
  have L8 : Looks (model prog w) hh (typeLookup (.type T) (dunderR nm)) ro := PySem.W.looks_findIn X h2
  unfold binaryOp1
  refine wpAny_bind (L1.at (wpAny_bind (L2.at (wpAny_bind (L3.at ?_)))))
  simp only [ne_ref_type, Bool.false_eq_true, if_false]
  cases left with
  | false =>
    ksp_lk
    refine wpAny_mono one (fun r s' hr' => ?_) fun _ _ e => e
    obtain ⟨v, rfl, hq⟩ := hr'
    ksp_lk
    exact ⟨v, rfl, hq⟩
  | true =>
    ksp_lk
    refine wpAny_mono one (fun r s' hr' => ?_) fun _ _ e => e
    obtain ⟨v, rfl, hq⟩ := hr'
    ksp_lk
    exact ⟨v, rfl, hq⟩
theorem bin1_right0 (X : K.In s.heap) (I : PySem.W.InstAt s.heap x ox C od) (F : OpF K C nm f g) (ha : Looks (model prog w) s.heap (typeOf a) (.type T)) (t : OpT K C nm T false)
    (h : wpAny (model prog w) A (call (.ref g) [.ref x, a]) (PySem.W.CmpBack Q) E s) : wpAny (model prog w) A (binaryOp1 nm a (.ref x)) (fun r s' => ∃ v, r = some v ∧ Q v s') E s := by
  obtain ⟨cd, rest, hcd, hm⟩ := PySem.W.ksp_first F.first
  obtain ⟨fo, ro, h1, h2, e⟩ := t.fill
  have one := PySem.W.ksp_try X I F.r F.rf h
  obtain ⟨hh, gg, d, tt, os⟩ := s
  have L1 : Looks (model prog w) hh (typeOf (.ref x)) (.ref C) := I.type
  have L2 : Looks (model prog w) hh (typeOf a) (.type T) := ha
  have L3 : Looks (model prog w) hh (fillsNumberSlot (.ref C) nm) true := PySem.W.fills_K X hcd hm F.l
  have L4 : Looks (model prog w) hh (fillsNumberSlot (.type T) nm) false := e ▸ PySem.W.ksp_fillsT X h1 h2
  unfold binaryOp1
  refine wpAny_bind (L2.at (wpAny_bind (L1.at (wpAny_bind (L4.at ?_)))))
  simp only [ne_type_ref, Bool.false_eq_true, if_false]
  ksp_lk
  refine wpAny_mono one (fun r s' hr' => ?_) fun _ _ e => e
  obtain ⟨v, rfl, hq⟩ := hr'
  ksp_lk
  exact ⟨v, rfl, hq⟩
theorem bin1_right1 (X : K.In s.heap) (I : PySem.W.InstAt s.heap x ox C od) (F : OpF K C nm f g) (ha : Looks (model prog w) s.heap (typeOf a) (.type T)) (t : OpT K C nm T true)
    (hd : ∀ Q' : Option Value → Shared → Prop, (∀ tk, Q' none { s with toks := tk }) → wpAny (model prog w) A (tryMethod a (PySem.dunder nm) (.ref x)) Q' E s)
    (h : ∀ tk, wpAny (model prog w) A (call (.ref g) [.ref x, a]) (PySem.W.CmpBack Q) E { s with toks := tk }) : wpAny (model prog w) A (binaryOp1 nm a (.ref x)) (fun r s' => ∃ v, r = some v ∧ Q v s') E s := by
  obtain ⟨cd, rest, hcd, hm⟩ := PySem.W.ksp_first F.first
  obtain ⟨fo, ro, h1, h2, e⟩ := t.fill
  have one := fun tk => PySem.W.ksp_try (s := { s with toks := tk }) X I F.r F.rf (h tk)
  obtain ⟨hh, gg, d, tt, os⟩ := s
  have L1 : Looks (model prog w) hh (typeOf (.ref x)) (.ref C) := I.type
  have L2 : Looks (model prog w) hh (typeOf a) (.type T) := ha
  have L3 : Looks (model prog w) hh (fillsNumberSlot (.ref C) nm) true := PySem.W.fills_K X hcd hm F.l
  have L4 : Looks (model prog w) hh (fillsNumberSlot (.type T) nm) true := e ▸ PySem.W.ksp_fillsT X h1 h2
  have L5 : Looks (model prog w) hh (isSubtype (.ref C) (.type T)) false := PySem.W.looks_subIn X t.sup
  have L6 : Looks (model prog w) hh (numberSlotInPython (.type T) nm) false := Looks.of_pure rfl
  unfold binaryOp1
  refine wpAny_bind (L2.at (wpAny_bind (L1.at (wpAny_bind (L4.at ?_)))))
  simp only [ne_type_ref, Bool.false_eq_true, if_false]
  ksp_lk
  refine hd _ fun tk => ?_
  ksp_lk
  refine wpAny_mono (one tk) (fun r s' hr' => ?_) fun _ _ e => e
  obtain ⟨v, rfl, hq⟩ := hr'
  ksp_lk
  exact ⟨v, rfl, hq⟩
end
end Gs

set_option maxRecDepth 100000
set_option maxHeartbeats 4000000
/-! what is kept where lambdas are made; defs that make lambdas; what is heard of a BadRatio -/
namespace Gs
open PySem PySem.Spec PyProof.Rows L2 LamX
section
variable {K : PySem.W.Frag} {C : Addr} {H H' : Hp} {T : List (Addr × Str)}
theorem ExtN.rd {a : Addr} {u : HO} (e : ExtN H H') (n : ∀ ps, u ≠ .tbl ps) (r : Rd H a u) : Rd H' a u :=
  r.elim (fun h => .inl (e _ _ h n)) fun ⟨o, h⟩ => .inr ⟨o, e _ _ h fun _ z => by cases z⟩
theorem ExtN.sl {a : Addr} {xs : List V} (e : ExtN H H') (h : SqL K H a xs) : SqL K H' a xs := h.elim (fun r => .inl (ExtN.rd e (fun _ z => by cases z) r)) .inr
theorem ExtN.st {a : Addr} {xs : List V} (e : ExtN H H') (h : SqT K H a xs) : SqT K H' a xs := h.elim (fun r => .inl (ExtN.rd e (fun _ z => by cases z) r)) .inr
theorem ExtN.lst {a : Addr} {xs : List V} (e : ExtN H H') (h : H a = some (.lst xs)) : H' a = some (.lst xs) := e _ _ h fun _ z => by cases z
theorem ExtN.tup {a : Addr} {xs : List V} (e : ExtN H H') (h : H a = some (.tup xs)) : H' a = some (.tup xs) := e _ _ h fun _ z => by cases z
theorem ExtN.ofE (e : Ext H H') : ExtN H H' := fun b o h _ => e b o h
theorem dp_extN (e : ExtN H H') : ∀ {v : V} {d : PyData}, Dp K H v d → Dp K H' v d := by
  intro v d h
  induction h using Dp.rec (motive_2 := fun vs ds _ => DpAll K H' vs ds) with
  | non => exact .non
  | bl b => exact .bl b
  | int i => exact .int i
  | str x => exact .str x
  | lst h _ ih => exact .lst (ExtN.sl e h) ih
  | tup h _ ih => exact .tup (ExtN.st e h) ih
  | nil => exact .nil
  | cons _ _ a b => exact .cons a b
theorem Shw.extN {v : V} {d : PyData} (h : Shw K H v d) (e : ExtN H H') : Shw K H' v d := by
  cases h with
  | data h => exact .data (dp_extN e h)
  | dict h p => exact .dict (e _ _ h fun _ z => by cases z) p
theorem Pen.extN {p c : Addr} {n : Nat} (h : Pen H p c n) (e : ExtN H H') : Pen H' p c n := by
  obtain ⟨ns, a, b, h1, h2, h3⟩ := h.ex
  exact ⟨ns, a, b, ExtN.lst e h1, ExtN.lst e h2, h3⟩
theorem Rat.extN {a : Addr} {n d : Int} (h : Gs.Rat C H a n d) (e : ExtN H H') : Gs.Rat C H' a n d :=
  let ⟨dx, q⟩ := h
  ⟨dx, e _ _ q fun _ z => by cases z⟩
theorem AnyV.extN {v : V} (h : AnyV K C H v) (e : ExtN H H') : AnyV K C H' v := by
  cases h with
  | non => exact .non
  | bl b => exact .bl b
  | int i => exact .int i
  | str x => exact .str x
  | lst h => exact .lst (ExtN.lst e h)
  | tup h => exact .tup (ExtN.tup e h)
  | dK h => exact .dK (e _ _ h fun _ z => by cases z)
  | rat h => exact .rat (Rat.extN h e)
  | oth h t ty no nr ni nl => exact .oth (e _ _ h nl.2.2) t ty no nr ni nl
theorem AnyV.vratN {v : V} (h : AnyV K C H v) (e : ExtN H H') : vRat C H' v = vRat C H v := by
  have same : ∀ {a : Addr} {u : HO}, H a = some u → (∀ ps, u ≠ .tbl ps) → vRat C H' (.ref a) = vRat C H (.ref a) := fun {a u} q n => by
    rw [vRat_ref, vRat_ref, q, e _ _ q n]
  cases h with
  | non => rfl
  | bl b => rfl
  | int i => rfl
  | str x => rfl
  | lst h => exact same h fun _ z => by cases z
  | tup h => exact same h fun _ z => by cases z
  | dK h => exact same h fun _ z => by cases z
  | rat h => exact same h.choose_spec fun _ z => by cases z
  | oth h t ty no nr ni nl => exact same h nl.2.2
theorem tabs_ext (t : Tabs T H) (e : Ext H H') : Tabs T H' := t.ext e
theorem tabs_but {p : Addr} (t : Tabs T H) (b : But p H H') (hp : ∀ ps, H p ≠ some (.tbl ps)) (hq : ∀ q, H p ≠ some (CodeO p q)) : Tabs T H' := fun x hx => by
  obtain ⟨ps, h1, h2, h3⟩ := t x hx
  refine ⟨ps, b _ _ h1 fun z => hp ps (by rw [← z]; exact h1), h2, fun pos cv hc => ?_⟩
  obtain ⟨c, e1, e2⟩ := h3 pos cv hc
  exact ⟨c, e1, b _ _ e2 fun z => hq _ (by rw [← z]; exact e2)⟩
theorem tabs_pen {p c : Addr} {n : Nat} (t : Tabs T H) (P : Pen H p c n) (b : But p H H') : Tabs T H' := by
  obtain ⟨ns, a, g, h1, h2, h3⟩ := P.ex
  refine tabs_but t b (fun ps z => ?_) fun q z => ?_
  · rw [h1] at z
    cases z
  · rw [h1] at z
    unfold CodeO at z
    cases z
end

/-! ### defs that make lambdas -/
section
variable {P : Program} {w : World} {K : PySem.W.Frag} {mg : Str → Option Value} {base : Heap} {x : Str} {st : Stmt} {N ps : List Str} {k : Nat} {sp : Sp}
theorem fnG_ofC {CX : CXT} {f : Addr} {fd : FuncData} {qual : Str} {params : Arguments} {body : List Stmt} {scope : Scope} {dvs : List V} {kws : List (Str × V)}
    (F : FunD K x qual params body scope dvs kws f fd) (S : FnScope N ps scope) (ln : ∀ vs H Q E, sp vs H Q E → vs.length = ps.length)
    (bd : ∀ (cdv : Value) (A : Around) (out : List Env) (s : Shared) (H : Hp) (vs : List V) (Q : VK) (E : XK), fd.code = cdv → (A.deeper (envOfC qual scope s.heap.objs.size f cdv)).guards = some [] →
      Room k (A.deeper (envOfC qual scope s.heap.objs.size f cdv)) → sp vs H Q E →
      ∃ t, PSs (cxOf CX P w K mg base N qual scope f cdv A out s H E) body t ∧ t { nx := fun _ H' => Q .non H', rt := Q } (start N vs) H) : FnG P w K mg base CX (k + 1) f fd ps sp := by
  obtain ⟨oc, od, dV, kV, doc, pm, an, cdv, ct, osl, rfl, lk, hcd, _, _⟩ := F.ex
  refine ⟨ln, fun A out s H as us vs Q E hg hr e0 hb rv hsp => ?_⟩
  have hz := ln _ _ _ _ hsp
  have KX : K.In s.heap := e0.mod.kin.keeps fun b o e => (e0.bs b o e).1
  have nl : s.heap.NoLimit := e0.mod.nolimit.keeps fun b o e => (e0.bs b o e).1
  have par : ∀ y ∈ ps.zip us, scope.names.lookup y.1 = some .local ∨ (scope.names.lookup y.1 = some .cell ∧ ((cellsFrom (s.heap.objs.size + 1) scope.names []).lookup y.1).isSome = true) := by
    rintro ⟨n, v⟩ hy
    cases S.par n (List.of_mem_zip hy).1 with
    | inl q => exact .inl q
    | inr q => exact .inr ⟨q, PySem.W.cellsFrom_some _ _ _ (.inl q)⟩
  refine codeAny_call_function hr.depth (KX _ _ lk) rfl S.co S.gen rfl (PySem.W.codeRec_of KX hcd) (hb _ _ _ _ (wpAny_newFunctionEnv_cells S.kind par ?_))
  rintro env rfl s1 ic
  refine ⟨nl.keeps ic.toInCall.keep, codeAny_func ?_⟩
  obtain ⟨t, ht, hq⟩ := bd cdv A out s H vs Q E rfl hg (hr.deeper _) hsp
  refine wpAny_mono (ht.run [] s1 (start N vs) H _ (inv_start S hr.hd e0 hz rv ic) hq) ?_ fun e s' hs => hs
  intro fl s' hs
  match fl, hs with
  | .ret u, ⟨v, σ', H', J, r2, q⟩ => exact ⟨v, H', J.os, J.bare, J.base, J.hok, r2, q⟩
  | .next, ⟨σ', H', J, q⟩ => exact ⟨V.non, H', J.os, J.bare, J.base, J.hok, rfl, q⟩
  | .brk, ⟨_, _, _, q⟩ => exact q.elim
  | .cont, ⟨_, _, _, q⟩ => exact q.elim
theorem At.okT (a : At K mg x st) (hga : mg x = some (.ref (He.ga K x))) (S : FnScope N ps (defScope st)) (bnd : ∀ f fd, FunD K x x (defArgs st) (defBody st) (defScope st) [] [] f fd → Binds K fd ps []) (ln : ∀ vs H Q E, sp vs H Q E → vs.length = ps.length)
    (bd : ∀ (f : Addr) (A : Around) (out : List Env) (s : Shared) (H : Hp) (vs : List V) (Q : VK) (E : XK), (A.deeper (envOfC x (defScope st) s.heap.objs.size f (.ref (He.cT K (x, none)).1))).guards = some [] →
      Room k (A.deeper (envOfC x (defScope st) s.heap.objs.size f (.ref (He.cT K (x, none)).1))) → sp vs H Q E →
      ∃ t, PSs (cxOf CX0 P w K mg base N x (defScope st) f (.ref (He.cT K (x, none)).1) A out s H E).nox (defBody st) t ∧ t { nx := fun _ H' => Q .non H', rt := Q } (start N vs) H) : DefG P w K mg base CX0 (k + 1) x ps [] sp := by
  obtain ⟨f, fd, F, hm⟩ := a.ex
  obtain ⟨oc, od, dV, kV, doc, pm, an, cdv, ct, osl, e0, l1, hcd, _⟩ := id F.ex
  have ef : He.ga K x = f := by
    rw [hga] at hm
    cases hm
    rfl
  obtain ⟨c, rfl⟩ := He.codeIn_ref hcd
  have ec : (He.cT K (x, none)).1 = c := He.codeOf_eq (p := (x, none)) (fd := fd) (by show K.lookup (He.ga K x) = _; rw [ef]; exact l1) (by rw [e0] <;> rfl)
  have ok : FnG P w K mg base CX0 (k + 1) f fd ps sp := fnG_ofC F S ln fun cdv A out s H vs Q E hc hg hr h => by
    have : cdv = .ref (He.cT K (x, none)).1 := by
      rw [← hc, ec, e0] <;> rfl
    subst this
    obtain ⟨t, h1, h2⟩ := bd f A out s H vs Q E hg hr h
    exact ⟨t, h1.nox, h2⟩
  refine ⟨⟨f, fd, [], ok, hm, F.kp, bnd f fd F, .nil⟩, fun f2 fd2 e2 ⟨oc, od, osl, l2⟩ => ?_⟩
  rw [hm] at e2
  cases e2
  rw [l1] at l2
  cases l2
  exact ⟨ok, F.kp⟩
end
theorem takesLam {X : Cx} {A : Around} {out : List Env} {s : Shared} {H : Hp} {E : XK} {sc : Scope} {f c' : Addr} : Takes (lamCx X A out s H E sc f c') (fun cls d _ H => E cls d H) := takes_of rfl rfl rfl rfl

/-! ### what is heard -/
/-- a BadRatio of v, heard as ("ratio", repr(v)) -/
def HBad (K : PySem.W.Frag) (CB : Addr) (Q : VK) : XK := fun cls d H' => cls = .ref CB ∧ ∃ dd v D, d = some dd ∧ H' dd = some (.xd [("value", v)]) ∧ Shw K H' v D ∧ Fine D ∧ ∀ q H'', Ext H' H'' → H'' q = some (.tup [.str "ratio", .str D.shown]) → Q (.ref q) H''
theorem badV_heard {K : PySem.W.Frag} {CB : Addr} {H : Hp} {v : V} {D : PyData} {Q : VK} (sh : Shw K H v D) (fine : Fine D) (k : ∀ q H', Ext H H' → H' q = some (.tup [.str "ratio", .str D.shown]) → Q (.ref q) H') : BadV CB H (HBad K CB Q) v :=
  fun d H' e n h => ⟨rfl, d, v, D, rfl, h, sh.ext e, fine, fun q H'' e' hq => k q H'' (e.trans e') hq⟩
/-- Ratio(x, y) that is refused -/
theorem mk_bad {K : PySem.W.Frag} {C CB : Addr} {H : Hp} {x y : V} {Q : VK} {E : XK} (F : RatF K C) (ox : AnyV K C H x) (oy : AnyV K C H y)
    (h : (isI x = false ∧ BadV CB H E x) ∨ (isI x = true ∧ (isI y = false ∨ y = .int 0) ∧ BadV CB H E y)) :
    ∀ a dx, H a = none → H dx = none → dx ≠ a → spInit K C CB (.ref a :: ([x, y] ++ [])) (upd (upd H dx (.own a)) a (.ins C dx [])) Q E := by
  intro a dx na nd ne
  have nx' : upd H dx (.own a) a = none := by
    rw [upd_ne (Ne.symm ne)]
    exact na
  have e1 := (ext_new (o := .own a) nd).new (o := .ins C dx []) nx'
  refine ⟨a, dx, x, y, rfl, upd_same, ((ox.ext e1).odd F).1, ((oy.ext e1).odd F).1, fun z => ?_, fun z1 z2 => ?_, fun i j ei ej hj => ?_⟩
  · rcases h with ⟨_, h⟩ | ⟨h, _⟩
    · exact h.up e1
    · rw [h] at z
      cases z
  · rcases h with ⟨h, _⟩ | ⟨_, _, h⟩
    · rw [h] at z1
      cases z1
    · exact h.up e1
  · subst ei ej
    rcases h with ⟨h, _⟩ | ⟨_, h | h, _⟩
    · cases h
    · cases h
    · exact absurd (V.int.inj h) hj

/-! ### all but one object -/
def dl (H : Hp) (p : Addr) : Hp := fun b => if b = p then none else H b
section
variable {K : PySem.W.Frag} {C : Addr} {H H' : Hp} {p : Addr}
theorem dl_ne {q : Addr} (n : q ≠ p) : dl H p q = H q := if_neg n
theorem dl_at {q : Addr} {o : HO} (h : H q = some o) (n : q ≠ p) : dl H p q = some o := (dl_ne n).trans h
theorem dl_in (H : Hp) (p : Addr) : Ext (dl H p) H := fun b o e => by
  by_cases h : b = p
  · rw [dl, if_pos h] at e
    cases e
  · rw [dl, if_neg h] at e
    exact e
theorem dl_some {b : Addr} {o : HO} (e : dl H p b = some o) : b ≠ p ∧ H b = some o :=
  ⟨fun h => (by
    rw [dl, if_pos h] at e
    cases e), dl_in H p _ _ e⟩
theorem dl_but (b : But p H H') : Ext (dl H p) (dl H' p) := fun a o e => let ⟨n, h⟩ := dl_some e; dl_at (b a o h n) n
theorem dl_ext (e : Ext H H') : Ext (dl H p) (dl H' p) := fun a o h => let ⟨n, z⟩ := dl_some h; dl_at (e a o z) n
theorem dl_extN (e : ExtN H H') : ExtN (dl H p) (dl H' p) := fun a o h m => let ⟨n, z⟩ := dl_some h; dl_at (e a o z m) n
/-- a value whose text is told -/
structure KnO (K : PySem.W.Frag) (C : Addr) (H : Hp) (v : V) (D : PyData) : Prop where
  any : AnyV K C H v
  sh : Shw K H v D
  fine : Fine D
  lay : PyData.strOk D.shown = true
theorem KnO.ext {v : V} {D : PyData} (k : KnO K C H v D) (e : Ext H H') : KnO K C H' v D := ⟨k.any.ext e, k.sh.ext e, k.fine, k.lay⟩
theorem KnO.extN {v : V} {D : PyData} (k : KnO K C H v D) (e : ExtN H H') : KnO K C H' v D := ⟨AnyV.extN k.any e, Shw.extN k.sh e, k.fine, k.lay⟩
/-- .. that is no number -/
structure KnB (K : PySem.W.Frag) (C : Addr) (H : Hp) (v : V) (D : PyData) : Prop where
  o : KnO K C H v D
  nr : vRat C H v = false
  ni : isI v = false
theorem KnB.ext {v : V} {D : PyData} (k : KnB K C H v D) (e : Ext H H') : KnB K C H' v D := ⟨k.o.ext e, by rw [k.o.any.vrat e]; exact k.nr, k.ni⟩
theorem KnB.extN {v : V} {D : PyData} (k : KnB K C H v D) (e : ExtN H H') : KnB K C H' v D := ⟨k.o.extN e, by rw [AnyV.vratN k.o.any e]; exact k.nr, k.ni⟩
end

/-! ### a list of what is heard -/
def hdD (d : PyData) : PyData := .tuple [.str "ratio", .str d.shown]
def IsHd (H : Hp) (v : V) (d : PyData) : Prop := ∃ q, v = .ref q ∧ H q = some (.tup [.str "ratio", .str d.shown])
theorem isHd_dp {K : PySem.W.Frag} {H : Hp} {v : V} {d : PyData} (h : IsHd H v d) : Dp K H v (hdD d) := by
  obtain ⟨q, rfl, h⟩ := h
  exact .tup (.inl (.inl h)) (.cons (.str _) (.cons (.str _) .nil))
theorem isHds_dp {K : PySem.W.Frag} {H : Hp} {vs : List V} {ds : List PyData} (h : Paired (IsHd H) vs ds) : DpAll K H vs (ds.map hdD) := by
  induction h with
  | nil => exact .nil
  | cons a _ ih => exact .cons (isHd_dp a) ih
theorem shaped_hd {ds : List PyData} (h : ∀ d ∈ ds, PyData.strOk d.shown = true) : SeqAt.shaped (.list (ds.map hdD)) = true := by
  have one : ∀ d : PyData, PyData.strOk d.shown = true → (hdD d).canLay0 = true ∧ (hdD d).depth = 1 := fun d z => by
    constructor
    · simp [hdD, PyData.canLay0, PyData.canLayAll0, z]
      decide +kernel
    · simp [hdD, PyData.depth, PyData.depthAll]
  have all : PyData.canLayAll0 (ds.map hdD) = true ∧ PyData.depthAll (ds.map hdD) ≤ 1 := by
    induction ds with
    | nil => exact ⟨by simp [PyData.canLayAll0], by simp [PyData.depthAll]⟩
    | cons d ds ih =>
      obtain ⟨a, b⟩ := ih fun x hx => h x (List.mem_cons_of_mem _ hx)
      obtain ⟨c, e⟩ := one d (h d List.mem_cons_self)
      constructor
      · simp [PyData.canLayAll0, c, a]
      · simp only [List.map_cons, PyData.depthAll, e]
        omega
  simp [SeqAt.shaped, PyData.canLay0, PyData.depth, all.1]
  omega
/-- the list at l, laid over G, holds what was heard so far -/
structure Hrd (T : List (Addr × Str)) (G H : Hp) (l : Addr) (ds : List PyData) : Prop where
  en : ExtN G H
  n0 : G l = none
  tb : Tabs T H
  at_ : ∃ rs, H l = some (.lst rs) ∧ Paired (IsHd H) rs ds
section
variable {T : List (Addr × Str)} {G H H' : Hp} {l : Addr} {ds : List PyData}
theorem IsHd.extN {v : V} {d : PyData} (h : IsHd H v d) (e : ExtN H H') : IsHd H' v d :=
  let ⟨q, a, b⟩ := h
  ⟨q, a, ExtN.tup e b⟩
theorem Hrd.first {q : Addr} {d : PyData} (tb : Tabs T G) (hq : G q = some (.tup [.str "ratio", .str d.shown])) (n : G l = none) : Hrd T G (upd G l (.lst [.ref q])) l [d] :=
  ⟨ExtN.ofE (ext_new n), n, tb.ext (ext_new n), _, upd_same, .cons ⟨q, rfl, ext_new n _ _ hq⟩ .nil⟩
theorem Hrd.extN (h : Hrd T G H l ds) (e : ExtN H H') (t : Tabs T H') : Hrd T G H' l ds := by
  obtain ⟨rs, h1, h2⟩ := h.at_
  exact ⟨h.en.trans e, h.n0, t, rs, ExtN.lst e h1, L2.Paired.mapP h2 fun _ _ z => z.extN e⟩
theorem Hrd.ext (h : Hrd T G H l ds) (e : Ext H H') : Hrd T G H' l ds := h.extN (ExtN.ofE e) (h.tb.ext e)
theorem Hrd.add {q : Addr} {d : PyData} {rs : List V} (h : Hrd T G H l ds) (hl : H l = some (.lst rs)) (hq : H q = some (.tup [.str "ratio", .str d.shown])) : Hrd T G (upd H l (.lst (rs ++ [.ref q]))) l (ds ++ [d]) := by
  obtain ⟨rs', h1, h2⟩ := h.at_
  rw [hl] at h1
  cases h1
  have keep : ∀ {q : Addr} {xs : List V}, H q = some (.tup xs) → upd H l (.lst (rs ++ [.ref q])) q = some (.tup xs) := fun {q xs} z => by
    rw [upd_ne (ne_of z hl (by simp))]
    exact z
  have keep' : ∀ {q' : Addr} {xs : List V}, H q' = some (.tup xs) → upd H l (.lst (rs ++ [.ref q])) q' = some (.tup xs) := fun {q' xs} z => by
    rw [upd_ne (ne_of z hl (by simp))]
    exact z
  have app : ∀ {a : List V} {b : List PyData}, Paired (IsHd (upd H l (.lst (rs ++ [.ref q])))) a b → Paired (IsHd (upd H l (.lst (rs ++ [.ref q])))) (a ++ [.ref q]) (b ++ [d]) := fun {a b} z => by
    induction z with
    | nil => exact .cons ⟨q, rfl, keep' hq⟩ .nil
    | cons y _ ih => exact .cons y ih
  refine ⟨fun b o e n => ?_, h.n0, ?_, _, upd_same, app (L2.Paired.mapP h2 fun _ _ ⟨q', a, b⟩ => ⟨q', a, keep' b⟩)⟩
  · rw [upd_ne (ne_of_none e h.n0)]
    exact h.en _ _ e n
  · refine tabs_but (p := l) h.tb (fun b o e n => by rw [upd_ne n]; exact e) (fun ps z => ?_) fun q' z => ?_
    · rw [hl] at z
      cases z
    · rw [hl] at z
      unfold CodeO at z
      cases z
theorem Hrd.dp {K : PySem.W.Frag} (h : Hrd T G H l ds) : Dp K H (.ref l) (.list (ds.map hdD)) := by
  obtain ⟨rs, h1, h2⟩ := h.at_
  exact .lst (SqL.of h1) (isHds_dp h2)
end
end Gs

set_option maxRecDepth 100000
set_option maxHeartbeats 4000000
/-! operators of a class of the text, over tracked values -/
namespace Gs
open PySem PySem.Spec PyProof.Rows L2 PySem.Calls PySem.W
open AutoSeq1 (wpAny_loadPart')
/-- an int's slot, asked with an instance on its right, declines -/
theorem intBinary_no {M : Model} {A : Around} {E : Value → Shared → Prop} {s : Shared} {x C dx : Addr} {v : Value} {name : String} {f : Int → Int → Sem Fin} {refl : Bool} {R : Fin → Shared → Prop}
    (hv : (∃ i t, v = .int i t) ∨ ∃ b, v = .bool b) (hx : s.heap.get? x = some (PySem.W.instObj C dx)) (h : ∀ tk, R (.done (.ret .notImplemented)) { s with toks := tk }) :
    wpAny M A (Builtin.Int.intBinary name f refl ⟨[v, .ref x], []⟩) R E s := by
  obtain ⟨hp, g, d, tk, os⟩ := s
  rcases hv with ⟨i, t, rfl⟩ | ⟨b, rfl⟩
  · unfold Builtin.Int.intBinary slotArgs Builtin.Int.intOfSelf asInt?
    wp_walk using wpAny_loadPart' hx
    exact h tk
  · unfold Builtin.Int.intBinary slotArgs Builtin.Int.intOfSelf asInt?
    wp_walk using wpAny_loadPart' hx
    exact h tk
theorem pylong_no {M : Model} {A : Around} {E : Value → Shared → Prop} {s : Shared} {x C dx : Addr} {v : Value} {R : Unit → Shared → Prop}
    (hv : (∃ i t, v = .int i t) ∨ ∃ b, v = .bool b) (hx : s.heap.get? x = some (PySem.W.instObj C dx)) (h : R () s) : wpAny M A (Builtin.exactOperandsForPylong false ⟨[v, .ref x], []⟩) R E s := by
  obtain ⟨hp, g, d, tk, os⟩ := s
  rcases hv with ⟨i, t, rfl⟩ | ⟨b, rfl⟩
  · unfold Builtin.exactOperandsForPylong asInt?
    wp_walk using wpAny_loadPart' hx
    exact h
  · unfold Builtin.exactOperandsForPylong asInt?
    wp_walk using wpAny_loadPart' hx
    exact h
/-- a number of the language, asked with an instance on its right, declines -/
def Declines (nm : String) : Prop := ∀ (prog : Program) (w : World) (A : Around) (E : Value → Shared → Prop) (s : Shared) (x C dx : Addr) (v : Value) (Q : Option Value → Shared → Prop),
  ((∃ i t, v = .int i t) ∨ ∃ b, v = .bool b) → s.heap.get? x = some (PySem.W.instObj C dx) → (∀ tk, Q none { s with toks := tk }) → wpAny (model prog w) A (tryMethod v (PySem.dunder nm) (.ref x)) Q E s
theorem declines_add : Declines "add" := by
  intro prog w A E s x C dx v Q hv hx h
  rcases hv with ⟨i, t, rfl⟩ | ⟨b, rfl⟩
  · have h1 : s.TypeIs (.int i t) "int" := typeIs_int s i t
    have h2 : Slot "int" (PySem.dunder "add") "int.__add__" := PySem.F.slot_int_add
    have h3 : entryFor table "int.__add__" = some Builtin.«int.__add__» := PySem.F.entry_int_add
    have h4 : argsOk "int.__add__" ⟨[.int i t, .ref x], []⟩ := PySem.F.args_int_add_2 _ _
    have h5 : wpAny (model prog w) A.in1 (Builtin.«int.__add__» ⟨[.int i t, .ref x], []⟩) (GQ.FinOf prog w A (wants (fun v s' => v = .notImplemented ∧ Q none s') E)) (fun e s' => wants (fun v s' => v = .notImplemented ∧ Q none s') E (.error e) s') s := intBinary_no (.inl ⟨i, t, rfl⟩) hx fun tk => ⟨rfl, h tk⟩
    have h6 := @GQ.call_here prog w A E s "int" (PySem.dunder "add") "int.__add__" Builtin.«int.__add__» (.int i t) [.ref x] (fun v s' => v = .notImplemented ∧ Q none s') h2 h1 h3 h4 h5
    exact @wpAny_tryMethod_declines (model prog w) A E s (.int i t) (.ref x) "int" (PySem.dunder "add") "int.__add__" Q h1 h2 h6
  · have h1 : s.TypeIs (.bool b) "bool" := PyProof.Rows.typeIs_bool s b
    have h2 : Slot "bool" (PySem.dunder "add") "int.__add__" := PySem.F.slot_bool_add
    have h3 : entryFor table "int.__add__" = some Builtin.«int.__add__» := PySem.F.entry_int_add
    have h4 : argsOk "int.__add__" ⟨[.bool b, .ref x], []⟩ := PySem.F.args_int_add_2 _ _
    have h5 : wpAny (model prog w) A.in1 (Builtin.«int.__add__» ⟨[.bool b, .ref x], []⟩) (GQ.FinOf prog w A (wants (fun v s' => v = .notImplemented ∧ Q none s') E)) (fun e s' => wants (fun v s' => v = .notImplemented ∧ Q none s') E (.error e) s') s := intBinary_no (.inr ⟨b, rfl⟩) hx fun tk => ⟨rfl, h tk⟩
    have h6 := @GQ.call_here prog w A E s "bool" (PySem.dunder "add") "int.__add__" Builtin.«int.__add__» (.bool b) [.ref x] (fun v s' => v = .notImplemented ∧ Q none s') h2 h1 h3 h4 h5
    exact @wpAny_tryMethod_declines (model prog w) A E s (.bool b) (.ref x) "bool" (PySem.dunder "add") "int.__add__" Q h1 h2 h6
theorem declines_sub : Declines "sub" := by
  intro prog w A E s x C dx v Q hv hx h
  rcases hv with ⟨i, t, rfl⟩ | ⟨b, rfl⟩
  · have h1 : s.TypeIs (.int i t) "int" := typeIs_int s i t
    have h2 : Slot "int" (PySem.dunder "sub") "int.__sub__" := PySem.F.slot_int_sub
    have h3 : entryFor table "int.__sub__" = some Builtin.«int.__sub__» := PySem.F.entry_int_sub
    have h4 : argsOk "int.__sub__" ⟨[.int i t, .ref x], []⟩ := PySem.F.args_int_sub_2 _ _
    have h5 : wpAny (model prog w) A.in1 (Builtin.«int.__sub__» ⟨[.int i t, .ref x], []⟩) (GQ.FinOf prog w A (wants (fun v s' => v = .notImplemented ∧ Q none s') E)) (fun e s' => wants (fun v s' => v = .notImplemented ∧ Q none s') E (.error e) s') s := intBinary_no (.inl ⟨i, t, rfl⟩) hx fun tk => ⟨rfl, h tk⟩
    have h6 := @GQ.call_here prog w A E s "int" (PySem.dunder "sub") "int.__sub__" Builtin.«int.__sub__» (.int i t) [.ref x] (fun v s' => v = .notImplemented ∧ Q none s') h2 h1 h3 h4 h5
    exact @wpAny_tryMethod_declines (model prog w) A E s (.int i t) (.ref x) "int" (PySem.dunder "sub") "int.__sub__" Q h1 h2 h6
  · have h1 : s.TypeIs (.bool b) "bool" := PyProof.Rows.typeIs_bool s b
    have h2 : Slot "bool" (PySem.dunder "sub") "int.__sub__" := PySem.F.slot_bool_sub
    have h3 : entryFor table "int.__sub__" = some Builtin.«int.__sub__» := PySem.F.entry_int_sub
    have h4 : argsOk "int.__sub__" ⟨[.bool b, .ref x], []⟩ := PySem.F.args_int_sub_2 _ _
    have h5 : wpAny (model prog w) A.in1 (Builtin.«int.__sub__» ⟨[.bool b, .ref x], []⟩) (GQ.FinOf prog w A (wants (fun v s' => v = .notImplemented ∧ Q none s') E)) (fun e s' => wants (fun v s' => v = .notImplemented ∧ Q none s') E (.error e) s') s := intBinary_no (.inr ⟨b, rfl⟩) hx fun tk => ⟨rfl, h tk⟩
    have h6 := @GQ.call_here prog w A E s "bool" (PySem.dunder "sub") "int.__sub__" Builtin.«int.__sub__» (.bool b) [.ref x] (fun v s' => v = .notImplemented ∧ Q none s') h2 h1 h3 h4 h5
    exact @wpAny_tryMethod_declines (model prog w) A E s (.bool b) (.ref x) "bool" (PySem.dunder "sub") "int.__sub__" Q h1 h2 h6
theorem declines_mul : Declines "mul" := by
  intro prog w A E s x C dx v Q hv hx h
  rcases hv with ⟨i, t, rfl⟩ | ⟨b, rfl⟩
  · have h1 : s.TypeIs (.int i t) "int" := typeIs_int s i t
    have h2 : Slot "int" (PySem.dunder "mul") "int.__mul__" := PySem.F.slot_int_mul
    have h3 : entryFor table "int.__mul__" = some Builtin.«int.__mul__» := PySem.F.entry_int_mul
    have h4 : argsOk "int.__mul__" ⟨[.int i t, .ref x], []⟩ := PySem.F.args_int_mul_2 _ _
    have h5 : wpAny (model prog w) A.in1 (Builtin.«int.__mul__» ⟨[.int i t, .ref x], []⟩) (GQ.FinOf prog w A (wants (fun v s' => v = .notImplemented ∧ Q none s') E)) (fun e s' => wants (fun v s' => v = .notImplemented ∧ Q none s') E (.error e) s') s := intBinary_no (.inl ⟨i, t, rfl⟩) hx fun tk => ⟨rfl, h tk⟩
    have h6 := @GQ.call_here prog w A E s "int" (PySem.dunder "mul") "int.__mul__" Builtin.«int.__mul__» (.int i t) [.ref x] (fun v s' => v = .notImplemented ∧ Q none s') h2 h1 h3 h4 h5
    exact @wpAny_tryMethod_declines (model prog w) A E s (.int i t) (.ref x) "int" (PySem.dunder "mul") "int.__mul__" Q h1 h2 h6
  · have h1 : s.TypeIs (.bool b) "bool" := PyProof.Rows.typeIs_bool s b
    have h2 : Slot "bool" (PySem.dunder "mul") "int.__mul__" := PySem.F.slot_bool_mul
    have h3 : entryFor table "int.__mul__" = some Builtin.«int.__mul__» := PySem.F.entry_int_mul
    have h4 : argsOk "int.__mul__" ⟨[.bool b, .ref x], []⟩ := PySem.F.args_int_mul_2 _ _
    have h5 : wpAny (model prog w) A.in1 (Builtin.«int.__mul__» ⟨[.bool b, .ref x], []⟩) (GQ.FinOf prog w A (wants (fun v s' => v = .notImplemented ∧ Q none s') E)) (fun e s' => wants (fun v s' => v = .notImplemented ∧ Q none s') E (.error e) s') s := intBinary_no (.inr ⟨b, rfl⟩) hx fun tk => ⟨rfl, h tk⟩
    have h6 := @GQ.call_here prog w A E s "bool" (PySem.dunder "mul") "int.__mul__" Builtin.«int.__mul__» (.bool b) [.ref x] (fun v s' => v = .notImplemented ∧ Q none s') h2 h1 h3 h4 h5
    exact @wpAny_tryMethod_declines (model prog w) A E s (.bool b) (.ref x) "bool" (PySem.dunder "mul") "int.__mul__" Q h1 h2 h6
theorem declines_floordiv : Declines "floordiv" := by
  intro prog w A E s x C dx v Q hv hx h
  rcases hv with ⟨i, t, rfl⟩ | ⟨b, rfl⟩
  · have h1 : s.TypeIs (.int i t) "int" := typeIs_int s i t
    have h2 : Slot "int" (PySem.dunder "floordiv") "int.__floordiv__" := PySem.F.slot_int_floordiv
    have h3 : entryFor table "int.__floordiv__" = some Builtin.«int.__floordiv__» := PySem.F.entry_int_floordiv
    have h4 : argsOk "int.__floordiv__" ⟨[.int i t, .ref x], []⟩ := PySem.F.args_int_floordiv_2 _ _
    have h5 : wpAny (model prog w) A.in1 (Builtin.«int.__floordiv__» ⟨[.int i t, .ref x], []⟩) (GQ.FinOf prog w A (wants (fun v s' => v = .notImplemented ∧ Q none s') E)) (fun e s' => wants (fun v s' => v = .notImplemented ∧ Q none s') E (.error e) s') s := wpAny_bind (pylong_no (.inl ⟨i, t, rfl⟩) hx (intBinary_no (.inl ⟨i, t, rfl⟩) hx fun tk => ⟨rfl, h tk⟩))
    have h6 := @GQ.call_here prog w A E s "int" (PySem.dunder "floordiv") "int.__floordiv__" Builtin.«int.__floordiv__» (.int i t) [.ref x] (fun v s' => v = .notImplemented ∧ Q none s') h2 h1 h3 h4 h5
    exact @wpAny_tryMethod_declines (model prog w) A E s (.int i t) (.ref x) "int" (PySem.dunder "floordiv") "int.__floordiv__" Q h1 h2 h6
  · have h1 : s.TypeIs (.bool b) "bool" := PyProof.Rows.typeIs_bool s b
    have h2 : Slot "bool" (PySem.dunder "floordiv") "int.__floordiv__" := PySem.F.slot_bool_floordiv
    have h3 : entryFor table "int.__floordiv__" = some Builtin.«int.__floordiv__» := PySem.F.entry_int_floordiv
    have h4 : argsOk "int.__floordiv__" ⟨[.bool b, .ref x], []⟩ := PySem.F.args_int_floordiv_2 _ _
    have h5 : wpAny (model prog w) A.in1 (Builtin.«int.__floordiv__» ⟨[.bool b, .ref x], []⟩) (GQ.FinOf prog w A (wants (fun v s' => v = .notImplemented ∧ Q none s') E)) (fun e s' => wants (fun v s' => v = .notImplemented ∧ Q none s') E (.error e) s') s := wpAny_bind (pylong_no (.inr ⟨b, rfl⟩) hx (intBinary_no (.inr ⟨b, rfl⟩) hx fun tk => ⟨rfl, h tk⟩))
    have h6 := @GQ.call_here prog w A E s "bool" (PySem.dunder "floordiv") "int.__floordiv__" Builtin.«int.__floordiv__» (.bool b) [.ref x] (fun v s' => v = .notImplemented ∧ Q none s') h2 h1 h3 h4 h5
    exact @wpAny_tryMethod_declines (model prog w) A E s (.bool b) (.ref x) "bool" (PySem.dunder "floordiv") "int.__floordiv__" Q h1 h2 h6
theorem declines_mod : Declines "mod" := by
  intro prog w A E s x C dx v Q hv hx h
  rcases hv with ⟨i, t, rfl⟩ | ⟨b, rfl⟩
  · have h1 : s.TypeIs (.int i t) "int" := typeIs_int s i t
    have h2 : Slot "int" (PySem.dunder "mod") "int.__mod__" := PySem.F.slot_int_mod
    have h3 : entryFor table "int.__mod__" = some Builtin.«int.__mod__» := PySem.F.entry_int_mod
    have h4 : argsOk "int.__mod__" ⟨[.int i t, .ref x], []⟩ := PySem.F.args_int_mod_2 _ _
    have h5 : wpAny (model prog w) A.in1 (Builtin.«int.__mod__» ⟨[.int i t, .ref x], []⟩) (GQ.FinOf prog w A (wants (fun v s' => v = .notImplemented ∧ Q none s') E)) (fun e s' => wants (fun v s' => v = .notImplemented ∧ Q none s') E (.error e) s') s := intBinary_no (.inl ⟨i, t, rfl⟩) hx fun tk => ⟨rfl, h tk⟩
    have h6 := @GQ.call_here prog w A E s "int" (PySem.dunder "mod") "int.__mod__" Builtin.«int.__mod__» (.int i t) [.ref x] (fun v s' => v = .notImplemented ∧ Q none s') h2 h1 h3 h4 h5
    exact @wpAny_tryMethod_declines (model prog w) A E s (.int i t) (.ref x) "int" (PySem.dunder "mod") "int.__mod__" Q h1 h2 h6
  · have h1 : s.TypeIs (.bool b) "bool" := PyProof.Rows.typeIs_bool s b
    have h2 : Slot "bool" (PySem.dunder "mod") "int.__mod__" := PySem.F.slot_bool_mod
    have h3 : entryFor table "int.__mod__" = some Builtin.«int.__mod__» := PySem.F.entry_int_mod
    have h4 : argsOk "int.__mod__" ⟨[.bool b, .ref x], []⟩ := PySem.F.args_int_mod_2 _ _
    have h5 : wpAny (model prog w) A.in1 (Builtin.«int.__mod__» ⟨[.bool b, .ref x], []⟩) (GQ.FinOf prog w A (wants (fun v s' => v = .notImplemented ∧ Q none s') E)) (fun e s' => wants (fun v s' => v = .notImplemented ∧ Q none s') E (.error e) s') s := intBinary_no (.inr ⟨b, rfl⟩) hx fun tk => ⟨rfl, h tk⟩
    have h6 := @GQ.call_here prog w A E s "bool" (PySem.dunder "mod") "int.__mod__" Builtin.«int.__mod__» (.bool b) [.ref x] (fun v s' => v = .notImplemented ∧ Q none s') h2 h1 h3 h4 h5
    exact @wpAny_tryMethod_declines (model prog w) A E s (.bool b) (.ref x) "bool" (PySem.dunder "mod") "int.__mod__" Q h1 h2 h6

section
variable {X : Cx} {CX : CXT} {k : Nat} {f g C : Addr} {ps : List Str} {dvs : List V} {sp : Sp} {E : XK} {pins : List (Addr × Obj)} {σ : L2.St} {H : Hp} {s : Shared} {Q : VK} {vs : List V} {us : List Value}
/-- a function of the text run by an operator -/
theorem own_run (D : FunOk X.prog X.w X.K X.mg X.base CX k f ps dvs sp) (hr : Room k X.A) (hx : Passes CX X E) (I : Inv X pins σ H s) (rv : Vals vs us) (h : sp (vs ++ dvs) H Q E) :
    wpAny (model X.prog X.w) X.A (call (.ref f) us) (EP X pins σ Q) X.xe s := by
  obtain ⟨fd, ds, F, hb, hd⟩ := D.ex
  have rr := rv.append hd
  have lz : (us ++ ds).length = ps.length := rr.length ▸ F.len _ _ _ _ h
  refine wpAny_call (codeAny_mono (F.run X.A X.stack s H ⟨us, []⟩ _ _ Q E hr I.env0 (hb s us I.kIn lz) rr h) ?_)
  intro r s' hq
  match r, hq with
  | .error e, hq => exact hx pins σ H s e s' I hq
  | .ok (.ret u), hq => exact I.after hq
  | .ok .next, hq => exact hq.elim
  | .ok .brk, hq => exact hq.elim
  | .ok .cont, hq => exact hq.elim
theorem back_of {v : Value} {s' : Shared} (h : EP X pins σ Q v s') : PySem.W.CmpBack (EP X pins σ Q) v s' := by
  obtain ⟨z, H', I, r, q⟩ := id h
  exact SlX.cmpback r h
theorem ins_at {a dx : Addr} {fs : List (Str × V)} (I : Inv X pins σ H s) (h : H a = some (.ins C dx fs)) : s.heap.get? a = some (PySem.W.instObj C dx) ∧ ∃ od, InstAt s.heap a (PySem.W.instObj C dx) C od := by
  obtain ⟨mA, J, _⟩ := ins_get I.hok h
  obtain ⟨od, J2, _⟩ := J.look
  exact ⟨J.1, _, J2⟩
/-- -x -/
def rNegO (C : Addr) (sp : Sp) (E : XK) : V → Hp → VK → Prop := fun x H Q => ∃ a dx fs, x = .ref a ∧ H a = some (.ins C dx fs) ∧ sp [x] H Q E
theorem un_negO (D : FunOk X.prog X.w X.K X.mg X.base CX k f ps [] sp) (hs : findIn X.K (.ref C) "__neg__" = some (some (.ref f))) (hf : isFn X.K (.ref f) = true) (hr : Room k X.A) (hx : Passes CX X E) : UnR X (unaryOp .USub) (rNegO C sp E) := by
  intro pins s σ H x v Q I rx h
  obtain ⟨a, dx, fs, rfl, hi, h⟩ := h
  cases rx
  obtain ⟨_, od, J⟩ := ins_at I hi
  obtain ⟨m, hF⟩ := I.fr
  exact ksp_neg hF I.ok.mod.kin J hs hf (own_run D hr hx I (vs := [.ref a]) (.cons rfl .nil) h)
/-- x < y and its kin, x of the class -/
def rCmpO (K : PySem.W.Frag) (C : Addr) (sp : Sp) (E : XK) : R2 := fun x y H Q => ∃ a dx fs t, x = .ref a ∧ H a = some (.ins C dx fs) ∧ TyX K H y t ∧ notFirst K C t = true ∧ sp [x, y] H Q E
theorem op_cmpO {op : CmpOp} (D : FunOk X.prog X.w X.K X.mg X.base CX k f ps [] sp) (hs : findIn X.K (.ref C) (cmpInfo op).2.1 = some (some (.ref f))) (hf : isFn X.K (.ref f) = true) (hr : Room k X.A) (hx : Passes CX X E)
    (ho : ∀ a b, compareOp op a b = richCompare op a b := by intros; rfl) : OpR X (compareOp op) (rCmpO X.K C sp E) := by
  intro pins s σ H x y v u Q I rx ry h
  obtain ⟨a, dx, fs, t, rfl, hi, ty, hn, h⟩ := h
  cases rx
  obtain ⟨_, od, J⟩ := ins_at I hi
  obtain ⟨m, hF⟩ := I.fr
  obtain ⟨P, Z, p, _⟩ := kit_of I ry ty
  rw [ho]
  exact cmp_K hr.units0 hF I.ok.mod.kin J (Z.ty _ _ I.kIn p) hn hs hf (wpAny_mono (own_run D hr hx I (vs := [.ref a, y]) (.cons rfl (.cons ry .nil)) h) (fun _ _ z => back_of z) fun _ _ z => z)
/-- what stands beside an own value -/
structure OwnB (K : PySem.W.Frag) (C : Addr) (nm : String) (f g : Addr) : Prop where
  o : OpF K C nm f g
  t0 : ∀ T ∈ (["NoneType", "str", "list", "tuple", "dict"] : List String), ∃ l, OpT K C nm T l
  t1 : ∀ T ∈ (["int", "bool"] : List String), OpT K C nm T true
  dec : Declines nm
def SideT (K : PySem.W.Frag) (H : Hp) (y : V) : Prop := (∃ i, y = .int i) ∨ (∃ b, y = .bl b) ∨ ∃ T, T ∈ (["NoneType", "str", "list", "tuple", "dict"] : List String) ∧ TyX K H y (.type T)
def SideL (K : PySem.W.Frag) (C : Addr) (nm : String) (H : Hp) (y : V) : Prop := (∃ i, y = .int i) ∨ (∃ b, y = .bl b) ∨ ∃ T, OpT K C nm T false ∧ TyX K H y (.type T)
/-- x + y and its kin -/
def rBinO (K : PySem.W.Frag) (C : Addr) (nm : String) (spL spR : Sp) (E : XK) : R2 := fun x y H Q =>
  (∃ a dx fs, x = .ref a ∧ H a = some (.ins C dx fs) ∧ ((∃ b dy gs, y = .ref b ∧ H b = some (.ins C dy gs)) ∨ SideT K H y) ∧ spL [x, y] H Q E) ∨
  ∃ b dy gs, y = .ref b ∧ H b = some (.ins C dy gs) ∧ SideL K C nm H x ∧ spR [y, x] H Q E
theorem bin1_own {nm : String} {k2 : Nat} {ps2 : List Str} {spL spR : Sp} {x y : V} {v u : Value} (DL : FunOk X.prog X.w X.K X.mg X.base CX k f ps [] spL) (DR : FunOk X.prog X.w X.K X.mg X.base CX k2 g ps2 [] spR) (F : OwnB X.K C nm f g) (hr : Room k X.A) (hr2 : Room k2 X.A) (hx : Passes CX X E)
    (I : Inv X pins σ H s) (rx : RelV x v) (ry : RelV y u) (h : rBinO X.K C nm spL spR E x y H Q) : wpAny (model X.prog X.w) X.A (binaryOp1 nm v u) (fun r s' => ∃ z, r = some z ∧ EP X pins σ Q z s') X.xe s := by
  have tyI : ∀ {y : V} {i : Int} {u : Value}, RelV y u → y = .int i → Looks (model X.prog X.w) s.heap (typeOf u) (.type "int") := fun {y i u} r e => by
    subst e
    obtain ⟨t, rfl⟩ := r
    exact Looks.of_pure rfl
  have tyB : ∀ {y : V} {b : Bool} {u : Value}, RelV y u → y = .bl b → Looks (model X.prog X.w) s.heap (typeOf u) (.type "bool") := fun {y b u} r e => by
    subst e
    cases r
    exact Looks.of_pure rfl
  rcases h with ⟨a, dx, fs, rfl, hi, hy, h⟩ | ⟨b, dy, gs, rfl, hi, hy, h⟩
  · cases rx
    obtain ⟨_, od, J⟩ := ins_at I hi
    have run := wpAny_mono (own_run DL hr hx I (vs := [.ref a, y]) (.cons rfl (.cons ry .nil)) h) (fun _ _ z => back_of z) fun _ _ z => z
    rcases hy with ⟨b, dy, gs, rfl, hb⟩ | ⟨i, hy⟩ | ⟨b, hy⟩ | ⟨T, hT, ty⟩
    · cases ry
      obtain ⟨_, od2, J2⟩ := ins_at I hb
      exact bin1_same I.kIn J F.o J2.type run
    · exact bin1_left I.kIn J F.o (tyI ry hy) (F.t1 "int" (by decide)) run
    · exact bin1_left I.kIn J F.o (tyB ry hy) (F.t1 "bool" (by decide)) run
    · obtain ⟨P, Z, p, _⟩ := kit_of I ry ty
      obtain ⟨l, ot⟩ := F.t0 T hT
      exact bin1_left I.kIn J F.o (Z.ty _ _ I.kIn p) ot run
  · cases ry
    obtain ⟨hb, od, J⟩ := ins_at I hi
    have run : ∀ tk, wpAny (model X.prog X.w) X.A (call (.ref g) [.ref b, v]) (PySem.W.CmpBack (EP X pins σ Q)) X.xe { s with toks := tk } := fun tk =>
      wpAny_mono (own_run DR hr2 hx (I.tok tk) (vs := [.ref b, x]) (.cons rfl (.cons rx .nil)) h) (fun _ _ z => back_of z) fun _ _ z => z
    rcases hy with ⟨i, hy⟩ | ⟨c, hy⟩ | ⟨T, ot, ty⟩
    · refine bin1_right1 I.kIn J F.o (tyI rx hy) (F.t1 "int" (by decide)) (fun Q' hq => F.dec _ _ _ _ _ _ _ _ _ _ ?_ hb hq) run
      subst hy
      obtain ⟨t, e⟩ := rx
      exact .inl ⟨i, t, e⟩
    · refine bin1_right1 I.kIn J F.o (tyB rx hy) (F.t1 "bool" (by decide)) (fun Q' hq => F.dec _ _ _ _ _ _ _ _ _ _ ?_ hb hq) run
      subst hy
      exact .inr ⟨c, rx⟩
    · obtain ⟨P, Z, p, _⟩ := kit_of I rx ty
      exact bin1_right0 I.kIn J F.o (Z.ty _ _ I.kIn p) ot (wpAny_mono (own_run DR hr2 hx I (vs := [.ref b, x]) (.cons rfl (.cons rx .nil)) h) (fun _ _ z => back_of z) fun _ _ z => z)
theorem op_binO {op : Operator} {k2 : Nat} {ps2 : List Str} {spL spR : Sp} (DL : FunOk X.prog X.w X.K X.mg X.base CX k f ps [] spL) (DR : FunOk X.prog X.w X.K X.mg X.base CX k2 g ps2 [] spR) (F : OwnB X.K C op.info.2 f g) (hr : Room k X.A) (hr2 : Room k2 X.A) (hx : Passes CX X E) :
    OpR X (binaryOp op) (rBinO X.K C op.info.2 spL spR E) := by
  intro pins s σ H x y v u Q I rx ry h
  rcases hi : op.info with ⟨sym, nm⟩
  rw [hi] at F h
  simp only [binaryOp, hi]
  refine wpAny_holding (wpAny_bind (wpAny_mono (bin1_own DL DR F hr hr2 hx I rx ry h) (fun r s' hq => ?_) fun _ _ z => z))
  obtain ⟨z, rfl, hq⟩ := hq
  exact wpAny_pure hq
end
/-! ### the lambdas of a text -/
def lamAr (e : Expr) : Arguments := match e with
  | .Lambda a _ _ _ => a
  | _ => defArgs (.Pass ⟨0, 0, 0, 0⟩)
def lamBd (e : Expr) : Expr := match e with
  | .Lambda _ b _ _ => b
  | e => e
def lamSc (e : Expr) : Scope := match e with
  | .Lambda _ _ s _ => s
  | _ => defScope (.Pass ⟨0, 0, 0, 0⟩)
def isLam (e : Expr) : Bool := match e with
  | .Lambda _ _ _ _ => true
  | _ => false
def lamsE (e : Expr) : List Expr := match e with
  | .List es _ => es.filter isLam
  | .Tuple es _ _ => es.filter isLam
  | .Call _ es _ _ => es.filter isLam
  | _ => []
def lamsS (b : List Stmt) : List Expr := b.flatMap fun s => match s with
  | .Assign _ e _ => lamsE e
  | .Expr e _ => lamsE e
  | _ => []
def lamAt (s : Stmt) (i : Nat) : Expr := (lamsS (defBody s)).getD i (.Name "" ⟨0, 0, 0, 0⟩)
theorem pe_orr {X : Cx} {e : Expr} {t1 t2 : TE} (h1 : PE X e t1) (h2 : PE X e t2) : PE X e (fun σ H Q => t1 σ H Q ∨ t2 σ H Q) := ⟨fun pins s σ H Q I h => h.elim (fun h => h1.run pins s σ H Q I h) fun h => h2.run pins s σ H Q I h⟩
/-! ### in an except suite: what the caught error is, own == asked there -/
def rIsS (K : PySem.W.Frag) (D a : Addr) (cls : Value) (d : Option Addr) : List V → Hp → VK → Prop := fun xs H Q => ∃ (c : V) (u : Value) (b : Bool) (dd : Addr) (fs : List (Str × V)), xs = [.ref a, c] ∧ ClsV c u ∧ cls = .ref D ∧ d = some dd ∧ H dd = some (.xd fs) ∧ PySem.W.kitOne K (.ref D) u = some b ∧ Q (.bl b) H
theorem call_isS {X : Cx} {a D : Addr} {oe : Obj} {cls : Value} {d : Option Addr} {pn : List (Addr × Obj)} (XC : XhC X.K D) (hz : Zc cls d oe) (hf : ∃ vs, oe.data = .fields vs) : CallR (X.suite a ((a, oe) :: pn)) (.builtin "isinstance") (rIsS X.K D a cls d) := by
  intro pins s σ H xs us Q I r h
  obtain ⟨c, u, b, dd, fs, rfl, k, ec, ed, hx, e, q⟩ := h
  obtain ⟨u1, u2, rfl, r1, r2⟩ := vals2 r
  have e2 := k.eq r2
  subst e2
  obtain rfl : u1 = Value.ref a := r1
  have g := (I.pin (a, oe) (List.mem_append_left _ List.mem_cons_self)).1
  obtain ⟨vs, hv⟩ := hf
  obtain ⟨mA, hns, hr⟩ := (show ObjOk X.prog X.w H s.heap dd (.xd fs) from I.hok dd _ hx)
  obtain ⟨o, es, ep, ho, _⟩ := id hns
  have J : PySem.W.InstAt s.heap a oe D (some o) := by
    obtain ⟨oc, od, oda, osl⟩ := oe
    obtain ⟨h1, h2⟩ := hz
    dsimp only at h1 h2 hv
    subst h1 h2 hv ec ed
    exact ⟨g, rfl, rfl, ho⟩
  exact PySem.W.kia_one (PySem.W.kitx_exc XC.some_ XC.xf.ga XC.xf.gg XC.xf.exC XC.at_ XC.sp XC.tk XC.ob) I.kIn J e (fun z => nomatch z) fun tk => ⟨.bl b, H, I.tok tk, rfl, q⟩
/-- a function that raises nothing, run where an exception is handled: p's object stands apart -/
structure FnC (P : Program) (w : World) (K : PySem.W.Frag) (mg : Str → Option Value) (base : Heap) (k : Nat) (f : Addr) (fd : FuncData) (ps : List Str) (sp : Sp) : Prop where
  len : ∀ vs H Q E, sp vs H Q E → vs.length = ps.length
  go : ∀ (A : Around) (out : List Env) (s : Shared) (H : Hp) (as : Args) (us : List Value) (vs : List V) (Q : VK) (E : XK) (p : Addr × Obj), L2H.RoomH k A → L2H.PinOk out H s p → Env0 P w K mg base A out s H → BindsTo s fd as (ps.zip us) → Vals vs us → sp vs H Q E →
    codeAny (model P w) A (.call (.ref f) as) (CR CX0 out P w H s Q E) s
structure FunC (P : Program) (w : World) (K : PySem.W.Frag) (mg : Str → Option Value) (base : Heap) (k : Nat) (f : Addr) (ps : List Str) (sp : Sp) : Prop where
  ex : ∃ fd, FnC P w K mg base k f fd ps sp ∧ Binds K fd ps []
section
variable {P : Program} {w : World} {K : PySem.W.Frag} {mg : Str → Option Value} {base : Heap} {x qual : Str} {st : Stmt} {N ps : List Str} {k : Nat} {sp : Sp} {f : Addr} {dv : List V}
theorem AtF.okC (a : AtF K f x qual st dv) (S : FnScope N ps (defScope st)) (bnd : ∀ fd, FunD K x qual (defArgs st) (defBody st) (defScope st) dv [] f fd → Binds K fd ps []) (ln : ∀ vs H Q E, sp vs H Q E → vs.length = ps.length)
    (bd : ∀ (cdv : Value) (A : Around) (out : List Env) (s : Shared) (H : Hp) (vs : List V) (Q : VK) (E : XK) (p : Addr × Obj), L2H.RoomH k (A.deeper (envOfC qual (defScope st) s.heap.objs.size f cdv)) → sp vs H Q E →
      ∃ t, PSs (L2H.cxH CX0 P w K mg base N qual (defScope st) f cdv A out s H E p) (defBody st) t ∧ t { nx := fun _ H' => Q .non H', rt := Q } (L2.start N vs) H) : FunC P w K mg base (k + 1) f ps sp := by
  obtain ⟨fd, F⟩ := a.ex
  refine ⟨fd, ⟨ln, ?_⟩, bnd fd F⟩
  obtain ⟨oc, od, dV, kV, doc, pm, an, cdv, ct, osl, rfl, lk, hcd, _, _⟩ := F.ex
  intro A out s H as us vs Q E p hr pin e0 hb rv hsp
  have hz := ln _ _ _ _ hsp
  have KX : K.In s.heap := e0.mod.kin.keeps fun b o e => (e0.bs b o e).1
  have nl : s.heap.NoLimit := e0.mod.nolimit.keeps fun b o e => (e0.bs b o e).1
  have par : ∀ y ∈ ps.zip us, (defScope st).names.lookup y.1 = some .local ∨ ((defScope st).names.lookup y.1 = some .cell ∧ ((cellsFrom (s.heap.objs.size + 1) (defScope st).names []).lookup y.1).isSome = true) := by
    rintro ⟨n, v⟩ hy
    cases S.par n (List.of_mem_zip hy).1 with
    | inl q => exact .inl q
    | inr q => exact .inr ⟨q, PySem.W.cellsFrom_some _ _ _ (.inl q)⟩
  refine codeAny_call_function hr.depth (KX _ _ lk) rfl S.co S.gen rfl (PySem.W.codeRec_of KX hcd) (hb _ _ _ _ (wpAny_newFunctionEnv_cells S.kind par ?_))
  rintro env rfl s1 ic
  refine ⟨nl.keeps ic.toInCall.keep, codeAny_func ?_⟩
  obtain ⟨t, ht, hq⟩ := bd cdv A out s H vs Q E p (hr.deeper _) hsp
  have I := L2H.inv_startH (CX := CX0) (E := E) S pin e0 hz rv ic
  refine wpAny_mono (ht.run [] s1 (L2.start N vs) H _ I hq) ?_ fun e s' hs => hs
  intro fl s' hs
  match fl, hs with
  | .ret u, ⟨v, σ', H', J, r2, q⟩ => exact ⟨v, H', J.os, J.bare, J.base, J.hok, r2, q⟩
  | .next, ⟨σ', H', J, q⟩ => exact ⟨V.non, H', J.os, J.bare, J.base, J.hok, rfl, q⟩
  | .brk, ⟨_, _, _, q⟩ => exact q.elim
  | .cont, ⟨_, _, _, q⟩ => exact q.elim
end
/-- x == y in a suite, by the own == -/
theorem op_cmpS {op : CmpOp} {X : Cx} {a C f : Addr} {oe : Obj} {pn : List (Addr × Obj)} {k : Nat} {ps : List Str} {sp : Sp} (D : FunC X.prog X.w X.K X.mg X.base k f ps sp) (hs : findIn X.K (.ref C) (cmpInfo op).2.1 = some (some (.ref f))) (hf : isFn X.K (.ref f) = true) (hr : Room k X.A)
    (ho : ∀ a b, compareOp op a b = richCompare op a b := by intros; rfl) : OpR (X.suite a ((a, oe) :: pn)) (compareOp op) (rCmpO X.K C sp E0) := by
  intro pins s σ H x y v u Q I rx ry h
  obtain ⟨b, dx, fs, t, rfl, hi, ty, hn, h⟩ := h
  cases rx
  obtain ⟨_, od, J⟩ := ins_at I hi
  obtain ⟨m, hF⟩ := I.fr
  obtain ⟨P, Z, p, _⟩ := kit_of I ry ty
  obtain ⟨fd, F, hb⟩ := D.ex
  have P1 := I.pin (a, oe) (List.mem_append_left _ List.mem_cons_self)
  have pin : L2H.PinOk (X.suite a ((a, oe) :: pn)).stack H s (a, oe) := ⟨P1.1, P1.2.1, fun hm => (List.mem_cons.mp (I.stkSub a hm)).elim P1.2.2.1 P1.2.2.2.1, P1.2.2.2.2⟩
  have hrS : L2H.RoomH k (X.suite a ((a, oe) :: pn)).A := ⟨hr.dp, hr.un⟩
  have bb := hb s [.ref b, u] I.kIn (by rw [List.append_nil]; exact F.len _ _ _ _ h)
  rw [List.append_nil] at bb
  rw [ho]
  refine cmp_K hr.units0 hF I.ok.mod.kin J (Z.ty _ _ I.kIn p) hn hs hf (wpAny_call (codeAny_mono (F.go _ _ s H ⟨[.ref b, u], []⟩ _ [.ref b, y] Q E0 (a, oe) hrS pin I.env0 bb (.cons rfl (.cons ry .nil)) h) ?_))
  intro r s' hq
  match r, hq with
  | .error e, hq => exact (show False from hq).elim
  | .ok (.ret u), hq => exact back_of (I.after hq)
  | .ok .next, hq => exact hq.elim
  | .ok .brk, hq => exact hq.elim
  | .ok .cont, hq => exact hq.elim
theorem vrat_at {K : PySem.W.Frag} {C : Addr} {H : Hp} {v : V} (h : AnyV K C H v) (t : vRat C H v = true) : ∃ b n d, v = .ref b ∧ Gs.Rat C H b n d := by
  cases h with
  | rat h => exact ⟨_, _, _, rfl, h⟩
  | non => cases t
  | bl b => cases t
  | int i => cases t
  | str x => cases t
  | lst h =>
    rw [vRat_ref, h] at t
    cases t
  | tup h =>
    rw [vRat_ref, h] at t
    cases t
  | dK h =>
    rw [vRat_ref, h] at t
    cases t
  | @oth a u h t2 ty no nr ni nl =>
    rw [vRat_ref, h] at t
    cases u with
    | ins D dx fs =>
      exact absurd (of_decide_eq_true t) (ni D dx fs rfl)
    | _ => cases t
/-- a reading kept in one piece -/
def tId (t : TS) : TS := t
theorem ps_id {X : Cx} {s : Stmt} {t : TS} (h : PS X s t) : PS X s (tId t) := h
/-! ### the facts, checked -/
def opTB (K : PySem.W.Frag) (C : Addr) (nm : String) (T : String) (l : Bool) : Bool :=
  (match PySem.W.findIn K (.type T) (PySem.dunder nm), PySem.W.findIn K (.type T) (dunderR nm) with
    | some fo, some ro => ((fo.isSome && !isSeqSlot fo) || (ro.isSome && !isSeqSlot ro)) == l
    | _, _ => false) && (decide (PySem.W.subIn K (.type T) (.ref C) = some false) && decide (PySem.W.subIn K (.ref C) (.type T) = some false))
theorem opTB_ok {K : PySem.W.Frag} {C : Addr} {nm T : String} {l : Bool} (h : opTB K C nm T l = true) : OpT K C nm T l := by
  obtain ⟨h1, h⟩ := He.ba h
  obtain ⟨h2, h3⟩ := He.ba h
  refine ⟨?_, of_decide_eq_true h2, of_decide_eq_true h3⟩
  cases a : PySem.W.findIn K (.type T) (PySem.dunder nm) with
  | none =>
    rw [a] at h1
    cases h1
  | some fo =>
    cases b : PySem.W.findIn K (.type T) (dunderR nm) with
    | none =>
      rw [a, b] at h1
      cases h1
    | some ro =>
      rw [a, b] at h1
      exact ⟨fo, ro, rfl, rfl, beq_iff_eq.mp h1⟩
/-- the method m of the class, a function of its own -/
def mthB (K : PySem.W.Frag) (C : Addr) (m : Str) : Bool := decide (PySem.W.findIn K (.ref C) m = some (some (.ref (He.ma K C m)))) && PySem.W.isFn K (.ref (He.ma K C m))
theorem mthB_ok {K : PySem.W.Frag} {C : Addr} {m : Str} (h : mthB K C m = true) : PySem.W.findIn K (.ref C) m = some (some (.ref (He.ma K C m))) ∧ PySem.W.isFn K (.ref (He.ma K C m)) = true := let ⟨a, b⟩ := He.ba h; ⟨of_decide_eq_true a, b⟩
def ownBB (K : PySem.W.Frag) (C : Addr) (nm : String) : Bool :=
  PySem.W.selfFirst K C && (mthB K C (PySem.dunder nm) && (mthB K C (dunderR nm) && ((["NoneType", "str", "list", "tuple", "dict"] : List String).all (fun T => opTB K C nm T true || opTB K C nm T false) && (["int", "bool"] : List String).all (fun T => opTB K C nm T true))))
theorem ownBB_ok {K : PySem.W.Frag} {C : Addr} {nm : String} (h : ownBB K C nm = true) (d : Declines nm) : OwnB K C nm (He.ma K C (PySem.dunder nm)) (He.ma K C (dunderR nm)) := by
  obtain ⟨h1, h⟩ := He.ba h
  obtain ⟨h2, h⟩ := He.ba h
  obtain ⟨h3, h⟩ := He.ba h
  obtain ⟨h4, h5⟩ := He.ba h
  refine ⟨⟨h1, (mthB_ok h2).1, (mthB_ok h3).1, (mthB_ok h2).2, (mthB_ok h3).2⟩, fun T hT => ?_, fun T hT => opTB_ok (List.all_eq_true.mp h5 T hT), d⟩
  rcases Bool.or_eq_true_iff.mp (List.all_eq_true.mp h4 T hT) with z | z
  · exact ⟨_, opTB_ok z⟩
  · exact ⟨_, opTB_ok z⟩
end Gs

set_option maxRecDepth 100000
set_option maxHeartbeats 4000000
/-! comparisons with an own value on the right: the left one's slots decline -/
namespace Gs
open PySem PySem.Spec PyProof.Rows L2 PySem.Calls PySem.W
open AutoSeq1 (wpAny_loadPart')
theorem isInst_no {M : Model} {A : Around} {E : Value → Shared → Prop} {s : Shared} {K : PySem.W.Frag} {x C : Addr} {ox : Obj} {od : Option Obj} {T : String} {R : Bool → Shared → Prop} (X : K.In s.heap) (I : PySem.W.InstAt s.heap x ox C od) (hs : PySem.W.subIn K (.ref C) (.type T) = some false) (h : R false s) :
    wpAny M A (isInstance (.ref x) (.type T)) R E s := by
  unfold isInstance
  exact wpAny_bind (I.type.here ((PySem.W.looks_subIn X hs).here h))
/-- v, of the type T, declines the comparison op with an own value -/
def CDec (op : CmpOp) (T : String) : Prop := ∀ (prog : Program) (w : World) (A : Around) (E : Value → Shared → Prop) (s : Shared) (K : PySem.W.Frag) (x C dx : Addr) (od : Option Obj) (v : Value) (Q : Option Value → Shared → Prop),
  s.TypeIs v T → (T = "str" → ∃ z t, v = .str z t) → (T = "int" → ∃ i t, v = .int i t) → (T = "bool" → ∃ b, v = .bool b) → (T = "NoneType" → v = .none) → K.In s.heap → s.heap.get? x = some (PySem.W.instObj C dx) → PySem.W.InstAt s.heap x (PySem.W.instObj C dx) C od → PySem.W.subIn K (.ref C) (.type T) = some false →
  (∀ tk, Q none { s with toks := tk }) → wpAny (model prog w) A (tryCompare v (cmpInfo op).2.1 (.ref x)) Q E s
theorem cdec_int_lt : CDec .Lt "int" := by
  intro prog w A E s K x C dx od v Q ht hs hi hb hn X hx J sub h
  have h2 : Slot "int" (cmpInfo .Lt).2.1 "int.__lt__" := PySem.F.slot_int_lt
  have h3 : entryFor table "int.__lt__" = some Builtin.«int.__lt__» := PySem.F.entry_int_lt
  have h4 : argsOk "int.__lt__" ⟨[v, .ref x], []⟩ := PySem.F.args_int_lt_2 _ _
  have h5 : wpAny (model prog w) A.in1 (Builtin.«int.__lt__» ⟨[v, .ref x], []⟩) (GQ.FinOf prog w A (wants (fun v s' => v = .notImplemented ∧ Q none s') E)) (fun e s' => wants (fun v s' => v = .notImplemented ∧ Q none s') E (.error e) s') s := by
    exact intBinary_no (.inl (hi rfl)) hx fun tk => ⟨rfl, h tk⟩
  have h6 := @GQ.call_here prog w A E s "int" (cmpInfo .Lt).2.1 "int.__lt__" Builtin.«int.__lt__» (v) [.ref x] (fun v s' => v = .notImplemented ∧ Q none s') h2 ht h3 h4 h5
  exact @wpAny_tryCompare_declines (model prog w) A E s (v) (.ref x) "int" (cmpInfo .Lt).2.1 "int.__lt__" Q ht h2 h6
theorem cdec_int_le : CDec .LtE "int" := by
  intro prog w A E s K x C dx od v Q ht hs hi hb hn X hx J sub h
  have h2 : Slot "int" (cmpInfo .LtE).2.1 "int.__le__" := PySem.F.slot_int_le
  have h3 : entryFor table "int.__le__" = some Builtin.«int.__le__» := PySem.F.entry_int_le
  have h4 : argsOk "int.__le__" ⟨[v, .ref x], []⟩ := PySem.F.args_int_le_2 _ _
  have h5 : wpAny (model prog w) A.in1 (Builtin.«int.__le__» ⟨[v, .ref x], []⟩) (GQ.FinOf prog w A (wants (fun v s' => v = .notImplemented ∧ Q none s') E)) (fun e s' => wants (fun v s' => v = .notImplemented ∧ Q none s') E (.error e) s') s := by
    exact intBinary_no (.inl (hi rfl)) hx fun tk => ⟨rfl, h tk⟩
  have h6 := @GQ.call_here prog w A E s "int" (cmpInfo .LtE).2.1 "int.__le__" Builtin.«int.__le__» (v) [.ref x] (fun v s' => v = .notImplemented ∧ Q none s') h2 ht h3 h4 h5
  exact @wpAny_tryCompare_declines (model prog w) A E s (v) (.ref x) "int" (cmpInfo .LtE).2.1 "int.__le__" Q ht h2 h6
theorem cdec_int_gt : CDec .Gt "int" := by
  intro prog w A E s K x C dx od v Q ht hs hi hb hn X hx J sub h
  have h2 : Slot "int" (cmpInfo .Gt).2.1 "int.__gt__" := PySem.F.slot_int_gt
  have h3 : entryFor table "int.__gt__" = some Builtin.«int.__gt__» := PySem.F.entry_int_gt
  have h4 : argsOk "int.__gt__" ⟨[v, .ref x], []⟩ := PySem.F.args_int_gt_2 _ _
  have h5 : wpAny (model prog w) A.in1 (Builtin.«int.__gt__» ⟨[v, .ref x], []⟩) (GQ.FinOf prog w A (wants (fun v s' => v = .notImplemented ∧ Q none s') E)) (fun e s' => wants (fun v s' => v = .notImplemented ∧ Q none s') E (.error e) s') s := by
    exact intBinary_no (.inl (hi rfl)) hx fun tk => ⟨rfl, h tk⟩
  have h6 := @GQ.call_here prog w A E s "int" (cmpInfo .Gt).2.1 "int.__gt__" Builtin.«int.__gt__» (v) [.ref x] (fun v s' => v = .notImplemented ∧ Q none s') h2 ht h3 h4 h5
  exact @wpAny_tryCompare_declines (model prog w) A E s (v) (.ref x) "int" (cmpInfo .Gt).2.1 "int.__gt__" Q ht h2 h6
theorem cdec_int_ge : CDec .GtE "int" := by
  intro prog w A E s K x C dx od v Q ht hs hi hb hn X hx J sub h
  have h2 : Slot "int" (cmpInfo .GtE).2.1 "int.__ge__" := PySem.F.slot_int_ge
  have h3 : entryFor table "int.__ge__" = some Builtin.«int.__ge__» := PySem.F.entry_int_ge
  have h4 : argsOk "int.__ge__" ⟨[v, .ref x], []⟩ := PySem.F.args_int_ge_2 _ _
  have h5 : wpAny (model prog w) A.in1 (Builtin.«int.__ge__» ⟨[v, .ref x], []⟩) (GQ.FinOf prog w A (wants (fun v s' => v = .notImplemented ∧ Q none s') E)) (fun e s' => wants (fun v s' => v = .notImplemented ∧ Q none s') E (.error e) s') s := by
    exact intBinary_no (.inl (hi rfl)) hx fun tk => ⟨rfl, h tk⟩
  have h6 := @GQ.call_here prog w A E s "int" (cmpInfo .GtE).2.1 "int.__ge__" Builtin.«int.__ge__» (v) [.ref x] (fun v s' => v = .notImplemented ∧ Q none s') h2 ht h3 h4 h5
  exact @wpAny_tryCompare_declines (model prog w) A E s (v) (.ref x) "int" (cmpInfo .GtE).2.1 "int.__ge__" Q ht h2 h6
theorem cdec_int_eq : CDec .Eq "int" := by
  intro prog w A E s K x C dx od v Q ht hs hi hb hn X hx J sub h
  have h2 : Slot "int" (cmpInfo .Eq).2.1 "int.__eq__" := PySem.F.slot_int_eq
  have h3 : entryFor table "int.__eq__" = some Builtin.«int.__eq__» := PySem.F.entry_int_eq
  have h4 : argsOk "int.__eq__" ⟨[v, .ref x], []⟩ := PySem.F.args_int_eq_2 _ _
  have h5 : wpAny (model prog w) A.in1 (Builtin.«int.__eq__» ⟨[v, .ref x], []⟩) (GQ.FinOf prog w A (wants (fun v s' => v = .notImplemented ∧ Q none s') E)) (fun e s' => wants (fun v s' => v = .notImplemented ∧ Q none s') E (.error e) s') s := by
    exact intBinary_no (.inl (hi rfl)) hx fun tk => ⟨rfl, h tk⟩
  have h6 := @GQ.call_here prog w A E s "int" (cmpInfo .Eq).2.1 "int.__eq__" Builtin.«int.__eq__» (v) [.ref x] (fun v s' => v = .notImplemented ∧ Q none s') h2 ht h3 h4 h5
  exact @wpAny_tryCompare_declines (model prog w) A E s (v) (.ref x) "int" (cmpInfo .Eq).2.1 "int.__eq__" Q ht h2 h6
theorem cdec_int_ne : CDec .NotEq "int" := by
  intro prog w A E s K x C dx od v Q ht hs hi hb hn X hx J sub h
  have h2 : Slot "int" (cmpInfo .NotEq).2.1 "int.__ne__" := PySem.F.slot_int_ne
  have h3 : entryFor table "int.__ne__" = some Builtin.«int.__ne__» := PySem.F.entry_int_ne
  have h4 : argsOk "int.__ne__" ⟨[v, .ref x], []⟩ := PySem.F.args_int_ne_2 _ _
  have h5 : wpAny (model prog w) A.in1 (Builtin.«int.__ne__» ⟨[v, .ref x], []⟩) (GQ.FinOf prog w A (wants (fun v s' => v = .notImplemented ∧ Q none s') E)) (fun e s' => wants (fun v s' => v = .notImplemented ∧ Q none s') E (.error e) s') s := by
    exact intBinary_no (.inl (hi rfl)) hx fun tk => ⟨rfl, h tk⟩
  have h6 := @GQ.call_here prog w A E s "int" (cmpInfo .NotEq).2.1 "int.__ne__" Builtin.«int.__ne__» (v) [.ref x] (fun v s' => v = .notImplemented ∧ Q none s') h2 ht h3 h4 h5
  exact @wpAny_tryCompare_declines (model prog w) A E s (v) (.ref x) "int" (cmpInfo .NotEq).2.1 "int.__ne__" Q ht h2 h6
theorem cdec_bool_lt : CDec .Lt "bool" := by
  intro prog w A E s K x C dx od v Q ht hs hi hb hn X hx J sub h
  have h2 : Slot "bool" (cmpInfo .Lt).2.1 "int.__lt__" := PySem.F.slot_bool_lt
  have h3 : entryFor table "int.__lt__" = some Builtin.«int.__lt__» := PySem.F.entry_int_lt
  have h4 : argsOk "int.__lt__" ⟨[v, .ref x], []⟩ := PySem.F.args_int_lt_2 _ _
  have h5 : wpAny (model prog w) A.in1 (Builtin.«int.__lt__» ⟨[v, .ref x], []⟩) (GQ.FinOf prog w A (wants (fun v s' => v = .notImplemented ∧ Q none s') E)) (fun e s' => wants (fun v s' => v = .notImplemented ∧ Q none s') E (.error e) s') s := by
    exact intBinary_no (.inr (hb rfl)) hx fun tk => ⟨rfl, h tk⟩
  have h6 := @GQ.call_here prog w A E s "bool" (cmpInfo .Lt).2.1 "int.__lt__" Builtin.«int.__lt__» (v) [.ref x] (fun v s' => v = .notImplemented ∧ Q none s') h2 ht h3 h4 h5
  exact @wpAny_tryCompare_declines (model prog w) A E s (v) (.ref x) "bool" (cmpInfo .Lt).2.1 "int.__lt__" Q ht h2 h6
theorem cdec_bool_ge : CDec .GtE "bool" := by
  intro prog w A E s K x C dx od v Q ht hs hi hb hn X hx J sub h
  have h2 : Slot "bool" (cmpInfo .GtE).2.1 "int.__ge__" := PySem.F.slot_bool_ge
  have h3 : entryFor table "int.__ge__" = some Builtin.«int.__ge__» := PySem.F.entry_int_ge
  have h4 : argsOk "int.__ge__" ⟨[v, .ref x], []⟩ := PySem.F.args_int_ge_2 _ _
  have h5 : wpAny (model prog w) A.in1 (Builtin.«int.__ge__» ⟨[v, .ref x], []⟩) (GQ.FinOf prog w A (wants (fun v s' => v = .notImplemented ∧ Q none s') E)) (fun e s' => wants (fun v s' => v = .notImplemented ∧ Q none s') E (.error e) s') s := by
    exact intBinary_no (.inr (hb rfl)) hx fun tk => ⟨rfl, h tk⟩
  have h6 := @GQ.call_here prog w A E s "bool" (cmpInfo .GtE).2.1 "int.__ge__" Builtin.«int.__ge__» (v) [.ref x] (fun v s' => v = .notImplemented ∧ Q none s') h2 ht h3 h4 h5
  exact @wpAny_tryCompare_declines (model prog w) A E s (v) (.ref x) "bool" (cmpInfo .GtE).2.1 "int.__ge__" Q ht h2 h6
theorem cdec_bool_eq : CDec .Eq "bool" := by
  intro prog w A E s K x C dx od v Q ht hs hi hb hn X hx J sub h
  have h2 : Slot "bool" (cmpInfo .Eq).2.1 "int.__eq__" := PySem.F.slot_bool_eq
  have h3 : entryFor table "int.__eq__" = some Builtin.«int.__eq__» := PySem.F.entry_int_eq
  have h4 : argsOk "int.__eq__" ⟨[v, .ref x], []⟩ := PySem.F.args_int_eq_2 _ _
  have h5 : wpAny (model prog w) A.in1 (Builtin.«int.__eq__» ⟨[v, .ref x], []⟩) (GQ.FinOf prog w A (wants (fun v s' => v = .notImplemented ∧ Q none s') E)) (fun e s' => wants (fun v s' => v = .notImplemented ∧ Q none s') E (.error e) s') s := by
    exact intBinary_no (.inr (hb rfl)) hx fun tk => ⟨rfl, h tk⟩
  have h6 := @GQ.call_here prog w A E s "bool" (cmpInfo .Eq).2.1 "int.__eq__" Builtin.«int.__eq__» (v) [.ref x] (fun v s' => v = .notImplemented ∧ Q none s') h2 ht h3 h4 h5
  exact @wpAny_tryCompare_declines (model prog w) A E s (v) (.ref x) "bool" (cmpInfo .Eq).2.1 "int.__eq__" Q ht h2 h6
theorem cdec_NoneType_lt : CDec .Lt "NoneType" := by
  intro prog w A E s K x C dx od v Q ht hs hi hb hn X hx J sub h
  cases hn rfl
  have h2 : Slot "NoneType" (cmpInfo .Lt).2.1 "NoneType.__lt__" := PySem.F.slot_NoneType_lt
  have h3 : entryFor table "NoneType.__lt__" = some Builtin.«NoneType.__lt__» := PySem.F.entry_NoneType_lt
  have h4 : argsOk "NoneType.__lt__" ⟨[Value.none, .ref x], []⟩ := PySem.F.args_NoneType_lt_2 _ _
  have h5 : wpAny (model prog w) A.in1 (Builtin.«NoneType.__lt__» ⟨[Value.none, .ref x], []⟩) (GQ.FinOf prog w A (wants (fun v s' => v = .notImplemented ∧ Q none s') E)) (fun e s' => wants (fun v s' => v = .notImplemented ∧ Q none s') E (.error e) s') s := by
    obtain ⟨hp, g, d, tk, os⟩ := s
    unfold Builtin.«NoneType.__lt__»
    wp_walk using wpAny_loadPart' hx
    exact ⟨rfl, h tk⟩
  have h6 := @GQ.call_here prog w A E s "NoneType" (cmpInfo .Lt).2.1 "NoneType.__lt__" Builtin.«NoneType.__lt__» (Value.none) [.ref x] (fun v s' => v = .notImplemented ∧ Q none s') h2 ht h3 h4 h5
  exact @wpAny_tryCompare_declines (model prog w) A E s (Value.none) (.ref x) "NoneType" (cmpInfo .Lt).2.1 "NoneType.__lt__" Q ht h2 h6
theorem cdec_str_lt : CDec .Lt "str" := by
  intro prog w A E s K x C dx od v Q ht hs hi hb hn X hx J sub h
  obtain ⟨z, t, rfl⟩ := hs rfl
  have h2 : Slot "str" (cmpInfo .Lt).2.1 "str.__lt__" := PySem.F.slot_str_lt
  have h3 : entryFor table "str.__lt__" = some Builtin.«str.__lt__» := PySem.F.entry_str_lt
  have h4 : argsOk "str.__lt__" ⟨[Value.str z t, .ref x], []⟩ := PySem.F.args_str_lt_2 _ _
  have h5 : wpAny (model prog w) A.in1 (Builtin.«str.__lt__» ⟨[Value.str z t, .ref x], []⟩) (GQ.FinOf prog w A (wants (fun v s' => v = .notImplemented ∧ Q none s') E)) (fun e s' => wants (fun v s' => v = .notImplemented ∧ Q none s') E (.error e) s') s := by
    obtain ⟨hp, g, d, tk, os⟩ := s
    unfold Builtin.«str.__lt__» Builtin.Str.strCompare
    wp_walk using wpAny_loadPart' hx
    exact ⟨rfl, h tk⟩
  have h6 := @GQ.call_here prog w A E s "str" (cmpInfo .Lt).2.1 "str.__lt__" Builtin.«str.__lt__» (Value.str z t) [.ref x] (fun v s' => v = .notImplemented ∧ Q none s') h2 ht h3 h4 h5
  exact @wpAny_tryCompare_declines (model prog w) A E s (Value.str z t) (.ref x) "str" (cmpInfo .Lt).2.1 "str.__lt__" Q ht h2 h6
theorem cdec_dict_lt : CDec .Lt "dict" := by
  intro prog w A E s K x C dx od v Q ht hs hi hb hn X hx J sub h
  have h2 : Slot "dict" (cmpInfo .Lt).2.1 "dict.__lt__" := PySem.F.slot_dict_lt
  have h3 : entryFor table "dict.__lt__" = some Builtin.«dict.__lt__» := PySem.F.entry_dict_lt
  have h4 : argsOk "dict.__lt__" ⟨[v, .ref x], []⟩ := PySem.F.args_dict_lt_2 _ _
  have h5 : wpAny (model prog w) A.in1 (Builtin.«dict.__lt__» ⟨[v, .ref x], []⟩) (GQ.FinOf prog w A (wants (fun v s' => v = .notImplemented ∧ Q none s') E)) (fun e s' => wants (fun v s' => v = .notImplemented ∧ Q none s') E (.error e) s') s := by
    refine wpAny_bind (m := Builtin.Dict.dictSlotArgs _ _) (wpAny_of_eq (a := (v, .ref x)) rfl ?_)
    exact wpAny_pure ⟨rfl, h s.toks⟩
  have h6 := @GQ.call_here prog w A E s "dict" (cmpInfo .Lt).2.1 "dict.__lt__" Builtin.«dict.__lt__» (v) [.ref x] (fun v s' => v = .notImplemented ∧ Q none s') h2 ht h3 h4 h5
  exact @wpAny_tryCompare_declines (model prog w) A E s (v) (.ref x) "dict" (cmpInfo .Lt).2.1 "dict.__lt__" Q ht h2 h6
theorem cdec_list_lt : CDec .Lt "list" := by
  intro prog w A E s K x C dx od v Q ht hs hi hb hn X hx J sub h
  have h2 : Slot "list" (cmpInfo .Lt).2.1 "list.__lt__" := PySem.F.slot_list_lt
  have h3 : entryFor table "list.__lt__" = some Builtin.«list.__lt__» := PySem.F.entry_list_lt
  have h4 : argsOk "list.__lt__" ⟨[v, .ref x], []⟩ := PySem.F.args_list_lt_2 _ _
  have h5 : wpAny (model prog w) A.in1 (Builtin.«list.__lt__» ⟨[v, .ref x], []⟩) (GQ.FinOf prog w A (wants (fun v s' => v = .notImplemented ∧ Q none s') E)) (fun e s' => wants (fun v s' => v = .notImplemented ∧ Q none s') E (.error e) s') s := by
    refine wpAny_bind (m := slotArgs _ 1 _) (wpAny_of_eq (a := (v, [.ref x])) rfl ?_)
    refine wpAny_bind (m := isInstance (.ref x) (.type "list")) (isInst_no X J sub ?_)
    exact wpAny_pure ⟨rfl, h s.toks⟩
  have h6 := @GQ.call_here prog w A E s "list" (cmpInfo .Lt).2.1 "list.__lt__" Builtin.«list.__lt__» (v) [.ref x] (fun v s' => v = .notImplemented ∧ Q none s') h2 ht h3 h4 h5
  exact @wpAny_tryCompare_declines (model prog w) A E s (v) (.ref x) "list" (cmpInfo .Lt).2.1 "list.__lt__" Q ht h2 h6
theorem cdec_tuple_lt : CDec .Lt "tuple" := by
  intro prog w A E s K x C dx od v Q ht hs hi hb hn X hx J sub h
  have h2 : Slot "tuple" (cmpInfo .Lt).2.1 "tuple.__lt__" := PySem.F.slot_tuple_lt
  have h3 : entryFor table "tuple.__lt__" = some Builtin.«tuple.__lt__» := PySem.F.entry_tuple_lt
  have h4 : argsOk "tuple.__lt__" ⟨[v, .ref x], []⟩ := PySem.F.args_tuple_lt_2 _ _
  have h5 : wpAny (model prog w) A.in1 (Builtin.«tuple.__lt__» ⟨[v, .ref x], []⟩) (GQ.FinOf prog w A (wants (fun v s' => v = .notImplemented ∧ Q none s') E)) (fun e s' => wants (fun v s' => v = .notImplemented ∧ Q none s') E (.error e) s') s := by
    refine wpAny_bind (m := slotArgs _ 1 _) (wpAny_of_eq (a := (v, [.ref x])) rfl ?_)
    refine wpAny_bind (m := isInstance (.ref x) (.type "tuple")) (isInst_no X J sub ?_)
    exact wpAny_pure ⟨rfl, h s.toks⟩
  have h6 := @GQ.call_here prog w A E s "tuple" (cmpInfo .Lt).2.1 "tuple.__lt__" Builtin.«tuple.__lt__» (v) [.ref x] (fun v s' => v = .notImplemented ∧ Q none s') h2 ht h3 h4 h5
  exact @wpAny_tryCompare_declines (model prog w) A E s (v) (.ref x) "tuple" (cmpInfo .Lt).2.1 "tuple.__lt__" Q ht h2 h6
theorem cdec_NoneType_ge : CDec .GtE "NoneType" := by
  intro prog w A E s K x C dx od v Q ht hs hi hb hn X hx J sub h
  cases hn rfl
  have h2 : Slot "NoneType" (cmpInfo .GtE).2.1 "NoneType.__ge__" := PySem.F.slot_NoneType_ge
  have h3 : entryFor table "NoneType.__ge__" = some Builtin.«NoneType.__ge__» := PySem.F.entry_NoneType_ge
  have h4 : argsOk "NoneType.__ge__" ⟨[Value.none, .ref x], []⟩ := PySem.F.args_NoneType_ge_2 _ _
  have h5 : wpAny (model prog w) A.in1 (Builtin.«NoneType.__ge__» ⟨[Value.none, .ref x], []⟩) (GQ.FinOf prog w A (wants (fun v s' => v = .notImplemented ∧ Q none s') E)) (fun e s' => wants (fun v s' => v = .notImplemented ∧ Q none s') E (.error e) s') s := by
    obtain ⟨hp, g, d, tk, os⟩ := s
    unfold Builtin.«NoneType.__ge__»
    wp_walk using wpAny_loadPart' hx
    exact ⟨rfl, h tk⟩
  have h6 := @GQ.call_here prog w A E s "NoneType" (cmpInfo .GtE).2.1 "NoneType.__ge__" Builtin.«NoneType.__ge__» (Value.none) [.ref x] (fun v s' => v = .notImplemented ∧ Q none s') h2 ht h3 h4 h5
  exact @wpAny_tryCompare_declines (model prog w) A E s (Value.none) (.ref x) "NoneType" (cmpInfo .GtE).2.1 "NoneType.__ge__" Q ht h2 h6
theorem cdec_str_ge : CDec .GtE "str" := by
  intro prog w A E s K x C dx od v Q ht hs hi hb hn X hx J sub h
  obtain ⟨z, t, rfl⟩ := hs rfl
  have h2 : Slot "str" (cmpInfo .GtE).2.1 "str.__ge__" := PySem.F.slot_str_ge
  have h3 : entryFor table "str.__ge__" = some Builtin.«str.__ge__» := PySem.F.entry_str_ge
  have h4 : argsOk "str.__ge__" ⟨[Value.str z t, .ref x], []⟩ := PySem.F.args_str_ge_2 _ _
  have h5 : wpAny (model prog w) A.in1 (Builtin.«str.__ge__» ⟨[Value.str z t, .ref x], []⟩) (GQ.FinOf prog w A (wants (fun v s' => v = .notImplemented ∧ Q none s') E)) (fun e s' => wants (fun v s' => v = .notImplemented ∧ Q none s') E (.error e) s') s := by
    obtain ⟨hp, g, d, tk, os⟩ := s
    unfold Builtin.«str.__ge__» Builtin.Str.strCompare
    wp_walk using wpAny_loadPart' hx
    exact ⟨rfl, h tk⟩
  have h6 := @GQ.call_here prog w A E s "str" (cmpInfo .GtE).2.1 "str.__ge__" Builtin.«str.__ge__» (Value.str z t) [.ref x] (fun v s' => v = .notImplemented ∧ Q none s') h2 ht h3 h4 h5
  exact @wpAny_tryCompare_declines (model prog w) A E s (Value.str z t) (.ref x) "str" (cmpInfo .GtE).2.1 "str.__ge__" Q ht h2 h6
theorem cdec_dict_ge : CDec .GtE "dict" := by
  intro prog w A E s K x C dx od v Q ht hs hi hb hn X hx J sub h
  have h2 : Slot "dict" (cmpInfo .GtE).2.1 "dict.__ge__" := PySem.F.slot_dict_ge
  have h3 : entryFor table "dict.__ge__" = some Builtin.«dict.__ge__» := PySem.F.entry_dict_ge
  have h4 : argsOk "dict.__ge__" ⟨[v, .ref x], []⟩ := PySem.F.args_dict_ge_2 _ _
  have h5 : wpAny (model prog w) A.in1 (Builtin.«dict.__ge__» ⟨[v, .ref x], []⟩) (GQ.FinOf prog w A (wants (fun v s' => v = .notImplemented ∧ Q none s') E)) (fun e s' => wants (fun v s' => v = .notImplemented ∧ Q none s') E (.error e) s') s := by
    refine wpAny_bind (m := Builtin.Dict.dictSlotArgs _ _) (wpAny_of_eq (a := (v, .ref x)) rfl ?_)
    exact wpAny_pure ⟨rfl, h s.toks⟩
  have h6 := @GQ.call_here prog w A E s "dict" (cmpInfo .GtE).2.1 "dict.__ge__" Builtin.«dict.__ge__» (v) [.ref x] (fun v s' => v = .notImplemented ∧ Q none s') h2 ht h3 h4 h5
  exact @wpAny_tryCompare_declines (model prog w) A E s (v) (.ref x) "dict" (cmpInfo .GtE).2.1 "dict.__ge__" Q ht h2 h6
theorem cdec_list_ge : CDec .GtE "list" := by
  intro prog w A E s K x C dx od v Q ht hs hi hb hn X hx J sub h
  have h2 : Slot "list" (cmpInfo .GtE).2.1 "list.__ge__" := PySem.F.slot_list_ge
  have h3 : entryFor table "list.__ge__" = some Builtin.«list.__ge__» := PySem.F.entry_list_ge
  have h4 : argsOk "list.__ge__" ⟨[v, .ref x], []⟩ := PySem.F.args_list_ge_2 _ _
  have h5 : wpAny (model prog w) A.in1 (Builtin.«list.__ge__» ⟨[v, .ref x], []⟩) (GQ.FinOf prog w A (wants (fun v s' => v = .notImplemented ∧ Q none s') E)) (fun e s' => wants (fun v s' => v = .notImplemented ∧ Q none s') E (.error e) s') s := by
    refine wpAny_bind (m := slotArgs _ 1 _) (wpAny_of_eq (a := (v, [.ref x])) rfl ?_)
    refine wpAny_bind (m := isInstance (.ref x) (.type "list")) (isInst_no X J sub ?_)
    exact wpAny_pure ⟨rfl, h s.toks⟩
  have h6 := @GQ.call_here prog w A E s "list" (cmpInfo .GtE).2.1 "list.__ge__" Builtin.«list.__ge__» (v) [.ref x] (fun v s' => v = .notImplemented ∧ Q none s') h2 ht h3 h4 h5
  exact @wpAny_tryCompare_declines (model prog w) A E s (v) (.ref x) "list" (cmpInfo .GtE).2.1 "list.__ge__" Q ht h2 h6
theorem cdec_tuple_ge : CDec .GtE "tuple" := by
  intro prog w A E s K x C dx od v Q ht hs hi hb hn X hx J sub h
  have h2 : Slot "tuple" (cmpInfo .GtE).2.1 "tuple.__ge__" := PySem.F.slot_tuple_ge
  have h3 : entryFor table "tuple.__ge__" = some Builtin.«tuple.__ge__» := PySem.F.entry_tuple_ge
  have h4 : argsOk "tuple.__ge__" ⟨[v, .ref x], []⟩ := PySem.F.args_tuple_ge_2 _ _
  have h5 : wpAny (model prog w) A.in1 (Builtin.«tuple.__ge__» ⟨[v, .ref x], []⟩) (GQ.FinOf prog w A (wants (fun v s' => v = .notImplemented ∧ Q none s') E)) (fun e s' => wants (fun v s' => v = .notImplemented ∧ Q none s') E (.error e) s') s := by
    refine wpAny_bind (m := slotArgs _ 1 _) (wpAny_of_eq (a := (v, [.ref x])) rfl ?_)
    refine wpAny_bind (m := isInstance (.ref x) (.type "tuple")) (isInst_no X J sub ?_)
    exact wpAny_pure ⟨rfl, h s.toks⟩
  have h6 := @GQ.call_here prog w A E s "tuple" (cmpInfo .GtE).2.1 "tuple.__ge__" Builtin.«tuple.__ge__» (v) [.ref x] (fun v s' => v = .notImplemented ∧ Q none s') h2 ht h3 h4 h5
  exact @wpAny_tryCompare_declines (model prog w) A E s (v) (.ref x) "tuple" (cmpInfo .GtE).2.1 "tuple.__ge__" Q ht h2 h6
theorem cdec_NoneType_eq : CDec .Eq "NoneType" := by
  intro prog w A E s K x C dx od v Q ht hs hi hb hn X hx J sub h
  cases hn rfl
  have h2 : Slot "NoneType" (cmpInfo .Eq).2.1 "NoneType.__eq__" := PySem.F.slot_NoneType_eq
  have h3 : entryFor table "NoneType.__eq__" = some Builtin.«NoneType.__eq__» := PySem.F.entry_NoneType_eq
  have h4 : argsOk "NoneType.__eq__" ⟨[Value.none, .ref x], []⟩ := PySem.F.args_NoneType_eq_2 _ _
  have h5 : wpAny (model prog w) A.in1 (Builtin.«NoneType.__eq__» ⟨[Value.none, .ref x], []⟩) (GQ.FinOf prog w A (wants (fun v s' => v = .notImplemented ∧ Q none s') E)) (fun e s' => wants (fun v s' => v = .notImplemented ∧ Q none s') E (.error e) s') s := by
    obtain ⟨hp, g, d, tk, os⟩ := s
    unfold Builtin.«NoneType.__eq__»
    wp_walk using wpAny_loadPart' hx
    exact ⟨rfl, h tk⟩
  have h6 := @GQ.call_here prog w A E s "NoneType" (cmpInfo .Eq).2.1 "NoneType.__eq__" Builtin.«NoneType.__eq__» (Value.none) [.ref x] (fun v s' => v = .notImplemented ∧ Q none s') h2 ht h3 h4 h5
  exact @wpAny_tryCompare_declines (model prog w) A E s (Value.none) (.ref x) "NoneType" (cmpInfo .Eq).2.1 "NoneType.__eq__" Q ht h2 h6
theorem cdec_str_eq : CDec .Eq "str" := by
  intro prog w A E s K x C dx od v Q ht hs hi hb hn X hx J sub h
  obtain ⟨z, t, rfl⟩ := hs rfl
  have h2 : Slot "str" (cmpInfo .Eq).2.1 "str.__eq__" := PySem.F.slot_str_eq
  have h3 : entryFor table "str.__eq__" = some Builtin.«str.__eq__» := PySem.F.entry_str_eq
  have h4 : argsOk "str.__eq__" ⟨[Value.str z t, .ref x], []⟩ := PySem.F.args_str_eq_2 _ _
  have h5 : wpAny (model prog w) A.in1 (Builtin.«str.__eq__» ⟨[Value.str z t, .ref x], []⟩) (GQ.FinOf prog w A (wants (fun v s' => v = .notImplemented ∧ Q none s') E)) (fun e s' => wants (fun v s' => v = .notImplemented ∧ Q none s') E (.error e) s') s := by
    obtain ⟨hp, g, d, tk, os⟩ := s
    unfold Builtin.«str.__eq__» Builtin.Str.strCompare
    wp_walk using wpAny_loadPart' hx
    exact ⟨rfl, h tk⟩
  have h6 := @GQ.call_here prog w A E s "str" (cmpInfo .Eq).2.1 "str.__eq__" Builtin.«str.__eq__» (Value.str z t) [.ref x] (fun v s' => v = .notImplemented ∧ Q none s') h2 ht h3 h4 h5
  exact @wpAny_tryCompare_declines (model prog w) A E s (Value.str z t) (.ref x) "str" (cmpInfo .Eq).2.1 "str.__eq__" Q ht h2 h6
theorem cdec_dict_eq : CDec .Eq "dict" := by
  intro prog w A E s K x C dx od v Q ht hs hi hb hn X hx J sub h
  have h2 : Slot "dict" (cmpInfo .Eq).2.1 "dict.__eq__" := PySem.F.slot_dict_eq
  have h3 : entryFor table "dict.__eq__" = some Builtin.«dict.__eq__» := PySem.F.entry_dict_eq
  have h4 : argsOk "dict.__eq__" ⟨[v, .ref x], []⟩ := PySem.F.args_dict_eq_2 _ _
  have h5 : wpAny (model prog w) A.in1 (Builtin.«dict.__eq__» ⟨[v, .ref x], []⟩) (GQ.FinOf prog w A (wants (fun v s' => v = .notImplemented ∧ Q none s') E)) (fun e s' => wants (fun v s' => v = .notImplemented ∧ Q none s') E (.error e) s') s := by
    refine wpAny_bind (m := Builtin.Dict.dictSlotArgs _ _) (wpAny_of_eq (a := (v, .ref x)) rfl ?_)
    refine wpAny_bind (m := isInstance (.ref x) (.type "dict")) (isInst_no X J sub ?_)
    exact wpAny_bind (wpAny_rule (wpAny_pure ⟨rfl, h s.toks⟩))
  have h6 := @GQ.call_here prog w A E s "dict" (cmpInfo .Eq).2.1 "dict.__eq__" Builtin.«dict.__eq__» (v) [.ref x] (fun v s' => v = .notImplemented ∧ Q none s') h2 ht h3 h4 h5
  exact @wpAny_tryCompare_declines (model prog w) A E s (v) (.ref x) "dict" (cmpInfo .Eq).2.1 "dict.__eq__" Q ht h2 h6
theorem cdec_list_eq : CDec .Eq "list" := by
  intro prog w A E s K x C dx od v Q ht hs hi hb hn X hx J sub h
  have h2 : Slot "list" (cmpInfo .Eq).2.1 "list.__eq__" := PySem.F.slot_list_eq
  have h3 : entryFor table "list.__eq__" = some Builtin.«list.__eq__» := PySem.F.entry_list_eq
  have h4 : argsOk "list.__eq__" ⟨[v, .ref x], []⟩ := PySem.F.args_list_eq_2 _ _
  have h5 : wpAny (model prog w) A.in1 (Builtin.«list.__eq__» ⟨[v, .ref x], []⟩) (GQ.FinOf prog w A (wants (fun v s' => v = .notImplemented ∧ Q none s') E)) (fun e s' => wants (fun v s' => v = .notImplemented ∧ Q none s') E (.error e) s') s := by
    refine wpAny_bind (m := slotArgs _ 1 _) (wpAny_of_eq (a := (v, [.ref x])) rfl ?_)
    refine wpAny_bind (m := isInstance (.ref x) (.type "list")) (isInst_no X J sub ?_)
    exact wpAny_pure ⟨rfl, h s.toks⟩
  have h6 := @GQ.call_here prog w A E s "list" (cmpInfo .Eq).2.1 "list.__eq__" Builtin.«list.__eq__» (v) [.ref x] (fun v s' => v = .notImplemented ∧ Q none s') h2 ht h3 h4 h5
  exact @wpAny_tryCompare_declines (model prog w) A E s (v) (.ref x) "list" (cmpInfo .Eq).2.1 "list.__eq__" Q ht h2 h6
theorem cdec_tuple_eq : CDec .Eq "tuple" := by
  intro prog w A E s K x C dx od v Q ht hs hi hb hn X hx J sub h
  have h2 : Slot "tuple" (cmpInfo .Eq).2.1 "tuple.__eq__" := PySem.F.slot_tuple_eq
  have h3 : entryFor table "tuple.__eq__" = some Builtin.«tuple.__eq__» := PySem.F.entry_tuple_eq
  have h4 : argsOk "tuple.__eq__" ⟨[v, .ref x], []⟩ := PySem.F.args_tuple_eq_2 _ _
  have h5 : wpAny (model prog w) A.in1 (Builtin.«tuple.__eq__» ⟨[v, .ref x], []⟩) (GQ.FinOf prog w A (wants (fun v s' => v = .notImplemented ∧ Q none s') E)) (fun e s' => wants (fun v s' => v = .notImplemented ∧ Q none s') E (.error e) s') s := by
    refine wpAny_bind (m := slotArgs _ 1 _) (wpAny_of_eq (a := (v, [.ref x])) rfl ?_)
    refine wpAny_bind (m := isInstance (.ref x) (.type "tuple")) (isInst_no X J sub ?_)
    exact wpAny_pure ⟨rfl, h s.toks⟩
  have h6 := @GQ.call_here prog w A E s "tuple" (cmpInfo .Eq).2.1 "tuple.__eq__" Builtin.«tuple.__eq__» (v) [.ref x] (fun v s' => v = .notImplemented ∧ Q none s') h2 ht h3 h4 h5
  exact @wpAny_tryCompare_declines (model prog w) A E s (v) (.ref x) "tuple" (cmpInfo .Eq).2.1 "tuple.__eq__" Q ht h2 h6
end Gs

set_option maxRecDepth 100000
set_option maxHeartbeats 4000000
/-! comparisons with an own value on either side, x += y, != by the own == -/
namespace Gs
open PySem PySem.Spec PyProof.Rows L2 PySem.Calls PySem.W
/-- a plain value of the language and its type -/
inductive PlV (H : Hp) : V → String → Prop where
  | non : PlV H .non "NoneType"
  | bl (b : Bool) : PlV H (.bl b) "bool"
  | int (i : Int) : PlV H (.int i) "int"
  | str (x : Str) : PlV H (.str x) "str"
  | lst {a : Addr} {xs : List V} (h : H a = some (.lst xs)) : PlV H (.ref a) "list"
  | tup {a : Addr} {xs : List V} (h : H a = some (.tup xs)) : PlV H (.ref a) "tuple"
  | dK {a : Addr} {xs : List (Key × V)} (h : H a = some (.dK xs)) : PlV H (.ref a) "dict"
section
variable {K : PySem.W.Frag} {C : Addr} {H H' : Hp} {v : V} {T : String}
theorem PlV.ext (p : PlV H v T) (e : Gs.Ext H H') : PlV H' v T := by
  cases p with
  | non => exact .non
  | bl b => exact .bl b
  | int i => exact .int i
  | str x => exact .str x
  | lst h => exact .lst (e _ _ h)
  | tup h => exact .tup (e _ _ h)
  | dK h => exact .dK (e _ _ h)
theorem PlV.extN (p : PlV H v T) (e : LamX.ExtN H H') : PlV H' v T := by
  cases p with
  | non => exact .non
  | bl b => exact .bl b
  | int i => exact .int i
  | str x => exact .str x
  | lst h => exact .lst (ExtN.lst e h)
  | tup h => exact .tup (ExtN.tup e h)
  | dK h => exact .dK (e _ _ h fun _ z => by cases z)
theorem PlV.ty (p : PlV H v T) : TyX K H v (.type T) := by
  cases p with
  | non => exact .base .non
  | bl b => exact .base (.bl b)
  | int i => exact .base (.int i)
  | str x => exact .base (.str x)
  | lst h => exact .base (.lst h)
  | tup h => exact .base (.tup h)
  | dK h => exact .base (.dK h)
theorem PlV.any (p : PlV H v T) : AnyV K C H v := by
  cases p with
  | non => exact .non
  | bl b => exact .bl b
  | int i => exact .int i
  | str x => exact .str x
  | lst h => exact .lst h
  | tup h => exact .tup h
  | dK h => exact .dK h
theorem PlV.mem (p : PlV H v T) : T ∈ (["NoneType", "bool", "int", "str", "list", "tuple", "dict"] : List String) := by
  cases p <;> decide
end
section
variable {X : Cx} {pins : List (Addr × Obj)} {σ : L2.St} {H : Hp} {s : Shared} {v : V} {u : Value} {T : String}
theorem PlV.is (p : PlV H v T) (I : Inv X pins σ H s) (r : RelV v u) :
    s.TypeIs u T ∧ (T = "str" → ∃ z t, u = .str z t) ∧ (T = "int" → ∃ i t, u = .int i t) ∧ (T = "bool" → ∃ b, u = .bool b) ∧ (T = "NoneType" → u = .none) := by
  cases p with
  | non =>
    cases r
    exact ⟨rfl, fun e => absurd e (by decide), fun e => absurd e (by decide), fun e => absurd e (by decide), fun _ => rfl⟩
  | bl b =>
    cases r
    exact ⟨rfl, fun e => absurd e (by decide), fun e => absurd e (by decide), fun _ => ⟨_, rfl⟩, fun e => absurd e (by decide)⟩
  | int i =>
    obtain ⟨t, rfl⟩ := r
    exact ⟨rfl, fun e => absurd e (by decide), fun _ => ⟨_, _, rfl⟩, fun e => absurd e (by decide), fun e => absurd e (by decide)⟩
  | str x =>
    obtain ⟨t, rfl⟩ := r
    exact ⟨rfl, fun _ => ⟨_, _, rfl⟩, fun e => absurd e (by decide), fun e => absurd e (by decide), fun e => absurd e (by decide)⟩
  | lst h =>
    cases r
    obtain ⟨_, its, n, _, e⟩ := I.hok _ _ h
    exact ⟨⟨_, e, rfl⟩, fun e => absurd e (by decide), fun e => absurd e (by decide), fun e => absurd e (by decide), fun e => absurd e (by decide)⟩
  | tup h =>
    cases r
    obtain ⟨_, its, _, o, e, c, _⟩ := I.hok _ _ h
    exact ⟨⟨o, e, c⟩, fun e => absurd e (by decide), fun e => absurd e (by decide), fun e => absurd e (by decide), fun e => absurd e (by decide)⟩
  | dK h =>
    cases r
    obtain ⟨_, _, vs, _, o, es, ep, e, c, _⟩ := I.hok _ _ h
    exact ⟨⟨o, e, c.1⟩, fun e => absurd e (by decide), fun e => absurd e (by decide), fun e => absurd e (by decide), fun e => absurd e (by decide)⟩
end
section
variable {prog : Program} {w : World} {A : Around} {E : Value → Shared → Prop} {s : Shared} {K : PySem.W.Frag} {x C f : Addr} {ox : Obj} {od : Option Obj} {v : Value} {T : String} {op : CmpOp} {Q : Value → Shared → Prop}
/-- y op x, x an own value: y declines, the reflected method answers -/
theorem rc_right (hu : A.units < cLine) (X : K.In s.heap) (I : PySem.W.InstAt s.heap x ox C od) (ht : s.TypeIs v T) (sub : PySem.W.subIn K (.ref C) (.type T) = some false)
    (dec : ∀ Q' : Option Value → Shared → Prop, (∀ tk, Q' none { s with toks := tk }) → wpAny (model prog w) A (tryCompare v (cmpInfo op).2.1 (.ref x)) Q' E s)
    (h : ∀ tk, wpAny (model prog w) A (tryCompare (.ref x) (cmpInfo op).2.2 v) (fun r s' => ∃ z, r = some z ∧ Q z s') E { s with toks := tk }) :
    wpAny (model prog w) A (richCompare op v (.ref x)) Q E s := by
  unfold richCompare
  simp only [ht.oneThing_none]
  refine wpAny_holding (wpAny_bind (wpAny_cRoomFor hu ?_))
  refine wpAny_bind (wpAny_typeOf ht (wpAny_bind (I.type.here ?_)))
  have ne : (Value.type T != Value.ref C) = true := by
    unfold bne
    rw [ne_type_ref] <;> rfl
  rw [if_pos ne]
  refine wpAny_bind ((PySem.W.looks_subIn X sub).here ?_)
  simp only [Bool.false_eq_true, if_false]
  refine wpAny_bind (dec _ fun tk => ?_)
  simp only [Bool.not_false, if_true]
  refine wpAny_bind (wpAny_mono (h tk) (fun r s' z => ?_) fun _ _ e => e)
  obtain ⟨z', rfl, hq⟩ := z
  exact wpAny_pure hq
theorem tryC_own {y : Value} {m : Str} (X : K.In s.heap) (I : PySem.W.InstAt s.heap x ox C od) (hs : PySem.W.findIn K (.ref C) m = some (some (.ref f))) (hf : PySem.W.isFn K (.ref f) = true)
    (h : wpAny (model prog w) A (call (.ref f) [.ref x, y]) (PySem.W.CmpBack Q) E s) : wpAny (model prog w) A (tryCompare (.ref x) m y) (fun r s' => ∃ z, r = some z ∧ Q z s') E s := by
  unfold tryCompare
  refine wpAny_bind (PySem.W.ifBound_K X I hs hf (wpAny_mono h (fun z s' hz => ?_) fun _ _ e => e))
  cases z <;> first | exact hz.elim | exact wpAny_pure ⟨_, rfl, hz⟩
/-- x.__ne__(y) by the own == -/
theorem tryC_ne {y : Value} (hu : A.units + 1 < cLine) (X : K.In s.heap) (I : PySem.W.InstAt s.heap x ox C od) (hn : PySem.W.findIn K (.ref C) "__ne__" = some (some (.builtin "object.__ne__"))) (ho : PySem.W.subIn K (.ref C) (.type "object") = some true)
    (hs : PySem.W.findIn K (.ref C) "__eq__" = some (some (.ref f))) (hf : PySem.W.isFn K (.ref f) = true)
    (h : wpAny (model prog w) A.in1 (call (.ref f) [.ref x, y]) (fun v s' => ∃ b, v = .bool b ∧ Q (.bool (!b)) s') E s) : wpAny (model prog w) A (tryCompare (.ref x) "__ne__" y) (fun r s' => ∃ z, r = some z ∧ Q z s') E s := by
  unfold tryCompare
  have body : wpAny (model prog w) A (call (.builtin "object.__ne__") [.ref x, y]) (fun v s' => ∃ b, v = .bool b ∧ Q (.bool b) s') E s := by
    have hi : Looks (model prog w) s.heap (isInstance (.ref x) (.type "object")) true := I.type.andThen (PySem.W.looks_subIn X ho)
    refine wpAny_call (codeAny_call_builtin PySem.F.cmp_object.ne.plain PySem.F.cmpEntry_ne (PySem.W.check_slot PySem.F.cmpKind_ne PySem.F.cmpSplit_ne hi (PySem.F.cmpArgs_ne _ _) ?_))
    unfold Builtin.«object.__ne__»
    refine wpAny_bind (m := slotArgs _ 1 _) (wpAny_of_eq (a := (.ref x, [y])) rfl ?_)
    refine wpAny_bind (wpAny_cRoomFor (A := A.in1) hu ?_)
    refine wpAny_bind (m := callSpecialIfBound? (.ref x) (Str.ofString "__eq__") [y]) (PySem.W.ifBound_K X I hs hf (wpAny_mono h (fun z s' hz => ?_) fun _ _ e => e))
    obtain ⟨b, rfl, q⟩ := hz
    refine wpAny_bind (m := truthy (.bool b)) (wpAny_truthy_bool (wpAny_pure ?_))
    exact ⟨!b, rfl, q⟩
  have one : wpAny (model prog w) A (callSpecialIfBound? (.ref x) "__ne__" [y]) (fun r s' => ∃ b, r = some (.bool b) ∧ Q (.bool b) s') E s := by
    simp only [callSpecialIfBound?, bindSpecialIfBound?]
    refine wpAny_holding (wpAny_bind (wpAny_bind (wpAny_bind (I.type.here ((PySem.W.looks_findIn X hn).here ?_)))))
    have bd := PySem.F.cmp_object.ne.bind (.ref x)
    have fin : wpAny (model prog w) A (call (.builtin "object.__ne__") ([.ref x] ++ [y]) >>= fun v => pure (some v)) (fun r s' => ∃ b, r = some (.bool b) ∧ Q (.bool b) s') E s :=
      wpAny_bind (wpAny_mono body (fun v s' ⟨b, e, q⟩ => wpAny_pure ⟨b, by rw [e], q⟩) fun _ _ z => z)
    refine wpAny_bind (wpAny_askSetting (wpAny_ite ?_))
    split
    · exact wpAny_bind (wpAny_of_eq bd (wpAny_pure (by exact fin)))
    · exact wpAny_tryCatch (wpAny_bind (wpAny_of_eq bd (wpAny_pure (by exact fin))))
  refine wpAny_bind (wpAny_mono one (fun r s' hr => ?_) fun _ _ z => z)
  obtain ⟨b, rfl, q⟩ := hr
  exact wpAny_pure ⟨_, rfl, q⟩
end
section
variable {prog : Program} {w : World} {A : Around} {E : Value → Shared → Prop} {s : Shared} {K : PySem.W.Frag} {x C f : Addr} {ox : Obj} {od : Option Obj} {b tb : Value} {op : CmpOp} {Q : Value → Shared → Prop}
theorem rc_left (hu : A.units < cLine) (X : K.In s.heap) (I : PySem.W.InstAt s.heap x ox C od) (hb : Looks (model prog w) s.heap (typeOf b) tb) (hn : PySem.W.notFirst K C tb = true)
    (h : wpAny (model prog w) A (tryCompare (.ref x) (cmpInfo op).2.1 b) (fun r s' => ∃ z, r = some z ∧ Q z s') E s) : wpAny (model prog w) A (richCompare op (.ref x) b) Q E s := by
  unfold richCompare
  simp only [oneThing_ref]
  refine wpAny_holding (wpAny_bind (wpAny_cRoomFor hu (wpAny_bind (I.type.here (wpAny_bind (hb.here ?_))))))
  have fin : wpAny (model prog w) A (tryCompare (.ref x) (cmpInfo op).2.1 b) (fun r s' => ∃ z, r = some z ∧ Q z s') E s := h
  by_cases q : (Value.ref C != tb) = true
  · rw [if_pos q]
    have e : PySem.W.subIn K tb (.ref C) = some false := by
      rcases Bool.or_eq_true_iff.mp hn with e | e
      · rw [beq_iff_eq.mp e] at q
        simp at q
      · exact beq_iff_eq.mp e
    refine wpAny_bind ((PySem.W.looks_subIn X e).here ?_)
    simp only [Bool.false_eq_true, if_false]
    refine wpAny_bind (wpAny_mono fin (fun r s' z => ?_) fun _ _ e => e)
    obtain ⟨v, rfl, hq⟩ := z
    exact wpAny_pure hq
  · rw [if_neg q]
    refine wpAny_bind (wpAny_pure ?_)
    simp only [Bool.false_eq_true, if_false]
    refine wpAny_bind (wpAny_mono fin (fun r s' z => ?_) fun _ _ e => e)
    obtain ⟨v, rfl, hq⟩ := z
    exact wpAny_pure hq
end
def T7 : List String := ["NoneType", "bool", "int", "str", "list", "tuple", "dict"]
section
variable {X : Cx} {CX : CXT} {k k2 : Nat} {f g C : Addr} {ps ps2 : List Str} {dvs : List V} {sp spL spR : Sp} {E : XK} {pins : List (Addr × Obj)} {σ : L2.St} {H : Hp} {s : Shared} {Q : VK} {vs : List V} {us : List Value}
theorem own_runA {A : Around} (D : FunOk X.prog X.w X.K X.mg X.base CX k f ps dvs sp) (sb : L2.Sub X k A) (hx : Passes CX X E) (I : Inv X pins σ H s) (rv : Vals vs us) (h : sp (vs ++ dvs) H Q E) :
    wpAny (model X.prog X.w) A (call (.ref f) us) (EP X pins σ Q) X.xe s := by
  obtain ⟨fd, ds, F, hb, hd⟩ := D.ex
  have rr := rv.append hd
  have lz : (us ++ ds).length = ps.length := rr.length ▸ F.len _ _ _ _ h
  have e0 : Env0 X.prog X.w X.K X.mg X.base A X.stack s H := by
    have e := I.env0
    exact ⟨by rw [sb.fr]; exact e.frames, e.mod, e.bs, e.bsz, e.funs, e.frf, e.hok, e.bare⟩
  refine wpAny_call (codeAny_mono (F.run A X.stack s H ⟨us, []⟩ _ _ Q E sb.room e0 (hb s us I.kIn lz) rr h) ?_)
  intro r s' hq
  match r, hq with
  | .error e, hq => exact hx pins σ H s e s' I hq
  | .ok (.ret u), hq => exact I.after hq
  | .ok .next, hq => exact hq.elim
  | .ok .brk, hq => exact hq.elim
  | .ok .cont, hq => exact hq.elim
/-- y op x, x of the class -/
def rCmpR (K : PySem.W.Frag) (C : Addr) (op : CmpOp) (sp : Sp) (E : XK) : R2 := fun x y H Q => ∃ b dy gs T, y = .ref b ∧ H b = some (.ins C dy gs) ∧ PlV H x T ∧ CDec op T ∧ sp [y, x] H Q E
theorem op_cmpR {op : CmpOp} (DR : FunOk X.prog X.w X.K X.mg X.base CX k g ps [] sp) (hs : findIn X.K (.ref C) (cmpInfo op).2.2 = some (some (.ref g))) (hf : isFn X.K (.ref g) = true) (sub : ∀ T ∈ T7, subIn X.K (.ref C) (.type T) = some false) (hr : Room k X.A) (hx : Passes CX X E)
    (ho : ∀ a b, compareOp op a b = richCompare op a b := by intros; rfl) : OpR X (compareOp op) (rCmpR X.K C op sp E) := by
  intro pins s σ H x y v u Q I rx ry h
  obtain ⟨b, dy, gs, T, rfl, hi, pl, cd, h⟩ := h
  cases ry
  obtain ⟨hb, od, J⟩ := ins_at I hi
  obtain ⟨i1, i2, i3, i4, i5⟩ := pl.is I rx
  have sb := sub T pl.mem
  rw [ho]
  exact rc_right hr.units0 I.kIn J i1 sb (fun Q' hq => cd _ _ _ _ _ _ _ _ _ _ _ _ i1 i2 i3 i4 i5 I.kIn hb J sb hq)
    fun tk => tryC_own (s := { s with toks := tk }) I.kIn J hs hf (wpAny_mono (own_run DR hr hx (I.tok tk) (vs := [.ref b, x]) (.cons rfl (.cons rx .nil)) h) (fun _ _ z => back_of z) fun _ _ z => z)
theorem op_both {f : Value → Value → Sem Value} {r1 r2 : R2} (h1 : OpR X f r1) (h2 : OpR X f r2) : OpR X f (fun x y H Q => r1 x y H Q ∨ r2 x y H Q) :=
  fun pins s σ H x y v u Q I rx ry h => h.elim (h1 pins s σ H x y v u Q I rx ry) (h2 pins s σ H x y v u Q I rx ry)
/-- x != y, x of the class, by the own == -/
def rNeO (K : PySem.W.Frag) (C : Addr) (sp : Sp) (E : XK) : R2 := fun x y H Q => ∃ a dx fs t, x = .ref a ∧ H a = some (.ins C dx fs) ∧ TyX K H y t ∧ notFirst K C t = true ∧ sp [x, y] H (fun v H' => ∃ b, v = .bl b ∧ Q (.bl (!b)) H') E
/-- .. y of the class -/
def rNeR (K : PySem.W.Frag) (C : Addr) (sp : Sp) (E : XK) : R2 := fun x y H Q => ∃ b dy gs T, y = .ref b ∧ H b = some (.ins C dy gs) ∧ PlV H x T ∧ CDec .NotEq T ∧ sp [y, x] H (fun v H' => ∃ b, v = .bl b ∧ Q (.bl (!b)) H') E
theorem ne_back {v : Value} {s' : Shared} (h : EP X pins σ (fun v H' => ∃ b, v = .bl b ∧ Q (.bl (!b)) H') v s') : ∃ b, v = .bool b ∧ EP X pins σ Q (.bool (!b)) s' := by
  obtain ⟨z, H', I, r, b, rfl, q⟩ := h
  cases r
  exact ⟨b, rfl, .bl (!b), H', I, rfl, q⟩
theorem op_neO (D : FunOk X.prog X.w X.K X.mg X.base CX k f ps [] sp) (hn : findIn X.K (.ref C) "__ne__" = some (some (.builtin "object.__ne__"))) (hob : subIn X.K (.ref C) (.type "object") = some true)
    (hs : findIn X.K (.ref C) "__eq__" = some (some (.ref f))) (hf : isFn X.K (.ref f) = true) (hr : Room (k + 1) X.A) (hx : Passes CX X E) : OpR X (compareOp .NotEq) (rNeO X.K C sp E) := by
  intro pins s σ H x y v u Q I rx ry h
  obtain ⟨a, dx, fs, t, rfl, hi, ty, hnf, h⟩ := h
  cases rx
  obtain ⟨_, od, J⟩ := ins_at I hi
  obtain ⟨P, Z, p, _⟩ := kit_of I ry ty
  show wpAny _ _ (richCompare .NotEq (.ref a) u) _ _ s
  exact rc_left hr.units0 I.kIn J (Z.ty _ _ I.kIn p) hnf (tryC_ne (by have := hr.un; omega) I.kIn J hn hob hs hf
    (wpAny_mono (own_runA D ⟨hr.in1, rfl⟩ hx I (vs := [.ref a, y]) (.cons rfl (.cons ry .nil)) h) (fun _ _ z => ne_back z) fun _ _ z => z))
theorem op_neR (D : FunOk X.prog X.w X.K X.mg X.base CX k f ps [] sp) (hn : findIn X.K (.ref C) "__ne__" = some (some (.builtin "object.__ne__"))) (hob : subIn X.K (.ref C) (.type "object") = some true)
    (hs : findIn X.K (.ref C) "__eq__" = some (some (.ref f))) (hf : isFn X.K (.ref f) = true) (sub : ∀ T ∈ T7, subIn X.K (.ref C) (.type T) = some false) (hr : Room (k + 1) X.A) (hx : Passes CX X E) : OpR X (compareOp .NotEq) (rNeR X.K C sp E) := by
  intro pins s σ H x y v u Q I rx ry h
  obtain ⟨b, dy, gs, T, rfl, hi, pl, cd, h⟩ := h
  cases ry
  obtain ⟨hb, od, J⟩ := ins_at I hi
  obtain ⟨i1, i2, i3, i4, i5⟩ := pl.is I rx
  have sb := sub T pl.mem
  show wpAny _ _ (richCompare .NotEq v (.ref b)) _ _ s
  exact rc_right hr.units0 I.kIn J i1 sb (fun Q' hq => cd _ _ _ _ _ _ _ _ _ _ _ _ i1 i2 i3 i4 i5 I.kIn hb J sb hq)
    fun tk => tryC_ne (s := { s with toks := tk }) (by have := hr.un; omega) I.kIn J hn hob hs hf
      (wpAny_mono (own_runA D ⟨hr.in1, rfl⟩ hx (I.tok tk) (vs := [.ref b, x]) (.cons rfl (.cons rx .nil)) h) (fun _ _ z => ne_back z) fun _ _ z => z)
end
section
variable {prog : Program} {w : World} {A : Around} {E : Value → Shared → Prop} {s : Shared} {K : PySem.W.Frag} {x C f L : Addr} {h0 : Heap} {m : Str → Option Value} {ox : Obj} {od : Option Obj}
/-- bool(x) by the own __bool__ -/
theorem bool_own {Q : Value → Shared → Prop} (F : Fr h0 L s.heap m) (X : K.In h0) (I : PySem.W.InstAt s.heap x ox C od) (hs : PySem.W.findIn K (.ref C) "__bool__" = some (some (.ref f))) (hf : PySem.W.isFn K (.ref f) = true)
    (h : wpAny (model prog w) A.in1.in1 (call (.ref f) [.ref x]) (fun r s1 => ∃ b, r = Value.bool b ∧ Q r s1) E s) : wpAny (model prog w) A (call (.type "bool") [.ref x]) Q E s := by
  refine callType_codes (T := "bool") (Bi := Builtin.«object.__init__») (Q₁ := fun r s₁ => ∃ b, r = Value.bool b ∧ Q r s₁) PySem.F.called_bool (PySem.F.typeCall_bool_1 _) PySem.F.entry_object_init ?_ ?_
  · refine codeAny_of_tree ?_
    show wpAny _ A.in1.in1 (do checkBuiltinCall "bool.__new__" ⟨[.type "bool", .ref x], []⟩; again (.builtin "bool.__new__" ⟨[.type "bool", .ref x], []⟩)) _ _ s
    refine wpAny_bind (wpAny_of_eq (PySem.F.newCall_bool_1 _) (wpAny_pure ⟨plainId_quiet (by decide +kernel) _, codeAny_builtin PySem.F.entry_bool_new ?_⟩))
    rw [Around.under_plainId (by decide +kernel) _]
    unfold Builtin.«bool.__new__»
    have f1 := PySem.F.conv_sub_bool
    have tr : wpAny (model prog w) A.in1.in1 (truthy (.ref x)) (fun b s1 => Q (.bool b) s1) E s := PySem.W.truthy_K F X I hs hf (wpAny_mono h (fun r s1 ⟨b, e, q⟩ => by
      subst e
      exact q) fun _ _ z => z)
    refine wpAny_bind (wpAny_of_eq (a := true) rfl ?_)
    refine PySem.W.KFB.if_not rfl ?_
    refine wpAny_bind (wpAny_of_eq (a := true) f1 ?_)
    refine PySem.W.KFB.if_not rfl ?_
    refine wpAny_bind (m := someArgs "bool" 0 1 _) (wpAny_of_eq (a := [.ref x]) rfl ?_)
    exact wpAny_bind (wpAny_mono tr (fun b s1 q => wpAny_pure ⟨b, rfl, q⟩) fun _ _ z => z)
  · rintro obj s₁ ⟨b, rfl, hq⟩
    exact ⟨rfl, PySem.F.args_object_init_2 _ _, object_init_meets PySem.F.called_bool.init.lookup PySem.F.called_bool.made (by decide) prog w A.in1 _ s₁ ⟨rfl, rfl, hq⟩⟩
end
/-! ### x += y -/
structure InpF (K : PySem.W.Frag) (C : Addr) (nm : String) : Prop where
  mro : ∃ cd, PySem.W.clsIn K C = some cd ∧ cd.mro = [.ref C, .type "object"]
  c : PySem.W.findIn K (.ref C) (dunderI nm) = some none
  o : PySem.W.findIn K (.type "object") (dunderI nm) = some none
  i : PySem.W.findIn K (.type "int") (dunderI nm) = some none
theorem fillsI_own {M : Model} {h : Heap} {K : PySem.W.Frag} {C : Addr} {nm : String} {add : Bool} (X : K.In h) (F : InpF K C nm) : Looks M h (fillsInplaceSlot (.ref C) nm add) false := by
  intro A Q E s k q
  obtain ⟨cd, hc, hm⟩ := F.mro
  have Lm : Looks M h (mroOf (.ref C)) cd.mro := (PySem.W.looks_clsIn X hc).andThen (f := fun cd => pure cd.mro) .now
  have Lm' := Lm.keeps k
  obtain ⟨hh, g, d, tt, os⟩ := s
  have X' : K.In hh := X.keeps k
  have L1 : Looks M hh (typeLookup (.ref C) (dunderI nm)) none := PySem.W.looks_findIn X' F.c
  have L2 : Looks M hh (typeLookup (.type "object") (dunderI nm)) none := PySem.W.looks_findIn X' F.o
  unfold fillsInplaceSlot
  refine wpAny_bind (Lm'.at ?_)
  rw [hm, List.anyM_cons]
  refine wpAny_bind ?_
  repeat lk
  exact q
theorem fillsI_int {M : Model} {h : Heap} {K : PySem.W.Frag} {C : Addr} {nm : String} {add : Bool} (X : K.In h) (F : InpF K C nm) : Looks M h (fillsInplaceSlot (.type "int") nm add) false := by
  intro A Q E s k q
  obtain ⟨hh, g, d, tt, os⟩ := s
  have X' : K.In hh := X.keeps k
  have L1 : Looks M hh (typeLookup (.type "int") (dunderI nm)) none := PySem.W.looks_findIn X' F.i
  unfold fillsInplaceSlot
  repeat lk
  exact q
section
variable {X : Cx} {CX : CXT} {k k2 : Nat} {f g C : Addr} {ps ps2 : List Str} {sp spL spR : Sp} {E : XK}
/-- the left one an int or an own value -/
def rInpO (K : PySem.W.Frag) (C : Addr) (nm : String) (spL spR : Sp) (E : XK) : R2 := fun x y H Q => ((∃ i, x = .int i) ∨ ∃ a dx fs, x = .ref a ∧ H a = some (.ins C dx fs)) ∧ rBinO K C nm spL spR E x y H Q
theorem ip_binO {op : Operator} (DL : FunOk X.prog X.w X.K X.mg X.base CX k f ps [] spL) (DR : FunOk X.prog X.w X.K X.mg X.base CX k2 g ps2 [] spR) (F : OwnB X.K C op.info.2 f g) (IF : InpF X.K C op.info.2) (hr : Room k X.A) (hr2 : Room k2 X.A) (hx : Passes CX X E) :
    PIp X op (rInpO X.K C op.info.2 spL spR E) := by
  intro pins s σ H x y v u Q I rx ry ⟨hk, h⟩
  have run := bin1_own DL DR F hr hr2 hx I rx ry h
  have ty : ∃ t, Looks (model X.prog X.w) s.heap (typeOf v) t ∧ ∀ add, Looks (model X.prog X.w) s.heap (fillsInplaceSlot t op.info.2 add) false := by
    rcases hk with ⟨i, rfl⟩ | ⟨a, dx, fs, rfl, hi⟩
    · obtain ⟨t, rfl⟩ := rx
      exact ⟨_, Looks.of_pure rfl, fun add => fillsI_int I.kIn IF⟩
    · cases rx
      obtain ⟨_, od, J⟩ := ins_at I hi
      exact ⟨_, J.type, fun add => fillsI_own I.kIn IF⟩
  obtain ⟨t, lt, lf⟩ := ty
  unfold inplaceOp
  refine wpAny_holding (wpAny_bind (lt.here (wpAny_bind ((lf _).here ?_))))
  simp only [Bool.false_eq_true, if_false]
  refine wpAny_bind (wpAny_mono run (fun r s' hq => ?_) fun _ _ z => z)
  obtain ⟨z, rfl, hq⟩ := hq
  exact wpAny_pure hq
/-- bool(x) -/
def rBoolO (C : Addr) (sp : Sp) (E : XK) : List V → Hp → VK → Prop := fun vs H Q => ∃ a dx fs, vs = [.ref a] ∧ H a = some (.ins C dx fs) ∧ sp [.ref a] H (fun v H' => ∃ b, v = .bl b ∧ Q (.bl b) H') E
theorem call_boolO (D : FunOk X.prog X.w X.K X.mg X.base CX k f ps [] sp) (hs : findIn X.K (.ref C) "__bool__" = some (some (.ref f))) (hf : isFn X.K (.ref f) = true) (hr : Room (k + 2) X.A) (hx : Passes CX X E) : CallR X (.type "bool") (rBoolO C sp E) := by
  intro pins s σ H xs us Q I r h
  obtain ⟨a, dx, fs, rfl, hi, h⟩ := h
  obtain ⟨u, rfl, r1⟩ := vals1 r
  cases r1
  obtain ⟨_, od, J⟩ := ins_at I hi
  obtain ⟨m, hF⟩ := I.fr
  exact bool_own hF I.ok.mod.kin J hs hf (wpAny_mono (own_runA D ⟨hr.in1.in1, rfl⟩ hx I (vs := [.ref a]) (.cons rfl .nil) h) (fun v s' ⟨z, H', I', rz, b, e, q⟩ => by
    subst e
    cases rz
    exact ⟨b, rfl, .bl b, H', I', rfl, q⟩) fun _ _ z => z)
end
def inpB (K : PySem.W.Frag) (C : Addr) (nm : String) : Bool :=
  (match PySem.W.clsIn K C with
    | some cd => decide (cd.mro = [.ref C, .type "object"])
    | none => false) && (decide (PySem.W.findIn K (.ref C) (dunderI nm) = some none) && (decide (PySem.W.findIn K (.type "object") (dunderI nm) = some none) && decide (PySem.W.findIn K (.type "int") (dunderI nm) = some none)))
theorem inpB_ok {K : PySem.W.Frag} {C : Addr} {nm : String} (h : inpB K C nm = true) : InpF K C nm := by
  obtain ⟨h1, h⟩ := He.ba h
  obtain ⟨h2, h⟩ := He.ba h
  obtain ⟨h3, h4⟩ := He.ba h
  refine ⟨?_, of_decide_eq_true h2, of_decide_eq_true h3, of_decide_eq_true h4⟩
  cases a : PySem.W.clsIn K C with
  | none =>
    rw [a] at h1
    cases h1
  | some cd =>
    rw [a] at h1
    exact ⟨cd, rfl, of_decide_eq_true h1⟩
end Gs

namespace Gs
open PySem L2
theorem rG_abs (i j : Int) : (rG i j).natAbs = Int.gcd i j := by
  unfold rG
  split <;> simp
theorem r_mul (i : Int) {j : Int} (h : j ≠ 0) : rG i j * rN i j = i ∧ rG i j * rD i j = j := by
  obtain ⟨⟨c, hc⟩, ⟨d, hd⟩⟩ := rG_dvd i j
  have z := rG_ok i h
  constructor
  · have : rN i j = c := by
      unfold rN
      generalize hg : rG i j = g at *
      rw [hc]
      exact Int.mul_fdiv_cancel_left _ z
    rw [this, ← hc]
  · have : rD i j = d := by
      unfold rD
      generalize hg : rG i j = g at *
      rw [hd]
      exact Int.mul_fdiv_cancel_left _ z
    rw [this, ← hd]
theorem r_cop (i : Int) {j : Int} (h : j ≠ 0) : Int.gcd (rN i j) (rD i j) = 1 := by
  obtain ⟨h1, h2⟩ := r_mul i h
  have e := Int.gcd_mul_left (rG i j) (rN i j) (rD i j)
  rw [h1, h2, rG_abs] at e
  have p : 0 < Int.gcd i j := Nat.pos_of_ne_zero fun z => h (Int.gcd_eq_zero_iff.mp z).2
  exact Nat.eq_of_mul_eq_mul_left p (by rw [← e, Nat.mul_one])
theorem r_pos (i : Int) {j : Int} (h : j ≠ 0) : 0 < rD i j := by
  obtain ⟨_, h2⟩ := r_mul i h
  have p : 0 < Int.gcd i j := Nat.pos_of_ne_zero fun z => h (Int.gcd_eq_zero_iff.mp z).2
  unfold rG at h2
  split at h2
  · rename_i hj
    rcases Int.lt_or_le 0 (rD i j) with q | q
    · exact q
    · have : 0 ≤ -(Int.gcd i j : Int) * rD i j := Int.mul_nonneg_of_nonpos_of_nonpos (by omega) q
      omega
  · rename_i hj
    rcases Int.lt_or_le 0 (rD i j) with q | q
    · exact q
    · have : (Int.gcd i j : Int) * rD i j ≤ 0 := Int.mul_nonpos_of_nonneg_of_nonpos (by omega) q
      omega
theorem red_eq {n1 d1 n2 d2 : Int} (p1 : 0 < d1) (p2 : 0 < d2) (c1 : Int.gcd n1 d1 = 1) (c2 : Int.gcd n2 d2 = 1) : n1 * d2 = n2 * d1 ↔ n1 = n2 ∧ d1 = d2 := by
  constructor
  · intro e
    have en : n1.natAbs * d2.natAbs = n2.natAbs * d1.natAbs := by rw [← Int.natAbs_mul, ← Int.natAbs_mul, e]
    have k1 : d1.natAbs ∣ d2.natAbs := Nat.Coprime.dvd_of_dvd_mul_left (k := d1.natAbs) (m := n1.natAbs) (by unfold Nat.Coprime; rw [Nat.gcd_comm]; exact c1) ⟨n2.natAbs, by rw [en, Nat.mul_comm]⟩
    have k2 : d2.natAbs ∣ d1.natAbs := Nat.Coprime.dvd_of_dvd_mul_left (k := d2.natAbs) (m := n2.natAbs) (by unfold Nat.Coprime; rw [Nat.gcd_comm]; exact c2) ⟨n1.natAbs, by rw [← en, Nat.mul_comm]⟩
    have k := Nat.dvd_antisymm k1 k2
    have ed : d1 = d2 := by omega
    subst ed
    exact ⟨Int.eq_of_mul_eq_mul_right (by omega) e, rfl⟩
  · rintro ⟨rfl, rfl⟩
    rfl
/-- a fraction's least terms do not see a common factor -/
theorem r_scale {t b k : Int} (hb : b ≠ 0) (hk : k ≠ 0) : rN (k * t) (k * b) = rN t b ∧ rD (k * t) (k * b) = rD t b := by
  have hkb := Int.mul_ne_zero hk hb
  obtain ⟨a1, a2⟩ := r_mul t hb
  obtain ⟨b1, b2⟩ := r_mul (k * t) hkb
  refine (red_eq (r_pos _ hkb) (r_pos _ hb) (r_cop _ hkb) (r_cop _ hb)).mp ?_
  have z1 := rG_ok (k * t) hkb
  have z2 := rG_ok t hb
  have : rG (k * t) (k * b) * rG t b * (rN (k * t) (k * b) * rD t b) = rG (k * t) (k * b) * rG t b * (rN t b * rD (k * t) (k * b)) := by
    have e1 : rG (k * t) (k * b) * rG t b * (rN (k * t) (k * b) * rD t b) = (rG (k * t) (k * b) * rN (k * t) (k * b)) * (rG t b * rD t b) := by
      simp only [Int.mul_assoc, Int.mul_left_comm]
    have e2 : rG (k * t) (k * b) * rG t b * (rN t b * rD (k * t) (k * b)) = (rG (k * t) (k * b) * rD (k * t) (k * b)) * (rG t b * rN t b) := by
      simp only [Int.mul_assoc, Int.mul_left_comm]
      simp only [Int.mul_comm, Int.mul_left_comm]
    rw [e1, e2, a1, a2, b1, b2]
    simp only [Int.mul_assoc]
    rw [Int.mul_comm t b]
  exact Int.eq_of_mul_eq_mul_left (Int.mul_ne_zero z1 z2) this
end Gs

set_option maxRecDepth 100000
set_option maxHeartbeats 4000000
/-! x in (y, z), own values with an own == -/
namespace Gs
open PySem PySem.Spec PyProof.Rows L2 PySem.Calls PySem.W
open MeetsSeq MeetsSeq2 MeetsSeq3 SeqRoads2
open AutoSeq1 (wpAny_loadPart')
def InW (M : Model) (A : Around) (x : Value) (R : Result → Shared → Prop) : List Value → Shared → Prop
  | [], s => R (.ok (.ret (.bool false))) s
  | y :: ys, s => wpAny M A (eqBool y x) (fun b s' => if b = true then R (.ok (.ret (.bool true))) s' else InW M A x R ys s') (fun e s' => R (.error e) s') s
theorem tuple_containsW {prog : Program} {w : World} (l : Addr) (items : Array Value) (n : Nat) (dd : Option Addr) (sl : Array (Option Value)) (x : Value) :
    MeetsIn prog w (Builtin.«tuple.__contains__» ⟨[.ref l, x], []⟩)
      (fun A R s => s.heap.get? l = some { cls := .type "tuple", dict := dd, data := .seq items n, slots := sl } ∧ InW (model prog w) A.in1 x R items.toList s) :=
  .of_wp fun A R s h => by
    obtain ⟨hp, g, d, tk, os⟩ := s; obtain ⟨hl, h⟩ := h
    wp_walk using wpAny_loadPart' hl, wpAny_forIn_array _ (fun rest b s' => b.1 = none ∧ InW (model prog w) A.in1 x R rest s') _
    case turn =>
      rintro y rest b s' ⟨hb, hR⟩
      refine wpAny_bind (wpAny_mono hR (fun c s2 hc => ?_) fun _ _ e => e)
      cases c with
      | true =>
        rw [if_pos rfl] at hc
        obtain ⟨hp2, g2, d2, tk2, os2⟩ := s2
        wp_walk
        exact ⟨_, rfl, hc⟩
      | false =>
        rw [if_neg (by decide)] at hc
        obtain ⟨hp2, g2, d2, tk2, os2⟩ := s2
        wp_walk
        exact ⟨rfl, hc⟩
    case fin =>
      rintro ⟨b1, b2⟩ s' ⟨hb, hR⟩
      simp only at hb
      subst hb
      obtain ⟨hp2, g2, d2, tk2, os2⟩ := s'
      wp_walk
      exact ⟨_, rfl, hR⟩
    case h =>
      exact ⟨rfl, h⟩
theorem in_tupleW {prog : Program} {w : World} {A : Around} {E : Value → Shared → Prop} {s : Shared} {l : Addr} {items : Array Value} {x : Value} {Q : Value → Shared → Prop} (hl : s.heap.IsTuple l items)
    (h : InW (model prog w) A.in1 x (wants (fun v s' => ∃ b, v = .bool b ∧ Q (.bool b) s') E) items.toList s) : wpAny (model prog w) A (compareOp .In x (.ref l)) Q E s := by
  obtain ⟨⟨cls, dd, data, sl⟩, ho, hc, n, hd⟩ := id hl
  simp only at hc hd
  subst hc hd
  show wpAny _ A (do return .bool (← contains (.ref l) x)) Q E s
  refine wpAny_bind (wpAny_contains_slot ⟨_, ho, rfl⟩ F.slot_tuple_contains (wpAny_mono (call_meetsIn F.slot_tuple_contains ⟨_, ho, rfl⟩ F.entry_tuple_contains (F.args_tuple_contains_2 _ _) (tuple_containsW l items n dd sl x) (Q := fun v s' => ∃ b, v = .bool b ∧ Q (.bool b) s') ⟨ho, h⟩) (fun v s' hv => ?_) fun _ _ e => e))
  obtain ⟨b, rfl, hq⟩ := hv
  exact wpAny_truthy_bool (wpAny_pure hq)
section
variable {M : Model} {A : Around} {E : Value → Shared → Prop} {s : Shared} {a b : Addr} {Q : Bool → Shared → Prop}
theorem eqBool_same (h : Q true s) : wpAny M A (eqBool (.ref a) (.ref a)) Q E s := by
  unfold eqBool
  refine wpAny_holding ?_
  rw [if_pos (beq_self_eq_true _)]
  exact wpAny_bind (wpAny_rule (wpAny_pure h))
theorem eqBool_own (n : b ≠ a) (h : wpAny M A (richCompare .Eq (.ref b) (.ref a)) (fun v s' => ∃ c, v = .bool c ∧ Q c s') E s) : wpAny M A (eqBool (.ref b) (.ref a)) Q E s := by
  unfold eqBool
  refine wpAny_holding ?_
  have e : (Value.ref b == Value.ref a) = false := Bool.eq_false_iff.mpr fun q => n (by cases beq_iff_eq.mp q; rfl)
  rw [e, if_neg (by decide)]
  refine wpAny_bind (wpAny_mono h (fun v s' hv => ?_) fun _ _ e => e)
  obtain ⟨c, rfl, q⟩ := hv
  exact wpAny_truthy_bool q
end
/-- a comparison where a builtin's work goes on -/
def OpR1 (X : Cx) (f : Value → Value → Sem Value) (r : R2) : Prop :=
  ∀ (pins : List (Addr × Obj)) (s : Shared) (σ : L2.St) (H : Hp) (x y : V) (v u : Value) (Q : VK), Inv X pins σ H s → RelV x v → RelV y u → r x y H Q → wpAny (model X.prog X.w) X.A.in1 (f v u) (EP X pins σ Q) X.xe s
def InO (r : R2) (x : V) : List V → Hp → VK → Prop
  | [], H, Q => Q (.bl false) H
  | y :: ys, H, Q => (∃ b, y = .ref b) ∧ ((y = x ∧ Q (.bl true) H) ∨ (y ≠ x ∧ r y x H (fun v H' => ∃ c, v = .bl c ∧ if c = true then Q (.bl true) H' else InO r x ys H' Q)))
/-- x in ys, a tuple of own values -/
def rInO (K : PySem.W.Frag) (r : R2) : R2 := fun x y H Q => ∃ p ys a, x = .ref a ∧ y = .ref p ∧ SqT K H p ys ∧ InO r x ys H Q
theorem inO_walk {X : Cx} {r : R2} (h1 : OpR1 X (richCompare .Eq) r) {pins : List (Addr × Obj)} {σ : L2.St} {a : Addr} {Q : VK} : ∀ (ys : List V) (us : List Value) (H : Hp) (s : Shared), Inv X pins σ H s → Vals ys us → InO r (.ref a) ys H Q →
    InW (model X.prog X.w) X.A.in1 (.ref a) (wants (fun v s' => ∃ b, v = .bool b ∧ EP X pins σ Q (.bool b) s') X.xe) us s := by
  intro ys
  induction ys with
  | nil =>
    intro us H s I rv h
    cases rv
    exact ⟨false, rfl, .bl false, H, I, rfl, h⟩
  | cons y ys ih =>
    intro us H s I rv h
    cases rv with
    | cons ry rv =>
    obtain ⟨⟨b, rfl⟩, h⟩ := h
    cases ry
    rcases h with ⟨e, q⟩ | ⟨n, h⟩
    · cases e
      refine eqBool_same ?_
      rw [if_pos rfl]
      exact ⟨true, rfl, .bl true, H, I, rfl, q⟩
    · refine eqBool_own (fun z => n (by rw [z])) (wpAny_mono (h1 pins s σ H (.ref b) (.ref a) _ _ _ I rfl rfl h) (fun v s' hv => ?_) fun _ _ e => e)
      obtain ⟨z, H', I', rz, c, rfl, q⟩ := hv
      cases rz
      refine ⟨c, rfl, ?_⟩
      cases c with
      | true =>
        rw [if_pos rfl] at q ⊢
        exact ⟨true, rfl, .bl true, H', I', rfl, q⟩
      | false =>
        rw [if_neg (by decide)] at q ⊢
        exact ih _ _ _ I' rv q
theorem op_inO {X : Cx} {r : R2} (h1 : OpR1 X (richCompare .Eq) r) : OpR X (compareOp .In) (rInO X.K r) := by
  intro pins s σ H x y v u Q I rx ry h
  obtain ⟨p, ys, a, rfl, rfl, hq, h⟩ := h
  cases rx
  cases ry
  obtain ⟨its, r', pl, hz⟩ := I.tuple hq
  exact in_tupleW pl (inO_walk h1 ys its H s I r' h)
section
variable {X : Cx} {CX : CXT} {k : Nat} {f C : Addr} {ps : List Str} {sp : Sp} {E : XK}
theorem op1_cmpO (D : FunOk X.prog X.w X.K X.mg X.base CX k f ps [] sp) (hs : findIn X.K (.ref C) "__eq__" = some (some (.ref f))) (hf : isFn X.K (.ref f) = true) (hr : Room (k + 1) X.A) (hx : Passes CX X E) : OpR1 X (richCompare .Eq) (rCmpO X.K C sp E) := by
  intro pins s σ H x y v u Q I rx ry h
  obtain ⟨a, dx, fs, t, rfl, hi, ty, hn, h⟩ := h
  cases rx
  obtain ⟨_, od, J⟩ := ins_at I hi
  obtain ⟨m, hF⟩ := I.fr
  obtain ⟨P, Z, p, _⟩ := kit_of I ry ty
  exact cmp_K hr.in1.units0 hF I.ok.mod.kin J (Z.ty _ _ I.kIn p) hn hs hf (wpAny_mono (own_runA D ⟨hr.in1, rfl⟩ hx I (vs := [.ref a, y]) (.cons rfl (.cons ry .nil)) h) (fun _ _ z => back_of z) fun _ _ z => z)
theorem op1_cmpS {a : Addr} {oe : Obj} {pn : List (Addr × Obj)} (D : FunC X.prog X.w X.K X.mg X.base k f ps sp) (hs : findIn X.K (.ref C) "__eq__" = some (some (.ref f))) (hf : isFn X.K (.ref f) = true) (hr : Room (k + 1) X.A) : OpR1 (X.suite a ((a, oe) :: pn)) (richCompare .Eq) (rCmpO X.K C sp E0) := by
  intro pins s σ H x y v u Q I rx ry h
  obtain ⟨b, dx, fs, t, rfl, hi, ty, hn, h⟩ := h
  cases rx
  obtain ⟨_, od, J⟩ := ins_at I hi
  obtain ⟨m, hF⟩ := I.fr
  obtain ⟨P, Z, p, _⟩ := kit_of I ry ty
  obtain ⟨fd, F, hb⟩ := D.ex
  have P1 := I.pin (a, oe) (List.mem_append_left _ List.mem_cons_self)
  have pin : L2H.PinOk (X.suite a ((a, oe) :: pn)).stack H s (a, oe) := ⟨P1.1, P1.2.1, fun hm => (List.mem_cons.mp (I.stkSub a hm)).elim P1.2.2.1 P1.2.2.2.1, P1.2.2.2.2⟩
  have hrS : L2H.RoomH k (X.suite a ((a, oe) :: pn)).A.in1 := ⟨hr.in1.dp, hr.in1.un⟩
  have e0 : Env0 X.prog X.w X.K X.mg X.base (X.suite a ((a, oe) :: pn)).A.in1 (X.suite a ((a, oe) :: pn)).stack s H := by
    have e := I.env0
    exact ⟨e.frames, e.mod, e.bs, e.bsz, e.funs, e.frf, e.hok, e.bare⟩
  have bb := hb s [.ref b, u] I.kIn (by rw [List.append_nil]; exact F.len _ _ _ _ h)
  rw [List.append_nil] at bb
  refine cmp_K hr.in1.units0 hF I.ok.mod.kin J (Z.ty _ _ I.kIn p) hn hs hf (wpAny_call (codeAny_mono (F.go _ _ s H ⟨[.ref b, u], []⟩ _ [.ref b, y] Q E0 (a, oe) hrS pin e0 bb (.cons rfl (.cons ry .nil)) h) ?_))
  intro r s' hq
  match r, hq with
  | .error e, hq => exact (show False from hq).elim
  | .ok (.ret u), hq => exact back_of (I.after hq)
  | .ok .next, hq => exact hq.elim
  | .ok .brk, hq => exact hq.elim
  | .ok .cont, hq => exact hq.elim
end
end Gs

set_option maxRecDepth 100000
set_option maxHeartbeats 4000000
/-! texts of long integers, own __str__, class methods, a class held by a name -/
namespace Gs
open PySem PySem.Spec PyProof.Rows L2 PySem.Calls PySem.W
open Builtin Builtin.Str Builtin.Int
section
variable {prog : Program} {w : World} {A : Around} {E : Value → Shared → Prop} {s : Shared}
theorem int_len {i : Int} (h : i.natAbs < 10 ^ 4300) : (Str.ofString (toString i)).length ≤ 4301 := by
  have e : (Str.ofString (toString i)).length = (codesI i).length := by
    rw [← tl_int]
    simp [Str.length]
  have l := TL.numL_len (n := i.natAbs) (k := 4300) (by decide) h
  rw [e]
  unfold codesI
  split
  · rw [List.length_cons]
    omega
  · omega
theorem wp_digits {x : Int} {Q : Option Nat → Shared → Prop} (hd : NoDig s.heap) (hx : x.natAbs < 10 ^ 4300) (h : Q none s) : wpAny (model prog w) A (overDigitLimit? x) Q E s := by
  obtain ⟨mc, hns, hnone⟩ := hd
  unfold overDigitLimit?
  by_cases z : x.natAbs.log2 < 1920
  · rw [if_pos z]
    exact wpAny_pure h
  · rw [if_neg z]
    unfold intMaxStrDigits
    refine wpAny_bind (wpAny_bind (wpAny_nsGet hns ?_))
    rw [hnone]
    refine wpAny_pure ?_
    have hz : x.natAbs.log2 / 30 + 1 ≤ 1000 := by
      have hn : x.natAbs ≠ 0 := fun q => by rw [q] at z; exact z (by decide)
      have : x.natAbs.log2 < 14285 := (Nat.log2_lt hn).mpr (Nat.lt_of_lt_of_le hx (by decide +kernel))
      omega
    dsimp only
    rw [if_neg (show ¬ x.natAbs.log2 / 30 + 1 > 1000 by omega)]
    by_cases q : ((4300 : Nat) == 0 || decide (x.natAbs.log2 < 3 * 4300)) = true
    · simp only [q, if_true]
      exact wpAny_pure h
    · simp only [q]
      rw [if_neg (show ¬ x.natAbs ≥ 10 ^ 4300 from Nat.not_le.mpr hx)]
      exact wpAny_pure h
theorem meets_repr_long {a : Int} {t : Tok} : Meets («int.__repr__» ⟨[.int a t], []⟩) (fun _ R s => (NoDig s.heap ∧ a.natAbs < 10 ^ 4300) ∧ R (.ok (.ret (.str (toString a) s.toks))) { s with toks := s.toks + 1 }) := by
  refine Meets.of_wp fun prog w A R s ⟨⟨hd, hx⟩, h⟩ => ?_
  unfold «int.__repr__»
  show wpAny _ _ (do let r ← overDigitLimit? a; _) _ _ _
  refine wpAny_bind (wp_digits hd hx ?_)
  show wpAny _ _ (retStr (toString a)) _ _ _
  unfold retStr
  exact wpAny_bind (wpAny_mkStr (wpAny_pure ⟨_, rfl, h⟩) (Nat.le_trans (int_len hx) (by decide)))
theorem call_str_long' {a : Int} {t : Tok} {Q : Value → Shared → Prop} (hd : NoDig s.heap) (hx : a.natAbs < 10 ^ 4300) (h : Q (.str (toString a) s.toks) { s with toks := s.toks + 1 }) : wpAny (model prog w) A (call (.type "str") [.int a t]) Q E s :=
  callType_new F.called_str (by decide) (F.typeCall_str_1 _) (F.newCall_str_1 _) (fun obj => F.args_object_init_2 obj _) F.entry_str_new
    (meets_str_new (S := fun _ R s => (NoDig s.heap ∧ a.natAbs < 10 ^ 4300) ∧ R (.ok (.ret (.str (toString a) s.toks))) { s with toks := s.toks + 1 }) fun _ _ _ _ s hq => by
      unfold Str.strOf
      rw [show isExactStr (.int a t) = false from rfl]
      simp only [cRoomFor, show [Value.int a t].any Value.onHeap = false from rfl, Bool.false_eq_true, if_false, pure_bind]
      refine wpAny_bind (m := callSpecial? (.int a t) (Str.ofString "__str__")) (wpAny_callSpecial?_slot (name := Str.ofString "__str__") (typeIs_int s a t) F.slot_int_str ?_)
      refine wpAny_call_entry F.slot_int_str (typeIs_int s a t) entry_object_str ?_ (args_object_str _)
      unfold Builtin.«object.__str__»
      refine wpAny_bind (m := slotArgs "__str__" 0 _) (wpAny_pure ?_)
      simp only [cRoomFor, show [Value.int a t].any Value.onHeap = false from rfl, Bool.false_eq_true, if_false, pure_bind]
      refine wpAny_bind (m := callSpecialIfBound? (.int a t) (Str.ofString "__repr__")) (wpAny_callSpecialIfBound?_slot (name := Str.ofString "__repr__") (typeIs_int s a t) F.slot_int_repr (call_meets F.slot_int_repr (typeIs_int s a t) F.entry_int_repr (F.args_int_repr_1 _) meets_repr_long ⟨hq.1, ?_⟩))
      exact wpAny_pure ⟨_, rfl, wpAny_pure hq.2⟩) ⟨⟨hd, hx⟩, typeIs_str _ _ _, h⟩
end
section
variable {X : Cx} {CX : CXT} {k : Nat} {f g C : Addr} {ps : List Str} {dvs : List V} {sp : Sp} {E : XK}
theorem call_str_long (hd : NoDig X.base) : CallR X (.type "str") (fun xs H Q => ∃ i : Int, xs = [.int i] ∧ i.natAbs < 10 ^ 4300 ∧ Q (.str (toString i)) H) := by
  intro pins s σ H xs us Q I r h
  obtain ⟨i, rfl, hz, q⟩ := h
  obtain ⟨u, rfl, t, rfl⟩ := vals1 r
  exact call_str_long' (hd.keeps I.bk) hz ⟨.str _, H, I.tok _, ⟨_, rfl⟩, q⟩
/-- str(x) by the own __str__ -/
def rStrO (C : Addr) (sp : Sp) (E : XK) : List V → Hp → VK → Prop := fun vs H Q => ∃ a dx fs, vs = [.ref a] ∧ H a = some (.ins C dx fs) ∧ sp [.ref a] H (fun v H' => ∃ y : Str, v = .str y ∧ Q (.str y) H') E
theorem call_strO (D : FunOk X.prog X.w X.K X.mg X.base CX k f ps [] sp) (hs : PySem.W.findIn X.K (.ref C) "__str__" = some (some (.ref f))) (hf : PySem.W.isFn X.K (.ref f) = true) (hr : Room (k + 2) X.A) (hx : Passes CX X E) : CallR X (.type "str") (rStrO C sp E) := by
  intro pins s σ H xs us Q I r h
  obtain ⟨a, dx, fs, rfl, hi, h⟩ := h
  obtain ⟨u, rfl, r1⟩ := vals1 r
  cases r1
  obtain ⟨_, od, J⟩ := ins_at I hi
  exact PySem.W.kso_call hr.in1.in1.units0 I.kIn J hs hf (wpAny_mono (own_runA D ⟨hr.in1.in1, rfl⟩ hx I (vs := [.ref a]) (.cons rfl .nil) h) (fun v s' ⟨z, H', I', rz, y, e, q⟩ => by
    subst e
    obtain ⟨t, rfl⟩ := rz
    exact ⟨.str y, H', I', ⟨t, rfl⟩, q⟩) fun _ _ z => z)
/-- a function of the text, its values by position -/
theorem FunOk.fnR (D : FunOk X.prog X.w X.K X.mg X.base CX k f ps dvs sp) : FnR X.prog X.w X.K X.mg X.base CX k f (fun vs H Q E => sp (vs ++ dvs) H Q E) := by
  obtain ⟨fd, ds, F, hb, hd⟩ := D.ex
  exact F.raw hb hd
variable {m : Str} {p q : Addr} {apos pos : Pos} {o e : Expr} {es : List Expr} {to : TE} {t tk : TA} {kws : List Keyword} {x y qual : Str} {st : Stmt} {dv : List V} {ks : List Str} {pl : Sem Bool} {i : Nat}
/-- C.m(e, ..), m a class method -/
theorem pe_cm (D : FunOk X.prog X.w X.K X.mg X.base CX k g ps dvs sp) (r : ClX.CRead X.K C (.type "type")) (c : ClX.CMet X.K C (.type "type") m q g) (hr : Room k X.A) (hx : Passes CX X E) (he : PE X o to) (ha : PA X (e :: es) t)
    (hst : starEach (e :: es) X.env = (false, eval e X.env) :: starEach es X.env := by rfl) (hpl : (backTo pos (starEach es X.env)).any (·.1) = false := by rfl)
    (ht : eval (.Call (.Attribute o m apos) (e :: es) [] pos) X.env = (do
      let ov ← eval o X.env
      standAt apos.atName
      let (f, first) ← holding [ov] (getMethod ov m pl)
      callWith pos f first (backTo pos (starEach (e :: es) X.env)) (backToKw pos (keywordEach [] X.env))) := by rfl) :
    PE X (.Call (.Attribute o m apos) (e :: es) [] pos) (ClX.tCMeth C (fun vs H Q E => sp (vs ++ dvs) H Q E) E to t) := ClX.pe_cmeth he r c D.fnR hr hx ha hst hpl ht
/-- C.m(k = v, ..), m a class method -/
def tCmK (C : Addr) (n : Nat) (sp : Sp) (gV : List V → List V) (E : XK) (to : TE) (tk : TA) : TE := fun σ H Q => to σ H fun x H1 => x = .ref C ∧ tk σ H1 fun zs H2 => zs.length = n ∧ sp (.ref C :: gV zs) H2 Q E
theorem pe_cmK {gV : List V → List V} (D : FunOk X.prog X.w X.K X.mg X.base CX k g ps dvs sp) (a : AtF X.K g y qual st dv) (r : ClX.CRead X.K C (.type "type")) (c : ClX.CMet X.K C (.type "type") m q g)
    (kb : ∀ fd, FunD X.K y qual (defArgs st) (defBody st) (defScope st) dv [] g fd → ∃ gf : List Value → List Value, (∀ (s : Shared) (ws : List Value), X.K.In s.heap → ws.length = ks.length → BindsTo s fd ⟨[.ref C], ks.zip ws⟩ (ps.zip (.ref C :: gf ws))) ∧ ∀ {zs : List V} {ws : List Value}, Vals zs ws → Vals (gV zs) (gf ws))
    (hr : Room k X.A) (hx : Passes CX X E) (ho : PE X o to) (hkw : PK X kws tk)
    (hall : (backToKw pos (keywordEach kws X.env)).all (·.1.isSome) = true := by rfl) (hks : (backToKw pos (keywordEach kws X.env)).filterMap (·.1) = ks := by rfl)
    (hpl : ((backTo pos (starEach [] X.env)).any (·.1) || (backToKw pos (keywordEach kws X.env)).any (·.1.isNone)) = false := by rfl)
    (ht : eval (.Call (.Attribute o m apos) [] kws pos) X.env = (do
      let ov ← eval o X.env
      standAt apos.atName
      let (f, first) ← holding [ov] (getMethod ov m pl)
      callWith pos f first (backTo pos (starEach [] X.env)) (backToKw pos (keywordEach kws X.env))) := by rfl) :
    PE X (.Call (.Attribute o m apos) [] kws pos) (tCmK C ks.length sp gV E to tk) := by
  obtain ⟨fd, F⟩ := a.ex
  obtain ⟨gf, bd, rel⟩ := kb fd F
  obtain ⟨_, _, _, _, _, _, _, _, _, _, _, l1, _⟩ := F.ex
  have Fn := D.lk fd ⟨_, _, _, l1⟩
  refine ⟨fun pins s σ H Q I h => ?_⟩
  refine PySem.W.methodCall_KW (pl := pl) (thn (ho.run pins s σ H _ I h) fun u s1 ⟨x, H1, I1, rx, ex, h3⟩ => ?_) ht
  subst ex
  obtain rfl : u = Value.ref C := rx
  refine ClX.getmethcm_ok I1 r c fun s2 I2 => ?_
  refine PySem.W.callWith_of (P := PySem.W.MethP X.K s1.heap.objs.size g (.ref C)) hpl (PySem.W.keeps_M c.fi) (PyProof.Rows.evalArgs_kw2_nil hall (thn (hkw.run pos _ s2 σ H1 _ I2 h3) fun ws s3 ⟨zs, H2, I3, rz, lz, q2⟩ => ⟨⟨ClX.pin_at I3, I3.kIn⟩, ?_⟩))
  rw [hks]
  have lw : ws.length = ks.length := rz.length.symm.trans lz
  have run : wpAny (model X.prog X.w) X.A (call (.ref s1.heap.objs.size) ([] ++ []) (ks.zip ws)) (EP X ((s1.heap.objs.size, PySem.W.methodObj (.ref g) (.ref C)) :: pins) σ Q) X.xe s3 := by
    refine wpAny_call (PySem.W.method_call (ClX.pin_at I3) (codeAny_mono (Fn.run X.A X.stack s3 H2 ⟨[.ref C], ks.zip ws⟩ _ _ Q E hr I3.env0 (bd s3 ws I3.kIn lw) (.cons (show L2.RelV (V.ref C) (Value.ref C) from rfl) (rel rz)) q2) ?_))
    intro r s' hq
    match r, hq with
    | .error e, hq => exact hx _ σ H2 s3 e s' I3 hq
    | .ok (.ret u), hq => exact I3.after hq
    | .ok .next, hq => exact hq.elim
    | .ok .brk, hq => exact hq.elim
    | .ok .cont, hq => exact hq.elim
  exact thn run fun _ _ y => ClX.unpinE y
/-- x(e, ..), x a name that holds a class of the text -/
def tMakeV (i : Nat) (C : Addr) (sp : Sp) (dvs : List V) (E : XK) (t : TA) : TE := fun σ H Q => σ[i]? = some (some (.ref C)) ∧ tMake C sp dvs E t σ H Q
theorem pe_mkVar (M : Mk X.K C f) (D : FunOk X.prog X.w X.K X.mg X.base CX k f ps dvs sp) (hr : Room (k + 1) X.A) (hx : Passes CX X E) (hN : X.N[i]? = some x) (hv : Vis X.env.scope x) (ha : PA X (e :: es) t) {np : Pos}
    (hdb : (x == ("__debug__" : Str)) = false := by decide) (hcd : (x == ("__classdict__" : Str)) = false := by decide)
    (he : starEach (e :: es) X.env = (false, eval e X.env) :: starEach es X.env := by rfl) (hpl : (backTo pos (starEach es X.env)).any (·.1) = false := by rfl) : PE X (.Call (.Name x np) (e :: es) [] pos) (tMakeV i C sp dvs E t) := by
  obtain ⟨fd, ds, F, hb, hd⟩ := D.ex
  refine ⟨fun pins s σ H Q I h => ?_⟩
  obtain ⟨hs, h⟩ := h
  refine wpAny_Call_Name_kw (thn ((pe_var (pos := np) (i := i) hN hv hdb hcd).run pins s σ H (fun v H1 => v = .ref C ∧ H1 = H) I ⟨.ref C, hs, rfl, rfl⟩) fun u s1 ⟨v, H1, I1, r1, ev, eH⟩ => ?_)
  subst ev
  rw [eH] at I1
  cases r1
  refine PySem.W.callWith_K (h₀ := X.base) I1.ok.mod.kin M.kp (thn (ha.run pos pins s1 σ H _ I1 h) fun us s2 ⟨vs, H2, I2, r, q⟩ => ⟨I2.kIn, ?_⟩) he hpl
  exact run_make M F hr hb hd hx I2 r q
end
theorem vals_at : ∀ {xs : List V} {us : List Value}, us.length = xs.length → (∀ (j : Nat) (v : Value), us[j]? = some v → ∃ x, xs[j]? = some x ∧ L2.RelV x v) → Vals xs us
  | [], [], _, _ => .nil
  | [], _ :: _, h, _ => by cases h
  | _ :: _, [], h, _ => by cases h
  | x :: xs, u :: us, h, k => by
    obtain ⟨y, e, r⟩ := k 0 u rfl
    cases e
    exact .cons r (vals_at (Nat.succ.inj h) fun j v e => k (j + 1) v e)
/-- list(text): its signs -/
theorem call_listS {X : Cx} (hc : X.calm = true) : CallR X (.type "list") (fun xs H Q => ∃ z : Str, xs = [.str z] ∧ z.length ≤ sizeLine ∧ ∀ p, H p = none → Q (.ref p) (upd H p (.lst (z.cps.toList.map fun c => V.str ⟨#[c]⟩)))) := by
  intro pins s σ H xs us Q I r h
  obtain ⟨z, rfl, hz, q⟩ := h
  obtain ⟨u, rfl, t, rfl⟩ := vals1 r
  refine PySem.call_list_str (I.ok.hd hc) z t (hn := hz) fun h' tk acc c' hk hD hacc => ?_
  have hv : Vals (z.cps.toList.map fun c => V.str ⟨#[c]⟩) acc.toList := vals_at (by rw [Array.length_toList, List.length_map]; exact hacc.1.trans (len_tl z)) fun j v e => by
    obtain ⟨c, u, e1, rfl⟩ := hacc.2 j v (by rw [← Array.getElem?_toList]; exact e)
    refine ⟨.str ⟨#[c]⟩, ?_, u, rfl⟩
    rw [List.getElem?_map, Array.getElem?_toList, e1]
    rfl
  exact ⟨.ref s.heap.objs.size, _, I.laid (t' := tk) hk (Nat.le_refl _) (show ObjOk X.prog X.w _ _ _ (.lst (z.cps.toList.map fun c => V.str ⟨#[c]⟩)) from ⟨by rw [List.length_map, ← len_tl]; exact hz, acc.toList, c', hv, by rw [Array.toArray_toList]; exact hD⟩), rfl, q _ (I.hok.fresh (Nat.le_refl _))⟩
end Gs

set_option maxRecDepth 100000
set_option maxHeartbeats 0
namespace K07
open PySem PySem.Spec PyProof.Rows Gs
open L2 hiding Ext paired_get
def top (i : Nat) : Stmt := PySem.Challenge.pw_gapshares_k07_texts_of_ratios.main.body.getD i (.Pass ⟨0, 0, 0, 0⟩)
def fn : List He5.DefA := [⟨fun K => He.ga K "is_integer", "is_integer", "is_integer", defArgs (top 2), defBody (top 2), defScope (top 2), [], []⟩,
  ⟨fun K => He.ga K "is_figures", "is_figures", "is_figures", defArgs (top 9), defBody (top 9), defScope (top 9), [], []⟩,
  ⟨fun K => He.ga K "divisor_of", "divisor_of", "divisor_of", defArgs (top 11), defBody (top 11), defScope (top 11), [], []⟩,
  ⟨fun K => He.ma K (He.ga K "Ratio") "__init__", "__init__", "Ratio.__init__", defArgs (inClass (top 12) 0), defBody (inClass (top 12) 0), defScope (inClass (top 12) 0), [.int 1], []⟩,
  ⟨fun K => He5.wf K (He.ga K "Ratio") "classmethod" "read", "read", "Ratio.read", defArgs (inClass (top 12) 1), defBody (inClass (top 12) 1), defScope (inClass (top 12) 1), [], []⟩,
  ⟨fun K => He.ma K (He.ga K "Ratio") "__mul__", "__mul__", "Ratio.__mul__", defArgs (inClass (top 12) 12), defBody (inClass (top 12) 12), defScope (inClass (top 12) 12), [], []⟩,
  ⟨fun K => He.ma K (He.ga K "Ratio") "__rmul__", "__rmul__", "Ratio.__rmul__", defArgs (inClass (top 12) 13), defBody (inClass (top 12) 13), defScope (inClass (top 12) 13), [], []⟩,
  ⟨fun K => He.ma K (He.ga K "Ratio") "__eq__", "__eq__", "Ratio.__eq__", defArgs (inClass (top 12) 25), defBody (inClass (top 12) 25), defScope (inClass (top 12) 25), [], []⟩,
  ⟨fun K => He.ma K (He.ga K "Ratio") "__str__", "__str__", "Ratio.__str__", defArgs (inClass (top 12) 26), defBody (inClass (top 12) 26), defScope (inClass (top 12) 26), [], []⟩,
  ⟨fun K => He.ga K "told_of", "told_of", "told_of", defArgs (top 13), defBody (top 13), defScope (top 13), [], []⟩,
  ⟨fun K => He.ga K "_law_pen", "_law_pen", "_law_pen", defArgs (top 18), defBody (top 18), defScope (top 18), [], []⟩,
  ⟨fun K => He.ga K "_law_draw", "_law_draw", "_law_draw", defArgs (top 19), defBody (top 19), defScope (top 19), [], []⟩,
  ⟨fun K => He.ga K "_law_pick", "_law_pick", "_law_pick", defArgs (top 20), defBody (top 20), defScope (top 20), [], []⟩,
  ⟨fun K => He.ga K "_law_shared", "_law_shared", "_law_shared", defArgs (top 21), defBody (top 21), defScope (top 21), [], []⟩,
  ⟨fun K => He.ga K "_law_least", "_law_least", "_law_least", defArgs (top 22), defBody (top 22), defScope (top 22), [], []⟩,
  ⟨fun K => He.ga K "_law_pair", "_law_pair", "_law_pair", defArgs (top 23), defBody (top 23), defScope (top 23), [], []⟩,
  ⟨fun K => He.ga K "_law_written", "_law_written", "_law_written", defArgs (top 24), defBody (top 24), defScope (top 24), [], []⟩,
  ⟨fun K => He.ga K "_law_figures", "_law_figures", "_law_figures", defArgs (top 25), defBody (top 25), defScope (top 25), [], []⟩,
  ⟨fun K => He.ga K "_law_due", "_law_due", "_law_due", defArgs (top 26), defBody (top 26), defScope (top 26), [], []⟩,
  ⟨fun K => He.ga K "_law_bent", "_law_bent", "_law_bent", defArgs (top 27), defBody (top 27), defScope (top 27), [], []⟩,
  ⟨fun K => He.ga K "_law_heard", "_law_heard", "_law_heard", defArgs (top 28), defBody (top 28), defScope (top 28), [], []⟩,
  ⟨fun K => He.ga K "_law_right", "_law_right", "_law_right", defArgs (top 29), defBody (top 29), defScope (top 29), [], []⟩,
  ⟨fun K => He.ga K "law", "law", "law", defArgs (top 30), defBody (top 30), defScope (top 30), [], []⟩]
def fa : List He.Fa := [.free "isinstance", .free "int", .free "bool", .free "len", .free "abs", .free "list", .free "range", .free "all", .free "str", .free "super", .int "MOST_FIGURES" (4000), .glo "is_integer", .glo "is_figures", .glo "divisor_of", .glo "told_of", .glo "_law_pen", .glo "_law_draw", .glo "_law_pick", .glo "_law_shared", .glo "_law_least", .glo "_law_pair", .glo "_law_written", .glo "_law_figures", .glo "_law_due", .glo "_law_bent", .glo "_law_heard", .glo "_law_right", .glo "law", .glo "GapError", .glo "BadRatio", .glo "BadText", .glo "Ratio"]
def xs : List XcD := [⟨"BadRatio", "BadRatio.__init__", defArgs (inClass (top 5) 0), defBody (inClass (top 5) 0), defScope (inClass (top 5) 0)⟩,
  ⟨"BadText", "BadText.__init__", defArgs (inClass (top 6) 0), defBody (inClass (top 6) 0), defScope (inClass (top 6) 0)⟩]
def tf : List He.Defn := [("_law_right", none), ("law", none)]
def ex (K : PySem.W.Frag) : Bool := ratB K (He.ga K "Ratio") && ((He.Fa.mkr "Ratio").ok K && (decide (PySem.W.findIn K (.ref (He.ga K "BadText")) "line" = some none) && (decide (PySem.W.findIn K (.ref (He.ga K "BadText")) "word" = some none) && (decide (PySem.W.exmOne K (.ref (He.ga K "BadText")) (.ref (He.ga K "GapError")) = some true) && (decide (PySem.W.kitOne K (.ref (He.ga K "BadText")) (.ref (He.ga K "BadText")) = some true) &&
  (decide ((He.cT K ("_law_right", none)).2 ≠ (He.cT K ("law", none)).2) && ((["__str__", "__eq__"] : List Str).all (fun m => mthB K (He.ga K "Ratio") m) && (T7.all (fun T => decide (PySem.W.subIn K (.ref (He.ga K "Ratio")) (.type T) = some false) && decide (PySem.W.subIn K (.type T) (.ref (He.ga K "Ratio")) = some false)) &&
  (decide (PySem.W.findIn K (.ref (He.ga K "Ratio")) "__ne__" = some (some (.builtin "object.__ne__"))) && (decide (PySem.W.subIn K (.ref (He.ga K "Ratio")) (.type "object") = some true) && (ownBB K (He.ga K "Ratio") "mul" && (PySem.W.readsIn K (He.ga K "Ratio") (.type "type") && (decide (PySem.W.specialIn K (.ref (He.ga K "Ratio")) "__getattribute__" = some (some (.builtin "type.__getattribute__"))) &&
  (He5.wrapB K (He.ga K "Ratio") "classmethod" "classmethod.__get__" "read" && (PySem.W.fnIn K (He5.wf K (He.ga K "Ratio") "classmethod" "read") && decide (PySem.W.findIn K (.ref (He.ga K "BadRatio")) "value" = some none))))))))))))))))
abbrev R : PySem.W.OpenRow := PySem.W.OpenLaw.row PySem.Challenge.rw_gapshares_k07_texts_of_ratios
def file : Str := PySem.Challenge.pw_gapshares_k07_texts_of_ratios.main.file
abbrev hk : PySem.W.Hook := hookS 5 file fa fn xs tf ex
def ob (s : PySem.W.SharedT) : AlS := obsS 5 file fa fn xs tf ex (HandSHeadRun.getT s)
theorem ob_eq (s : PySem.W.SharedT) : ob s = hk.obs s.abs := obsS_eq (HandSHeadRun.getT_eq s)
theorem run (w : World) : HandSHeadRun.RunEq R (PySem.W.view R.prog [30]) hk ob 20000 ["_wall", "__name__", "is_integer", "GapError", "BadRatio", "BadText", "MOST_FIGURES", "is_figures", "divisor_of", "Ratio", "told_of", "above", "quotient", "remainder", "_law_pen", "_law_draw", "_law_pick", "_law_shared", "_law_least", "_law_pair", "_law_written", "_law_figures", "_law_due", "_law_bent", "_law_heard", "_law_right"] w := by
  intro os
  kernel_rfl
end K07

set_option maxRecDepth 100000
set_option maxHeartbeats 4000000
namespace K07
open PySem PySem.Spec PyProof.Rows Gs
open L2 hiding Ext paired_get
open C8 (tCut pss_cut)
abbrev s__wall : Stmt := top 0
abbrev s_is_integer : Stmt := top 2
abbrev s_BadRatio___init__ : Stmt := inClass (top 5) 0
abbrev s_BadText___init__ : Stmt := inClass (top 6) 0
abbrev s_is_figures : Stmt := top 9
abbrev s_divisor_of : Stmt := top 11
abbrev s_Ratio___init__ : Stmt := inClass (top 12) 0
abbrev s_Ratio_read : Stmt := inClass (top 12) 1
abbrev s_Ratio_of : Stmt := inClass (top 12) 2
abbrev s_Ratio_largest : Stmt := inClass (top 12) 3
abbrev s_Ratio_smallest : Stmt := inClass (top 12) 4
abbrev s_Ratio_floor : Stmt := inClass (top 12) 5
abbrev s_Ratio_ceiling : Stmt := inClass (top 12) 6
abbrev s_Ratio_divided : Stmt := inClass (top 12) 7
abbrev s_Ratio___add__ : Stmt := inClass (top 12) 8
abbrev s_Ratio___radd__ : Stmt := inClass (top 12) 9
abbrev s_Ratio___sub__ : Stmt := inClass (top 12) 10
abbrev s_Ratio___rsub__ : Stmt := inClass (top 12) 11
abbrev s_Ratio___mul__ : Stmt := inClass (top 12) 12
abbrev s_Ratio___rmul__ : Stmt := inClass (top 12) 13
abbrev s_Ratio___floordiv__ : Stmt := inClass (top 12) 14
abbrev s_Ratio___rfloordiv__ : Stmt := inClass (top 12) 15
abbrev s_Ratio___mod__ : Stmt := inClass (top 12) 16
abbrev s_Ratio___rmod__ : Stmt := inClass (top 12) 17
abbrev s_Ratio___neg__ : Stmt := inClass (top 12) 18
abbrev s_Ratio___abs__ : Stmt := inClass (top 12) 19
abbrev s_Ratio___bool__ : Stmt := inClass (top 12) 20
abbrev s_Ratio___lt__ : Stmt := inClass (top 12) 21
abbrev s_Ratio___le__ : Stmt := inClass (top 12) 22
abbrev s_Ratio___gt__ : Stmt := inClass (top 12) 23
abbrev s_Ratio___ge__ : Stmt := inClass (top 12) 24
abbrev s_Ratio___eq__ : Stmt := inClass (top 12) 25
abbrev s_Ratio___str__ : Stmt := inClass (top 12) 26
abbrev s_told_of : Stmt := top 13
abbrev s_above : Stmt := top 14
abbrev s_quotient : Stmt := top 15
abbrev s_remainder : Stmt := top 16
abbrev s__law_pen : Stmt := top 18
abbrev s__law_draw : Stmt := top 19
abbrev s__law_pick : Stmt := top 20
abbrev s__law_shared : Stmt := top 21
abbrev s__law_least : Stmt := top 22
abbrev s__law_pair : Stmt := top 23
abbrev s__law_written : Stmt := top 24
abbrev s__law_figures : Stmt := top 25
abbrev s__law_due : Stmt := top 26
abbrev s__law_bent : Stmt := top 27
abbrev s__law_heard : Stmt := top 28
abbrev s__law_right : Stmt := top 29
abbrev s_law : Stmt := top 30
structure Txt (K : PySem.W.Frag) (mg : Str → Option Value) : Prop where
  f_isinstance : mg "isinstance" = none
  f_int : mg "int" = none
  f_bool : mg "bool" = none
  f_len : mg "len" = none
  f_abs : mg "abs" = none
  f_list : mg "list" = none
  f_range : mg "range" = none
  f_all : mg "all" = none
  f_str : mg "str" = none
  f_super : mg "super" = none
  g_MOST_FIGURES : ∃ t, mg "MOST_FIGURES" = some (.int 4000 t)
  c_GapError : mg "GapError" = some (.ref (He.ga K "GapError"))
  c_BadRatio : mg "BadRatio" = some (.ref (He.ga K "BadRatio"))
  c_BadText : mg "BadText" = some (.ref (He.ga K "BadText"))
  c_Ratio : mg "Ratio" = some (.ref (He.ga K "Ratio"))
section
variable {P : Program} {w : World} {K : PySem.W.Frag} {mg : Str → Option Value} {base : Heap}
theorem sc_is_integer : FnScope ["value"] ["value"] (defScope s_is_integer) := ⟨rfl, rfl, rfl, by decide +kernel, rfl, by decide +kernel, by decide +kernel⟩
theorem d_is_integer (T : Txt K mg) (A0 : At K mg "is_integer" s_is_integer) : DefOk P w K mg base CX0 1 "is_integer" ["value"] [] (spIsI K) := by
  refine At.ok A0 sc_is_integer (fun _ _ F => F.bindsN fun _ _ _ _ _ _ us hl => match us, hl with | [_], _ => rfl) (fun vs H Q E h => ?_) (fun f cdv A out s H vs Q E hr h => ?_)
  · obtain ⟨v, rfl, _⟩ := h; rfl
  · have nd := sc_is_integer.nd
    refine ⟨_, (pss_one (ps_ret (pe_and (pe_callB call_isi (by rfl) T.f_isinstance (by decide +kernel) (pa_cons (pv 0) (pa_cons (pe_bltn (v := .ty "int") (by rfl) T.f_int (by decide +kernel) rfl) pa_nil))) (pe_one (pe_not (pe_callB call_isi (by rfl) T.f_isinstance (by decide +kernel) (pa_cons (pv 0) (pa_cons (pe_bltn (v := .ty "bool") (by rfl) T.f_bool (by decide +kernel) rfl) pa_nil)))))))), ?_⟩
    obtain ⟨v, rfl, hv, k⟩ := h
    obtain ⟨t, ty, kt⟩ := odd_int hv
    obtain ⟨t2, ty2, kt2⟩ := odd_bool hv
    refine ⟨_, rfl, _, _, t, _, _, rfl, .ty _, ty, kt, _, rfl, ?_⟩
    rw [isI_kits] at k
    cases hi : vInt v with
    | true =>
      rw [hi] at k
      exact iteT ⟨_, rfl, _, _, t2, _, _, rfl, .ty _, ty2, kt2, _, rfl, k⟩
    | false =>
      rw [hi] at k
      exact iteF k
theorem sc_divisor_of : FnScope ["one", "other"] ["one", "other"] (defScope s_divisor_of) := ⟨rfl, rfl, rfl, by decide +kernel, rfl, by decide +kernel, by decide +kernel⟩
theorem d_divisor_of (T : Txt K mg) (A0 : At K mg "divisor_of" s_divisor_of) : DefOk P w K mg base CX0 1 "divisor_of" ["one", "other"] [] spGcd := by
  refine At.ok A0 sc_divisor_of (fun _ _ F => F.bindsN fun _ _ _ _ _ _ us hl => match us, hl with | [_, _], _ => rfl) (fun vs H Q E h => ?_) (fun f cdv A out s H vs Q E hr h => ?_)
  · obtain ⟨a, b, rfl, _⟩ := h; rfl
  · have nd := sc_divisor_of.nd
    refine ⟨_, (pss_cut (ps_while PassesOwn.never (pt_cmpR op_ne (pv 1) pe_int (nomark _)) (pss_one (ps_par (i := 0) (j := 1) rfl nd rfl rfl (by decide) rfl rfl (pa_cons (pv 1) (pa_cons (pe_op op_mod (pv 0) (pv 1)) pa_nil)) (by rfl))))
          (pss_one (ps_ret (pv 0)))), ?_⟩
    obtain ⟨a, b, rfl, ha, hb, k⟩ := h
    refine ⟨fun σ' H' => (∃ o, σ' = [some (.int (Int.gcd a b : Int)), o]) ∧ H' = H, ?_, ?_⟩
    rotate_left
    · rintro σ' H' ⟨⟨o, rfl⟩, rfl⟩
      exact ⟨_, rfl, k⟩
    refine while_by (fun σ H1 => ∃ x y : Int, σ = [some (.int x), some (.int y)] ∧ H1 = H ∧ 0 ≤ x ∧ 0 ≤ y ∧ Int.gcd x y = Int.gcd a b) (fun σ _ => match σ with
      | [_, some (.int y)] => y.toNat
      | _ => 0) ⟨a, b, rfl, rfl, ha, hb, rfl⟩ ?_ ?_
    · rintro σ H1 ⟨x, y, rfl, rfl, hx, hy, hg⟩
      refine ⟨_, rfl, rfl, _, rfl, ?_⟩
      have ei : decide (V.int y = V.int 0) = decide (y = 0) := by
        by_cases z : y = 0
        · rw [z]
          rfl
        · rw [decide_eq_false z, decide_eq_false fun q => z (V.int.inj q)]
      rw [ei]
      by_cases z : y = 0
      · subst z
        rw [decide_eq_true rfl]
        rw [Int.gcd_zero_right] at hg
        have e : x = (Int.gcd a b : Int) := by
          rw [← hg]
          exact (Int.natAbs_of_nonneg hx).symm
        rw [e]
        exact iteF ⟨⟨_, rfl⟩, rfl⟩
      · rw [decide_eq_false z]
        have hy' : 0 < y := by omega
        refine iteT ⟨_, rfl, _, rfl, _, rfl, x, y, rfl, rfl, hy', _, _, rfl, ⟨y, x % y, rfl, rfl, hy, Int.emod_nonneg _ (by omega), ?_⟩, ?_⟩
        · rw [gcd_step hx hy', hg]
        · have h1 := Int.emod_lt_of_pos x hy'
          have h2 := Int.emod_nonneg x (show y ≠ 0 by omega)
          show (x % y).toNat < y.toNat
          omega
    · intro σ H Q Q' hq
      exact fun ⟨v, e, sc, k, r, q⟩ => ⟨v, e, sc, k, r, hq _ _ q⟩
theorem sc_Ratio___init__ : FnScope ["self", "over", "under", "shared"] ["self", "over", "under"] (defScope s_Ratio___init__) := ⟨rfl, rfl, rfl, by decide +kernel, rfl, by decide +kernel, by decide +kernel⟩
theorem d_Ratio___init__ (T : Txt K mg) (RF : RatF K (He.ga K "Ratio")) (Dis_integer : DefOk P w K mg base CX0 1 "is_integer" ["value"] [] (spIsI K))(Ddivisor_of : DefOk P w K mg base CX0 1 "divisor_of" ["one", "other"] [] spGcd)(DX_BadRatio : ExcD P w K mg base "BadRatio" ["value"] ["value"]) (A0 : AtF K (He.ma K (He.ga K "Ratio") "__init__") "__init__" "Ratio.__init__" s_Ratio___init__ [.int 1]) {dvs : List V} (bnd : ∀ fd, FunD K "__init__" "Ratio.__init__" (defArgs s_Ratio___init__) (defBody s_Ratio___init__) (defScope s_Ratio___init__) [.int 1] [] (He.ma K (He.ga K "Ratio") "__init__") fd → ∃ ds, Vals dvs ds ∧ Binds K fd ["self", "over", "under"] ds) : FunOk P w K mg base (L2.CX P w) 3 (He.ma K (He.ga K "Ratio") "__init__") ["self", "over", "under"] dvs (spInit K (He.ga K "Ratio") (He.ga K "BadRatio")) := by
  refine AtF.okX A0 sc_Ratio___init__ bnd (fun vs H Q E h => ?_) (fun cdv A out s H vs Q E hr tk h => ?_)
  · obtain ⟨a, dx, x, y, rfl, _⟩ := h; rfl
  · have nd := sc_Ratio___init__.nd
    refine ⟨_, (pss_cons (ps_if (pt_not (pt_val (pe_d Dis_integer (hr.mono (by decide)) pass0 (pa_cons (pv 1) pa_nil)))) (pss_one (ps_raise rfl tk (pmk_x DX_BadRatio (hr.mono (by decide)) (pa_cons (pv 1) pa_nil)))) pss_nil)
          (pss_cons (ps_if (PW.pt (pw_or (pt_not (pt_val (pe_d Dis_integer (hr.mono (by decide)) pass0 (pa_cons (pv 2) pa_nil)))) (pw_or1 (pt_cmpR op_eq (pv 2) pe_int (nomark _))))) (pss_one (ps_raise rfl tk (pmk_x DX_BadRatio (hr.mono (by decide)) (pa_cons (pv 2) pa_nil)))) pss_nil)
          (pss_cons (ps_set (i := 3) nd rfl (Or.inl rfl) (pe_d Ddivisor_of (hr.mono (by decide)) pass0 (pa_cons (pe_callB call_abs (by rfl) T.f_abs (by decide +kernel) (pa_cons (pv 1) pa_nil)) (pa_cons (pe_callB call_abs (by rfl) T.f_abs (by decide +kernel) (pa_cons (pv 2) pa_nil)) pa_nil))))
          (pss_cut (ps_if (pt_cmpR op_lt (pv 2) pe_int (nomark _)) (pss_one (ps_set (i := 3) nd rfl (Or.inl rfl) (pe_un un_neg (pv 3)))) pss_nil)
          (pss_cons (ps_fld (pv 0) (pe_op op_fdivX (pv 1) (pv 3)) rfl)
          (pss_one (ps_fld (pv 0) (pe_op op_fdivX (pv 2) (pv 3)) rfl))))))), ?_⟩
    obtain ⟨a, dx, x, y, rfl, ea, hx, hy, b1, b2, k⟩ := h
    have mb : ∀ C, mg "BadRatio" = some (.ref C) → C = (He.ga K "BadRatio") := fun C e => by
      rw [T.c_BadRatio] at e
      cases e
      rfl
    have bad : ∀ {v : V}, BadV (He.ga K "BadRatio") H E v → ∀ C, mg "BadRatio" = some (.ref C) → ∀ d, H d = none → E (.ref C) (some d) (upd H d (.xd (xds ["value"] [v]))) := fun {v} b C e d n => by
      rw [mb C e]
      exact b d _ (ext_new n) n upd_same
    refine ⟨_, rfl, x, rfl, hx, _, rfl, ?_⟩
    cases i1 : isI x with
    | false => exact iteT ⟨x, rfl, rfl, bad (b1 i1)⟩
    | true =>
      obtain ⟨i, rfl⟩ := isI_int i1
      refine iteF ⟨_, rfl, y, rfl, hy, ?_⟩
      have e0 : isI y = false → decide (y = V.int 0) = false := fun z => decide_eq_false fun e => by
        rw [e] at z
        cases z
      cases i2 : isI y with
      | false => exact ⟨_, rfl, iteT ⟨y, rfl, rfl, bad (b2 rfl (.inl i2))⟩⟩
      | true =>
        obtain ⟨j, rfl⟩ := isI_int i2
        have ej : decide (V.int j = V.int 0) = decide (j = 0) := by
          by_cases z : j = 0
          · rw [z]
            rfl
          · rw [decide_eq_false z, decide_eq_false fun q => z (V.int.inj q)]
        refine ⟨_, rfl, _, rfl, rfl, _, rfl, ?_⟩
        rw [ej]
        by_cases z : j = 0
        · subst z
          exact iteT ⟨_, rfl, rfl, bad (b2 rfl (.inr rfl))⟩
        rw [decide_eq_false z]
        obtain ⟨hl, kk⟩ := k i j rfl rfl z
        refine iteF ⟨_, rfl, i, rfl, _, rfl, j, rfl, _, _, rfl, by split <;> omega, by split <;> omega, ?_⟩
        have eg : (Int.gcd (if i < 0 then -i else i) (if j < 0 then -j else j) : Int) = Int.gcd i j := by
          have z1 : ∀ u : Int, (if u < 0 then -u else u).natAbs = u.natAbs := fun u => by split <;> simp
          unfold Int.gcd
          rw [z1, z1]
        rw [eg]
        refine ⟨fun σ' H' => σ' = [some (.ref a), some (.int i), some (.int j), some (.int (rG i j))] ∧ H' = H, ⟨_, rfl, j, 0, rfl, rfl, _, rfl, ?_⟩, ?_⟩
        · unfold rG
          by_cases hj : j < 0
          · rw [decide_eq_true hj, if_pos hj]
            exact iteT ⟨_, rfl, _, rfl, rfl, rfl⟩
          · rw [decide_eq_false hj, if_neg hj]
            exact iteF ⟨rfl, rfl⟩
        · rintro σ' H' ⟨rfl, rfl⟩
          have hg := rG_ok i z
          have hb : (rG i j).natAbs.log2 < 9000 := Nat.lt_of_le_of_lt (log2_mono (rG_le i z)) (by omega)
          refine ⟨_, rfl, _, rfl, i, _, rfl, rfl, ⟨hg, hb⟩, _, rfl, a, _, dx, _, rfl, ea, RF.cls, RF.over, by show 0 < 1000; decide, ?_⟩
          refine ⟨_, rfl, _, rfl, j, _, rfl, rfl, ⟨hg, hb⟩, _, rfl, a, _, dx, _, rfl, upd_same, RF.cls, RF.under, by show 1 < 1000; decide, ?_⟩
          rw [upd_again]
          exact kk
theorem sc_told_of : FnScope ["value"] ["value"] (defScope s_told_of) := ⟨rfl, rfl, rfl, by decide +kernel, rfl, by decide +kernel, by decide +kernel⟩
theorem d_told_of (T : Txt K mg) (RF : RatF K (He.ga K "Ratio")) (Dis_integer : DefOk P w K mg base CX0 1 "is_integer" ["value"] [] (spIsI K))(DX_BadRatio : ExcD P w K mg base "BadRatio" ["value"] ["value"])(M_Ratio : Mk K (He.ga K "Ratio") (He.ma K (He.ga K "Ratio") "__init__"))(D_Ratio1 : FunOk P w K mg base (L2.CX P w) 3 (He.ma K (He.ga K "Ratio") "__init__") ["self", "over", "under"] [.int 1] (spInit K (He.ga K "Ratio") (He.ga K "BadRatio"))) (A0 : At K mg "told_of" s_told_of) : DefOk P w K mg base (L2.CX P w) 5 "told_of" ["value"] [] (spTold K (He.ga K "Ratio") (He.ga K "BadRatio")) := by
  refine At.okX A0 sc_told_of (fun _ _ F => F.bindsN fun _ _ _ _ _ _ us hl => match us, hl with | [_], _ => rfl) (fun vs H Q E h => ?_) (fun f cdv A out s H vs Q E hr tk h => ?_)
  · obtain ⟨v, rfl, _⟩ := h; rfl
  · have nd := sc_told_of.nd
    refine ⟨_, (pss_cons (ps_if (pt_val (pe_callB call_isi (by rfl) T.f_isinstance (by decide +kernel) (pa_cons (pv 0) (pa_cons (pe_glob (v := .ref (He.ga K "Ratio")) (by rfl) T.c_Ratio rfl) pa_nil)))) (pss_one (ps_ret (pv 0))) pss_nil)
          (pss_cons (ps_if (pt_not (pt_val (pe_d Dis_integer (hr.mono (by decide)) pass0 (pa_cons (pv 0) pa_nil)))) (pss_one (ps_raise rfl tk (pmk_x DX_BadRatio (hr.mono (by decide)) (pa_cons (pv 0) pa_nil)))) pss_nil)
          (pss_one (ps_ret (pe_mkF M_Ratio T.c_Ratio D_Ratio1 (hr.mono (by decide)) (passes_call tk fun _ _ _ _ h => h) (pa_cons (pv 0) pa_nil)))))), ?_⟩
    obtain ⟨v, rfl, hv, k1, k2, k3⟩ := h
    obtain ⟨ho, t, ty, kt⟩ := hv.odd RF
    refine ⟨_, rfl, _, _, t, _, _, rfl, .own _, ty, kt, _, rfl, ?_⟩
    cases hr : vRat (He.ga K "Ratio") H v with
    | true => exact iteT ⟨_, rfl, k1 hr H (Ext.refl _)⟩
    | false =>
      refine iteF ⟨_, rfl, v, rfl, ho, _, rfl, ?_⟩
      cases hi : isI v with
      | false =>
        refine iteT ⟨v, rfl, rfl, fun C e d n => ?_⟩
        have e : mg "BadRatio" = some (.ref C) := e
        rw [T.c_BadRatio] at e
        cases e
        exact k2 hr hi d _ (ext_new n) n upd_same
      | true =>
        obtain ⟨i, rfl⟩ := isI_int hi
        refine iteF ⟨_, rfl, fun x dx nx nd hne => ?_⟩
        have e1 : Ext H (upd (upd H dx (.own x)) x (.ins (He.ga K "Ratio") dx [])) := (ext_new nd).new (by rw [upd_ne (Ne.symm hne)]; exact nx)
        refine ⟨x, dx, .int i, .int 1, rfl, upd_same, trivial, trivial, (fun z => by cases z), (fun _ z => by rcases z with z | z <;> cases z), fun i' j' ei ej _ => ?_⟩
        cases ei
        cases ej
        refine ⟨by decide, rfl, ?_⟩
        rw [upd_again, rN_one, rD_one]
        exact k3 i rfl x _ ((ext_new nd).new (by rw [upd_ne (Ne.symm hne)]; exact nx)) nx ⟨dx, upd_same⟩





end
end K07

set_option maxRecDepth 100000
set_option maxHeartbeats 4000000
namespace K07
open PySem PySem.Spec PyProof.Rows Gs
open L2 hiding Ext paired_get
open C8 (tCut pss_cut)
def spAbove : Sp := fun vs H Q _ => ∃ (q1 q2 : Addr) (t1 b1 t2 b2 : Int), vs = [.ref q1, .ref q2] ∧ H q1 = some (.tup [.int t1, .int b1]) ∧ H q2 = some (.tup [.int t2, .int b2]) ∧ b1 ≠ 0 ∧ b2 ≠ 0 ∧ (t1.natAbs < 2 ^ 100 ∧ b1.natAbs < 2 ^ 100) ∧ (t2.natAbs < 2 ^ 100 ∧ b2.natAbs < 2 ^ 100) ∧
  ∀ H', Ext H H' → Q (.bl (ltR (rN t2 b2, rD t2 b2) (rN t1 b1, rD t1 b1))) H'
def spGot (K : PySem.W.Frag) : Sp := fun vs H Q _ => ∃ (a : Addr) (n d : Int), vs = [.ref a] ∧ Rat (He.ga K "Ratio") H a n d ∧ ∀ q H', Ext H H' → H q = none → H' q = some (.tup [.int n, .int d]) → Q (.ref q) H'
def spNumber (K : PySem.W.Frag) : Sp := fun vs H Q _ => ∃ (p c : Addr) (n : Nat) (q : Addr) (t b : Int), vs = [.ref p, .ref q] ∧ Pen H p c n ∧ n ≤ 999990 ∧ H q = some (.tup [.int t, .int b]) ∧ b ≠ 0 ∧ (t.natAbs < 2 ^ 100 ∧ b.natAbs < 2 ^ 100) ∧
  ∀ x H', RatOf (He.ga K "Ratio") H' x (rN t b, rD t b) → Pen H' p c (n + 1) → But p H H' → Q x H'
def spPair : Sp := fun vs H Q _ => ∃ (p c : Addr) (n : Nat), vs = [.ref p] ∧ Pen H p c n ∧ n ≤ 999990 ∧ ∀ (q : Addr) (t b : Int) (H' : Hp), H q = none → q ≠ p → H' q = some (.tup [.int t, .int b]) → b ≠ 0 → t.natAbs < 10 ^ 30 → b.natAbs < 10 ^ 30 → Pen H' p c (n + 4) → But p H H' → Q (.ref q) H'
def spLeast : Sp := fun vs H Q _ => ∃ t b : Int, vs = [.int t, .int b] ∧ b ≠ 0 ∧ b.natAbs.log2 < 8999 ∧ ∀ q H', Ext H H' → H q = none → H' q = some (.tup [.int (rN t b), .int (rD t b)]) → Q (.ref q) H'
section
variable {P : Program} {w : World} {K : PySem.W.Frag} {mg : Str → Option Value} {base : Heap}
theorem sc__law_draw : FnScope ["pen", "many", "digit", "spot", "cell", "great", "stirred"] ["pen", "many"] (defScope s__law_draw) := ⟨rfl, rfl, rfl, by decide +kernel, rfl, by decide +kernel, by decide +kernel⟩
theorem d__law_draw (T : Txt K mg) (A0 : At K mg "_law_draw" s__law_draw) : DefOk P w K mg base CX0 1 "_law_draw" ["pen", "many"] [] spDraw := by
  refine At.ok A0 sc__law_draw (fun _ _ F => F.bindsN fun _ _ _ _ _ _ us hl => match us, hl with | [_, _], _ => rfl) (fun vs H Q E h => ?_) (fun f cdv A out s H vs Q E hr h => ?_)
  · obtain ⟨p, c, n, m, rfl, _⟩ := h; rfl
  · have nd := sc__law_draw.nd
    refine ⟨_, (pss_cons (ps_if (pt_cmpR op_gt (pe_ix ix_list (pv 0) pe_int (fun _ _ => rfl)) pe_int (nomark _)) (pss_cons (ps_set (i := 2) nd rfl (Or.inl rfl) (pe_op op_mod (pe_callTy call_int1 (by rfl) T.f_int (by decide +kernel) (pa_cons (pe_ix ix_list (pv 0) pe_int (fun _ _ => rfl)) pa_nil)) (pv 1)))
          (pss_cons (ps_asg (pe_op op_fdiv (pe_callTy call_int1 (by rfl) T.f_int (by decide +kernel) (pa_cons (pe_ix ix_list (pv 0) pe_int (fun _ _ => rfl)) pa_nil)) (pv 1)) (pg_sub (pv 0) pe_int set_list))
          (pss_one (ps_ret (pv 2))))) pss_nil)
          (pss_cons (ps_set (i := 3) nd rfl (Or.inl rfl) (pe_ix ix_list (pv 0) pe_int (fun _ _ => rfl)))
          (pss_cons (ps_asg (pe_op op_add (pv 3) pe_int) (pg_sub (pv 0) pe_int set_list))
          (pss_cons (ps_set (i := 4) nd rfl (Or.inl rfl) (pe_op op_add (pe_op op_mul pe_int (pv 3)) pe_int))
          (pss_cut (ps_if (pt_cmpR (op_neD hr.units) (pe_ix ix_list (pv 0) pe_int (fun _ _ => rfl)) (pe_lst pa_nil) (nomark _)) (pss_one (ps_set (i := 4) nd rfl (Or.inl rfl) (pe_ix ix_list (pe_ix ix_list (pv 0) pe_int (fun _ _ => rfl)) (pe_op op_mod (pe_callTy call_int1 (by rfl) T.f_int (by decide +kernel) (pa_cons (pv 3) pa_nil)) (pe_callB call_len (by rfl) T.f_len (by decide +kernel) (pa_cons (pe_ix ix_list (pv 0) pe_int (fun _ _ => rfl)) pa_nil))) (fun _ _ => rfl)))) pss_nil)
          (pss_cut (ps_if (PW.pt (pw_and (pt_cmpR op_lt (pv 3) (pe_callB call_len (by rfl) T.f_len (by decide +kernel) (pa_cons (pe_ix ix_list (pv 0) pe_int (fun _ _ => rfl)) pa_nil)) (nomark _)) (pw_and1 (pt_cmpR op_ge (pe_callB call_abs (by rfl) T.f_abs (by decide +kernel) (pa_cons (pv 4) pa_nil)) (pe_op op_pow pe_int pe_int) (nomark _))))) (pss_cons (ps_set (i := 5) nd rfl (Or.inl rfl) (pe_op op_add (pe_op op_mul pe_int (pe_op op_sub (pe_callB call_abs (by rfl) T.f_abs (by decide +kernel) (pa_cons (pv 4) pa_nil)) (pe_op op_pow pe_int pe_int))) (pe_callTy call_int1 (by rfl) T.f_int (by decide +kernel) (pa_cons (pe_cmpR op_lt (pv 4) pe_int (nomark _)) pa_nil))))
          (pss_cons (ps_asg (pe_op op_fdiv (pe_callTy call_int1 (by rfl) T.f_int (by decide +kernel) (pa_cons (pv 5) pa_nil)) (pv 1)) (pg_sub (pv 0) pe_int set_list))
          (pss_one (ps_ret (pe_op op_mod (pe_callTy call_int1 (by rfl) T.f_int (by decide +kernel) (pa_cons (pv 5) pa_nil)) (pv 1)))))) pss_nil)
          (pss_cons (ps_set (i := 6) nd rfl (Or.inl rfl) (pe_op op_mod (pe_callTy call_int1 (by rfl) T.f_int (by decide +kernel) (pa_cons (pe_op op_pow (pe_op op_add (pe_op op_add (pe_op op_mod (pe_callTy call_int1 (by rfl) T.f_int (by decide +kernel) (pa_cons (pv 4) pa_nil)) pe_int) (pe_op op_mul pe_int (pv 3))) pe_int) pe_int) pa_nil)) pe_int))
          (pss_cons (ps_set (i := 6) nd rfl (Or.inl rfl) (pe_op op_mod (pe_callTy call_int1 (by rfl) T.f_int (by decide +kernel) (pa_cons (pe_op op_pow (pe_op op_add (pe_op op_add (pe_op op_mul (pv 6) (pe_op op_add (pe_op op_mul pe_int (pv 3)) pe_int)) (pe_op op_mul (pe_op op_mul pe_int (pv 3)) (pv 3))) pe_int) pe_int) pa_nil)) pe_int))
          (pss_one (ps_ret (pe_op op_mod (pe_callTy call_int1 (by rfl) T.f_int (by decide +kernel) (pa_cons (pe_op op_fdiv (pv 6) pe_int) pa_nil)) (pv 1)))))))))))), ?_⟩
    obtain ⟨p, c, n, m, rfl, pn, hn, hm, hm2, k⟩ := h
    have hc := pn.ne
    obtain ⟨ns, spot, great, h1, h2, hl, hs0, hs1, hg⟩ := pn.ex
    refine ⟨_, rfl, p, _, 2, _, rfl, rfl, SqL.of h1, rfl, _, _, rfl, rfl, _, rfl, ite2 (fun hb => ?_) (fun hb => ?_)⟩
    · have hb := of_decide_eq_true hb
      refine ⟨_, rfl, p, _, 2, _, rfl, rfl, SqL.of h1, rfl, .inl ⟨_, rfl, _, rfl, _, _, rfl, rfl, hm, ?_⟩⟩
      refine ⟨_, rfl, p, _, 2, _, rfl, rfl, SqL.of h1, rfl, .inl ⟨_, rfl, _, rfl, _, _, rfl, rfl, ⟨hm, hm2⟩, ?_⟩⟩
      refine ⟨_, rfl, p, _, 2, 2, rfl, rfl, h1, rfl, _, rfl, ?_⟩
      refine k _ _ (Int.emod_nonneg _ (by omega)) (Int.emod_lt_of_pos _ hm) ⟨ns, spot, great / m, upd_same, by rw [upd_ne hc]; exact h2, hl, hs0, by omega, Int.ediv_nonneg hg (by omega)⟩ (But.refl _ _).self
    -- spot = pen[1]; pen[1] = spot + 1; cell = ..
    refine ⟨_, rfl, p, _, 1, _, rfl, rfl, SqL.of h1, rfl, _, rfl, _, _, rfl, rfl, _, rfl, p, _, 1, 1, rfl, rfl, h1, rfl, ?_⟩
    have g1 : upd H p (.lst [.ref c, .int (spot + 1), .int great]) p = some (.lst [.ref c, .int (spot + 1), .int great]) := upd_same
    have g2 : upd H p (.lst [.ref c, .int (spot + 1), .int great]) c = some (.lst (ns.map V.int)) := by rw [upd_ne hc]; exact h2
    have g3 : ∀ b, b ≠ p → upd H p (.lst [.ref c, .int (spot + 1), .int great]) b = H b := fun b hb => upd_ne hb
    show tSeq _ _ _ _ (upd H p (.lst [.ref c, .int (spot + 1), .int great]))
    generalize upd H p (.lst [.ref c, .int (spot + 1), .int great]) = H1 at g1 g2 g3
    refine ⟨_, rfl, _, _, rfl, rfl, .inl ⟨by decide, by decide⟩, _, _, rfl, rfl, ?_⟩
    -- if pen[0] != []: cell = ..
    refine ⟨fun σ H2 => ∃ z : Int, σ = [some (.ref p), some (.int m), none, some (.int spot), some (.int z), none, none] ∧ H2 p = some (.lst [.ref c, .int (spot + 1), .int great]) ∧ H2 c = some (.lst (ns.map V.int)) ∧ (∀ b o, H b = some o → b ≠ p → H2 b = some o), ?_, ?_⟩
    · refine ⟨_, rfl, p, _, 0, _, rfl, rfl, SqL.of g1, rfl, by decide, fun l hl' => ?_⟩
      have e1 : upd H1 l (.lst []) p = some (.lst [.ref c, .int (spot + 1), .int great]) := by rw [upd_ne (ne_of_none g1 hl')]; exact g1
      have e2 : upd H1 l (.lst []) c = some (.lst (ns.map V.int)) := by rw [upd_ne (ne_of_none g2 hl')]; exact g2
      have e3 : ∀ b o, H b = some o → b ≠ p → upd H1 l (.lst []) b = some o := fun b o e hb => by
        have z : H1 b = some o := (g3 b hb).trans e
        rw [upd_ne (ne_of_none z hl')]
        exact z
      have e4 : upd H1 l (.lst []) l = some (.lst []) := upd_same
      show rNeD K _ _ (upd H1 l (.lst [])) _
      generalize upd H1 l (.lst []) = H3 at e1 e2 e3 e4
      refine ⟨.list (ns.map PyData.int), .list [], .lst (SqL.of e2) (dp_ints ns), .lst (SqL.of e4) .nil, shaped_ints ns, by decide +kernel, _, rfl, ?_⟩
      rw [eqv_ints_nil]
      cases hns : ns with
      | nil => exact ⟨_, rfl, e1, hns ▸ e2, e3⟩
      | cons z zs =>
        refine iteT ?_
        rw [← hns]
        have h0 : 0 < (ns.map V.int).length := by rw [hns]; simp
        obtain ⟨j, x, hj, hx, hat⟩ := atI_mod h0 spot
        obtain ⟨y, rfl⟩ : ∃ y, x = V.int y := by
          rw [List.getElem?_map] at hx
          cases q : ns[j]? with
          | none => rw [q] at hx; cases hx
          | some y => rw [q] at hx; exact ⟨y, (Option.some.inj hx).symm⟩
        refine ⟨_, rfl, p, _, 0, _, rfl, rfl, SqL.of e1, rfl, _, rfl, .inl ⟨_, rfl, _, rfl, p, _, 0, _, rfl, rfl, SqL.of e1, rfl, _, _, rfl, .inl ⟨_, SqL.of e2, rfl⟩, _, _, rfl, rfl, (by omega), c, _, _, _, rfl, rfl, SqL.of e2, hat, ?_⟩⟩
        exact ⟨y, rfl, e1, e2, e3⟩
    · rintro σ H2 ⟨z, rfl, f1, f2, f3⟩
      have fin : ∀ (v : Int) (g : Int) H', H' p = some (.lst [.ref c, .int (spot + 1), .int g]) → H' c = some (.lst (ns.map V.int)) → (∀ b o, H b = some o → b ≠ p → H' b = some o) → 0 ≤ g → Q (.int (v % m)) H' := fun v g H' q1 q2 q3 q4 =>
        k _ _ (Int.emod_nonneg _ (by omega)) (Int.emod_lt_of_pos _ hm) ⟨ns, _, _, q1, q2, hl, by omega, by omega, q4⟩ q3
      -- if spot < len(pen[0]) and abs(cell) >= 10 ** 18
      refine ⟨fun σ H3 => σ = [some (.ref p), some (.int m), none, some (.int spot), some (.int z), none, none] ∧ H3 = H2, ?_, ?_⟩
      · refine ⟨_, rfl, _, rfl, p, _, 0, _, rfl, rfl, SqL.of f1, rfl, _, _, rfl, .inl ⟨_, SqL.of f2, rfl⟩, _, _, rfl, rfl, _, rfl, ite2 (fun _ => ?_) (fun _ => iteF ⟨rfl, rfl⟩)⟩
        refine ⟨_, rfl, _, rfl, _, _, rfl, rfl, ⟨by decide, by decide, by decide⟩, _, _, rfl, rfl, _, rfl, ite2 (fun hz => ?_) (fun _ => ⟨rfl, rfl⟩)⟩
        have hz := of_decide_eq_true hz
        refine ⟨_, rfl, _, rfl, _, _, rfl, rfl, ⟨by decide, by decide, by decide⟩, _, _, rfl, rfl, _, _, rfl, rfl, .inl ⟨by decide, by decide⟩, _, rfl, _, _, rfl, rfl, .inr ⟨_, rfl, _, _, rfl, rfl, ?_⟩⟩
        refine ⟨_, rfl, .inl ⟨_, rfl, _, rfl, _, _, rfl, rfl, ⟨hm, hm2⟩, _, rfl, p, _, 2, 2, rfl, rfl, f1, rfl, _, rfl, .inl ⟨_, rfl, _, rfl, _, _, rfl, rfl, hm, ?_⟩⟩⟩
        refine fin _ _ _ upd_same (by rw [upd_ne hc]; exact f2) (fun b o e hb => by rw [upd_ne hb]; exact f3 b o e hb) (Int.ediv_nonneg ?_ (by omega))
        have h18 : (10 : Int) ^ (18 : Int).toNat = 1000000000000000000 := by decide
        rw [h18] at hz ⊢
        generalize (if z < 0 then -z else z) = y at hz ⊢
        have hc2 : 0 ≤ (if decide (z < 0) = true then (1 : Int) else 0) := by split <;> omega
        omega
      · rintro σ H3 ⟨rfl, rfl⟩
        -- stirred = ..
        have b1 := Int.emod_nonneg z (show (2147439867 : Int) ≠ 0 by decide)
        have b2 := Int.emod_lt_of_pos z (show (0 : Int) < 2147439867 by decide)
        refine ⟨_, rfl, .inl ⟨_, rfl, _, _, rfl, rfl, (by show (0 : Int) < 2147439867; decide), _, rfl, _, _, rfl, rfl, .inl ⟨by decide, by decide⟩, _, _, rfl, rfl, _, _, rfl, rfl, _, _, rfl, rfl, ⟨by decide, by decide, ?_⟩, .inl ⟨_, rfl, _, _, rfl, rfl, (by show (0 : Int) < 2147429889; decide), ?_⟩⟩⟩
        · omega
        have b3 := Int.emod_nonneg ((z % 2147439867 + 86123 * spot + 533) ^ (5 : Int).toNat) (show (2147429889 : Int) ≠ 0 by decide)
        have b4 := Int.emod_lt_of_pos ((z % 2147439867 + 86123 * spot + 533) ^ (5 : Int).toNat) (show (0 : Int) < 2147429889 by decide)
        show tSeq _ _ _ [some (.ref p), some (.int m), none, some (.int spot), some (.int z), none, some (.int ((z % 2147439867 + 86123 * spot + 533) ^ (5 : Int).toNat % 2147429889))] _
        generalize ((z % 2147439867 + 86123 * spot + 533) ^ (5 : Int).toNat) % 2147429889 = st at b3 b4 ⊢
        obtain ⟨c1, c2⟩ := mul_box (a := st) (b := 2 * spot + 155) (A := 2147429889) (B := 2000155) (by omega) (by omega) (by omega) (by omega)
        obtain ⟨c3, c4⟩ := mul_box (a := 73097 * spot) (b := spot) (A := 73097000000) (B := 1000000) (by omega) (by omega) (by omega) (by omega)
        refine ⟨_, rfl, _, rfl, _, _, rfl, rfl, .inl ⟨by decide, by decide⟩, _, _, rfl, rfl, _, _, rfl, rfl, .inl ⟨by omega, by omega⟩, _, rfl, _, _, rfl, rfl, .inl ⟨by decide, by decide⟩, _, rfl, _, _, rfl, rfl, .inl ⟨by omega, by omega⟩,
          _, _, rfl, rfl, _, _, rfl, rfl, _, _, rfl, rfl, ⟨by decide, by decide, by omega⟩, .inl ⟨_, rfl, _, _, rfl, rfl, (by show (0 : Int) < 2147419901; decide), ?_⟩⟩
        refine ⟨_, rfl, _, _, rfl, rfl, ⟨by decide, by decide⟩, .inl ⟨_, rfl, _, rfl, _, _, rfl, rfl, hm, ?_⟩⟩
        exact fin _ _ _ f1 f2 f3 hg
theorem sc__law_pen : FnScope ["script"] ["script"] (defScope s__law_pen) := ⟨rfl, rfl, rfl, by decide +kernel, rfl, by decide +kernel, by decide +kernel⟩
theorem d__law_pen (T : Txt K mg) (A0 : At K mg "_law_pen" s__law_pen) : DefOk P w K mg base CX0 1 "_law_pen" ["script"] [] (spPen K) := by
  refine At.ok A0 sc__law_pen (fun _ _ F => F.bindsN fun _ _ _ _ _ _ us hl => match us, hl with | [_], _ => rfl) (fun vs H Q E h => ?_) (fun f cdv A out s H vs Q E hr h => ?_)
  · obtain ⟨a, ns, rfl, _⟩ := h; rfl
  · have nd := sc__law_pen.nd
    refine ⟨_, (pss_one (ps_ret (pe_lst (pa_cons (pe_callTy call_list_of (by rfl) T.f_list (by decide +kernel) (pa_cons (pe_slice sl_list (pv 0) po_none (po_some pe_int)) pa_nil)) (pa_cons pe_int (pa_cons pe_int pa_nil)))))), ?_⟩
    obtain ⟨a, ns, rfl, hS, hn, k⟩ := h
    obtain ⟨ys, ey, ly, _⟩ := cut_map V.int ns none (some 63)
    refine ⟨_, rfl, _, rfl, a, _, rfl, hS, fun q hq => ?_⟩
    refine ⟨q, _, rfl, .inl (SqL.of upd_same), fun l hl => ?_⟩
    refine ⟨by show 3 ≤ sizeLine; decide, fun p hp => ?_⟩
    have e1 := ext_new (o := .lst (cutV (ns.map V.int) none (some 63))) hq
    have e2 := e1.new (o := .lst (cutV (ns.map V.int) none (some 63))) hl
    have e3 := e2.new (o := .lst [.ref l, .int 0, .int 0]) hp
    have nl : l ≠ p := ne_of_none upd_same hp
    refine k p l _ ?_ ?_ ⟨ys, 0, 0, upd_same, ?_, by omega, by omega, by omega, by omega⟩ e3
    · cases z : H p with
      | none => rfl
      | some u =>
        have := e2 p u z
        rw [hp] at this
        cases this
    · cases z : H l with
      | none => rfl
      | some u =>
        have := e1 l u z
        rw [hl] at this
        cases this
    · rw [upd_ne nl, upd_same, ey]
theorem sc__law_pick : FnScope ["pen", "some"] ["pen", "some"] (defScope s__law_pick) := ⟨rfl, rfl, rfl, by decide +kernel, rfl, by decide +kernel, by decide +kernel⟩
theorem d__law_pick (T : Txt K mg) (D_law_draw : DefOk P w K mg base CX0 1 "_law_draw" ["pen", "many"] [] spDraw) (A0 : At K mg "_law_pick" s__law_pick) : DefOk P w K mg base CX0 2 "_law_pick" ["pen", "some"] [] (spPick K) := by
  refine At.ok A0 sc__law_pick (fun _ _ F => F.bindsN fun _ _ _ _ _ _ us hl => match us, hl with | [_, _], _ => rfl) (fun vs H Q E h => ?_) (fun f cdv A out s H vs Q E hr h => ?_)
  · obtain ⟨p, c, l, n, xs, rfl, _⟩ := h; rfl
  · have nd := sc__law_pick.nd
    refine ⟨_, (pss_one (ps_ret (pe_ix ix_list (pv 1) (pe_d D_law_draw (hr.mono (by decide)) pass0 (pa_cons (pv 0) (pa_cons (pe_callB call_len (by rfl) T.f_len (by decide +kernel) (pa_cons (pv 1) pa_nil)) pa_nil))) (fun _ _ => rfl)))), ?_⟩
    obtain ⟨p, c, l, n, xs, rfl, pn, hn, hS, hlp, hne, hz, k⟩ := h
    have h0 : 0 < xs.length := List.length_pos_iff.mpr hne
    refine ⟨_, rfl, _, rfl, _, rfl, _, _, rfl, .inl ⟨_, hS, rfl⟩, p, c, n, _, rfl, pn, hn, by omega, by omega, fun i H' h1 h2 P' B' => ?_⟩
    obtain ⟨j, rfl⟩ := Int.eq_ofNat_of_zero_le h1
    have hj : j < xs.length := by omega
    refine ⟨l, xs, _, xs[j], rfl, rfl, B'.sq hlp hS, atI_nat (List.getElem?_eq_getElem hj), k j _ _ (List.getElem?_eq_getElem hj) P' B'⟩
theorem sc__law_shared : FnScope ["one_so", "two_so"] ["one_so", "two_so"] (defScope s__law_shared) := ⟨rfl, rfl, rfl, by decide +kernel, rfl, by decide +kernel, by decide +kernel⟩
theorem d__law_shared (T : Txt K mg) (A0 : At K mg "_law_shared" s__law_shared) : DefOk P w K mg base CX0 1 "_law_shared" ["one_so", "two_so"] [] spGcd := by
  refine At.ok A0 sc__law_shared (fun _ _ F => F.bindsN fun _ _ _ _ _ _ us hl => match us, hl with | [_, _], _ => rfl) (fun vs H Q E h => ?_) (fun f cdv A out s H vs Q E hr h => ?_)
  · obtain ⟨a, b, rfl, _⟩ := h; rfl
  · have nd := sc__law_shared.nd
    refine ⟨_, (pss_cut (ps_while PassesOwn.never (pt_cmpR op_ne (pv 1) pe_int (nomark _)) (pss_one (ps_par (i := 0) (j := 1) rfl nd rfl rfl (by decide) rfl rfl (pa_cons (pv 1) (pa_cons (pe_op op_mod (pe_callTy call_int1 (by rfl) T.f_int (by decide +kernel) (pa_cons (pv 0) pa_nil)) (pv 1)) pa_nil)) (by rfl))))
          (pss_one (ps_ret (pv 0)))), ?_⟩
    obtain ⟨a, b, rfl, ha, hb, k⟩ := h
    refine ⟨fun σ' H' => (∃ o, σ' = [some (.int (Int.gcd a b : Int)), o]) ∧ H' = H, ?_, ?_⟩
    rotate_left
    · rintro σ' H' ⟨⟨o, rfl⟩, rfl⟩
      exact ⟨_, rfl, k⟩
    refine while_by (fun σ H1 => ∃ x y : Int, σ = [some (.int x), some (.int y)] ∧ H1 = H ∧ 0 ≤ x ∧ 0 ≤ y ∧ Int.gcd x y = Int.gcd a b) (fun σ _ => match σ with
      | [_, some (.int y)] => y.toNat
      | _ => 0) ⟨a, b, rfl, rfl, ha, hb, rfl⟩ ?_ ?_
    · rintro σ H1 ⟨x, y, rfl, rfl, hx, hy, hg⟩
      refine ⟨_, rfl, rfl, _, rfl, ?_⟩
      have ei : decide (V.int y = V.int 0) = decide (y = 0) := by
        by_cases z : y = 0
        · rw [z]
          rfl
        · rw [decide_eq_false z, decide_eq_false fun q => z (V.int.inj q)]
      rw [ei]
      by_cases z : y = 0
      · subst z
        rw [decide_eq_true rfl]
        rw [Int.gcd_zero_right] at hg
        have e : x = (Int.gcd a b : Int) := by
          rw [← hg]
          exact (Int.natAbs_of_nonneg hx).symm
        rw [e]
        exact iteF ⟨⟨_, rfl⟩, rfl⟩
      · rw [decide_eq_false z]
        have hy' : 0 < y := by omega
        refine iteT ⟨_, rfl, _, rfl, .inl ⟨_, rfl, _, rfl, x, y, rfl, rfl, hy', _, _, rfl, ⟨y, x % y, rfl, rfl, hy, Int.emod_nonneg _ (by omega), ?_⟩, ?_⟩⟩
        · rw [gcd_step hx hy', hg]
        · have h1 := Int.emod_lt_of_pos x hy'
          have h2 := Int.emod_nonneg x (show y ≠ 0 by omega)
          show (x % y).toNat < y.toNat
          omega
    · intro σ H Q Q' hq
      exact fun ⟨v, e, sc, k, r, q⟩ => ⟨v, e, sc, k, r, hq _ _ q⟩
theorem sc__law_least : FnScope ["top", "bottom", "sign", "common"] ["top", "bottom"] (defScope s__law_least) := ⟨rfl, rfl, rfl, by decide +kernel, rfl, by decide +kernel, by decide +kernel⟩
theorem d__law_least (T : Txt K mg) (D_law_shared : DefOk P w K mg base CX0 1 "_law_shared" ["one_so", "two_so"] [] spGcd) (A0 : At K mg "_law_least" s__law_least) : DefOk P w K mg base CX0 2 "_law_least" ["top", "bottom"] [] spLeast := by
  refine At.ok A0 sc__law_least (fun _ _ F => F.bindsN fun _ _ _ _ _ _ us hl => match us, hl with | [_, _], _ => rfl) (fun vs H Q E h => ?_) (fun f cdv A out s H vs Q E hr h => ?_)
  · obtain ⟨t, b, rfl, _⟩ := h; rfl
  · have nd := sc__law_least.nd
    refine ⟨_, (pss_cons (ps_set (i := 2) nd rfl (Or.inl rfl) (pe_ifExp (pt_cmpR op_gt (pv 1) pe_int (nomark _)) pe_int (pe_un un_neg pe_int)))
          (pss_cons (ps_set (i := 3) nd rfl (Or.inl rfl) (pe_op op_mul (pv 2) (pe_d D_law_shared (hr.mono (by decide)) pass0 (pa_cons (pe_callB call_abs (by rfl) T.f_abs (by decide +kernel) (pa_cons (pv 0) pa_nil)) (pa_cons (pe_callB call_abs (by rfl) T.f_abs (by decide +kernel) (pa_cons (pv 1) pa_nil)) pa_nil)))))
          (pss_one (ps_ret (pe_tup (pa_cons (pe_op op_fdivX (pv 0) (pv 3)) (pa_cons (pe_op op_fdivX (pv 1) (pv 3)) pa_nil))))))), ?_⟩
    obtain ⟨t, b, rfl, h1, h2, k⟩ := h
    have fin : ∀ s : Int, s = (if b < 0 then -1 else 1) → (tSeq (tAsg (tOp (rI CMul fun i j => .int (i * j)) (tVar 2) (tCall spGcd [] E0 (tCons (tCB (fun xs H Q => ∃ i, xs = [.int i] ∧ Q (.int (if i < 0 then -i else i)) H) (tCons (tVar 0) tNil)) (tCons (tCB (fun xs H Q => ∃ i, xs = [.int i] ∧ Q (.int (if i < 0 then -i else i)) H) (tCons (tVar 1) tNil)) tNil)))) (gName 3))
        (tRet (tTup (tCons (tOp (rI (fun _ j => j ≠ 0 ∧ j.natAbs.log2 < 9000) fun i j => .int (i.fdiv j)) (tVar 0) (tVar 3)) (tCons (tOp (rI (fun _ j => j ≠ 0 ∧ j.natAbs.log2 < 9000) fun i j => .int (i.fdiv j)) (tVar 1) (tVar 3)) tNil)))))
        { nx := fun _ H' => Q .non H', rt := Q } [some (.int t), some (.int b), some (.int s), none] H := by
      intro s hs
      have eg : (Int.gcd (if t < 0 then -t else t) (if b < 0 then -b else b) : Int) = Int.gcd t b := by
        have z1 : ∀ u : Int, (if u < 0 then -u else u).natAbs = u.natAbs := fun u => by split <;> simp
        unfold Int.gcd
        rw [z1, z1]
      have er : s * (Int.gcd t b : Int) = rG t b := by
        rw [hs]
        unfold rG
        split <;> omega
      have hg := rG_ok t h1
      have hb : (rG t b).natAbs.log2 < 9000 := Nat.lt_of_le_of_lt (log2_mono (rG_le t h1)) (by omega)
      refine ⟨_, rfl, _, rfl, t, rfl, _, rfl, b, rfl, _, _, rfl, by split <;> omega, by split <;> omega, _, _, rfl, rfl, .inl ?_, ?_⟩
      · rw [hs]
        split <;> exact ⟨by decide, by decide⟩
      rw [eg]
      show gName 3 (V.int (s * (Int.gcd t b : Int))) _ H _
      rw [er]
      exact ⟨_, rfl, _, rfl, _, _, rfl, rfl, ⟨hg, hb⟩, _, rfl, _, rfl, _, _, rfl, rfl, ⟨hg, hb⟩, by show 2 ≤ sizeLine; decide, fun q hq => k q _ (ext_new hq) hq upd_same⟩
    refine ⟨_, rfl, b, 0, rfl, rfl, _, rfl, ?_⟩
    by_cases hb : 0 < b
    · rw [decide_eq_true hb]
      exact iteT (fin 1 (by rw [if_neg (by omega)]))
    · rw [decide_eq_false hb]
      exact iteF ⟨1, rfl, fin (-1) (by rw [if_pos (by omega)])⟩
theorem sc__law_pair : FnScope ["pen", "top"] ["pen"] (defScope s__law_pair) := ⟨rfl, rfl, rfl, by decide +kernel, rfl, by decide +kernel, by decide +kernel⟩
theorem d__law_pair (T : Txt K mg) (D_law_pick : DefOk P w K mg base CX0 2 "_law_pick" ["pen", "some"] [] (spPick K)) (D_law_draw : DefOk P w K mg base CX0 1 "_law_draw" ["pen", "many"] [] spDraw) (A0 : At K mg "_law_pair" s__law_pair) : DefOk P w K mg base CX0 3 "_law_pair" ["pen"] [] spPair := by
  refine At.ok A0 sc__law_pair (fun _ _ F => F.bindsN fun _ _ _ _ _ _ us hl => match us, hl with | [_], _ => rfl) (fun vs H Q E h => ?_) (fun f cdv A out s H vs Q E hr h => ?_)
  · obtain ⟨p, c, n, rfl, _⟩ := h; rfl
  · have nd := sc__law_pair.nd
    refine ⟨_, (pss_cons (ps_set (i := 1) nd rfl (Or.inl rfl) (pe_d D_law_pick (hr.mono (by decide)) pass0 (pa_cons (pv 0) (pa_cons (pe_lst (pa_cons pe_int (pa_cons pe_int (pa_cons (pe_un un_neg pe_int) (pa_cons pe_int (pa_cons pe_int (pa_cons (pe_un un_neg pe_int) (pa_cons (pe_op op_pow pe_int pe_int) (pa_cons (pe_op op_sub (pe_un un_neg (pe_op op_pow pe_int pe_int)) pe_int) (pa_cons (pe_op op_sub (pe_op op_pow pe_int pe_int) pe_int) (pa_cons (pe_op op_sub (pe_d D_law_draw (hr.mono (by decide)) pass0 (pa_cons (pv 0) (pa_cons pe_int pa_nil))) pe_int) pa_nil))))))))))) pa_nil))))
          (pss_one (ps_ret (pe_tup (pa_cons (pv 1) (pa_cons (pe_d D_law_pick (hr.mono (by decide)) pass0 (pa_cons (pv 0) (pa_cons (pe_lst (pa_cons pe_int (pa_cons pe_int (pa_cons (pe_un un_neg pe_int) (pa_cons pe_int (pa_cons pe_int (pa_cons (pe_un un_neg pe_int) (pa_cons pe_int (pa_cons (pe_op op_pow pe_int pe_int) (pa_cons (pe_op op_add (pe_un un_neg (pe_op op_pow pe_int pe_int)) pe_int) (pa_cons (pe_op op_add pe_int (pe_d D_law_draw (hr.mono (by decide)) pass0 (pa_cons (pv 0) (pa_cons pe_int pa_nil)))) pa_nil))))))))))) pa_nil))) pa_nil)))))), ?_⟩
    obtain ⟨p, c, n, rfl, P, hn, k⟩ := h
    refine ⟨_, rfl, _, rfl, _, rfl, _, _, rfl, rfl, ⟨by decide, by decide, by decide⟩, _, _, rfl, rfl, ⟨by decide, by decide, by decide⟩, _, rfl, _, _, rfl, rfl, _, _, rfl, rfl, ⟨by decide, by decide, by decide⟩, _, _, rfl, rfl, _, rfl, p, c, n, _, rfl, P, by omega, by decide, by decide, fun d H1 d0 d1 P1 B1 => ?_⟩
    refine ⟨_, _, rfl, rfl, by show 10 ≤ sizeLine; decide, fun l hl => ?_⟩
    have lp := P1.np hl
    refine ⟨p, c, l, n + 1, _, rfl, P1.new hl, by omega, SqL.of upd_same, lp, by simp, by show 10 < 1000000; decide, fun i x H2 hx P2 B2 => ?_⟩
    obtain ⟨t, rfl, _, ht⟩ := int_of_menu (zs := [0, 1, -1, 3, 10, -21, 10 ^ (29 : Int).toNat, -(10 ^ (29 : Int).toNat) - 1, 10 ^ (30 : Int).toNat - 1, d - 80]) (p := fun i => i.natAbs < 10 ^ 30) (by
      intro z hz
      simp only [List.mem_cons, List.not_mem_nil, or_false] at hz
      rcases hz with rfl | rfl | rfl | rfl | rfl | rfl | rfl | rfl | rfl | rfl
      all_goals first
        | decide +kernel
        | exact Nat.lt_of_le_of_lt (show (d - 80).natAbs ≤ 80 by omega) (by decide +kernel)) hx
    refine ⟨_, rfl, _, rfl, _, rfl, _, rfl, _, _, rfl, rfl, ⟨by decide, by decide, by decide⟩, _, _, rfl, rfl, ⟨by decide, by decide, by decide⟩, _, rfl, _, _, rfl, rfl, _, rfl, p, c, n + 2, _, rfl, P2, by omega, by decide, by decide, fun d2 H3 d3 d4 P3 B3 => ?_⟩
    refine ⟨_, _, rfl, rfl, by show 10 ≤ sizeLine; decide, fun l2 hl2 => ?_⟩
    refine ⟨p, c, l2, n + 3, _, rfl, P3.new hl2, by omega, SqL.of upd_same, P3.np hl2, by simp, by show 10 < 1000000; decide, fun i2 x2 H4 hx2 P4 B4 => ?_⟩
    obtain ⟨b, rfl, _, hb0, hb⟩ := int_of_menu (zs := [1, 1, -1, 2, 5, -9, 12, 10 ^ (29 : Int).toNat, -(10 ^ (30 : Int).toNat) + 1, 1 + d2]) (p := fun i => i ≠ 0 ∧ i.natAbs < 10 ^ 30) (by
      intro z hz
      simp only [List.mem_cons, List.not_mem_nil, or_false] at hz
      rcases hz with rfl | rfl | rfl | rfl | rfl | rfl | rfl | rfl | rfl | rfl
      all_goals first
        | decide +kernel
        | exact ⟨by omega, Nat.lt_of_le_of_lt (show (1 + d2).natAbs ≤ 51 by omega) (by decide +kernel)⟩) hx2
    refine ⟨by show 2 ≤ sizeLine; decide, fun q hq => ?_⟩
    have BB : But p H H4 := (((B1.new hl).trans B2).trans (B3.new hl2)).trans B4
    exact k q t b _ (BB.none hq (P4.np hq)) (P4.np hq) upd_same hb0 ht hb (P4.new hq) (BB.new hq)



end
end K07

set_option maxRecDepth 100000
set_option maxHeartbeats 4000000
namespace K07
open PySem PySem.Spec PyProof.Rows Gs
open L2 hiding Ext paired_get
open C8 (tCut pss_cut)
abbrev PII := Int × Int
def figV : V → Bool
  | .str z => figs z.cps.toList
  | _ => false
def Short (v : V) : Prop := ∀ z, v = .str z → z.length ≤ 4200
def spFig (K : PySem.W.Frag) : Sp := fun vs H Q _ => ∃ v, vs = [v] ∧ Odd K H v ∧ Short v ∧ ∀ H', Gs.Ext H H' → Q (.bl (figV v)) H'
/-- the text of a fraction -/
def txtR (n d : Int) : Str := if d = 1 then Str.ofString (toString n) else (Str.ofString (toString n) ++ "/") ++ Str.ofString (toString d)
def spStr (C : Addr) : Sp := fun vs H Q _ => ∃ (a : Addr) (n d : Int), vs = [.ref a] ∧ Gs.Rat C H a n d ∧ n.natAbs < 10 ^ 4300 ∧ (d ≠ 1 → n.natAbs.log2 < 1920 ∧ d.natAbs.log2 < 1920) ∧ Q (.str (txtR n d)) H
def spEqR (K : PySem.W.Frag) (C : Addr) : Sp := fun vs H Q _ => ∃ a n d y, vs = [.ref a, y] ∧ Gs.Rat C H a n d ∧ AnyV K C H y ∧ (∀ b n' d', y = .ref b → Gs.Rat C H b n' d' → Q (.bl (decide (n = n') && decide (d = d'))) H) ∧ (vRat C H y = false → Q (.bl false) H)
/-- a great whole number times an integer -/
def spMul (C : Addr) : Sp := fun vs H Q _ => ∃ (a : Addr) (n j : Int), vs = [.ref a, .int j] ∧ Gs.Rat C H a n 1 ∧ n.natAbs < 2 ^ 14000 ∧ j.natAbs < 2 ^ 1000 ∧ Made C H (n * j) 1 Q
def spNo : Sp := fun _ _ _ _ => False
theorem empty_app (a : Str) : Str.empty ++ a = a := by
  show (⟨#[] ++ a.cps⟩ : Str) = a
  rw [Array.empty_append]
theorem app_len (a b : Str) : (a ++ b).length = a.length + b.length := by
  show (a.cps ++ b.cps).size = _
  rw [Array.size_append]
  rfl
section
variable {P : Program} {w : World} {K : PySem.W.Frag} {mg : Str → Option Value} {base : Heap}
theorem sc_is_figures : FnScope ["word", "figures", "sign"] ["word"] (defScope s_is_figures) := ⟨rfl, rfl, rfl, by decide +kernel, rfl, by decide +kernel, by decide +kernel⟩
theorem d_is_figures (T : Txt K mg) (A0 : At K mg "is_figures" s_is_figures) : DefOk P w K mg base CX0 1 "is_figures" ["word"] [] (spFig K) := by
  refine At.ok A0 sc_is_figures (fun _ _ F => F.bindsN fun _ _ _ _ _ _ us hl => match us, hl with | [_], _ => rfl) (fun vs H Q E h => ?_) (fun f cdv A out s H vs Q E hr h => ?_)
  · obtain ⟨v, rfl, _⟩ := h; rfl
  · have nd := sc_is_figures.nd
    refine ⟨_, (pss_cons (ps_if (pt_not (pt_val (pe_callB call_isi (by rfl) T.f_isinstance (by decide +kernel) (pa_cons (pv 0) (pa_cons (pe_bltn (v := .ty "str") (by rfl) T.f_str (by decide +kernel) rfl) pa_nil))))) (pss_one (ps_ret pe_bl)) pss_nil)
          (pss_cut (ps_set (i := 1) nd rfl (Or.inl rfl) (pe_ifExp (pt_cmpR op_eq (pe_slice sl_str (pv 0) po_none (po_some pe_int)) pe_str (nomark _)) (pe_slice sl_str (pv 0) (po_some pe_int) po_none) (pv 0)))
          (pss_cons (ps_if (pt_not (pt_chain op_le op_le pe_int (pe_callB call_len_str (by rfl) T.f_len (by decide +kernel) (pa_cons (pv 1) pa_nil)) (pe_glob (v := .int 4000) (by rfl) T.g_MOST_FIGURES.choose_spec ⟨_, rfl⟩))) (pss_one (ps_ret pe_bl)) pss_nil)
          (pss_cons (ps_if (pt_not (pt_val (pe_callB (cr_all rfl) (by rfl) T.f_all (by decide +kernel) (pa_cons (pe_lc (own := [("sign", 2)]) rfl nd (pi_str (pv 1)) (blkOk_by (N := ["word", "figures", "sign"]) (sc := defScope s_is_figures) (own := [("sign", 2)]) (by decide +kernel)) (fun _ _ _ _ _ => (pg_name (i := 2) nd rfl (Or.inl rfl))) (fun _ _ _ _ _ => pts_nil) (fun _ _ _ _ _ => (pe_cmpR op_in_sign (pv 2) pe_str (by rfl)))) pa_nil)))) (pss_one (ps_ret pe_bl)) pss_nil)
          (pss_one (ps_ret (pe_or (pe_cmpR op_eq (pv 0) pe_str (nomark _)) (pe_one (pe_cmpR op_ne (pe_ix ix_str (pv 1) pe_int (fun _ _ => rfl)) pe_str (nomark _)))))))))), ?_⟩
    obtain ⟨v, rfl, hv, hsh, k⟩ := h
    obtain ⟨t, ty, kt⟩ := odd_str hv
    refine ⟨_, rfl, _, _, t, _, _, rfl, .ty _, ty, kt, _, rfl, ?_⟩
    cases v with
    | str z => ?_
    | _ => exact iteT (k _ (Ext.refl _))
    refine iteF ?_
    have hz : z.length ≤ sizeLine := Nat.le_trans (hsh z rfl) (by decide)
    have hz2 : (dec z.cps.toList).length ≤ sizeLine := Nat.le_trans (dec_len _) (by rw [← len_tl]; exact hz)
    refine ⟨fun σ H2 => σ = [some (.str z), some (.str (SX.S (dec z.cps.toList))), none] ∧ H2 = H, ?_, ?_⟩
    · refine ⟨_, rfl, _, rfl, z, rfl, hz, rfl, _, rfl, ?_⟩
      rw [dash_test]
      by_cases hn : z.cps.toList.take 1 = [45]
      · rw [decide_eq_true hn]
        refine iteT ⟨_, rfl, _, rfl, z, rfl, hz, ?_⟩
        rw [cut_from1, ← dec_pos hn]
        exact ⟨rfl, rfl⟩
      · rw [decide_eq_false hn]
        refine iteF ⟨_, rfl, ?_⟩
        rw [dec_neg hn, SX.S_tl]
        exact ⟨rfl, rfl⟩
    rintro σ H2 ⟨rfl, rfl⟩
    have ez : (SX.S (dec z.cps.toList)).length = (dec z.cps.toList).length := SX.S_len _
    refine ch_le (i := 1) (j := ((dec z.cps.toList).length : Int)) (k := 4000) pu_c (fun H Q q => ⟨_, rfl, _, rfl, by rw [ez]; exact hz2, by rw [ez]; exact q⟩) pu_c ⟨_, rfl, ?_⟩
    by_cases hc : 1 ≤ (dec z.cps.toList).length ∧ (dec z.cps.toList).length ≤ 4000
    case neg =>
      rw [decide_eq_false (by omega)]
      refine iteT ?_
      have e : figV (.str z) = false := by
        show figs _ = false
        unfold figs
        rw [decide_eq_false hc]
        rfl
      exact e ▸ k _ (Ext.refl _)
    rw [decide_eq_true (by omega)]
    refine iteF ?_
    refine ⟨_, rfl, _, rfl, fun D hD => lc_txt1 (fun c => .bl (isFig c)) (fun c H Q _ q => ⟨_, rfl, c, _, rfl, rfl, q⟩) (by rw [ez]; exact hz2) ?_⟩
    refine ⟨D, (dec z.cps.toList).map isFig, rfl, SqL.of (by rw [upd_same, List.map_map]; rfl), _, rfl, ?_⟩
    have ex : Ext H2 (upd H2 D (.lst ((SX.S (dec z.cps.toList)).cps.toList.map fun c => V.bl (isFig c)))) := ext_new hD
    rw [show ((dec z.cps.toList).map isFig).all id = (dec z.cps.toList).all isFig by simp [List.all_map]]
    cases hd : (dec z.cps.toList).all isFig with
    | false =>
      refine iteT ?_
      have e : figV (.str z) = false := by
        show figs _ = false
        unfold figs
        rw [hd, Bool.and_false]
        rfl
      exact e ▸ k _ ex
    | true =>
      have ef : figV (.str z) = (decide (z.cps.toList = [48]) || decide ((dec z.cps.toList).head? ≠ some 48)) := by
        show figs _ = _
        unfold figs
        rw [decide_eq_true hc, hd]
        rfl
      rw [ef] at k
      refine iteF ⟨_, rfl, rfl, _, rfl, ?_⟩
      rw [iff_str, show ("0" : Str).cps.toList = [48] by decide +kernel]
      by_cases h48 : z.cps.toList = [48]
      · rw [decide_eq_true h48] at k ⊢
        exact iteT (k _ ex)
      · rw [decide_eq_false h48] at k ⊢
        refine iteF ?_
        cases hdz : dec z.cps.toList with
        | nil =>
          rw [hdz] at hc
          exact absurd hc.1 (by decide)
        | cons c cs =>
          refine ⟨_, rfl, SX.S (c :: cs), 0, c, rfl, rfl, by rw [SX.S_len, ← hdz]; exact hz2, atI_nat (j := 0) rfl, rfl, ?_⟩
          rw [iff_str, show ("0" : Str).cps.toList = [48] by decide +kernel]
          rw [hdz] at k ex
          have e : (!decide ((⟨#[c]⟩ : Str).cps.toList = [48])) = (false || decide ((c :: cs).head? ≠ some 48)) := by
            by_cases hc0 : c = 48 <;> simp [hc0]
          rw [e]
          exact k _ ex
theorem sc_Ratio___str__ : FnScope ["self"] ["self"] (defScope s_Ratio___str__) := ⟨rfl, rfl, rfl, by decide +kernel, rfl, by decide +kernel, by decide +kernel⟩
theorem d_Ratio___str__ (T : Txt K mg) (ND : NoDig base) (RF : RatF K (He.ga K "Ratio"))  (A0 : AtF K (He.ma K (He.ga K "Ratio") "__str__") "__str__" "Ratio.__str__" s_Ratio___str__ []) {dvs : List V} (bnd : ∀ fd, FunD K "__str__" "Ratio.__str__" (defArgs s_Ratio___str__) (defBody s_Ratio___str__) (defScope s_Ratio___str__) [] [] (He.ma K (He.ga K "Ratio") "__str__") fd → ∃ ds, Vals dvs ds ∧ Binds K fd ["self"] ds) : FunOk P w K mg base CX0 1 (He.ma K (He.ga K "Ratio") "__str__") ["self"] dvs (spStr (He.ga K "Ratio")) := by
  refine AtF.ok0 A0 sc_Ratio___str__ bnd (fun vs H Q E h => ?_) (fun cdv A out s H vs Q E hr h => ?_)
  · obtain ⟨a, n, d, rfl, _⟩ := h; rfl
  · have nd := sc_Ratio___str__.nd
    refine ⟨_, (pss_cons (ps_if (pt_cmpR op_eq (pe_fld (pv 0) rfl) pe_int (nomark _)) (pss_one (ps_ret (pe_callTy (call_str_long ND) (by rfl) T.f_str (by decide +kernel) (pa_cons (pe_fld (pv 0) rfl) pa_nil)))) pss_nil)
          (pss_one (ps_ret (pe_joined (PJ.cons (pe_fmt (pe_fld (pv 0) rfl)) (PJ.cons pe_str (PJ.cons (pe_fmt (pe_fld (pv 0) rfl)) PJ.nil))))))), ?_⟩
    obtain ⟨a, n, d, rfl, ⟨dx, r⟩, hn, hd, k⟩ := h
    refine ⟨_, rfl, a, _, dx, _, _, rfl, r, RF.cls, RF.under, rfl, rfl, _, rfl, ?_⟩
    have e : decide (V.int d = V.int 1) = decide (d = 1) := by
      by_cases z : d = 1
      · rw [z, decide_eq_true rfl, decide_eq_true rfl]
      · rw [decide_eq_false z, decide_eq_false fun q => z (V.int.inj q)]
    rw [e]
    unfold txtR at k
    by_cases z : d = 1
    · rw [decide_eq_true z]
      rw [if_pos z] at k
      exact iteT ⟨_, rfl, a, _, dx, _, _, rfl, r, RF.cls, RF.over, rfl, n, rfl, hn, k⟩
    · rw [decide_eq_false z]
      rw [if_neg z] at k
      obtain ⟨h1, h2⟩ := hd z
      have l1 := int_text_fits h1
      have l2 := int_text_fits h2
      have le : ∀ {x : Int}, (Str.ofString (toString x)).length ≤ sizeLine → x.natAbs.log2 < 1920 → (Str.ofString (toString x)).length ≤ 4301 := fun {x} _ h => int_len (Nat.lt_of_lt_of_le (Nat.lt_of_lt_of_le Nat.lt_log2_self (Nat.pow_le_pow_right (by decide) (show x.natAbs.log2 + 1 ≤ 1920 by omega))) (by decide +kernel))
      have q1 := le l1 h1
      have q2 := le l2 h2
      refine iteF ⟨_, rfl, a, _, dx, _, _, rfl, r, RF.cls, RF.over, rfl, .inr ⟨n, rfl, h1, _, rfl, ?_, _, rfl, ?_, _, rfl, a, _, dx, _, _, rfl, r, RF.cls, RF.under, rfl, .inr ⟨d, rfl, h2, _, rfl, ?_, ?_⟩⟩⟩
      · rw [empty_app]
        exact l1
      · rw [empty_app, app_len]
        exact Nat.le_trans (Nat.add_le_add_right q1 _) (by decide)
      · rw [empty_app, app_len, app_len]
        exact Nat.le_trans (Nat.add_le_add (Nat.add_le_add_right q1 _) q2) (by decide)
      · rw [empty_app]
        exact k
theorem sc_Ratio___eq__ : FnScope ["self", "other"] ["self", "other"] (defScope s_Ratio___eq__) := ⟨rfl, rfl, rfl, by decide +kernel, rfl, by decide +kernel, by decide +kernel⟩
theorem d_Ratio___eq__ (T : Txt K mg) (RF : RatF K (He.ga K "Ratio"))  (A0 : AtF K (He.ma K (He.ga K "Ratio") "__eq__") "__eq__" "Ratio.__eq__" s_Ratio___eq__ []) {dvs : List V} (bnd : ∀ fd, FunD K "__eq__" "Ratio.__eq__" (defArgs s_Ratio___eq__) (defBody s_Ratio___eq__) (defScope s_Ratio___eq__) [] [] (He.ma K (He.ga K "Ratio") "__eq__") fd → ∃ ds, Vals dvs ds ∧ Binds K fd ["self", "other"] ds) : FunOk P w K mg base CX0 1 (He.ma K (He.ga K "Ratio") "__eq__") ["self", "other"] dvs (spEqR K (He.ga K "Ratio")) := by
  refine AtF.ok0 A0 sc_Ratio___eq__ bnd (fun vs H Q E h => ?_) (fun cdv A out s H vs Q E hr h => ?_)
  · obtain ⟨a, n, d, y, rfl, _⟩ := h; rfl
  · have nd := sc_Ratio___eq__.nd
    refine ⟨_, (pss_one (ps_ret (pe_and (pe_callB call_isi (by rfl) T.f_isinstance (by decide +kernel) (pa_cons (pv 1) (pa_cons (pe_glob (v := .ref (He.ga K "Ratio")) (by rfl) T.c_Ratio rfl) pa_nil))) (pe_and (pe_cmpR op_eq (pe_fld (pv 0) rfl) (pe_fld (pv 1) rfl) (nomark _)) (pe_one (pe_cmpR op_eq (pe_fld (pv 0) rfl) (pe_fld (pv 1) rfl) (nomark _))))))), ?_⟩
    obtain ⟨a, n, d, y, rfl, ra, any, k1, k2⟩ := h
    obtain ⟨ho, t, ty, kt⟩ := any.odd RF
    refine ⟨_, rfl, _, _, t, _, _, rfl, .own _, ty, kt, _, rfl, ?_⟩
    cases hv : vRat (He.ga K "Ratio") H y with
    | false => exact k2 hv
    | true =>
      obtain ⟨b, n', d', rfl, rb⟩ := vrat_at any hv
      have k := k1 b n' d' rfl rb
      obtain ⟨dx, ra⟩ := ra
      obtain ⟨dy, rb⟩ := rb
      refine ⟨_, rfl, a, _, dx, _, _, rfl, ra, RF.cls, RF.over, rfl, _, rfl, b, _, dy, _, _, rfl, rb, RF.cls, RF.over, rfl, rfl, _, rfl, ?_⟩
      have e1 : decide (V.int n = V.int n') = decide (n = n') := by
        by_cases z : n = n'
        · rw [z, decide_eq_true rfl, decide_eq_true rfl]
        · rw [decide_eq_false z, decide_eq_false fun q => z (V.int.inj q)]
      have e2 : decide (V.int d = V.int d') = decide (d = d') := by
        by_cases z : d = d'
        · rw [z, decide_eq_true rfl, decide_eq_true rfl]
        · rw [decide_eq_false z, decide_eq_false fun q => z (V.int.inj q)]
      rw [e1]
      by_cases z : n = n'
      · rw [decide_eq_true z] at k ⊢
        refine iteT ⟨_, rfl, a, _, dx, _, _, rfl, ra, RF.cls, RF.under, rfl, _, rfl, b, _, dy, _, _, rfl, rb, RF.cls, RF.under, rfl, rfl, ?_⟩
        rw [e2]
        exact k
      · rw [decide_eq_false z] at k ⊢
        exact iteF k
theorem sc_Ratio___mul__ : FnScope ["self", "other", "told"] ["self", "other"] (defScope s_Ratio___mul__) := ⟨rfl, rfl, rfl, by decide +kernel, rfl, by decide +kernel, by decide +kernel⟩
theorem d_Ratio___mul__ (T : Txt K mg) (RF : RatF K (He.ga K "Ratio")) (Dtold_of : DefOk P w K mg base (L2.CX P w) 5 "told_of" ["value"] [] (spTold K (He.ga K "Ratio") (He.ga K "BadRatio")))(M_Ratio : Mk K (He.ga K "Ratio") (He.ma K (He.ga K "Ratio") "__init__"))(D_Ratio2 : FunOk P w K mg base (L2.CX P w) 3 (He.ma K (He.ga K "Ratio") "__init__") ["self", "over", "under"] [] (spInit K (He.ga K "Ratio") (He.ga K "BadRatio"))) (A0 : AtF K (He.ma K (He.ga K "Ratio") "__mul__") "__mul__" "Ratio.__mul__" s_Ratio___mul__ []) {dvs : List V} (bnd : ∀ fd, FunD K "__mul__" "Ratio.__mul__" (defArgs s_Ratio___mul__) (defBody s_Ratio___mul__) (defScope s_Ratio___mul__) [] [] (He.ma K (He.ga K "Ratio") "__mul__") fd → ∃ ds, Vals dvs ds ∧ Binds K fd ["self", "other"] ds) : FunOk P w K mg base (L2.CX P w) 7 (He.ma K (He.ga K "Ratio") "__mul__") ["self", "other"] dvs (spMul (He.ga K "Ratio")) := by
  refine AtF.okX A0 sc_Ratio___mul__ bnd (fun vs H Q E h => ?_) (fun cdv A out s H vs Q E hr tk h => ?_)
  · obtain ⟨a, n, j, rfl, _⟩ := h; rfl
  · have nd := sc_Ratio___mul__.nd
    refine ⟨_, (pss_cons (ps_set (i := 2) nd rfl (Or.inl rfl) (pe_d Dtold_of (hr.mono (by decide)) (passes_call tk fun _ _ _ _ h => h) (pa_cons (pv 1) pa_nil)))
          (pss_one (ps_ret (pe_mk2 (pe_mkF M_Ratio T.c_Ratio D_Ratio2 (hr.mono (by decide)) (passes_call tk fun _ _ _ _ h => h) (taM_ok (pa_cons (pe_op op_mulW (pe_fld (pv 0) rfl) (pe_fld (pv 2) rfl)) (pa_cons (pe_op op_mulW (pe_fld (pv 0) rfl) (pe_fld (pv 2) rfl)) pa_nil)))))))), ?_⟩
    obtain ⟨a, n, j, rfl, ⟨dx, r⟩, hn, hj, k⟩ := h
    refine ⟨_, rfl, .int j, rfl, .int j, (fun z => by cases z), (fun _ z => by cases z), fun i ei => ?_⟩
    cases ei
    rintro b H' e nb ⟨dy, rb⟩
    have ra := e _ _ r
    refine ⟨_, rfl, a, _, dx, _, _, rfl, ra, RF.cls, RF.over, rfl, _, rfl, b, _, dy, _, _, rfl, rb, RF.cls, RF.over, rfl, _, _, rfl, rfl, wide_mul hn hj (by decide) (by decide) (by decide), _, rfl, a, _, dx, _, _, rfl, ra, RF.cls, RF.under, rfl, _, rfl, b, _, dy, _, _, rfl, rb, RF.cls, RF.under, rfl, _, _, rfl, rfl, (show (Int.natAbs 1).log2 + (Int.natAbs 1).log2 < 1000000 by decide), _, _, rfl, by decide, by decide, ?_⟩
    rw [show (1 : Int) * 1 = 1 from rfl, rN_one, rD_one]
    exact k.up e
theorem sc_Ratio___rmul__ : FnScope ["self", "other", "told"] ["self", "other"] (defScope s_Ratio___rmul__) := ⟨rfl, rfl, rfl, by decide +kernel, rfl, by decide +kernel, by decide +kernel⟩
theorem d_Ratio___rmul__  (A0 : AtF K (He.ma K (He.ga K "Ratio") "__rmul__") "__rmul__" "Ratio.__rmul__" s_Ratio___rmul__ []) {dvs : List V} (bnd : ∀ fd, FunD K "__rmul__" "Ratio.__rmul__" (defArgs s_Ratio___rmul__) (defBody s_Ratio___rmul__) (defScope s_Ratio___rmul__) [] [] (He.ma K (He.ga K "Ratio") "__rmul__") fd → ∃ ds, Vals dvs ds ∧ Binds K fd ["self", "other"] ds) : FunOk P w K mg base (L2.CX P w) 7 (He.ma K (He.ga K "Ratio") "__rmul__") ["self", "other"] dvs spNo := by
  refine AtF.okX A0 sc_Ratio___rmul__ bnd (fun vs H Q E h => ?_) (fun cdv A out s H vs Q E hr tk h => ?_)
  · exact h.elim
  · exact h.elim
end
end K07

set_option maxRecDepth 100000
set_option maxHeartbeats 4000000
namespace K07
open PySem PySem.Spec PyProof.Rows Gs
open L2 hiding Ext paired_get
open C8 (tCut pss_cut)
/-- a list built over a list of values, by steps that only make objects -/
theorem lc_ext {K : PySem.W.Frag} {a : Addr} {xs : List V} {i : Nat} {tt : TT} {te : TE} {σ : L2.St} {H1 : Hp} {D : Addr} {Qd : Hp → Prop} (b : V → Bool) (f : V → V) (hx : H1 a = some (.lst xs)) (n : H1 D = none) (hz : xs.length ≤ sizeLine)
    (ht : ∀ x H (Q : Bool → Hp → Prop), x ∈ xs → Gs.Ext H1 H → (∀ H', Gs.Ext H H' → Q (b x) H') → tt ((wipe σ [i]).set i (some x)) H Q)
    (he : ∀ x H (Q : VK), x ∈ xs → b x = true → Gs.Ext H1 H → (∀ H', Gs.Ext H H' → Q (f x) H') → te ((wipe σ [i]).set i (some x)) H Q)
    (hd : ∀ H, Gs.Ext H1 H → H D = some (.lst ((xs.filter b).map f)) → Qd H) :
    ∃ W : Nat → Nat → Hp → Prop, (∃ m, W 0 m (upd H1 D (.lst []))) ∧ ∀ i' m H, W i' m H →
      ((Itl K a).stop i' H ∧ Qd H) ∨ ((Itl K a).go i' H ∧ ∃ Nx : Hp → Prop, (∀ H', Nx H' → ∃ m', m' < m ∧ W (i' + 1) m' H') ∧ ∀ x H', (Itl K a).yld i' H x H' → gName i x (wipe σ [i]) H' fun σ2 H2 => wipe σ2 [i] = wipe σ [i] ∧ tt σ2 H2 fun b H3 =>
        if b = true then te σ2 H3 fun y H4 => ∃ acc, H4 D = some (.lst acc) ∧ acc.length < sizeLine ∧ Nx (upd H4 D (.lst (acc ++ [y]))) else Nx H3) := by
  have up : ∀ {H : Hp} {ys : List V}, Gs.Ext H1 H → Gs.Ext H1 (upd H D (.lst ys)) := fun {H ys} e c o z => by
    rw [upd_ne (ne_of_none z n)]
    exact e c o z
  refine lc_list (K := K) (xs := xs) (fun j H => Gs.Ext H1 H ∧ H D = some (.lst (((xs.take j).filter b).map f))) ⟨ext_new n, by rw [List.take_zero]; exact upd_same⟩ (fun j H _ h => SqL.of (h.1 _ _ hx)) ?_ fun H h => hd H h.1 (by rw [h.2, List.take_length])
  rintro j x H hj ⟨e1, e2⟩
  have hm := List.mem_of_getElem? hj
  have tk : xs.take (j + 1) = xs.take j ++ [x] := by rw [List.take_succ, hj]; rfl
  have hlt : j < xs.length := (List.getElem?_eq_some_iff.mp hj).1
  refine ⟨wipe_one _ _ _, ht x H _ hm e1 fun H' e => ?_⟩
  cases hb : b x with
  | true =>
    refine iteT (he x H' _ hm hb (e1.trans e) fun H'' e' => ⟨_, e' _ _ (e _ _ e2), ?_, up ((e1.trans e).trans e'), ?_⟩)
    · rw [List.length_map]
      refine Nat.lt_of_le_of_lt (List.length_filter_le _ _) ?_
      rw [List.length_take]
      omega
    · rw [upd_same, tk, List.filter_append, List.map_append, List.filter_cons_of_pos hb]
      rfl
  | false =>
    refine iteF ⟨e1.trans e, ?_⟩
    rw [e _ _ e2, tk, List.filter_append, List.filter_cons_of_neg (by rw [hb]; decide), List.filter_nil, List.append_nil]
theorem ch_at {ta tb tc : TE} {σ : L2.St} {H : Hp} {Q : VK} {i j k : Int} (ha : ∀ Q : VK, Q (.int i) H → ta σ H Q) (hb : ∀ Q : VK, Q (.int j) H → tb σ H Q) (hc : ∀ Q : VK, Q (.int k) H → tc σ H Q) (q : Q (.bl (decide (i ≤ j ∧ j ≤ k))) H) :
    tChain (rI0 fun i j => .bl (decide (i ≤ j))) (rI0 fun i j => .bl (decide (i ≤ j))) ta tb tc σ H Q := by
  refine ha _ (hb _ ⟨i, j, rfl, rfl, _, rfl, ?_⟩)
  by_cases h1 : i ≤ j
  · rw [decide_eq_true h1]
    refine iteT (hc _ ⟨j, k, rfl, rfl, ?_⟩)
    have e : decide (i ≤ j ∧ j ≤ k) = decide (j ≤ k) := decide_eq_decide.mpr ⟨fun z => z.2, fun z => ⟨h1, z⟩⟩
    show Q (.bl (decide (j ≤ k))) H
    rw [← e]
    exact q
  · rw [decide_eq_false h1]
    refine iteF ?_
    have e : decide (i ≤ j ∧ j ≤ k) = false := decide_eq_false fun z => h1 z.1
    rw [← e]
    exact q
/-- what read makes of a text -/
def readP (z : Str) : Option PII := match Txt.split z "/" with
  | [p] => if figs p.cps.toList = true then some (valI p.cps.toList, 1) else none
  | [p, q] => if (figs p.cps.toList && figs q.cps.toList) = true then (if 2 ≤ valI q.cps.toList ∧ Int.gcd (valI p.cps.toList) (valI q.cps.toList) = 1 then some (valI p.cps.toList, valI q.cps.toList) else none) else none
  | _ => none
def readV : V → Option PII
  | .str z => readP z
  | _ => none
theorem slash : ("/" : Str) = ⟨#[47]⟩ := by decide +kernel
theorem cnt_no : ∀ {l : List Nat}, 47 ∉ l → PyProof.Rows.cnt 47 l = 0
  | [], _ => rfl
  | n :: r, h => by
    rw [PyProof.Rows.cnt_cons, if_neg fun e => h (by rw [e]; exact List.mem_cons_self), cnt_no fun m => h (List.mem_cons_of_mem _ m)]
    rfl
theorem split_one {z : Str} (h : 47 ∉ z.cps.toList) : (Txt.split z "/").length = 1 := by
  have e := PyProof.Rows.split_len z 47
  rw [slash, ← Int.ofNat_inj]
  rw [e, cnt_no h]
  rfl
def RdOk (z : Str) : Prop := z.length ≤ 2600 ∨ (z.length ≤ 4200 ∧ 47 ∉ z.cps.toList)
def BadTx (CT : Addr) (H : Hp) (E : XK) : Prop := ∀ d H', Gs.Ext H H' → H' d = some (.xd [("word", .int 0), ("line", .int 0)]) → E (.ref CT) (some d) H'
theorem BadTx.up {CT : Addr} {H H1 : Hp} {E : XK} (b : BadTx CT H E) (e : Gs.Ext H H1) : BadTx CT H1 E := fun d H' e' h => b d H' (e.trans e') h
def spRead (K : PySem.W.Frag) (C CT : Addr) : Sp := fun vs H Q E => ∃ v, vs = [.ref C, v] ∧ AnyV K C H v ∧ (∀ z, v = .str z → RdOk z) ∧ (∀ p, readV v = some p → Made C H p.1 p.2 Q) ∧ (readV v = none → BadTx CT H E)
theorem RdOk.le {z : Str} (h : RdOk z) : z.length ≤ 4200 := h.elim (fun h => Nat.le_trans h (by decide)) fun h => h.1
theorem part_le {z p : Str} (h : p ∈ Txt.split z "/") : p.length ≤ z.length := part_short h
theorem rN_cop {i j : Int} (hj : 0 < j) (h : Int.gcd i j = 1) : rN i j = i ∧ rD i j = j := by
  have e : rG i j = 1 := by
    unfold rG
    rw [if_neg (by omega), h]
    rfl
  unfold rN rD
  rw [e]
  exact ⟨Int.fdiv_one i, Int.fdiv_one j⟩
/-- x(e, e'), x a name that holds the class of fractions -/
def tMkV (i : Nat) (C : Addr) (t : TA) : TE := fun σ H Q => σ[i]? = some (some (.ref C)) ∧ tMk2 C t σ H Q
theorem pe_mkV2 {X : Cx} {C CB : Addr} {i : Nat} {E : XK} {t : TA} {e : Expr} (h : PE X e (tMakeV i C (spInit X.K C CB) [] E (taM t))) : PE X e (tMkV i C t) :=
  ⟨fun pins s σ H Q I ⟨hs, q⟩ => h.run pins s σ H Q I ⟨hs, _, q, fun vs H1 ⟨i, j, ev, hj, hl, k⟩ => by
    subst ev
    exact mk_two hj hl k⟩⟩
theorem figs_int {z : Str} (h : figs z.cps.toList = true) (hl : z.length ≤ 4300) : intText? z = some (valI z.cps.toList) := by
  unfold figs at h
  rw [Bool.and_eq_true, Bool.and_eq_true, decide_eq_true_eq] at h
  obtain ⟨⟨⟨h1, h2⟩, h3⟩, h4⟩ := h
  exact int_word h3 (fun e => by rw [e] at h1; exact absurd h1 (by decide)) hl
theorem val_lt {a : List Nat} {k : Nat} (h : figs a = true) (hl : a.length ≤ k) : (valI a).natAbs < 10 ^ k := by
  unfold figs at h
  rw [Bool.and_eq_true, Bool.and_eq_true, decide_eq_true_eq] at h
  obtain ⟨⟨⟨h1, h2⟩, h3⟩, h4⟩ := h
  have hd := all_dig h3
  have key : NumText.digitsVal (dec a) < 10 ^ k := Nat.lt_of_lt_of_le (dv_lt hd) (Nat.pow_le_pow_right (by decide) (Nat.le_trans (dec_len a) hl))
  unfold valI
  unfold dec at key
  split
  · rename_i q
    rw [if_pos q] at key
    simpa using key
  · rename_i q
    rw [if_neg q] at key
    simpa using key
section
variable {P : Program} {w : World} {K : PySem.W.Frag} {mg : Str → Option Value} {base : Heap}
theorem sc_Ratio_read : FnScope ["cls", "text", "parts", "part", "over", "under"] ["cls", "text"] (defScope s_Ratio_read) := ⟨rfl, rfl, rfl, by decide +kernel, rfl, by decide +kernel, by decide +kernel⟩
theorem d_Ratio_read (T : Txt K mg) (ND : NoDig base) (RF : RatF K (He.ga K "Ratio")) (Dis_figures : DefOk P w K mg base CX0 1 "is_figures" ["word"] [] (spFig K)) (Ddivisor_of : DefOk P w K mg base CX0 1 "divisor_of" ["one", "other"] [] spGcd) (DX_BadText : ExcD P w K mg base "BadText" ["line", "word"] ["line", "word"]) (M_Ratio : Mk K (He.ga K "Ratio") (He.ma K (He.ga K "Ratio") "__init__"))(D_Ratio2 : FunOk P w K mg base (L2.CX P w) 3 (He.ma K (He.ga K "Ratio") "__init__") ["self", "over", "under"] [] (spInit K (He.ga K "Ratio") (He.ga K "BadRatio"))) (A0 : AtF K (He5.wf K (He.ga K "Ratio") "classmethod" "read") "read" "Ratio.read" s_Ratio_read []) {dvs : List V} (bnd : ∀ fd, FunD K "read" "Ratio.read" (defArgs s_Ratio_read) (defBody s_Ratio_read) (defScope s_Ratio_read) [] [] (He5.wf K (He.ga K "Ratio") "classmethod" "read") fd → ∃ ds, Vals dvs ds ∧ Binds K fd ["cls", "text"] ds) : FunOk P w K mg base (L2.CX P w) 6 (He5.wf K (He.ga K "Ratio") "classmethod" "read") ["cls", "text"] dvs (spRead K (He.ga K "Ratio") (He.ga K "BadText")) := by
  refine AtF.okX A0 sc_Ratio_read bnd (fun vs H Q E h => ?_) (fun cdv A out s H vs Q E hr tk h => ?_)
  · obtain ⟨v, rfl, _⟩ := h; rfl
  · have nd := sc_Ratio_read.nd
    refine ⟨_, (pss_cons (ps_set (i := 2) nd rfl (Or.inl rfl) (pe_ifExp (pt_val (pe_callB call_isi (by rfl) T.f_isinstance (by decide +kernel) (pa_cons (pv 1) (pa_cons (pe_bltn (v := .ty "str") (by rfl) T.f_str (by decide +kernel) rfl) pa_nil)))) (pe_split (pv 1) pe_str) (pe_lst pa_nil)))
          (pss_cons (ps_if (PW.pt (pw_or (pt_not (pt_chain op_le op_le pe_int (pe_callB call_len_seq (by rfl) T.f_len (by decide +kernel) (pa_cons (pv 2) pa_nil)) pe_int)) (pw_or1 (pt_not (pt_val (pe_callB (cr_all rfl) (by rfl) T.f_all (by decide +kernel) (pa_cons (pe_lc (own := [("part", 3)]) rfl nd (pi_list (pv 2)) (blkOk_by (N := ["cls", "text", "parts", "part", "over", "under"]) (sc := defScope s_Ratio_read) (own := [("part", 3)]) (by decide +kernel)) (fun _ _ _ _ _ => (pg_name (i := 3) nd rfl (Or.inl rfl))) (fun _ _ _ _ _ => pts_nil) (fun _ _ _ _ _ => (pe_d Dis_figures (hr.mono (by decide)) pass0 (pa_cons (pv 3) pa_nil)))) pa_nil))))))) (pss_one (ps_raise rfl tk (pmk_x DX_BadText (hr.mono (by decide)) (pa_cons pe_int (pa_cons pe_int pa_nil))))) pss_nil)
          (pss_cons (ps_par (i := 4) (j := 5) rfl nd rfl rfl (by decide) rfl rfl (pa_cons (pe_callTy (call_int_str' ND) (by rfl) T.f_int (by decide +kernel) (pa_cons (pe_ix ix_list (pv 2) pe_int (fun _ _ => rfl)) pa_nil)) (pa_cons (pe_ifExp (pt_cmpR op_eq (pe_callB call_len_seq (by rfl) T.f_len (by decide +kernel) (pa_cons (pv 2) pa_nil)) pe_int (nomark _)) (pe_callTy (call_int_str' ND) (by rfl) T.f_int (by decide +kernel) (pa_cons (pe_ix ix_list (pv 2) (pe_un un_neg pe_int) (fun _ _ => rfl)) pa_nil)) pe_int) pa_nil)) (by rfl))
          (pss_cons (ps_if (PW.pt (pw_and (pt_cmpR op_eq (pe_callB call_len_seq (by rfl) T.f_len (by decide +kernel) (pa_cons (pv 2) pa_nil)) pe_int (nomark _)) (pw_and1 (PW.pt (pw_or (pt_cmpR op_lt (pv 5) pe_int (nomark _)) (pw_or1 (pt_cmpR op_ne (pe_d Ddivisor_of (hr.mono (by decide)) pass0 (pa_cons (pe_callB call_abs (by rfl) T.f_abs (by decide +kernel) (pa_cons (pv 4) pa_nil)) (pa_cons (pv 5) pa_nil))) pe_int (nomark _)))))))) (pss_one (ps_raise rfl tk (pmk_x DX_BadText (hr.mono (by decide)) (pa_cons pe_int (pa_cons pe_int pa_nil))))) pss_nil)
          (pss_one (ps_ret (pe_mkV2 (CB := (He.ga K "BadRatio")) (pe_mkVar (i := 0) M_Ratio D_Ratio2 (hr.mono (by decide)) (passes_call tk fun _ _ _ _ h => h) rfl (Or.inl rfl) (taM_ok (pa_cons (pv 4) (pa_cons (pv 5) pa_nil))))))))))), ?_⟩
    obtain ⟨v, rfl, any, ok, good, bad⟩ := h
    have raise_ : ∀ {H1 : Hp}, Gs.Ext H H1 → readV v = none → ∀ C, mg "BadText" = some (.ref C) → ∀ d, H1 d = none → E (.ref C) (some d) (upd H1 d (.xd (xds ["line", "word"] [.int 0, .int 0]))) := fun {H1} e1 no C e d n => by
      rw [T.c_BadText] at e
      cases e
      exact (bad no).up e1 d _ (ext_new n) upd_same
    obtain ⟨ho, _⟩ := any.odd RF
    obtain ⟨t, ty, kt⟩ := odd_str ho
    refine ⟨_, rfl, _, _, t, _, _, rfl, .ty _, ty, kt, _, rfl, ?_⟩
    cases hv : Gs.vStr v with
    | false =>
      have nv : readV v = none := by
        cases v <;> first | rfl | cases hv
      refine iteF ⟨by show 0 ≤ sizeLine; decide, fun l nl => ?_⟩
      refine ⟨_, rfl, l, [], rfl, .inl (SqL.of upd_same), _, _, rfl, rfl, _, rfl, ?_⟩
      exact iteF ⟨_, rfl, iteT ⟨rfl, raise_ (ext_new nl) nv⟩⟩
    | true =>
      obtain ⟨z, rfl⟩ : ∃ z, v = .str z := by
        cases v <;> first | exact ⟨_, rfl⟩ | cases hv
      have okz := ok z rfl
      have hz := okz.le
      refine iteT ⟨_, rfl, ⟨z, rfl⟩, z, "/", rfl, rfl, by decide +kernel, Nat.le_trans (Nat.add_le_add_right hz 2) (by decide), fun l nl => ?_⟩
      have hl := upd_same (H := H) (a := l) (o := HO.lst ((Txt.split z "/").map V.str))
      have e1 := ext_new (o := .lst ((Txt.split z "/").map V.str)) nl
      have hp : ∀ p ∈ Txt.split z "/", p.length ≤ z.length := fun p h => part_le h
      have rv : readV (.str z) = readP z := rfl
      have hsp : 47 ∉ z.cps.toList → (Txt.split z "/").length = 1 := split_one
      unfold readP at rv
      generalize Txt.split z "/" = ps at hl e1 hp rv hsp ⊢
      generalize upd H l (.lst (ps.map V.str)) = H1 at hl e1 ⊢
      refine ⟨_, rfl, l, _, rfl, .inl (SqL.of hl), _, _, rfl, rfl, _, rfl, ?_⟩
      rw [List.length_map]
      by_cases h1 : 1 ≤ ps.length
      case neg =>
        rw [decide_eq_false (show ¬ (1 : Int) ≤ (ps.length : Int) by omega)]
        refine iteF ⟨_, rfl, iteT ⟨rfl, raise_ e1 ?_⟩⟩
        rw [rv]
        match ps, h1 with
        | [], _ => rfl
        | _ :: _, h1 => exact absurd (by simp) h1
      rw [decide_eq_true (show (1 : Int) ≤ (ps.length : Int) by omega)]
      refine iteT ⟨_, _, rfl, rfl, _, rfl, ?_⟩
      by_cases h2 : ps.length ≤ 2
      case neg =>
        rw [decide_eq_false (show ¬ (ps.length : Int) ≤ 2 by omega)]
        refine iteT ⟨rfl, raise_ e1 ?_⟩
        rw [rv]
        match ps, h2 with
        | [], _ => rfl
        | [_], h2 => exact absurd (by simp) h2
        | [_, _], h2 => exact absurd (by simp) h2
        | _ :: _ :: _ :: _, _ => rfl
      rw [decide_eq_true (show (ps.length : Int) ≤ 2 by omega)]
      refine iteF ?_
      refine ⟨_, rfl, l, rfl, ⟨_, SqL.of hl⟩, fun D hD => lc_ext (fun _ => true) (fun v => .bl (figV v)) hl hD ?_ ?_ ?_ fun H2 e2 hD2 => ?_⟩
      · rw [List.length_map]
        exact Nat.le_trans h2 (by decide)
      · exact fun x H Q _ _ q => q H (Gs.Ext.refl _)
      · intro x H Q hx _ e q
        obtain ⟨p, hp', rfl⟩ := List.mem_map.mp hx
        exact ⟨_, rfl, .str p, rfl, trivial, fun y ey => by cases ey; exact Nat.le_trans (hp p hp') hz, q⟩
      have hl2 := e2 _ _ hl
      have e12 := e1.trans e2
      have hD3 : H2 D = some (.lst ((ps.map fun p => figs p.cps.toList).map V.bl)) := by
        rw [hD2, List.filter_eq_self.mpr fun _ _ => rfl, List.map_map, List.map_map]
        rfl
      refine ⟨D, ps.map fun p => figs p.cps.toList, rfl, SqL.of hD3, _, rfl, ?_⟩
      clear hD2 hD3 hD e1 hl
      match ps, h1, h2, rv, hl2, hp, hsp with
      | [p], _, _, rv, hl2, hp, _ =>
        have lp : p.length ≤ 4200 := Nat.le_trans (hp p List.mem_cons_self) hz
        have ha0 : ([p].map fun p => figs p.cps.toList).all id = figs p.cps.toList := by
          simp only [List.map_cons, List.map_nil, List.all_cons, List.all_nil, id, Bool.and_true]
        rw [ha0]
        cases hf : figs p.cps.toList with
        | false =>
          refine iteT ⟨rfl, raise_ e12 ?_⟩
          rw [rv]
          exact if_neg (by rw [hf]; decide)
        | true =>
          have rv : readV (.str z) = some (valI p.cps.toList, 1) := by
            rw [rv]
            exact if_pos hf
          refine iteF ⟨_, rfl, l, _, 0, _, rfl, rfl, SqL.of hl2, atI_nat (j := 0) rfl, p, _, rfl, figs_int hf (Nat.le_trans lp (by decide)), Nat.le_trans lp (by decide), _, rfl, l, _, rfl, .inl (SqL.of hl2), rfl, _, rfl, ?_⟩
          refine iteF ⟨_, _, rfl, ?_⟩
          refine ⟨_, rfl, l, _, rfl, .inl (SqL.of hl2), rfl, _, rfl, ?_⟩
          refine iteF (iteF ?_)
          refine ⟨rfl, _, rfl, _, rfl, _, _, rfl, by decide, by decide, ?_⟩
          rw [rN_one, rD_one]
          exact (good _ rv).up e12
      | [p, q], _, _, rv, hl2, hp, hsp =>
        have lp : p.length ≤ 4200 := Nat.le_trans (hp p List.mem_cons_self) hz
        have lq : q.length ≤ 4200 := Nat.le_trans (hp q (List.mem_cons_of_mem _ List.mem_cons_self)) hz
        cases hf : (figs p.cps.toList && figs q.cps.toList) with
        | false =>
          have ha : ([p, q].map fun p => figs p.cps.toList).all id = false := by
            simp only [List.map_cons, List.map_nil, List.all_cons, List.all_nil, id, Bool.and_true]
            exact hf
          rw [ha]
          refine iteT ⟨rfl, raise_ e12 ?_⟩
          rw [rv]
          exact if_neg (by rw [hf]; decide)
        | true =>
          have ha : ([p, q].map fun p => figs p.cps.toList).all id = true := by
            simp only [List.map_cons, List.map_nil, List.all_cons, List.all_nil, id, Bool.and_true]
            exact hf
          rw [ha]
          have rv : readV (.str z) = if 2 ≤ valI q.cps.toList ∧ Int.gcd (valI p.cps.toList) (valI q.cps.toList) = 1 then some (valI p.cps.toList, valI q.cps.toList) else none := by
            rw [rv]
            exact if_pos hf
          rw [Bool.and_eq_true] at hf
          obtain ⟨f1, f2⟩ := hf
          refine iteF ⟨_, rfl, l, _, 0, _, rfl, rfl, SqL.of hl2, atI_nat (j := 0) rfl, p, _, rfl, figs_int f1 (Nat.le_trans lp (by decide)), Nat.le_trans lp (by decide), _, rfl, l, _, rfl, .inl (SqL.of hl2), rfl, _, rfl, ?_⟩
          refine iteT ⟨_, rfl, _, rfl, l, _, -1, _, rfl, rfl, SqL.of hl2, atI_last [V.str p] (V.str q), q, _, rfl, figs_int f2 (Nat.le_trans lq (by decide)), Nat.le_trans lq (by decide), _, _, rfl, ?_⟩
          refine ⟨_, rfl, l, _, rfl, .inl (SqL.of hl2), rfl, _, rfl, ?_⟩
          refine iteT ?_
          refine ⟨_, rfl, _, _, rfl, rfl, _, rfl, ?_⟩
          by_cases hu : 2 ≤ valI q.cps.toList
          case neg =>
            rw [decide_eq_true (show valI q.cps.toList < 2 by omega)]
            refine iteT (iteT ⟨rfl, raise_ e12 ?_⟩)
            rw [rv]
            exact if_neg fun z => hu z.1
          rw [decide_eq_false (show ¬ valI q.cps.toList < 2 by omega)]
          refine iteF ⟨_, rfl, valI p.cps.toList, rfl, _, rfl, _, _, rfl, by split <;> omega, by omega, rfl, _, rfl, ?_⟩
          have eg : (Int.gcd (if valI p.cps.toList < 0 then -valI p.cps.toList else valI p.cps.toList) (valI q.cps.toList) : Int) = Int.gcd (valI p.cps.toList) (valI q.cps.toList) := by
            unfold Int.gcd
            congr 2
            split <;> simp
          rw [eg]
          have ed : (!decide (V.int (Int.gcd (valI p.cps.toList) (valI q.cps.toList) : Int) = V.int 1)) = !decide (Int.gcd (valI p.cps.toList) (valI q.cps.toList) = 1) := by
            by_cases z : Int.gcd (valI p.cps.toList) (valI q.cps.toList) = 1
            · rw [z]
              rfl
            · rw [decide_eq_false z, decide_eq_false fun w => z (by have := V.int.inj w; omega)]
          rw [ed]
          by_cases hg : Int.gcd (valI p.cps.toList) (valI q.cps.toList) = 1
          · rw [decide_eq_true hg]
            rw [if_pos ⟨hu, hg⟩] at rv
            have lz : z.length ≤ 2600 := by
              rcases okz with h | ⟨_, h⟩
              · exact h
              · have := hsp h
                simp at this
            have lq2 := Nat.le_trans (hp q (List.mem_cons_of_mem _ List.mem_cons_self)) lz
            refine iteF ⟨rfl, _, rfl, _, rfl, _, _, rfl, by omega, ?_, ?_⟩
            · refine (Nat.log2_lt (by omega)).mpr (Nat.lt_of_lt_of_le (val_lt (k := 2600) f2 ?_) (by decide +kernel))
              rw [← len_tl]
              exact lq2
            · obtain ⟨g1, g2⟩ := rN_cop (i := valI p.cps.toList) (j := valI q.cps.toList) (by omega) hg
              rw [g1, g2]
              exact (good _ rv).up e12
          · rw [decide_eq_false hg]
            refine iteT ⟨rfl, raise_ e12 ?_⟩
            rw [rv]
            exact if_neg fun z => hg z.2
end
end K07

set_option maxRecDepth 100000
set_option maxHeartbeats 4000000
namespace K07
open PySem PySem.Spec PyProof.Rows Gs
open L2 hiding Ext paired_get
open C8 (tCut pss_cut)
/-- the integer a word writes as str does -/
def figW (a : List Nat) : Option Int := if (dec a ≠ [] ∧ (dec a).all isFig = true) ∧ (a = [48] ∨ (dec a).head? ≠ some 48) then some (valI a) else none
def tc (n d : Int) : List Nat := if d = 1 then codesI n else codesI n ++ 47 :: codesI d
theorem app_tl (a b : Str) : (a ++ b).cps.toList = a.cps.toList ++ b.cps.toList := by
  show (a.cps ++ b.cps).toList = _
  simp
theorem txtR_codes (n d : Int) : (txtR n d).cps.toList = tc n d := by
  unfold txtR tc
  split
  · exact tl_int n
  · rw [app_tl, app_tl, tl_int, tl_int, slash]
    simp
theorem figs_figW {a : List Nat} (h : a.length ≤ 4000) : (if figs a = true then some (valI a) else none) = figW a := by
  have hl := Nat.le_trans (dec_len a) h
  unfold figs figW
  have e : (decide (1 ≤ (dec a).length ∧ (dec a).length ≤ 4000) && (dec a).all isFig && (decide (a = [48]) || decide ((dec a).head? ≠ some 48))) = decide ((dec a ≠ [] ∧ (dec a).all isFig = true) ∧ (a = [48] ∨ (dec a).head? ≠ some 48)) := by
    rw [Bool.eq_iff_iff]
    simp only [Bool.and_eq_true, Bool.or_eq_true, decide_eq_true_eq]
    have : (1 ≤ (dec a).length ∧ (dec a).length ≤ 4000) ↔ dec a ≠ [] := by
      rw [← List.length_pos_iff]
      omega
    rw [this]
  rw [e]
  simp only [decide_eq_true_eq]
theorem figW_codes {a : List Nat} {n : Int} (h : figW a = some n) : n = valI a ∧ codesI n = a := by
  unfold figW at h
  split at h
  · rename_i c
    cases h
    exact ⟨rfl, (codes_back c.1.2 c.1.1).mpr c.2⟩
  · cases h
theorem codes_free {i : Int} : 47 ∉ codesI i := by
  unfold codesI
  split
  · intro h
    rcases List.mem_cons.mp h with z | z
    · cases z
    · exact TL.numL_free (by decide) z
  · exact TL.numL_free (by decide)
theorem codes_inj {i j : Int} (h : codesI i = codesI j) : i = j := by
  unfold codesI at h
  have no : ∀ {m k : Nat}, 45 :: TL.numL m ≠ TL.numL k := fun {m k} z => TL.numL_free (n := k) (s := 45) (by decide) (by rw [← z]; exact List.mem_cons_self)
  split at h <;> split at h
  · have := TL.numL_inj (List.cons.inj h).2
    omega
  · exact absurd h no
  · exact absurd h.symm no
  · have := TL.numL_inj h
    omega
theorem sep_uniq {c : Nat} : ∀ {a b a' b' : List Nat}, c ∉ a → c ∉ a' → a ++ c :: b = a' ++ c :: b' → a = a' ∧ b = b'
  | [], b, [], b', _, _, h => ⟨rfl, (List.cons.inj h).2⟩
  | [], b, x :: xs, b', _, h2, h => absurd (by have := (List.cons.inj h).1; rw [this]; exact List.mem_cons_self) h2
  | x :: xs, b, [], b', h1, _, h => absurd (by have := (List.cons.inj h).1; rw [← this]; exact List.mem_cons_self) h1
  | x :: xs, b, y :: ys, b', h1, h2, h => by
    obtain ⟨e1, e2⟩ := List.cons.inj h
    obtain ⟨e3, e4⟩ := sep_uniq (fun m => h1 (List.mem_cons_of_mem _ m)) (fun m => h2 (List.mem_cons_of_mem _ m)) e2
    exact ⟨by rw [e1, e3], e4⟩
/-- a fraction's own text: in least terms, the bottom 2 or more -/
theorem own_text {n b : Int} : (0 < b ∧ tc (rN n b) (rD n b) = codesI n ++ 47 :: codesI b) ↔ (2 ≤ b ∧ Int.gcd n b = 1) := by
  constructor
  · rintro ⟨hb, h⟩
    have hb' : b ≠ 0 := by omega
    obtain ⟨m1, m2⟩ := r_mul n hb'
    have hp := r_pos n hb'
    unfold tc at h
    split at h
    · have : 47 ∈ codesI (rN n b) := by
        rw [h]
        simp
      exact absurd this codes_free
    · rename_i hd
      obtain ⟨e1, e2⟩ := sep_uniq codes_free codes_free h
      have q1 := codes_inj e1
      have q2 := codes_inj e2
      rw [q2] at hd hp m2
      have hg : rG n b = 1 := by
        have : rG n b * b = 1 * b := by omega
        exact Int.eq_of_mul_eq_mul_right hb' this
      unfold rG at hg
      rw [if_neg (by omega)] at hg
      exact ⟨by omega, by omega⟩
  · rintro ⟨hb, hg⟩
    obtain ⟨e1, e2⟩ := rN_cop (i := n) (j := b) (by omega) hg
    refine ⟨by omega, ?_⟩
    rw [e1, e2]
    unfold tc
    rw [if_neg (by omega)]
/-- what is due of a text -/
def dueP (z : Str) : Option PII := match Txt.split z "/" with
  | [p] => (figW p.cps.toList).bind fun n => if tc (rN n 1) (rD n 1) = z.cps.toList then some (n, 1) else none
  | [p, q] => (figW p.cps.toList).bind fun n => (figW q.cps.toList).bind fun b => if 0 < b ∧ tc (rN n b) (rD n b) = z.cps.toList then some (n, b) else none
  | _ => none
theorem due_read {z : Str} (h : z.length ≤ 4000) : dueP z = readP z := by
  have hp : ∀ p ∈ Txt.split z "/", p.cps.toList.length ≤ 4000 := fun p hp => by
    rw [← len_tl]
    exact Nat.le_trans (part_le hp) h
  have hj := StrLaws.join_split z "/"
  unfold dueP readP
  match hs : Txt.split z "/" with
  | [] => rfl
  | [p] =>
    rw [hs] at hj hp
    have ez : z.cps.toList = p.cps.toList := by
      rw [← hj]
      rfl
    have f := figs_figW (hp p List.mem_cons_self)
    show (figW p.cps.toList).bind _ = if figs p.cps.toList = true then some (valI p.cps.toList, 1) else none
    rw [← f]
    by_cases hf : figs p.cps.toList = true
    · rw [if_pos hf] at f
      rw [if_pos hf, if_pos hf]
      obtain ⟨_, c⟩ := figW_codes f.symm
      show (if tc (rN (valI p.cps.toList) 1) (rD (valI p.cps.toList) 1) = z.cps.toList then _ else _) = _
      rw [rN_one, rD_one, ez, if_pos (by unfold tc; rw [if_pos rfl]; exact c)]
    · rw [if_neg hf, if_neg hf]
      rfl
  | [p, q] =>
    rw [hs] at hj hp
    have ez : z.cps.toList = p.cps.toList ++ 47 :: q.cps.toList := by
      rw [← hj]
      show ((p ++ "/") ++ q).cps.toList = _
      rw [app_tl, app_tl, slash]
      simp
    have f1 := figs_figW (hp p List.mem_cons_self)
    have f2 := figs_figW (hp q (List.mem_cons_of_mem _ List.mem_cons_self))
    show (figW p.cps.toList).bind _ = if (figs p.cps.toList && figs q.cps.toList) = true then _ else none
    rw [← f1, ← f2]
    by_cases h1 : figs p.cps.toList = true
    · by_cases h2 : figs q.cps.toList = true
      · rw [if_pos h1] at f1
        rw [if_pos h2] at f2
        have hb : (figs p.cps.toList && figs q.cps.toList) = true := by rw [h1, h2]; rfl
        rw [if_pos h1, if_pos h2, if_pos hb]
        obtain ⟨_, c1⟩ := figW_codes f1.symm
        obtain ⟨_, c2⟩ := figW_codes f2.symm
        show (if 0 < valI q.cps.toList ∧ tc (rN (valI p.cps.toList) (valI q.cps.toList)) (rD (valI p.cps.toList) (valI q.cps.toList)) = z.cps.toList then _ else _) = _
        have o := own_text (n := valI p.cps.toList) (b := valI q.cps.toList)
        rw [c1, c2, ← ez] at o
        by_cases w : 2 ≤ valI q.cps.toList ∧ Int.gcd (valI p.cps.toList) (valI q.cps.toList) = 1
        · rw [if_pos w, if_pos (o.mpr w)]
        · rw [if_neg w, if_neg fun x => w (o.mp x)]
      · have hb : ¬ (figs p.cps.toList && figs q.cps.toList) = true := by simp [h2]
        rw [if_pos h1, if_neg h2, if_neg hb]
        rfl
    · have hb : ¬ (figs p.cps.toList && figs q.cps.toList) = true := by simp [h1]
      rw [if_neg h1, if_neg hb]
      rfl
  | _ :: _ :: _ :: _ => rfl
section
variable {P : Program} {w : World} {K : PySem.W.Frag} {mg : Str → Option Value} {base : Heap}
end
end K07

set_option maxRecDepth 100000
set_option maxHeartbeats 4000000
namespace K07
open PySem PySem.Spec PyProof.Rows Gs
open L2 hiding Ext paired_get
open C8 (tCut pss_cut)
set_option exponentiation.threshold 20000
def writV (z : Str) : V := if (dec z.cps.toList).all isFig = true ∧ dec z.cps.toList ≠ [] ∧ codesI (valI z.cps.toList) = z.cps.toList then .int (valI z.cps.toList) else .non
def spWrit : Sp := fun vs H Q _ => ∃ z, vs = [.str z] ∧ z.length ≤ 570 ∧ Asc z ∧ ∀ H', Gs.Ext H H' → Q (writV z) H'
def spDue : Sp := fun vs H Q _ => ∃ z, vs = [.str z] ∧ z.length ≤ 570 ∧ Asc z ∧ (dueP z = none → ∀ H', Gs.Ext H H' → Q .non H') ∧ (∀ p, dueP z = some p → ∀ q H', Gs.Ext H H' → H' q = some (.tup [.int p.1, .int p.2]) → Q (.ref q) H')
def spTxt : Sp := fun vs H Q _ => ∃ t b : Int, vs = [.int t, .int b] ∧ b ≠ 0 ∧ b.natAbs.log2 < 8999 ∧ t.natAbs < 10 ^ 2000 ∧ b.natAbs < 10 ^ 2000 ∧ ∀ H', Gs.Ext H H' → Q (.str (txtR (rN t b) (rD t b))) H'
def optV : Option Int → V
  | some n => .int n
  | none => .non
theorem writ_fig (z : Str) : writV z = optV (figW z.cps.toList) := by
  unfold writV figW
  by_cases h : (dec z.cps.toList).all isFig = true ∧ dec z.cps.toList ≠ [] ∧ codesI (valI z.cps.toList) = z.cps.toList
  · rw [if_pos h, if_pos ⟨⟨h.2.1, h.1⟩, (codes_back h.1 h.2.1).mp h.2.2⟩]
    rfl
  · rw [if_neg h, if_neg fun q => h ⟨q.1.2, q.1.1, (codes_back q.1.2 q.1.1).mpr q.2⟩]
    rfl
theorem asc_part {z p : Str} (h : Asc z) (hp : p ∈ Txt.split z "/") : Asc p := fun c hc => by
  have hj := StrLaws.join_split z "/"
  refine h c ?_
  rw [← hj]
  clear hj h
  generalize Txt.split z "/" = ps at hp
  induction ps with
  | nil => cases hp
  | cons x xs ih =>
    cases xs with
    | nil =>
      rw [List.mem_singleton] at hp
      subst hp
      exact hc
    | cons y ys =>
      show c ∈ ((x ++ "/") ++ Str.join "/" (y :: ys)).cps.toList
      rw [app_tl, app_tl]
      rcases List.mem_cons.mp hp with rfl | hp
      · simp [hc]
      · simp [ih hp]
theorem opt_flat (o : Option Int) : flatV (optV o) = true := by cases o <;> rfl
theorem fig_lt {z : Str} {n : Int} (h : figW z.cps.toList = some n) (hl : z.length ≤ 570) : n.natAbs < 10 ^ 570 := by
  have f := figs_figW (a := z.cps.toList) (by rw [← len_tl]; omega)
  rw [h] at f
  split at f
  · rename_i q
    cases f
    exact val_lt q (by rw [← len_tl]; exact hl)
  · cases f
section
variable {P : Program} {w : World} {K : PySem.W.Frag} {mg : Str → Option Value} {base : Heap}
theorem sc__law_written : FnScope ["top", "bottom", "over_so", "under_so"] ["top", "bottom"] (defScope s__law_written) := ⟨rfl, rfl, rfl, by decide +kernel, rfl, by decide +kernel, by decide +kernel⟩
theorem d__law_written (T : Txt K mg) (ND : NoDig base) (D_law_least : DefOk P w K mg base CX0 2 "_law_least" ["top", "bottom"] [] spLeast)  (A0 : At K mg "_law_written" s__law_written) : DefOk P w K mg base CX0 3 "_law_written" ["top", "bottom"] [] spTxt := by
  refine At.ok A0 sc__law_written (fun _ _ F => F.bindsN fun _ _ _ _ _ _ us hl => match us, hl with | [_, _], _ => rfl) (fun vs H Q E h => ?_) (fun f cdv A out s H vs Q E hr h => ?_)
  · obtain ⟨t, b, rfl, _⟩ := h; rfl
  · have nd := sc__law_written.nd
    refine ⟨_, (pss_cons (ps_asg (pe_d D_law_least (hr.mono (by decide)) pass0 (pa_cons (pv 0) (pa_cons (pv 1) pa_nil))) (pg_tup (by rfl) (pgs_cons (pg_name (i := 2) nd rfl (Or.inl rfl)) (pgs_cons (pg_name (i := 3) nd rfl (Or.inl rfl)) pgs_nil))))
          (pss_one (ps_ret (pe_ifExp (pt_cmpR op_eq (pv 3) pe_int (nomark _)) (pe_callTy (call_str_long ND) (by rfl) T.f_str (by decide +kernel) (pa_cons (pv 2) pa_nil)) (pe_op op_add_str (pe_op op_add_str (pe_callTy (call_str_long ND) (by rfl) T.f_str (by decide +kernel) (pa_cons (pv 2) pa_nil)) pe_str) (pe_callTy (call_str_long ND) (by rfl) T.f_str (by decide +kernel) (pa_cons (pv 3) pa_nil))))))), ?_⟩
    obtain ⟨t, b, rfl, hb, hl, ht, hbb, k⟩ := h
    refine ⟨_, rfl, _, rfl, t, b, rfl, hb, hl, fun u H2 e2 n2 h2 => ⟨u, _, rfl, .inl (.inl h2), rfl, _, _, rfl, _, _, rfl, rfl, ?_⟩⟩
    have w1 : (rN t b).natAbs < 10 ^ 4300 := Nat.lt_of_le_of_lt (rN_le t hb) (Nat.lt_of_lt_of_le ht (Nat.pow_le_pow_right (by decide) (by decide)))
    have w2 : (rD t b).natAbs < 10 ^ 4300 := Nat.lt_of_le_of_lt (rD_le t hb) (Nat.lt_of_lt_of_le hbb (Nat.pow_le_pow_right (by decide) (by decide)))
    have l1 := int_len w1
    have l2 := int_len w2
    refine ⟨_, rfl, rfl, _, rfl, ?_⟩
    have kk := k _ e2
    unfold txtR at kk
    have e : decide (V.int (rD t b) = V.int 1) = decide (rD t b = 1) := by
      by_cases z : rD t b = 1
      · rw [z, decide_eq_true rfl, decide_eq_true rfl]
      · rw [decide_eq_false z, decide_eq_false fun q => z (V.int.inj q)]
    rw [e]
    by_cases z : rD t b = 1
    · rw [decide_eq_true z]
      rw [if_pos z] at kk
      exact iteT ⟨_, rfl, _, rfl, w1, kk⟩
    · rw [decide_eq_false z]
      rw [if_neg z] at kk
      refine iteF ⟨_, rfl, _, rfl, w1, _, _, rfl, rfl, Nat.le_trans (Nat.add_le_add_right l1 _) (by decide), _, rfl, _, rfl, w2, _, _, rfl, rfl, ?_, kk⟩
      rw [app_len]
      exact Nat.le_trans (Nat.add_le_add (Nat.add_le_add_right l1 _) l2) (by decide)
theorem sc__law_figures : FnScope ["part", "plain", "sign"] ["part"] (defScope s__law_figures) := ⟨rfl, rfl, rfl, by decide +kernel, rfl, by decide +kernel, by decide +kernel⟩
theorem d__law_figures (T : Txt K mg) (ND : NoDig base)  (A0 : At K mg "_law_figures" s__law_figures) : DefOk P w K mg base CX0 1 "_law_figures" ["part"] [] spWrit := by
  refine At.ok A0 sc__law_figures (fun _ _ F => F.bindsN fun _ _ _ _ _ _ us hl => match us, hl with | [_], _ => rfl) (fun vs H Q E h => ?_) (fun f cdv A out s H vs Q E hr h => ?_)
  · obtain ⟨z, rfl, _⟩ := h; rfl
  · have nd := sc__law_figures.nd
    refine ⟨_, (pss_cut (ps_set (i := 1) nd rfl (Or.inl rfl) (pe_ifExp (pt_cmpR op_eq (pe_slice sl_str (pv 0) po_none (po_some pe_int)) pe_str (nomark _)) (pe_slice sl_str (pv 0) (po_some pe_int) po_none) (pv 0)))
          (pss_cons (ps_if (PW.pt (pw_or (pt_cmpR op_eq (pv 1) pe_str (nomark _)) (pw_or1 (pt_cmpR (op_neD hr.units) (pe_lc (own := [("sign", 2)]) rfl nd (pi_str (pv 1)) (blkOk_by (N := ["part", "plain", "sign"]) (sc := defScope s__law_figures) (own := [("sign", 2)]) (by decide +kernel)) (fun _ _ _ _ _ => (pg_name (i := 2) nd rfl (Or.inl rfl))) (fun _ _ _ _ _ => (pts_one (pt_cmpR op_notIn_sign (pv 2) pe_str (by rfl)))) (fun _ _ _ _ _ => (pv 2))) (pe_lst pa_nil) (nomark _))))) (pss_one (ps_ret pe_non)) pss_nil)
          (pss_one (ps_ret (pe_ifExp (pt_cmpR op_eq (pe_callTy call_str_int (by rfl) T.f_str (by decide +kernel) (pa_cons (pe_callTy (call_int_str' ND) (by rfl) T.f_int (by decide +kernel) (pa_cons (pv 0) pa_nil)) pa_nil)) (pv 0) (nomark _)) (pe_callTy (call_int_str' ND) (by rfl) T.f_int (by decide +kernel) (pa_cons (pv 0) pa_nil)) pe_non))))), ?_⟩
    obtain ⟨z, rfl, hl, ha, k⟩ := h
    have hz : z.length ≤ sizeLine := Nat.le_trans hl (by decide)
    have hz2 : (dec z.cps.toList).length ≤ sizeLine := Nat.le_trans (dec_len _) (by rw [← len_tl]; exact hz)
    refine ⟨fun σ H2 => σ = [some (.str z), some (.str (SX.S (dec z.cps.toList))), none] ∧ H2 = H, ?_, ?_⟩
    · refine ⟨_, rfl, _, rfl, z, rfl, hz, rfl, _, rfl, ?_⟩
      rw [dash_test]
      by_cases hn : z.cps.toList.take 1 = [45]
      · rw [decide_eq_true hn]
        refine iteT ⟨_, rfl, _, rfl, z, rfl, hz, ?_⟩
        rw [cut_from1, ← dec_pos hn]
        exact ⟨rfl, rfl⟩
      · rw [decide_eq_false hn]
        refine iteF ⟨_, rfl, ?_⟩
        rw [dec_neg hn, SX.S_tl]
        exact ⟨rfl, rfl⟩
    rintro σ H2 ⟨rfl, rfl⟩
    refine ⟨_, rfl, rfl, _, rfl, ?_⟩
    rw [iff_str, show ("" : Str).cps.toList = [] by decide +kernel]
    by_cases h0 : dec z.cps.toList = []
    · rw [decide_eq_true (show (SX.S (dec z.cps.toList)).cps.toList = [] from h0)]
      have e : writV z = .non := if_neg fun q => q.2.1 h0
      exact iteT (iteT (e ▸ k _ (Ext.refl _)))
    rw [decide_eq_false (show ¬ (SX.S (dec z.cps.toList)).cps.toList = [] from h0)]
    refine iteF ?_
    have ez : (SX.S (dec z.cps.toList)).length = (dec z.cps.toList).length := SX.S_len _
    refine ⟨_, rfl, _, rfl, fun D hD => lc_txt (fun c => !isFig c) (fun c => .str ⟨#[c]⟩) (fun c H Q _ q => ⟨_, rfl, c, _, rfl, rfl, _, rfl, q⟩) (fun c H Q _ _ q => ⟨_, rfl, q⟩) (by rw [ez]; exact hz2) ?_⟩
    refine ⟨by decide, ?_⟩
    have e1 := ext_new (o := .lst (((SX.S (dec z.cps.toList)).cps.toList.filter fun c => !isFig c).map fun c => V.str ⟨#[c]⟩)) hD
    have q1 := @upd_same H2 D (.lst (((SX.S (dec z.cps.toList)).cps.toList.filter fun c => !isFig c).map fun c => V.str ⟨#[c]⟩))
    generalize upd H2 D (.lst (((SX.S (dec z.cps.toList)).cps.toList.filter fun c => !isFig c).map fun c => V.str ⟨#[c]⟩)) = H3 at e1 q1 ⊢
    intro l hlv
    have e2 := e1.new (o := .lst []) hlv
    have q2 : upd H3 l (.lst []) D = _ := ext_new hlv D _ q1
    have hsub : ∀ c ∈ (SX.S (dec z.cps.toList)).cps.toList.filter (fun c => !isFig c), c < 128 := fun c hc => by
      have hc2 : c ∈ dec z.cps.toList := (List.mem_filter.mp hc).1
      unfold dec at hc2
      split at hc2
      · exact ha c (List.mem_of_mem_drop hc2)
      · exact ha c hc2
    refine ⟨_, _, .lst (SqL.of q2) (dp_signs _), .lst (SqL.of upd_same) .nil, shaped_signs hsub, by decide +kernel, _, rfl, ?_⟩
    rw [eqv_signs_nil]
    have ef : ((SX.S (dec z.cps.toList)).cps.toList.filter fun c => !isFig c).isEmpty = (dec z.cps.toList).all isFig := by
      show ((dec z.cps.toList).filter fun c => !isFig c).isEmpty = _
      generalize dec z.cps.toList = a
      induction a with
      | nil => rfl
      | cons x xs ih =>
        cases hx : isFig x <;> simp [hx, ih]
    rw [ef]
    cases hd : (dec z.cps.toList).all isFig with
    | false =>
      have e : writV z = .non := if_neg fun q => by rw [hd] at q; exact absurd q.1 (by decide)
      exact iteT (e ▸ k _ e2)
    | true =>
      refine iteF ?_
      have hw := int_word hd h0 (Nat.le_trans hl (by decide))
      have hv : (valI z.cps.toList).natAbs < 2 ^ 1900 := by
        have hd2 := all_dig hd
        have b1 : NumText.digitsVal (dec z.cps.toList) < 10 ^ (dec z.cps.toList).length := dv_lt hd2
        have b2 : (dec z.cps.toList).length ≤ 570 := Nat.le_trans (dec_len _) (by rw [← len_tl]; exact hl)
        have b3 : 10 ^ (dec z.cps.toList).length ≤ 10 ^ 570 := Nat.pow_le_pow_right (by decide) b2
        have b4 : (10 : Nat) ^ 570 < 2 ^ 1900 := by decide +kernel
        have b5 : (valI z.cps.toList).natAbs = NumText.digitsVal (dec z.cps.toList) := by
          unfold valI dec
          split <;> simp
        omega
      have hlog := log2_lt (k := 1900) (by decide) hv
      refine ⟨_, rfl, z, _, rfl, hw, Nat.le_trans hl (by decide), _, rfl, by omega, _, rfl, rfl, _, rfl, ?_⟩
      rw [iff_str, tl_int]
      by_cases hc : codesI (valI z.cps.toList) = z.cps.toList
      · rw [decide_eq_true hc]
        have e : writV z = .int (valI z.cps.toList) := if_pos ⟨hd, h0, hc⟩
        exact iteT ⟨_, rfl, z, _, rfl, hw, Nat.le_trans hl (by decide), e ▸ k _ e2⟩
      · rw [decide_eq_false hc]
        have e : writV z = .non := if_neg fun q => hc q.2.2
        exact iteF (e ▸ k _ e2)
theorem sc__law_due : FnScope ["page", "parts", "found", "part", "bottom"] ["page"] (defScope s__law_due) := ⟨rfl, rfl, rfl, by decide +kernel, rfl, by decide +kernel, by decide +kernel⟩
theorem d__law_due (T : Txt K mg) (D_law_written : DefOk P w K mg base CX0 3 "_law_written" ["top", "bottom"] [] spTxt) (D_law_figures : DefOk P w K mg base CX0 1 "_law_figures" ["part"] [] spWrit)  (A0 : At K mg "_law_due" s__law_due) : DefOk P w K mg base CX0 4 "_law_due" ["page"] [] spDue := by
  refine At.ok A0 sc__law_due (fun _ _ F => F.bindsN fun _ _ _ _ _ _ us hl => match us, hl with | [_], _ => rfl) (fun vs H Q E h => ?_) (fun f cdv A out s H vs Q E hr h => ?_)
  · obtain ⟨z, rfl, _⟩ := h; rfl
  · have nd := sc__law_due.nd
    refine ⟨_, (pss_cons (ps_set (i := 1) nd rfl (Or.inl rfl) (pe_split (pv 0) pe_str))
          (pss_cons (ps_setLc (i := 2) (own := [("part", 3)]) rfl nd rfl rfl (sw_true rfl rfl rfl (by decide +kernel)) (pi_list (pv 1)) (blkOk_by (N := ["page", "parts", "found", "part", "bottom"]) (sc := defScope s__law_due) (own := [("part", 3)]) (by decide +kernel)) (fun _ _ _ _ _ => (pg_name (i := 3) nd rfl (Or.inl rfl))) (fun _ _ _ _ _ => pts_nil) (fun _ _ _ _ _ => (pe_d D_law_figures (hr.mono (by decide)) pass0 (pa_cons (pv 3) pa_nil))))
          (pss_cons (ps_if (PW.pt (pw_or (pt_cmpR op_gt (pe_callB call_len_seq (by rfl) T.f_len (by decide +kernel) (pa_cons (pv 1) pa_nil)) pe_int (nomark _)) (pw_or1 (pt_cmpR op_in_seq pe_non (pv 2) (by rfl))))) (pss_one (ps_ret pe_non)) pss_nil)
          (pss_cons (ps_set (i := 4) nd rfl (Or.inl rfl) (pe_ifExp (pt_cmpR op_eq (pe_callB call_len_seq (by rfl) T.f_len (by decide +kernel) (pa_cons (pv 2) pa_nil)) pe_int (nomark _)) (pe_ix ix_list (pv 2) pe_int (fun _ _ => rfl)) pe_int))
          (pss_one (ps_ret (pe_ifExp (PW.pt (pw_and (pt_cmpR op_gt (pv 4) pe_int (nomark _)) (pw_and1 (pt_cmpR op_eq (pe_d D_law_written (hr.mono (by decide)) pass0 (pa_cons (pe_ix ix_list (pv 2) pe_int (fun _ _ => rfl)) (pa_cons (pv 4) pa_nil))) (pv 0) (nomark _))))) (pe_tup (pa_cons (pe_ix ix_list (pv 2) pe_int (fun _ _ => rfl)) (pa_cons (pv 4) pa_nil))) pe_non))))))), ?_⟩
    obtain ⟨z, rfl, hz, asc, k0, k1⟩ := h
    have hp : ∀ p ∈ Txt.split z "/", p.length ≤ 570 ∧ Asc p := fun p h => ⟨Nat.le_trans (part_le h) hz, asc_part asc h⟩
    have hpos := PyProof.Rows.split_pos z "/"
    have hle := PyProof.Rows.split_le z "/"
    refine ⟨_, rfl, ⟨z, rfl⟩, z, "/", rfl, rfl, by decide +kernel, Nat.le_trans (Nat.add_le_add_right hz 2) (by decide), fun l nl => ?_⟩
    have hl := upd_same (H := H) (a := l) (o := HO.lst ((Txt.split z "/").map V.str))
    have e1 := ext_new (o := .lst ((Txt.split z "/").map V.str)) nl
    have du := (rfl : dueP z = dueP z)
    conv at du =>
      rhs
      unfold dueP
    generalize Txt.split z "/" = ps at hl e1 hp hpos hle du ⊢
    generalize upd H l (.lst (ps.map V.str)) = H1 at hl e1 ⊢
    refine ⟨_, rfl, l, rfl, ⟨_, SqL.of hl⟩, fun D hD => lc_ext (fun _ => true) (fun v => match v with | .str p => optV (figW p.cps.toList) | _ => .non) hl hD ?_ ?_ ?_ fun H2 e2 hD2 => ?_⟩
    · rw [List.length_map]
      exact Nat.le_trans hle (Nat.le_trans (Nat.add_le_add_right hz 2) (by decide))
    · exact fun x H Q _ _ q => q H (Gs.Ext.refl _)
    · intro x H Q hx _ e q
      obtain ⟨p, hp', rfl⟩ := List.mem_map.mp hx
      refine ⟨_, rfl, p, rfl, (hp p hp').1, (hp p hp').2, fun H' e' => ?_⟩
      rw [writ_fig]
      exact q H' e'
    have hl2 := e2 _ _ hl
    have e12 := e1.trans e2
    have hD3 : H2 D = some (.lst (ps.map fun p => optV (figW p.cps.toList))) := by
      rw [hD2, List.filter_eq_self.mpr fun _ _ => rfl, List.map_map]
      rfl
    clear hD2 hD e1 hl
    refine ⟨_, rfl, l, _, rfl, .inl (SqL.of hl2), _, _, rfl, rfl, _, rfl, ?_⟩
    rw [List.length_map]
    match ps, hpos, du, hl2, hp, hD3 with
    | p :: q :: r :: rs, _, du, _, _, _ =>
      rw [decide_eq_true (by simp; omega)]
      exact iteT (iteT (k0 du _ e12))
    | [p], _, du, hl2, hp, hD3 =>
      refine iteF ?_
      have du : dueP z = (figW p.cps.toList).bind fun n => if tc (rN n 1) (rD n 1) = z.cps.toList then some (n, 1) else none := du
      cases f1 : figW p.cps.toList with
      | none =>
        rw [f1] at du
        have hD3 : H2 D = some (.lst [.non]) := by
          rw [hD3]
          simp only [List.map_cons, List.map_nil, f1]
          rfl
        exact ⟨_, rfl, D, _, rfl, .inl (SqL.of hD3), rfl, rfl, _, rfl, iteT (k0 du _ e12)⟩
      | some n =>
        rw [f1] at du
        have hD3 : H2 D = some (.lst [.int n]) := by
          rw [hD3]
          simp only [List.map_cons, List.map_nil, f1]
          rfl
        refine ⟨_, rfl, D, _, rfl, .inl (SqL.of hD3), rfl, rfl, _, rfl, iteF ?_⟩
        refine ⟨_, rfl, D, _, rfl, .inl (SqL.of hD3), rfl, _, rfl, iteF ?_⟩
        refine ⟨_, rfl, _, _, rfl, rfl, _, rfl, iteT ?_⟩
        have hn := Nat.lt_of_lt_of_le (fig_lt f1 (hp p List.mem_cons_self).1) (Nat.pow_le_pow_right (show 0 < 10 by decide) (show 570 ≤ 2000 by decide))
        refine ⟨_, rfl, D, _, 0, _, rfl, rfl, SqL.of hD3, atI_nat (j := 0) rfl, _, rfl, n, 1, rfl, by decide, by decide, hn, ?_, fun H3 e3 => ⟨_, rfl, rfl, _, rfl, ?_⟩⟩
        · exact Nat.lt_of_lt_of_le (show (1 : Int).natAbs < 10 ^ 1 by decide) (Nat.pow_le_pow_right (by decide) (by decide))
        rw [iff_str, txtR_codes]
        by_cases w : tc (rN n 1) (rD n 1) = z.cps.toList
        · have du : dueP z = some (n, 1) := du.trans (if_pos w)
          rw [decide_eq_true w]
          refine iteT ⟨_, rfl, D, _, 0, _, rfl, rfl, SqL.of (e3 _ _ hD3), atI_nat (j := 0) rfl, _, rfl, by show 2 ≤ sizeLine; decide, fun q hq => ?_⟩
          exact k1 _ du q _ ((e12.trans e3).trans (ext_new hq)) upd_same
        · have du : dueP z = none := du.trans (if_neg w)
          rw [decide_eq_false w]
          exact iteF (k0 du _ (e12.trans e3))
    | [p, q], _, du, hl2, hp, hD3 =>
      refine iteF ?_
      have du : dueP z = (figW p.cps.toList).bind fun n => (figW q.cps.toList).bind fun b => if 0 < b ∧ tc (rN n b) (rD n b) = z.cps.toList then some (n, b) else none := du
      cases f1 : figW p.cps.toList with
      | none =>
        rw [f1] at du
        have hD3 : H2 D = some (.lst [.non, optV (figW q.cps.toList)]) := by
          rw [hD3]
          simp only [List.map_cons, List.map_nil, f1]
          rfl
        exact ⟨_, rfl, D, _, rfl, .inl (SqL.of hD3), rfl, by simp only [List.all_cons, List.all_nil, opt_flat, Bool.and_true]; rfl, _, rfl, iteT (k0 du _ e12)⟩
      | some n =>
        cases f2 : figW q.cps.toList with
        | none =>
          rw [f1, f2] at du
          have hD3 : H2 D = some (.lst [.int n, .non]) := by
            rw [hD3]
            simp only [List.map_cons, List.map_nil, f1, f2]
            rfl
          exact ⟨_, rfl, D, _, rfl, .inl (SqL.of hD3), rfl, rfl, _, rfl, iteT (k0 du _ e12)⟩
        | some b =>
          rw [f1, f2] at du
          have hD3 : H2 D = some (.lst [.int n, .int b]) := by
            rw [hD3]
            simp only [List.map_cons, List.map_nil, f1, f2]
            rfl
          have du : dueP z = if 0 < b ∧ tc (rN n b) (rD n b) = z.cps.toList then some (n, b) else none := du
          refine ⟨_, rfl, D, _, rfl, .inl (SqL.of hD3), rfl, rfl, _, rfl, iteF ?_⟩
          refine ⟨_, rfl, D, _, rfl, .inl (SqL.of hD3), rfl, _, rfl, iteT ?_⟩
          refine ⟨_, rfl, D, _, 1, _, rfl, rfl, SqL.of hD3, atI_nat (j := 1) rfl, ?_⟩
          refine ⟨_, rfl, _, _, rfl, rfl, _, rfl, ?_⟩
          by_cases hb : 0 < b
          case neg =>
            have du : dueP z = none := du.trans (if_neg fun x => hb x.1)
            rw [decide_eq_false (show ¬ b > 0 from hb)]
            exact iteF (iteF (k0 du _ e12))
          rw [decide_eq_true (show b > 0 from hb)]
          refine iteT ?_
          have hn := Nat.lt_of_lt_of_le (fig_lt f1 (hp p List.mem_cons_self).1) (Nat.pow_le_pow_right (show 0 < 10 by decide) (show 570 ≤ 2000 by decide))
          have hbb := fig_lt f2 (hp q (List.mem_cons_of_mem _ List.mem_cons_self)).1
          have hlog : b.natAbs.log2 < 8999 := (Nat.log2_lt (by omega)).mpr (Nat.lt_of_lt_of_le hbb (by decide +kernel))
          refine ⟨_, rfl, D, _, 0, _, rfl, rfl, SqL.of hD3, atI_nat (j := 0) rfl, _, rfl, n, b, rfl, by omega, hlog, hn, Nat.lt_of_lt_of_le hbb (Nat.pow_le_pow_right (show 0 < 10 by decide) (show 570 ≤ 2000 by decide)), fun H3 e3 => ⟨_, rfl, rfl, _, rfl, ?_⟩⟩
          rw [iff_str, txtR_codes]
          by_cases w : tc (rN n b) (rD n b) = z.cps.toList
          · have du : dueP z = some (n, b) := du.trans (if_pos ⟨hb, w⟩)
            rw [decide_eq_true w]
            refine iteT ⟨_, rfl, D, _, 0, _, rfl, rfl, SqL.of (e3 _ _ hD3), atI_nat (j := 0) rfl, _, rfl, by show 2 ≤ sizeLine; decide, fun q hq => ?_⟩
            exact k1 _ du q _ ((e12.trans e3).trans (ext_new hq)) upd_same
          · have du : dueP z = none := du.trans (if_neg fun x => w x.2)
            rw [decide_eq_false w]
            exact iteF (k0 du _ (e12.trans e3))
end
end K07

set_option maxRecDepth 100000
set_option maxHeartbeats 4000000
namespace K07
open PySem PySem.Spec PyProof.Rows Gs
open L2 hiding Ext paired_get
open C8 (tCut pss_cut)
def spBent (K : PySem.W.Frag) : Sp := fun vs H Q _ => ∃ (p c : Addr) (n : Nat) (z : Str), vs = [.ref p, .str z] ∧ Pen H p c n ∧ n ≤ 999990 ∧ z.length ≤ 200 ∧ Asc z ∧ ∀ (y : Str) H', y.length ≤ 3 * z.length + 1 → Asc y → Pen H' p c (n + 3) → But p H H' → Q (.str y) H'
section
variable {P : Program} {w : World} {K : PySem.W.Frag} {mg : Str → Option Value} {base : Heap}
theorem sc__law_bent : FnScope ["pen", "page", "way", "at_so", "sign"] ["pen", "page"] (defScope s__law_bent) := ⟨rfl, rfl, rfl, by decide +kernel, rfl, by decide +kernel, by decide +kernel⟩
theorem d__law_bent (T : Txt K mg) (D_law_pick : DefOk P w K mg base CX0 2 "_law_pick" ["pen", "some"] [] (spPick K)) (D_law_draw : DefOk P w K mg base CX0 1 "_law_draw" ["pen", "many"] [] spDraw) (A0 : At K mg "_law_bent" s__law_bent) : DefOk P w K mg base CX0 3 "_law_bent" ["pen", "page"] [] (spBent K) := by
  refine At.ok A0 sc__law_bent (fun _ _ F => F.bindsN fun _ _ _ _ _ _ us hl => match us, hl with | [_, _], _ => rfl) (fun vs H Q E h => ?_) (fun f cdv A out s H vs Q E hr h => ?_)
  · obtain ⟨p, c, n, z, rfl, _⟩ := h; rfl
  · have nd := sc__law_bent.nd
    refine ⟨_, (pss_cons (ps_par (i := 2) (j := 3) rfl nd rfl rfl (by decide) rfl rfl (pa_cons (pe_d D_law_draw (hr.mono (by decide)) pass0 (pa_cons (pv 0) (pa_cons pe_int pa_nil))) (pa_cons (pe_d D_law_draw (hr.mono (by decide)) pass0 (pa_cons (pv 0) (pa_cons (pe_op op_add (pe_callB call_len_str (by rfl) T.f_len (by decide +kernel) (pa_cons (pv 1) pa_nil)) pe_int) pa_nil))) pa_nil)) (by rfl))
          (pss_cons (ps_set (i := 4) nd rfl (Or.inl rfl) (pe_d D_law_pick (hr.mono (by decide)) pass0 (pa_cons (pv 0) (pa_cons (pe_op op_cat (pe_callTy (call_listS (by rfl)) (by rfl) T.f_list (by decide +kernel) (pa_cons pe_str pa_nil)) (pe_lst (pa_cons pe_str (pa_cons pe_str (pa_cons pe_str (pa_cons pe_str (pa_cons pe_str (pa_cons pe_str (pa_cons pe_str (pa_cons pe_str pa_nil)))))))))) pa_nil))))
          (pss_cons (ps_if (pt_cmpR op_eq (pv 2) pe_int (nomark _)) (pss_one (ps_ret (pe_op op_add_str (pe_op op_add_str (pe_slice sl_str (pv 1) po_none (po_some (pv 3))) (pv 4)) (pe_slice sl_str (pv 1) (po_some (pv 3)) po_none)))) pss_nil)
          (pss_cons (ps_if (pt_cmpR op_eq (pv 2) pe_int (nomark _)) (pss_one (ps_ret (pe_op op_add_str (pe_slice sl_str (pv 1) po_none (po_some (pv 3))) (pe_slice sl_str (pv 1) (po_some (pe_op op_add (pv 3) pe_int)) po_none)))) pss_nil)
          (pss_cons (ps_if (pt_cmpR op_eq (pv 2) pe_int (nomark _)) (pss_one (ps_ret (pe_op op_add_str (pe_op op_add_str (pe_slice sl_str (pv 1) po_none (po_some (pv 3))) (pv 4)) (pe_slice sl_str (pv 1) (po_some (pe_op op_add (pv 3) pe_int)) po_none)))) pss_nil)
          (pss_one (ps_ret (pe_op op_add_str (pe_op op_add_str (pe_slice sl_str (pv 1) po_none (po_some (pv 3))) (pe_slice sl_str (pv 1) (po_some (pv 3)) (po_some (pe_op op_add (pv 3) pe_int)))) (pe_slice sl_str (pv 1) (po_some (pv 3)) po_none))))))))), ?_⟩
    obtain ⟨p, c, n, z, rfl, P, hn, hz, az, k⟩ := h
    have hzl : z.length ≤ sizeLine := Nat.le_trans hz (by decide)
    refine ⟨_, rfl, p, c, n, 4, rfl, P, by omega, by decide, by decide, fun w H1 w0 w1 P1 B1 => ?_⟩
    refine ⟨_, rfl, _, rfl, z, rfl, hzl, _, _, rfl, rfl, p, c, _, (z.length : Int) + 1, rfl, P1, by omega, by omega, by omega, fun a H2 a0 a1 P2 B2 => ⟨_, _, rfl, ?_⟩⟩
    refine ⟨_, rfl, "0123456789", rfl, by decide +kernel, fun l0 hl0 => ⟨by show 8 ≤ sizeLine; decide, fun l1 hl1 => ?_⟩⟩
    have x0 := ext_new (o := .lst (("0123456789" : Str).cps.toList.map fun c => V.str ⟨#[c]⟩)) hl0
    have x1 := ext_new (o := .lst [.str "-", .str "/", .str " ", .str "+", .str ".", .str "a", .str "_", .str "\n"]) hl1
    refine ⟨l0, l1, _, _, rfl, rfl, x1 _ _ upd_same, upd_same, by show 10 + 8 ≤ sizeLine; decide, fun l2 hl2 => ?_⟩
    have Pb := (P2.ext x0).ext x1
    refine ⟨p, c, l2, _, _, rfl, Pb.new hl2, by omega, SqL.of upd_same, Pb.np hl2, by simp, by show 18 < 1000000; decide, fun j x H' hx P' B' => ?_⟩
    have ez : (("0123456789" : Str).cps.toList.map fun c => V.str ⟨#[c]⟩) ++ [.str "-", .str "/", .str " ", .str "+", .str ".", .str "a", .str "_", .str "\n"] = ((["0", "1", "2", "3", "4", "5", "6", "7", "8", "9", "-", "/", " ", "+", ".", "a", "_", "\n"] : List Str).map V.str) := by rfl
    rw [ez] at hx
    obtain ⟨g, rfl, gm, hg⟩ := str_of_menu (zs := ["0", "1", "2", "3", "4", "5", "6", "7", "8", "9", "-", "/", " ", "+", ".", "a", "_", "\n"]) (m := 1) (by decide +kernel) hx
    have ag : Asc g := (show ∀ z ∈ (["0", "1", "2", "3", "4", "5", "6", "7", "8", "9", "-", "/", " ", "+", ".", "a", "_", "\n"] : List Str), ∀ c ∈ z.cps.toList, c < 128 by decide +kernel) g gm
    have BB : But p H H' := B1.trans (B2.trans (((x0.trans x1).but.new hl2).trans B'))
    have c0 := cutS_length z none (some a)
    have c1 := cutS_length z (some a) none
    have c2 := cutS_length z (some (a + 1)) none
    have c3 := cutS_length z (some a) (some (a + 1))
    have sl : ∀ {m : Nat}, m ≤ 1000 → m ≤ sizeLine := fun h => Nat.le_trans h (by decide)
    have fin : ∀ (y : Str), y.length ≤ 3 * z.length + 1 → Asc y → Q (.str y) H' := fun y h1 h2 => k y H' h1 h2 (P'.mono (by omega)) BB
    have dv : ∀ i j : Int, decide (V.int i = V.int j) = decide (i = j) := fun i j => by
      by_cases q : i = j
      · rw [q, decide_eq_true rfl, decide_eq_true rfl]
      · rw [decide_eq_false q, decide_eq_false fun e => q (V.int.inj e)]
    refine ⟨_, rfl, rfl, _, rfl, ?_⟩
    rw [dv]
    by_cases h0 : w = 0
    · rw [decide_eq_true h0]
      refine iteT ⟨_, rfl, _, rfl, _, rfl, z, rfl, hzl, _, rfl, _, _, rfl, rfl, sl (by omega), _, rfl, _, rfl, _, rfl, z, rfl, hzl, _, _, rfl, rfl, sl (by rw [app_len]; omega), ?_⟩
      exact fin _ (by rw [app_len, app_len]; omega) (asc_app (asc_app (asc_cut az _ _) ag) (asc_cut az _ _))
    rw [decide_eq_false h0]
    refine iteF ⟨_, rfl, rfl, _, rfl, ?_⟩
    rw [dv]
    by_cases h1 : w = 1
    · rw [decide_eq_true h1]
      refine iteT ⟨_, rfl, _, rfl, _, rfl, z, rfl, hzl, _, rfl, _, rfl, _, _, rfl, rfl, _, rfl, z, rfl, hzl, _, _, rfl, rfl, sl (by omega), ?_⟩
      exact fin _ (by rw [app_len]; omega) (asc_app (asc_cut az _ _) (asc_cut az _ _))
    rw [decide_eq_false h1]
    refine iteF ⟨_, rfl, rfl, _, rfl, ?_⟩
    rw [dv]
    by_cases h2 : w = 2
    · rw [decide_eq_true h2]
      refine iteT ⟨_, rfl, _, rfl, _, rfl, z, rfl, hzl, _, rfl, _, _, rfl, rfl, sl (by omega), _, rfl, _, rfl, _, _, rfl, rfl, _, rfl, z, rfl, hzl, _, _, rfl, rfl, sl (by rw [app_len]; omega), ?_⟩
      exact fin _ (by rw [app_len, app_len]; omega) (asc_app (asc_app (asc_cut az _ _) ag) (asc_cut az _ _))
    rw [decide_eq_false h2]
    refine iteF ⟨_, rfl, _, rfl, _, rfl, z, rfl, hzl, _, rfl, _, rfl, _, rfl, _, rfl, _, _, rfl, rfl, _, rfl, z, rfl, hzl, _, _, rfl, rfl, sl (by omega), _, rfl, _, rfl, _, rfl, z, rfl, hzl, _, _, rfl, rfl, sl (by rw [app_len]; omega), ?_⟩
    exact fin _ (by rw [app_len, app_len]; omega) (asc_app (asc_app (asc_cut az _ _) (asc_cut az _ _)) (asc_cut az _ _))
end
end K07

set_option maxRecDepth 100000
set_option maxHeartbeats 4000000
namespace K07
open PySem PySem.Spec PyProof.Rows Gs
open L2 hiding Ext paired_get
open C8 (tCut pss_cut)
open LamX

def TL (K : PySem.W.Frag) : List (Addr × Str) := [((He.cT K ("_law_right", none)).2, "_law_right.<locals>.<lambda>"), ((He.cT K ("law", none)).2, "law.<locals>.<lambda>")]
def HTxt (CT : Addr) (Q : VK) : XK := fun cls d H' => cls = .ref CT ∧ ∃ dd l w, d = some dd ∧ H' dd = some (.xd [("word", w), ("line", l)]) ∧ ∀ q H'', Gs.Ext H' H'' → H'' q = some (.lst [l, w]) → Q (.ref q) H''
/-- a fraction's pair, or the fields of a BadText -/
def TH7 (K : PySem.W.Frag) : (XK → Hp → VK → Prop) → Hp → VK → Prop := fun tl H Q =>
  ∀ H0, Gs.Ext H H0 → tl (HTxt (He.ga K "BadText") Q) H0 fun v H1 => ∃ a n d, v = .ref a ∧ Gs.Rat (He.ga K "Ratio") H1 a n d ∧ ∀ q H', Gs.Ext H1 H' → H' q = some (.tup [.int n, .int d]) → Q (.ref q) H'
structure ExT (K : PySem.W.Frag) : Prop where
  xh : XhC K (He.ga K "BadText")
  n1 : PySem.W.findIn K (.ref (He.ga K "BadText")) "line" = some none
  n2 : PySem.W.findIn K (.ref (He.ga K "BadText")) "word" = some none
  gap : PySem.W.exmOne K (.ref (He.ga K "BadText")) (.ref (He.ga K "GapError")) = some true
  isB : PySem.W.kitOne K (.ref (He.ga K "BadText")) (.ref (He.ga K "BadText")) = some true
theorem takesN {X : Cx} : Takes X (fun _ _ _ _ => False) := fun _ _ ⟨_, _, _, _, _, _, _, _, _, _, _, _, _, _, _, _, z⟩ => z.elim
theorem sc__law_heard : FnScope ["ask", "caught", "made", "error"] ["ask"] (defScope s__law_heard) := ⟨rfl, rfl, rfl, by decide +kernel, rfl, by decide +kernel, by decide +kernel⟩
theorem hears {X : Cx} {q : Str} (T : Txt X.K X.mg) (RF : RatF X.K (He.ga X.K "Ratio")) (XT : ExT X.K) (g : Addr) (cdg : Value) : Hears X ["ask", "caught", "made", "error"] "_law_heard" (defScope s__law_heard) g cdg (defBody s__law_heard) "ask" q (TH7 X.K) := by
  intro f c' s H Q tl act hc h hr
  have nd := sc__law_heard.nd
  refine ⟨_, pss_cons (ps_asg (pe_tup (pa_cons pe_non (pa_cons pe_non pa_nil))) (pg_tup (by rfl) (pgs_cons (pg_name (i := 1) nd rfl (Or.inl rfl)) (pgs_cons (pg_name (i := 2) nd rfl (Or.inl rfl)) pgs_nil))))
    (pss_cons (ps_try_held (X := (cxOf CX0 X.prog X.w X.K X.mg X.base ["ask", "caught", "made", "error"] "_law_heard" (defScope s__law_heard) g cdg X.A X.stack s H E0).nox) (i := 3) rfl rfl rfl nd rfl rfl ⟨rfl, by decide, .inl T.c_GapError⟩ takesN
      (fun W pn xe tk _ => pss_one (ps_set (i := 2) nd rfl (Or.inl rfl) (teM_ok (act W pn xe _ _ tk)))) (fun a oe cls d pn hz hf => pss_one (ps_set (i := 1) nd rfl (Or.inl rfl) (pv 3))))
    (pss_cons (ps_if (pt_cmpR op_notN (pv 1) pe_non (nomark _)) (pss_one (ps_ret (pe_ifExp (pt_val (pe_callB call_isH (by rfl) T.f_isinstance (by decide +kernel) (pa_cons (pv 1) (pa_cons (pe_glob (v := .ref (He.ga X.K "BadText")) (by rfl) T.c_BadText rfl) pa_nil))))
      (pe_lst (pa_cons (pe_xh (pv 1)) (pa_cons (pe_xh (pv 1)) pa_nil))) (pe_lst (pa_cons pe_str pa_nil))))) pss_nil)
    (pss_one (ps_ret (pe_ifExp (pt_val (pe_callB call_isi (by rfl) T.f_isinstance (by decide +kernel) (pa_cons (pv 2) (pa_cons (pe_glob (v := .ref (He.ga X.K "Ratio")) (by rfl) T.c_Ratio rfl) pa_nil))))
      (pe_tup (pa_cons (pe_fld (pv 2) rfl) (pa_cons (pe_fld (pv 2) rfl) pa_nil))) (pe_lst (pa_cons pe_str pa_nil))))))), ?_⟩
  refine ⟨by show 2 ≤ sizeLine; decide, fun u0 w0 => ⟨u0, _, rfl, .inl (.inl upd_same), rfl, _, _, rfl, _, _, rfl, rfl, ?_⟩⟩
  have e0 := ext_new (o := .tup [.non, .non]) w0
  refine ⟨_, ⟨rfl, e0 _ _ hc, _, fun cls d H' hE => ?_, h _ e0⟩, ?_⟩
  · obtain ⟨rfl, dd, l, w, rfl, hx, k⟩ := hE
    refine ⟨true, XT.gap, fun _ a na => ?_, fun z => by cases z⟩
    have ex : Gs.Ext H' (upd H' a (ExV (.ref (He.ga X.K "BadText")) a (some dd))) := ext_new na
    have hdd := ex _ _ hx
    refine ⟨_, rfl, ?_⟩
    refine ⟨_, rfl, rfl, _, rfl, iteT ?_⟩
    refine ⟨_, rfl, _, _, _, _, _, rfl, .own _, .exc upd_same XT.xh (fun d' e => by cases e; exact ⟨_, hdd⟩), XT.isB, _, rfl, iteT ?_⟩
    refine ⟨_, rfl, a, _, dd, _, l, rfl, upd_same, XT.xh, XT.n1, hdd, rfl, _, rfl, a, _, dd, _, w, rfl, upd_same, XT.xh, XT.n2, hdd, rfl, by show 2 ≤ sizeLine; decide, fun p hp => ?_⟩
    exact k p _ (ex.new hp) upd_same
  · rintro v H1 ⟨a, n, d, rfl, ⟨dx, ra⟩, k⟩
    refine ⟨_, rfl, rfl, _, rfl, iteF ?_⟩
    refine ⟨_, rfl, _, _, _, _, _, rfl, .own _, Gs.Rat.ty RF ⟨dx, ra⟩, RF.self, _, rfl, iteT ?_⟩
    exact ⟨_, rfl, a, _, dx, _, _, rfl, ra, RF.cls, RF.over, rfl, _, rfl, a, _, dx, _, _, rfl, ra, RF.cls, RF.under, rfl, by show 2 ≤ sizeLine; decide, fun p hp => k p _ (ext_new hp) upd_same⟩
/-- Ratio.read(z), heard -/
def spRgt (K : PySem.W.Frag) : Sp := fun vs H Q _ => ∃ z, vs = [.str z] ∧ z.length ≤ 570 ∧ Asc z ∧ Tabs (TL K) H ∧ ∀ H', ExtN H H' → Tabs (TL K) H' → Q (.bl true) H'
section
variable {P : Program} {w : World} {K : PySem.W.Frag} {mg : Str → Option Value} {base : Heap}
theorem sc__law_right : FnScope ["page", "due"] ["page"] (defScope s__law_right) := ⟨rfl, rfl, rfl, by decide +kernel, rfl, by decide +kernel, by decide +kernel⟩
theorem d__law_right (T : Txt K mg) (RF : RatF K (He.ga K "Ratio")) (XT : ExT K) (D_Ratio_read : FunOk P w K mg base (L2.CX P w) 6 (He5.wf K (He.ga K "Ratio") "classmethod" "read") ["cls", "text"] [] (spRead K (He.ga K "Ratio") (He.ga K "BadText"))) (CRr : ClX.CRead K (He.ga K "Ratio") (.type "type")) (CMr : ClX.CMet K (He.ga K "Ratio") (.type "type") "read" (He.ma K (He.ga K "Ratio") "read") (He5.wf K (He.ga K "Ratio") "classmethod" "read")) (D_law_due : DefOk P w K mg base CX0 4 "_law_due" ["page"] [] spDue) (A__law_heard : At K mg "_law_heard" s__law_heard) (TB__law_right : TabB base mg (He.cT K ("_law_right", none)).1 (He.cT K ("_law_right", none)).2) (G0 : mg "_law_right" = some (.ref (He.ga K "_law_right"))) (hm__law_right : ((He.cT K ("_law_right", none)).2, ("_law_right.<locals>.<lambda>" : Str)) ∈ TL K) (hu__law_right : ∀ p ∈ TL K, p.1 = (He.cT K ("_law_right", none)).2 → p.2 = "_law_right.<locals>.<lambda>")  (A0 : At K mg "_law_right" s__law_right) : DefG P w K mg base CX0 12 "_law_right" ["page"] [] (spRgt K) := by
  refine At.okT A0 G0 sc__law_right (fun _ _ F => F.bindsN fun _ _ _ _ _ _ us hl => match us, hl with | [_], _ => rfl) (fun vs H Q E h => ?_) (fun f A out s H vs Q E hG hr h => ?_)
  · obtain ⟨z, rfl, _⟩ := h; rfl
  · have nd := sc__law_right.nd
    refine ⟨_, (pss_cons (ps_set (i := 1) nd rfl (Or.inl rfl) (pe_d D_law_due (hr.mono (by decide)) pass0 (pa_cons (pv 0) pa_nil)))
          (pss_one (ps_ret (pe_cmpR (op_eqD hr.units) (pe_heard (k := 8) (T := TL K) (x := "_law_heard") (a := "ask") A__law_heard sc__law_heard rfl (fun _ _ _ _ _ _ _ _ => rfl) (fun g cdg => hears T RF XT g cdg) TB__law_right rfl hm__law_right hu__law_right (hr.mono (by decide)) (show LamS (defScope s__law_right) _ from lamS_by (by decide +kernel)) (hbody := fun A out s H E f c' hr => (pe_cm D_Ratio_read CRr CMr (hr.mono (by decide)) (passes_call takesLam fun _ _ _ _ h => h) (pe_glob (v := .ref (He.ga K "Ratio")) (by rfl) T.c_Ratio rfl) (pa_cons (pv 0) pa_nil)))) (pe_ifExp (pt_cmpR op_notN (pv 1) pe_non (nomark _)) (pv 1) (pe_lst (pa_cons pe_int (pa_cons pe_int pa_nil)))) (nomark _))))), ?_⟩
    obtain ⟨z, rfl, hz, az, tb, k⟩ := h
    have dr : dueP z = readP z := due_read (Nat.le_trans hz (by decide))
    have okz : ∀ y, V.str z = .str y → RdOk y := fun y e => by
      cases e
      exact .inl (Nat.le_trans hz (by decide))
    have sh2 : SeqAt.shaped (.list [.int 0, .int 0]) = true := by decide +kernel
    refine ⟨_, rfl, z, rfl, hz, az, fun hd H1 e1 => ?_, fun p hd q H1 e1 hq => ?_⟩
    · refine ⟨tb.ext e1, fun H5 n5 t5 H0 e0 => ⟨rfl, _, rfl, .str z, rfl, .str z, okz, fun p hp => ?_, fun _ d H' e h => ⟨rfl, d, .int 0, .int 0, rfl, h, fun q H'' e' hq => ?_⟩⟩⟩
      · rw [show readV (.str z) = readP z from rfl, ← dr, hd] at hp
        cases hp
      refine ⟨_, rfl, rfl, _, rfl, iteF ⟨by show 2 ≤ sizeLine; decide, fun l nl => ?_⟩⟩
      have x := ext_new (o := .lst [.int 0, .int 0]) nl
      refine ⟨_, _, .lst (SqL.of (x _ _ hq)) (.cons (.int _) (.cons (.int _) .nil)), .lst (SqL.of upd_same) (.cons (.int _) (.cons (.int _) .nil)), sh2, sh2, ?_⟩
      rw [SeqAt.eqv_refl _ (SeqAt.canLay_of_shaped sh2)]
      have ee := ((e0.trans e).trans e').trans x
      exact k _ (((ExtN.ofE e1).trans n5).trans (ExtN.ofE ee)) (t5.ext ee)
    · refine ⟨tb.ext e1, fun H5 n5 t5 H0 e0 => ⟨rfl, _, rfl, .str z, rfl, .str z, okz, fun p' hp => ?_, fun hn => ?_⟩⟩
      · rw [show readV (.str z) = readP z from rfl, ← dr, hd] at hp
        cases hp
        refine fun b H' e nb rb => ⟨b, p.1, p.2, rfl, rb, fun u H'' e' hu => ?_⟩
        have hq' := e' _ _ (e _ _ (e0 _ _ (ExtN.tup n5 hq)))
        refine ⟨_, rfl, rfl, _, rfl, iteT ⟨_, rfl, ?_⟩⟩
        have sh : SeqAt.shaped (.tuple [.int p.1, .int p.2]) = true := by simp [SeqAt.shaped, PyData.canLay0, PyData.canLayAll0, PyData.depth, PyData.depthAll]
        refine ⟨_, _, .tup (.inl (.inl hu)) (.cons (.int _) (.cons (.int _) .nil)), .tup (.inl (.inl hq')) (.cons (.int _) (.cons (.int _) .nil)), sh, sh, ?_⟩
        rw [SeqAt.eqv_refl _ (SeqAt.canLay_of_shaped sh)]
        have ee := (e0.trans e).trans e'
        exact k _ (((ExtN.ofE e1).trans n5).trans (ExtN.ofE ee)) (t5.ext ee)
      · rw [show readV (.str z) = readP z from rfl, ← dr, hd] at hn
        cases hn
end
end K07

set_option maxRecDepth 100000
set_option maxHeartbeats 4000000
namespace K07
open PySem PySem.Spec PyProof.Rows Gs
open L2 hiding Ext paired_get
set_option exponentiation.threshold 20000
theorem numL_no45 (n : Nat) : (TL.numL n).take 1 ≠ [45] := fun h => TL.numL_free (n := n) (s := 45) (by decide) (by
  cases e : TL.numL n with
  | nil => rw [e] at h; cases h
  | cons x xs =>
    rw [e] at h
    simp at h
    rw [h]
    exact List.mem_cons_self)
theorem dec_codes (n : Int) : dec (codesI n) = TL.numL n.natAbs := by
  unfold codesI
  split
  · exact dec_pos rfl
  · exact dec_neg (numL_no45 _)
theorem val_codes (n : Int) : valI (codesI n) = n := by
  unfold valI codesI
  split
  · rw [if_pos (by rfl)]
    show -((NumText.digitsVal (TL.numL n.natAbs) : Nat) : Int) = n
    rw [TL.numL_val]
    omega
  · rw [if_neg (numL_no45 _), TL.numL_val]
    omega
theorem num_all (n : Nat) : (TL.numL n).all isFig = true := List.all_eq_true.mpr fun c hc => isFig_iff.mpr (TL.numL_digits n c hc)
theorem figs_codes (n : Int) : figs (codesI n) = decide ((TL.numL n.natAbs).length ≤ 4000) := by
  have a : (dec (codesI n)).all isFig = true := by rw [dec_codes]; exact num_all _
  have ne : dec (codesI n) ≠ [] := by rw [dec_codes]; exact TL.numL_ne _
  have b := (codes_back a ne).mp (congrArg codesI (val_codes n))
  have b2 : (decide (codesI n = [48]) || decide ((dec (codesI n)).head? ≠ some 48)) = true := by
    rcases b with b | b
    · rw [decide_eq_true b]; rfl
    · rw [decide_eq_true b, Bool.or_true]
  unfold figs
  rw [a, b2, dec_codes, Bool.and_true, Bool.and_true]
  have : 1 ≤ (TL.numL n.natAbs).length := by
    have := List.length_pos_iff.mpr (TL.numL_ne n.natAbs)
    omega
  exact decide_eq_decide.mpr ⟨fun h => h.2, fun h => ⟨this, h⟩⟩
theorem split_self {z : Str} (h : 47 ∉ z.cps.toList) : Txt.split z "/" = [z] := by
  have e := split_one h
  have j := StrLaws.join_split z "/"
  match hs : Txt.split z "/", e with
  | [p], _ =>
    rw [hs] at j
    have : p = z := j
    rw [this]
theorem read_int (n : Int) : readP (Str.ofString (toString n)) = if (TL.numL n.natAbs).length ≤ 4000 then some (n, 1) else none := by
  unfold readP
  rw [split_self (by rw [tl_int]; exact codes_free)]
  show (if figs (Str.ofString (toString n)).cps.toList = true then some (valI (Str.ofString (toString n)).cps.toList, (1 : Int)) else none) = _
  rw [tl_int, figs_codes, val_codes]
  by_cases h : (TL.numL n.natAbs).length ≤ 4000
  · rw [if_pos h, if_pos (decide_eq_true h)]
  · rw [if_neg h, if_neg (by rw [decide_eq_false h]; decide)]
theorem num_min {n k : Nat} (h : 10 ^ k ≤ n) : k < (TL.numL n).length := by
  have a := dv_lt (TL.numL_digits n)
  rw [TL.numL_val] at a
  by_cases z : k < (TL.numL n).length
  · exact z
  · exact absurd (Nat.lt_of_lt_of_le a (Nat.le_trans (Nat.pow_le_pow_right (by decide) (Nat.le_of_not_lt z)) h)) (Nat.lt_irrefl _)
theorem split_two {n d : Int} : Txt.split ((Str.ofString (toString n) ++ "/") ++ Str.ofString (toString d)) "/" = [Str.ofString (toString n), Str.ofString (toString d)] := by
  have h := TL.split_join (y := "/") (s := 47) (S := []) (by decide +kernel) (by decide +kernel) (parts := [Str.ofString (toString n), Str.ofString (toString d)]) (by simp) (by
    intro p hp
    rcases List.mem_cons.mp hp with rfl | hp
    · show 47 ∉ (Str.ofString (toString n)).cps.toList
      rw [tl_int]
      exact codes_free
    · rw [List.mem_singleton] at hp
      subst hp
      show 47 ∉ (Str.ofString (toString d)).cps.toList
      rw [tl_int]
      exact codes_free)
  rw [TL.join_eq] at h
  exact h
theorem read_txt {n d : Int} (hd : 0 < d) (hg : Int.gcd n d = 1) (l1 : (TL.numL n.natAbs).length ≤ 4000) (l2 : (TL.numL d.natAbs).length ≤ 4000) : readP (txtR n d) = some (n, d) := by
  unfold txtR
  by_cases h : d = 1
  · rw [if_pos h, read_int, if_pos l1, h]
  · rw [if_neg h]
    unfold readP
    rw [split_two]
    show (if (figs (Str.ofString (toString n)).cps.toList && figs (Str.ofString (toString d)).cps.toList) = true then (if 2 ≤ valI (Str.ofString (toString d)).cps.toList ∧ Int.gcd (valI (Str.ofString (toString n)).cps.toList) (valI (Str.ofString (toString d)).cps.toList) = 1 then some (valI (Str.ofString (toString n)).cps.toList, valI (Str.ofString (toString d)).cps.toList) else none) else none) = _
    rw [tl_int, tl_int, figs_codes, figs_codes, val_codes, val_codes, decide_eq_true l1, decide_eq_true l2, if_pos (show (true && true) = true from rfl), if_pos ⟨by omega, hg⟩]
theorem num100 {n : Int} (h : n.natAbs < 10 ^ 30) : (TL.numL n.natAbs).length ≤ 30 := TL.numL_len (by decide) h
theorem txt_len {n d : Int} (hn : n.natAbs < 10 ^ 30) (hd : d.natAbs < 10 ^ 30) (pd : 0 < d) : (txtR n d).length ≤ 62 := by
  have c : ∀ i : Int, i.natAbs < 10 ^ 30 → (Str.ofString (toString i)).length ≤ 31 := fun i h => by
    have := num100 h
    rw [len_tl, tl_int]
    unfold codesI
    split
    · rw [List.length_cons]; omega
    · omega
  have a := c n hn
  have b : (Str.ofString (toString d)).length ≤ 30 := by
    have := num100 hd
    rw [len_tl, tl_int]
    unfold codesI
    rw [if_neg (by omega)]
    omega
  unfold txtR
  split
  · omega
  · rw [app_len, app_len]
    have : ("/" : Str).length = 1 := by decide +kernel
    omega
theorem txt_asc (n d : Int) : Asc (txtR n d) := by
  unfold txtR
  split
  · exact asc_int n
  · exact asc_app (asc_app (asc_int n) (by
      intro c hc
      rw [slash] at hc
      simp at hc
      omega)) (asc_int d)
/-- the great number -/
def far (k : Nat) : Int := (10 ^ 30 - 1) ^ (k + 1)
theorem far_step (k : Nat) : far k * (10 ^ 30 - 1) = far (k + 1) := (Int.pow_succ _ _).symm
theorem far_lt {k : Nat} (h : k ≤ 132) : (far k).natAbs < 2 ^ 13400 := by
  unfold far
  rw [Int.natAbs_pow]
  refine Nat.lt_of_le_of_lt (Nat.pow_le_pow_right (by decide) (show k + 1 ≤ 133 by omega)) (by decide +kernel)
theorem page_in : 10 ^ 3999 ≤ (far 132 * 10 ^ 10).natAbs ∧ (far 132 * 10 ^ 10).natAbs < 10 ^ 4000 := by
  unfold far
  decide +kernel
theorem wide_in : 10 ^ 4000 ≤ (far 132 * 10 ^ 11).natAbs ∧ (far 132 * 10 ^ 11).natAbs < 10 ^ 4001 := by
  unfold far
  decide +kernel
theorem page_len : (TL.numL (far 132 * 10 ^ 10).natAbs).length = 4000 := by
  have a := num_min page_in.1
  have b := TL.numL_len (by decide) page_in.2
  omega
theorem wide_len : (TL.numL (far 132 * 10 ^ 11).natAbs).length = 4001 := by
  have a := num_min wide_in.1
  have b := TL.numL_len (by decide) wide_in.2
  omega
theorem far_pos (k : Nat) : 0 < far k := Int.pow_pos (by decide)
theorem page_str : (Str.ofString (toString (far 132 * 10 ^ 10))).length = 4000 := by
  rw [len_tl, tl_int]
  unfold codesI
  rw [if_neg (Int.not_lt.mpr (Int.le_of_lt (Int.mul_pos (far_pos 132) (by decide)))), page_len]
theorem wide_str : (Str.ofString (toString (far 132 * 10 ^ 11))).length = 4001 := by
  rw [len_tl, tl_int]
  unfold codesI
  rw [if_neg (Int.not_lt.mpr (Int.le_of_lt (Int.mul_pos (far_pos 132) (by decide)))), wide_len]
theorem page_read : readP (Str.ofString (toString (far 132 * 10 ^ 10))) = some (far 132 * 10 ^ 10, 1) := by
  rw [read_int, if_pos (by rw [page_len]; exact Nat.le_refl _)]
theorem wide_read : readP (Str.ofString (toString (far 132 * 10 ^ 11))) = none := by
  rw [read_int, if_neg (by rw [wide_len]; decide)]
theorem rdOk_int (n : Int) (h : (Str.ofString (toString n)).length ≤ 4200) : ∀ y, V.str (Str.ofString (toString n)) = .str y → RdOk y := fun y e => by
  cases e
  exact .inr ⟨h, by rw [tl_int]; exact codes_free⟩
end K07

set_option maxRecDepth 100000
set_option maxHeartbeats 4000000
namespace K07
open PySem PySem.Spec PyProof.Rows Gs
open L2 hiding Ext paired_get
open C8 (tCut pss_cut)
open LamX
set_option exponentiation.threshold 20000

def spLaw (K : PySem.W.Frag) : Sp := fun vs H Q _ => ∃ (a : Addr) (ns : List Int), vs = [.ref a] ∧ SqL K H a (ns.map V.int) ∧ ns.length ≤ 63 ∧ Tabs (TL K) H ∧ ∀ H', Q (.bl true) H'
theorem neR_of {K : PySem.W.Frag} {C a b : Addr} {n d n' d' : Int} {H : Hp} {Q : VK} {E : XK} (RF : RatF K C) (ra : Gs.Rat C H a n d) (rb : Gs.Rat C H b n' d') (k : Q (.bl (!(decide (n = n') && decide (d = d')))) H) : rNeO K C (spEqR K C) E (.ref a) (.ref b) H Q := by
  obtain ⟨dx, hx⟩ := id ra
  obtain ⟨dy, hy⟩ := id rb
  refine ⟨a, dx, _, _, rfl, hx, Gs.Rat.ty RF rb, by simp [PySem.W.notFirst], a, n, d, .ref b, rfl, ra, .rat rb, fun c m' e' ec rc => ?_, fun z => ?_⟩
  · cases ec
    obtain ⟨dz, hz⟩ := rc
    rw [hy] at hz
    cases hz
    exact ⟨_, rfl, k⟩
  · rw [Gs.Rat.is _ rb] at z
    cases z
theorem readV_none {v : V} (h : ∀ z, v ≠ .str z) : readV v = none := by
  cases v with
  | str z => exact absurd rfl (h z)
  | _ => rfl
theorem mul_go {K : PySem.W.Frag} {C a : Addr} {n j : Int} {H : Hp} {Q : VK} {E : XK} {nm : String} (ra : Gs.Rat C H a n 1) (hn : n.natAbs < 2 ^ 14000) (hj : j.natAbs < 2 ^ 1000) (k : Made C H (n * j) 1 Q) : rBinO K C nm (spMul C) spNo E (.ref a) (.int j) H Q := by
  obtain ⟨dx, hx⟩ := id ra
  exact .inl ⟨a, dx, _, rfl, hx, .inr (.inl ⟨_, rfl⟩), a, n, j, rfl, ra, hn, hj, k⟩
theorem str_go {C a : Addr} {n : Int} {H : Hp} {Q : VK} {E : XK} (ra : Gs.Rat C H a n 1) (hn : n.natAbs < 10 ^ 4300) (k : Q (.str (Str.ofString (toString n))) H) : rStrO C (spStr C) E [.ref a] H Q := by
  obtain ⟨dx, hx⟩ := id ra
  refine ⟨a, dx, _, rfl, hx, a, n, 1, rfl, ra, hn, fun z => absurd rfl z, _, rfl, ?_⟩
  rw [show txtR n 1 = Str.ofString (toString n) from if_pos rfl]
  exact k
def SOME : List Str := ["", "/", "1/", "/2", "2/4", "1/1", "0/1", "0/5", "-0", "1/-2", "--1", "+1", "1/02", "01", " 1", "1 ", "1/0", "1/2/3"]
theorem due_some : ∀ z ∈ SOME, dueP z = none := by decide +kernel
theorem asc_some : ∀ z ∈ SOME, z.length ≤ 570 ∧ Asc z := by
  have : ∀ z ∈ SOME, z.length ≤ 570 ∧ ∀ c ∈ z.cps.toList, c < 128 := by decide +kernel
  exact this
def LASTP : List Str := ["0", "-7/2", "1/2", repS "9" 500 ++ "/2"]
theorem asc_last : ∀ z ∈ LASTP, z.length ≤ 570 ∧ Asc z := by
  have : ∀ z ∈ LASTP, z.length ≤ 570 ∧ ∀ c ∈ z.cps.toList, c < 128 := by decide +kernel
  exact this
section
variable {P : Program} {w : World} {K : PySem.W.Frag} {mg : Str → Option Value} {base : Heap}
theorem kb_read {f C : Addr} {fd : FuncData} (F : FunD K "read" "Ratio.read" (defArgs s_Ratio_read) (defBody s_Ratio_read) (defScope s_Ratio_read) [] [] f fd) :
    ∃ g : List Value → List Value, (∀ (s : Shared) (ws : List Value), K.In s.heap → ws.length = (["text"] : List Str).length → BindsTo s fd ⟨[.ref C], (["text"] : List Str).zip ws⟩ ((["cls", "text"] : List Str).zip (.ref C :: g ws))) ∧ ∀ {zs : List V} {ws : List Value}, Vals zs ws → Vals (id zs) (g ws) := by
  obtain ⟨oc, od, dV, kV, doc, pm, an, cdv, ct, osl, rfl, l1, hcd, hD, hK⟩ := F.ex
  rcases hD with ⟨_, rfl⟩ | ⟨e, _⟩
  · exact ⟨id, fun s ws _ hl => match ws, hl with
      | [u], _ => .of_eq rfl, fun r => r⟩
  · exact absurd rfl e
theorem sc_law : FnScope ["script", "pen", "lap", "top", "bottom", "page", "bent", "odd", "some", "far", "wide"] ["script"] (defScope s_law) := ⟨rfl, rfl, rfl, by decide +kernel, rfl, by decide +kernel, by decide +kernel⟩
theorem d_law (T : Txt K mg) (RF : RatF K (He.ga K "Ratio")) (M_Ratio : Mk K (He.ga K "Ratio") (He.ma K (He.ga K "Ratio") "__init__"))(D_Ratio1 : FunOk P w K mg base (L2.CX P w) 3 (He.ma K (He.ga K "Ratio") "__init__") ["self", "over", "under"] [.int 1] (spInit K (He.ga K "Ratio") (He.ga K "BadRatio"))) (D_Ratio2 : FunOk P w K mg base (L2.CX P w) 3 (He.ma K (He.ga K "Ratio") "__init__") ["self", "over", "under"] [] (spInit K (He.ga K "Ratio") (He.ga K "BadRatio")))(XT : ExT K) (D_law_pen : DefOk P w K mg base CX0 1 "_law_pen" ["script"] [] (spPen K)) (D_law_pair : DefOk P w K mg base CX0 3 "_law_pair" ["pen"] [] spPair) (D_law_written : DefOk P w K mg base CX0 3 "_law_written" ["top", "bottom"] [] spTxt) (D_law_pick : DefOk P w K mg base CX0 2 "_law_pick" ["pen", "some"] [] (spPick K)) (D_law_due : DefOk P w K mg base CX0 4 "_law_due" ["page"] [] spDue) (D_law_bent : DefOk P w K mg base CX0 3 "_law_bent" ["pen", "page"] [] (spBent K)) (D_law_right : DefG P w K mg base CX0 12 "_law_right" ["page"] [] (spRgt K)) (D_Ratio_read : FunOk P w K mg base (L2.CX P w) 6 (He5.wf K (He.ga K "Ratio") "classmethod" "read") ["cls", "text"] [] (spRead K (He.ga K "Ratio") (He.ga K "BadText"))) (CRr : ClX.CRead K (He.ga K "Ratio") (.type "type")) (CMr : ClX.CMet K (He.ga K "Ratio") (.type "type") "read" (He.ma K (He.ga K "Ratio") "read") (He5.wf K (He.ga K "Ratio") "classmethod" "read")) (A_read : AtF K (He5.wf K (He.ga K "Ratio") "classmethod" "read") "read" "Ratio.read" s_Ratio_read []) (A__law_heard : At K mg "_law_heard" s__law_heard) (D_Ratio___str__ : FunOk P w K mg base CX0 1 (He.ma K (He.ga K "Ratio") "__str__") ["self"] [] (spStr (He.ga K "Ratio"))) (D_Ratio___eq__ : FunOk P w K mg base CX0 1 (He.ma K (He.ga K "Ratio") "__eq__") ["self", "other"] [] (spEqR K (He.ga K "Ratio"))) (D_Ratio___mul__ : FunOk P w K mg base (L2.CX P w) 7 (He.ma K (He.ga K "Ratio") "__mul__") ["self", "other"] [] (spMul (He.ga K "Ratio"))) (D_Ratio___rmul__ : FunOk P w K mg base (L2.CX P w) 7 (He.ma K (He.ga K "Ratio") "__rmul__") ["self", "other"] [] spNo) (O_str : PySem.W.findIn K (.ref (He.ga K "Ratio")) "__str__" = some (some (.ref (He.ma K (He.ga K "Ratio") "__str__"))) ∧ PySem.W.isFn K (.ref (He.ma K (He.ga K "Ratio") "__str__")) = true) (O_eq : PySem.W.findIn K (.ref (He.ga K "Ratio")) "__eq__" = some (some (.ref (He.ma K (He.ga K "Ratio") "__eq__"))) ∧ PySem.W.isFn K (.ref (He.ma K (He.ga K "Ratio") "__eq__")) = true) (O_ne : PySem.W.findIn K (.ref (He.ga K "Ratio")) "__ne__" = some (some (.builtin "object.__ne__")) ∧ PySem.W.subIn K (.ref (He.ga K "Ratio")) (.type "object") = some true) (OW_mul : OwnB K (He.ga K "Ratio") "mul" (He.ma K (He.ga K "Ratio") "__mul__") (He.ma K (He.ga K "Ratio") "__rmul__")) (NF : ∀ T ∈ T7, PySem.W.subIn K (.type T) (.ref (He.ga K "Ratio")) = some false) (TB_law : TabB base mg (He.cT K ("law", none)).1 (He.cT K ("law", none)).2) (G0 : mg "law" = some (.ref (He.ga K "law"))) (hm_law : ((He.cT K ("law", none)).2, ("law.<locals>.<lambda>" : Str)) ∈ TL K) (hu_law : ∀ p ∈ TL K, p.1 = (He.cT K ("law", none)).2 → p.2 = "law.<locals>.<lambda>")  (A0 : At K mg "law" s_law) : DefG P w K mg base CX0 15 "law" ["script"] [] (spLaw K) := by
  refine At.okT A0 G0 sc_law (fun _ _ F => F.bindsN fun _ _ _ _ _ _ us hl => match us, hl with | [_], _ => rfl) (fun vs H Q E h => ?_) (fun f A out s H vs Q E hG hr h => ?_)
  · obtain ⟨a, ns, rfl, _⟩ := h; rfl
  · have nd := sc_law.nd
    refine ⟨_, (pss_cons (ps_set (i := 1) nd rfl (Or.inl rfl) (pe_d D_law_pen (hr.mono (by decide)) pass0 (pa_cons (pv 0) pa_nil)))
          (pss_cons (ps_for PassesOwn.never rfl (pi_range1 (by rfl) T.f_range (pa_cons pe_int pa_nil)) (pg_name (i := 2) nd rfl (Or.inl rfl)) (pss_cons (ps_asg (pe_d D_law_pair (hr.mono (by decide)) pass0 (pa_cons (pv 1) pa_nil)) (pg_tup (by rfl) (pgs_cons (pg_name (i := 3) nd rfl (Or.inl rfl)) (pgs_cons (pg_name (i := 4) nd rfl (Or.inl rfl)) pgs_nil))))
          (pss_cons (ps_set (i := 5) nd rfl (Or.inl rfl) (pe_d D_law_written (hr.mono (by decide)) pass0 (pa_cons (pv 3) (pa_cons (pv 4) pa_nil))))
          (pss_cons (ps_if (PW.pt (pw_or (pt_cmpR op_ne (pe_callTy (call_strO D_Ratio___str__ O_str.1 O_str.2 (hr.mono (by decide)) pass0) (by rfl) T.f_str (by decide +kernel) (pa_cons (pe_mk2 (pe_mkF M_Ratio T.c_Ratio D_Ratio2 (hr.mono (by decide)) passL (taM_ok (pa_cons (pv 3) (pa_cons (pv 4) pa_nil))))) pa_nil)) (pv 5) (nomark _)) (pw_or (pt_cmpR (show OpR _ _ (rNeO K (He.ga K "Ratio") (spEqR K (He.ga K "Ratio")) E0) from op_neO D_Ratio___eq__ O_ne.1 O_ne.2 O_eq.1 O_eq.2 (hr.mono (by decide)) pass0) (pe_cmK (ks := ["text"]) (gV := id) D_Ratio_read A_read CRr CMr (fun fd F => kb_read F) (hr.mono (by decide)) passL (pe_glob (v := .ref (He.ga K "Ratio")) (by rfl) T.c_Ratio rfl) (pk_cons (pv 5) pk_nil)) (pe_mk2 (pe_mkF M_Ratio T.c_Ratio D_Ratio2 (hr.mono (by decide)) passL (taM_ok (pa_cons (pv 3) (pa_cons (pv 4) pa_nil))))) (nomark _)) (pw_or1 (pt_not (pt_val (pe_g D_law_right hG (hr.mono (by decide)) pass0 (pa_cons (pv 5) pa_nil)))))))) (pss_one (ps_ret pe_bl)) pss_nil)
          (pss_cons (ps_set (i := 6) nd rfl (Or.inl rfl) (pe_d D_law_bent (hr.mono (by decide)) pass0 (pa_cons (pv 1) (pa_cons (pv 5) pa_nil))))
          (pss_cons (ps_if (PW.pt (pw_or (pt_not (pt_val (pe_g D_law_right hG (hr.mono (by decide)) pass0 (pa_cons (pv 6) pa_nil)))) (pw_or1 (pt_not (pt_val (pe_g D_law_right hG (hr.mono (by decide)) pass0 (pa_cons (pe_d D_law_bent (hr.mono (by decide)) pass0 (pa_cons (pv 1) (pa_cons (pv 6) pa_nil))) pa_nil))))))) (pss_one (ps_ret pe_bl)) pss_nil)
          (pss_cons (ps_set (i := 7) nd rfl (Or.inr rfl) (pe_d D_law_pick (hr.mono (by decide)) pass0 (pa_cons (pv 1) (pa_cons (pe_lst (pa_cons pe_non (pa_cons pe_int (pa_cons pe_bl (pa_cons (pe_tup (pa_cons pe_str pa_nil)) (pa_cons (pe_lst (pa_cons pe_str pa_nil)) (pa_cons pe_dnewK (pa_cons (pe_mk2 (pe_mkF M_Ratio T.c_Ratio D_Ratio2 (hr.mono (by decide)) passL (taM_ok (pa_cons pe_int (pa_cons pe_int pa_nil))))) pa_nil)))))))) pa_nil))))
          (pss_one (ps_if (pt_cmpR (op_neD hr.units) (pe_heard (k := 8) (T := TL K) (x := "_law_heard") (a := "ask") A__law_heard sc__law_heard rfl (fun _ _ _ _ _ _ _ _ => rfl) (fun g cdg => hears T RF XT g cdg) TB_law rfl hm_law hu_law (hr.mono (by decide)) (show LamS (defScope s_law) _ from lamS_by (by decide +kernel)) (hbody := fun A out s H E f c' hr => (pe_cm D_Ratio_read CRr CMr (hr.mono (by decide)) (passes_call takesLam fun _ _ _ _ h => h) (pe_glob (v := .ref (He.ga K "Ratio")) (by rfl) T.c_Ratio rfl) (pa_cons (pv 7) pa_nil)))) (pe_lst (pa_cons pe_int (pa_cons pe_int pa_nil))) (nomark _)) (pss_one (ps_ret pe_bl)) pss_nil)))))))))
          (pss_cons (ps_set (i := 8) nd rfl (Or.inl rfl) (pe_lst (pa_cons pe_str (pa_cons pe_str (pa_cons pe_str (pa_cons pe_str (pa_cons pe_str (pa_cons pe_str (pa_cons pe_str (pa_cons pe_str (pa_cons pe_str (pa_cons pe_str (pa_cons pe_str (pa_cons pe_str (pa_cons pe_str (pa_cons pe_str (pa_cons pe_str (pa_cons pe_str pa_nil))))))))))))))))))
          (pss_cons (ps_if (pt_cmpR (op_neD hr.units) (pe_lc (own := [("page", 5)]) rfl nd (pi_list (pe_op op_cat (pv 8) (pe_lst (pa_cons pe_str (pa_cons pe_str pa_nil))))) (blkOk_by (N := ["script", "pen", "lap", "top", "bottom", "page", "bent", "odd", "some", "far", "wide"]) (sc := defScope s_law) (own := [("page", 5)]) (by decide +kernel)) (fun _ _ _ _ _ => (pg_name (i := 5) nd rfl (Or.inl rfl))) (fun _ _ _ _ _ => (pts_one (PW.pt (pw_or (pt_cmpR op_notN (pe_d D_law_due (hr.mono (by decide)) pass0 (pa_cons (pv 5) pa_nil)) pe_non (nomark _)) (pw_or1 (pt_not (pt_val (pe_g D_law_right hG (hr.mono (by decide)) pass0 (pa_cons (pv 5) pa_nil))))))))) (fun _ _ _ _ _ => (pv 5))) (pe_lst pa_nil) (nomark _)) (pss_one (ps_ret pe_bl)) pss_nil)
          (pss_cons (ps_set (i := 9) nd rfl (Or.inl rfl) (pe_mk1 (pe_mkF M_Ratio T.c_Ratio D_Ratio1 (hr.mono (by decide)) passL (taM_ok (pa_cons (pe_op op_sub (pe_op op_pow pe_int pe_int) pe_int) pa_nil)))))
          (pss_cut (ps_for PassesOwn.never rfl (pi_range1 (by rfl) T.f_range (pa_cons pe_int pa_nil)) (pg_name (i := 2) nd rfl (Or.inl rfl)) (pss_one (ps_set (i := 9) nd rfl (Or.inl rfl) (pe_op (show OpR _ _ (rBinO K (He.ga K "Ratio") "mul" (spMul (He.ga K "Ratio")) spNo E0) from op_binO (op := .Mult) D_Ratio___mul__ D_Ratio___rmul__ OW_mul (hr.mono (by decide)) (hr.mono (by decide)) passL) (pv 9) (pe_op op_sub (pe_op op_pow pe_int pe_int) pe_int)))))
          (pss_cons (ps_asg (pe_tup (pa_cons (pe_callTy (call_strO D_Ratio___str__ O_str.1 O_str.2 (hr.mono (by decide)) pass0) (by rfl) T.f_str (by decide +kernel) (pa_cons (pe_op (show OpR _ _ (rBinO K (He.ga K "Ratio") "mul" (spMul (He.ga K "Ratio")) spNo E0) from op_binO (op := .Mult) D_Ratio___mul__ D_Ratio___rmul__ OW_mul (hr.mono (by decide)) (hr.mono (by decide)) passL) (pv 9) (pe_op op_pow pe_int pe_int)) pa_nil)) (pa_cons (pe_callTy (call_strO D_Ratio___str__ O_str.1 O_str.2 (hr.mono (by decide)) pass0) (by rfl) T.f_str (by decide +kernel) (pa_cons (pe_op (show OpR _ _ (rBinO K (He.ga K "Ratio") "mul" (spMul (He.ga K "Ratio")) spNo E0) from op_binO (op := .Mult) D_Ratio___mul__ D_Ratio___rmul__ OW_mul (hr.mono (by decide)) (hr.mono (by decide)) passL) (pv 9) (pe_op op_pow pe_int pe_int)) pa_nil)) pa_nil))) (pg_tup (by rfl) (pgs_cons (pg_name (i := 5) nd rfl (Or.inl rfl)) (pgs_cons (pg_name (i := 10) nd rfl (Or.inr rfl)) pgs_nil))))
          (pss_cons (ps_if (PW.pt (pw_or (pt_cmpR op_ne (pe_callB call_len_str (by rfl) T.f_len (by decide +kernel) (pa_cons (pv 5) pa_nil)) pe_int (nomark _)) (pw_or (pt_cmpR op_ne (pe_callTy (call_strO D_Ratio___str__ O_str.1 O_str.2 (hr.mono (by decide)) pass0) (by rfl) T.f_str (by decide +kernel) (pa_cons (pe_cm D_Ratio_read CRr CMr (hr.mono (by decide)) passL (pe_glob (v := .ref (He.ga K "Ratio")) (by rfl) T.c_Ratio rfl) (pa_cons (pv 5) pa_nil)) pa_nil)) (pv 5) (nomark _)) (pw_or1 (pt_cmpR (op_neD hr.units) (pe_heard (k := 8) (T := TL K) (x := "_law_heard") (a := "ask") A__law_heard sc__law_heard rfl (fun _ _ _ _ _ _ _ _ => rfl) (fun g cdg => hears T RF XT g cdg) TB_law rfl hm_law hu_law (hr.mono (by decide)) (show LamS (defScope s_law) _ from lamS_by (by decide +kernel)) (hbody := fun A out s H E f c' hr => (pe_cm D_Ratio_read CRr CMr (hr.mono (by decide)) (passes_call takesLam fun _ _ _ _ h => h) (pe_glob (v := .ref (He.ga K "Ratio")) (by rfl) T.c_Ratio rfl) (pa_cons (pv 10) pa_nil)))) (pe_lst (pa_cons pe_int (pa_cons pe_int pa_nil))) (nomark _)))))) (pss_one (ps_ret pe_bl)) pss_nil)
          (pss_one (ps_ret (pe_cmpR (op_eqD hr.units) (pe_lc (own := [("page", 5)]) rfl nd (pi_list (pe_lst (pa_cons pe_str (pa_cons pe_str (pa_cons pe_str (pa_cons (pe_op op_add_str (pe_op op_rep_str pe_str pe_int) pe_str) pa_nil)))))) (blkOk_by (N := ["script", "pen", "lap", "top", "bottom", "page", "bent", "odd", "some", "far", "wide"]) (sc := defScope s_law) (own := [("page", 5)]) (by decide +kernel)) (fun _ _ _ _ _ => (pg_name (i := 5) nd rfl (Or.inl rfl))) (fun _ _ _ _ _ => (pts_one (pt_not (pt_val (pe_g D_law_right hG (hr.mono (by decide)) pass0 (pa_cons (pv 5) pa_nil)))))) (fun _ _ _ _ _ => (pv 5))) (pe_lst pa_nil) (nomark _)))))))))))), ?_⟩
    have sh2 : SeqAt.shaped (.list [.int 0, .int 0]) = true := by decide +kernel
    have sh0 : SeqAt.shaped (.list []) = true := by decide +kernel
    have POW : ∀ {i j : Int}, 0 ≤ i → True := fun _ => trivial
    obtain ⟨a, ns, rfl, hS, hn, tb, k⟩ := h
    refine ⟨_, rfl, a, ns, rfl, hS, hn, fun p c H1 _ _ P1 e1 => ?_⟩
    refine ⟨9, rfl, by decide, by decide, for_range (lo := 0) (n := 9) (fun i σ H2 => ∃ o2 o3 o4 o5 o6 o7, σ = [some (.ref a), some (.ref p), o2, o3, o4, o5, o6, o7, none, none, none] ∧ Pen H2 p c (i * 80) ∧ Tabs (TL K) H2) ⟨_, _, _, _, _, _, rfl, P1, tb.ext e1⟩ ?_ ?_⟩
    · rintro i σ H2 hi ⟨o2, o3, o4, o5, o6, o7, rfl, P2, t2⟩
      refine ⟨_, rfl, p, c, _, rfl, P2, by omega, fun q t b H3 nq qp hq hb ht hbb P3 B3 => ?_⟩
      have t3 := tabs_pen t2 P2 B3
      refine ⟨q, _, rfl, .inl (.inl hq), rfl, _, _, rfl, _, _, rfl, rfl, ?_⟩
      have n1 : (rN t b).natAbs < 10 ^ 30 := Nat.lt_of_le_of_lt (rN_le t hb) ht
      have n2 : (rD t b).natAbs < 10 ^ 30 := Nat.lt_of_le_of_lt (rD_le t hb) hbb
      have up : ∀ {i k : Nat}, i < 10 ^ 30 → 30 ≤ k → i < 10 ^ k := fun h h2 => Nat.lt_of_lt_of_le h (Nat.pow_le_pow_right (by decide) h2)
      have lg : ∀ {i : Int}, i.natAbs < 10 ^ 30 → i.natAbs.log2 < 100 := fun h => log2_lt (by decide) (Nat.lt_trans h (by decide))
      have zl := txt_len n1 n2 (r_pos t hb)
      have za := txt_asc (rN t b) (rD t b)
      have zr := read_txt (r_pos t hb) (r_cop t hb) (Nat.le_trans (num100 n1) (by decide)) (Nat.le_trans (num100 n2) (by decide))
      have hbl : b.natAbs.log2 < 8999 := by have := lg hbb; omega
      refine ⟨_, rfl, _, rfl, t, b, rfl, hb, hbl, up ht (by decide), up hbb (by decide), fun H4 e4 => ?_⟩
      have P4 := P3.ext e4
      have t4 := t3.ext e4
      refine ⟨_, rfl, _, rfl, t, b, rfl, hb, hbl, fun a1 H5 e5 y5 ⟨dx, r5⟩ => ?_⟩
      refine ⟨a1, dx, _, rfl, r5, a1, rN t b, rD t b, rfl, ⟨dx, r5⟩, up n1 (by decide), fun _ => ⟨by have := lg n1; omega, by have := lg n2; omega⟩, _, rfl, _, rfl, rfl, _, rfl, ?_⟩
      generalize txtR (rN t b) (rD t b) = z at zl za zr ⊢
      rw [show (!decide (V.str z = V.str z)) = false from by rw [decide_eq_true rfl]; rfl]
      have okz : ∀ y, V.str z = .str y → RdOk y := fun y e => by
        cases e
        exact .inl (Nat.le_trans zl (by decide))
      refine iteF ⟨rfl, _, rfl, rfl, .str z, rfl, .str z, okz, fun pr hp => ?_, fun hn => ?_⟩
      case refine_2 =>
        rw [show readV (.str z) = readP z from rfl, zr] at hn
        cases hn
      rw [show readV (.str z) = readP z from rfl, zr] at hp
      cases hp
      refine fun b2 H6 e6 y6 r6 => ⟨_, rfl, _, rfl, t, b, rfl, hb, hbl, fun a3 H7 e7 y7 r7 => ?_⟩
      refine neR_of RF (Gs.Rat.ext r6 e7) r7 ⟨_, rfl, ?_⟩
      rw [show (!(decide (rN t b = rN t b) && decide (rD t b = rD t b))) = false from by rw [decide_eq_true rfl, decide_eq_true rfl]; rfl]
      have e47 := e5.trans (e6.trans e7)
      have P7 := P4.ext e47
      have t7 := t4.ext e47
      refine iteF ⟨_, rfl, z, rfl, Nat.le_trans zl (by decide), za, t7, fun H8 n8 t8 => ⟨true, rfl, iteF ?_⟩⟩
      have P8 := P7.extN n8
      refine ⟨_, rfl, _, rfl, p, c, _, z, rfl, P8, by omega, by omega, za, fun y H9 ly ay P9 B9 => ?_⟩
      have t9 := tabs_pen t8 P8 B9
      refine ⟨_, rfl, y, rfl, by omega, ay, t9, fun H10 n10 t10 => ⟨true, rfl, iteF ?_⟩⟩
      have P10 := P9.extN n10
      refine ⟨_, rfl, _, rfl, p, c, _, y, rfl, P10, by omega, by omega, ay, fun y2 H11 ly2 ay2 P11 B11 => ?_⟩
      have t11 := tabs_pen t10 P10 B11
      refine ⟨y2, rfl, by omega, ay2, t11, fun H12 n12 t12 => ⟨true, rfl, iteF ?_⟩⟩
      have P12 := P11.extN n12
      refine ⟨_, rfl, by show 1 ≤ sizeLine; decide, fun q1 w1 => ⟨by show 1 ≤ sizeLine; decide, fun l1 v1 => fun d1 u1 => ⟨1, 2, rfl, by decide, by decide, fun a4 H13 e13 y13 r13 => ⟨by show 7 ≤ sizeLine; decide, fun l2 v2 => ?_⟩⟩⟩⟩
      have x1 := ext_new (o := .tup [.str "1/2"]) w1
      have x2 := ext_new (o := .lst [.str "1"]) v1
      have x3 := ext_new (o := .dK []) u1
      have Pa := P12.ext x1
      have Pb := Pa.ext x2
      have Pc := Pb.ext x3
      have Pd := Pc.ext e13
      have h1 := (x2.trans (x3.trans e13)) _ _ (upd_same (H := H12) (a := q1) (o := .tup [.str "1/2"]))
      have h2 := (x3.trans e13) _ _ (upd_same (a := l1) (o := .lst [.str "1"]))
      have h3 := e13 _ _ (upd_same (a := d1) (o := .dK []))
      have t13 := t12.ext (((x1.trans x2).trans x3).trans e13)
      have x5 := ext_new (o := .lst [.non, .int 0, .bl true, .ref q1, .ref l1, .ref d1, .ref a4]) v2
      have g1 := P12.np w1
      have g2 := Pa.np v1
      have g3 := Pb.np u1
      have g4 := Pc.np y13
      refine ⟨p, c, l2, _, _, rfl, Pd.new v2, by omega, SqL.of upd_same, Pd.np v2, by simp, by show 7 < 1000000; decide, fun j x H15 hx P15 B15 => ?_⟩
      have t15 := tabs_pen (t13.ext x5) (Pd.new v2) B15
      have av : (∀ z, x ≠ .str z) ∧ AnyV K (He.ga K "Ratio") H15 x := by
        have hm := List.mem_of_getElem? hx
        simp only [List.mem_cons, List.not_mem_nil, or_false] at hm
        rcases hm with rfl | rfl | rfl | rfl | rfl | rfl | rfl
        · exact ⟨fun z e => (by cases e), .non⟩
        · exact ⟨fun z e => (by cases e), .int 0⟩
        · exact ⟨fun z e => (by cases e), .bl true⟩
        · exact ⟨fun z e => (by cases e), .tup (B15 _ _ (x5 _ _ h1) g1)⟩
        · exact ⟨fun z e => (by cases e), .lst (B15 _ _ (x5 _ _ h2) g2)⟩
        · exact ⟨fun z e => (by cases e), .dK (B15 _ _ (x5 _ _ h3) g3)⟩
        · obtain ⟨dy, ry⟩ := r13
          exact ⟨fun z e => (by cases e), .rat ⟨dy, B15 _ _ (x5 _ _ ry) g4⟩⟩
      refine ⟨t15, fun H16 n16 t16 H17 e17 => ⟨rfl, _, rfl, x, rfl, (av.2.extN n16).ext e17, fun y e => absurd e (av.1 y), fun pr hp => ?_, fun _ d H18 e18 hd => ⟨rfl, d, .int 0, .int 0, rfl, hd, fun q2 H19 e19 hq2 => ?_⟩⟩⟩
      · rw [readV_none av.1] at hp
        cases hp
      refine ⟨by show 2 ≤ sizeLine; decide, fun l3 v3 => ?_⟩
      have x19 := ext_new (o := .lst [.int 0, .int 0]) v3
      refine ⟨_, _, .lst (SqL.of (x19 _ _ hq2)) (.cons (.int _) (.cons (.int _) .nil)), .lst (SqL.of upd_same) (.cons (.int _) (.cons (.int _) .nil)), sh2, sh2, ?_⟩
      rw [SeqAt.eqv_refl _ (SeqAt.canLay_of_shaped sh2)]
      have ee := e17.trans (e18.trans (e19.trans x19))
      exact ⟨_, rfl, iteF ⟨_, _, _, _, _, _, rfl, ((P15.extN n16).ext ee).mono (by omega), t16.ext ee⟩⟩
    rintro σ H2 ⟨o2, o3, o4, o5, o6, o7, rfl, P2, t2⟩
    clear P2 P1
    refine ⟨by show 16 ≤ sizeLine; decide, fun s1 w1 => ?_⟩
    have x1 := ext_new (o := .lst ((["", "/", "1/", "/2", "2/4", "1/1", "0/1", "0/5", "-0", "1/-2", "--1", "+1", "1/02", "01", " 1", "1 "] : List Str).map V.str)) w1
    refine ⟨_, rfl, by show 2 ≤ sizeLine; decide, fun s2 w2 => ?_⟩
    have x2 := ext_new (o := .lst [.str "1/0", .str "1/2/3"]) w2
    refine ⟨s1, s2, _, _, rfl, rfl, x2 _ _ upd_same, upd_same, by show 16 + 2 ≤ sizeLine; decide, fun s3 w3 => ?_⟩
    have x3 := ext_new (o := .lst (SOME.map V.str)) w3
    have tc := ((t2.ext x1).ext x2).ext x3
    refine ⟨s3, rfl, ⟨_, SqL.of upd_same⟩, fun D hD => lc_list (K := K) (xs := SOME.map V.str) (fun j H => H s3 = some (.lst (SOME.map V.str)) ∧ Tabs (TL K) H ∧ H D = some (.lst [])) ⟨(upd_ne (ne_of_none upd_same hD)).trans upd_same, tc.ext (ext_new hD), upd_same⟩ (fun j H _ h => SqL.of h.1) ?_ ?_⟩
    · rintro j x H hj ⟨g1, g2, g3⟩
      obtain ⟨z, hz, rfl⟩ := List.mem_map.mp (List.mem_of_getElem? hj)
      have az := asc_some z hz
      refine ⟨wipe_one _ _ _, _, rfl, z, rfl, az.1, az.2, fun _ H' e' => ?_, fun pr hp => ?_⟩
      case refine_2 =>
        rw [due_some z hz] at hp
        cases hp
      exact ⟨rfl, _, rfl, iteF ⟨_, rfl, z, rfl, az.1, az.2, g2.ext e', fun H'' n'' t'' => ⟨true, rfl, iteF ⟨ExtN.lst n'' (e' _ _ g1), t'', ExtN.lst n'' (e' _ _ g3)⟩⟩⟩⟩
    rintro H3 ⟨_, t3, g3⟩
    refine ⟨by show 0 ≤ sizeLine; decide, fun u wu => ?_⟩
    have xu := ext_new (o := .lst []) wu
    refine ⟨_, _, .lst (SqL.of (xu _ _ g3)) .nil, .lst (SqL.of upd_same) .nil, sh0, sh0, ?_⟩
    rw [SeqAt.eqv_refl _ (SeqAt.canLay_of_shaped sh0)]
    refine ⟨_, rfl, iteF ?_⟩
    have e0 : (10 ^ (30 : Int).toNat - 1 : Int) = far 0 := by
      unfold far
      decide +kernel
    refine ⟨_, _, rfl, rfl, ⟨by decide, by decide, by decide⟩, _, _, rfl, rfl, _, rfl, ?_⟩
    rw [e0]
    intro a9 H4 e4 y4 r4
    have t4 := (t3.ext xu).ext e4
    refine ⟨fun σ H => ∃ o2 a9, σ = [some (.ref a), some (.ref p), o2, o3, o4, o5, o6, o7, some (.ref s1), some (.ref a9), none] ∧ Gs.Rat (He.ga K "Ratio") H a9 (far 132) 1 ∧ Tabs (TL K) H, ⟨132, rfl, by decide, by decide, for_range (lo := 0) (n := 132) (fun i σ H => ∃ o2 a9, σ = [some (.ref a), some (.ref p), o2, o3, o4, o5, o6, o7, some (.ref s1), some (.ref a9), none] ∧ Gs.Rat (He.ga K "Ratio") H a9 (far i) 1 ∧ Tabs (TL K) H) ⟨_, _, rfl, r4, t4⟩ ?_ fun σ H h => h⟩, ?_⟩
    · rintro i σ H hi ⟨o2, a9, rfl, r9, t9⟩
      refine ⟨_, rfl, _, _, rfl, rfl, ⟨by decide, by decide, by decide⟩, _, _, rfl, rfl, ?_⟩
      refine mul_go r9 (Nat.lt_of_lt_of_le (far_lt (k := i) (by omega)) (Nat.pow_le_pow_right (by decide) (by decide))) (by decide +kernel) fun b H' e' y' r' => ?_
      rw [show far i * (10 ^ (30 : Int).toNat - 1) = far (i + 1) from far_step i] at r'
      exact ⟨_, b, rfl, r', t9.ext e'⟩
    rintro σ H ⟨o2, a9, rfl, r9, t9⟩
    have big : ∀ {k m : Nat}, m ≤ 11 → k = m → (far 132 * 10 ^ k).natAbs < 10 ^ 4300 := fun {k m} hm e => by
      subst e
      have l := far_lt (k := 132) (by decide)
      rw [Int.natAbs_mul, Int.natAbs_pow]
      refine Nat.lt_of_lt_of_le (Nat.mul_lt_mul_of_lt_of_le l (Nat.pow_le_pow_right (by decide) hm) (Nat.pow_pos (by decide))) (by decide +kernel)
    have f14 : (far 132).natAbs < 2 ^ 14000 := Nat.lt_of_lt_of_le (far_lt (k := 132) (by decide)) (Nat.pow_le_pow_right (by decide) (by decide))
    refine ⟨_, rfl, _, _, rfl, rfl, ⟨by decide, by decide, by decide⟩, mul_go r9 f14 (by decide +kernel) fun b1 H5 e5 y5 ⟨dx1, r5⟩ => ⟨b1, dx1, _, rfl, r5, b1, _, 1, rfl, ⟨dx1, r5⟩, big (m := 10) (by decide) rfl, fun z => absurd rfl z, _, rfl, _, rfl, _, _, rfl, rfl, ⟨by decide, by decide, by decide⟩, mul_go (Gs.Rat.ext r9 e5) f14 (by decide +kernel) fun b2 H6 e6 y6 ⟨dx2, r6⟩ => ⟨b2, dx2, _, rfl, r6, b2, _, 1, rfl, ⟨dx2, r6⟩, big (m := 11) (by decide) rfl, fun z => absurd rfl z, _, rfl, ?_⟩⟩⟩
    have tx : ∀ n, txtR n 1 = Str.ofString (toString n) := fun n => if_pos rfl
    rw [tx, tx]
    refine ⟨by show 2 ≤ sizeLine; decide, fun q hq => ⟨q, _, rfl, .inl (.inl upd_same), rfl, _, _, rfl, _, _, rfl, rfl, ?_⟩⟩
    have t6 := ((t9.ext e5).ext e6).ext (ext_new (o := .tup [.str (Str.ofString (toString (far 132 * 10 ^ (10 : Int).toNat))), .str (Str.ofString (toString (far 132 * 10 ^ (11 : Int).toNat)))]) hq)
    generalize upd H6 q _ = H7 at t6 ⊢
    have l1 : (Str.ofString (toString (far 132 * 10 ^ (10 : Int).toNat))).length = 4000 := page_str
    have l2 : (Str.ofString (toString (far 132 * 10 ^ (11 : Int).toNat))).length = 4001 := wide_str
    have d1 : readP (Str.ofString (toString (far 132 * 10 ^ (10 : Int).toNat))) = some (far 132 * 10 ^ (10 : Int).toNat, 1) := page_read
    have d2 : readP (Str.ofString (toString (far 132 * 10 ^ (11 : Int).toNat))) = none := wide_read
    have o1 := rdOk_int (far 132 * 10 ^ (10 : Int).toNat) (by rw [l1]; decide)
    have o2 := rdOk_int (far 132 * 10 ^ (11 : Int).toNat) (by rw [l2]; decide)
    have b1' := big (k := (10 : Int).toNat) (m := 10) (by decide) rfl
    generalize far 132 * 10 ^ (10 : Int).toNat = N1 at l1 d1 o1 b1' ⊢
    generalize far 132 * 10 ^ (11 : Int).toNat = N2 at l2 d2 o2 ⊢
    refine ⟨_, rfl, _, rfl, by rw [l1]; decide, rfl, _, rfl, ?_⟩
    rw [l1, show (!decide (V.int ((4000 : Nat) : Int) = V.int 4000)) = false from by rw [decide_eq_true (show V.int ((4000 : Nat) : Int) = V.int 4000 from rfl)]; rfl]
    refine iteF ⟨rfl, _, rfl, .str (Str.ofString (toString N1)), rfl, .str _, o1, fun pr hp => ?_, fun hn => ?_⟩
    case refine_2 =>
      rw [show readV (.str (Str.ofString (toString N1))) = readP (Str.ofString (toString N1)) from rfl, d1] at hn
      cases hn
    rw [show readV (.str (Str.ofString (toString N1))) = readP (Str.ofString (toString N1)) from rfl, d1] at hp
    cases hp
    refine fun b3 H8 e8 y8 ⟨dx3, r8⟩ => ⟨b3, dx3, _, rfl, r8, b3, _, 1, rfl, ⟨dx3, r8⟩, b1', fun z => absurd rfl z, _, rfl, _, rfl, rfl, _, rfl, ?_⟩
    rw [tx]
    rw [show (!decide (V.str (Str.ofString (toString N1)) = V.str (Str.ofString (toString N1)))) = false from by rw [decide_eq_true rfl]; rfl]
    refine iteF ⟨t6.ext e8, fun H9 n9 t9 H10 e10 => ⟨rfl, _, rfl, .str (Str.ofString (toString N2)), rfl, .str _, o2, fun pr hp => ?_, fun _ d H11 e11 hd => ⟨rfl, d, .int 0, .int 0, rfl, hd, fun q2 H12 e12 hq2 => ?_⟩⟩⟩
    · rw [show readV (.str (Str.ofString (toString N2))) = readP (Str.ofString (toString N2)) from rfl, d2] at hp
      cases hp
    refine ⟨by show 2 ≤ sizeLine; decide, fun l3 v3 => ?_⟩
    have x12 := ext_new (o := .lst [.int 0, .int 0]) v3
    refine ⟨_, _, .lst (SqL.of (x12 _ _ hq2)) (.cons (.int _) (.cons (.int _) .nil)), .lst (SqL.of upd_same) (.cons (.int _) (.cons (.int _) .nil)), sh2, sh2, ?_⟩
    rw [SeqAt.eqv_refl _ (SeqAt.canLay_of_shaped sh2)]
    have t12 := t9.ext (e10.trans (e11.trans (e12.trans x12)))
    refine ⟨_, rfl, iteF ?_⟩
    refine ⟨_, _, rfl, rfl, by decide, by decide +kernel, by decide +kernel, _, _, rfl, rfl, by decide +kernel, by show 4 ≤ sizeLine; decide, fun s5 w5 => ?_⟩
    have x5 := ext_new (o := .lst (LASTP.map V.str)) w5
    refine ⟨s5, rfl, ⟨_, SqL.of upd_same⟩, fun D hD => lc_list (K := K) (xs := LASTP.map V.str) (fun j H => H s5 = some (.lst (LASTP.map V.str)) ∧ Tabs (TL K) H ∧ H D = some (.lst [])) ⟨(upd_ne (ne_of_none upd_same hD)).trans upd_same, (t12.ext x5).ext (ext_new hD), upd_same⟩ (fun j H _ h => SqL.of h.1) ?_ ?_⟩
    · rintro j x H hj ⟨g1, g2, g3⟩
      obtain ⟨z, hz, rfl⟩ := List.mem_map.mp (List.mem_of_getElem? hj)
      have az := asc_last z hz
      exact ⟨wipe_one _ _ _, _, rfl, z, rfl, az.1, az.2, g2, fun H'' n'' t'' => ⟨true, rfl, iteF ⟨ExtN.lst n'' g1, t'', ExtN.lst n'' g3⟩⟩⟩
    rintro H13 ⟨_, _, g3⟩
    refine ⟨by show 0 ≤ sizeLine; decide, fun u wu => ?_⟩
    have xu := ext_new (o := .lst []) wu
    refine ⟨_, _, .lst (SqL.of (xu _ _ g3)) .nil, .lst (SqL.of upd_same) .nil, sh0, sh0, ?_⟩
    rw [SeqAt.eqv_refl _ (SeqAt.canLay_of_shaped sh0)]
    exact k _
end
end K07

set_option maxRecDepth 100000
set_option maxHeartbeats 4000000
namespace K07
open PySem PySem.Spec PyProof.Rows Gs
open L2 hiding Ext paired_get
open C8 (tCut pss_cut)
open LamX
theorem law_in {K : PySem.W.Frag} {H : Hp} {a : Addr} {ns : List Int} (hl : ns.length ≤ 63) (hT : ∀ p ∈ tf.map (He.cT K), H p.2 = some (.tbl #[])) (hS : SqL K H a (ns.map V.int)) : spLaw K [.ref a] H (fun v _ => v = .bl true) fun _ _ _ => False :=
  ⟨a, ns, rfl, hS, hl, fun p hp => by
    unfold TL at hp
    simp only [List.mem_cons, List.not_mem_nil, or_false] at hp
    rcases hp with rfl | rfl
    · exact TabS.nil (hT _ (List.mem_map.mpr ⟨("_law_right", none), List.mem_of_getElem? (l := tf) (i := 0) rfl, rfl⟩))
    · exact TabS.nil (hT _ (List.mem_map.mpr ⟨("law", none), List.mem_of_getElem? (l := tf) (i := 1) rfl, rfl⟩)), fun _ => rfl⟩
theorem facts {P : Program} {w : World} {K : PySem.W.Frag} {h : Heap} {mg : Str → Option Value} {f : Addr} (X : K.In h) (G : h.Ns mainGlobals mg) (hfa : mg ("law" : Str) = some (.ref f)) (topS : (P.main.scope.names.lookup ("super" : Str)).isSome = false) (hfile : P.main.file = file) (c : SaysS file fa fn xs tf ex h K) :
    ∃ fd : FuncData, (∀ (s : Shared) (v : Value), BindsTo s fd ⟨[v], []⟩ [("script", v)]) ∧ ∀ base : Heap, K.In base → base.Ns mainGlobals mg → NoDig base → (∀ p ∈ tf.map (He.cT K), TabB base mg p.1 p.2) → FnG P w K mg base CX0 15 f fd ["script"] (spLaw K) := by
  obtain ⟨fd0, F0⟩ := c.d.def_ 0 (d := ⟨fun K => He.ga K "is_integer", "is_integer", "is_integer", defArgs (top 2), defBody (top 2), defScope (top 2), [], []⟩) rfl
  have G_is_integer := He.glo_ok X G (c.d.fact 11 (f := .glo "is_integer") rfl)
  have A_is_integer : At K mg "is_integer" s_is_integer := ⟨_, fd0, F0, G_is_integer⟩
  obtain ⟨fd1, F1⟩ := c.d.def_ 1 (d := ⟨fun K => He.ga K "is_figures", "is_figures", "is_figures", defArgs (top 9), defBody (top 9), defScope (top 9), [], []⟩) rfl
  have G_is_figures := He.glo_ok X G (c.d.fact 12 (f := .glo "is_figures") rfl)
  have A_is_figures : At K mg "is_figures" s_is_figures := ⟨_, fd1, F1, G_is_figures⟩
  obtain ⟨fd2, F2⟩ := c.d.def_ 2 (d := ⟨fun K => He.ga K "divisor_of", "divisor_of", "divisor_of", defArgs (top 11), defBody (top 11), defScope (top 11), [], []⟩) rfl
  have G_divisor_of := He.glo_ok X G (c.d.fact 13 (f := .glo "divisor_of") rfl)
  have A_divisor_of : At K mg "divisor_of" s_divisor_of := ⟨_, fd2, F2, G_divisor_of⟩
  obtain ⟨fd3, F3⟩ := c.d.def_ 3 (d := ⟨fun K => He.ma K (He.ga K "Ratio") "__init__", "__init__", "Ratio.__init__", defArgs (inClass (top 12) 0), defBody (inClass (top 12) 0), defScope (inClass (top 12) 0), [.int 1], []⟩) rfl
  have A_Ratio___init__ : AtF K (He.ma K (He.ga K "Ratio") "__init__") "__init__" "Ratio.__init__" s_Ratio___init__ [.int 1] := ⟨fd3, F3⟩
  obtain ⟨fd4, F4⟩ := c.d.def_ 4 (d := ⟨fun K => He5.wf K (He.ga K "Ratio") "classmethod" "read", "read", "Ratio.read", defArgs (inClass (top 12) 1), defBody (inClass (top 12) 1), defScope (inClass (top 12) 1), [], []⟩) rfl
  have A_Ratio_read : AtF K (He5.wf K (He.ga K "Ratio") "classmethod" "read") "read" "Ratio.read" s_Ratio_read [] := ⟨fd4, F4⟩
  obtain ⟨fd5, F5⟩ := c.d.def_ 5 (d := ⟨fun K => He.ma K (He.ga K "Ratio") "__mul__", "__mul__", "Ratio.__mul__", defArgs (inClass (top 12) 12), defBody (inClass (top 12) 12), defScope (inClass (top 12) 12), [], []⟩) rfl
  have A_Ratio___mul__ : AtF K (He.ma K (He.ga K "Ratio") "__mul__") "__mul__" "Ratio.__mul__" s_Ratio___mul__ [] := ⟨fd5, F5⟩
  obtain ⟨fd6, F6⟩ := c.d.def_ 6 (d := ⟨fun K => He.ma K (He.ga K "Ratio") "__rmul__", "__rmul__", "Ratio.__rmul__", defArgs (inClass (top 12) 13), defBody (inClass (top 12) 13), defScope (inClass (top 12) 13), [], []⟩) rfl
  have A_Ratio___rmul__ : AtF K (He.ma K (He.ga K "Ratio") "__rmul__") "__rmul__" "Ratio.__rmul__" s_Ratio___rmul__ [] := ⟨fd6, F6⟩
  obtain ⟨fd7, F7⟩ := c.d.def_ 7 (d := ⟨fun K => He.ma K (He.ga K "Ratio") "__eq__", "__eq__", "Ratio.__eq__", defArgs (inClass (top 12) 25), defBody (inClass (top 12) 25), defScope (inClass (top 12) 25), [], []⟩) rfl
  have A_Ratio___eq__ : AtF K (He.ma K (He.ga K "Ratio") "__eq__") "__eq__" "Ratio.__eq__" s_Ratio___eq__ [] := ⟨fd7, F7⟩
  obtain ⟨fd8, F8⟩ := c.d.def_ 8 (d := ⟨fun K => He.ma K (He.ga K "Ratio") "__str__", "__str__", "Ratio.__str__", defArgs (inClass (top 12) 26), defBody (inClass (top 12) 26), defScope (inClass (top 12) 26), [], []⟩) rfl
  have A_Ratio___str__ : AtF K (He.ma K (He.ga K "Ratio") "__str__") "__str__" "Ratio.__str__" s_Ratio___str__ [] := ⟨fd8, F8⟩
  obtain ⟨fd9, F9⟩ := c.d.def_ 9 (d := ⟨fun K => He.ga K "told_of", "told_of", "told_of", defArgs (top 13), defBody (top 13), defScope (top 13), [], []⟩) rfl
  have G_told_of := He.glo_ok X G (c.d.fact 14 (f := .glo "told_of") rfl)
  have A_told_of : At K mg "told_of" s_told_of := ⟨_, fd9, F9, G_told_of⟩
  obtain ⟨fd10, F10⟩ := c.d.def_ 10 (d := ⟨fun K => He.ga K "_law_pen", "_law_pen", "_law_pen", defArgs (top 18), defBody (top 18), defScope (top 18), [], []⟩) rfl
  have G__law_pen := He.glo_ok X G (c.d.fact 15 (f := .glo "_law_pen") rfl)
  have A__law_pen : At K mg "_law_pen" s__law_pen := ⟨_, fd10, F10, G__law_pen⟩
  obtain ⟨fd11, F11⟩ := c.d.def_ 11 (d := ⟨fun K => He.ga K "_law_draw", "_law_draw", "_law_draw", defArgs (top 19), defBody (top 19), defScope (top 19), [], []⟩) rfl
  have G__law_draw := He.glo_ok X G (c.d.fact 16 (f := .glo "_law_draw") rfl)
  have A__law_draw : At K mg "_law_draw" s__law_draw := ⟨_, fd11, F11, G__law_draw⟩
  obtain ⟨fd12, F12⟩ := c.d.def_ 12 (d := ⟨fun K => He.ga K "_law_pick", "_law_pick", "_law_pick", defArgs (top 20), defBody (top 20), defScope (top 20), [], []⟩) rfl
  have G__law_pick := He.glo_ok X G (c.d.fact 17 (f := .glo "_law_pick") rfl)
  have A__law_pick : At K mg "_law_pick" s__law_pick := ⟨_, fd12, F12, G__law_pick⟩
  obtain ⟨fd13, F13⟩ := c.d.def_ 13 (d := ⟨fun K => He.ga K "_law_shared", "_law_shared", "_law_shared", defArgs (top 21), defBody (top 21), defScope (top 21), [], []⟩) rfl
  have G__law_shared := He.glo_ok X G (c.d.fact 18 (f := .glo "_law_shared") rfl)
  have A__law_shared : At K mg "_law_shared" s__law_shared := ⟨_, fd13, F13, G__law_shared⟩
  obtain ⟨fd14, F14⟩ := c.d.def_ 14 (d := ⟨fun K => He.ga K "_law_least", "_law_least", "_law_least", defArgs (top 22), defBody (top 22), defScope (top 22), [], []⟩) rfl
  have G__law_least := He.glo_ok X G (c.d.fact 19 (f := .glo "_law_least") rfl)
  have A__law_least : At K mg "_law_least" s__law_least := ⟨_, fd14, F14, G__law_least⟩
  obtain ⟨fd15, F15⟩ := c.d.def_ 15 (d := ⟨fun K => He.ga K "_law_pair", "_law_pair", "_law_pair", defArgs (top 23), defBody (top 23), defScope (top 23), [], []⟩) rfl
  have G__law_pair := He.glo_ok X G (c.d.fact 20 (f := .glo "_law_pair") rfl)
  have A__law_pair : At K mg "_law_pair" s__law_pair := ⟨_, fd15, F15, G__law_pair⟩
  obtain ⟨fd16, F16⟩ := c.d.def_ 16 (d := ⟨fun K => He.ga K "_law_written", "_law_written", "_law_written", defArgs (top 24), defBody (top 24), defScope (top 24), [], []⟩) rfl
  have G__law_written := He.glo_ok X G (c.d.fact 21 (f := .glo "_law_written") rfl)
  have A__law_written : At K mg "_law_written" s__law_written := ⟨_, fd16, F16, G__law_written⟩
  obtain ⟨fd17, F17⟩ := c.d.def_ 17 (d := ⟨fun K => He.ga K "_law_figures", "_law_figures", "_law_figures", defArgs (top 25), defBody (top 25), defScope (top 25), [], []⟩) rfl
  have G__law_figures := He.glo_ok X G (c.d.fact 22 (f := .glo "_law_figures") rfl)
  have A__law_figures : At K mg "_law_figures" s__law_figures := ⟨_, fd17, F17, G__law_figures⟩
  obtain ⟨fd18, F18⟩ := c.d.def_ 18 (d := ⟨fun K => He.ga K "_law_due", "_law_due", "_law_due", defArgs (top 26), defBody (top 26), defScope (top 26), [], []⟩) rfl
  have G__law_due := He.glo_ok X G (c.d.fact 23 (f := .glo "_law_due") rfl)
  have A__law_due : At K mg "_law_due" s__law_due := ⟨_, fd18, F18, G__law_due⟩
  obtain ⟨fd19, F19⟩ := c.d.def_ 19 (d := ⟨fun K => He.ga K "_law_bent", "_law_bent", "_law_bent", defArgs (top 27), defBody (top 27), defScope (top 27), [], []⟩) rfl
  have G__law_bent := He.glo_ok X G (c.d.fact 24 (f := .glo "_law_bent") rfl)
  have A__law_bent : At K mg "_law_bent" s__law_bent := ⟨_, fd19, F19, G__law_bent⟩
  obtain ⟨fd20, F20⟩ := c.d.def_ 20 (d := ⟨fun K => He.ga K "_law_heard", "_law_heard", "_law_heard", defArgs (top 28), defBody (top 28), defScope (top 28), [], []⟩) rfl
  have G__law_heard := He.glo_ok X G (c.d.fact 25 (f := .glo "_law_heard") rfl)
  have A__law_heard : At K mg "_law_heard" s__law_heard := ⟨_, fd20, F20, G__law_heard⟩
  obtain ⟨fd21, F21⟩ := c.d.def_ 21 (d := ⟨fun K => He.ga K "_law_right", "_law_right", "_law_right", defArgs (top 29), defBody (top 29), defScope (top 29), [], []⟩) rfl
  have G__law_right := He.glo_ok X G (c.d.fact 26 (f := .glo "_law_right") rfl)
  have A__law_right : At K mg "_law_right" s__law_right := ⟨_, fd21, F21, G__law_right⟩
  obtain ⟨fd22, F22⟩ := c.d.def_ 22 (d := ⟨fun K => He.ga K "law", "law", "law", defArgs (top 30), defBody (top 30), defScope (top 30), [], []⟩) rfl
  have G_law := He.glo_ok X G (c.d.fact 27 (f := .glo "law") rfl)
  have A_law : At K mg "law" s_law := ⟨_, fd22, F22, G_law⟩
  have T : Txt K mg := ⟨He.free_ok X G (c.d.fact 0 (f := .free "isinstance") rfl), He.free_ok X G (c.d.fact 1 (f := .free "int") rfl), He.free_ok X G (c.d.fact 2 (f := .free "bool") rfl), He.free_ok X G (c.d.fact 3 (f := .free "len") rfl), He.free_ok X G (c.d.fact 4 (f := .free "abs") rfl), He.free_ok X G (c.d.fact 5 (f := .free "list") rfl), He.free_ok X G (c.d.fact 6 (f := .free "range") rfl), He.free_ok X G (c.d.fact 7 (f := .free "all") rfl), He.free_ok X G (c.d.fact 8 (f := .free "str") rfl), He.free_ok X G (c.d.fact 9 (f := .free "super") rfl), He.int_ok X G (c.d.fact 10 (f := .int "MOST_FIGURES" 4000) rfl), He.glo_ok X G (c.d.fact 28 (f := .glo "GapError") rfl), He.glo_ok X G (c.d.fact 29 (f := .glo "BadRatio") rfl), He.glo_ok X G (c.d.fact 30 (f := .glo "BadText") rfl), He.glo_ok X G (c.d.fact 31 (f := .glo "Ratio") rfl)⟩
  have hx := c.more
  obtain ⟨x1, hx⟩ := He.ba hx
  obtain ⟨x2, hx⟩ := He.ba hx
  obtain ⟨x3, hx⟩ := He.ba hx
  obtain ⟨x4, hx⟩ := He.ba hx
  obtain ⟨x5, hx⟩ := He.ba hx
  obtain ⟨x6, hx⟩ := He.ba hx
  obtain ⟨x7, hx⟩ := He.ba hx
  obtain ⟨x8, hx⟩ := He.ba hx
  obtain ⟨x9, hx⟩ := He.ba hx
  obtain ⟨x10, hx⟩ := He.ba hx
  obtain ⟨x11, hx⟩ := He.ba hx
  obtain ⟨x12, hx⟩ := He.ba hx
  obtain ⟨x13, hx⟩ := He.ba hx
  obtain ⟨x14, hx⟩ := He.ba hx
  obtain ⟨x15, hx⟩ := He.ba hx
  obtain ⟨x16, x17⟩ := He.ba hx
  have RF := ratB_ok x1
  have M_Ratio := He.mkr_ok x2
  have xbB := c.xb _ (List.mem_of_getElem? (l := xs) (i := 1) rfl)
  have xbR := c.xb _ (List.mem_of_getElem? (l := xs) (i := 0) rfl)
  have XT : ExT K := ⟨xhB_ok (He.ba (He.ba xbB).2).1, of_decide_eq_true x3, of_decide_eq_true x4, of_decide_eq_true x5, of_decide_eq_true x6⟩
  have ne : (He.cT K ("_law_right", none)).2 ≠ (He.cT K ("law", none)).2 := of_decide_eq_true x7
  have O_str := mthB_ok (List.all_eq_true.mp x8 "__str__" (by decide))
  have O_eq := mthB_ok (List.all_eq_true.mp x8 "__eq__" (by decide))
  have NF : ∀ T ∈ T7, PySem.W.subIn K (.type T) (.ref (He.ga K "Ratio")) = some false := fun T hT => of_decide_eq_true (He.ba (List.all_eq_true.mp x9 T hT)).2
  have O_ne := And.intro (of_decide_eq_true x10) (of_decide_eq_true x11)
  have OW_mul := ownBB_ok x12 declines_mul
  have CRr : ClX.CRead K (He.ga K "Ratio") (.type "type") := ⟨x13, of_decide_eq_true x14⟩
  have CMr := He5.cmet_of x15 x16
  have DXt : ∀ base : Heap, ExcD P w K mg base "BadText" ["line", "word"] ["line", "word"] := fun base =>
    exc_two (xc_at (st := s_BadText___init__) X G topS (c.xo _ (List.mem_of_getElem? (l := xs) (i := 1) rfl)) (by rw [hfile]; exact xbB) rfl rfl rfl) rfl
      ⟨rfl, rfl, rfl, by decide +kernel, rfl, by decide +kernel, by decide +kernel, by decide +kernel, rfl, rfl⟩ rfl rfl (fun _ _ _ _ => ⟨_, rfl⟩) (fun C hC => by
        rw [T.c_BadText] at hC
        cases hC
        exact XT.n1) (fun C hC => by
        rw [T.c_BadText] at hC
        cases hC
        exact XT.n2) (fun kV doc pm an cdv ct cc us hl => match us, hl with | [_, _, _], _ => rfl) rfl rfl rfl rfl
  have DXx : ∀ base : Heap, ExcD P w K mg base "BadRatio" ["value"] ["value"] := fun base =>
    exc_one (xc_at (st := s_BadRatio___init__) X G topS (c.xo _ (List.mem_of_getElem? (l := xs) (i := 0) rfl)) (by rw [hfile]; exact xbR) rfl rfl rfl) rfl
      ⟨rfl, rfl, rfl, by decide +kernel, rfl, by decide +kernel, by decide +kernel, by decide +kernel, rfl, rfl⟩ rfl rfl (fun _ _ _ _ => ⟨_, rfl⟩) (fun C hC => by
        rw [T.c_BadRatio] at hC
        cases hC
        exact of_decide_eq_true x17) (fun kV doc pm an cdv ct cc us hl => match us, hl with | [_, _], _ => rfl) rfl rfl
  have hm__law_right : ((He.cT K ("_law_right", none)).2, ("_law_right.<locals>.<lambda>" : Str)) ∈ TL K := List.mem_cons_self
  have hm_law : ((He.cT K ("law", none)).2, ("law.<locals>.<lambda>" : Str)) ∈ TL K := List.mem_cons_of_mem _ List.mem_cons_self
  have hu__law_right : ∀ p ∈ TL K, p.1 = (He.cT K ("_law_right", none)).2 → p.2 = "_law_right.<locals>.<lambda>" := fun p hp e => by
    unfold TL at hp
    simp only [List.mem_cons, List.not_mem_nil, or_false] at hp
    rcases hp with rfl | rfl
    · rfl
    · exact absurd e.symm ne
  have hu_law : ∀ p ∈ TL K, p.1 = (He.cT K ("law", none)).2 → p.2 = "law.<locals>.<lambda>" := fun p hp e => by
    unfold TL at hp
    simp only [List.mem_cons, List.not_mem_nil, or_false] at hp
    rcases hp with rfl | rfl
    · exact absurd e ne
    · rfl
  have e := hfa.symm.trans (He.glo_ok X G (c.d.fact 27 (f := .glo "law") rfl))
  cases e
  have b := FunD.bindsA (ps := ["script"]) F22 fun _ _ _ _ _ _ us hl => match us, hl with | [_], _ => rfl
  refine ⟨fd22, fun s v => b s [v] rfl, fun base kb nb ND TBs => ?_⟩
  have DX_BadRatio := DXx base
  have DX_BadText := DXt base
  have TB__law_right := TBs _ (List.mem_map.mpr ⟨("_law_right", none), List.mem_of_getElem? (l := tf) (i := 0) rfl, rfl⟩)
  have TB_law := TBs _ (List.mem_map.mpr ⟨("law", none), List.mem_of_getElem? (l := tf) (i := 1) rfl, rfl⟩)
  have Dis_integer := d_is_integer (P := P) (w := w) (K := K) (mg := mg) (base := base) T A_is_integer
  have Ddivisor_of := d_divisor_of (P := P) (w := w) (K := K) (mg := mg) (base := base) T A_divisor_of
  have D_Ratio1 := d_Ratio___init__ (P := P) (w := w) (K := K) (mg := mg) (base := base) T RF Dis_integer Ddivisor_of DX_BadRatio A_Ratio___init__ (fun fd F => FunD.binds1 (ps := ["self", "over", "under"]) F 2 0 (by simp) (by simp) fun T kV doc pm an cdv ct us its h1 h2 => match us, its, h1, h2 with | [_, _], [_], _, _ => ⟨_, rfl, rfl⟩)
  have D_Ratio2 := d_Ratio___init__ (P := P) (w := w) (K := K) (mg := mg) (base := base) T RF Dis_integer Ddivisor_of DX_BadRatio A_Ratio___init__ (fun fd F => FunD.binds1 (ps := ["self", "over", "under"]) F 3 1 (by simp) (by simp) fun T kV doc pm an cdv ct us its h1 h2 => match us, its, h1, h2 with | [_, _, _], [_], _, _ => ⟨_, rfl, rfl⟩)
  have Dtold_of := d_told_of (P := P) (w := w) (K := K) (mg := mg) (base := base) T RF Dis_integer DX_BadRatio M_Ratio D_Ratio1 A_told_of
  have D_law_draw := d__law_draw (P := P) (w := w) (K := K) (mg := mg) (base := base) T A__law_draw
  have D_law_pen := d__law_pen (P := P) (w := w) (K := K) (mg := mg) (base := base) T A__law_pen
  have D_law_pick := d__law_pick (P := P) (w := w) (K := K) (mg := mg) (base := base) T D_law_draw A__law_pick
  have D_law_shared := d__law_shared (P := P) (w := w) (K := K) (mg := mg) (base := base) T A__law_shared
  have D_law_least := d__law_least (P := P) (w := w) (K := K) (mg := mg) (base := base) T D_law_shared A__law_least
  have D_law_pair := d__law_pair (P := P) (w := w) (K := K) (mg := mg) (base := base) T D_law_pick D_law_draw A__law_pair
  have Dis_figures := d_is_figures (P := P) (w := w) (K := K) (mg := mg) (base := base) T A_is_figures
  have D_Ratio___str__ := d_Ratio___str__ (P := P) (w := w) (K := K) (mg := mg) (base := base) T ND RF A_Ratio___str__ (fun fd F => ⟨[], .nil, F.bindsN fun _ _ _ _ _ _ us hl => match us, hl with | [_], _ => rfl⟩)
  have D_Ratio___eq__ := d_Ratio___eq__ (P := P) (w := w) (K := K) (mg := mg) (base := base) T RF A_Ratio___eq__ (fun fd F => ⟨[], .nil, F.bindsN fun _ _ _ _ _ _ us hl => match us, hl with | [_, _], _ => rfl⟩)
  have D_Ratio___mul__ := d_Ratio___mul__ (P := P) (w := w) (K := K) (mg := mg) (base := base) T RF Dtold_of M_Ratio D_Ratio2 A_Ratio___mul__ (fun fd F => ⟨[], .nil, F.bindsN fun _ _ _ _ _ _ us hl => match us, hl with | [_, _], _ => rfl⟩)
  have D_Ratio___rmul__ := d_Ratio___rmul__ (P := P) (w := w) (K := K) (mg := mg) (base := base)  A_Ratio___rmul__ (fun fd F => ⟨[], .nil, F.bindsN fun _ _ _ _ _ _ us hl => match us, hl with | [_, _], _ => rfl⟩)
  have D_Ratio_read := d_Ratio_read (P := P) (w := w) (K := K) (mg := mg) (base := base) T ND RF Dis_figures Ddivisor_of DX_BadText M_Ratio D_Ratio2 A_Ratio_read (fun fd F => ⟨[], .nil, F.bindsN fun _ _ _ _ _ _ us hl => match us, hl with | [_, _], _ => rfl⟩)
  have D_law_written := d__law_written (P := P) (w := w) (K := K) (mg := mg) (base := base) T ND D_law_least A__law_written
  have D_law_figures := d__law_figures (P := P) (w := w) (K := K) (mg := mg) (base := base) T ND A__law_figures
  have D_law_due := d__law_due (P := P) (w := w) (K := K) (mg := mg) (base := base) T D_law_written D_law_figures A__law_due
  have D_law_bent := d__law_bent (P := P) (w := w) (K := K) (mg := mg) (base := base) T D_law_pick D_law_draw A__law_bent
  have D_law_right := d__law_right (P := P) (w := w) (K := K) (mg := mg) (base := base) T RF XT D_Ratio_read CRr CMr D_law_due A__law_heard TB__law_right G__law_right hm__law_right hu__law_right A__law_right
  have DLAW := d_law (P := P) (w := w) (K := K) (mg := mg) (base := base) T RF M_Ratio D_Ratio1 D_Ratio2 XT D_law_pen D_law_pair D_law_written D_law_pick D_law_due D_law_bent D_law_right D_Ratio_read CRr CMr A_Ratio_read A__law_heard D_Ratio___str__ D_Ratio___eq__ D_Ratio___mul__ D_Ratio___rmul__ O_str O_eq O_ne OW_mul NF TB_law G_law hm_law hu_law A_law
  obtain ⟨_, _, _, _, _, _, _, _, _, _, rfl, l1, _⟩ := F22.ex
  exact (DLAW.lk _ _ (He.glo_ok X G (c.d.fact 27 (f := .glo "law") rfl)) ⟨_, _, _, l1⟩).1
end K07

open PySem PySem.W PySem.Calls PyProof.Rows LamX
set_option maxRecDepth 100000 in
set_option maxHeartbeats 0 in
theorem PySem.Challenge.cw_gapshares_k07_texts_of_ratios_holds : PySem.Challenge.rw_gapshares_k07_texts_of_ratios.Holds := by
  w_on; o_law
  refine HandSHeadRun.head_any (r := OpenLaw.row PySem.Challenge.rw_gapshares_k07_texts_of_ratios) (q := view (OpenLaw.row PySem.Challenge.rw_gapshares_k07_texts_of_ratios).prog [30]) (H := K07.hk) (ob := K07.ob) (M := 20000)
    (loose := ["_wall", "__name__", "is_integer", "GapError", "BadRatio", "BadText", "MOST_FIGURES", "is_figures", "divisor_of", "Ratio", "told_of", "above", "quotient", "remainder", "_law_pen", "_law_draw", "_law_pick", "_law_shared", "_law_least", "_law_pair", "_law_written", "_law_figures", "_law_due", "_law_bent", "_law_heard", "_law_right"])
    (d := HandSHeadRun.topDef (OpenLaw.row PySem.Challenge.rw_gapshares_k07_texts_of_ratios).prog 30) (kwd := []) K07.ob_eq
    (by kernel_rfl) (fun s => by kernel_rfl) K07.run (by kernel_rfl) (by kernel_rfl) (by kernel_rfl) (by rfl) (by first | assumption | decide +kernel) (by decide +kernel) ⟨rfl, rfl, rfl, rfl, rfl, by decide +kernel⟩ ?hw ?hc
  case hw => w_witness2
  case hc =>
    refine Gs.walkS (l := PySem.Challenge.rw_gapshares_k07_texts_of_ratios) (n := 63) (k := 15) (x := "script") rfl (by decide) (by kernel_rfl) ⟨rfl, by decide, by decide⟩ ?F
    intro w mg fa h Y G hmg0
    obtain ⟨K, KX, c⟩ := Y
    have hmg : mg ("law" : PySem.Str) = some (.ref fa) := by
      have e : (HandSHeadRun.topDef (OpenLaw.row PySem.Challenge.rw_gapshares_k07_texts_of_ratios).prog 30).name = ("law" : PySem.Str) := by kernel_rfl
      rw [← e]
      exact hmg0
    obtain ⟨fd, hb, hF⟩ := K07.facts (P := (PySem.Challenge.rw_gapshares_k07_texts_of_ratios).prog) (w := w) KX G hmg (by decide +kernel) (by rfl) c
    refine ⟨K, fd, K07.spLaw K, K07.tf.map (He.cT K), KX, hb, fun p hp => ?_, fun p hp => ?_, fun p hp => ?_, fun H a ns hl hT hS => K07.law_in hl hT hS, hF⟩
    · obtain ⟨x, hx, rfl⟩ := List.mem_map.mp hp
      exact c.empty x hx
    · obtain ⟨x, hx, rfl⟩ := List.mem_map.mp hp
      exact c.out x hx
    · obtain ⟨x, hx, rfl⟩ := List.mem_map.mp hp
      exact codeHd_of_K KX (c.hd x hx)

