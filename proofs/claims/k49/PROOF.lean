import PyProof.Rows.All
import Wide.All
import OpenK.AllK
import Wide.FinOn
import KE.KStateDown
import HandS.ForMost
import HandS.ForExc
import HandS.Defaults
import HandS.IsInst
import HandS.TupLe
import HandS.Wide
import HandS.SortInts
import HandS.EndBits
import HandS.MakeKwOnly
import HandS.Head0
import HandS.Head1
import HandS.Head2
import HandS.HeadEnd
import HandS.HeadHook1
import HandS.HeadHook2
import HandS.Walk
import HandS.Zip
import HandS.Conv
import HandS.TryOnly
import HandS.ExcOwn
import HandS.CallSlots
import HandS.More
import HandS.Style
import HandS.DictComp
import PyProof.DictUpdate
import KE.KDictZip
import KE.KItemsList
import HandS.ListItems
import HandS.Deep
import KE.SortData
import HandS.ExcIs
import HandS.ExcField
import HandS.ExcValue
import KE.GoesMore
import KE.GoesZip
import HandS.SetFor
import HandS.Strs
import KE.DataCmp
import HandS.Replace
import HandS.ReplaceLit
import HandS.ReplaceList
import HandS.OwnEq
import HandS.NamedTupGet
import HandS.HotCalls
import PySem.Challenge.RW_wrapclues_k49_reflow_errors
set_option Elab.async false
set_option linter.all false
set_option maxRecDepth 100000
set_option maxHeartbeats 4000000
/-! Rules of my own over the hand layer: defs that ask that no repr is under way (guards), calls by keywords alone, powers, repr of data. -/
namespace Wc
open PySem PySem.Spec PyProof.Rows L2

/-! ### a callee, bundled -/
structure Cal (P : Program) (w : World) (K : PySem.W.Frag) (mg : Str → Option Value) (base : Heap) (CX : CXT) (k : Nat) (x : Str) (ps : List Str) (dvs : List V) (sp : Sp) : Prop where
  ex : ∃ (f : Addr) (fd : FuncData) (ds : List Value), FnOk P w K mg base CX k f fd ps sp ∧ mg x = some (.ref f) ∧ PySem.W.keepIn K (.ref f) = true ∧ Vals dvs ds ∧ L2.Binds K fd ps ds

section
variable {X : Cx} {CX : CXT} {k : Nat} {x : Str} {ps : List Str} {dvs : List V} {sp : Sp} {E : XK} {p pos : Pos} {e : Expr} {es : List Expr} {t : TA}
theorem pe_cal (c : Cal X.prog X.w X.K X.mg X.base CX k x ps dvs sp) (hr : Room k X.A) (hx : Passes CX X E) (ha : PA X (e :: es) t) (hg : Gl X x := by rfl) (hdb : (x == ("__debug__" : Str)) = false := by decide)
    (he : starEach (e :: es) X.env = (false, eval e X.env) :: starEach es X.env := by rfl) (hpl : (backTo pos (starEach es X.env)).any (·.1) = false := by rfl) :
    PE X (.Call (.Name x p) (e :: es) [] pos) (tCall sp dvs E t) := by
  obtain ⟨f, fd, ds, F, hm, hk, hd, hb⟩ := c.ex
  exact pe_call F hr hg hm hk hb hd hx ha hdb he hpl
theorem pe_cal0 (c : Cal X.prog X.w X.K X.mg X.base CX k x ps dvs sp) (hr : Room k X.A) (hx : Passes CX X E) (hg : Gl X x := by rfl) (hdb : (x == ("__debug__" : Str)) = false := by decide) :
    PE X (.Call (.Name x p) [] [] pos) (tCall sp dvs E tNil) := by
  obtain ⟨f, fd, ds, F, hm, hk, hd, hb⟩ := c.ex
  exact pe_call0 F hr hg hm hk hb hd hx hdb
end

/-! ### defs that run where no guard stands (for repr) -/
structure FnG (P : Program) (w : World) (K : PySem.W.Frag) (mg : Str → Option Value) (base : Heap) (k : Nat) (f : Addr) (fd : FuncData) (ps : List Str) (sp : Sp) : Prop where
  len : ∀ vs H Q E, sp vs H Q E → vs.length = ps.length
  run : ∀ (A : Around) (outer : List Env) (s : Shared) (H : Hp) (args : Args) (us : List Value) (vs : List V) (Q : VK) (E : XK), A.guards = some [] → Room k A → Env0 P w K mg base A outer s H →
    BindsTo s fd args (ps.zip us) → Vals vs us → sp vs H Q E → codeAny (model P w) A (.call (.ref f) args) (CR CX0 outer P w H s Q E) s

theorem deeper_guards {A : Around} {q : Str} {sc : Scope} {L f : Addr} {cd : Value} (h : A.guards = some []) : (A.deeper (envOfC q sc L f cd)).guards = some [] := h

theorem fnG_of {P : Program} {w : World} {K : PySem.W.Frag} {mg : Str → Option Value} {base : Heap} {k : Nat} {x qual : Str} {params : Arguments} {body : List Stmt} {sc : Scope} {f : Addr} {fd : FuncData} {N ps : List Str} {sp : Sp}
    (F : FunD K x qual params body sc [] [] f fd) (S : FnScope N ps sc) (len : ∀ vs H Q E, sp vs H Q E → vs.length = ps.length)
    (hbody : ∀ (cdv : Value) (A : Around) (outer : List Env) (s : Shared) (H : Hp) (vs : List V) (Q : VK) (E : XK), (A.deeper (envOfC qual sc s.heap.objs.size f cdv)).guards = some [] →
      Room k (A.deeper (envOfC qual sc s.heap.objs.size f cdv)) → sp vs H Q E →
      ∃ t, PSs (cxOf CX0 P w K mg base N qual sc f cdv A outer s H E).nox body t ∧ t { nx := fun _ H' => Q .non H', rt := Q } (start N vs) H) : FnG P w K mg base (k + 1) f fd ps sp := by
  obtain ⟨oc, od, dV, kV, doc, pm, an, cdv, ct, osl, rfl, lk, hcd, _, _⟩ := F.ex
  refine ⟨len, ?_⟩
  intro A outer s H args us vs Q E hg hr e0 hb r hsp
  have lenv := len _ _ _ _ hsp
  have keeps : ∀ b o, base.get? b = some o → s.heap.get? b = some o := fun b o e => (e0.bs b o e).1
  have KX : K.In s.heap := e0.mod.kin.keeps keeps
  have noL : s.heap.NoLimit := e0.mod.nolimit.keeps keeps
  refine codeAny_call_function hr.depth (KX _ _ lk) rfl S.co S.gen rfl (PySem.W.codeRec_of KX hcd) (hb _ _ _ _ ?_)
  refine wpAny_newFunctionEnv_cells S.kind ?kinds ?main
  case kinds =>
    rintro ⟨n, v⟩ hy
    cases S.par n (List.of_mem_zip hy).1 with
    | inl q => exact .inl q
    | inr q => exact .inr ⟨q, PySem.W.cellsFrom_some _ _ _ (.inl q)⟩
  case main =>
    rintro env rfl s1 x
    refine ⟨noL.keeps x.toInCall.keep, codeAny_func ?_⟩
    obtain ⟨t, ht, hq⟩ := hbody cdv A outer s H vs Q E (deeper_guards hg) (hr.deeper _) hsp
    have I := inv_start (CX := CX0) (E := E) S hr.hd e0 lenv r x
    refine wpAny_mono (ht.nox.run [] s1 (start N vs) H _ I hq) ?good ?bad
    case bad => exact fun _ _ h => h
    case good =>
      intro fl s' hs
      have fin : ∀ {σ' : L2.St} {H' : Hp} {v : V} {u : Value}, Inv (cxOf CX0 P w K mg base N qual sc f cdv A outer s H E) [] σ' H' s' → RelV v u → Q v H' → CE outer P w H s Q u s' := by
        intro σ' H' v u J rv q
        exact ⟨v, H', J.os, J.bare, J.base, J.hok, rv, q⟩
      match fl, hs with
      | .ret _, ⟨_, _, _, J, rv, q⟩ => exact fin J rv q
      | .next, ⟨_, _, J, q⟩ => exact fin (v := V.non) (u := Value.none) J rfl q
      | .brk, ⟨_, _, _, q⟩ => exact q.elim
      | .cont, ⟨_, _, _, q⟩ => exact q.elim

structure CalG (P : Program) (w : World) (K : PySem.W.Frag) (mg : Str → Option Value) (base : Heap) (k : Nat) (x : Str) (ps : List Str) (sp : Sp) : Prop where
  ex : ∃ (f : Addr) (fd : FuncData), FnG P w K mg base k f fd ps sp ∧ mg x = some (.ref f) ∧ PySem.W.keepIn K (.ref f) = true ∧ L2.Binds K fd ps []

section
variable {X : Cx} {k : Nat} {x : Str} {ps : List Str} {sp : Sp} {p pos : Pos} {e : Expr} {es : List Expr} {t : TA}
/-- f(e, ..), where no guard stands -/
theorem pe_calG (c : CalG X.prog X.w X.K X.mg X.base k x ps sp) (hgd : X.A.guards = some []) (hr : Room k X.A) (ha : PA X (e :: es) t) (hg : Gl X x := by rfl) (hdb : (x == ("__debug__" : Str)) = false := by decide)
    (he : starEach (e :: es) X.env = (false, eval e X.env) :: starEach es X.env := by rfl) (hpl : (backTo pos (starEach es X.env)).any (·.1) = false := by rfl) :
    PE X (.Call (.Name x p) (e :: es) [] pos) (tCall sp [] E0 t) := by
  obtain ⟨f, fd, F, hm, hk, hb⟩ := c.ex
  constructor
  intro pins s σ H Q I h
  refine wpAny_Call_Name_kw (ld_glob I hg hm ?_ hdb)
  refine PySem.W.callWith_K (h₀ := X.base) I.ok.mod.kin hk (thn (ha.run pos pins s σ H _ I h) ?_) he hpl
  rintro us s1 ⟨vs, H1, I1, r, q⟩
  refine ⟨I1.kIn, ?_⟩
  have q' : sp vs H1 Q E0 := by
    have q0 : sp (vs ++ []) H1 Q E0 := q
    rwa [List.append_nil] at q0
  have lu : us.length = ps.length := by rw [← r.length]; exact F.len _ _ _ _ q'
  have hb' : BindsTo s1 fd ⟨us, []⟩ (ps.zip us) := by
    have z := hb s1 us I1.kIn (by rw [List.append_nil]; exact lu)
    rwa [List.append_nil] at z
  refine wpAny_call (codeAny_mono (F.run X.A X.stack s1 H1 ⟨us, []⟩ us vs Q E0 hgd hr I1.env0 hb' r q') ?_)
  intro res s' hq
  match res, hq with
  | .ok (.ret _), hq => exact I1.after hq
  | .ok .next, hq => exact hq.elim
  | .ok .brk, hq => exact hq.elim
  | .ok .cont, hq => exact hq.elim
  | .error _, hq => exact hq.elim
end

/-! ### calls by keywords alone -/
/-- the parameters' values, by the keywords' places -/
def permV (is : List Nat) : List V → List V → List V := fun _ zs => is.map fun i => zs.getD i .non
def permW (is : List Nat) : List Value → List Value → List Value := fun _ ws => is.map fun i => ws.getD i .none
theorem vals_getD {zs : List V} {ws : List Value} (r : Vals zs ws) (i : Nat) : RelV (zs.getD i .non) (ws.getD i .none) := by
  cases e : zs[i]? with
  | none =>
    have e2 := Vals.none_of r e
    rw [List.getD_eq_getElem?_getD, List.getD_eq_getElem?_getD, e, e2]
    rfl
  | some z =>
    obtain ⟨u, e2, ru⟩ := Vals.get r e
    rw [List.getD_eq_getElem?_getD, List.getD_eq_getElem?_getD, e, e2]
    exact ru
theorem perm_rel {zs : List V} {ws : List Value} (r : Vals zs ws) : ∀ is : List Nat, Vals (is.map fun i => zs.getD i .non) (is.map fun i => ws.getD i .none)
  | [] => .nil
  | i :: is => .cons (vals_getD r i) (perm_rel r is)
structure CalK (P : Program) (w : World) (K : PySem.W.Frag) (mg : Str → Option Value) (base : Heap) (CX : CXT) (k : Nat) (x : Str) (ps ks : List Str) (is : List Nat) (sp : Sp) : Prop where
  ex : ∃ (f : Addr) (fd : FuncData), FnOk P w K mg base CX k f fd ps sp ∧ mg x = some (.ref f) ∧ PySem.W.keepIn K (.ref f) = true ∧ KBn K fd ps 0 ks (permW is) (permV is)
/-- a def without defaults, called by keywords alone -/
theorem kbn_of {K : PySem.W.Frag} {x qual : Str} {params : Arguments} {body : List Stmt} {sc : Scope} {kws : List (Str × V)} {f : Addr} {fd : FuncData} {ps ks : List Str} {is : List Nat} (F : FunD K x qual params body sc [] kws f fd)
    (h : ∀ (kV doc pm : Value) (an : Option Addr) (cdv ct : Value) (ws : List Value), ws.length = ks.length →
      bindArgs (PySem.W.fnOf x qual params body sc .none kV doc pm an cdv ct) ⟨[], ks.zip ws⟩ = pure (ps.zip (is.map fun i => ws.getD i .none))) : KBn K fd ps 0 ks (permW is) (permV is) := by
  obtain ⟨oc, od, dV, kV, doc, pm, an, cdv, ct, osl, rfl, lk, hcd, hD, hK⟩ := F.ex
  cases hD with
  | inr z => exact absurd rfl z.1
  | inl z =>
    obtain ⟨_, rfl⟩ := z
    constructor
    · intro s us ws _ l1 l2
      have e : us = [] := List.length_eq_zero_iff.mp l1
      subst e
      exact .of_eq (h kV doc pm an cdv ct ws l2)
    · intro vs us zs ws _ r2
      exact perm_rel r2 is
/-- f(k = e, ..): the values as they are written, then the promise of the parameters' order -/
def tCK (m : Nat) (is : List Nat) (sp : Sp) (E : XK) (tk : TA) : TE := fun σ H Q => tk σ H fun zs H1 => zs.length = m ∧ sp (is.map fun i => zs.getD i .non) H1 Q E
section
variable {X : Cx} {CX : CXT} {k : Nat} {x : Str} {ps ks : List Str} {is : List Nat} {sp : Sp} {E : XK} {p pos : Pos} {kws : List Keyword} {tk : TA}
theorem pe_calK (c : CalK X.prog X.w X.K X.mg X.base CX k x ps ks is sp) (hr : Room k X.A) (hx : Passes CX X E) (hkw : PK X kws tk) (hg : Gl X x := by rfl)
    (hall : (backToKw pos (keywordEach kws X.env)).all (·.1.isSome) = true := by rfl) (hks : (backToKw pos (keywordEach kws X.env)).filterMap (·.1) = ks := by rfl) (hdb : (x == ("__debug__" : Str)) = false := by decide)
    (hpl : ((backTo pos (starEach [] X.env)).any (·.1) || (backToKw pos (keywordEach kws X.env)).any (·.1.isNone)) = false := by rfl) :
    PE X (.Call (.Name x p) [] kws pos) (tCK ks.length is sp E tk) := by
  obtain ⟨f, fd, F, hm, hk, hb⟩ := c.ex
  constructor
  intro pins s σ H Q I h
  refine wpAny_Call_Name_kw (ld_glob I hg hm ?_ hdb)
  refine PySem.W.callWith_KW0 (h₀ := X.base) I.ok.mod.kin hk hall (thn (hkw.run pos pins s σ H _ I h) ?_) hpl
  rintro ws s2 ⟨zs, H2, I2, rz, l2, q2⟩
  refine ⟨I2.kIn, ?_⟩
  rw [hks]
  exact run_fnN F hr hb hx I2 .nil rz rfl l2 q2
end

/-! ### numbers -/
/-- a power of a number of less than 2 ^ 1000, by a small exponent -/
def CPowW (i j : Int) : Prop := 0 ≤ j ∧ j ≤ 1000 ∧ i.natAbs < 2 ^ 1000
theorem bits_of {i : Int} {n : Nat} (h : i.natAbs < 2 ^ n) : Builtin.Int.intBits i ≤ n + 1 := by
  have b : Builtin.Int.intBits i ≤ i.natAbs.log2 + 1 := by
    unfold Builtin.Int.intBits
    split <;> omega
  by_cases z : i.natAbs = 0
  · rw [z] at b
    have : Nat.log2 0 = 0 := by decide
    omega
  · have := (Nat.log2_lt z).mpr h
    omega
section
variable {X : Cx}
theorem op_powW : OpR X (binaryOp .Pow) (rI CPowW fun i j => .int (i ^ j.toNat)) := opI fun i j _ _ _ _ _ hc q => by
  obtain ⟨h0, h1, h2⟩ := hc
  refine pow_int h0 ?_ q
  have hb := bits_of h2
  have hb' : (Builtin.Int.intBits i : Int) ≤ 1001 := by omega
  have : (Builtin.Int.intBits i : Int) * j ≤ 1001 * 1000 := Int.mul_le_mul hb' h1 h0 (by decide)
  omega
end

/-! ### data: what repr and == see -/
mutual
inductive Dq (K : PySem.W.Frag) (H : Hp) : V → PyData → Prop
  | non : Dq K H .non .none
  | bl (b : Bool) : Dq K H (.bl b) (.bool b)
  | int (i : Int) : Dq K H (.int i) (.int i)
  | str (x : Str) : Dq K H (.str x) (.str x)
  | lst {a : Addr} {xs : List V} {ds : List PyData} : H a = some (.lst xs) → DqAll K H xs ds → Dq K H (.ref a) (.list ds)
  | tup {a : Addr} {xs : List V} {ds : List PyData} : H a = some (.tup xs) → DqAll K H xs ds → Dq K H (.ref a) (.tuple ds)
  | dct {a : Addr} : H a = some (.dK []) → Dq K H (.ref a) (.dict [])
inductive DqAll (K : PySem.W.Frag) (H : Hp) : List V → List PyData → Prop
  | nil : DqAll K H [] []
  | cons {v : V} {vs : List V} {d : PyData} {ds : List PyData} : Dq K H v d → DqAll K H vs ds → DqAll K H (v :: vs) (d :: ds)
end
/-! ### repr of data, where no guard stands -/
mutual
theorem noDict1 {K : PySem.W.Frag} {H : Hp} : ∀ (d : PyData) (v : V), Dp K H v d → d.hasDict = false
  | .none, _, _ => by simp only [PyData.hasDict]
  | .bool _, _, _ => by simp only [PyData.hasDict]
  | .int _, _, _ => by simp only [PyData.hasDict]
  | .str _, _, _ => by simp only [PyData.hasDict]
  | .list ds, _, .lst _ ha => by simp only [PyData.hasDict]; exact noDictA ds _ ha
  | .tuple ds, _, .tup _ ha => by simp only [PyData.hasDict]; exact noDictA ds _ ha
  | .dict _, _, h => by cases h
theorem noDictA {K : PySem.W.Frag} {H : Hp} : ∀ (ds : List PyData) (vs : List V), DpAll K H vs ds → PyData.hasDictAll ds = false
  | [], _, _ => by simp only [PyData.hasDictAll]
  | d :: ds, _, .cons h1 h2 => by simp only [PyData.hasDictAll, noDict1 d _ h1, noDictA ds _ h2, Bool.or_self]
end
def rReprD (K : PySem.W.Frag) : List V → Hp → VK → Prop := fun xs H Q => (∃ v d, xs = [v] ∧ Dp K H v d ∧ d.showable = true ∧ d.depth ≤ 60 ∧ d.shown.length ≤ sizeLine ∧ Q (.str d.shown) H) ∨
  ∃ a, xs = [.ref a] ∧ H a = some (.dK []) ∧ Q (.str (PyData.shown (.dict []))) H
section
variable {X : Cx}
theorem call_reprD {k : Nat} (hgd : X.A.guards = some []) (hr : Room k X.A) : CallR X (.builtin "repr") (rReprD X.K) := by
  intro pins s σ H xs us Q I r h
  have hu := hr.units
  rcases h with ⟨v, d, rfl, hd, hs, hdp, hz, q⟩ | ⟨a, rfl, ha, q⟩
  · cases r with
    | cons rv rn =>
      rename_i u us'
      cases rn
      have nd := noDict1 d v hd
      obtain ⟨as, rd⟩ := Dp.reads I d v u hd rv
      cases hd with
      | non => cases rv; exact PySem.P.repr_of_none ⟨.str _, _, I.tok _, ⟨_, rfl⟩, q⟩
      | bl b => cases rv; exact PySem.P.repr_of_bool ⟨.str _, _, I.tok _, ⟨_, rfl⟩, by cases b <;> exact q⟩
      | int i =>
        obtain ⟨t, rfl⟩ := rv
        have hi : i.natAbs.log2 < 1920 := by
          simp only [PyData.showable] at hs
          exact of_decide_eq_true hs
        exact PySem.P.repr_of_int hi ⟨.str _, _, I.tok _, ⟨_, rfl⟩, q⟩
      | str x =>
        obtain ⟨t, rfl⟩ := rv
        exact PySem.P.repr_of_str ⟨.str _, _, I.tok _, ⟨_, rfl⟩, q⟩ hz
      | lst h1 h2 =>
        cases rv
        exact repr_of_reads' rd hs (PyData.noDict_hsm nd) hgd (by omega) (fun _ _ e => e) (fun h' u tk hk => ⟨.str _, _, I.kept hk, ⟨_, rfl⟩, q⟩) hz
      | tup h1 h2 =>
        cases rv
        exact repr_of_reads' rd hs (PyData.noDict_hsm nd) hgd (by omega) (fun _ _ e => e) (fun h' u tk hk => ⟨.str _, _, I.kept hk, ⟨_, rfl⟩, q⟩) hz
  · cases r with
    | cons rv rn =>
      rename_i u us'
      cases rn
      cases rv
      obtain ⟨_, hsy, vs, kv, o, es, ep, h1, h2, h3, h4, h5⟩ := (show ObjOk X.prog X.w H s.heap a (.dK []) from I.hok a _ ha)
      cases kv
      have rd : Reads s.heap (.ref a) (.dict []) [a] := by
        obtain ⟨es⟩ := es
        have h6 : Pairs (mixKind X.prog X.w) es [] := h5.1
        cases h6
        exact Reads.dict (kvs := []) h1 h2.1 h3 .nil .nil
      exact repr_of_reads' rd (by decide) (fun _ hm => by simp at hm; simp [hm] at hsy) hgd (by simp only [PyData.depth, PyData.depthKv]; omega) (fun _ _ e => e) (fun h' u tk hk => ⟨.str _, _, I.kept hk, ⟨_, rfl⟩, q⟩) (by decide)
end

/-! ### the law's end, where no guard stands -/
theorem law_callG {P : Program} {w : World} {K : PySem.W.Frag} {mg mb : Str → Option Value} {k : Nat} {fa a : Addr} {fd : FuncData} {x : Str} {sp : Sp} {s₁ : Shared} {vs : List Value} {ns : List Int}
    (KX : K.In s₁.heap) (hns : s₁.heap.Ns mainGlobals mg) (hb : s₁.heap.Ns builtinsNs mb) (hbb : ∀ x : Str, x ≠ "__name__" → mb x = bootBuiltins x) (noL : s₁.heap.NoLimit) (hg : s₁.gens = #[])
    (ha : s₁.heap.get? a = some { cls := .type "list", data := .seq vs.toArray }) (hi : IntsAre vs ns) (hl : ns.length ≤ sizeLine) (hr : Room k callerA)
    (F : ∀ base : Heap, K.In base → base.Ns mainGlobals mg → FnG P w K mg base k fa fd [x] sp) (hbind : ∀ (s : Shared) (u : Value), BindsTo s fd ⟨[u], []⟩ [(x, u)])
    (hsp : ∀ H : Hp, Only H → SqL K H a (ns.map V.int) → sp [.ref a] H (fun v _ => v = .bl true) E0) :
    codeAny (model P w) callerA (.call (.ref fa) ⟨[.ref a], []⟩) (fun r s' => r = .ok (.ret (.bool true)) ∧ OldK s₁.heap s'.heap ∧ s'.os = s₁.os ∧ AllBare s'.gens) s₁ := by
  have rv := vals_ints hi
  -- over an abstract heap that tracks at most the script
  suffices core : ∀ H : Hp, Only H → SqL K H a (ns.map V.int) → HOk P w H s₁.heap → (∀ b, H b ≠ none → b = a ∧ K.lookup a = none) →
      codeAny (model P w) callerA (.call (.ref fa) ⟨[.ref a], []⟩) (fun r s' => r = .ok (.ret (.bool true)) ∧ OldK s₁.heap s'.heap ∧ s'.os = s₁.os ∧ AllBare s'.gens) s₁ by
    cases hk : K.lookup a with
    | some o =>
      have e := KX a o hk
      rw [ha] at e
      cases e
      have none' : ∀ {b : Addr} {u : HO}, (none : Option HO) = some u → False := fun z => by cases z
      refine core (fun _ => none) (fun _ => .inl rfl) (.inr ⟨_, vs.toArray, _, hk, rfl, rfl, rfl, ?_, ?_⟩) (fun b u z => (none' (b := b) z).elim) (fun b z => (z rfl).elim)
      · rw [List.size_toArray, hi.length]
        exact hl
      · simpa using rv
    | none =>
      let H : Hp := fun b => if b = a then some (.frz { cls := .type "list", data := .seq vs.toArray } (.lst (ns.map V.int))) else none
      have at_ : ∀ {b : Addr} {u : HO}, H b = some u → b = a ∧ u = .frz { cls := .type "list", data := .seq vs.toArray } (.lst (ns.map V.int)) := by
        intro b u z
        by_cases hb : b = a
        · have z' := (if_pos hb).symm.trans z
          cases z'
          exact ⟨hb, rfl⟩
        · have z' := (if_neg hb).symm.trans z
          cases z'
      refine core H (fun b => ?_) (.inl (.inr ⟨_, if_pos rfl⟩)) (fun b u z => ?_) (fun b z => ?_)
      · by_cases hb : b = a
        · exact .inr ⟨_, _, if_pos hb⟩
        · exact .inl (if_neg hb)
      · obtain ⟨rfl, rfl⟩ := at_ z
        refine ⟨ha, ?_, vs, _, rv, ha⟩
        rw [List.length_map]
        exact hl
      · by_cases hb : b = a
        · exact ⟨hb, hk⟩
        · exact (z (if_neg hb)).elim
  intro H hO hS hok hA
  have free : ∀ {b : Addr} {o : Obj}, s₁.heap.get? b = some o → (b = a → K.lookup a = none → False) → H b = none := by
    intro b o _ h
    cases q : H b with
    | none => rfl
    | some u =>
      obtain ⟨e1, e2⟩ := hA b (by rw [q]; simp)
      exact (h e1 e2).elim
  have nsK : ∀ {b : Addr} {m : Str → Option Value}, s₁.heap.Ns b m → (hidT s₁.heap H).Ns b m := by
    rintro b m ⟨o, es, ep, e, d, r⟩
    refine ⟨o, es, ep, hidT_get e (free e ?_), d, r⟩
    rintro rfl _
    rw [ha] at e
    cases e
    cases (show Data.seq vs.toArray _ = Data.dict es ep from d)
  have hKb : K.In (hidT s₁.heap H) := by
    intro b o e
    refine hidT_get (KX b o e) (free (KX b o e) ?_)
    rintro rfl z
    rw [z] at e
    cases e
  have hM : Mod K mg (hidT s₁.heap H) := ⟨hKb, nsK hns, ⟨mb, nsK hb, hbb⟩, let ⟨mc, h1, h2⟩ := noL; ⟨mc, nsK h1, h2⟩⟩
  have nofr : ∀ b : Addr, b ∉ frs [] := fun b z => absurd (show b ∈ ([] : List Addr) from z) (by simp)
  have e0 : Env0 P w K mg (hidT s₁.heap H) callerA [] s₁ H := ⟨rfl, hM, fun b o e => of_hidT e, Nat.le_of_eq (hidT_size _ _), trivial, fun b hb => absurd hb (nofr b), hok, .of_eq hg⟩
  refine codeAny_mono ((F _ hKb (nsK hns)).run callerA [] s₁ H ⟨[.ref a], []⟩ [.ref a] [.ref a] _ _ rfl hr e0 (hbind s₁ (.ref a)) (.cons rfl .nil) (hsp H hO hS)) ?_
  intro r s' h
  match r, h with
  | .error _, h => exact h.elim
  | .ok .next, h => exact h.elim
  | .ok .brk, h => exact h.elim
  | .ok .cont, h => exact h.elim
  | .ok (.ret u), ⟨v, H', os, bare, un, hok', r', q⟩ =>
    have q' : v = .bl true := q
    subst q'
    obtain rfl : u = Value.bool true := r'
    refine ⟨rfl, OldK.of_keep ?_, os, bare⟩
    intro b o e
    cases q : H b with
    | none => exact un.keep b o e q (nofr b) (by simp)
    | some u =>
      rcases hO b with z | ⟨ob, xs, z⟩
      · rw [q] at z
        cases z
      · obtain ⟨e1, _⟩ := hok b _ z
        obtain ⟨e2, _⟩ := hok' b _ (un.frzs b ob _ z)
        rw [e] at e1
        cases e1
        exact e2
theorem walk_ofG {l : PySem.W.OpenLaw} {n k : Nat} {q : Program} {loose : List Str} {XP : (Str → Option Value) → Heap → Prop} {YP : World → Heap → Prop} {d : DefRec} {x : Str}
    (hn : l.most = some n) (hn2 : n ≤ sizeLine) (hdf : d.params.defaults = []) (hr : Room k callerA)
    (F : ∀ (w : World) (mg : Str → Option Value) (fa : Addr) (h : Heap), YP w h → h.Ns mainGlobals mg → mg d.name = some (.ref fa) →
      ∃ (K : PySem.W.Frag) (fd : FuncData) (sp : Sp), K.In h ∧ (∀ (s : Shared) (u : Value), BindsTo s fd ⟨[u], []⟩ [(x, u)]) ∧
        (∀ (H : Hp) (a : Addr) (ns : List Int), ns.length ≤ n → (∀ z ∈ ns, Builtin.Int.intBits z ≤ 1048576) → Only H → SqL K H a (ns.map V.int) → sp [.ref a] H (fun v _ => v = .bl true) E0) ∧
        ∀ base : Heap, K.In base → base.Ns mainGlobals mg → FnG l.prog w K mg base k fa fd [x] sp) :
    PySem.W.WalkO q loose XP YP l.row.toRowW d [] (fun f vs => PySem.call f vs) := by
  refine Att.attach_callB hn hdf ?_
  intro w s₀ s₁ mg mb fa o pm cd doc a vs ns G Y ho hd hcd hmg hobj hints hlen hbits hg
  obtain ⟨K, fd, sp, KX, hb, hsp, hF⟩ := F w mg fa _ Y G.T.g hmg
  exact law_callG KX G.T.g G.T.b G.T.builtins G.T.nolimit hg hobj hints (Nat.le_trans hlen hn2) hr hF hb fun H hO hS => hsp H a ns hlen hbits hO hS
end Wc

/-! Shared words for the walks: constants, own errors, heaps, lists of iV, loops, comprehensions, data. -/
namespace Wc
open PySem PySem.Spec PyProof.Rows L2

/-! ### constants of the module -/
section
variable {X : Cx} {x : Str} {p : Pos}
theorem pe_gint {i : Int} (hm : ∃ t, X.mg x = some (.int i t)) (hg : Gl X x := by rfl) (hdb : (x == ("__debug__" : Str)) = false := by decide) : PE X (.Name x p) (tC (.int i)) := by
  obtain ⟨t, h⟩ := hm
  exact pe_glob (v := .int i) hg h ⟨t, rfl⟩ hdb
theorem pe_gstr {z : Str} (hm : ∃ t, X.mg x = some (.str z t)) (hg : Gl X x := by rfl) (hdb : (x == ("__debug__" : Str)) = false := by decide) : PE X (.Name x p) (tC (.str z)) := by
  obtain ⟨t, h⟩ := hm
  exact pe_glob (v := .str z) hg h ⟨t, rfl⟩ hdb
end

section
variable {X : Cx} {x : Str} {p : Pos}
theorem pe_ty {n : String} (hm : X.mg x = none) (hv : bootBuiltins x = some (.type n)) (hg : Gl X x := by rfl) (hn : x ≠ "__name__" := by decide) (hdb : (x == ("__debug__" : Str)) = false := by decide) : PE X (.Name x p) (tC (.ty n)) :=
  pe_bltn (v := .ty n) hg hm hv rfl hn hdb
end

/-! ### own errors -/
def xc (K : PySem.W.Frag) (x : Str) : Value := .ref (He.ga K x)
structure ExcF (K : PySem.W.Frag) (mg : Str → Option Value) (x : Str) : Prop where
  g : mg x = some (xc K x)
  q : PySem.W.excIn K (He.ga K x) He.veBase "ValueError.__new__" = true
  k : PySem.W.keepIn K (xc K x) = true
  b : PySem.W.subIn K (xc K x) (.type "BaseException") = some true
  t : PySem.W.typeIn K (xc K x) = some (.type "type")
theorem excF_of {K : PySem.W.Frag} {h : Heap} {mg : Str → Option Value} {x : Str} (X : K.In h) (G : h.Ns mainGlobals mg) (c1 : (He.Fa.glo x).ok K = true) (c2 : (He.Fa.exc x).ok K = true) : ExcF K mg x := by
  obtain ⟨h1, h2, h3, h4⟩ := He.exc_ok c2
  exact ⟨He.glo_ok X G c1, h1, h2, h3, h4⟩
section
variable {X : Cx}
theorem ps_raiseT {x m : Str} {j : Nat} {p p2 pos pos2 : Pos} {W : WX} (tk : Takes X W) (T : ExcF X.K X.mg x) (hc : X.calm = true := by rfl) (hg : Gl X x := by rfl) (hdb : (x == ("__debug__" : Str)) = false := by decide) :
    PS X (.Raise (some (.Call (.Name x p) [.Constant (.str m) j p2] [] pos)) none pos2) (fun _ σ H => W (xc X.K x) none σ H) :=
  ps_raise hc tk (pmk_own PySem.F.excBase_ValueError T.q T.g T.k (raises_own T.b T.t) hg hdb)
end

/-! ### heaps -/
section
variable {H H' H1 H2 : Hp} {a b p : Addr} {o u : HO}
theorem same_new (h : H p = none) : Same H (upd H p u) := fun b x e => by
  rw [upd_ne (ne_of_none e h)]
  exact e
theorem at_new (h : H a = some o) (hp : H p = none) : upd H p u a = some o := same_new hp a o h
theorem at_mut (h : H a = some o) (ne : a ≠ p) : upd H p u a = some o := by rw [upd_ne ne]; exact h
theorem at_sm (s : Same H H') (h : H a = some o) : H' a = some o := s a o h
/-- all but a stays -/
def But (a : Addr) (H H' : Hp) : Prop := ∀ b, b ≠ a → H' b = H b
theorem But.at {a b : Addr} {H H' : Hp} {o : HO} (s : But a H H') (ne : b ≠ a) (h : H b = some o) : H' b = some o := (s b ne).trans h
theorem But.trans {a : Addr} {H H1 H2 : Hp} (s : But a H H1) (t : But a H1 H2) : But a H H2 := fun b hb => (t b hb).trans (s b hb)
theorem But.refl (a : Addr) (H : Hp) : But a H H := fun _ _ => rfl
/-- what stood ahead, the pot aside, stands -/
def SameB (a : Addr) (H H' : Hp) : Prop := ∀ b o, b ≠ a → H b = some o → H' b = some o
theorem SameB.refl (a : Addr) (H : Hp) : SameB a H H := fun _ _ _ h => h
theorem SameB.trans {a : Addr} {H H1 H2 : Hp} (s : SameB a H H1) (t : SameB a H1 H2) : SameB a H H2 := fun b o n h => t b o n (s b o n h)
theorem SameB.of {a : Addr} {H H' : Hp} (s : Same H H') : SameB a H H' := fun b o _ h => s b o h
theorem SameB.but {a : Addr} {H H' : Hp} (s : But a H H') : SameB a H H' := fun b o n h => s.at n h
theorem SameB.mut {a p : Addr} {H H' : Hp} {u : HO} (s : SameB a H H') (h : H p = Option.none) : SameB a H (upd H' p u) := fun b o n e => by
  rw [upd_ne (ne_of_none e h)]
  exact s b o n e
/-- the pot was made behind H -/
theorem SameB.all {a : Addr} {H H1 H2 : Hp} (s0 : Same H H1) (n : H a = Option.none) (s : SameB a H1 H2) : Same H H2 := fun b o e => s b o (ne_of_none e n) (s0 b o e)
theorem at_but (s : But b H H') (ne : a ≠ b) (h : H a = some o) : H' a = some o := s.at ne h
theorem at_smb (s : SameB b H H') (ne : a ≠ b) (h : H a = some o) : H' a = some o := s a o ne h
/-- an object that H does not know may change behind it -/
theorem same_mut (s : Same H H') (h : H p = none) : Same H (upd H' p u) := fun b x e => by
  rw [upd_ne (ne_of_none e h)]
  exact s b x e
end
end Wc
local macro_rules | `(tactic| walk_at "at") => `(tactic| first
  | assumption
  | exact L2.upd_same
  | (refine Wc.at_new ?_ (by assumption); walk_at "at")
  | (refine Wc.at_sm (by assumption) ?_; walk_at "at")
  | (refine Wc.at_but (by assumption) (by walk_at "ne") ?_; walk_at "at")
  | (refine Wc.at_smb (by assumption) (by walk_at "ne") ?_; walk_at "at")
  | (refine Wc.at_mut ?_ (by walk_at "ne"); walk_at "at"))
local macro_rules | `(tactic| walk_at "ne") => `(tactic| first
  | assumption
  | (apply Ne.symm; assumption)
  | (refine L2.ne_of_none ?_ (by assumption); walk_at "at")
  | (refine Ne.symm (L2.ne_of_none ?_ (by assumption)); walk_at "at"))
namespace Wc
open PySem PySem.Spec PyProof.Rows L2

/-! ### lists of iV -/
abbrev iV (ns : List Int) : List V := ns.map V.int
/-- a list of iV stands at a -/
abbrev IL (H : Hp) (a : Addr) (ns : List Int) : Prop := H a = some (.lst (iV ns))
theorem IL.seq {K : PySem.W.Frag} {H : Hp} {a : Addr} {ns : List Int} (h : IL H a ns) : SqL K H a (iV ns) := .inl (.inl h)
theorem ints_get {ns : List Int} {i : Nat} {x : V} (h : (iV ns)[i]? = some x) : ∃ z, ns[i]? = some z ∧ x = .int z := by
  rw [List.getElem?_map] at h
  cases e : ns[i]? with
  | none => rw [e] at h; cases h
  | some z => rw [e] at h; exact ⟨z, rfl, (Option.some.inj h).symm⟩
theorem get_ints {ns : List Int} {i : Nat} {z : Int} (h : ns[i]? = some z) : (iV ns)[i]? = some (.int z) := by
  rw [List.getElem?_map, h]; rfl
theorem atI_int {ns : List Int} {i : Int} {z : Int} (h : atI ns i = some z) : atI (iV ns) i = some (.int z) := by
  unfold atI at h ⊢
  rw [List.length_map]
  cases e : ixN ns.length i with
  | none => rw [e] at h; cases h
  | some j => rw [e] at h; exact get_ints h
theorem atI_nn {α : Type} {xs : List α} {i : Int} {v : α} (h0 : 0 ≤ i) (h : xs[i.toNat]? = some v) : atI xs i = some v := by
  have e : i = (i.toNat : Int) := by omega
  rw [e]
  exact atI_nat h
theorem atI_end {α : Type} {xs : List α} {v : α} (h : xs.getLast? = some v) : atI xs (-1) = some v := by
  obtain ⟨ys, rfl⟩ := List.getLast?_eq_some_iff.mp h
  exact atI_last ys v
theorem ints_push (ns : List Int) (z : Int) : iV ns ++ [V.int z] = iV (ns ++ [z]) := by simp
theorem ints_app (ns ms : List Int) : iV ns ++ iV ms = iV (ns ++ ms) := by simp
theorem sIx_lt {n d : Nat} (o : Option Int) (hd : d ≤ n) : HT.sIx n d o ≤ n := HT.sIx_le n d hd o
/-- xs[lo:hi] of any list -/
def cutL {α : Type} (xs : List α) (lo hi : Option Int) : List α := (xs.drop (HT.sIx xs.length 0 lo)).take (HT.sIx xs.length xs.length hi - HT.sIx xs.length 0 lo)
theorem cutV_map {α : Type} (f : α → V) (xs : List α) (lo hi : Option Int) : cutV (xs.map f) lo hi = (cutL xs lo hi).map f := by
  unfold cutV cutL
  rw [List.length_map, ← List.map_drop, ← List.map_take]
theorem cutL_to {α : Type} (xs : List α) (k : Int) (h0 : 0 ≤ k) : cutL xs none (some k) = xs.take k.toNat := by
  have e : k = (k.toNat : Int) := by omega
  unfold cutL
  rw [e, HT.sIx_nat, HT.sIx_none]
  simp only [List.drop_zero, Nat.sub_zero, Int.toNat_natCast]
  by_cases hk : k.toNat ≤ xs.length
  · rw [Nat.min_eq_left hk]
  · rw [Nat.min_eq_right (by omega), List.take_length, List.take_of_length_le (by omega)]
theorem cutL_from {α : Type} (xs : List α) (k : Int) (h0 : 0 ≤ k) : cutL xs (some k) none = xs.drop k.toNat := by
  have e : k = (k.toNat : Int) := by omega
  unfold cutL
  rw [e, HT.sIx_nat, HT.sIx_none]
  simp only [Int.toNat_natCast]
  by_cases hk : k.toNat ≤ xs.length
  · rw [Nat.min_eq_left hk]
    exact List.take_of_length_le (by rw [List.length_drop]; omega)
  · rw [Nat.min_eq_right (by omega), List.drop_of_length_le (Nat.le_refl _), List.drop_of_length_le (by omega)]
    simp
theorem cutL_init {α : Type} (xs : List α) : cutL xs none (some (-1)) = xs.dropLast := by
  have e : HT.sIx xs.length xs.length (some (-1)) = xs.length - 1 := by
    show (if (-1 : Int) < 0 then ((-1 : Int) + (xs.length : Int)).toNat else min (-1 : Int).toNat xs.length) = xs.length - 1
    rw [if_pos (by decide)]
    omega
  unfold cutL
  rw [e, HT.sIx_none xs.length 0, List.drop_zero, Nat.sub_zero, List.dropLast_eq_take]

/-! ### what an expression gives, the heap only growing -/
abbrev Evs (te : TE) (σ : L2.St) (H : Hp) (v : V) : Prop := ∀ Q : VK, (∀ H', Same H H' → Q v H') → te σ H Q
abbrev Evt (tt : TT) (σ : L2.St) (H : Hp) (b : Bool) : Prop := ∀ Q : Bool → Hp → Prop, (∀ H', Same H H' → Q b H') → tt σ H Q

/-! ### steps -/
section
variable {te : TE} {tt : TT} {t u : TS} {σ : L2.St} {H : Hp} {Q : VK} {D : Ends} {i : Nat}
/-- a value by what is known of it -/
theorem cutE (P : VK) (h : ∀ Q' : VK, (∀ v H', P v H' → Q' v H') → te σ H Q') (k : ∀ v H', P v H' → Q v H') : te σ H Q := h Q k
theorem cutT {Q : Bool → Hp → Prop} (P : Bool → Hp → Prop) (h : ∀ Q' : Bool → Hp → Prop, (∀ v H', P v H' → Q' v H') → tt σ H Q') (k : ∀ v H', P v H' → Q v H') : tt σ H Q := h Q k
theorem cb1 {r : List V → Hp → VK → Prop} {ta : TE} (h : ta σ H fun x H1 => r [x] H1 Q) : tCB r (tCons ta tNil) σ H Q := h
theorem cb2 {r : List V → Hp → VK → Prop} {ta tb : TE} (h : ta σ H fun x H1 => tb σ H1 fun y H2 => r [x, y] H2 Q) : tCB r (tCons ta (tCons tb tNil)) σ H Q := h
theorem ca1 {sp : Sp} {E : XK} {ta : TE} (h : ta σ H fun x H1 => sp [x] H1 Q E) : tCall sp [] E (tCons ta tNil) σ H Q := h
theorem ca2 {sp : Sp} {E : XK} {ta tb : TE} (h : ta σ H fun x H1 => tb σ H1 fun y H2 => sp [x, y] H2 Q E) : tCall sp [] E (tCons ta (tCons tb tNil)) σ H Q := h
theorem ca3 {sp : Sp} {E : XK} {ta tb tc : TE} (h : ta σ H fun x H1 => tb σ H1 fun y H2 => tc σ H2 fun z H3 => sp [x, y, z] H3 Q E) : tCall sp [] E (tCons ta (tCons tb (tCons tc tNil))) σ H Q := h
theorem op_go {r : R2} {ta tb : TE} (h : ta σ H fun x H1 => tb σ H1 fun y H2 => r x y H2 Q) : tOp r ta tb σ H Q := h
theorem tt_go {ta : TE} {Q : Bool → Hp → Prop} (h : ta σ H fun x H1 => ∃ k, x = .bl k ∧ Q k H1) : tTest ta σ H Q := h
theorem tb_go {ta : TE} {Q : Bool → Hp → Prop} (h : ta σ H fun x H1 => ∃ k, x = .bl k ∧ Q k H1) : tB ta σ H Q := h
theorem cutC {ta : TE} {tr : TA} {Q : List V → Hp → Prop} (P : VK) (h : ∀ Q' : VK, (∀ v H', P v H' → Q' v H') → ta σ H Q') (k : ∀ v H', P v H' → tr σ H' (fun xs H2 => Q (v :: xs) H2)) : tCons ta tr σ H Q := h _ k
/-- a statement by what holds behind it -/
theorem cutN (M : L2.St → Hp → Prop) (h : ∀ N' : L2.St → Hp → Prop, (∀ σ' H', M σ' H' → N' σ' H') → t { D with nx := N' } σ H) (k : ∀ σ' H', M σ' H' → u D σ' H') : tSeq t u D σ H := h _ k
theorem sq_set (h : te σ H fun x H1 => u D (σ.set i (some x)) H1) : tSeq (tAsg te (gName i)) u D σ H := h
theorem sq_drop (h : te σ H fun _ H1 => u D σ H1) : tSeq (tDrop te) u D σ H := h
theorem sq_if {t1 t2 : TS} (h : tt σ H fun b H1 => if b = true then t1 { D with nx := u D } σ H1 else t2 { D with nx := u D } σ H1) : tSeq (tIfS tt t1 t2) u D σ H := h
theorem sq_if0 {t1 : TS} (h : tt σ H fun b H1 => if b = true then t1 { D with nx := u D } σ H1 else u D σ H1) : tSeq (tIfS tt t1 tNext) u D σ H := h
theorem rt_ret (h : te σ H D.rt) : tRet te D σ H := h
theorem nx_set (h : te σ H fun x H1 => D.nx (σ.set i (some x)) H1) : tAsg te (gName i) D σ H := h
end

/-! ### comprehensions -/
/-- [e for x in xs], e giving ys place by place -/
theorem lc_mapL {K : PySem.W.Frag} {a D : Addr} {xs : List V} {j : Nat} {te : TE} {vs : List Nat} {σ : L2.St} {H1 : Hp} {Qd : Hp → Prop} (ys : List V) (hl : ys.length = xs.length) (hz : xs.length ≤ sizeLine) (hS : SqL K H1 a xs) (nD : H1 D = none)
    (hs : ∀ (i : Nat) (x y : V) (H' : Hp), xs[i]? = some x → ys[i]? = some y → Same H1 H' → Evs te ((wipe σ vs).set j (some x)) H' y) (hd : ∀ H', Same H1 H' → H' D = some (.lst ys) → Qd H')
    (hw : ∀ x : V, wipe ((wipe σ vs).set j (some x)) vs = wipe σ vs := by intro x; rfl) :
    ∃ W : Nat → Nat → Hp → Prop, (∃ m, W 0 m (upd H1 D (.lst []))) ∧ ∀ i m H, W i m H →
      ((Itl K a).stop i H ∧ Qd H) ∨ ((Itl K a).go i H ∧ ∃ Nx : Hp → Prop, (∀ H', Nx H' → ∃ m', m' < m ∧ W (i + 1) m' H') ∧ ∀ x H', (Itl K a).yld i H x H' → gName j x (wipe σ vs) H' fun σ2 H2 => wipe σ2 vs = wipe σ vs ∧ tYes σ2 H2 fun b H3 =>
        if b = true then te σ2 H3 fun y H4 => ∃ acc, H4 D = some (.lst acc) ∧ acc.length < sizeLine ∧ Nx (upd H4 D (.lst (acc ++ [y]))) else Nx H3) := by
  refine lc_list (xs := xs) (fun i H => Same H1 H ∧ H D = some (.lst (ys.take i))) ⟨same_new nD, ?_⟩ (fun i H _ hp => hp.1.seq hS) ?_ ?_
  · rw [upd_same, List.take_zero]
  · rintro i x H hx ⟨sm, eD⟩
    have hi : i < xs.length := (List.getElem?_eq_some_iff.mp hx).1
    have hy : ys[i]? = some (ys[i]'(by omega)) := List.getElem?_eq_getElem (by omega)
    refine ⟨hw x, ?_⟩
    unfold tYes
    dsimp only
    rw [if_pos rfl]
    refine hs i x _ H hx hy sm _ fun H4 s4 => ⟨ys.take i, s4 _ _ eD, ?_, ?_, ?_⟩
    · rw [List.length_take]
      omega
    · exact same_mut (sm.trans s4) nD
    · rw [upd_same, List.take_add_one, hy]
      rfl
  · rintro H ⟨sm, eD⟩
    refine hd H sm ?_
    rw [eD, ← hl, List.take_length]
/-- [e for x in xs if t] -/
theorem lc_filtL {K : PySem.W.Frag} {a D : Addr} {xs : List V} {j : Nat} {tt : TT} {te : TE} {vs : List Nat} {σ : L2.St} {H1 : Hp} {Qd : Hp → Prop} (f : V → Option V) (hz : xs.length ≤ sizeLine) (hS : SqL K H1 a xs) (nD : H1 D = none)
    (ht : ∀ (i : Nat) (x : V) (H' : Hp), xs[i]? = some x → Same H1 H' → Evt tt ((wipe σ vs).set j (some x)) H' (f x).isSome) (hs : ∀ (i : Nat) (x y : V) (H' : Hp), xs[i]? = some x → f x = some y → Same H1 H' → Evs te ((wipe σ vs).set j (some x)) H' y)
    (hd : ∀ H', Same H1 H' → H' D = some (.lst (xs.filterMap f)) → Qd H') (hw : ∀ x : V, wipe ((wipe σ vs).set j (some x)) vs = wipe σ vs := by intro x; rfl) :
    ∃ W : Nat → Nat → Hp → Prop, (∃ m, W 0 m (upd H1 D (.lst []))) ∧ ∀ i m H, W i m H →
      ((Itl K a).stop i H ∧ Qd H) ∨ ((Itl K a).go i H ∧ ∃ Nx : Hp → Prop, (∀ H', Nx H' → ∃ m', m' < m ∧ W (i + 1) m' H') ∧ ∀ x H', (Itl K a).yld i H x H' → gName j x (wipe σ vs) H' fun σ2 H2 => wipe σ2 vs = wipe σ vs ∧ tt σ2 H2 fun b H3 =>
        if b = true then te σ2 H3 fun y H4 => ∃ acc, H4 D = some (.lst acc) ∧ acc.length < sizeLine ∧ Nx (upd H4 D (.lst (acc ++ [y]))) else Nx H3) := by
  refine lc_list (xs := xs) (fun i H => Same H1 H ∧ H D = some (.lst ((xs.take i).filterMap f))) ⟨same_new nD, ?_⟩ (fun i H _ hp => hp.1.seq hS) ?_ ?_
  · rw [upd_same, List.take_zero]
    rfl
  · rintro i x H hx ⟨sm, eD⟩
    have hi : i < xs.length := (List.getElem?_eq_some_iff.mp hx).1
    have et : xs.take (i + 1) = xs.take i ++ [x] := by rw [List.take_add_one, hx]; rfl
    refine ⟨hw x, ht i x H hx sm _ fun H3 s3 => ?_⟩
    cases e : f x with
    | none =>
      refine iteF ⟨sm.trans s3, ?_⟩
      rw [et, List.filterMap_append]
      rw [s3 _ _ eD]
      simp [e]
    | some y =>
      refine iteT ?_
      refine hs i x y H3 hx e (sm.trans s3) _ fun H4 s4 => ⟨(xs.take i).filterMap f, s4 _ _ (s3 _ _ eD), ?_, ?_, ?_⟩
      · refine Nat.lt_of_le_of_lt (List.length_filterMap_le _ _) ?_
        rw [List.length_take]
        omega
      · exact same_mut ((sm.trans s3).trans s4) nD
      · rw [upd_same, et, List.filterMap_append]
        simp [e]
  · rintro H ⟨sm, eD⟩
    refine hd H sm ?_
    rw [eD, List.take_length]
/-- [e for i in range(..)] -/
theorem lc_mapR {D : Addr} {lo : Int} {n j : Nat} {te : TE} {vs : List Nat} {σ : L2.St} {H1 : Hp} {Qd : Hp → Prop} (F : Nat → V) (hz : n ≤ sizeLine) (nD : H1 D = none)
    (hs : ∀ i H', i < n → Same H1 H' → Evs te ((wipe σ vs).set j (some (.int (lo + i)))) H' (F i)) (hd : ∀ H', Same H1 H' → H' D = some (.lst ((List.range n).map F)) → Qd H')
    (hw : ∀ x : V, wipe ((wipe σ vs).set j (some x)) vs = wipe σ vs := by intro x; rfl) :
    ∃ W : Nat → Nat → Hp → Prop, (∃ m, W 0 m (upd H1 D (.lst []))) ∧ ∀ i m H, W i m H →
      ((Itr lo n).stop i H ∧ Qd H) ∨ ((Itr lo n).go i H ∧ ∃ Nx : Hp → Prop, (∀ H', Nx H' → ∃ m', m' < m ∧ W (i + 1) m' H') ∧ ∀ x H', (Itr lo n).yld i H x H' → gName j x (wipe σ vs) H' fun σ2 H2 => wipe σ2 vs = wipe σ vs ∧ tYes σ2 H2 fun b H3 =>
        if b = true then te σ2 H3 fun y H4 => ∃ acc, H4 D = some (.lst acc) ∧ acc.length < sizeLine ∧ Nx (upd H4 D (.lst (acc ++ [y]))) else Nx H3) := by
  refine lc_range (lo := lo) (n := n) (fun i H => Same H1 H ∧ H D = some (.lst ((List.range i).map F))) ⟨same_new nD, ?_⟩ ?_ ?_
  · rw [upd_same]
    rfl
  · rintro i H hi ⟨sm, eD⟩
    refine ⟨hw _, ?_⟩
    unfold tYes
    dsimp only
    rw [if_pos rfl]
    refine hs i H hi sm _ fun H4 s4 => ⟨(List.range i).map F, s4 _ _ eD, ?_, ?_, ?_⟩
    · rw [List.length_map, List.length_range]
      omega
    · exact same_mut (sm.trans s4) nD
    · rw [upd_same, List.range_succ, List.map_append]
      rfl
  · rintro H ⟨sm, eD⟩
    exact hd H sm eD

/-! ### data -/
/-- what repr, ==, isinstance may be asked of: data, or an empty dict -/
inductive Av (K : PySem.W.Frag) (H : Hp) : V → Option PyData → Prop where
  | d {v : V} {d : PyData} : Dp K H v d → SeqAt.shaped d = true → Av K H v (some d)
  | e {a : Addr} : H a = some (.dK []) → Av K H (.ref a) none
theorem SqL.same {K : PySem.W.Frag} {H H' : Hp} {a : Addr} {xs : List V} (s : Same H H') (h : SqL K H a xs) : SqL K H' a xs := s.seq h
theorem SqT.same {K : PySem.W.Frag} {H H' : Hp} {a : Addr} {xs : List V} (s : Same H H') (h : SqT K H a xs) : SqT K H' a xs := by
  rcases h with (h | ⟨o, h⟩) | h
  · exact .inl (.inl (s _ _ h))
  · exact .inl (.inr ⟨o, s _ _ h⟩)
  · exact .inr h
mutual
theorem Dp.same {K : PySem.W.Frag} {H H' : Hp} (s : Same H H') : ∀ (d : PyData) (v : V), Dp K H v d → Dp K H' v d
  | .none, _, .non => .non
  | .bool b, _, .bl _ => .bl b
  | .int i, _, .int _ => .int i
  | .str x, _, .str _ => .str x
  | .list ds, _, .lst h ha => .lst (s.seq h) (DpAll.same s ds _ ha)
  | .tuple ds, _, .tup h ha => .tup (SqT.same s h) (DpAll.same s ds _ ha)
  | .dict _, _, h => by cases h
theorem DpAll.same {K : PySem.W.Frag} {H H' : Hp} (s : Same H H') : ∀ (ds : List PyData) (vs : List V), DpAll K H vs ds → DpAll K H' vs ds
  | [], _, .nil => .nil
  | d :: ds, _, .cons h1 h2 => .cons (Dp.same s d _ h1) (DpAll.same s ds _ h2)
end
theorem Av.same {K : PySem.W.Frag} {H H' : Hp} {v : V} {o : Option PyData} (s : Same H H') (h : Av K H v o) : Av K H' v o := by
  cases h with
  | d h1 h2 => exact .d (Dp.same s _ _ h1) h2
  | e h1 => exact .e (s _ _ h1)
theorem dpAll_get {K : PySem.W.Frag} {H : Hp} : ∀ {ds : List PyData} {vs : List V} {i : Nat} {v : V}, DpAll K H vs ds → vs[i]? = some v → ∃ d, ds[i]? = some d ∧ Dp K H v d
  | _, _, _, _, .nil, h => by simp at h
  | d :: _, _, 0, _, .cons h1 _, h => ⟨d, rfl, by simp at h; rw [← h]; exact h1⟩
  | _ :: _, _, i + 1, _, .cons _ h2, h => by
    obtain ⟨d, e, q⟩ := dpAll_get (i := i) h2 (by simpa using h)
    exact ⟨d, by simpa using e, q⟩
theorem dpAll_len {K : PySem.W.Frag} {H : Hp} : ∀ {ds : List PyData} {vs : List V}, DpAll K H vs ds → vs.length = ds.length
  | _, _, .nil => rfl
  | _, _, .cons _ h => by rw [List.length_cons, List.length_cons, dpAll_len h]
theorem dpAll_ints {K : PySem.W.Frag} {H : Hp} : ∀ ns : List Int, DpAll K H (iV ns) (ns.map PyData.int)
  | [] => .nil
  | n :: ns => .cons (.int n) (dpAll_ints ns)
theorem dp_ints {K : PySem.W.Frag} {H : Hp} {a : Addr} {ns : List Int} (h : IL H a ns) : Dp K H (.ref a) (.list (ns.map .int)) := .lst h.seq (dpAll_ints ns)
theorem canLay_ints : ∀ ns : List Int, PyData.canLayAll0 (ns.map PyData.int) = true
  | [] => by simp [PyData.canLayAll0]
  | n :: ns => by simp [PyData.canLayAll0, PyData.canLay0, canLay_ints ns]
theorem depth_ints : ∀ ns : List Int, PyData.depthAll (ns.map PyData.int) = 0
  | [] => by simp [PyData.depthAll]
  | n :: ns => by simp [PyData.depthAll, PyData.depth, depth_ints ns]
theorem shaped_ints (ns : List Int) : SeqAt.shaped (.list (ns.map .int)) = true := by
  unfold SeqAt.shaped
  rw [PyData.canLay0, canLay_ints, PyData.depth, depth_ints]
  decide
theorem eqv_ints : ∀ ns ms : List Int, PyData.eqvAll (ns.map .int) (ms.map .int) = decide (ns = ms)
  | [], [] => by simp [PyData.eqvAll]
  | [], _ :: _ => by simp [PyData.eqvAll]
  | _ :: _, [] => by simp [PyData.eqvAll]
  | n :: ns, m :: ms => by
    simp only [List.map_cons, PyData.eqvAll, PyData.eqv, eqv_ints ns ms]
    by_cases h : n = m <;> simp [h]
/-- a value's class -/
def tyV (K : PySem.W.Frag) (H : Hp) (v : V) (o : Option PyData) : Value := match o with
  | none => .type "dict"
  | some .none => .type "NoneType"
  | some (.bool _) => .type "bool"
  | some (.int _) => .type "int"
  | some (.str _) => .type "str"
  | some (.list _) => .type "list"
  | some (.tuple _) => .type "tuple"
  | some (.dict _) => .type "dict"
end Wc

/-! isinstance of data; sizes of what repr shows. -/
namespace Wc
open PySem PySem.Spec PyProof.Rows L2
def cls : Option PyData → String
  | Option.none => "dict"
  | some .none => "NoneType"
  | some (.bool _) => "bool"
  | some (.int _) => "int"
  | some (.str _) => "str"
  | some (.list _) => "list"
  | some (.tuple _) => "tuple"
  | some (.dict _) => "dict"
theorem SqL.ty {K : PySem.W.Frag} {H : Hp} {a : Addr} {xs : List V} (h : SqL K H a xs) : TyX K H (.ref a) (.type "list") := by
  rcases h with (h | ⟨o, h⟩) | ⟨o, its, n, h, c, _⟩
  · exact .base (.lst h)
  · exact .base (.frz h)
  · exact .kList h c
theorem SqT.ty {K : PySem.W.Frag} {H : Hp} {a : Addr} {xs : List V} (h : SqT K H a xs) : TyX K H (.ref a) (.type "tuple") := by
  rcases h with (h | ⟨o, h⟩) | ⟨o, its, n, h, c, _⟩
  · exact .base (.tup h)
  · exact .fTuple h
  · exact .kTuple h c
theorem Av.ty {K : PySem.W.Frag} {H : Hp} {v : V} {o : Option PyData} (h : Av K H v o) : TyX K H v (.type (cls o)) := by
  cases h with
  | e h => exact .base (.dK h)
  | d h _ =>
    cases h with
    | non => exact .base .non
    | bl b => exact .base (.bl b)
    | int i => exact .base (.int i)
    | str x => exact .base (.str x)
    | lst h _ => exact SqL.ty h
    | tup h _ => exact SqT.ty h
def isI (o : Option PyData) (n : String) : Bool := (kitB (cls o) n).getD false
section
variable {K : PySem.W.Frag}
theorem isi_cls {n : String} (h : ∀ m ∈ ["dict", "NoneType", "bool", "int", "str", "list", "tuple"], (kitB m n).isSome = true) (o : Option PyData) : PySem.W.kitOne K (.type (cls o)) (.type n) = some (isI o n) := by
  refine kit_ty ?_
  have hm : cls o ∈ ["dict", "NoneType", "bool", "int", "str", "list", "tuple"] := by
    cases o with
    | none => simp [cls]
    | some d => cases d <;> simp [cls]
  obtain ⟨b, e⟩ := Option.isSome_iff_exists.mp (h _ hm)
  unfold isI
  rw [e]
  rfl
theorem isi_int (o : Option PyData) : PySem.W.kitOne K (.type (cls o)) (.type "int") = some (isI o "int") := isi_cls (by decide +kernel) o
theorem isi_bool (o : Option PyData) : PySem.W.kitOne K (.type (cls o)) (.type "bool") = some (isI o "bool") := isi_cls (by decide +kernel) o
theorem isi_list (o : Option PyData) : PySem.W.kitOne K (.type (cls o)) (.type "list") = some (isI o "list") := isi_cls (by decide +kernel) o
theorem isi_tuple (o : Option PyData) : PySem.W.kitOne K (.type (cls o)) (.type "tuple") = some (isI o "tuple") := isi_cls (by decide +kernel) o
theorem isi_str (o : Option PyData) : PySem.W.kitOne K (.type (cls o)) (.type "str") = some (isI o "str") := isi_cls (by decide +kernel) o
end
theorem isI_int : ∀ o, isI o "int" = (match o with | some (.int _) => true | some (.bool _) => true | _ => false)
  | Option.none => by decide +kernel
  | some .none => by show (kitB "NoneType" "int").getD false = false; decide +kernel
  | some (.bool _) => by show (kitB "bool" "int").getD false = true; decide +kernel
  | some (.int _) => by show (kitB "int" "int").getD false = true; decide +kernel
  | some (.str _) => by show (kitB "str" "int").getD false = false; decide +kernel
  | some (.list _) => by show (kitB "list" "int").getD false = false; decide +kernel
  | some (.tuple _) => by show (kitB "tuple" "int").getD false = false; decide +kernel
  | some (.dict _) => by show (kitB "dict" "int").getD false = false; decide +kernel
theorem isI_bool : ∀ o, isI o "bool" = (match o with | some (.bool _) => true | _ => false)
  | Option.none => by decide +kernel
  | some .none => by show (kitB "NoneType" "bool").getD false = false; decide +kernel
  | some (.bool _) => by show (kitB "bool" "bool").getD false = true; decide +kernel
  | some (.int _) => by show (kitB "int" "bool").getD false = false; decide +kernel
  | some (.str _) => by show (kitB "str" "bool").getD false = false; decide +kernel
  | some (.list _) => by show (kitB "list" "bool").getD false = false; decide +kernel
  | some (.tuple _) => by show (kitB "tuple" "bool").getD false = false; decide +kernel
  | some (.dict _) => by show (kitB "dict" "bool").getD false = false; decide +kernel
theorem isI_list : ∀ o, isI o "list" = (match o with | some (.list _) => true | _ => false)
  | Option.none => by decide +kernel
  | some .none => by show (kitB "NoneType" "list").getD false = false; decide +kernel
  | some (.bool _) => by show (kitB "bool" "list").getD false = false; decide +kernel
  | some (.int _) => by show (kitB "int" "list").getD false = false; decide +kernel
  | some (.str _) => by show (kitB "str" "list").getD false = false; decide +kernel
  | some (.list _) => by show (kitB "list" "list").getD false = true; decide +kernel
  | some (.tuple _) => by show (kitB "tuple" "list").getD false = false; decide +kernel
  | some (.dict _) => by show (kitB "dict" "list").getD false = false; decide +kernel
theorem isI_tuple : ∀ o, isI o "tuple" = (match o with | some (.tuple _) => true | _ => false)
  | Option.none => by decide +kernel
  | some .none => by show (kitB "NoneType" "tuple").getD false = false; decide +kernel
  | some (.bool _) => by show (kitB "bool" "tuple").getD false = false; decide +kernel
  | some (.int _) => by show (kitB "int" "tuple").getD false = false; decide +kernel
  | some (.str _) => by show (kitB "str" "tuple").getD false = false; decide +kernel
  | some (.list _) => by show (kitB "list" "tuple").getD false = false; decide +kernel
  | some (.tuple _) => by show (kitB "tuple" "tuple").getD false = true; decide +kernel
  | some (.dict _) => by show (kitB "dict" "tuple").getD false = false; decide +kernel
theorem isI_str : ∀ o, isI o "str" = (match o with | some (.str _) => true | _ => false)
  | Option.none => by decide +kernel
  | some .none => by show (kitB "NoneType" "str").getD false = false; decide +kernel
  | some (.bool _) => by show (kitB "bool" "str").getD false = false; decide +kernel
  | some (.int _) => by show (kitB "int" "str").getD false = false; decide +kernel
  | some (.str _) => by show (kitB "str" "str").getD false = true; decide +kernel
  | some (.list _) => by show (kitB "list" "str").getD false = false; decide +kernel
  | some (.tuple _) => by show (kitB "tuple" "str").getD false = false; decide +kernel
  | some (.dict _) => by show (kitB "dict" "str").getD false = false; decide +kernel

/-! ### how long a shown thing may be -/
mutual
def wt : PyData → Nat
  | .none => 4
  | .bool _ => 5
  | .int i => if i.natAbs < 100000 then 8 else 2000
  | .str x => 12 * x.length + 2
  | .list xs => wtAll xs + 3
  | .tuple xs => wtAll xs + 3
  | .dict _ => 0
def wtAll : List PyData → Nat
  | [] => 0
  | x :: xs => wt x + 2 + wtAll xs
end
mutual
/-- what repr shows without fault -/
def okD : PyData → Bool
  | .none => true
  | .bool _ => true
  | .int i => decide (i.natAbs.log2 < 1920)
  | .str x => x.cps.toList.all fun c => decide (c < 16 ^ 8)
  | .list xs => okAll xs
  | .tuple xs => okAll xs
  | .dict _ => false
def okAll : List PyData → Bool
  | [] => true
  | x :: xs => okD x && okAll xs
end
theorem shownAll_len : ∀ xs : List PyData, (PyData.shownAll xs).length = xs.length
  | [] => by simp [PyData.shownAll]
  | x :: xs => by simp [PyData.shownAll, shownAll_len xs]
mutual
theorem okD_show : ∀ d : PyData, okD d = true → d.showable = true ∧ d.shown.length ≤ wt d
  | .none, _ => by
    simp only [PyData.showable, PyData.shown, wt, true_and]
    decide
  | .bool b, _ => by
    simp only [PyData.showable, PyData.shown, wt, true_and]
    cases b <;> decide
  | .int i, h => by
    have h' : i.natAbs.log2 < 1920 := of_decide_eq_true (by simpa only [okD] using h)
    refine ⟨by simp only [PyData.showable]; exact decide_eq_true h', ?_⟩
    simp only [PyData.shown, wt]
    split
    · next h5 =>
      have := int_text_length_le10 (k := 5) (by decide) (a := i) h5
      rw [PySem.ofString_length]
      omega
    · have := int_text_len_1921 h'
      exact Nat.le_trans this (by decide)
  | .str x, h => by
    refine ⟨by simp only [PyData.showable], ?_⟩
    simp only [PyData.shown, wt]
    have h' : ∀ c ∈ x.cps.toList, c < 16 ^ 8 := fun c hc => of_decide_eq_true (List.all_eq_true.mp (by simpa only [okD] using h) c hc)
    have := StrLaws.reprText_len x h'
    omega
  | .list xs, h => by
    obtain ⟨h1, h2⟩ := okAll_show xs (by simpa only [okD] using h)
    refine ⟨by simpa only [PyData.showable] using h1, ?_⟩
    simp only [PyData.shown, wt]
    have := listText_len_le (PyData.shownAll xs)
    rw [shownAll_len] at this
    omega
  | .tuple xs, h => by
    obtain ⟨h1, h2⟩ := okAll_show xs (by simpa only [okD] using h)
    refine ⟨by simpa only [PyData.showable] using h1, ?_⟩
    simp only [PyData.shown, wt]
    have := tupleText_len_le (PyData.shownAll xs)
    rw [shownAll_len] at this
    omega
  | .dict _, h => by simp [okD] at h
theorem okAll_show : ∀ xs : List PyData, okAll xs = true → PyData.showableAll xs = true ∧ ((PyData.shownAll xs).map (·.length)).sum + 2 * xs.length ≤ wtAll xs
  | [], _ => by simp [PyData.showableAll, PyData.shownAll, wtAll]
  | x :: xs, h => by
    have h' : okD x = true ∧ okAll xs = true := by simpa [okAll] using h
    obtain ⟨a1, a2⟩ := okD_show x h'.1
    obtain ⟨b1, b2⟩ := okAll_show xs h'.2
    refine ⟨by simp [PyData.showableAll, a1, b1], ?_⟩
    simp only [PyData.shownAll, wtAll, List.map_cons, List.sum_cons, List.length_cons]
    omega
end
theorem okAll_ints : ∀ ns : List Int, (∀ n ∈ ns, n.natAbs.log2 < 1920) → okAll (ns.map .int) = true
  | [], _ => by simp [okAll]
  | n :: ns, h => by
    simp only [List.map_cons, okAll, okD, Bool.and_eq_true, decide_eq_true_eq]
    exact ⟨h n (List.mem_cons_self ..), okAll_ints ns fun m hm => h m (List.mem_cons_of_mem _ hm)⟩
theorem wt_int (i : Int) : wt (.int i) ≤ 2000 := by
  rw [wt]
  split <;> omega
theorem wtAll_ints : ∀ ns : List Int, wtAll (ns.map .int) ≤ 2002 * ns.length
  | [] => by simp [wtAll]
  | n :: ns => by
    have h1 := wt_int n
    have h2 := wtAll_ints ns
    simp only [List.map_cons, wtAll, List.length_cons]
    omega
theorem log_small {n : Int} {k : Nat} (h : n.natAbs < 2 ^ k) (hk : 0 < k) (h2 : k ≤ 1920) : n.natAbs.log2 < 1920 := Nat.lt_of_lt_of_le (PySem.Flt.log2_lt_of hk h) h2
theorem sm_of {n : Int} (h : n.natAbs ≤ 65535) : n.natAbs < 2 ^ 1000 := Nat.lt_of_lt_of_le (show n.natAbs < 2 ^ 16 by omega) (Nat.pow_le_pow_right (by decide) (by decide))
/-- repr of data, as the walk asks it -/
theorem repr_d {K : PySem.W.Frag} {H : Hp} {Q : VK} {v : V} {d : PyData} (h : Dp K H v d) (ok : okD d = true) (hw : wt d ≤ 16000000) (hd : d.depth ≤ 60) (q : Q (.str d.shown) H) : rReprD K [v] H Q :=
  .inl ⟨v, d, rfl, h, (okD_show d ok).1, hd, Nat.le_trans (okD_show d ok).2 (Nat.le_trans hw (by decide)), q⟩
theorem repr_e {K : PySem.W.Frag} {H : Hp} {Q : VK} {a : Addr} (h : H a = some (.dK [])) (q : Q (.str (PyData.shown (.dict []))) H) : rReprD K [.ref a] H Q := .inr ⟨a, rfl, h, q⟩
theorem repr_ints {K : PySem.W.Frag} {H : Hp} {Q : VK} {a : Addr} {ns : List Int} (h : IL H a ns) (hs : ∀ n ∈ ns, n.natAbs < 2 ^ 1000) (hl : ns.length ≤ 5000) (q : Q (.str (PyData.shown (.list (ns.map .int)))) H) : rReprD K [.ref a] H Q := by
  refine repr_d (dp_ints h) ?_ ?_ ?_ q
  · simp only [okD]
    exact okAll_ints ns fun n hn => log_small (hs n hn) (by decide) (by decide)
  · have := wtAll_ints ns
    simp only [wt]
    omega
  · simp only [PyData.depth, depth_ints]
    decide
end Wc

/-! Texts as lists of lengths: ends, totals; the pot of draws. -/
namespace Wc
open PySem PySem.Spec PyProof.Rows L2
/-! ### ends of words -/
/-- the ends of words that follow one another, the one before them ending at p -/
def endsFrom (p : Int) : List Int → List Int
  | [] => []
  | n :: ns => (p + (1 + n)) :: endsFrom (p + (1 + n)) ns
def endsOf (ns : List Int) : List Int := endsFrom (-1) ns
def total (ns : List Int) : Int := ns.sum + ns.length - 1
theorem endsFrom_len (p : Int) (ns : List Int) : (endsFrom p ns).length = ns.length := by
  induction ns generalizing p with
  | nil => rfl
  | cons n ns ih => simp only [endsFrom, List.length_cons, ih]
theorem endsOf_len (ns : List Int) : (endsOf ns).length = ns.length := endsFrom_len _ _
/-- the end of the i-th word, or what is ahead of the first -/
def lastFrom (p : Int) (ns : List Int) (i : Nat) : Int := p + (ns.take i).sum + ((ns.take i).length : Int)
def lastEnd (ns : List Int) (i : Nat) : Int := lastFrom (-1) ns i
theorem take_succ_get {α : Type} {ns : List α} {i : Nat} {z : α} (h : ns[i]? = some z) : ns.take (i + 1) = ns.take i ++ [z] := by
  rw [List.take_add_one, h]
  rfl
theorem lastFrom_succ {p : Int} {ns : List Int} {i : Nat} {z : Int} (h : ns[i]? = some z) : lastFrom p ns (i + 1) = lastFrom p ns i + (1 + z) := by
  unfold lastFrom
  rw [take_succ_get h, List.sum_append, List.length_append]
  simp
  omega
theorem endsFrom_get (p : Int) (ns : List Int) (i : Nat) (h : i < ns.length) : (endsFrom p ns)[i]? = some (lastFrom p ns (i + 1)) := by
  induction ns generalizing p i with
  | nil => simp at h
  | cons n ns ih =>
    cases i with
    | zero =>
      show some (p + (1 + n)) = some (lastFrom p (n :: ns) 1)
      unfold lastFrom
      simp
      omega
    | succ i =>
      show (endsFrom (p + (1 + n)) ns)[i]? = _
      rw [ih (p + (1 + n)) i (by simpa using h)]
      unfold lastFrom
      simp
      omega
theorem ends_get {ns : List Int} {i : Nat} {z : Int} (h : ns[i]? = some z) : (endsOf ns)[i]? = some (lastEnd ns (i + 1)) := endsFrom_get _ _ _ (List.getElem?_eq_some_iff.mp h).1
theorem lastEnd_succ {ns : List Int} {i : Nat} {z : Int} (h : ns[i]? = some z) : lastEnd ns (i + 1) = lastEnd ns i + (1 + z) := lastFrom_succ h
theorem ends_take {ns : List Int} {i : Nat} {z : Int} (h : ns[i]? = some z) : (endsOf ns).take i ++ [lastEnd ns (i + 1)] = (endsOf ns).take (i + 1) := by
  rw [take_succ_get (ends_get h)]

/-! ### values that are texts -/
def isLen : PyData → Bool
  | .int i => decide (1 ≤ i)
  | _ => false
def lenOf : PyData → Int
  | .int i => i
  | _ => 0
/-- a list of one or more lengths with at most 600 characters -/
def areLengths : Option PyData → Bool
  | some (.list ds) => !ds.isEmpty && ds.all isLen && decide (total (ds.map lenOf) ≤ 600)
  | _ => false
/-- a text -/
def Txt' (ns : List Int) : Prop := ns ≠ [] ∧ (∀ n ∈ ns, 1 ≤ n) ∧ total ns ≤ 600
theorem lens_ints (ns : List Int) : (ns.map PyData.int).map lenOf = ns := by
  rw [List.map_map]
  exact List.map_id'' (fun _ => rfl) ns
theorem areLengths_ints (ns : List Int) : areLengths (some (.list (ns.map .int))) = true ↔ Txt' ns := by
  unfold areLengths Txt'
  dsimp only
  rw [lens_ints]
  simp only [Bool.and_eq_true, Bool.not_eq_true', decide_eq_true_eq, List.all_map, List.all_eq_true, List.isEmpty_eq_false_iff, ne_eq, List.map_eq_nil_iff]
  constructor
  · rintro ⟨⟨a, b⟩, c⟩
    exact ⟨a, fun n hn => by have := b n hn; simpa [isLen] using this, c⟩
  · rintro ⟨a, b, c⟩
    exact ⟨⟨a, fun n hn => by have := b n hn; simpa [isLen] using this⟩, c⟩
theorem total_nonneg_len : ∀ ns : List Int, (∀ n ∈ ns, 1 ≤ n) → (ns.length : Int) ≤ ns.sum
  | [], _ => by simp
  | n :: ns, h => by
    have h1 := h n (List.mem_cons_self ..)
    have h2 := total_nonneg_len ns fun m hm => h m (List.mem_cons_of_mem _ hm)
    simp only [List.length_cons, List.sum_cons]
    omega
theorem mem_le_sum : ∀ ns : List Int, (∀ n ∈ ns, 1 ≤ n) → ∀ n ∈ ns, n ≤ ns.sum
  | [], _, n, hn => by cases hn
  | m :: ns, h, n, hn => by
    have h1 := h m (List.mem_cons_self ..)
    have h2 := total_nonneg_len ns fun m hm => h m (List.mem_cons_of_mem _ hm)
    simp only [List.sum_cons]
    rcases List.mem_cons.mp hn with rfl | hn
    · omega
    · have := mem_le_sum ns (fun m hm => h m (List.mem_cons_of_mem _ hm)) n hn
      omega
theorem Txt'.len {ns : List Int} (h : Txt' ns) : ns.length ≤ 300 := by
  have := total_nonneg_len ns h.2.1
  have := h.2.2
  unfold total at this
  omega
theorem Txt'.le {ns : List Int} (h : Txt' ns) : ∀ n ∈ ns, n ≤ 600 := by
  intro n hn
  have h1 := mem_le_sum ns h.2.1 n hn
  have h2 := h.2.2
  have h3 : 0 < ns.length := List.length_pos_iff.mpr h.1
  unfold total at h2
  omega
theorem dpAll_lens {K : PySem.W.Frag} {H : Hp} : ∀ {ds : List PyData} {xs : List V}, DpAll K H xs ds → ds.all isLen = true → xs = iV (ds.map lenOf)
  | _, _, .nil, _ => rfl
  | d :: ds, _, .cons h1 h2, c => by
    rw [List.all_cons, Bool.and_eq_true] at c
    have ih := dpAll_lens h2 c.2
    cases h1 with
    | int i => rw [ih]; rfl
    | non => cases c.1
    | bl _ => cases c.1
    | str _ => cases c.1
    | lst _ _ => cases c.1
    | tup _ _ => cases c.1
theorem av_ints {K : PySem.W.Frag} {H : Hp} {a : Addr} {ns : List Int} (h : SqL K H a (iV ns)) : Av K H (.ref a) (some (.list (ns.map .int))) := .d (.lst h (dpAll_ints ns)) (shaped_ints ns)
theorem av_text {K : PySem.W.Frag} {H : Hp} {v : V} {o : Option PyData} (h : Av K H v o) (c : areLengths o = true) : ∃ a ns, v = .ref a ∧ SqL K H a (iV ns) ∧ o = some (.list (ns.map .int)) ∧ Txt' ns := by
  cases h with
  | e _ => cases c
  | d h hs =>
    cases h with
    | non => cases c
    | bl _ => cases c
    | int _ => cases c
    | str _ => cases c
    | tup _ _ => cases c
    | @lst a xs ds hS ha =>
      have c' := c
      unfold areLengths at c
      rw [Bool.and_eq_true, Bool.and_eq_true] at c
      have e := dpAll_lens ha c.1.2
      have ed : (ds.map lenOf).map PyData.int = ds := by
        rw [List.map_map]
        have hall : ∀ d ∈ ds, isLen d = true := List.all_eq_true.mp c.1.2
        conv => rhs; rw [← List.map_id ds]
        refine List.map_congr_left fun d hd => ?_
        have := hall d hd
        cases d <;> first | rfl | cases this
      refine ⟨a, ds.map lenOf, rfl, e ▸ hS, by rw [ed], ?_⟩
      rw [← ed] at c'
      exact (areLengths_ints _).mp c'
theorem fresh_of {H H' : Hp} {p : Addr} (s : Same H H') (h : H' p = none) : H p = none := s.free h

/-! ### the pot of draws -/
/-- the pot stands at a: less than so many mixed draws so far -/
def Pot (H : Hp) (a : Addr) (n : Nat) : Prop := ∃ p0 p1 p2 : Int, H a = some (.lst [.int p0, .int p1, .int p2]) ∧ p1.natAbs < 2 ^ 200 ∧ 0 ≤ p2 ∧ p2 ≤ n
theorem Pot.some {H : Hp} {a : Addr} {n : Nat} (h : Pot H a n) : ∃ o, H a = some o := let ⟨_, _, _, h, _⟩ := h; ⟨_, h⟩
theorem Pot.ne {H : Hp} {a p : Addr} {n : Nat} (h : Pot H a n) (hp : H p = none) : p ≠ a := by
  obtain ⟨o, e⟩ := h.some
  exact (ne_of_none e hp).symm
theorem Pot.same {H H' : Hp} {a : Addr} {n : Nat} (s : Same H H') (h : Pot H a n) : Pot H' a n := let ⟨p0, p1, p2, h, r⟩ := h; ⟨p0, p1, p2, s _ _ h, r⟩
theorem Pot.mono {H : Hp} {a : Addr} {n m : Nat} (h : Pot H a n) (l : n ≤ m) : Pot H a m := let ⟨p0, p1, p2, h, h1, h2, h3⟩ := h; ⟨p0, p1, p2, h, h1, h2, by omega⟩
/-! ### more of texts -/
theorem repr_same_ne {z : Str} : (!decide (V.str z = V.str z)) = false := by simp
theorem txt_of {ws : List Int} {t : Int} (h0 : ws ≠ []) (h1 : ∀ w ∈ ws, 1 ≤ w) (h2 : total ws = t) (h3 : t ≤ 600) : Txt' ws := ⟨h0, h1, by omega⟩
theorem Txt'.small {ws : List Int} (h : Txt' ws) : ∀ m ∈ ws, m.natAbs < 2 ^ 1000 := by
  intro m hm
  have h1 := h.2.1 m hm
  have h2 := h.le m hm
  exact sm_of (by omega)
theorem Txt'.yes {ws : List Int} (h : Txt' ws) : areLengths (some (.list (ws.map .int))) = true := (areLengths_ints ws).mpr h
theorem lenLine {ws : List Int} (h : ws.length ≤ 5000) : ∀ ds, some (PyData.list (ws.map .int)) = some (.list ds) → ds.length ≤ sizeLine := by
  intro ds e
  injection e with e
  injection e with e
  rw [← e, List.length_map]
  exact Nat.le_trans h (by decide)
theorem ends_rng : ∀ (ns : List Int) (p : Int), (∀ n ∈ ns, 1 ≤ n) → ∀ e ∈ endsFrom p ns, p < e ∧ e ≤ p + ns.sum + ns.length
  | [], _, _, e, he => by cases he
  | n :: ns, p, h, e, he => by
    have h1 := h n (List.mem_cons_self ..)
    have hn : ∀ m ∈ ns, 1 ≤ m := fun m hm => h m (List.mem_cons_of_mem _ hm)
    have h2 := total_nonneg_len ns hn
    simp only [endsFrom, List.mem_cons] at he
    simp only [List.sum_cons, List.length_cons]
    rcases he with rfl | he
    · omega
    · have := ends_rng ns _ hn e he
      omega
theorem Txt'.ends {ns : List Int} (h : Txt' ns) : ∀ e ∈ (endsOf ns).dropLast, e.natAbs < 2 ^ 1000 := by
  intro e he
  have h1 := ends_rng ns (-1) h.2.1 e (List.dropLast_subset _ he)
  have h2 := h.2.2
  unfold total at h2
  exact sm_of (by omega)
theorem eqvL (ns ms : List Int) : PyData.eqv (.list (ns.map .int)) (.list (ms.map .int)) = decide (ns = ms) := by simp only [PyData.eqv, eqv_ints]
def shownO : Option PyData → Str
  | some d => d.shown
  | none => PyData.shown (.dict [])
theorem rep_ints (z : Int) (k : Int) : (List.replicate k.toNat [V.int z]).flatten = iV (List.replicate k.toNat z) := by
  induction k.toNat with
  | zero => rfl
  | succ n ih => rw [List.replicate_succ, List.replicate_succ, List.flatten_cons, ih]; rfl
end Wc

/-! zip and enumerate in loops and comprehensions; how texts are wrapped. -/
namespace Wc
open PySem PySem.Spec PyProof.Rows L2

/-! ### zip, enumerate -/
/-- [e for x, y in zip(xs, ys)], lists of one length -/
theorem lc_mapZ {K : PySem.W.Frag} {a b D : Addr} {xs ys : List V} {j k : Nat} {te : TE} {vs : List Nat} {σ : L2.St} {H1 : Hp} {Qd : Hp → Prop} (zs : List V) (hl : ys.length = xs.length) (hz : zs.length = xs.length) (h5 : xs.length ≤ sizeLine) (hA : SqL K H1 a xs) (hB : SqL K H1 b ys) (nD : H1 D = none)
    (hs : ∀ (i : Nat) (x y z : V) (H' : Hp), xs[i]? = some x → ys[i]? = some y → zs[i]? = some z → Same H1 H' → Evs te (((wipe σ vs).set j (some x)).set k (some y)) H' z) (hd : ∀ H', Same H1 H' → H' D = some (.lst zs) → Qd H')
    (hw : ∀ x y : V, wipe (((wipe σ vs).set j (some x)).set k (some y)) vs = wipe σ vs := by intro x y; rfl) :
    ∃ W : Nat → Nat → Hp → Prop, (∃ m, W 0 m (upd H1 D (.lst []))) ∧ ∀ i m H, W i m H →
      ((Itz K a b).stop i H ∧ Qd H) ∨ ((Itz K a b).go i H ∧ ∃ Nx : Hp → Prop, (∀ H', Nx H' → ∃ m', m' < m ∧ W (i + 1) m' H') ∧ ∀ x H', (Itz K a b).yld i H x H' → gTup K 2 (gCons (gName j) (gCons (gName k) gNil)) x (wipe σ vs) H' fun σ2 H2 => wipe σ2 vs = wipe σ vs ∧ tYes σ2 H2 fun b H3 =>
        if b = true then te σ2 H3 fun y H4 => ∃ acc, H4 D = some (.lst acc) ∧ acc.length < sizeLine ∧ Nx (upd H4 D (.lst (acc ++ [y]))) else Nx H3) := by
  refine lc_it (n := xs.length) (walk_zip (xs := xs) (ys := ys) (by rw [hl, Nat.min_self])) (fun i H => Same H1 H ∧ H D = some (.lst (zs.take i))) ⟨same_new nD, ?_⟩ (fun i H _ hp => ⟨hp.1.seq hA, hp.1.seq hB⟩) ?_ ?_
  · rw [upd_same, List.take_zero]
  · rintro i v H H' hi ⟨sm, eD⟩ ⟨T, x, y, rfl, nT, rfl, hx, hy⟩
    have hzz : zs[i]? = some (zs[i]'(by omega)) := List.getElem?_eq_getElem (by omega)
    have sT : Same H (upd H T (.tup [x, y])) := same_new nT
    refine ⟨T, [x, y], rfl, .inl (.inl upd_same), rfl, x, [y], rfl, y, [], rfl, rfl, hw x y, ?_⟩
    unfold tYes
    dsimp only
    rw [if_pos rfl]
    refine hs i x y _ _ hx hy hzz (sm.trans sT) _ fun H4 s4 => ⟨zs.take i, s4 _ _ (sT _ _ eD), ?_, ?_, ?_⟩
    · rw [List.length_take]
      omega
    · exact same_mut ((sm.trans sT).trans s4) nD
    · rw [upd_same, List.take_add_one, hzz]
      rfl
  · rintro H ⟨sm, eD⟩
    refine hd H sm ?_
    rw [eD, ← hz, List.take_length]
/-- [e for i, x in enumerate(xs)] -/
theorem lc_mapE {K : PySem.W.Frag} {a D : Addr} {xs : List V} {j k : Nat} {te : TE} {vs : List Nat} {σ : L2.St} {H1 : Hp} {Qd : Hp → Prop} (zs : List V) (hz : zs.length = xs.length) (h5 : xs.length ≤ sizeLine) (hA : SqL K H1 a xs) (nD : H1 D = none)
    (hs : ∀ (i : Nat) (x z : V) (H' : Hp), xs[i]? = some x → zs[i]? = some z → Same H1 H' → Evs te (((wipe σ vs).set j (some (.int (i : Nat)))).set k (some x)) H' z) (hd : ∀ H', Same H1 H' → H' D = some (.lst zs) → Qd H')
    (hw : ∀ x y : V, wipe (((wipe σ vs).set j (some x)).set k (some y)) vs = wipe σ vs := by intro x y; rfl) :
    ∃ W : Nat → Nat → Hp → Prop, (∃ m, W 0 m (upd H1 D (.lst []))) ∧ ∀ i m H, W i m H →
      ((Ite K a).stop i H ∧ Qd H) ∨ ((Ite K a).go i H ∧ ∃ Nx : Hp → Prop, (∀ H', Nx H' → ∃ m', m' < m ∧ W (i + 1) m' H') ∧ ∀ x H', (Ite K a).yld i H x H' → gTup K 2 (gCons (gName j) (gCons (gName k) gNil)) x (wipe σ vs) H' fun σ2 H2 => wipe σ2 vs = wipe σ vs ∧ tYes σ2 H2 fun b H3 =>
        if b = true then te σ2 H3 fun y H4 => ∃ acc, H4 D = some (.lst acc) ∧ acc.length < sizeLine ∧ Nx (upd H4 D (.lst (acc ++ [y]))) else Nx H3) := by
  refine lc_it (n := xs.length) (walk_enum (xs := xs)) (fun i H => Same H1 H ∧ H D = some (.lst (zs.take i))) ⟨same_new nD, ?_⟩ (fun i H _ hp => hp.1.seq hA) ?_ ?_
  · rw [upd_same, List.take_zero]
  · rintro i v H H' hi ⟨sm, eD⟩ ⟨T, x, y, rfl, nT, rfl, hx, hy⟩
    have ex : V.int (i : Nat) = x := Option.some.inj hx
    subst ex
    have hzz : zs[i]? = some (zs[i]'(by omega)) := List.getElem?_eq_getElem (by omega)
    have sT : Same H (upd H T (.tup [V.int (i : Nat), y])) := same_new nT
    refine ⟨T, [V.int (i : Nat), y], rfl, .inl (.inl upd_same), rfl, _, [y], rfl, y, [], rfl, rfl, hw _ y, ?_⟩
    unfold tYes
    dsimp only
    rw [if_pos rfl]
    refine hs i y _ _ hy hzz (sm.trans sT) _ fun H4 s4 => ⟨zs.take i, s4 _ _ (sT _ _ eD), ?_, ?_, ?_⟩
    · rw [List.length_take]
      omega
    · exact same_mut ((sm.trans sT).trans s4) nD
    · rw [upd_same, List.take_add_one, hzz]
      rfl
  · rintro H ⟨sm, eD⟩
    refine hd H sm ?_
    rw [eD, ← hz, List.take_length]

/-! ### wrapping -/
/-- the ends of the lines, from the start of a line on -/
def wrapGo (w start : Int) : List Int → List Int
  | [] => []
  | [s] => [s]
  | s :: t :: r => if t > start + w then s :: wrapGo w (s + 1) (t :: r) else wrapGo w start (t :: r)
def wrappedEnds (stops : List Int) (w : Int) : List Int := wrapGo w 0 stops
/-- the lengths of lines with these ends, the first one from start on -/
def lenFrom (start : Int) : List Int → List Int
  | [] => []
  | e :: r => (e - start) :: lenFrom (e + 1) r
def lengthsOf (ends : List Int) : List Int := lenFrom 0 ends
def startsOf (ends : List Int) : List Int := 0 :: ends.dropLast.map (· + 1)
def wrapOf (ns : List Int) (w : Int) : List Int := lengthsOf (wrappedEnds (endsOf ns) w)
theorem lenFrom_len (p : Int) (es : List Int) : (lenFrom p es).length = es.length := by
  induction es generalizing p with
  | nil => rfl
  | cons e r ih => simp only [lenFrom, List.length_cons, ih]
theorem wrapGo_len (w p : Int) (es : List Int) : (wrapGo w p es).length ≤ es.length := by
  fun_induction wrapGo w p es with
  | case1 => simp
  | case2 => simp
  | case3 p s t r h ih => simp only [List.length_cons] at ih ⊢; omega
  | case4 p s t r h ih => simp only [List.length_cons] at ih ⊢; omega
theorem wrapGo_ne (w p s : Int) (r : List Int) : wrapGo w p (s :: r) ≠ [] := by
  induction r generalizing p s with
  | nil => simp [wrapGo]
  | cons t r ih =>
    unfold wrapGo
    split
    · simp
    · exact ih p t
/-- word by word: the lengths of the lines, c the length of the present one -/
def lineGo (w c : Int) : List Int → List Int
  | [] => [c]
  | n :: r => if c + 1 + n ≤ w then lineGo w (c + 1 + n) r else c :: lineGo w n r
theorem wrap_line (w : Int) (ns : List Int) (start c : Int) : lenFrom start (wrapGo w start ((start + c) :: endsFrom (start + c) ns)) = lineGo w c ns := by
  induction ns generalizing start c with
  | nil =>
    simp only [endsFrom, wrapGo, lenFrom, lineGo]
    congr 1
    omega
  | cons n ns ih =>
    simp only [endsFrom]
    unfold wrapGo lineGo
    by_cases h : c + 1 + n ≤ w
    · rw [if_neg (by omega), if_pos h]
      have := ih start (c + 1 + n)
      have e : start + c + (1 + n) = start + (c + 1 + n) := by omega
      rw [e]
      exact this
    · rw [if_pos (by omega), if_neg h]
      show (start + c - start) :: lenFrom (start + c + 1) _ = _
      have e1 : start + c - start = c := by omega
      have e2 : start + c + (1 + n) = start + c + 1 + n := by omega
      rw [e1, e2, ih (start + c + 1) n]
/-- one more word -/
def lineStep (w : Int) (acc : List Int) (n : Int) : List Int := match acc.getLast? with
  | some l => if l + 1 + n ≤ w then acc.dropLast ++ [l + 1 + n] else acc ++ [n]
  | none => [n]
theorem lineStep_snoc (w : Int) (acc : List Int) (c n : Int) : lineStep w (acc ++ [c]) n = if c + 1 + n ≤ w then acc ++ [c + 1 + n] else acc ++ [c] ++ [n] := by
  simp [lineStep]
theorem lines_fold (w : Int) (ns : List Int) (acc : List Int) (c : Int) : ns.foldl (lineStep w) (acc ++ [c]) = acc ++ lineGo w c ns := by
  induction ns generalizing acc c with
  | nil => rfl
  | cons n ns ih =>
    rw [List.foldl_cons, lineStep_snoc, lineGo]
    split
    · exact ih acc _
    · rw [ih (acc ++ [c]) n, List.append_assoc]
      rfl
/-- the wrap of the first i words, word by word -/
def lawWrap (ns : List Int) (w : Int) : List Int := ns.foldl (lineStep w) []
theorem lawWrap_cons (n : Int) (ns : List Int) (w : Int) : lawWrap (n :: ns) w = lineGo w n ns := by
  have := lines_fold w ns [] n
  simpa [lawWrap, lineStep] using this
theorem wrap_eq (ns : List Int) (w : Int) : wrapOf ns w = lawWrap ns w := by
  cases ns with
  | nil => rfl
  | cons n ns =>
    rw [lawWrap_cons]
    have := wrap_line w ns 0 n
    unfold wrapOf wrappedEnds lengthsOf endsOf
    simp only [endsFrom]
    have e : (-1 : Int) + (1 + n) = 0 + n := by omega
    rw [e]
    exact this
theorem lawWrap_snoc (ns : List Int) (n : Int) (w : Int) : lawWrap (ns ++ [n]) w = lineStep w (lawWrap ns w) n := by
  unfold lawWrap
  rw [List.foldl_append]
  rfl
theorem lineGo_total (w c : Int) (ns : List Int) : total (lineGo w c ns) = total (c :: ns) := by
  induction ns generalizing c with
  | nil => rfl
  | cons n ns ih =>
    unfold lineGo
    split
    · rw [ih]
      unfold total
      simp only [List.sum_cons, List.length_cons]
      omega
    · have := ih n
      unfold total at this ⊢
      simp only [List.sum_cons, List.length_cons] at this ⊢
      omega
theorem lineGo_pos (w c : Int) (ns : List Int) (hc : 1 ≤ c) (h : ∀ n ∈ ns, 1 ≤ n) : ∀ l ∈ lineGo w c ns, 1 ≤ l := by
  induction ns generalizing c with
  | nil =>
    intro l hl
    rw [List.mem_singleton.mp hl]
    exact hc
  | cons n ns ih =>
    have hn := h n (List.mem_cons_self ..)
    have hr := fun m hm => h m (List.mem_cons_of_mem n hm)
    unfold lineGo
    split
    · exact ih _ (by omega) hr
    · intro l hl
      rcases List.mem_cons.mp hl with rfl | hl
      · exact hc
      · exact ih n hn hr l hl
theorem lineGo_ne (w c : Int) (ns : List Int) : lineGo w c ns ≠ [] := by
  induction ns generalizing c with
  | nil => simp [lineGo]
  | cons n ns ih =>
    unfold lineGo
    split
    · exact ih _
    · simp
/-- the wrap of a text is a text of as many characters -/
theorem Txt'.wrap {ns : List Int} (h : Txt' ns) (w : Int) : Txt' (lawWrap ns w) ∧ total (lawWrap ns w) = total ns := by
  obtain ⟨h0, h1, h2⟩ := h
  cases ns with
  | nil => exact (h0 rfl).elim
  | cons n ns =>
    rw [lawWrap_cons]
    have e := lineGo_total w n ns
    exact ⟨⟨lineGo_ne _ _ _, lineGo_pos _ _ _ (h1 n (List.mem_cons_self ..)) fun m hm => h1 m (List.mem_cons_of_mem _ hm), by omega⟩, e⟩
theorem lenFrom_ends (p : Int) (ns : List Int) : lenFrom (p + 1) (endsFrom p ns) = ns := by
  induction ns generalizing p with
  | nil => rfl
  | cons n ns ih =>
    simp only [endsFrom, lenFrom]
    rw [ih]
    congr 1
    omega
/-- the lengths of the ends are the lengths -/
theorem lengths_ends (ns : List Int) : lengthsOf (endsOf ns) = ns := by
  have := lenFrom_ends (-1) ns
  rwa [show (-1 : Int) + 1 = 0 by decide] at this
theorem ends_lenFrom (p : Int) (es : List Int) : endsFrom p (lenFrom (p + 1) es) = es := by
  induction es generalizing p with
  | nil => rfl
  | cons e r ih =>
    simp only [lenFrom, endsFrom]
    have e1 : p + (1 + (e - (p + 1))) = e := by omega
    rw [e1, ih]
theorem ends_lengths (es : List Int) : endsOf (lengthsOf es) = es := by
  have := ends_lenFrom (-1) es
  rwa [show (-1 : Int) + 1 = 0 by decide] at this
theorem endsOf_wrap (ns : List Int) (w : Int) : endsOf (lawWrap ns w) = wrappedEnds (endsOf ns) w := by
  rw [← wrap_eq]
  exact ends_lengths _
theorem IL.new {H : Hp} {a t : Addr} {ns : List Int} {o : HO} (h : IL H a ns) (n : H t = Option.none) : IL (upd H t o) a ns := at_new h n
theorem IL.same {H H' : Hp} {a : Addr} {ns : List Int} (h : IL H a ns) (s : Same H H') : IL H' a ns := s _ _ h
/-- data that repr shows and == compares: a bound of its length, one of its depth -/
structure Nc (w k : Nat) (d : PyData) : Prop where
  ok : okD d = true
  wt : wt d ≤ w
  dp : d.depth ≤ k
  cl : d.canLay0 = true
structure Ncs (w k : Nat) (ds : List PyData) : Prop where
  ok : okAll ds = true
  wt : wtAll ds ≤ w
  dp : PyData.depthAll ds ≤ k
  cl : PyData.canLayAll0 ds = true
theorem Nc.mono {w k w' k' : Nat} {d : PyData} (h : Nc w k d) (h1 : w ≤ w') (h2 : k ≤ k') : Nc w' k' d := ⟨h.ok, Nat.le_trans h.wt h1, Nat.le_trans h.dp h2, h.cl⟩
theorem Ncs.mono {w k w' k' : Nat} {d : List PyData} (h : Ncs w k d) (h1 : w ≤ w') (h2 : k ≤ k') : Ncs w' k' d := ⟨h.ok, Nat.le_trans h.wt h1, Nat.le_trans h.dp h2, h.cl⟩
theorem sm_of' {n : Int} (h : n.natAbs < 100000) : n.natAbs < 2 ^ 1000 := Nat.lt_of_lt_of_le (show n.natAbs < 2 ^ 17 from Nat.lt_of_lt_of_le h (by decide)) (Nat.pow_le_pow_right (by decide) (by decide))
theorem Nc.int {z : Int} (h : z.natAbs < 2 ^ 1000) : Nc 2000 0 (.int z) := ⟨by simp only [okD]; exact decide_eq_true (log_small h (by decide) (by decide)), wt_int _, by simp [PyData.depth], rfl⟩
/-- a small number -/
theorem Nc.intS {z : Int} (h : z.natAbs < 100000) : Nc 8 0 (.int z) := ⟨(Nc.int (sm_of' h)).ok, by rw [Wc.wt, if_pos h]; exact Nat.le_refl _, by simp [PyData.depth], rfl⟩
theorem Nc.bl (b : Bool) : Nc 5 0 (.bool b) := ⟨rfl, Nat.le_refl _, by simp [PyData.depth], rfl⟩
theorem Nc.non : Nc 4 0 .none := ⟨rfl, Nat.le_refl _, by simp [PyData.depth], rfl⟩
theorem Ncs.nil {k : Nat} : Ncs 0 k [] := ⟨rfl, Nat.le_refl _, by simp [PyData.depthAll], by simp [PyData.canLayAll0]⟩
theorem Ncs.cons {w w' k k' : Nat} {d : PyData} {ds : List PyData} (h : Nc w k d) (hs : Ncs w' k' ds) : Ncs (w + 2 + w') (max k k') (d :: ds) := by
  refine ⟨by simp only [okAll, h.ok, hs.ok, Bool.and_self], ?_, ?_, by simp only [PyData.canLayAll0, h.cl, hs.cl, Bool.and_self]⟩
  · have := h.wt
    have := hs.wt
    simp only [wtAll]
    omega
  · have := h.dp
    have := hs.dp
    simp only [PyData.depthAll]
    omega
theorem Nc.list {w k : Nat} {ds : List PyData} (h : Ncs w k ds) : Nc (w + 3) (k + 1) (.list ds) := by
  refine ⟨by simp only [okD, h.ok], ?_, ?_, by simp only [PyData.canLay0, h.cl]⟩
  · have := h.wt
    simp only [Wc.wt]
    omega
  · have := h.dp
    simp only [PyData.depth]
    omega
theorem Nc.tuple {w k : Nat} {ds : List PyData} (h : Ncs w k ds) : Nc (w + 3) (k + 1) (.tuple ds) := by
  refine ⟨by simp only [okD, h.ok], ?_, ?_, by simp only [PyData.canLay0, h.cl]⟩
  · have := h.wt
    simp only [Wc.wt]
    omega
  · have := h.dp
    simp only [PyData.depth]
    omega
/-- as many things, each alike small -/
theorem Ncs.all {w k n : Nat} {ds : List PyData} (hn : ds.length ≤ n) (h : ∀ d ∈ ds, Nc w k d) : Ncs ((w + 2) * n) k ds := by
  induction ds generalizing n with
  | nil => exact Ncs.nil.mono (Nat.zero_le _) (Nat.le_refl _)
  | cons d ds ih =>
    cases n with
    | zero => simp at hn
    | succ n =>
      have := ih (n := n) (by simpa using hn) fun e he => h e (List.mem_cons_of_mem d he)
      refine (Ncs.cons (h d (List.mem_cons_self ..)) this).mono ?_ (by simp)
      rw [Nat.mul_succ]
      omega
theorem Nc.ints {n : Nat} {ns : List Int} (hn : ns.length ≤ n) (h : ∀ m ∈ ns, m.natAbs < 2 ^ 1000) : Nc (2002 * n + 3) 1 (.list (ns.map .int)) := by
  refine Nc.list (Ncs.all (w := 2000) (by rw [List.length_map]; exact hn) fun d hd => ?_)
  obtain ⟨z, hz, rfl⟩ := List.mem_map.mp hd
  exact Nc.int (h z hz)
theorem Nc.intsS {n : Nat} {ns : List Int} (hn : ns.length ≤ n) (h : ∀ m ∈ ns, m.natAbs < 100000) : Nc (10 * n + 3) 1 (.list (ns.map .int)) := by
  refine Nc.list (Ncs.all (w := 8) (by rw [List.length_map]; exact hn) fun d hd => ?_)
  obtain ⟨z, hz, rfl⟩ := List.mem_map.mp hd
  exact Nc.intS (h z hz)
theorem Nc.shaped {w k : Nat} {d : PyData} (h : Nc w k d) (hk : k ≤ 64) : SeqAt.shaped d = true := by
  unfold SeqAt.shaped
  rw [h.cl, decide_eq_true (Nat.le_trans h.dp hk)]
  rfl
theorem Nc.refl {w k : Nat} {d : PyData} (h : Nc w k d) : PyData.eqv d d = true := SeqAt.eqv_refl d h.cl
theorem Nc.repr {w k : Nat} {K : PySem.W.Frag} {H : Hp} {Q : VK} {v : V} {d : PyData} (n : Nc w k d) (h : Dp K H v d) (hw : w ≤ 16000000) (hk : k ≤ 60) (q : Q (.str d.shown) H) : rReprD K [v] H Q := repr_d h n.ok (Nat.le_trans n.wt hw) (Nat.le_trans n.dp hk) q
/-- x == x, x != x -/
theorem Nc.eqD {w k : Nat} {K : PySem.W.Frag} {H : Hp} {Q : VK} {x y : V} {d : PyData} (n : Nc w k d) (h1 : Dp K H x d) (h2 : Dp K H y d) (hk : k ≤ 64) (q : Q (.bl true) H) : rEqD K x y H Q := ⟨d, d, h1, h2, n.shaped hk, n.shaped hk, by rw [n.refl]; exact q⟩
theorem Nc.neD {w k : Nat} {K : PySem.W.Frag} {H : Hp} {Q : VK} {x y : V} {d : PyData} (n : Nc w k d) (h1 : Dp K H x d) (h2 : Dp K H y d) (hk : k ≤ 64) (q : Q (.bl false) H) : rNeD K x y H Q := ⟨d, d, h1, h2, n.shaped hk, n.shaped hk, by rw [n.refl]; exact q⟩
theorem ints_small {ns : List Int} {B : Int} (hB : B ≤ 2 ^ 60) (h : ∀ m ∈ ns, -B ≤ m ∧ m ≤ B) : ∀ m ∈ ns, m.natAbs < 2 ^ 1000 := by
  intro m hm
  obtain ⟨h1, h2⟩ := h m hm
  refine Nat.lt_of_lt_of_le (m := 2 ^ 61) ?_ (Nat.pow_le_pow_right (by decide) (by decide))
  have e60 : (2 : Int) ^ 60 = 1152921504606846976 := by decide
  have e61 : (2 : Nat) ^ 61 = 2305843009213693952 := by decide
  rw [e61]
  rw [e60] at hB
  omega
theorem Pot.mut {H : Hp} {a p : Addr} {n : Nat} {u : HO} (h : Pot H a n) (ne : a ≠ p) : Pot (upd H p u) a n := let ⟨p0, p1, p2, h, r⟩ := h; ⟨p0, p1, p2, at_mut h ne, r⟩
theorem IL.mut {H : Hp} {a p : Addr} {ns : List Int} {u : HO} (h : IL H a ns) (ne : a ≠ p) : IL (upd H p u) a ns := at_mut h ne
theorem Pot.new {H : Hp} {a p : Addr} {n : Nat} {u : HO} (h : Pot H a n) (np : H p = Option.none) : Pot (upd H p u) a n := h.same (same_new np)
theorem neI {z : Int} : (!decide (V.int z = V.int z)) = false := by simp
theorem neV {z : V} : (!decide (z = z)) = false := by simp
end Wc

/-! comprehensions with any state; those that give data. -/
namespace Wc
open PySem PySem.Spec PyProof.Rows L2

/-- [e for x in xs], any state: P i acc H with acc in D -/
theorem lc_genL {K : PySem.W.Frag} {a D : Addr} {xs : List V} {j : Nat} {te : TE} {vs : List Nat} {σ : L2.St} {H1 : Hp} {Qd : Hp → Prop} (P : Nat → List V → Hp → Prop) (hz : xs.length ≤ sizeLine)
    (h0 : P 0 [] (upd H1 D (.lst []))) (hsrc : ∀ i acc H, P i acc H → H D = some (.lst acc) → SqL K H a xs)
    (hs : ∀ i x acc H, xs[i]? = some x → acc.length = i → P i acc H → H D = some (.lst acc) → ∀ Q : VK, (∀ y H', H' D = some (.lst acc) → P (i + 1) (acc ++ [y]) (upd H' D (.lst (acc ++ [y]))) → Q y H') → te ((wipe σ vs).set j (some x)) H Q)
    (hd : ∀ acc H', acc.length = xs.length → P xs.length acc H' → H' D = some (.lst acc) → Qd H')
    (hw : ∀ x : V, wipe ((wipe σ vs).set j (some x)) vs = wipe σ vs := by intro x; rfl) :
    ∃ W : Nat → Nat → Hp → Prop, (∃ m, W 0 m (upd H1 D (.lst []))) ∧ ∀ i m H, W i m H →
      ((Itl K a).stop i H ∧ Qd H) ∨ ((Itl K a).go i H ∧ ∃ Nx : Hp → Prop, (∀ H', Nx H' → ∃ m', m' < m ∧ W (i + 1) m' H') ∧ ∀ x H', (Itl K a).yld i H x H' → gName j x (wipe σ vs) H' fun σ2 H2 => wipe σ2 vs = wipe σ vs ∧ tYes σ2 H2 fun b H3 =>
        if b = true then te σ2 H3 fun y H4 => ∃ acc, H4 D = some (.lst acc) ∧ acc.length < sizeLine ∧ Nx (upd H4 D (.lst (acc ++ [y]))) else Nx H3) := by
  refine lc_list (xs := xs) (fun i H => ∃ acc, acc.length = i ∧ H D = some (.lst acc) ∧ P i acc H) ⟨[], rfl, upd_same, h0⟩ (fun i H _ ⟨acc, _, e, hp⟩ => hsrc i acc H hp e) ?_ ?_
  · rintro i x H hx ⟨acc, ha, eD, hp⟩
    have hi : i < xs.length := (List.getElem?_eq_some_iff.mp hx).1
    refine ⟨hw x, ?_⟩
    unfold tYes
    dsimp only
    rw [if_pos rfl]
    refine hs i x acc H hx ha hp eD _ fun y H4 e4 p4 => ⟨acc, e4, by omega, acc ++ [y], by rw [List.length_append, List.length_singleton, ha], upd_same, p4⟩
  · rintro H ⟨acc, ha, eD, hp⟩
    exact hd acc H ha hp eD
/-- [e for i in range(..)], any state -/
theorem lc_genR {D : Addr} {lo : Int} {n j : Nat} {te : TE} {vs : List Nat} {σ : L2.St} {H1 : Hp} {Qd : Hp → Prop} (P : Nat → List V → Hp → Prop) (hz : n ≤ sizeLine)
    (h0 : P 0 [] (upd H1 D (.lst [])))
    (hs : ∀ i acc H, i < n → acc.length = i → P i acc H → H D = some (.lst acc) → ∀ Q : VK, (∀ y H', H' D = some (.lst acc) → P (i + 1) (acc ++ [y]) (upd H' D (.lst (acc ++ [y]))) → Q y H') → te ((wipe σ vs).set j (some (.int (lo + i)))) H Q)
    (hd : ∀ acc H', acc.length = n → P n acc H' → H' D = some (.lst acc) → Qd H')
    (hw : ∀ x : V, wipe ((wipe σ vs).set j (some x)) vs = wipe σ vs := by intro x; rfl) :
    ∃ W : Nat → Nat → Hp → Prop, (∃ m, W 0 m (upd H1 D (.lst []))) ∧ ∀ i m H, W i m H →
      ((Itr lo n).stop i H ∧ Qd H) ∨ ((Itr lo n).go i H ∧ ∃ Nx : Hp → Prop, (∀ H', Nx H' → ∃ m', m' < m ∧ W (i + 1) m' H') ∧ ∀ x H', (Itr lo n).yld i H x H' → gName j x (wipe σ vs) H' fun σ2 H2 => wipe σ2 vs = wipe σ vs ∧ tYes σ2 H2 fun b H3 =>
        if b = true then te σ2 H3 fun y H4 => ∃ acc, H4 D = some (.lst acc) ∧ acc.length < sizeLine ∧ Nx (upd H4 D (.lst (acc ++ [y]))) else Nx H3) := by
  refine lc_range (lo := lo) (n := n) (fun i H => ∃ acc, acc.length = i ∧ H D = some (.lst acc) ∧ P i acc H) ⟨[], rfl, upd_same, h0⟩ ?_ ?_
  · rintro i H hi ⟨acc, ha, eD, hp⟩
    refine ⟨hw _, ?_⟩
    unfold tYes
    dsimp only
    rw [if_pos rfl]
    refine hs i acc H hi ha hp eD _ fun y H4 e4 p4 => ⟨acc, e4, by omega, acc ++ [y], by rw [List.length_append, List.length_singleton, ha], upd_same, p4⟩
  · rintro H ⟨acc, ha, eD, hp⟩
    exact hd acc H ha hp eD
theorem DpAll.snoc {K : PySem.W.Frag} {H : Hp} {v : V} {d : PyData} : ∀ {vs : List V} {ds : List PyData}, DpAll K H vs ds → Dp K H v d → DpAll K H (vs ++ [v]) (ds ++ [d])
  | _, _, .nil, h => .cons h .nil
  | _, _, .cons h1 h2, h => .cons h1 (DpAll.snoc h2 h)
/-- what holds of data whose heap only grows, but for the list in D -/
theorem sameB_new {H H' : Hp} {D : Addr} (n : H D = Option.none) (s : SameB D H H') : Same H H' := fun b o e => s b o (ne_of_none e n) e
/-- [e for x in xs], e giving new data -/
theorem lc_mapD {K : PySem.W.Frag} {a D : Addr} {xs : List V} {j : Nat} {te : TE} {vs : List Nat} {σ : L2.St} {H1 : Hp} {Qd : Hp → Prop} (ds : List PyData) (hl : ds.length = xs.length) (hz : xs.length ≤ sizeLine) (hS : SqL K H1 a xs) (nD : H1 D = none)
    (hs : ∀ (i : Nat) (x : V) (d : PyData) (H' : Hp), xs[i]? = some x → ds[i]? = some d → Same H1 H' → (∃ o, H' D = some o) → ∀ Q : VK, (∀ y H2, Same H' H2 → (∀ H3, (∀ b o, b ≠ D → H2 b = some o → H3 b = some o) → Dp K H3 y d) → Q y H2) → te ((wipe σ vs).set j (some x)) H' Q)
    (hd : ∀ H' acc, Same H1 H' → H' D = some (.lst acc) → DpAll K H' acc ds → Qd H')
    (hw : ∀ x : V, wipe ((wipe σ vs).set j (some x)) vs = wipe σ vs := by intro x; rfl) :
    ∃ W : Nat → Nat → Hp → Prop, (∃ m, W 0 m (upd H1 D (.lst []))) ∧ ∀ i m H, W i m H →
      ((Itl K a).stop i H ∧ Qd H) ∨ ((Itl K a).go i H ∧ ∃ Nx : Hp → Prop, (∀ H', Nx H' → ∃ m', m' < m ∧ W (i + 1) m' H') ∧ ∀ x H', (Itl K a).yld i H x H' → gName j x (wipe σ vs) H' fun σ2 H2 => wipe σ2 vs = wipe σ vs ∧ tYes σ2 H2 fun b H3 =>
        if b = true then te σ2 H3 fun y H4 => ∃ acc, H4 D = some (.lst acc) ∧ acc.length < sizeLine ∧ Nx (upd H4 D (.lst (acc ++ [y]))) else Nx H3) := by
  refine lc_genL (fun i acc H => Same H1 H ∧ ∀ H3, (∀ b o, b ≠ D → H b = some o → H3 b = some o) → DpAll K H3 acc (ds.take i)) hz ⟨same_new nD, fun _ _ => .nil⟩ (fun i acc H hp _ => hp.1.seq hS) ?_ ?_ hw
  · rintro i x acc H hx ha ⟨sm, hp⟩ eD Q k
    have hi : i < xs.length := (List.getElem?_eq_some_iff.mp hx).1
    have hdd : ds[i]? = some (ds[i]'(by omega)) := List.getElem?_eq_getElem (by omega)
    refine hs i x _ H hx hdd sm ⟨_, eD⟩ Q fun y H2 s2 hy => k y H2 (s2 _ _ eD) ⟨same_mut (sm.trans s2) nD, fun H3 s3 => ?_⟩
    have s23 : ∀ b o, b ≠ D → H2 b = some o → H3 b = some o := fun b o nb e => s3 b o nb (by rw [upd_ne nb]; exact e)
    rw [List.take_add_one, hdd]
    exact DpAll.snoc (hp H3 fun b o nb e => s23 b o nb (s2 b o e)) (hy H3 s23)
  · rintro acc H ha ⟨sm, hp⟩ eD
    refine hd H acc sm eD ?_
    have := hp H fun b o _ e => e
    rwa [← hl, List.take_length] at this
theorem if_go {tt : TT} {t1 t2 : TS} {D : Ends} {σ : L2.St} {H : Hp} (h : tt σ H fun b H1 => if b = true then t1 D σ H1 else t2 D σ H1) : tIfS tt t1 t2 D σ H := h
/-- a test that fails, with what holds of the heap behind it -/
abbrev No (tt : TT) (σ : L2.St) (H : Hp) (P : Hp → Prop) : Prop := ∀ Q : Bool → Hp → Prop, (∀ H', P H' → Q false H') → tt σ H Q
section
variable {ta tb : TT} {t1 : TS} {u : TS} {D : Ends} {σ : L2.St} {H : Hp} {Q : Bool → Hp → Prop}
theorem or_no (P : Hp → Prop) (h : No ta σ H P) (k : ∀ H', P H' → tb σ H' Q) : tOr ta tb σ H Q := h _ fun H' p => by
  rw [if_neg (by decide)]
  exact k H' p
theorem sq_no (P : Hp → Prop) (h : No ta σ H P) (k : ∀ H', P H' → u D σ H') : tSeq (tIfS ta t1 tNext) u D σ H := h _ fun H' p => by
  rw [if_neg (by decide)]
  exact k H' p
theorem if_no (P : Hp → Prop) (h : No ta σ H P) (k : ∀ H', P H' → D.nx σ H') : tIfS ta t1 tNext D σ H := h _ fun H' p => by
  rw [if_neg (by decide)]
  exact k H' p
end
/-- for x, y in zip(xs, ys), lists of one length -/
theorem for_zip {K : PySem.W.Frag} {a b : Addr} {xs ys : List V} {j k : Nat} {tb : TS} {D : Ends} {σ : L2.St} {H : Hp} (Pv : Nat → L2.St → Hp → Prop) (hl : ys.length = xs.length) (h0 : Pv 0 σ H) (hG : ∀ i σ H, Pv i σ H → SqL K H a xs ∧ SqL K H b ys)
    (hs : ∀ i x y σ H T, xs[i]? = some x → ys[i]? = some y → H T = Option.none → Pv i σ H → tb { D with nx := Pv (i + 1), ct := Pv (i + 1), bk := D.nx } ((σ.set j (some x)).set k (some y)) (upd H T (.tup [x, y]))) (hd : ∀ σ H, Pv xs.length σ H → D.nx σ H) :
    ∃ W : Nat → Nat → L2.St → Hp → Prop, (∃ m, W 0 m σ H) ∧ ∀ i m σ H, W i m σ H →
      ((Itz K a b).stop i H ∧ D.nx σ H) ∨ ((Itz K a b).go i H ∧ ∃ N : L2.St → Hp → Prop, (∀ σ' H', N σ' H' → ∃ m', m' < m ∧ W (i + 1) m' σ' H') ∧ ∀ x H', (Itz K a b).yld i H x H' → gTup K 2 (gCons (gName j) (gCons (gName k) gNil)) x σ H' fun σ2 H2 => tb { D with nx := N, ct := N, bk := D.nx } σ2 H2) := by
  refine for_it (n := xs.length) (walk_zip (xs := xs) (ys := ys) (by rw [hl, Nat.min_self])) Pv h0 (fun i σ H _ p => hG i σ H p) ?_ hd
  rintro i v σ H H2 hi p ⟨T, x, y, rfl, nT, rfl, hx, hy⟩
  exact ⟨T, _, rfl, .inl (.inl upd_same), rfl, _, _, rfl, _, _, rfl, rfl, hs i x y σ H T hx hy nT p⟩
/-- [x for x in xs if t], ints -/
theorem lc_filtI {K : PySem.W.Frag} {a D : Addr} {all : List Int} {j : Nat} {tt : TT} {te : TE} {vs : List Nat} {σ : L2.St} {H1 : Hp} {Qd : Hp → Prop} (c : Int → Bool) (hz : all.length ≤ sizeLine) (hS : SqL K H1 a (iV all)) (nD : H1 D = Option.none)
    (ht : ∀ (i : Nat) (z : Int) (H' : Hp), all[i]? = some z → Same H1 H' → Evt tt ((wipe σ vs).set j (some (.int z))) H' (c z)) (hs : ∀ (z : Int) (H' : Hp), Evs te ((wipe σ vs).set j (some (.int z))) H' (.int z))
    (hd : ∀ H', Same H1 H' → IL H' D (all.filter c) → Qd H') (hw : ∀ x : V, wipe ((wipe σ vs).set j (some x)) vs = wipe σ vs := by intro x; rfl) :
    ∃ W : Nat → Nat → Hp → Prop, (∃ m, W 0 m (upd H1 D (.lst []))) ∧ ∀ i m H, W i m H →
      ((Itl K a).stop i H ∧ Qd H) ∨ ((Itl K a).go i H ∧ ∃ Nx : Hp → Prop, (∀ H', Nx H' → ∃ m', m' < m ∧ W (i + 1) m' H') ∧ ∀ x H', (Itl K a).yld i H x H' → gName j x (wipe σ vs) H' fun σ2 H2 => wipe σ2 vs = wipe σ vs ∧ tt σ2 H2 fun b H3 =>
        if b = true then te σ2 H3 fun y H4 => ∃ acc, H4 D = some (.lst acc) ∧ acc.length < sizeLine ∧ Nx (upd H4 D (.lst (acc ++ [y]))) else Nx H3) := by
  refine lc_filtL (xs := iV all) (fun v => match v with | .int z => if c z = true then some (.int z) else Option.none | _ => Option.none) (by rw [List.length_map]; exact hz) hS nD ?_ ?_ ?_ hw
  · intro i x H' hx s
    obtain ⟨z, hz1, rfl⟩ := ints_get hx
    have e : (if c z = true then some (V.int z) else Option.none).isSome = c z := by cases c z <;> rfl
    dsimp only
    rw [e]
    exact ht i z H' hz1 s
  · intro i x y H' hx hy s
    obtain ⟨z, hz1, rfl⟩ := ints_get hx
    dsimp only at hy
    split at hy
    · rw [← Option.some.inj hy]
      exact hs z H'
    · cases hy
  · intro H' s e
    refine hd H' s ?_
    show H' D = _
    rw [e]
    congr 2
    clear e s hd hs ht hS hz
    induction all with
    | nil => rfl
    | cons z r ih =>
      show List.filterMap _ (V.int z :: iV r) = _
      rw [List.filter_cons, List.filterMap_cons]
      dsimp only
      cases h : c z with
      | true => simp [ih]
      | false => simp [ih]
theorem neF {x y : V} {i : Decidable (x = y)} (h : x = y) : (!(@decide (x = y) i)) = false := by
  rw [decide_eq_true h]
  rfl
theorem eqT {x y : V} {i : Decidable (x = y)} (h : x = y) : (@decide (x = y) i) = true := decide_eq_true h
theorem neT {x y : V} {i : Decidable (x = y)} (h : x ≠ y) : (!(@decide (x = y) i)) = true := by
  rw [decide_eq_false h]
  rfl
theorem gn_go {i : Nat} {v : V} {σ : L2.St} {H : Hp} {Q : L2.St → Hp → Prop} (h : Q (σ.set i (some v)) H) : gName i v σ H Q := h
/-- [e for x, y in zip(xs, ys) if t], where t never holds -/
theorem lc_noneZ {K : PySem.W.Frag} {a b D : Addr} {xs ys : List V} {j k : Nat} {tt : TT} {te : TE} {vs : List Nat} {σ : L2.St} {H1 : Hp} {Qd : Hp → Prop} (hA : SqL K H1 a xs) (hB : SqL K H1 b ys) (nD : H1 D = Option.none)
    (hs : ∀ (i : Nat) (x y : V) (H' : Hp), xs[i]? = some x → ys[i]? = some y → Same H1 H' → Evt tt (((wipe σ vs).set j (some x)).set k (some y)) H' false) (hd : ∀ H', Same H1 H' → H' D = some (.lst []) → Qd H')
    (hw : ∀ x y : V, wipe (((wipe σ vs).set j (some x)).set k (some y)) vs = wipe σ vs := by intro x y; rfl) :
    ∃ W : Nat → Nat → Hp → Prop, (∃ m, W 0 m (upd H1 D (.lst []))) ∧ ∀ i m H, W i m H →
      ((Itz K a b).stop i H ∧ Qd H) ∨ ((Itz K a b).go i H ∧ ∃ Nx : Hp → Prop, (∀ H', Nx H' → ∃ m', m' < m ∧ W (i + 1) m' H') ∧ ∀ x H', (Itz K a b).yld i H x H' → gTup K 2 (gCons (gName j) (gCons (gName k) gNil)) x (wipe σ vs) H' fun σ2 H2 => wipe σ2 vs = wipe σ vs ∧ tt σ2 H2 fun b H3 =>
        if b = true then te σ2 H3 fun y H4 => ∃ acc, H4 D = some (.lst acc) ∧ acc.length < sizeLine ∧ Nx (upd H4 D (.lst (acc ++ [y]))) else Nx H3) := by
  refine lc_it (n := min xs.length ys.length) (walk_zip (xs := xs) (ys := ys) rfl) (fun i H => Same H1 H ∧ H D = some (.lst [])) ⟨same_new nD, upd_same⟩ (fun i H _ hp => ⟨hp.1.seq hA, hp.1.seq hB⟩) ?_ ?_
  · rintro i v H H' hi ⟨sm, eD⟩ ⟨T, x, y, rfl, nT, rfl, hx, hy⟩
    have sT : Same H (upd H T (.tup [x, y])) := same_new nT
    refine ⟨T, [x, y], rfl, .inl (.inl upd_same), rfl, x, [y], rfl, y, [], rfl, rfl, hw x y, ?_⟩
    refine hs i x y _ hx hy (sm.trans sT) _ fun H3 s3 => ?_
    rw [if_neg (by decide)]
    exact ⟨(sm.trans sT).trans s3, s3 _ _ (sT _ _ eD)⟩
  · rintro H ⟨sm, eD⟩
    exact hd H sm eD
theorem pair_get {R : Int → Int → Prop} : ∀ {xs : List Int} {i : Nat} {x y : Int}, xs.Pairwise R → xs[i]? = some x → xs[i + 1]? = some y → R x y
  | a :: b :: r, 0, x, y, h, hx, hy => by
    simp at hx hy
    rw [← hx, ← hy]
    exact (List.pairwise_cons.mp h).1 b (List.mem_cons_self ..)
  | a :: r, i + 1, x, y, h, hx, hy => pair_get (List.pairwise_cons.mp h).2 (by simpa using hx) (by simpa using hy)
  | [], i, x, y, h, hx, hy => by simp at hx
  | [a], 0, x, y, h, hx, hy => by simp at hy
theorem nx_go {D : Ends} {σ : L2.St} {H : Hp} (h : D.nx σ H) : tNext D σ H := h
end Wc

/-! the number of lines at a width. -/
namespace Wc
open PySem PySem.Spec PyProof.Rows L2

theorem lineGo_mono {w w' : Int} (hw : w ≤ w') (ns : List Int) (h : ∀ n ∈ ns, 1 ≤ n) : (∀ c c' : Int, 0 ≤ c → c' ≤ c → (lineGo w' c' ns).length ≤ (lineGo w c ns).length) ∧ (∀ c c' : Int, 0 ≤ c → (lineGo w' c' ns).length ≤ (lineGo w c ns).length + 1) := by
  induction ns with
  | nil => exact ⟨fun c c' _ _ => Nat.le_refl _, fun c c' _ => by simp [lineGo]⟩
  | cons n r ih =>
    have hn := h n (List.mem_cons_self ..)
    obtain ⟨A, B⟩ := ih fun m hm => h m (List.mem_cons_of_mem n hm)
    constructor
    · intro c c' hc hcc
      unfold lineGo
      by_cases f : c + 1 + n ≤ w
      · rw [if_pos f, if_pos (by omega)]
        exact A _ _ (by omega) (by omega)
      · rw [if_neg f]
        by_cases f' : c' + 1 + n ≤ w'
        · rw [if_pos f', List.length_cons]
          exact B _ _ (by omega)
        · rw [if_neg f', List.length_cons, List.length_cons]
          have := A n n (by omega) (Int.le_refl _)
          omega
    · intro c c' hc
      unfold lineGo
      by_cases f : c + 1 + n ≤ w
      · rw [if_pos f]
        by_cases f' : c' + 1 + n ≤ w'
        · rw [if_pos f']
          exact B _ _ (by omega)
        · rw [if_neg f', List.length_cons]
          have := A (c + 1 + n) n (by omega) (by omega)
          omega
      · rw [if_neg f, List.length_cons]
        by_cases f' : c' + 1 + n ≤ w'
        · rw [if_pos f']
          have := B n (c' + 1 + n) (by omega)
          omega
        · rw [if_neg f', List.length_cons]
          have := A n n (by omega) (Int.le_refl _)
          omega
theorem lawWrap_mono {w w' : Int} (hw : w ≤ w') {ns : List Int} (h : ∀ n ∈ ns, 1 ≤ n) : (lawWrap ns w').length ≤ (lawWrap ns w).length := by
  cases ns with
  | nil => exact Nat.le_refl _
  | cons n r =>
    rw [lawWrap_cons, lawWrap_cons]
    have hn := h n (List.mem_cons_self ..)
    exact (lineGo_mono hw r fun m hm => h m (List.mem_cons_of_mem n hm)).1 n n (by omega) (Int.le_refl _)
theorem lineGo_one {w c : Int} {ns : List Int} (h : ∀ n ∈ ns, 1 ≤ n) (hw : c + ns.sum + ns.length ≤ w) : lineGo w c ns = [c + ns.sum + ns.length] := by
  induction ns generalizing c with
  | nil => simp [lineGo]
  | cons n r ih =>
    have hn := h n (List.mem_cons_self ..)
    have hr := fun m hm => h m (List.mem_cons_of_mem n hm)
    have hl := total_nonneg_len r hr
    simp only [List.sum_cons, List.length_cons] at hw ⊢
    unfold lineGo
    rw [if_pos (by omega), ih hr (by omega)]
    congr 1
    omega
/-- at a width from the number of characters on there is one line -/
theorem lawWrap_one {ns : List Int} (ht : Txt' ns) {w : Int} (hw : total ns ≤ w) : lawWrap ns w = [total ns] := by
  obtain ⟨h0, h1, h2⟩ := ht
  cases ns with
  | nil => exact (h0 rfl).elim
  | cons n r =>
    unfold total at hw ⊢
    simp only [List.sum_cons, List.length_cons] at hw ⊢
    rw [lawWrap_cons, lineGo_one (fun m hm => h1 m (List.mem_cons_of_mem n hm)) (by omega)]
    congr 1
    omega
theorem lineGo_single {w c : Int} {ns : List Int} (h0 : ns ≠ []) (h : (lineGo w c ns).length ≤ 1) : c + ns.sum + ns.length ≤ w := by
  induction ns generalizing c with
  | nil => exact (h0 rfl).elim
  | cons n r ih =>
    unfold lineGo at h
    by_cases f : c + 1 + n ≤ w
    · rw [if_pos f] at h
      simp only [List.sum_cons, List.length_cons]
      cases r with
      | nil => simp; omega
      | cons m r =>
        have := ih (by simp) h
        simp only [List.sum_cons, List.length_cons] at this ⊢
        omega
    · rw [if_neg f, List.length_cons] at h
      have := List.length_pos_iff.mpr (lineGo_ne w n r)
      omega
theorem lawWrap_single {ns : List Int} {w : Int} (h1 : 1 < ns.length) (h : (lawWrap ns w).length ≤ 1) : total ns ≤ w := by
  cases ns with
  | nil => simp at h1
  | cons n r =>
    rw [lawWrap_cons] at h
    have := lineGo_single (by rintro rfl; simp at h1) h
    unfold total
    simp only [List.sum_cons, List.length_cons]
    omega
theorem lineGo_len (w c : Int) (ns : List Int) : (lineGo w c ns).length ≤ ns.length + 1 := by
  induction ns generalizing c with
  | nil => simp [lineGo]
  | cons n r ih =>
    unfold lineGo
    split
    · have := ih (c + 1 + n)
      simp only [List.length_cons]
      omega
    · have := ih n
      simp only [List.length_cons]
      omega
theorem lawWrap_lenle (ns : List Int) (w : Int) : (lawWrap ns w).length ≤ ns.length := by
  cases ns with
  | nil => exact Nat.le_refl _
  | cons n r =>
    rw [lawWrap_cons]
    exact lineGo_len w n r
theorem wrappedEnds_len (ns : List Int) (w : Int) : (wrappedEnds (endsOf ns) w).length = (lawWrap ns w).length := by
  rw [← endsOf_wrap, endsOf_len]
/-- r is the least width with at most m lines -/
def IsLeast (ns : List Int) (m r : Int) : Prop := 1 ≤ r ∧ r ≤ total ns ∧ ((lawWrap ns r).length : Int) ≤ m ∧ ∀ w, 1 ≤ w → w < r → m < ((lawWrap ns w).length : Int)
theorem endsOf_last {ns : List Int} (h : ns ≠ []) : (endsOf ns).getLast? = some (total ns) := by
  have hl := List.length_pos_iff.mpr h
  have e := endsFrom_get (-1) ns (ns.length - 1) (by omega)
  rw [List.getLast?_eq_getElem?, endsOf_len]
  unfold endsOf
  rw [e]
  have e2 : ns.length - 1 + 1 = ns.length := by omega
  unfold lastFrom total
  rw [e2, List.take_length]
  congr 1
  omega
theorem IsLeast.uniq {ns : List Int} {m r r' : Int} (h : IsLeast ns m r) (h' : IsLeast ns m r') : r = r' := by
  obtain ⟨a1, a2, a3, a4⟩ := h
  obtain ⟨b1, b2, b3, b4⟩ := h'
  rcases (by omega : r = r' ∨ r < r' ∨ r' < r) with h | h | h
  · exact h
  · have := b4 r a1 h
    omega
  · have := a4 r' b1 h
    omega
end Wc

/-! sorting; texts from their spaces. -/
namespace Wc
open PySem PySem.Spec PyProof.Rows L2

def srt (ns : List Int) : List Int := ns.mergeSort (fun a b => decide (a ≤ b))
theorem srt_perm (ns : List Int) : (srt ns).Perm ns := List.mergeSort_perm _ _
theorem srt_pair (ns : List Int) : (srt ns).Pairwise (· ≤ ·) := by
  have := List.pairwise_mergeSort (le := fun a b : Int => decide (a ≤ b)) (fun a b c h1 h2 => by simp at *; omega) (fun a b => by simp; omega) ns
  exact this.imp fun h => of_decide_eq_true h
theorem sort_uniq {xs ys : List Int} (p : xs.Perm ys) (h1 : xs.Pairwise (· ≤ ·)) (h2 : ys.Pairwise (· ≤ ·)) : xs = ys :=
  List.Perm.eq_of_pairwise (le := (· ≤ ·)) (fun a b _ _ h1 h2 => Int.le_antisymm h1 h2) h1 h2 p
theorem srt_of {xs ns : List Int} (p : xs.Perm ns) (h : xs.Pairwise (· ≤ ·)) : xs = srt ns := sort_uniq (p.trans (srt_perm ns).symm) h (srt_pair ns)
theorem srt_len (ns : List Int) : (srt ns).length = ns.length := (srt_perm ns).length_eq
theorem srt_eq {ns ms : List Int} (p : ns.Perm ms) : srt ns = srt ms := srt_of ((srt_perm ns).trans p) (srt_pair ns)
theorem srt_id {ns : List Int} (h : ns.Pairwise (· ≤ ·)) : srt ns = ns := (srt_of (List.Perm.refl ns) h).symm
def isSpot : PyData → Bool
  | .int i => decide (0 ≤ i)
  | _ => false
/-- text_of(characters, spaces), or none where it raises -/
def textOf (cv : V) (o : Option PyData) : Option (List Int) := match cv, o with
  | .int c, some (.list ds) => if 1 ≤ c ∧ c ≤ 600 ∧ ds.all isSpot = true ∧ areLengths (some (.list ((lengthsOf (srt (ds.map lenOf) ++ [c])).map .int))) = true then some (lengthsOf (srt (ds.map lenOf) ++ [c])) else none
  | _, _ => none
theorem dpAll_spots {K : PySem.W.Frag} {H : Hp} : ∀ {ds : List PyData} {vs : List V}, DpAll K H vs ds → ds.all isSpot = true → vs = iV (ds.map lenOf)
  | _, _, .nil, _ => rfl
  | d :: ds, v :: vs, .cons h1 h2, h => by
    rw [List.all_cons, Bool.and_eq_true] at h
    rw [dpAll_spots h2 h.2]
    cases h1 <;> simp [isSpot] at h
    rfl
/-- the spaces of a text give it back -/
theorem ends_pair (p : Int) (ns : List Int) (h : ∀ n ∈ ns, 1 ≤ n) : (endsFrom p ns).Pairwise (· ≤ ·) ∧ ∀ e ∈ endsFrom p ns, p < e := by
  induction ns generalizing p with
  | nil => exact ⟨.nil, fun e he => by cases he⟩
  | cons n ns ih =>
    have hn := h n (List.mem_cons_self ..)
    obtain ⟨a, b⟩ := ih (p + (1 + n)) fun m hm => h m (List.mem_cons_of_mem n hm)
    refine ⟨.cons (fun e he => ?_) a, fun e he => ?_⟩
    · have := b e he
      omega
    · rcases List.mem_cons.mp he with rfl | he
      · omega
      · have := b e he
        omega
theorem textOf_ends {ws : List Int} (ht : Txt' ws) : textOf (.int (total ws)) (some (.list ((endsOf ws).dropLast.map .int))) = some ws := by
  have hp := (ends_pair (-1) ws ht.2.1).1
  have hp2 : (endsOf ws).dropLast.Pairwise (· ≤ ·) := hp.sublist (List.dropLast_sublist _)
  have hne : endsOf ws ≠ [] := by
    intro e
    have := congrArg List.length e
    rw [endsOf_len] at this
    exact ht.1 (List.length_eq_zero_iff.mp this)
  have e1 : srt ((((endsOf ws).dropLast).map PyData.int).map lenOf) ++ [total ws] = endsOf ws := by
    rw [lens_ints, srt_id hp2]
    have h1 := List.dropLast_concat_getLast hne
    have h2 := endsOf_last ht.1
    rw [List.getLast?_eq_some_getLast hne] at h2
    rw [← Option.some.inj h2]
    exact h1
  have hlen := total_nonneg_len ws ht.2.1
  have hpos := List.length_pos_iff.mpr ht.1
  unfold textOf
  dsimp only
  rw [e1, lengths_ends, if_pos]
  refine ⟨?_, ht.2.2, ?_, ht.yes⟩
  · unfold total
    omega
  · rw [List.all_map, List.all_eq_true]
    intro e he
    have := (ends_pair (-1) ws ht.2.1).2 e (List.dropLast_subset _ he)
    show decide (0 ≤ e) = true
    exact decide_eq_true (by omega)
end Wc

/-! where lines end. -/
namespace Wc
open PySem PySem.Spec PyProof.Rows L2

/-- e is the end of the line that starts at s -/
def IsNx (all : List Int) (w s e : Int) : Prop := e ∈ all ∧ s < e ∧ (∀ t ∈ all, s < t → t ≤ s + w → t ≤ e) ∧ (e ≤ s + w ∨ ∀ t ∈ all, s < t → e ≤ t)
def LinesOk (all : List Int) (w : Int) : Int → List Int → Prop
  | _, [] => True
  | s, e :: es => IsNx all w s e ∧ LinesOk all w (e + 1) es
theorem IsNx.mono {all : List Int} {w w' s s' e e' : Int} (h : IsNx all w s e) (h' : IsNx all w' s' e') (hs : s ≤ s') (hw : w ≤ w') : e ≤ e' := by
  obtain ⟨a1, a2, a3, a4⟩ := h
  obtain ⟨b1, b2, b3, b4⟩ := h'
  rcases Int.lt_or_le e' e with c | c
  · rcases a4 with a4 | a4
    · exact b3 e a1 (by omega) (by omega)
    · exact a4 e' b1 (by omega)
  · exact c
theorem LinesOk.mono {all : List Int} {w w' : Int} (hw : w ≤ w') : ∀ {es es' : List Int} {s s' : Int}, LinesOk all w s es → LinesOk all w' s' es' → s ≤ s' → ∀ (i : Nat) (e e' : Int), es[i]? = some e → es'[i]? = some e' → e ≤ e'
  | e0 :: es, e0' :: es', s, s', ⟨h1, h2⟩, ⟨h1', h2'⟩, hs, 0, e, e', he, he' => by
    simp at he he'
    rw [← he, ← he']
    exact h1.mono h1' hs hw
  | e0 :: es, e0' :: es', s, s', ⟨h1, h2⟩, ⟨h1', h2'⟩, hs, i + 1, e, e', he, he' => by
    have := h1.mono h1' hs hw
    exact LinesOk.mono hw h2 h2' (by omega) i e e' (by simpa using he) (by simpa using he')
  | [], _, _, _, _, _, _, i, e, e', he, _ => by simp at he
  | _ :: _, [], _, _, _, _, _, i, e, e', _, he' => by simp at he'
theorem LinesOk.get {all : List Int} {w : Int} : ∀ {es : List Int} {s : Int}, LinesOk all w s es → ∀ (i : Nat) (a e : Int), (s :: es.map (· + 1))[i]? = some a → es[i]? = some e → IsNx all w a e
  | e0 :: es, s, ⟨h1, h2⟩, 0, a, e, ha, he => by
    simp at ha he
    rw [← ha, ← he]
    exact h1
  | e0 :: es, s, ⟨h1, h2⟩, i + 1, a, e, ha, he => by
    refine LinesOk.get h2 i a e ?_ (by simpa using he)
    simpa using ha
  | [], _, _, i, a, e, _, he => by simp at he
theorem wrapGo_ok (all : List Int) (w : Int) (r : List Int) : ∀ (s start : Int), (s :: r).Pairwise (fun a b => a + 1 < b) → (∀ t ∈ all, t ≤ s ∨ t ∈ r) → s ∈ all → (∀ t ∈ r, t ∈ all) → start < s → (s ≤ start + w ∨ ∀ t ∈ all, start < t → s ≤ t) → LinesOk all w start (wrapGo w start (s :: r)) := by
  induction r with
  | nil =>
    intro s start _ hall hs _ hss hor
    refine ⟨⟨hs, hss, fun t ht _ _ => ?_, hor⟩, trivial⟩
    rcases hall t ht with h | h
    · exact h
    · cases h
  | cons t0 r ih =>
    intro s start hp hall hs hr hss hor
    obtain ⟨hp1, hp2⟩ := List.pairwise_cons.mp hp
    have h0 := hp1 t0 (List.mem_cons_self ..)
    obtain ⟨hp3, _⟩ := List.pairwise_cons.mp hp2
    unfold wrapGo
    by_cases c : t0 > start + w
    · rw [if_pos c]
      refine ⟨⟨hs, hss, fun t ht h1 h2 => ?_, hor⟩, ?_⟩
      · rcases hall t ht with h | h
        · exact h
        · rcases List.mem_cons.mp h with rfl | h
          · omega
          · have := hp3 t h
            omega
      · refine ih t0 (s + 1) hp2 (fun t ht => ?_) (hr t0 (List.mem_cons_self ..)) (fun t ht => hr t (List.mem_cons_of_mem _ ht)) h0 (.inr fun t ht h1 => ?_)
        · rcases hall t ht with h | h
          · exact .inl (by omega)
          · rcases List.mem_cons.mp h with rfl | h
            · exact .inl (Int.le_refl _)
            · exact .inr h
        · rcases hall t ht with h | h
          · omega
          · rcases List.mem_cons.mp h with rfl | h
            · exact Int.le_refl _
            · have := hp3 t h
              omega
    · rw [if_neg c]
      refine ih t0 start hp2 (fun t ht => ?_) (hr t0 (List.mem_cons_self ..)) (fun t ht => hr t (List.mem_cons_of_mem _ ht)) (by omega) (.inl (by omega))
      rcases hall t ht with h | h
      · exact .inl (by omega)
      · rcases List.mem_cons.mp h with rfl | h
        · exact .inl (Int.le_refl _)
        · exact .inr h
theorem ends_pair2 (p : Int) (ns : List Int) (h : ∀ n ∈ ns, 1 ≤ n) : (endsFrom p ns).Pairwise (fun a b => a + 1 < b) ∧ ∀ e ∈ endsFrom p ns, p + 1 < e := by
  induction ns generalizing p with
  | nil => exact ⟨.nil, fun e he => by cases he⟩
  | cons n ns ih =>
    have hn := h n (List.mem_cons_self ..)
    obtain ⟨a, b⟩ := ih (p + (1 + n)) fun m hm => h m (List.mem_cons_of_mem n hm)
    refine ⟨.cons (fun e he => b e he) a, fun e he => ?_⟩
    rcases List.mem_cons.mp he with rfl | he
    · omega
    · have := b e he
      omega
theorem lines_ok {ns : List Int} (ht : Txt' ns) (w : Int) : LinesOk (endsOf ns) w 0 (endsOf (lawWrap ns w)) := by
  rw [endsOf_wrap]
  obtain ⟨h0, h1, _⟩ := ht
  obtain ⟨hp, hl⟩ := ends_pair2 (-1) ns h1
  unfold wrappedEnds
  cases e : endsOf ns with
  | nil => exact trivial
  | cons s r =>
    have e' : endsFrom (-1) ns = s :: r := e
    rw [e'] at hp hl
    have hs := hl s (List.mem_cons_self ..)
    obtain ⟨hp1, _⟩ := List.pairwise_cons.mp hp
    refine wrapGo_ok (s :: r) w r s 0 hp (fun t ht => ?_) (List.mem_cons_self ..) (fun t ht => List.mem_cons_of_mem _ ht) (by omega) (.inr fun t ht _ => ?_)
    · rcases List.mem_cons.mp ht with rfl | h
      · exact .inl (Int.le_refl _)
      · exact .inr h
    · rcases List.mem_cons.mp ht with rfl | h
      · exact Int.le_refl _
      · have := hp1 t h
        omega
theorem startsOf_len {es : List Int} (h : es ≠ []) : (startsOf es).length = es.length := by
  have := List.length_pos_iff.mpr h
  unfold startsOf
  rw [List.length_cons, List.length_map, List.length_dropLast]
  omega
theorem startsOf_get {es : List Int} {i : Nat} {a : Int} (h : (startsOf es)[i]? = some a) : (0 :: es.map (· + 1))[i]? = some a := by
  unfold startsOf at h
  cases i with
  | zero => exact h
  | succ i =>
    simp only [List.getElem?_cons_succ, List.getElem?_map] at h ⊢
    rw [List.dropLast_eq_take, List.getElem?_take] at h
    split at h
    · exact h
    · cases h
theorem starts_mono {ns : List Int} (ht : Txt' ns) {w w' : Int} (hw : w ≤ w') {i : Nat} {a a' : Int} (h : (startsOf (endsOf (lawWrap ns w)))[i]? = some a) (h' : (startsOf (endsOf (lawWrap ns w')))[i]? = some a') : a ≤ a' := by
  have m := LinesOk.mono hw (lines_ok ht w) (lines_ok ht w') (Int.le_refl 0)
  have g := startsOf_get h
  have g' := startsOf_get h'
  cases i with
  | zero =>
    simp at g g'
    omega
  | succ i =>
    simp only [List.getElem?_cons_succ, List.getElem?_map] at g g'
    cases e : (endsOf (lawWrap ns w))[i]? with
    | none => rw [e] at g; cases g
    | some x =>
      cases e' : (endsOf (lawWrap ns w'))[i]? with
      | none => rw [e'] at g'; cases g'
      | some x' =>
        rw [e] at g
        rw [e'] at g'
        simp at g g'
        have := m i x x' e e'
        omega
/-- the start and the length of a line -/
theorem line_at {ns : List Int} (ht : Txt' ns) {w : Int} {i : Nat} {a r : Int} (h : (startsOf (endsOf (lawWrap ns w)))[i]? = some a) (hr : (lawWrap ns w)[i]? = some r) : IsNx (endsOf ns) w a (a + r) := by
  have hi : i < (lawWrap ns w).length := (List.getElem?_eq_some_iff.mp hr).1
  have he : (endsOf (lawWrap ns w))[i]? = some ((endsOf (lawWrap ns w))[i]'(by rw [endsOf_len]; exact hi)) := List.getElem?_eq_getElem _
  have g := (lines_ok ht w).get i a _ (startsOf_get h) he
  have e2 := ends_get hr
  rw [e2] at he
  have e3 : lastEnd (lawWrap ns w) (i + 1) = a + r := by
    rw [lastEnd_succ hr]
    have : lastEnd (lawWrap ns w) i + 1 = a := by
      cases i with
      | zero =>
        have := startsOf_get h
        simp at this
        rw [← this]
        simp [lastEnd, lastFrom]
      | succ i =>
        have g := startsOf_get h
        simp only [List.getElem?_cons_succ, List.getElem?_map] at g
        obtain ⟨y, hy⟩ : ∃ y, (lawWrap ns w)[i]? = some y := ⟨_, List.getElem?_eq_getElem (by omega)⟩
        rw [ends_get hy] at g
        simpa using g
    omega
  rw [← Option.some.inj he, e3] at g
  exact g
/-! ### the greatest length as a width -/
theorem lineGo_ge (w c : Int) (ns : List Int) (h : ∀ n ∈ ns, 1 ≤ n) : ∃ l ∈ lineGo w c ns, c ≤ l := by
  induction ns generalizing c with
  | nil => exact ⟨c, by simp [lineGo], Int.le_refl _⟩
  | cons n r ih =>
    have hn := h n (List.mem_cons_self ..)
    unfold lineGo
    split
    · obtain ⟨l, h1, h2⟩ := ih (c + 1 + n) fun m hm => h m (List.mem_cons_of_mem n hm)
      exact ⟨l, h1, by omega⟩
    · exact ⟨c, List.mem_cons_self .., Int.le_refl _⟩
theorem lineGo_max {w m : Int} (hm : m ≤ w) (ns : List Int) (h : ∀ n ∈ ns, 1 ≤ n) : ∀ c, (∀ l ∈ lineGo w c ns, l ≤ m) → lineGo m c ns = lineGo w c ns := by
  induction ns with
  | nil => intro c _; rfl
  | cons n r ih =>
    have hr := fun m hm => h m (List.mem_cons_of_mem n hm)
    intro c hl
    unfold lineGo at hl ⊢
    by_cases f : c + 1 + n ≤ w
    · rw [if_pos f] at hl ⊢
      obtain ⟨l, h1, h2⟩ := lineGo_ge w (c + 1 + n) r hr
      have := hl l h1
      rw [if_pos (by omega)]
      exact ih hr _ hl
    · rw [if_neg f] at hl ⊢
      rw [if_neg (by omega), ih hr n fun l hl' => hl l (List.mem_cons_of_mem _ hl')]
theorem lawWrap_max {ns : List Int} (h : ∀ n ∈ ns, 1 ≤ n) {w m : Int} (hm : m ≤ w) (hl : ∀ l ∈ lawWrap ns w, l ≤ m) : lawWrap ns m = lawWrap ns w := by
  cases ns with
  | nil => rfl
  | cons n r =>
    rw [lawWrap_cons] at hl ⊢
    rw [lawWrap_cons]
    exact lineGo_max hm r (fun m hm => h m (List.mem_cons_of_mem n hm)) n hl
/-! ### the beginning of a text -/
theorem lawWrap_prefix {ns : List Int} (w : Int) {m : Nat} (h0 : 1 ≤ m) (hne : ns ≠ []) : (lawWrap (ns.take m) w).dropLast = (lawWrap ns w).take ((lawWrap (ns.take m) w).length - 1) := by
  have e : lawWrap ns w = (ns.drop m).foldl (lineStep w) (lawWrap (ns.take m) w) := by
    unfold lawWrap
    rw [← List.foldl_append, List.take_append_drop]
  have hp : lawWrap (ns.take m) w ≠ [] := by
    cases ns with
    | nil => exact (hne rfl).elim
    | cons n r =>
      cases m with
      | zero => omega
      | succ m =>
        rw [List.take_succ_cons, lawWrap_cons]
        exact lineGo_ne _ _ _
  generalize lawWrap (ns.take m) w = part at e hp
  rcases List.eq_nil_or_concat part with rfl | ⟨ys, c, rfl⟩
  · exact (hp rfl).elim
  · rw [List.concat_eq_append] at e ⊢
    rw [e, lines_fold]
    simp
theorem ends_snoc {ns : List Int} (h : ns ≠ []) : (endsOf ns).dropLast ++ [total ns] = endsOf ns := by
  have hne : endsOf ns ≠ [] := by
    intro e
    have := congrArg List.length e
    rw [endsOf_len] at this
    exact h (List.length_eq_zero_iff.mp this)
  have h1 := List.dropLast_concat_getLast hne
  have h2 := endsOf_last h
  rw [List.getLast?_eq_some_getLast hne] at h2
  rw [← Option.some.inj h2]
  exact h1
theorem endsOf_ne {ns : List Int} (h : ns ≠ []) : endsOf ns ≠ [] := by
  intro e
  have := congrArg List.length e
  rw [endsOf_len] at this
  exact h (List.length_eq_zero_iff.mp this)
/-- the last of the stops within the room of a line, or the first one behind its start -/
theorem near_last {all : List Int} {w s e : Int} (h : IsNx all w s e) (hp : all.Pairwise (· ≤ ·)) (hne : (all.filter fun t => decide (s < t) && decide (t ≤ s + w)) ≠ []) : (all.filter fun t => decide (s < t) && decide (t ≤ s + w)).getLast? = some e := by
  obtain ⟨h1, h2, h3, h4⟩ := h
  have hm : ∀ t, t ∈ (all.filter fun t => decide (s < t) && decide (t ≤ s + w)) ↔ t ∈ all ∧ s < t ∧ t ≤ s + w := by
    intro t
    simp [List.mem_filter]
  have he : e ∈ (all.filter fun t => decide (s < t) && decide (t ≤ s + w)) := by
    rw [hm]
    refine ⟨h1, h2, ?_⟩
    rcases h4 with h4 | h4
    · exact h4
    · obtain ⟨t, ht⟩ := List.exists_mem_of_ne_nil _ hne
      rw [hm] at ht
      have := h4 t ht.1 ht.2.1
      omega
  have hp2 := hp.sublist (List.filter_sublist (p := fun t => decide (s < t) && decide (t ≤ s + w)) (l := all))
  generalize (all.filter fun t => decide (s < t) && decide (t ≤ s + w)) = near at hne hm he hp2
  rw [List.getLast?_eq_some_getLast hne]
  congr 1
  have hl : near.getLast hne ∈ near := List.getLast_mem hne
  have h5 := (hm _).mp hl
  have h6 := h3 _ h5.1 h5.2.1 h5.2.2
  have h7 : e ≤ near.getLast hne := by
    rw [← List.dropLast_concat_getLast hne] at he hp2
    rcases List.mem_append.mp he with he | he
    · exact (List.pairwise_append.mp hp2).2.2 e he _ (by simp)
    · rw [List.mem_singleton.mp he]
      exact Int.le_refl _
  omega
theorem near_min {all : List Int} {w s e : Int} (h : IsNx all w s e) (hne : (all.filter fun t => decide (s < t) && decide (t ≤ s + w)) = []) {m : Int} (hm : m ∈ all.filter fun t => decide (t > s)) (hle : ∀ y ∈ all.filter (fun t => decide (t > s)), m ≤ y) : m = e := by
  obtain ⟨h1, h2, h3, h4⟩ := h
  have hm' : m ∈ all ∧ m > s := by simpa [List.mem_filter] using hm
  have h5 := hle e (by simp [List.mem_filter]; exact ⟨h1, h2⟩)
  rcases h4 with h4 | h4
  · have : e ∈ (all.filter fun t => decide (s < t) && decide (t ≤ s + w)) := by
      simp [List.mem_filter]
      exact ⟨h1, h2, h4⟩
    rw [hne] at this
    cases this
  · have := h4 m hm'.1 hm'.2
    omega
theorem ends_le {ns : List Int} (ht : Txt' ns) : (endsOf ns).Pairwise (· ≤ ·) := (ends_pair (-1) ns ht.2.1).1
theorem Txt'.take {ns : List Int} (h : Txt' ns) {m : Nat} (hm : 1 ≤ m) : Txt' (ns.take m) := by
  obtain ⟨h0, h1, h2⟩ := h
  refine ⟨?_, fun n hn => h1 n (List.take_subset _ _ hn), ?_⟩
  · intro e
    have := congrArg List.length e
    rw [List.length_take, List.length_nil] at this
    have := List.length_pos_iff.mpr h0
    omega
  · have e : ns.sum = (ns.take m).sum + (ns.drop m).sum := by rw [← List.sum_append, List.take_append_drop]
    have h3 := total_nonneg_len (ns.drop m) fun n hn => h1 n (List.drop_subset _ _ hn)
    have h4 : ns.length = (ns.take m).length + (ns.drop m).length := by rw [← List.length_append, List.take_append_drop]
    unfold total at h2 ⊢
    omega
end Wc

/-! a deck of draws. -/
namespace Wc
open PySem PySem.Spec PyProof.Rows L2

/-- what stood ahead stands, what is written of S aside -/
def SameS (S : List Addr) (H H' : Hp) : Prop := ∀ b o, b ∉ S → H b = some o → H' b = some o
theorem SameS.refl (S : List Addr) (H : Hp) : SameS S H H := fun _ _ _ h => h
theorem SameS.trans {S : List Addr} {H H1 H2 : Hp} (s : SameS S H H1) (t : SameS S H1 H2) : SameS S H H2 := fun b o n h => t b o n (s b o n h)
theorem SameS.of {S : List Addr} {H H' : Hp} (s : Same H H') : SameS S H H' := fun b o _ h => s b o h
theorem SameS.all {S : List Addr} {H H1 H2 : Hp} (s0 : Same H H1) (n : ∀ b ∈ S, H b = Option.none) (s : SameS S H1 H2) : Same H H2 := fun b o e => s b o (fun hb => by
  rw [n b hb] at e
  cases e) (s0 b o e)
theorem SameS.at {S : List Addr} {H H' : Hp} {b : Addr} {o : HO} (s : SameS S H H') (n : b ∉ S) (h : H b = some o) : H' b = some o := s b o n h
theorem SameS.il {S : List Addr} {H H' : Hp} {b : Addr} {ns : List Int} (s : SameS S H H') (n : b ∉ S) (h : IL H b ns) : IL H' b ns := s b _ n h
theorem SameS.upd {S : List Addr} {H : Hp} {a : Addr} {o : HO} (h : a ∈ S) : SameS S H (upd H a o) := fun b x n e => by
  rw [upd_ne (fun z => n (by rw [z]; exact h))]
  exact e
theorem SameS.mut {S : List Addr} {H H' : Hp} {p : Addr} {u : HO} (s : SameS S H H') (h : H p = Option.none) : SameS S H (L2.upd H' p u) := fun b x n e => by
  rw [upd_ne (ne_of_none e h)]
  exact s b x n e
theorem SameS.dp {S : List Addr} {K : PySem.W.Frag} {H H' : Hp} {v : V} {d : PyData} (s : SameS S H H') (h : ∀ H'', (∀ b o, b ∉ S → H b = some o → H'' b = some o) → Dp K H'' v d) : Dp K H' v d := h H' s
/-- a pool of a deck -/
def Pool (H : Hp) (n : Nat) (b : Addr) : Prop := ∃ c f m : Int, H b = some (.lst [.int c, .int f, .int m]) ∧ 0 ≤ m ∧ m ≤ 2000 + n
/-- the deck stands at a, its list of pools and its pools at qs: less than so many draws so far -/
structure Deck (H : Hp) (a : Addr) (qs : List Addr) (n : Nat) : Prop where
  ex : ∃ (p : Addr) (ps : List Addr) (t : Int), qs = p :: ps ∧ H a = some (.lst [.ref p, .int t]) ∧ H p = some (.lst (ps.map V.ref)) ∧ 0 ≤ t ∧ t ≤ n ∧ ps ≠ [] ∧ ∀ b ∈ ps, Pool H n b
  nd : (a :: qs).Nodup
theorem Pool.same {H H' : Hp} {n : Nat} {b : Addr} (s : Same H H') (h : Pool H n b) : Pool H' n b := let ⟨c, f, m, e, r⟩ := h; ⟨c, f, m, s _ _ e, r⟩
theorem Pool.mono {H : Hp} {n n' : Nat} {b : Addr} (h : Pool H n b) (l : n ≤ n') : Pool H n' b := let ⟨c, f, m, e, h1, h2⟩ := h; ⟨c, f, m, e, h1, by omega⟩
theorem Deck.same {H H' : Hp} {a : Addr} {qs : List Addr} {n : Nat} (s : Same H H') (h : Deck H a qs n) : Deck H' a qs n := by
  obtain ⟨⟨p, ps, t, h0, h1, h2, h3, h4, h5, h6⟩, h7⟩ := h
  exact ⟨⟨p, ps, t, h0, s _ _ h1, s _ _ h2, h3, h4, h5, fun b hb => (h6 b hb).same s⟩, h7⟩
theorem Deck.mono {H : Hp} {a : Addr} {qs : List Addr} {n m : Nat} (h : Deck H a qs n) (l : n ≤ m) : Deck H a qs m := by
  obtain ⟨⟨p, ps, t, h0, h1, h2, h3, h4, h5, h6⟩, h7⟩ := h
  exact ⟨⟨p, ps, t, h0, h1, h2, h3, by omega, h5, fun b hb => (h6 b hb).mono l⟩, h7⟩
/-- a new object is none of the deck's -/
theorem Deck.fresh {H : Hp} {a : Addr} {qs : List Addr} {n : Nat} {x : Addr} (h : Deck H a qs n) (hx : H x = Option.none) : x ∉ a :: qs := by
  obtain ⟨⟨p, ps, t, rfl, h1, h2, h3, h4, h5, h6⟩, h7⟩ := h
  intro hm
  rcases List.mem_cons.mp hm with rfl | hm
  · rw [hx] at h1
    cases h1
  · rcases List.mem_cons.mp hm with rfl | hm
    · rw [hx] at h2
      cases h2
    · obtain ⟨c, f, m, e, _⟩ := h6 x hm
      rw [hx] at e
      cases e
theorem Deck.new {H : Hp} {a x : Addr} {qs : List Addr} {n : Nat} {u : HO} (h : Deck H a qs n) (hx : H x = Option.none) : Deck (upd H x u) a qs n := h.same (same_new hx)
/-- what is none of the deck's may change -/
theorem Deck.mut {H : Hp} {a x : Addr} {qs : List Addr} {n : Nat} {u : HO} (h : Deck H a qs n) (hx : x ∉ a :: qs) : Deck (upd H x u) a qs n := by
  obtain ⟨⟨p, ps, t, rfl, h1, h2, h3, h4, h5, h6⟩, h7⟩ := h
  have hxa : a ≠ x := fun e => hx (by rw [e]; exact List.mem_cons_self ..)
  have hxp : p ≠ x := fun e => hx (by rw [e]; exact List.mem_cons_of_mem _ (List.mem_cons_self ..))
  refine ⟨⟨p, ps, t, rfl, at_mut h1 hxa, at_mut h2 hxp, h3, h4, h5, fun b hb => ?_⟩, h7⟩
  obtain ⟨c, f, m, e, r⟩ := h6 b hb
  exact ⟨c, f, m, at_mut e (fun e => hx (by rw [← e]; exact List.mem_cons_of_mem _ (List.mem_cons_of_mem _ hb))), r⟩
/-- what the deck's objects are no part of stands where it stood ahead -/
theorem SameS.free {S : List Addr} {H H' : Hp} {x : Addr} (s : SameS S H H') (n : x ∉ S) (h : H' x = Option.none) : H x = Option.none := by
  cases e : H x with
  | none => rfl
  | some o =>
    have := s x o n e
    rw [h] at this
    cases this
theorem ne_of_notin {x b : Addr} {S : List Addr} (h : x ∉ S) (hb : b ∈ S) : x ≠ b := fun e => h (by rw [e]; exact hb)
theorem Deck.draw {H : Hp} {a p b : Addr} {ps : List Addr} {n : Nat} {t c f m : Int} (h : Deck H a (p :: ps) n) (ha : H a = some (.lst [.ref p, .int t])) (hb : b ∈ ps) (h1 : 0 ≤ m) (h2 : m ≤ 2000 + (n + 1 : Nat)) :
    Deck (upd (upd H a (.lst [.ref p, .int (t + 1)])) b (.lst [.int c, .int f, .int m])) a (p :: ps) (n + 1) := by
  obtain ⟨⟨p', ps', t', e0, e1, e2, t1, t2, ne, hp⟩, nd⟩ := h
  rw [ha] at e1
  cases e1
  cases e0
  obtain ⟨na, nd2⟩ := List.nodup_cons.mp nd
  obtain ⟨n2, nd3⟩ := List.nodup_cons.mp nd2
  have hab : a ≠ b := fun e => na (by rw [e]; exact List.mem_cons_of_mem _ hb)
  have hpb : p ≠ b := fun e => n2 (by rw [e]; exact hb)
  have hpa : p ≠ a := fun e => na (by rw [e]; exact List.mem_cons_self ..)
  refine ⟨⟨p, ps, t + 1, rfl, ?_, ?_, by omega, by omega, ne, fun x hx => ?_⟩, nd⟩
  · rw [upd_ne hab, upd_same]
  · rw [upd_ne hpb, upd_ne hpa]
    exact e2
  · by_cases c1 : x = b
    · rw [c1]
      exact ⟨_, _, _, upd_same, h1, h2⟩
    · obtain ⟨c', f', m', e', r1, r2⟩ := hp x hx
      have hxa : x ≠ a := fun e => na (by rw [← e]; exact List.mem_cons_of_mem _ hx)
      exact ⟨c', f', m', by rw [upd_ne c1, upd_ne hxa]; exact e', r1, by omega⟩
theorem fmod_rng (c m : Int) (hm : 0 < m) : 0 ≤ Int.fmod c m ∧ Int.fmod c m < m := ⟨Int.fmod_nonneg_of_pos c hm, Int.fmod_lt_of_pos c hm⟩
theorem wide_of {i j : Int} (hi : i.natAbs < 2 ^ 4000) (hj : j.natAbs < 2 ^ 4000) : CMulW i j := wide_mul hi hj (by decide) (by decide) (by decide)
theorem small_of {i : Int} {k : Nat} (h : i.natAbs < 2 ^ k) (hk : k ≤ 4000) : i.natAbs < 2 ^ 4000 := Nat.lt_of_lt_of_le h (Nat.pow_le_pow_right (by decide) hk)
theorem isi_seq {K : PySem.W.Frag} (o : Option PyData) : PySem.W.kitAny K (.type (cls o)) [.type "list", .type "tuple"] = some (match o with | some (.list _) => true | some (.tuple _) => true | _ => false) := by
  unfold PySem.W.kitAny
  rw [isi_list, isI_list]
  unfold PySem.W.kitAny
  rw [isi_tuple, isI_tuple]
  cases o with
  | none => rfl
  | some d => cases d <;> rfl
theorem Dp.ty {K : PySem.W.Frag} {H : Hp} {v : V} {d : PyData} (h : Dp K H v d) : TyX K H v (.type (cls (some d))) := by
  cases h with
  | non => exact .base .non
  | bl b => exact .base (.bl b)
  | int i => exact .base (.int i)
  | str x => exact .base (.str x)
  | lst h _ => exact SqL.ty h
  | tup h _ => exact SqT.ty h
theorem lay_mem {d : PyData} : ∀ {ds : List PyData}, PyData.canLayAll0 ds = true → d ∈ ds → d.canLay0 = true
  | e :: ds, h, hm => by
    have h1 : e.canLay0 = true ∧ PyData.canLayAll0 ds = true := by simpa [PyData.canLayAll0] using h
    rcases List.mem_cons.mp hm with rfl | hm
    · exact h1.1
    · exact lay_mem h1.2 hm
theorem depth_mem {d : PyData} : ∀ {ds : List PyData}, d ∈ ds → d.depth ≤ PyData.depthAll ds
  | e :: ds, hm => by
    rw [PyData.depthAll]
    rcases List.mem_cons.mp hm with rfl | hm
    · exact Nat.le_max_left _ _
    · exact Nat.le_trans (depth_mem hm) (Nat.le_max_right _ _)
/-- zip of two tuples, turn by turn -/
theorem walk_zipTT {K : PySem.W.Frag} {a b : Addr} {xs ys : List V} (hl : ys.length = xs.length) : Walk (RZ.ItzT K a b) xs.length (fun H => SqT K H a xs ∧ SqT K H b ys) (YPair (fun i => xs[i]?) (fun i => ys[i]?)) where
  goes := fun i H hi q => ⟨xs, ys, xs[i], ys[i]'(by omega), q.1, q.2, List.getElem?_eq_getElem hi, List.getElem?_eq_getElem (by omega)⟩
  stops := fun H q => ⟨xs, ys, q.1, q.2, .inl (Nat.le_refl _)⟩
  yields := fun i H v H' _ q y => by
    obtain ⟨T, u, z, g1, g2, g3, g4, g5⟩ := y
    exact ⟨T, u, z, g1, g2, g3, g4 _ q.1, g5 _ q.2⟩
theorem lc_noneZT {K : PySem.W.Frag} {a b D : Addr} {xs ys : List V} {j k : Nat} {tt : TT} {te : TE} {vs : List Nat} {σ : L2.St} {H1 : Hp} {Qd : Hp → Prop} (hl : ys.length = xs.length) (hA : SqT K H1 a xs) (hB : SqT K H1 b ys) (nD : H1 D = Option.none)
    (hs : ∀ (i : Nat) (x y : V) (H' : Hp), xs[i]? = some x → ys[i]? = some y → Same H1 H' → Evt tt (((wipe σ vs).set j (some x)).set k (some y)) H' false) (hd : ∀ H', Same H1 H' → H' D = some (.lst []) → Qd H')
    (hw : ∀ x y : V, wipe (((wipe σ vs).set j (some x)).set k (some y)) vs = wipe σ vs := by intro x y; rfl) :
    ∃ W : Nat → Nat → Hp → Prop, (∃ m, W 0 m (upd H1 D (.lst []))) ∧ ∀ i m H, W i m H →
      ((RZ.ItzT K a b).stop i H ∧ Qd H) ∨ ((RZ.ItzT K a b).go i H ∧ ∃ Nx : Hp → Prop, (∀ H', Nx H' → ∃ m', m' < m ∧ W (i + 1) m' H') ∧ ∀ x H', (RZ.ItzT K a b).yld i H x H' → gTup K 2 (gCons (gName j) (gCons (gName k) gNil)) x (wipe σ vs) H' fun σ2 H2 => wipe σ2 vs = wipe σ vs ∧ tt σ2 H2 fun b H3 =>
        if b = true then te σ2 H3 fun y H4 => ∃ acc, H4 D = some (.lst acc) ∧ acc.length < sizeLine ∧ Nx (upd H4 D (.lst (acc ++ [y]))) else Nx H3) := by
  refine lc_it (n := xs.length) (walk_zipTT hl) (fun i H => Same H1 H ∧ H D = some (.lst [])) ⟨same_new nD, upd_same⟩ (fun i H _ hp => ⟨SqT.same hp.1 hA, SqT.same hp.1 hB⟩) ?_ ?_
  · rintro i v H H' hi ⟨sm, eD⟩ ⟨T, x, y, rfl, nT, rfl, hx, hy⟩
    have sT : Same H (upd H T (.tup [x, y])) := same_new nT
    refine ⟨T, [x, y], rfl, .inl (.inl upd_same), rfl, x, [y], rfl, y, [], rfl, rfl, hw x y, ?_⟩
    refine hs i x y _ hx hy (sm.trans sT) _ fun H3 s3 => ?_
    rw [if_neg (by decide)]
    exact ⟨(sm.trans sT).trans s3, s3 _ _ (sT _ _ eD)⟩
  · rintro H ⟨sm, eD⟩
    exact hd H sm eD
theorem Txt'.drop {ns : List Int} (h : Txt' ns) {m : Nat} (hm : m < ns.length) : Txt' (ns.drop m) := by
  obtain ⟨h0, h1, h2⟩ := h
  refine ⟨?_, fun n hn => h1 n (List.drop_subset _ _ hn), ?_⟩
  · intro e
    have := congrArg List.length e
    rw [List.length_drop, List.length_nil] at this
    omega
  · have e : ns.sum = (ns.take m).sum + (ns.drop m).sum := by rw [← List.sum_append, List.take_append_drop]
    have h3 := total_nonneg_len (ns.take m) fun n hn => h1 n (List.take_subset _ _ hn)
    have h4 : ns.length = (ns.take m).length + (ns.drop m).length := by rw [← List.length_append, List.take_append_drop]
    unfold total at h2 ⊢
    omega
end Wc

/-! rules whose readings name the written part K itself: they serve inside comprehensions. -/
namespace Wc
open PySem PySem.Spec PyProof.Rows L2
section
variable {X : Cx} {K : PySem.W.Frag}
def rLenQ (K : PySem.W.Frag) : List V → Hp → VK → Prop := fun xs H Q => ∃ p ys, xs = [.ref p] ∧ (SqL K H p ys ∨ SqT K H p ys) ∧ Q (.int ys.length) H
theorem kLen (e : X.K = K) : CallR X (.builtin "len") (rLenQ K) := by
  subst e
  exact call_len_seq
theorem kIsi (e : X.K = K) : CallR X (.builtin "isinstance") (rIsi K) := by
  subst e
  exact call_isi
theorem kIsiT (e : X.K = K) : CallR X (.builtin "isinstance") (rIsiT K) := by
  subst e
  exact call_isiT
theorem kSum (e : X.K = K) (hc : X.calm = true) : CallR X (.builtin "sum") (rSum K) := by
  subst e
  exact cr_sum hc
theorem kMax (e : X.K = K) (hc : X.calm = true) : CallR X (.builtin "max") (rMax K) := by
  subst e
  exact cr_max hc
theorem kMin (e : X.K = K) (hc : X.calm = true) : CallR X (.builtin "min") (rMin K) := by
  subst e
  exact cr_min hc
theorem kAll (e : X.K = K) (hc : X.calm = true) : CallR X (.builtin "all") (rAll K) := by
  subst e
  exact cr_all hc
theorem kAny (e : X.K = K) (hc : X.calm = true) : CallR X (.builtin "any") (rAny K) := by
  subst e
  exact cr_any hc
theorem kSorted (e : X.K = K) : CallR X (.builtin "sorted") (rSortedI K) := by
  subst e
  exact cr_sortedI
theorem kIx (e : X.K = K) : IxR X (rIxL K) := by
  subst e
  exact ix_list
theorem kSl (e : X.K = K) : SlR X (rSlL K) := by
  subst e
  exact sl_list
theorem kEqD (e : X.K = K) (hu : X.A.units + 64 < cLine) : OpR X (compareOp .Eq) (rEqD K) := by
  subst e
  exact op_eqD hu
theorem kNeD (e : X.K = K) (hu : X.A.units + 64 < cLine) : OpR X (compareOp .NotEq) (rNeD K) := by
  subst e
  exact op_neD hu
theorem kIn (e : X.K = K) : OpR X (compareOp .In) (rIn K false) := by
  subst e
  exact op_in_seq
theorem kNotIn (e : X.K = K) : OpR X (compareOp .NotIn) (rIn K true) := by
  subst e
  exact op_notIn_seq
end
theorem rgV_ints (n : Nat) : rgV 0 (n : Int) = iV ((List.range n).map fun i : Nat => (i : Int)) := by
  have e : ((n : Int) - 0).toNat = n := by omega
  show (List.range ((n : Int) - 0).toNat).map (fun i : Nat => V.int (0 + (i : Int))) = ((List.range n).map fun i : Nat => (i : Int)).map V.int
  rw [e, List.map_map]
  refine List.map_congr_left fun i _ => ?_
  show V.int (0 + (i : Int)) = V.int i
  congr 1
  omega
end Wc

/-! the words at which lines start. -/
namespace Wc
open PySem PySem.Spec PyProof.Rows L2

/-- the later lines' first words: k the next word's index, c the present line's length -/
def firstsGo (w : Int) : Nat → Int → List Int → List Int
  | _, _, [] => []
  | k, c, n :: r => if c + 1 + n ≤ w then firstsGo w (k + 1) (c + 1 + n) r else (k : Int) :: firstsGo w (k + 1) n r
/-- the first words of the lines, from word k on -/
def firstsOf (ns : List Int) (w : Int) (k : Nat) : List Int := match ns.drop k with
  | [] => []
  | n :: r => (k : Int) :: firstsGo w (k + 1) n r
theorem drop_get {ns : List Int} {k : Nat} {n : Int} (h : ns[k]? = some n) : ns.drop k = n :: ns.drop (k + 1) := by
  have h1 := (List.getElem?_eq_some_iff.mp h)
  obtain ⟨h2, h3⟩ := h1
  rw [← h3]
  exact List.drop_eq_getElem_cons h2
theorem firstsGo_len (w : Int) (r : List Int) : ∀ (k : Nat) (c : Int), (firstsGo w k c r).length ≤ r.length := by
  induction r with
  | nil => intro k c; simp [firstsGo]
  | cons n r ih =>
    intro k c
    unfold firstsGo
    split
    · have := ih (k + 1) (c + 1 + n)
      simp only [List.length_cons]
      omega
    · have := ih (k + 1) n
      simp only [List.length_cons]
      omega
theorem firstsOf_len (ns : List Int) (w : Int) (k : Nat) : (firstsOf ns w k).length ≤ ns.length := by
  unfold firstsOf
  cases e : ns.drop k with
  | nil => simp
  | cons n r =>
    have h1 := firstsGo_len w r (k + 1) n
    have h2 := congrArg List.length e
    rw [List.length_drop, List.length_cons] at h2
    simp only [List.length_cons]
    omega
theorem firstsGo_rng (w : Int) (r : List Int) : ∀ (k : Nat) (c : Int), ∀ x ∈ firstsGo w k c r, 0 ≤ x ∧ x < k + r.length := by
  induction r with
  | nil =>
    intro k c x hx
    simp [firstsGo] at hx
  | cons n r ih =>
    intro k c x hx
    unfold firstsGo at hx
    split at hx
    · have := ih _ _ x hx
      simp only [List.length_cons]
      omega
    · rcases List.mem_cons.mp hx with rfl | hx
      · simp only [List.length_cons]
        omega
      · have := ih _ _ x hx
        simp only [List.length_cons]
        omega
theorem firstsOf_rng {ns : List Int} {w : Int} {k : Nat} (x : Int) (hx : x ∈ firstsOf ns w k) : 0 ≤ x ∧ x < ns.length := by
  unfold firstsOf at hx
  split at hx
  · cases hx
  · next n r e =>
    have h2 := congrArg List.length e
    rw [List.length_drop, List.length_cons] at h2
    rcases List.mem_cons.mp hx with rfl | hx
    · omega
    · have := firstsGo_rng w r _ _ x hx
      omega
/-- the first word at which lines start in both wraps -/
def meetOf (ns : List Int) (w : Int) (i j : Nat) : Option Int := ((firstsOf ns w i).filter fun x => decide (x ∈ firstsOf ns w j)).head?
def optV : Option Int → V
  | some k => .int k
  | none => .non
def optD : Option Int → PyData
  | some k => .int k
  | none => .none
theorem opt_dp {K : PySem.W.Frag} {H : Hp} (o : Option Int) : Dp K H (optV o) (optD o) := by
  cases o with
  | none => exact .non
  | some k => exact .int k
theorem inV_ints (x : Int) : ∀ xs : List Int, inV (.int x) (iV xs) = decide (x ∈ xs)
  | [] => by simp [inV]
  | y :: ys => by
    have h := inV_ints x ys
    unfold inV at h ⊢
    show (V.int y :: iV ys).any (fun y => eqV y (V.int x)) = _
    rw [List.any_cons, h]
    by_cases c : y = x
    · subst c
      simp [eqV]
    · have c' : ¬ x = y := fun e => c e.symm
      simp [eqV, c, c']
theorem flat_ints (xs : List Int) : (iV xs).all flatV = true := by
  rw [List.all_map, List.all_eq_true]
  intro x _
  rfl
theorem firstsGo_asc (w : Int) (r : List Int) : ∀ (k : Nat) (c : Int), (firstsGo w k c r).Pairwise (· < ·) ∧ ∀ x ∈ firstsGo w k c r, (k : Int) ≤ x := by
  induction r with
  | nil => exact fun k c => ⟨.nil, fun x hx => by simp [firstsGo] at hx⟩
  | cons n r ih =>
    intro k c
    unfold firstsGo
    split
    · obtain ⟨a, b⟩ := ih (k + 1) (c + 1 + n)
      exact ⟨a, fun x hx => by have := b x hx; omega⟩
    · obtain ⟨a, b⟩ := ih (k + 1) n
      refine ⟨.cons (fun x hx => by have := b x hx; omega) a, fun x hx => ?_⟩
      rcases List.mem_cons.mp hx with rfl | hx
      · exact Int.le_refl _
      · have := b x hx
        omega
theorem firstsOf_asc (ns : List Int) (w : Int) (k : Nat) : (firstsOf ns w k).Pairwise (· < ·) := by
  unfold firstsOf
  split
  · exact .nil
  · next n r e =>
    obtain ⟨a, b⟩ := firstsGo_asc w r (k + 1) n
    exact .cons (fun x hx => by have := b x hx; omega) a
theorem asc_ext {xs ys : List Int} (h1 : xs.Pairwise (· < ·)) (h2 : ys.Pairwise (· < ·)) (h : ∀ z, z ∈ xs ↔ z ∈ ys) : xs = ys := by
  have n1 : xs.Nodup := h1.imp fun h => by omega
  have n2 : ys.Nodup := h2.imp fun h => by omega
  exact sort_uniq ((List.perm_ext_iff_of_nodup n1 n2).mpr h) (h1.imp fun h => by omega) (h2.imp fun h => by omega)
theorem meetOf_comm (ns : List Int) (w : Int) (i j : Nat) : meetOf ns w i j = meetOf ns w j i := by
  unfold meetOf
  congr 1
  refine asc_ext ((firstsOf_asc ns w i).sublist List.filter_sublist) ((firstsOf_asc ns w j).sublist List.filter_sublist) fun z => ?_
  simp only [List.mem_filter, decide_eq_true_eq]
  exact ⟨fun h => ⟨h.2, h.1⟩, fun h => ⟨h.2, h.1⟩⟩
theorem meetOf_rng {ns : List Int} {w : Int} {i j : Nat} {k : Int} (h : meetOf ns w i j = some k) : 0 ≤ k ∧ k < ns.length := by
  unfold meetOf at h
  have := List.mem_of_mem_head? (by rw [h]; rfl)
  exact firstsOf_rng k (List.mem_filter.mp this).1
theorem Nc.opt {ns : List Int} {w : Int} {i j : Nat} (hl : ns.length ≤ 1000) : Nc 2000 0 (optD (meetOf ns w i j)) := by
  cases e : meetOf ns w i j with
  | none => exact Nc.non.mono (by decide) (Nat.le_refl _)
  | some k =>
    have := meetOf_rng e
    exact Nc.int (sm_of (by omega))
end Wc

/-! calls within a try: what the callee lets out goes to the handler, at the slots as they stand. -/
namespace Wc
open PySem PySem.Spec PyProof.Rows L2
section
variable {X : Cx} {CX : CXT} {k : Nat} {x : Str} {ps ks : List Str} {is : List Nat} {dvs : List V} {sp : Sp} {E : L2.St → XK} {p pos : Pos} {e : Expr} {es : List Expr} {kws : List Keyword} {t tk : TA}
theorem pe_calS (c : Cal X.prog X.w X.K X.mg X.base CX k x ps dvs sp) (hr : Room k X.A) (hx : ∀ σ, PassesAt CX X σ (E σ)) (ha : PA X (e :: es) t) (hg : Gl X x := by rfl) (hdb : (x == ("__debug__" : Str)) = false := by decide)
    (he : starEach (e :: es) X.env = (false, eval e X.env) :: starEach es X.env := by rfl) (hpl : (backTo pos (starEach es X.env)).any (·.1) = false := by rfl) :
    PE X (.Call (.Name x p) (e :: es) [] pos) (tCallSD sp dvs E t) := by
  obtain ⟨f, fd, ds, F, hm, hk, hd, hb⟩ := c.ex
  exact pe_callSD F hr hg hm hk hb hd hx ha hdb he hpl
def tCKS (m : Nat) (is : List Nat) (sp : Sp) (E : L2.St → XK) (tk : TA) : TE := fun σ H Q => tk σ H fun zs H1 => zs.length = m ∧ sp (is.map fun i => zs.getD i .non) H1 Q (E σ)
theorem pe_calKS (c : CalK X.prog X.w X.K X.mg X.base CX k x ps ks is sp) (hr : Room k X.A) (hx : ∀ σ, PassesAt CX X σ (E σ)) (hkw : PK X kws tk) (hg : Gl X x := by rfl)
    (hall : (backToKw pos (keywordEach kws X.env)).all (·.1.isSome) = true := by rfl) (hks : (backToKw pos (keywordEach kws X.env)).filterMap (·.1) = ks := by rfl) (hdb : (x == ("__debug__" : Str)) = false := by decide)
    (hpl : ((backTo pos (starEach [] X.env)).any (·.1) || (backToKw pos (keywordEach kws X.env)).any (·.1.isNone)) = false := by rfl) :
    PE X (.Call (.Name x p) [] kws pos) (tCKS ks.length is sp E tk) := by
  obtain ⟨f, fd, F, hm, hk, hb⟩ := c.ex
  constructor
  intro pins s σ H Q I h
  refine wpAny_Call_Name_kw (ld_glob I hg hm ?_ hdb)
  refine PySem.W.callWith_KW0 (h₀ := X.base) I.ok.mod.kin hk hall (thn (hkw.run pos pins s σ H _ I h) ?_) hpl
  rintro ws s2 ⟨zs, H2, I2, rz, l2, q2⟩
  refine ⟨I2.kIn, ?_⟩
  rw [hks]
  have bt := hb.to s2 [] ws I2.kIn rfl (rz.length.symm.trans l2)
  have vr := hb.rel (.nil) rz
  refine wpAny_call (codeAny_mono (F.run X.A X.stack s2 H2 _ _ _ Q (E σ) hr I2.env0 bt vr q2) ?_)
  rintro (err | fl) s3 hq
  · exact hx σ pins H2 s2 err s3 I2 hq
  · cases fl with
    | next => exact hq.elim
    | ret u => exact I2.after hq
    | brk => exact hq.elim
    | cont => exact hq.elim
end
/-- the handler's class, and whether it takes what is raised -/
theorem exm_fact {K : PySem.W.Frag} {x y : Str} {b : Bool} (c : (He.Fa.exm x y b).ok K = true) : PySem.W.exmOne K (xc K x) (xc K y) = some b := He.exm_ok c
/-- a method call within a comprehension: the written part by its own name -/
theorem bmK {X : Cx} {K : PySem.W.Frag} {ex : Expr} {T : String} {r : V → List V → Hp → VK → Prop} {to : TE} {t : TA} (e : X.K = K) (h : PE X ex (tBM X.K T r to t)) : PE X ex (tBM K T r to t) := by
  subst e
  exact h
end Wc

/-! texts from any spaces. -/
namespace Wc
open PySem PySem.Spec PyProof.Rows L2
theorem total_lengths {es : List Int} (h : es ≠ []) : es.getLast? = some (total (lengthsOf es)) := by
  have hne : lengthsOf es ≠ [] := by
    intro e
    have := congrArg List.length e
    unfold lengthsOf at this
    rw [lenFrom_len, List.length_nil] at this
    exact h (List.length_eq_zero_iff.mp this)
  have := endsOf_last hne
  rwa [ends_lengths] at this
theorem textOf_spots {c : Int} {ns : List Int} (h1 : 1 ≤ c) (h2 : c ≤ 600) (hs : ∀ n ∈ ns, 0 ≤ n) :
    ((∀ x ∈ lengthsOf (srt ns ++ [c]), 0 < x) → textOf (.int c) (some (.list (ns.map .int))) = some (lengthsOf (srt ns ++ [c]))) ∧ ((¬ ∀ x ∈ lengthsOf (srt ns ++ [c]), 0 < x) → textOf (.int c) (some (.list (ns.map .int))) = none) := by
  have hall : (ns.map PyData.int).all isSpot = true := by
    rw [List.all_map, List.all_eq_true]
    intro n hn
    exact decide_eq_true (hs n hn)
  have htot : total (lengthsOf (srt ns ++ [c])) = c := by
    have := total_lengths (es := srt ns ++ [c]) (by simp)
    simp at this
    exact this.symm
  have hiff := areLengths_ints (lengthsOf (srt ns ++ [c]))
  unfold textOf
  dsimp only
  rw [lens_ints]
  constructor
  · intro h
    have hne : lengthsOf (srt ns ++ [c]) ≠ [] := by
      intro e
      have := congrArg List.length e
      unfold lengthsOf at this
      rw [lenFrom_len] at this
      simp at this
    rw [if_pos ⟨h1, h2, hall, hiff.mpr ⟨hne, fun x hx => h x hx, by rw [htot]; exact h2⟩⟩]
  · intro h
    rw [if_neg]
    rintro ⟨_, _, _, h4⟩
    exact h fun x hx => (hiff.mp h4).2.1 x hx
theorem seqIx_nn {r : Int} {n : Nat} (h0 : 0 ≤ r) (h1 : r < n) : seqIndex? r n = some r.toNat := by
  unfold seqIndex?
  simp only [Bool.and_eq_true, decide_eq_true_eq]
  split <;> split <;> first | rfl | omega
theorem erase_ints : ∀ (xs : List Int) (k : Nat), (iV xs).eraseIdx k = iV (xs.eraseIdx k)
  | [], _ => rfl
  | _ :: _, 0 => rfl
  | x :: xs, k + 1 => by
    show V.int x :: (iV xs).eraseIdx k = V.int x :: iV (xs.eraseIdx k)
    rw [erase_ints xs k]
theorem set_ints : ∀ (xs : List Int) (k : Nat) (z : Int), (iV xs).set k (.int z) = iV (xs.set k z)
  | [], _, _ => rfl
  | _ :: _, 0, _ => rfl
  | x :: xs, k + 1, z => by
    show V.int x :: (iV xs).set k (.int z) = V.int x :: iV (xs.set k z)
    rw [set_ints xs k z]
theorem ixN_zero {n : Nat} (h : 0 < n) : ixN n 0 = some 0 := by
  unfold ixN
  rw [if_pos (by decide), if_pos (by omega)]
  rfl
theorem textOf_txt {cv : V} {o : Option PyData} {t : List Int} (h : textOf cv o = some t) : Txt' t := by
  unfold textOf at h
  split at h
  · split at h
    · next h4 =>
      rw [← Option.some.inj h]
      exact (areLengths_ints _).mp h4.2.2.2
    · cases h
  · cases h
end Wc

/-! words replaced. -/
namespace Wc
open PySem PySem.Spec PyProof.Rows L2
theorem DpAll.app {K : PySem.W.Frag} {H : Hp} : ∀ {xs ys : List V} {ds es : List PyData}, DpAll K H xs ds → DpAll K H ys es → DpAll K H (xs ++ ys) (ds ++ es)
  | _, _, _, _, .nil, h => h
  | _, _, _, _, .cons h1 h2, h => .cons h1 (DpAll.app h2 h)
/-- replace_words, or none where the new text is none -/
def replData (ns : List Int) (f c : Nat) (ds : List PyData) : List PyData := (ns.take f).map .int ++ ds ++ (ns.drop (f + c)).map .int
def replOf (ns : List Int) (f c : Nat) (o : Option PyData) : Option (List Int) := match o with
  | some (.list ds) => if areLengths (some (.list (replData ns f c ds))) = true then some ((replData ns f c ds).map lenOf) else none
  | _ => none
theorem replOf_ints (ns : List Int) (f c : Nat) (ms : List Int) : (Txt' (ns.take f ++ ms ++ ns.drop (f + c)) → replOf ns f c (some (.list (ms.map .int))) = some (ns.take f ++ ms ++ ns.drop (f + c))) ∧ (¬ Txt' (ns.take f ++ ms ++ ns.drop (f + c)) → replOf ns f c (some (.list (ms.map .int))) = none) := by
  have e : replData ns f c (ms.map .int) = (ns.take f ++ ms ++ ns.drop (f + c)).map .int := by
    unfold replData
    rw [List.map_append, List.map_append]
  have h := areLengths_ints (ns.take f ++ ms ++ ns.drop (f + c))
  unfold replOf
  dsimp only
  rw [e, lens_ints]
  constructor
  · intro ht
    rw [if_pos (h.mpr ht)]
  · intro ht
    rw [if_neg fun g => ht (h.mp g)]
theorem lay_app {xs ys : List PyData} (h1 : PyData.canLayAll0 xs = true) (h2 : PyData.canLayAll0 ys = true) : PyData.canLayAll0 (xs ++ ys) = true := by
  induction xs with
  | nil => exact h2
  | cons x xs ih =>
    have h : x.canLay0 = true ∧ PyData.canLayAll0 xs = true := by simpa [PyData.canLayAll0] using h1
    rw [List.cons_append, PyData.canLayAll0, h.1, ih h.2]
    rfl
theorem depth_app (xs ys : List PyData) : PyData.depthAll (xs ++ ys) = max (PyData.depthAll xs) (PyData.depthAll ys) := by
  induction xs with
  | nil => simp [PyData.depthAll]
  | cons x xs ih => rw [List.cons_append, PyData.depthAll, PyData.depthAll, ih, Nat.max_assoc]
theorem repl_shaped {ns : List Int} {f c : Nat} {ds : List PyData} (h : SeqAt.shaped (.list ds) = true) : SeqAt.shaped (.list (replData ns f c ds)) = true := by
  unfold SeqAt.shaped at h ⊢
  rw [Bool.and_eq_true] at h ⊢
  obtain ⟨h1, h2⟩ := h
  have h2' := of_decide_eq_true h2
  rw [PyData.depth] at h2'
  rw [PyData.canLay0] at h1
  constructor
  · rw [PyData.canLay0]
    exact lay_app (lay_app (canLay_ints _) h1) (canLay_ints _)
  · refine decide_eq_true ?_
    rw [PyData.depth]
    unfold replData
    rw [depth_app, depth_app, depth_ints, depth_ints]
    omega
end Wc

/-! how many entries two lists begin with alike. -/
namespace Wc
open PySem PySem.Spec PyProof.Rows L2
def comPre : List Int → List Int → Nat
  | x :: xs, y :: ys => if x = y then comPre xs ys + 1 else 0
  | _, _ => 0
theorem comPre_le : ∀ xs ys : List Int, comPre xs ys ≤ xs.length ∧ comPre xs ys ≤ ys.length
  | x :: xs, y :: ys => by
    have := comPre_le xs ys
    unfold comPre
    split <;> simp only [List.length_cons] <;> omega
  | [], _ => by simp [comPre]
  | _ :: _, [] => by simp [comPre]
/-- so many entries alike, and the next ones not -/
theorem comPre_of : ∀ {xs ys : List Int} {n : Nat}, (∀ i, i < n → ∃ z, xs[i]? = some z ∧ ys[i]? = some z) → (∀ x y, xs[n]? = some x → ys[n]? = some y → x ≠ y) → n ≤ xs.length → n ≤ ys.length → comPre xs ys = n
  | x :: xs, y :: ys, 0, _, h2, _, _ => by
    have := h2 x y rfl rfl
    unfold comPre
    rw [if_neg this]
  | x :: xs, y :: ys, n + 1, h1, h2, h3, h4 => by
    obtain ⟨z, a, b⟩ := h1 0 (by omega)
    simp at a b
    unfold comPre
    rw [if_pos (by rw [a, b])]
    congr 1
    refine comPre_of (fun i hi => ?_) (fun u v hu hv => ?_) (by simpa using h3) (by simpa using h4)
    · obtain ⟨z, a, b⟩ := h1 (i + 1) (by omega)
      exact ⟨z, by simpa using a, by simpa using b⟩
    · exact h2 u v (by simpa using hu) (by simpa using hv)
  | [], _, n, _, _, h3, _ => by
    simp at h3
    simp [comPre, h3]
  | _ :: _, [], n, _, _, _, h4 => by
    simp at h4
    simp [comPre, h4]
theorem rev_ints (xs : List Int) : (iV xs).reverse = iV xs.reverse := by
  show (xs.map V.int).reverse = xs.reverse.map V.int
  rw [List.map_reverse]
end Wc

/-! first words of lines, and the wraps from them. -/
namespace Wc
open PySem PySem.Spec PyProof.Rows L2
theorem lineGo_firsts (w : Int) (r : List Int) : ∀ (k : Nat) (c : Int), (lineGo w c r).length = (firstsGo w k c r).length + 1 := by
  induction r with
  | nil => intro k c; simp [lineGo, firstsGo]
  | cons n r ih =>
    intro k c
    unfold lineGo firstsGo
    split
    · exact ih (k + 1) _
    · rw [List.length_cons, List.length_cons, ih (k + 1) n]
theorem wrap_firsts_len {ns : List Int} {w : Int} {k : Nat} (h : k < ns.length) : (lawWrap (ns.drop k) w).length = (firstsOf ns w k).length := by
  obtain ⟨z, hz⟩ : ∃ z, ns[k]? = some z := ⟨_, List.getElem?_eq_getElem h⟩
  have hd := drop_get hz
  unfold firstsOf
  rw [hd, lawWrap_cons]
  simp only [List.length_cons]
  exact lineGo_firsts w _ (k + 1) z
theorem lineGo_drop (ns : List Int) (w : Int) : ∀ (r : List Int) (k : Nat) (c : Int) (j : Nat) (x : Int), r = ns.drop k → (firstsGo w k c r)[j]? = some x → (lineGo w c r).drop (j + 1) = lawWrap (ns.drop x.toNat) w := by
  intro r
  induction r with
  | nil =>
    intro k c j x _ h
    simp [firstsGo] at h
  | cons n r ih =>
    intro k c j x hr h
    have hr2 : r = ns.drop (k + 1) := by
      have : (n :: r).drop 1 = (ns.drop k).drop 1 := by rw [hr]
      rw [List.drop_drop] at this
      exact this
    unfold lineGo
    unfold firstsGo at h
    by_cases f : c + 1 + n ≤ w
    · rw [if_pos f] at h ⊢
      exact ih (k + 1) _ j x hr2 h
    · rw [if_neg f] at h ⊢
      cases j with
      | zero =>
        simp at h
        rw [← h, Int.toNat_natCast, ← hr, lawWrap_cons]
        rfl
      | succ j =>
        rw [List.getElem?_cons_succ] at h
        rw [List.drop_succ_cons]
        exact ih (k + 1) n j x hr2 h
/-- from a line's first word on, the wrap is the rest of the wrap -/
theorem wrap_from_first {ns : List Int} {w : Int} {k j : Nat} {x : Int} (h : (firstsOf ns w k)[j]? = some x) : (lawWrap (ns.drop k) w).drop j = lawWrap (ns.drop x.toNat) w := by
  unfold firstsOf at h
  cases e : ns.drop k with
  | nil =>
    rw [e] at h
    simp at h
  | cons n r =>
    rw [e] at h
    cases j with
    | zero =>
      simp at h
      rw [← h, Int.toNat_natCast, e]
      rfl
    | succ j =>
      have hr : r = ns.drop (k + 1) := by
        have : (n :: r).drop 1 = (ns.drop k).drop 1 := by rw [e]
        rw [List.drop_drop] at this
        exact this
      rw [List.getElem?_cons_succ] at h
      rw [lawWrap_cons]
      exact lineGo_drop ns w r (k + 1) n j x hr h
/-- words and the spaces behind them, ahead of word i -/
def preW (ns : List Int) (i : Nat) : Int := (ns.take i).sum + ((ns.take i).length : Int)
theorem preW_succ {ns : List Int} {i : Nat} {z : Int} (h : ns[i]? = some z) : preW ns (i + 1) = preW ns i + z + 1 := by
  unfold preW
  rw [take_succ_get h, List.sum_append, List.length_append]
  simp
  omega
theorem preW_mono {ns : List Int} (h : ∀ n ∈ ns, 1 ≤ n) {i j : Nat} (hij : i ≤ j) : preW ns i ≤ preW ns j := by
  induction j with
  | zero =>
    have : i = 0 := by omega
    rw [this]
    exact Int.le_refl _
  | succ j ih =>
    rcases (by omega : i = j + 1 ∨ i ≤ j) with rfl | hle
    · exact Int.le_refl _
    · have h1 := ih hle
      cases e : ns[j]? with
      | none =>
        unfold preW at h1 ⊢
        rw [List.take_of_length_le (show ns.length ≤ j + 1 by rw [List.getElem?_eq_none_iff] at e; omega)]
        rw [List.take_of_length_le (show ns.length ≤ j by rw [List.getElem?_eq_none_iff] at e; omega)] at h1
        exact h1
      | some z =>
        have := h z (List.mem_of_getElem? e)
        rw [preW_succ e]
        omega
/-- lines that start at these words, one behind the other -/
def RowsOk (ns : List Int) (w : Int) : Nat → List Int → Prop
  | _, [] => True
  | b, e :: es => ∃ m : Nat, e = (m : Int) ∧ b < m ∧ (m = b + 1 ∨ preW ns m - preW ns b - 1 ≤ w) ∧ w < preW ns (m + 1) - preW ns b - 1 ∧ RowsOk ns w m es
theorem rows_go (ns : List Int) (w : Int) : ∀ (r : List Int) (k b : Nat) (c : Int), r = ns.drop k → c = preW ns k - preW ns b - 1 → b < k → (k = b + 1 ∨ c ≤ w) → RowsOk ns w b (firstsGo w k c r) := by
  intro r
  induction r with
  | nil =>
    intro k b c _ _ _ _
    exact trivial
  | cons n r ih =>
    intro k b c hr hc hb hor
    have hr2 : r = ns.drop (k + 1) := by
      have : (n :: r).drop 1 = (ns.drop k).drop 1 := by rw [hr]
      rw [List.drop_drop] at this
      exact this
    have hn : ns[k]? = some n := by
      have : (n :: r)[0]? = (ns.drop k)[0]? := by rw [hr]
      rw [List.getElem?_drop] at this
      simpa using this.symm
    have hp := preW_succ hn
    unfold firstsGo
    by_cases f : c + 1 + n ≤ w
    · rw [if_pos f]
      exact ih (k + 1) b _ hr2 (by omega) (by omega) (.inr f)
    · rw [if_neg f]
      refine ⟨k, rfl, hb, ?_, by omega, ih (k + 1) k n hr2 (by omega) (by omega) (.inl rfl)⟩
      rcases hor with h | h
      · exact .inl h
      · exact .inr (by omega)
theorem rows_ok {ns : List Int} {w : Int} {k : Nat} (h : k < ns.length) : ∃ es, firstsOf ns w k = (k : Int) :: es ∧ RowsOk ns w k es := by
  obtain ⟨z, hz⟩ : ∃ z, ns[k]? = some z := ⟨_, List.getElem?_eq_getElem h⟩
  have hd := drop_get hz
  have hp := preW_succ hz
  unfold firstsOf
  rw [hd]
  exact ⟨_, rfl, rows_go ns w _ (k + 1) k z rfl (by omega) (by omega) (.inl rfl)⟩
/-- two starts of lines: what lies between does not fit -/
theorem rows_apart {ns : List Int} {w : Int} (hp : ∀ n ∈ ns, 1 ≤ n) : ∀ {es : List Int} {b : Nat}, RowsOk ns w b es → ∀ x ∈ es, ∃ m : Nat, x = (m : Int) ∧ b < m ∧ w < preW ns (m + 1) - preW ns b - 1
  | e :: es, b, ⟨m, he, hb, _, hw, hr⟩, x, hx => by
    rcases List.mem_cons.mp hx with rfl | hx
    · exact ⟨m, he, hb, hw⟩
    · obtain ⟨m', e', hb', _⟩ := rows_apart hp hr x hx
      refine ⟨m', e', by omega, ?_⟩
      have := preW_mono hp (show m + 1 ≤ m' + 1 by omega)
      omega
theorem rows_two {ns : List Int} {w : Int} (hp : ∀ n ∈ ns, 1 ≤ n) : ∀ {es : List Int} {b : Nat}, RowsOk ns w b es → ∀ x ∈ (b : Int) :: es, ∀ y ∈ (b : Int) :: es, x < y → ∃ m m' : Nat, x = (m : Int) ∧ y = (m' : Int) ∧ w < preW ns (m' + 1) - preW ns m - 1
  | [], b, _, x, hx, y, hy, h => by
    rw [List.mem_singleton.mp hx, List.mem_singleton.mp hy] at h
    omega
  | e :: es, b, hr, x, hx, y, hy, h => by
    obtain ⟨m, he, hb, h4, hw, hr2⟩ := id hr
    rcases List.mem_cons.mp hx with rfl | hx
    · rcases List.mem_cons.mp hy with rfl | hy
      · omega
      · obtain ⟨m', e', _, h2⟩ := rows_apart hp hr y hy
        exact ⟨b, m', rfl, e', h2⟩
    · rcases List.mem_cons.mp hy with rfl | hy
      · obtain ⟨m', e', hb', _⟩ := rows_apart hp hr x hx
        omega
      · rw [he] at hx hy
        exact rows_two hp hr2 x hx y hy h
theorem rows_adj {ns : List Int} {w : Int} : ∀ {es : List Int} {b : Nat}, RowsOk ns w b es → ∀ (j : Nat) (x y : Int), ((b : Int) :: es)[j]? = some x → ((b : Int) :: es)[j + 1]? = some y → ∃ m m' : Nat, x = (m : Int) ∧ y = (m' : Int) ∧ m < m' ∧ (m' = m + 1 ∨ preW ns m' - preW ns m - 1 ≤ w)
  | e :: es, b, ⟨m, he, hb, h4, _, hr⟩, 0, x, y, hx, hy => by
    simp at hx hy
    exact ⟨b, m, hx.symm, by rw [← hy, he], hb, h4⟩
  | e :: es, b, ⟨m, he, hb, h4, _, hr⟩, j + 1, x, y, hx, hy => by
    rw [List.getElem?_cons_succ] at hx hy
    rw [he] at hx hy
    exact rows_adj hr j x y hx hy
  | [], b, _, j, x, y, hx, hy => by
    simp at hy
/-- between two neighbouring starts of one wrap at most one start of another one -/
theorem rows_between {ns : List Int} {w : Int} (hp : ∀ n ∈ ns, 1 ≤ n) {i k j : Nat} (hi : i < ns.length) (hk : k < ns.length) {x y : Int} (hx : (firstsOf ns w i)[j]? = some x) (hy : (firstsOf ns w i)[j + 1]? = some y) : ((firstsOf ns w k).filter fun t => decide (x < t) && decide (t < y)).length ≤ 1 := by
  obtain ⟨es, e1, r1⟩ := rows_ok (w := w) hi
  obtain ⟨es2, e2, r2⟩ := rows_ok (w := w) hk
  rw [e1] at hx hy
  obtain ⟨m, m', rfl, rfl, hlt, hor⟩ := rows_adj r1 j x y hx hy
  have hasc := (firstsOf_asc ns w k).sublist (List.filter_sublist (p := fun t => decide ((m : Int) < t) && decide (t < (m' : Int))))
  generalize hf : ((firstsOf ns w k).filter fun t => decide ((m : Int) < t) && decide (t < (m' : Int))) = fl at hasc
  match fl, hasc, hf with
  | [], _, _ => exact Nat.zero_le _
  | [_], _, _ => exact Nat.le_refl _
  | p :: q :: r, hasc, hf =>
    have hpq : p < q := (List.pairwise_cons.mp hasc).1 q (List.mem_cons_self ..)
    have mp : p ∈ ((firstsOf ns w k).filter fun t => decide ((m : Int) < t) && decide (t < (m' : Int))) := by rw [hf]; exact List.mem_cons_self ..
    have mq : q ∈ ((firstsOf ns w k).filter fun t => decide ((m : Int) < t) && decide (t < (m' : Int))) := by rw [hf]; exact List.mem_cons_of_mem _ (List.mem_cons_self ..)
    rw [List.mem_filter] at mp mq
    obtain ⟨p1, p2⟩ := mp
    obtain ⟨q1, q2⟩ := mq
    simp only [Bool.and_eq_true, decide_eq_true_eq] at p2 q2
    rw [e2] at p1 q1
    obtain ⟨a, a', rfl, rfl, hw⟩ := rows_two hp r2 p p1 q q1 hpq
    have g1 := preW_mono hp (show m ≤ a by omega)
    have g2 := preW_mono hp (show a' + 1 ≤ m' by omega)
    exfalso
    rcases hor with h | h <;> omega
theorem asc_lt {xs : List Int} (h : xs.Pairwise (· < ·)) {m j : Nat} {z x : Int} (hm : m < j) (h1 : xs[m]? = some z) (h2 : xs[j]? = some x) : z < x := by
  obtain ⟨a1, a2⟩ := List.getElem?_eq_some_iff.mp h1
  obtain ⟨b1, b2⟩ := List.getElem?_eq_some_iff.mp h2
  rw [← a2, ← b2]
  exact (List.pairwise_iff_getElem.mp h) m j a1 b1 hm
theorem index_asc {xs : List Int} (h : xs.Pairwise (· < ·)) {j : Nat} {x : Int} (hx : xs[j]? = some x) : ∀ (m : Nat) (z' : V), m < j → (iV xs)[m]? = some z' → eqV z' (.int x) = false := by
  intro m z' hm hz
  obtain ⟨z, hz1, rfl⟩ := ints_get hz
  have := asc_lt h hm hz1 hx
  show (z == x) = false
  rw [beq_eq_false_iff_ne]
  omega
theorem meet_mem {ns : List Int} {w : Int} {i j : Nat} {k : Int} (h : meetOf ns w i j = some k) : k ∈ firstsOf ns w i ∧ k ∈ firstsOf ns w j := by
  unfold meetOf at h
  have := List.mem_of_mem_head? (by rw [h]; rfl)
  rw [List.mem_filter] at this
  exact ⟨this.1, of_decide_eq_true this.2⟩
theorem meet_none {ns : List Int} {w : Int} {i j : Nat} (h : meetOf ns w i j = none) : ((firstsOf ns w i).filter fun x => decide (x ∈ firstsOf ns w j)) = [] := by
  unfold meetOf at h
  exact List.head?_eq_none_iff.mp h
end Wc

/-! edits of texts, and what stays of the wraps. -/
namespace Wc
open PySem PySem.Spec PyProof.Rows L2
/-- lists of written numbers, of pairs of them -/
def tInts : List Int → TA
  | [] => tNil
  | x :: r => tCons (tC (.int x)) (tInts r)
def tPairs : List (Int × Int) → TA
  | [] => tNil
  | (x, y) :: r => tCons (tTup (tCons (tC (.int x)) (tCons (tC (.int y)) tNil))) (tPairs r)
theorem tInts_go {σ : L2.St} (ds : List Int) : ∀ {H : Hp} {Q : List V → Hp → Prop}, Q (iV ds) H → tInts ds σ H Q := by
  induction ds with
  | nil => exact fun h => h
  | cons d r ih => exact fun {H Q} h => ih (Q := fun xs H2 => Q (V.int d :: xs) H2) h
theorem tPairs_go {σ : L2.St} : ∀ {ps : List (Int × Int)} {H : Hp} {Q : List V → Hp → Prop}, (∀ (ts : List V) H', ts.length = ps.length → Same H H' → (∀ (i : Nat) (v : V), ts[i]? = some v → ∃ t x y, v = V.ref t ∧ (x, y) ∈ ps ∧ H' t = some (.tup [.int x, .int y])) → Q ts H') → tPairs ps σ H Q
  | [], H, Q, h => h [] H rfl (Same.refl _) (fun i v e => by simp at e)
  | (x, y) :: r, H, Q, h => by
    refine ⟨(by show 2 ≤ sizeLine; decide), fun t nt => tPairs_go (ps := r) fun ts H' hl s hs => ?_⟩
    refine h (.ref t :: ts) H' (by simp [hl]) ((same_new nt).trans s) fun i v e => ?_
    cases i with
    | zero =>
      simp at e
      exact ⟨t, x, y, e.symm, List.mem_cons_self .., s _ _ upd_same⟩
    | succ i =>
      obtain ⟨t', x', y', e1, e2, e3⟩ := hs i v (by simpa using e)
      exact ⟨t', x', y', e1, List.mem_cons_of_mem _ e2, e3⟩
theorem cutL_mid {α : Type} (xs : List α) (a b : Int) (h0 : 0 ≤ a) (h1 : 0 ≤ b) : cutL xs (some a) (some b) = (xs.drop a.toNat).take (b.toNat - a.toNat) := by
  have ea : a = (a.toNat : Int) := by omega
  have eb : b = (b.toNat : Int) := by omega
  unfold cutL
  rw [ea, eb, HT.sIx_nat, HT.sIx_nat]
  simp only [Int.toNat_natCast]
  by_cases ha : a.toNat ≤ xs.length
  · rw [Nat.min_eq_left ha]
    by_cases hb : b.toNat ≤ xs.length
    · rw [Nat.min_eq_left hb]
    · rw [Nat.min_eq_right (by omega)]
      rw [List.take_of_length_le (by rw [List.length_drop]; omega), List.take_of_length_le (by rw [List.length_drop]; omega)]
  · have em : min a.toNat xs.length = xs.length := Nat.min_eq_right (by omega)
    rw [em, List.drop_of_length_le (Nat.le_refl _), List.drop_of_length_le (show xs.length ≤ a.toNat by omega)]
    simp
theorem comPre_ge : ∀ {xs ys : List Int} {n : Nat}, xs.take n = ys.take n → n ≤ xs.length → n ≤ ys.length → n ≤ comPre xs ys
  | _, _, 0, _, _, _ => Nat.zero_le _
  | x :: xs, y :: ys, n + 1, h, h1, h2 => by
    rw [List.take_succ_cons, List.take_succ_cons] at h
    injection h with ha hb
    have := comPre_ge hb (by simpa using h1) (by simpa using h2)
    unfold comPre
    rw [if_pos ha]
    omega
  | [], _, n + 1, _, h1, _ => by simp at h1
  | _ :: _, [], n + 1, _, _, h2 => by simp at h2
theorem comPre_take : ∀ xs ys : List Int, xs.take (comPre xs ys) = ys.take (comPre xs ys)
  | x :: xs, y :: ys => by
    unfold comPre
    by_cases c : x = y
    · rw [if_pos c, List.take_succ_cons, List.take_succ_cons, comPre_take xs ys, c]
    · rw [if_neg c]
      rfl
  | [], _ => by simp [comPre]
  | _ :: _, [] => by simp [comPre]
theorem comPre_comm : ∀ xs ys : List Int, comPre xs ys = comPre ys xs
  | x :: xs, y :: ys => by
    unfold comPre
    by_cases c : x = y
    · rw [if_pos c, if_pos c.symm, comPre_comm xs ys]
    · rw [if_neg c, if_neg fun e => c e.symm]
  | [], [] => rfl
  | [], _ :: _ => rfl
  | _ :: _, [] => rfl
theorem rev_drop {xs ys : List Int} {n : Nat} (h : xs.reverse.take n = ys.reverse.take n) : xs.drop (xs.length - n) = ys.drop (ys.length - n) := by
  rw [List.take_reverse, List.take_reverse] at h
  exact List.reverse_inj.mp h
/-- what changed_lines gives -/
def chgOf (ns ms : List Int) (w : Int) : Int × Int := (comPre (lawWrap ns w) (lawWrap ms w), comPre ((lawWrap ns w).drop (comPre (lawWrap ns w) (lawWrap ms w))).reverse ((lawWrap ms w).drop (comPre (lawWrap ns w) (lawWrap ms w))).reverse)
theorem chgOf_comm (ns ms : List Int) (w : Int) : chgOf ns ms w = chgOf ms ns w := by
  unfold chgOf
  rw [comPre_comm (lawWrap ms w) (lawWrap ns w), comPre_comm ((lawWrap ms w).drop _).reverse]
theorem firstsGo_app (w : Int) (ys : List Int) : ∀ (xs : List Int) (k : Nat) (c : Int), ∃ c', firstsGo w k c (xs ++ ys) = firstsGo w k c xs ++ firstsGo w (k + xs.length) c' ys
  | [], k, c => ⟨c, rfl⟩
  | x :: xs, k, c => by
    rw [List.cons_append, firstsGo, firstsGo]
    by_cases f : c + 1 + x ≤ w
    · rw [if_pos f, if_pos f]
      obtain ⟨c', h⟩ := firstsGo_app w ys xs (k + 1) (c + 1 + x)
      refine ⟨c', ?_⟩
      rw [h, List.length_cons, show k + 1 + xs.length = k + (xs.length + 1) by omega]
    · rw [if_neg f, if_neg f]
      obtain ⟨c', h⟩ := firstsGo_app w ys xs (k + 1) x
      refine ⟨c', ?_⟩
      rw [h, List.length_cons, List.cons_append, show k + 1 + xs.length = k + (xs.length + 1) by omega]
theorem asc_le_one {xs : List Int} (h : xs.Pairwise (· < ·)) {a : Int} (ha : ∀ x ∈ xs, a ≤ x) : (xs.filter fun x => decide (x ≤ a)).length ≤ 1 := by
  have h2 := h.sublist (List.filter_sublist (p := fun x => decide (x ≤ a)))
  generalize hf : (xs.filter fun x => decide (x ≤ a)) = fl at h2
  match fl, h2, hf with
  | [], _, _ => exact Nat.zero_le _
  | [_], _, _ => exact Nat.le_refl _
  | p :: q :: r, h2, hf =>
    have hpq : p < q := (List.pairwise_cons.mp h2).1 q (List.mem_cons_self ..)
    have mp : p ∈ (xs.filter fun x => decide (x ≤ a)) := by rw [hf]; exact List.mem_cons_self ..
    have mq : q ∈ (xs.filter fun x => decide (x ≤ a)) := by rw [hf]; exact List.mem_cons_of_mem _ (List.mem_cons_self ..)
    rw [List.mem_filter] at mp mq
    have a1 := ha p mp.1
    have a2 := of_decide_eq_true mq.2
    omega
/-- the lines that start ahead of a word: at most one more than the wrap of the words ahead of it -/
theorem firsts_ahead {ns : List Int} {w : Int} {m : Nat} (h1 : 1 ≤ m) (h2 : m < ns.length) : ((firstsOf ns w 0).filter fun x => decide (x ≤ (m : Int))).length ≤ (lawWrap (ns.take m) w).length + 1 := by
  have hl : (ns.take m).length = m := by
    rw [List.length_take]
    omega
  have e0 := wrap_firsts_len (ns := ns.take m) (w := w) (k := 0) (by omega)
  rw [List.drop_zero] at e0
  rw [e0]
  have e : firstsOf ns w 0 = firstsOf (ns.take m ++ ns.drop m) w 0 := by rw [List.take_append_drop]
  rw [e]
  unfold firstsOf
  rw [List.drop_zero, List.drop_zero]
  cases hp : ns.take m with
  | nil =>
    rw [hp] at hl
    simp at hl
    omega
  | cons n r =>
    rw [List.cons_append]
    dsimp only
    obtain ⟨c', h⟩ := firstsGo_app w (ns.drop m) r (0 + 1) n
    rw [h, ← List.cons_append, List.filter_append, List.length_append]
    have a1 := List.length_filter_le (fun x => decide (x ≤ (m : Int))) (((0 : Nat) : Int) :: firstsGo w (0 + 1) n r)
    have hr : r.length + 1 = m := by
      rw [hp] at hl
      simpa using hl
    have a2 := firstsGo_asc w (ns.drop m) (0 + 1 + r.length) c'
    have a3 := asc_le_one a2.1 (a := (m : Int)) fun x hx => by
      have := a2.2 x hx
      omega
    omega
theorem edit_front {ns ms ys : List Int} {w : Int} {m : Nat} (h2 : m < ns.length) (hm : ms ≠ []) : ((firstsOf ns w 0).filter fun x => decide (x ≤ (m : Int))).length ≤ comPre (lawWrap ns w) (lawWrap (ns.take m ++ ms ++ ys) w) + 2 := by
  by_cases h1 : m = 0
  · have := asc_le_one (firstsOf_asc ns w 0) (a := (m : Int)) fun x hx => by
      have := firstsOf_rng x hx
      omega
    omega
  · have hl : (ns.take m).length = m := by
      rw [List.length_take]
      omega
    have a1 := firsts_ahead (w := w) (show 1 ≤ m by omega) h2
    have hne : ns ≠ [] := by
      rintro rfl
      simp at h2
    have p1 := lawWrap_prefix (ns := ns) w (m := m) (by omega) hne
    have hne2 : ns.take m ++ ms ++ ys ≠ [] := by
      simp [hm]
    have p2 := lawWrap_prefix (ns := ns.take m ++ ms ++ ys) w (m := m) (by omega) hne2
    have e2 : (ns.take m ++ ms ++ ys).take m = ns.take m := by
      rw [List.append_assoc, List.take_append_of_le_length (by omega), List.take_of_length_le (by omega)]
    rw [e2] at p2
    have l1 := congrArg List.length p1
    have l2 := congrArg List.length p2
    rw [List.length_dropLast, List.length_take] at l1 l2
    have := comPre_ge (n := (lawWrap (ns.take m) w).length - 1) (p1.symm.trans p2) (by omega) (by omega)
    omega
theorem asc_drop {xs : List Int} (h : xs.Pairwise (· < ·)) (m : Int) : ∃ d, (xs.filter fun x => decide (m ≤ x)) = xs.drop d := by
  induction xs with
  | nil => exact ⟨0, rfl⟩
  | cons x xs ih =>
    obtain ⟨h1, h2⟩ := List.pairwise_cons.mp h
    by_cases c : m ≤ x
    · refine ⟨0, ?_⟩
      rw [List.drop_zero]
      refine List.filter_eq_self.mpr fun y hy => ?_
      rcases List.mem_cons.mp hy with rfl | hy
      · exact decide_eq_true c
      · have := h1 y hy
        exact decide_eq_true (by omega)
    · obtain ⟨d, e⟩ := ih h2
      refine ⟨d + 1, ?_⟩
      rw [List.filter_cons_of_neg (by simp; omega), e]
      rfl
theorem txt_edit {ws ms : List Int} {a b : Nat} (h1 : Txt' ws) (h2 : Txt' ms) (h : total ws + 1 + total ms ≤ 600) (hab : a ≤ b) : Txt' (ws.take a ++ ms ++ ws.drop b) := by
  obtain ⟨a0, a1, a2⟩ := h1
  obtain ⟨b0, b1, b2⟩ := h2
  refine ⟨by simp [b0], fun n hn => ?_, ?_⟩
  · rcases List.mem_append.mp hn with hn | hn
    · rcases List.mem_append.mp hn with hn | hn
      · exact a1 n (List.take_subset _ _ hn)
      · exact b1 n hn
    · exact a1 n (List.drop_subset _ _ hn)
  · have e1 : ws.sum = (ws.take a).sum + (ws.drop a).sum := by rw [← List.sum_append, List.take_append_drop]
    have e2 : (ws.drop a).sum = ((ws.drop a).take (b - a)).sum + (ws.drop b).sum := by
      rw [← List.sum_append]
      congr 1
      have := (List.take_append_drop (b - a) (ws.drop a)).symm
      rw [List.drop_drop, show a + (b - a) = b by omega] at this
      exact this
    have e3 := total_nonneg_len ((ws.drop a).take (b - a)) fun n hn => a1 n (List.drop_subset _ _ (List.take_subset _ _ hn))
    have l1 : (ws.take a).length + (ws.drop b).length ≤ ws.length := by
      rw [List.length_take, List.length_drop]
      omega
    unfold total at h ⊢
    simp only [List.sum_append, List.length_append]
    omega
theorem edit_back {ws ms : List Int} {a c : Nat} (h1 : a + c ≤ ws.length) : (ws.take a ++ ms ++ ws.drop (a + c)).take a ++ (ws.drop a).take c ++ (ws.take a ++ ms ++ ws.drop (a + c)).drop (a + ms.length) = ws := by
  have hl : (ws.take a).length = a := by
    rw [List.length_take]
    omega
  have e1 : (ws.take a ++ ms ++ ws.drop (a + c)).take a = ws.take a := by
    rw [List.append_assoc, List.take_append_of_le_length (by omega), List.take_of_length_le (by omega)]
  have e2 : (ws.take a ++ ms ++ ws.drop (a + c)).drop (a + ms.length) = ws.drop (a + c) := by
    rw [List.drop_append_of_le_length (by rw [List.length_append, hl]; omega)]
    rw [List.drop_of_length_le (by rw [List.length_append, hl]; omega), List.nil_append]
  rw [e1, e2, List.append_assoc]
  conv => rhs; rw [← List.take_append_drop a ws]
  congr 1
  conv => rhs; rw [← List.take_append_drop c (ws.drop a)]
  rw [List.drop_drop]
end Wc

/-! screens as data. -/
namespace Wc
open PySem PySem.Spec PyProof.Rows L2
def isIntD (lo hi : Int) : PyData → Bool
  | .int i => decide (lo ≤ i) && decide (i ≤ hi)
  | _ => false
def isScreenD : PyData → Bool
  | .tuple [w, l] => isIntD 1 1000 w && areLengths (some l)
  | _ => false
def isScreen : Option PyData → Bool
  | some d => isScreenD d
  | none => false
/-- the number of characters of a screen -/
def scrTotal : PyData → Int
  | .tuple [_, .list ls] => total (ls.map lenOf)
  | _ => 0
def areScreens : Option PyData → Bool
  | some (.list (d :: ds)) => (d :: ds).all isScreenD && (d :: ds).all fun e => decide (scrTotal e = scrTotal d)
  | _ => false
abbrev Scr := Int × List Int
def scrD (s : Scr) : PyData := .tuple [.int s.1, .list (s.2.map .int)]
def scrsD (ss : List Scr) : PyData := .list (ss.map scrD)
/-- a screen with n characters -/
def ScrOk (n : Int) (s : Scr) : Prop := 1 ≤ s.1 ∧ s.1 ≤ 1000 ∧ Txt' s.2 ∧ total s.2 = n
def Scrs (n : Int) (ss : List Scr) : Prop := ss ≠ [] ∧ ∀ s ∈ ss, ScrOk n s
theorem areLengths_data {d : PyData} (h : areLengths (some d) = true) : ∃ ns, d = .list (ns.map .int) ∧ Txt' ns := by
  cases d with
  | list ds =>
    have h' := h
    unfold areLengths at h
    rw [Bool.and_eq_true, Bool.and_eq_true] at h
    have hall : ∀ d ∈ ds, isLen d = true := List.all_eq_true.mp h.1.2
    have ed : (ds.map lenOf).map PyData.int = ds := by
      rw [List.map_map]
      conv => rhs; rw [← List.map_id ds]
      refine List.map_congr_left fun d hd => ?_
      have := hall d hd
      cases d <;> first | rfl | cases this
    refine ⟨ds.map lenOf, by rw [ed], ?_⟩
    rw [← ed] at h'
    exact (areLengths_ints _).mp h'
  | _ => cases h
theorem isScreen_data {d : PyData} (h : isScreenD d = true) : ∃ s : Scr, d = scrD s ∧ ScrOk (total s.2) s := by
  unfold isScreenD at h
  split at h
  · next w l =>
    rw [Bool.and_eq_true] at h
    obtain ⟨ns, rfl, ht⟩ := areLengths_data h.2
    cases w with
    | int i =>
      have h1 : 1 ≤ i ∧ i ≤ 1000 := by simpa [isIntD] using h.1
      exact ⟨(i, ns), rfl, h1.1, h1.2, ht, rfl⟩
    | _ => cases h.1
  · cases h
theorem scr_yes {n : Int} {s : Scr} (h : ScrOk n s) : isScreenD (scrD s) = true := by
  obtain ⟨h1, h2, h3, _⟩ := h
  unfold scrD isScreenD
  dsimp only
  rw [h3.yes]
  simp [isIntD, h1, h2]
theorem scrTotal_scr (s : Scr) : scrTotal (scrD s) = total s.2 := by
  unfold scrD scrTotal
  dsimp only
  rw [lens_ints]
theorem areScreens_data {o : Option PyData} (h : areScreens o = true) : ∃ n ss, o = some (scrsD ss) ∧ Scrs n ss := by
  unfold areScreens at h
  split at h
  · next d ds =>
    rw [Bool.and_eq_true] at h
    obtain ⟨h1, h2⟩ := h
    have h1 := List.all_eq_true.mp h1
    have h2 := List.all_eq_true.mp h2
    have key : ∀ es : List PyData, (∀ e ∈ es, isScreenD e = true ∧ scrTotal e = scrTotal d) → ∃ ss : List Scr, es = ss.map scrD ∧ ∀ s ∈ ss, ScrOk (scrTotal d) s := by
      intro es
      induction es with
      | nil => exact fun _ => ⟨[], rfl, fun s hs => by cases hs⟩
      | cons e es ih =>
        intro h
        obtain ⟨ss, e1, e2⟩ := ih fun x hx => h x (List.mem_cons_of_mem _ hx)
        obtain ⟨a, b⟩ := h e (List.mem_cons_self ..)
        obtain ⟨s, rfl, hs⟩ := isScreen_data a
        rw [scrTotal_scr] at b
        refine ⟨s :: ss, by rw [e1]; rfl, fun x hx => ?_⟩
        rcases List.mem_cons.mp hx with rfl | hx
        · rw [← b]
          exact hs
        · exact e2 x hx
    obtain ⟨ss, e1, e2⟩ := key (d :: ds) fun e he => ⟨h1 e he, of_decide_eq_true (h2 e he)⟩
    refine ⟨scrTotal d, ss, by rw [e1]; rfl, ?_, e2⟩
    rintro rfl
    cases e1
  · cases h
theorem areScreens_yes {n : Int} {ss : List Scr} (h : Scrs n ss) : areScreens (some (scrsD ss)) = true := by
  obtain ⟨h0, h1⟩ := h
  cases ss with
  | nil => exact (h0 rfl).elim
  | cons s ss =>
    show ((scrD s :: ss.map scrD).all isScreenD && (scrD s :: ss.map scrD).all fun e => decide (scrTotal e = scrTotal (scrD s))) = true
    rw [Bool.and_eq_true, List.all_eq_true, List.all_eq_true]
    have e : ∀ d ∈ scrD s :: ss.map scrD, ∃ s', d = scrD s' ∧ ScrOk n s' := by
      intro d hd
      have hd' : d ∈ (s :: ss).map scrD := hd
      obtain ⟨s', hs', rfl⟩ := List.mem_map.mp hd'
      exact ⟨s', rfl, h1 s' hs'⟩
    refine ⟨fun d hd => ?_, fun d hd => ?_⟩
    · obtain ⟨s', rfl, hs'⟩ := e d hd
      exact scr_yes hs'
    · obtain ⟨s', rfl, hs'⟩ := e d hd
      rw [scrTotal_scr, scrTotal_scr, hs'.2.2.2, (h1 s (List.mem_cons_self ..)).2.2.2]
      exact decide_eq_true rfl
theorem dpAll_ints_inv {K : PySem.W.Frag} {H : Hp} : ∀ {ns : List Int} {xs : List V}, DpAll K H xs (ns.map .int) → xs = iV ns
  | [], _, .nil => rfl
  | n :: ns, _, .cons (.int _) h => by rw [dpAll_ints_inv h]; rfl
theorem dp_ints_inv {K : PySem.W.Frag} {H : Hp} {v : V} {ns : List Int} (h : Dp K H v (.list (ns.map .int))) : ∃ a, v = .ref a ∧ SqL K H a (iV ns) := by
  generalize e : PyData.list (ns.map .int) = d at h
  cases h with
  | lst hS ha =>
    injection e with e
    subst e
    exact ⟨_, rfl, dpAll_ints_inv ha ▸ hS⟩
  | _ => cases e
theorem dp_scr_inv {K : PySem.W.Frag} {H : Hp} {v : V} {s : Scr} (h : Dp K H v (scrD s)) : ∃ t l, v = .ref t ∧ SqT K H t [.int s.1, .ref l] ∧ SqL K H l (iV s.2) := by
  unfold scrD at h
  generalize e : PyData.tuple _ = d at h
  cases h with
  | tup hS ha =>
    injection e with e
    subst e
    cases ha with
    | cons h1 h2 =>
      cases h2 with
      | cons h2 h3 =>
        cases h3
        cases h1
        obtain ⟨l, rfl, h3⟩ := dp_ints_inv h2
        exact ⟨_, l, rfl, hS, h3⟩
  | _ => cases e
theorem dp_scr {K : PySem.W.Frag} {H : Hp} {t l : Addr} {w : Int} {ls : List Int} (h1 : SqT K H t [.int w, .ref l]) (h2 : SqL K H l (iV ls)) : Dp K H (.ref t) (scrD (w, ls)) := .tup h1 (.cons (.int _) (.cons (.lst h2 (dpAll_ints ls)) .nil))
theorem dp_list_inv {K : PySem.W.Frag} {H : Hp} {v : V} {ds : List PyData} (h : Dp K H v (.list ds)) : ∃ a xs, v = .ref a ∧ SqL K H a xs ∧ DpAll K H xs ds := by
  generalize e : PyData.list ds = d at h
  cases h with
  | lst hS ha =>
    injection e with e
    subst e
    exact ⟨_, _, rfl, hS, ha⟩
  | _ => cases e
theorem dp_tuple_inv {K : PySem.W.Frag} {H : Hp} {v : V} {ds : List PyData} (h : Dp K H v (.tuple ds)) : ∃ a xs, v = .ref a ∧ SqT K H a xs ∧ DpAll K H xs ds := by
  generalize e : PyData.tuple ds = d at h
  cases h with
  | tup hS ha =>
    injection e with e
    subst e
    exact ⟨_, _, rfl, hS, ha⟩
  | _ => cases e
/-- screens at a value: the list, its tuples, their lists -/
theorem scrs_get {K : PySem.W.Frag} {H : Hp} {xs : List V} {ss : List Scr} {i : Nat} {x : V} (h : DpAll K H xs (ss.map scrD)) (hx : xs[i]? = some x) : ∃ s t l, ss[i]? = some s ∧ x = .ref t ∧ SqT K H t [.int s.1, .ref l] ∧ SqL K H l (iV s.2) := by
  obtain ⟨d, h1, h2⟩ := dpAll_get h hx
  rw [List.getElem?_map] at h1
  cases e : ss[i]? with
  | none =>
    rw [e] at h1
    cases h1
  | some s =>
    rw [e] at h1
    have h1' : scrD s = d := Option.some.inj h1
    subst h1'
    obtain ⟨t, l, rfl, h3, h4⟩ := dp_scr_inv h2
    exact ⟨s, t, l, rfl, rfl, h3, h4⟩
theorem Txt'.tiny {ws : List Int} (h : Txt' ws) : ∀ m ∈ ws, m.natAbs < 100000 := by
  intro m hm
  have h1 := h.2.1 m hm
  have h2 := h.le m hm
  omega
theorem nc_scr {n : Int} {s : Scr} (h : ScrOk n s) : Nc 3030 2 (scrD s) := by
  obtain ⟨h1, h2, h3, _⟩ := h
  exact (Nc.tuple (Ncs.cons (Nc.intS (show s.1.natAbs < 100000 by omega)) (Ncs.cons (Nc.intsS h3.len h3.tiny) (Ncs.nil (k := 0))))).mono (by decide) (by decide)
theorem nc_scrs {n : Int} {ss : List Scr} (h : Scrs n ss) {m : Nat} (hm : ss.length ≤ m) : Nc (3032 * m + 3) 3 (scrsD ss) := by
  refine Nc.list (Ncs.all (w := 3030) (by rw [List.length_map]; exact hm) fun d hd => ?_)
  obtain ⟨s, hs, rfl⟩ := List.mem_map.mp hd
  exact nc_scr (h.2 s hs)
theorem isWidth_d {K : PySem.W.Frag} {H : Hp} {v : V} {d : PyData} (h : Dp K H v d) : isIntD 1 1000 d = (match v with
  | .int i => decide (1 ≤ i) && decide (i ≤ 1000)
  | _ => false) := by
  cases h <;> rfl
/-- how long a list within data may be -/
theorem wt_item {d : PyData} : ∀ {ds : List PyData}, d ∈ ds → wt d ≤ wtAll ds
  | e :: ds, hm => by
    rw [wtAll]
    rcases List.mem_cons.mp hm with rfl | hm
    · omega
    · have := wt_item hm
      omega
theorem wt_len : ∀ ds : List PyData, 2 * ds.length ≤ wtAll ds
  | [] => Nat.zero_le _
  | d :: ds => by
    have := wt_len ds
    rw [wtAll, List.length_cons]
    omega
theorem wt_line {ds : List PyData} {B : Nat} (h : wt (.list ds) ≤ B) (hB : B ≤ 16000000) : ds.length ≤ sizeLine := by
  have hz : sizeLine = 16777216 := by decide
  have := wt_len ds
  rw [wt] at h
  omega
theorem wt_lineT {ds : List PyData} {B : Nat} (h : wt (.tuple ds) ≤ B) (hB : B ≤ 16000000) : ds.length ≤ sizeLine := by
  have hz : sizeLine = 16777216 := by decide
  have := wt_len ds
  rw [wt] at h
  omega
theorem shaped_in {d : PyData} {ds : List PyData} (h : SeqAt.shaped (.list ds) = true) (hm : d ∈ ds) : SeqAt.shaped d = true := by
  unfold SeqAt.shaped at h ⊢
  rw [Bool.and_eq_true] at h ⊢
  obtain ⟨h1, h2⟩ := h
  have h2' := of_decide_eq_true h2
  rw [PyData.depth] at h2'
  rw [PyData.canLay0] at h1
  have := depth_mem hm
  exact ⟨lay_mem h1 hm, decide_eq_true (by omega)⟩
theorem shaped_inT {d : PyData} {ds : List PyData} (h : SeqAt.shaped (.tuple ds) = true) (hm : d ∈ ds) : SeqAt.shaped d = true := by
  unfold SeqAt.shaped at h ⊢
  rw [Bool.and_eq_true] at h ⊢
  obtain ⟨h1, h2⟩ := h
  have h2' := of_decide_eq_true h2
  rw [PyData.depth] at h2'
  rw [PyData.canLay0] at h1
  have := depth_mem hm
  exact ⟨lay_mem h1 hm, decide_eq_true (by omega)⟩
theorem Scrs.len {n : Int} {ss : List Scr} (h : Scrs n ss) : 1 ≤ n ∧ n ≤ 600 := by
  obtain ⟨h0, h1⟩ := h
  cases ss with
  | nil => exact (h0 rfl).elim
  | cons s ss =>
    obtain ⟨_, _, h3, h4⟩ := h1 s (List.mem_cons_self ..)
    have := total_nonneg_len s.2 h3.2.1
    have := List.length_pos_iff.mpr h3.1
    have := h3.2.2
    unfold total at h4 this
    omega
end Wc

/-! comprehensions over lists of pairs; data that stands whatever is done to some objects. -/
namespace Wc
open PySem PySem.Spec PyProof.Rows L2
/-- [e for x, y in xs], any state -/
theorem lc_genP {K : PySem.W.Frag} {a D : Addr} {xs : List V} {j k : Nat} {te : TE} {vs : List Nat} {σ : L2.St} {H1 : Hp} {Qd : Hp → Prop} (P : Nat → List V → Hp → Prop) (hz : xs.length ≤ sizeLine)
    (h0 : P 0 [] (upd H1 D (.lst []))) (hsrc : ∀ i acc H, P i acc H → H D = some (.lst acc) → SqL K H a xs)
    (hs : ∀ i x acc H, xs[i]? = some x → acc.length = i → P i acc H → H D = some (.lst acc) → ∃ t u w, x = .ref t ∧ SqT K H t [u, w] ∧ ∀ Q : VK, (∀ y H', H' D = some (.lst acc) → P (i + 1) (acc ++ [y]) (upd H' D (.lst (acc ++ [y]))) → Q y H') → te (((wipe σ vs).set j (some u)).set k (some w)) H Q)
    (hd : ∀ acc H', acc.length = xs.length → P xs.length acc H' → H' D = some (.lst acc) → Qd H')
    (hw : ∀ x y : V, wipe (((wipe σ vs).set j (some x)).set k (some y)) vs = wipe σ vs := by intro x y; rfl) :
    ∃ W : Nat → Nat → Hp → Prop, (∃ m, W 0 m (upd H1 D (.lst []))) ∧ ∀ i m H, W i m H →
      ((Itl K a).stop i H ∧ Qd H) ∨ ((Itl K a).go i H ∧ ∃ Nx : Hp → Prop, (∀ H', Nx H' → ∃ m', m' < m ∧ W (i + 1) m' H') ∧ ∀ x H', (Itl K a).yld i H x H' → gTup K 2 (gCons (gName j) (gCons (gName k) gNil)) x (wipe σ vs) H' fun σ2 H2 => wipe σ2 vs = wipe σ vs ∧ tYes σ2 H2 fun b H3 =>
        if b = true then te σ2 H3 fun y H4 => ∃ acc, H4 D = some (.lst acc) ∧ acc.length < sizeLine ∧ Nx (upd H4 D (.lst (acc ++ [y]))) else Nx H3) := by
  refine lc_list (xs := xs) (fun i H => ∃ acc, acc.length = i ∧ H D = some (.lst acc) ∧ P i acc H) ⟨[], rfl, upd_same, h0⟩ (fun i H _ ⟨acc, _, e, hp⟩ => hsrc i acc H hp e) ?_ ?_
  · rintro i x H hx ⟨acc, ha, eD, hp⟩
    have hi : i < xs.length := (List.getElem?_eq_some_iff.mp hx).1
    obtain ⟨t, u, w, rfl, ht, hk⟩ := hs i x acc H hx ha hp eD
    refine ⟨t, _, rfl, ht, rfl, u, [w], rfl, w, [], rfl, rfl, hw u w, ?_⟩
    unfold tYes
    dsimp only
    rw [if_pos rfl]
    refine hk _ fun y H4 e4 p4 => ⟨acc, e4, by omega, acc ++ [y], by rw [List.length_append, List.length_singleton, ha], upd_same, p4⟩
  · rintro H ⟨acc, ha, eD, hp⟩
    exact hd acc H ha hp eD
/-- [e for x, y in xs], e giving zs place by place -/
theorem lc_mapP {K : PySem.W.Frag} {a D : Addr} {xs : List V} {j k : Nat} {te : TE} {vs : List Nat} {σ : L2.St} {H1 : Hp} {Qd : Hp → Prop} (zs : List V) (hl : zs.length = xs.length) (hz : xs.length ≤ sizeLine) (hS : SqL K H1 a xs) (nD : H1 D = Option.none)
    (hs : ∀ (i : Nat) (x z : V) (H' : Hp), xs[i]? = some x → zs[i]? = some z → Same H1 H' → ∃ t u w, x = .ref t ∧ SqT K H' t [u, w] ∧ Evs te (((wipe σ vs).set j (some u)).set k (some w)) H' z)
    (hd : ∀ H', Same H1 H' → H' D = some (.lst zs) → Qd H') (hw : ∀ x y : V, wipe (((wipe σ vs).set j (some x)).set k (some y)) vs = wipe σ vs := by intro x y; rfl) :
    ∃ W : Nat → Nat → Hp → Prop, (∃ m, W 0 m (upd H1 D (.lst []))) ∧ ∀ i m H, W i m H →
      ((Itl K a).stop i H ∧ Qd H) ∨ ((Itl K a).go i H ∧ ∃ Nx : Hp → Prop, (∀ H', Nx H' → ∃ m', m' < m ∧ W (i + 1) m' H') ∧ ∀ x H', (Itl K a).yld i H x H' → gTup K 2 (gCons (gName j) (gCons (gName k) gNil)) x (wipe σ vs) H' fun σ2 H2 => wipe σ2 vs = wipe σ vs ∧ tYes σ2 H2 fun b H3 =>
        if b = true then te σ2 H3 fun y H4 => ∃ acc, H4 D = some (.lst acc) ∧ acc.length < sizeLine ∧ Nx (upd H4 D (.lst (acc ++ [y]))) else Nx H3) := by
  refine lc_genP (fun i acc H => Same H1 H ∧ acc = zs.take i) hz ⟨same_new nD, by simp⟩ (fun i acc H hp _ => hp.1.seq hS) ?_ ?_ hw
  · rintro i x acc H hx ha ⟨sm, hp⟩ eD
    have hi : i < xs.length := (List.getElem?_eq_some_iff.mp hx).1
    have hzz : zs[i]? = some (zs[i]'(by omega)) := List.getElem?_eq_getElem (by omega)
    obtain ⟨t, u, w, rfl, ht, hk⟩ := hs i x _ H hx hzz sm
    refine ⟨t, u, w, rfl, ht, fun Q k => hk Q fun H4 s4 => k _ _ (s4 _ _ eD) ⟨same_mut (sm.trans s4) nD, ?_⟩⟩
    rw [hp, List.take_add_one, hzz]
    rfl
  · rintro acc H ha ⟨sm, hp⟩ eD
    refine hd H sm ?_
    rw [eD, hp, ← hl, List.take_length]
/-- [e for x, y in xs if t] -/
theorem lc_filtP {K : PySem.W.Frag} {a D : Addr} {xs : List V} {j k : Nat} {tt : TT} {te : TE} {vs : List Nat} {σ : L2.St} {H1 : Hp} {Qd : Hp → Prop} (c : Nat → Bool) (f : Nat → V) (hz : xs.length ≤ sizeLine) (hS : SqL K H1 a xs) (nD : H1 D = Option.none)
    (hs : ∀ (i : Nat) (x : V) (H' : Hp), xs[i]? = some x → Same H1 H' → ∃ t u w, x = .ref t ∧ SqT K H' t [u, w] ∧ Evt tt (((wipe σ vs).set j (some u)).set k (some w)) H' (c i) ∧ ∀ H2, Same H' H2 → Evs te (((wipe σ vs).set j (some u)).set k (some w)) H2 (f i))
    (hd : ∀ H', Same H1 H' → H' D = some (.lst (((List.range xs.length).filter c).map f)) → Qd H') (hw : ∀ x y : V, wipe (((wipe σ vs).set j (some x)).set k (some y)) vs = wipe σ vs := by intro x y; rfl) :
    ∃ W : Nat → Nat → Hp → Prop, (∃ m, W 0 m (upd H1 D (.lst []))) ∧ ∀ i m H, W i m H →
      ((Itl K a).stop i H ∧ Qd H) ∨ ((Itl K a).go i H ∧ ∃ Nx : Hp → Prop, (∀ H', Nx H' → ∃ m', m' < m ∧ W (i + 1) m' H') ∧ ∀ x H', (Itl K a).yld i H x H' → gTup K 2 (gCons (gName j) (gCons (gName k) gNil)) x (wipe σ vs) H' fun σ2 H2 => wipe σ2 vs = wipe σ vs ∧ tt σ2 H2 fun b H3 =>
        if b = true then te σ2 H3 fun y H4 => ∃ acc, H4 D = some (.lst acc) ∧ acc.length < sizeLine ∧ Nx (upd H4 D (.lst (acc ++ [y]))) else Nx H3) := by
  refine lc_list (xs := xs) (fun i H => Same H1 H ∧ H D = some (.lst (((List.range i).filter c).map f))) ⟨same_new nD, upd_same⟩ (fun i H _ hp => hp.1.seq hS) ?_ ?_
  · rintro i x H hx ⟨sm, eD⟩
    have hi : i < xs.length := (List.getElem?_eq_some_iff.mp hx).1
    obtain ⟨t, u, w, rfl, ht, hk, hf⟩ := hs i x H hx sm
    refine ⟨t, _, rfl, ht, rfl, u, [w], rfl, w, [], rfl, rfl, hw u w, ?_⟩
    refine hk _ fun H3 s3 => ?_
    cases e : c i with
    | false =>
      refine iteF ⟨sm.trans s3, ?_⟩
      rw [s3 _ _ eD, List.range_succ, List.filter_append]
      simp [e]
    | true =>
      refine iteT (hf H3 s3 _ fun H4 s4 => ⟨_, s4 _ _ (s3 _ _ eD), ?_, ?_, ?_⟩)
      · rw [List.length_map]
        have := List.length_filter_le c (List.range i)
        rw [List.length_range] at this
        omega
      · exact same_mut ((sm.trans s3).trans s4) nD
      · rw [upd_same, List.range_succ, List.filter_append, List.map_append]
        simp [e]
  · rintro H ⟨sm, eD⟩
    exact hd H sm eD
/-- data that stands whatever is done to the objects of S -/
def Ds (S : List Addr) (K : PySem.W.Frag) (H : Hp) (v : V) (d : PyData) : Prop := ∀ H', SameS S H H' → Dp K H' v d
def DsAll (S : List Addr) (K : PySem.W.Frag) (H : Hp) (vs : List V) (ds : List PyData) : Prop := ∀ H', SameS S H H' → DpAll K H' vs ds
section
variable {S : List Addr} {K : PySem.W.Frag} {H H' : Hp} {v : V} {d : PyData} {vs : List V} {ds : List PyData} {x : Addr} {o : HO}
theorem Ds.dp (h : Ds S K H v d) : Dp K H v d := h H (SameS.refl _ _)
theorem Ds.on (h : Ds S K H v d) (s : SameS S H H') : Ds S K H' v d := fun H2 s2 => h H2 (s.trans s2)
theorem Ds.same (h : Ds S K H v d) (s : Same H H') : Ds S K H' v d := h.on (SameS.of s)
theorem SameS.cut (n : H x = Option.none) (s : SameS (x :: S) H H') : SameS S H H' := fun b o hb e => s b o (fun hm => by
  rcases List.mem_cons.mp hm with rfl | hm
  · rw [n] at e
    cases e
  · exact hb hm) e
theorem SameS.more (s : SameS S H H') : SameS (x :: S) H H' := fun b o hb e => s b o (fun hm => hb (List.mem_cons_of_mem _ hm)) e
theorem SameS.mem {S' : List Addr} (s : SameS S H H') (h : ∀ b ∈ S, b ∈ S') : SameS S' H H' := fun b o hb e => s b o (fun hm => hb (h b hm)) e
/-- a new object may be changed later on -/
theorem Ds.push (h : Ds S K H v d) (n : H x = Option.none) : Ds (x :: S) K H v d := fun H2 s2 => h H2 (s2.cut n)
theorem Ds.pop (h : Ds (x :: S) K H v d) : Ds S K H v d := fun H2 s2 => h H2 s2.more
theorem Ds.mem {S' : List Addr} (h : Ds S K H v d) (hm : ∀ b ∈ S', b ∈ S) : Ds S' K H v d := fun H2 s2 => h H2 (s2.mem hm)
theorem DsAll.dp (h : DsAll S K H vs ds) : DpAll K H vs ds := h H (SameS.refl _ _)
theorem DsAll.on (h : DsAll S K H vs ds) (s : SameS S H H') : DsAll S K H' vs ds := fun H2 s2 => h H2 (s.trans s2)
theorem DsAll.push (h : DsAll S K H vs ds) (n : H x = Option.none) : DsAll (x :: S) K H vs ds := fun H2 s2 => h H2 (s2.cut n)
theorem DsAll.mem {S' : List Addr} (h : DsAll S K H vs ds) (hm : ∀ b ∈ S', b ∈ S) : DsAll S' K H vs ds := fun H2 s2 => h H2 (s2.mem hm)
theorem DsAll.nil : DsAll S K H [] [] := fun _ _ => .nil
theorem DsAll.snoc (h : DsAll S K H vs ds) (h2 : Ds S K H v d) : DsAll S K H (vs ++ [v]) (ds ++ [d]) := fun H2 s2 => DpAll.snoc (h H2 s2) (h2 H2 s2)
theorem DsAll.cons (h2 : Ds S K H v d) (h : DsAll S K H vs ds) : DsAll S K H (v :: vs) (d :: ds) := fun H2 s2 => .cons (h2 H2 s2) (h H2 s2)
theorem Ds.lst (n : x ∉ S) (h : H x = some (.lst vs)) (ha : DsAll S K H vs ds) : Ds S K H (.ref x) (.list ds) := fun H2 s2 => .lst (.inl (.inl (s2.at n h))) (ha H2 s2)
theorem Ds.tup (n : x ∉ S) (h : H x = some (.tup vs)) (ha : DsAll S K H vs ds) : Ds S K H (.ref x) (.tuple ds) := fun H2 s2 => .tup (.inl (.inl (s2.at n h))) (ha H2 s2)
theorem Ds.int {i : Int} : Ds S K H (.int i) (.int i) := fun _ _ => .int i
theorem Ds.bl {b : Bool} : Ds S K H (.bl b) (.bool b) := fun _ _ => .bl b
theorem Ds.non : Ds S K H .non .none := fun _ _ => .non
theorem Ds.str {z : Str} : Ds S K H (.str z) (.str z) := fun _ _ => .str z
theorem Ds.ints {ns : List Int} (n : x ∉ S) (h : IL H x ns) : Ds S K H (.ref x) (.list (ns.map .int)) := fun H2 s2 => dp_ints (s2.il n h)
theorem Ds.scr {w : Int} {ls : List Int} {l : Addr} (n : x ∉ S) (h : H x = some (.tup [.int w, .ref l])) (nl : l ∉ S) (hl : IL H l ls) : Ds S K H (.ref x) (scrD (w, ls)) := fun H2 s2 => dp_scr (.inl (.inl (s2.at n h))) (s2.il nl hl).seq
theorem Ds.new (h : Ds S K H v d) (n : H x = Option.none) : Ds S K (upd H x o) v d := h.same (same_new n)
theorem DsAll.new (h : DsAll S K H vs ds) (n : H x = Option.none) : DsAll S K (upd H x o) vs ds := h.on (SameS.of (same_new n))
theorem DsAll.get {i : Nat} (h : DsAll S K H vs ds) (hx : vs[i]? = some v) : ∃ d, ds[i]? = some d ∧ Ds S K H v d := by
  obtain ⟨d, e, _⟩ := dpAll_get h.dp hx
  refine ⟨d, e, fun H2 s2 => ?_⟩
  obtain ⟨d', e', h'⟩ := dpAll_get (h H2 s2) hx
  rw [e] at e'
  cases e'
  exact h'
theorem SameS.toB {a : Addr} (s : SameS [a] H H') : SameB a H H' := fun b o n e => s b o (fun hm => n (List.mem_singleton.mp hm)) e
theorem SameB.toS {a : Addr} (s : SameB a H H') : SameS [a] H H' := fun b o n e => s b o (fun hb => n (by rw [hb]; exact List.mem_singleton.mpr rfl)) e
theorem But.toS {a : Addr} (s : But a H H') : SameS [a] H H' := (SameB.but s).toS
end
/-- which texts fit screens -/
def fitsOf (n : Int) (ss : List Scr) (ws : List Int) : Bool := decide (total ws = n) && ss.all fun s => decide (lawWrap ws s.1 = s.2)
theorem dp_refs {K : PySem.W.Frag} {H : Hp} {a : Addr} {xs : List V} {ds : List PyData} (h : H a = some (.lst xs)) (ha : DpAll K H xs ds) : Dp K H (.ref a) (.list ds) := .lst (.inl (.inl h)) ha
end Wc

/-! screens whose lists stand apart. -/
namespace Wc
open PySem PySem.Spec PyProof.Rows L2
section
variable {X : Cx} {K : PySem.W.Frag}
theorem kListOf (e : X.K = K) : CallR X (.type "list") (fun xs H Q => ∃ p ys, xs = [.ref p] ∧ (SqL K H p ys ∨ SqT K H p ys) ∧ ∀ l, H l = Option.none → Q (.ref l) (upd H l (.lst ys))) := by
  subst e
  exact call_list_of
end
theorem ixN_nn {n : Nat} {i : Int} (h0 : 0 ≤ i) (h1 : i < n) : ixN n i = some i.toNat := by
  unfold ixN
  rw [if_pos h0, if_pos h1]
theorem nin2 {x p a : Addr} (h1 : x ≠ p) (h2 : x ≠ a) : x ∉ [p, a] := by
  simp [h1, h2]
section
variable {S : List Addr} {F : Addr → Prop} {K : PySem.W.Frag} {H H' : Hp}
theorem dpAll_of : ∀ {xs : List V} {ds : List PyData}, xs.length = ds.length → (∀ (i : Nat) x d, xs[i]? = some x → ds[i]? = some d → Dp K H x d) → DpAll K H xs ds
  | [], [], _, _ => .nil
  | [], _ :: _, h, _ => by simp at h
  | _ :: _, [], h, _ => by simp at h
  | x :: xs, d :: ds, h, hg => .cons (hg 0 x d rfl rfl) (dpAll_of (by simpa using h) fun i y e hy he => hg (i + 1) y e (by simpa using hy) (by simpa using he))
theorem DsAll.of {xs : List V} {ds : List PyData} (h : xs.length = ds.length) (hg : ∀ (i : Nat) x d, xs[i]? = some x → ds[i]? = some d → Ds S K H x d) : DsAll S K H xs ds :=
  fun H2 s2 => dpAll_of h fun i x d hx hd => hg i x d hx hd H2 s2
/-- screens in a list of tuples; each one's list stands apart from the other screens -/
def Sep (S : List Addr) (F : Addr → Prop) (K : PySem.W.Frag) (H : Hp) (xs : List V) (ss : List Scr) : Prop := xs.length = ss.length ∧ ∀ (i : Nat) x s, xs[i]? = some x → ss[i]? = some s →
  ∃ t l, x = .ref t ∧ F l ∧ t ∉ S ∧ l ∉ S ∧ t ≠ l ∧ H t = some (.tup [.int s.1, .ref l]) ∧ IL H l s.2 ∧ ∀ (j : Nat) y s', j ≠ i → xs[j]? = some y → ss[j]? = some s' → Ds (l :: S) K H y (scrD s')
theorem Sep.nil : Sep S F K H [] [] := ⟨rfl, fun i x s hx _ => by simp at hx⟩
theorem Sep.on (h : Sep S F K H xs ss) (s : SameS S H H') : Sep S F K H' xs ss := by
  refine ⟨h.1, fun i x sc hx hs => ?_⟩
  obtain ⟨t, l, e, hF, ht, hl, ne, h1, h2, h3⟩ := h.2 i x sc hx hs
  exact ⟨t, l, e, hF, ht, hl, ne, s.at ht h1, s.il hl h2, fun j y s' hj hy hs' => (h3 j y s' hj hy hs').on s.more⟩
theorem Sep.all {xs : List V} {ss : List Scr} (h : Sep S F K H xs ss) : DsAll S K H xs (ss.map scrD) := by
  refine DsAll.of (by rw [h.1, List.length_map]) fun i x d hx hd => ?_
  rw [List.getElem?_map] at hd
  cases e : ss[i]? with
  | none =>
    rw [e] at hd
    cases hd
  | some s =>
    rw [e] at hd
    have hd' : scrD s = d := Option.some.inj hd
    subst hd'
    obtain ⟨t, l, rfl, _, ht, hl, _, h1, h2, _⟩ := h.2 i x s hx e
    exact Ds.scr ht h1 hl h2
/-- one more screen, its tuple and its list new -/
theorem Sep.snoc {xs : List V} {ss : List Scr} {t l : Addr} {s : Scr} (h : Sep S F K H xs ss) (hF : F l) (hl : H l = Option.none) (s1 : SameS S H H') (ht : t ∉ S) (hlS : l ∉ S) (ne : t ≠ l) (nt : H t = Option.none)
    (e1 : H' t = some (.tup [.int s.1, .ref l])) (e2 : IL H' l s.2) : Sep S F K H' (xs ++ [.ref t]) (ss ++ [s]) := by
  refine ⟨by simp [h.1], fun i x sc hx hs => ?_⟩
  have old : ∀ (j : Nat) y s', xs[j]? = some y → ss[j]? = some s' → Ds (l :: S) K H' y (scrD s') := by
    intro j y s' hy hs'
    obtain ⟨d, e, hd⟩ := h.all.get hy
    rw [List.getElem?_map, hs'] at e
    have e' : scrD s' = d := Option.some.inj e
    subst e'
    exact (hd.push hl).on s1.more
  rcases (by
    have := (List.getElem?_eq_some_iff.mp hx).1
    rw [List.length_append, List.length_singleton] at this
    omega : i < xs.length ∨ i = xs.length) with hi | hi
  · rw [List.getElem?_append_left hi] at hx
    rw [List.getElem?_append_left (by rw [← h.1]; exact hi)] at hs
    obtain ⟨t0, l0, rfl, a0, a1, a2, a3, a4, a5, a6⟩ := h.2 i x sc hx hs
    refine ⟨t0, l0, rfl, a0, a1, a2, a3, s1.at a1 a4, s1.il a2 a5, fun j y s' hj hy hs' => ?_⟩
    rcases (by
      have := (List.getElem?_eq_some_iff.mp hy).1
      rw [List.length_append, List.length_singleton] at this
      omega : j < xs.length ∨ j = xs.length) with hj2 | hj2
    · rw [List.getElem?_append_left hj2] at hy
      rw [List.getElem?_append_left (by rw [← h.1]; exact hj2)] at hs'
      exact (a6 j y s' hj hy hs').on s1.more
    · subst hj2
      rw [List.getElem?_append_right (Nat.le_refl _)] at hy
      rw [List.getElem?_append_right (by rw [h.1]; exact Nat.le_refl _)] at hs'
      simp [h.1] at hy hs'
      subst hy hs'
      refine Ds.scr ?_ e1 ?_ e2
      · intro hm
        rcases List.mem_cons.mp hm with rfl | hm
        · cases a5.symm.trans nt
        · exact ht hm
      · intro hm
        rcases List.mem_cons.mp hm with rfl | hm
        · cases a5.symm.trans hl
        · exact hlS hm
  · subst hi
    rw [List.getElem?_append_right (Nat.le_refl _)] at hx
    rw [List.getElem?_append_right (by rw [h.1]; exact Nat.le_refl _)] at hs
    simp [h.1] at hx hs
    subst hx hs
    refine ⟨t, l, rfl, hF, ht, hlS, ne, e1, e2, fun j y s' hj hy hs' => ?_⟩
    have hj2 : j < xs.length := by
      have := (List.getElem?_eq_some_iff.mp hy).1
      rw [List.length_append, List.length_singleton] at this
      omega
    rw [List.getElem?_append_left hj2] at hy
    rw [List.getElem?_append_left (by rw [← h.1]; exact hj2)] at hs'
    exact old j y s' hy hs'
/-- the i-th screen replaced -/
theorem Sep.set {xs : List V} {ss : List Scr} {i : Nat} {l t' l' : Addr} {s s' : Scr} (h : Sep S F K H xs ss) {x : V} (hx : xs[i]? = some x) (hs : ss[i]? = some s) (hH : ∀ (j : Nat) y sj, j ≠ i → xs[j]? = some y → ss[j]? = some sj → Ds (l :: S) K H y (scrD sj))
    (s1 : SameS (l :: S) H H') (ht : t' ∉ S) (hl : l' ∉ S) (e1 : H' t' = some (.tup [.int s'.1, .ref l'])) (e2 : IL H' l' s'.2) : DsAll S K H' (xs.set i (.ref t')) ((ss.set i s').map scrD) := by
  refine DsAll.of (by rw [List.length_set, List.length_map, List.length_set, h.1]) fun j y d hy hd => ?_
  rw [List.getElem?_map] at hd
  by_cases c : j = i
  · subst c
    have hi := (List.getElem?_eq_some_iff.mp hx).1
    rw [List.getElem?_set_self hi] at hy
    rw [List.getElem?_set_self (by rw [← h.1]; exact hi)] at hd
    cases hy
    cases hd
    exact Ds.scr ht e1 hl e2
  · rw [List.getElem?_set_ne (fun e => c e.symm)] at hy
    rw [List.getElem?_set_ne (fun e => c e.symm)] at hd
    cases e : ss[j]? with
    | none =>
      rw [e] at hd
      cases hd
    | some sj =>
      rw [e] at hd
      have hd' : scrD sj = d := Option.some.inj hd
      subst hd'
      exact (((hH j y sj c hy e).on s1).pop)
end
theorem sum_set {x u : Int} : ∀ {ns : List Int} {i : Nat}, ns[i]? = some x → (ns.set i u).sum = ns.sum - x + u
  | [], _, h => by simp at h
  | n :: ns, 0, h => by
    simp at h
    subst h
    simp only [List.set_cons_zero, List.sum_cons]
    omega
  | n :: ns, i + 1, h => by
    simp only [List.set_cons_succ, List.sum_cons]
    rw [sum_set (by simpa using h)]
    omega
/-- two neighbours of a text changed, together as long as before -/
theorem Txt'.two {ns : List Int} (h : Txt' ns) {i : Nat} {x y u v : Int} (hx : ns[i]? = some x) (hy : ns[i + 1]? = some y) (hu : 1 ≤ u) (hv : 1 ≤ v) (e : u + v = x + y) : Txt' ((ns.set i u).set (i + 1) v) ∧ total ((ns.set i u).set (i + 1) v) = total ns := by
  obtain ⟨h0, h1, h2⟩ := h
  have hy2 : (ns.set i u)[i + 1]? = some y := by
    rw [List.getElem?_set_ne (by omega)]
    exact hy
  have et : total ((ns.set i u).set (i + 1) v) = total ns := by
    unfold total
    rw [sum_set hy2, sum_set hx, List.length_set, List.length_set]
    omega
  refine ⟨⟨?_, fun n hn => ?_, by rw [et]; exact h2⟩, et⟩
  · intro e0
    have := congrArg List.length e0
    rw [List.length_set, List.length_set] at this
    exact h0 (List.length_eq_zero_iff.mp this)
  · rcases List.mem_or_eq_of_mem_set hn with hn | rfl
    · rcases List.mem_or_eq_of_mem_set hn with hn | rfl
      · exact h1 n hn
      · exact hu
    · exact hv
/-- some neighbouring words replaced by others that take as much room -/
theorem txt_swap {ws ms : List Int} {a b : Nat} (h : Txt' ws) (hab : a ≤ b) (hm : ms ≠ []) (h1 : ∀ m ∈ ms, 1 ≤ m) (e : ms.sum + ms.length = ((ws.drop a).take (b - a)).sum + ((ws.drop a).take (b - a)).length) : Txt' (ws.take a ++ ms ++ ws.drop b) ∧ total (ws.take a ++ ms ++ ws.drop b) = total ws := by
  obtain ⟨a0, a1, a2⟩ := h
  have e0 : ws = ws.take a ++ ((ws.drop a).take (b - a) ++ ws.drop b) := by
    conv => lhs; rw [← List.take_append_drop a ws]
    congr 1
    have := (List.take_append_drop (b - a) (ws.drop a)).symm
    rw [List.drop_drop, show a + (b - a) = b by omega] at this
    exact this
  have et : total (ws.take a ++ ms ++ ws.drop b) = total ws := by
    have es := congrArg List.sum e0
    have el := congrArg List.length e0
    rw [List.sum_append, List.sum_append] at es
    rw [List.length_append, List.length_append] at el
    unfold total
    simp only [List.sum_append, List.length_append]
    omega
  refine ⟨⟨by simp [hm], fun n hn => ?_, by rw [et]; exact a2⟩, et⟩
  rcases List.mem_append.mp hn with hn | hn
  · rcases List.mem_append.mp hn with hn | hn
    · exact a1 n (List.take_subset _ _ hn)
    · exact h1 n hn
  · exact a1 n (List.drop_subset _ _ hn)
theorem range_none {n : Nat} {c : Nat → Bool} : (((List.range n).filter c).map fun _ => (1 : Int)) = [] ↔ ∀ i < n, c i = false := by
  rw [List.map_eq_nil_iff, List.filter_eq_nil_iff]
  constructor
  · intro h i hi
    have := h i (List.mem_range.mpr hi)
    simpa using this
  · intro h i hi
    rw [h i (List.mem_range.mp hi)]
    decide
theorem ones_map (xs : List Nat) : xs.map (fun _ => V.int 1) = iV (xs.map fun _ => (1 : Int)) := by
  show _ = (xs.map fun _ => (1 : Int)).map V.int
  rw [List.map_map]
  rfl
theorem fits_range (n : Int) (ss : List Scr) (ws : List Int) : (ss.all fun s => decide (lawWrap ws s.1 = s.2)) = true ↔ ∀ (i : Nat) s, ss[i]? = some s → lawWrap ws s.1 = s.2 := by
  rw [List.all_eq_true]
  constructor
  · intro h i s hs
    exact of_decide_eq_true (h s (List.mem_of_getElem? hs))
  · intro h s hs
    obtain ⟨i, hi⟩ := List.getElem?_of_mem hs
    exact decide_eq_true (h i s hi)
theorem ifT {c : Bool} {A B : Prop} (hc : c = true) (h : A) : if c = true then A else B := by
  rw [if_pos hc]
  exact h
theorem ifF {c : Bool} {A B : Prop} (hc : c = false) (h : B) : if c = true then A else B := by
  rw [if_neg (by rw [hc]; decide)]
  exact h
theorem eqF {x y : V} {i : Decidable (x = y)} (h : x ≠ y) : (@decide (x = y) i) = false := decide_eq_false h
/-- the screens that a text does not show -/
def missOf (ss : List Scr) (rs : List Int) (i : Nat) : Bool := match ss[i]? with
  | some s => !decide (lawWrap rs s.1 = s.2)
  | none => false
theorem miss_get {ss : List Scr} {rs : List Int} {i : Nat} {s : Scr} (h : ss[i]? = some s) : missOf ss rs i = !decide (lawWrap rs s.1 = s.2) := by
  unfold missOf
  rw [h]
def missL (ss : List Scr) (rs : List Int) : List Int := ((List.range ss.length).filter (missOf ss rs)).map fun _ => (1 : Int)
theorem miss_all (ss : List Scr) (rs : List Int) : decide (missL ss rs = []) = ss.all fun s => decide (lawWrap rs s.1 = s.2) := by
  unfold missL
  rw [Bool.eq_iff_iff, decide_eq_true_iff, range_none, fits_range 0]
  constructor
  · intro h i s hs
    have h1 := h i (List.getElem?_eq_some_iff.mp hs).1
    rw [miss_get hs] at h1
    simpa using h1
  · intro h i hi
    cases e : ss[i]? with
    | none =>
      unfold missOf
      rw [e]
    | some s =>
      rw [miss_get e]
      have := h i s e
      simp [this]
end Wc

/-! own classes; d.update(e). -/
namespace Wc
open PySem PySem.Spec PyProof.Rows L2
/-! ### classes -/
/-- a method, bundled -/
structure MetC (P : Program) (w : World) (K : PySem.W.Frag) (mg : Str → Option Value) (base : Heap) (CX : CXT) (k : Nat) (C : Addr) (m : Str) (ps : List Str) (dvs : List V) (sp : Sp) : Prop where
  ex : ∃ (f : Addr) (fd : FuncData) (ds : List Value), Cls K C ∧ Meth K C m f ∧ FnOk P w K mg base CX k f fd ps sp ∧ L2.Binds K fd ps ds ∧ Vals dvs ds
/-- a class's making, bundled -/
structure MakC (P : Program) (w : World) (K : PySem.W.Frag) (mg : Str → Option Value) (base : Heap) (CX : CXT) (k : Nat) (x : Str) (C : Addr) (ps : List Str) (dvs : List V) (sp : Sp) : Prop where
  ex : ∃ (f : Addr) (fd : FuncData) (ds : List Value), Mk K C f ∧ FnOk P w K mg base CX k f fd ps sp ∧ mg x = some (.ref C) ∧ L2.Binds K fd ps ds ∧ Vals dvs ds
section
variable {X : Cx} {CX : CXT} {k : Nat} {C : Addr} {m x : Str} {ps : List Str} {dvs : List V} {sp : Sp} {E : XK} {p pos apos : Pos} {o e : Expr} {es : List Expr} {t : TA} {ta : TE}
theorem pe_metC {pl : Sem Bool} (he : PE X o ta) (c : MetC X.prog X.w X.K X.mg X.base CX k C m ps dvs sp) (hr : Room k X.A) (hx : Passes CX X E) (ha : PA X (e :: es) t)
    (hst : starEach (e :: es) X.env = (false, eval e X.env) :: starEach es X.env := by rfl) (hpl : (backTo pos (starEach es X.env)).any (·.1) = false := by rfl)
    (ht : eval (.Call (.Attribute o m apos) (e :: es) [] pos) X.env = (do
      let ov ← eval o X.env
      standAt apos.atName
      let (f, first) ← holding [ov] (getMethod ov m pl)
      callWith pos f first (backTo pos (starEach (e :: es) X.env)) (backToKw pos (keywordEach [] X.env))) := by rfl) :
    PE X (.Call (.Attribute o m apos) (e :: es) [] pos) (tMeth C m sp dvs E ta t) := by
  obtain ⟨f, fd, ds, c, hm, F, hb, hd⟩ := c.ex
  exact pe_meth he c hm F hr hb hd hx ha hst hpl ht
theorem pe_metC0 {pl : Sem Bool} (he : PE X o ta) (c : MetC X.prog X.w X.K X.mg X.base CX k C m ps dvs sp) (hr : Room k X.A) (hx : Passes CX X E)
    (ht : eval (.Call (.Attribute o m apos) [] [] pos) X.env = (do
      let ov ← eval o X.env
      standAt apos.atName
      let (f, first) ← holding [ov] (getMethod ov m pl)
      callWith pos f first (backTo pos (starEach [] X.env)) (backToKw pos (keywordEach [] X.env))) := by rfl) :
    PE X (.Call (.Attribute o m apos) [] [] pos) (tMeth C m sp dvs E ta tNil) := by
  obtain ⟨f, fd, ds, c, hm, F, hb, hd⟩ := c.ex
  exact pe_meth0 he c hm F hr hb hd hx ht
theorem pe_makC (c : MakC X.prog X.w X.K X.mg X.base CX k x C ps dvs sp) (hr : Room (k + 1) X.A) (hx : Passes CX X E) (ha : PA X (e :: es) t) (hg : Gl X x := by rfl) (hdb : (x == ("__debug__" : Str)) = false := by decide)
    (he : starEach (e :: es) X.env = (false, eval e X.env) :: starEach es X.env := by rfl) (hpl : (backTo pos (starEach es X.env)).any (·.1) = false := by rfl) :
    PE X (.Call (.Name x p) (e :: es) [] pos) (tMake C sp dvs E t) := by
  obtain ⟨f, fd, ds, M, F, hm, hb, hd⟩ := c.ex
  exact pe_make M F hr hg hm hb hd hx ha hdb he hpl
theorem pe_makC0 (c : MakC X.prog X.w X.K X.mg X.base CX k x C ps dvs sp) (hr : Room (k + 1) X.A) (hx : Passes CX X E) (hg : Gl X x := by rfl) (hdb : (x == ("__debug__" : Str)) = false := by decide) :
    PE X (.Call (.Name x p) [] [] pos) (tMake C sp dvs E tNil) := by
  obtain ⟨f, fd, ds, M, F, hm, hb, hd⟩ := c.ex
  exact pe_make0 M F hr hg hm hb hd hx hdb
end
section
variable {X : Cx} {K : PySem.W.Frag} {e : Expr} {f : Str} {pos : Pos} {ta : TE}
theorem kFld (eK : X.K = K) (he : PE X e ta) (hb : attributeBase e f X.env (eval e X.env) = eval e X.env) : PE X (.Attribute e f pos) (tFld K ta f) := by
  subst eK
  exact pe_fld he hb
theorem kEnum {ta : TA} {p tpos : Pos} {elts : List Expr} {kk : Nat} (eK : X.K = K) (hg : Gl X "enumerate") (hm : X.mg "enumerate" = Option.none) (ha : PA X [e] ta) (hs : starEach [e] X.env = [(false, eval e X.env)] := by rfl) :
    PI X (.Tuple elts kk tpos) (.Call (.Name "enumerate" p) [e] [] pos) (iEnum K ta) := by
  subst eK
  exact pi_enum hg hm ha hs
theorem kListI {tg l : Expr} {tl : TE} (eK : X.K = K) (hl : PE X l tl) : PI X tg l (iList K tl) := by
  subst eK
  exact pi_list hl
end
/-! ### d.update(e), both dicts -/
def mergeK (kvs more : List (Key × V)) : List (Key × V) := more.foldl (fun acc kv => putK acc kv.1 kv.2) kvs
theorem merge_rel : ∀ {more : List (Key × V)} {ms : List (Key × Value)} {kvs : List (Key × V)} {vs : List (Key × Value)}, KV more ms → KV kvs vs → KV (mergeK kvs more) (merged vs ms)
  | _, _, _, _, .nil, h => h
  | (k, v) :: more, (k', u) :: ms, kvs, vs, .cons h1 h2, h => by
    obtain ⟨e, r⟩ := h1
    have e' : k = k' := e
    subst e'
    show KV (mergeK (putK kvs k v) more) (merged (stored vs k u) ms)
    exact merge_rel (more := more) (ms := ms) h2 (KV.put h k r)
theorem mergeK_len : ∀ (more kvs : List (Key × V)), (mergeK kvs more).length ≤ kvs.length + more.length
  | [], kvs => Nat.le_refl _
  | (k, v) :: more, kvs => by
    have h1 := mergeK_len more (putK kvs k v)
    have h2 := length_putK kvs k v
    show (mergeK (putK kvs k v) more).length ≤ _
    rw [List.length_cons]
    omega
theorem mergeK_out {j : Key} : ∀ {more kvs : List (Key × V)}, (∀ p ∈ more, p.1 ≠ j) → valV (mergeK kvs more) j = valV kvs j
  | [], _, _ => rfl
  | (k, v) :: more, kvs, h => by
    show valV (mergeK (putK kvs k v) more) j = _
    rw [mergeK_out fun p hp => h p (List.mem_cons_of_mem _ hp), valV_put, if_neg fun e => h (k, v) (List.mem_cons_self ..) e.symm]
theorem mergeK_in {j : Key} {R : V → Prop} : ∀ {more kvs : List (Key × V)}, (∀ p ∈ more, p.1 = j → R p.2) → ((∃ p ∈ more, p.1 = j) ∨ ∃ v, valV kvs j = some v ∧ R v) → ∃ v, valV (mergeK kvs more) j = some v ∧ R v
  | [], _, _, h => by
    rcases h with ⟨p, hp, _⟩ | h
    · cases hp
    · exact h
  | (k, v) :: more, kvs, hR, h => by
    refine mergeK_in (more := more) (kvs := putK kvs k v) (fun p hp => hR p (List.mem_cons_of_mem _ hp)) ?_
    rw [valV_put]
    by_cases c : j = k
    · rw [if_pos c]
      exact .inr ⟨v, rfl, hR (k, v) (List.mem_cons_self ..) c.symm⟩
    · rw [if_neg c]
      rcases h with ⟨p, hp, e⟩ | h
      · rcases List.mem_cons.mp hp with rfl | hp
        · exact (c e.symm).elim
        · exact .inl ⟨p, hp, e⟩
      · exact .inr h
def rUpdate : V → List V → Hp → VK → Prop := fun x vs H Q => ∃ d o kvs more, x = .ref d ∧ vs = [.ref o] ∧ d ≠ o ∧ H d = some (.dK kvs) ∧ H o = some (.dK more) ∧ kvs.length + more.length ≤ sizeLine ∧ Q .non (upd H d (.dK (mergeK kvs more)))
theorem mt_update {X : Cx} : MtR X "dict.update" rUpdate := by
  intro pins s σ H x xs v us Q I rx rv h
  obtain ⟨d, o, kvs, more, rfl, rfl, ne, hd, ho, hz, q⟩ := h
  cases rx
  obtain ⟨u, rfl, ru⟩ := rv.one
  cases ru
  obtain ⟨z1, n1, vs, rel, dd⟩ := dk_of I.hok hd
  obtain ⟨z2, n2, ms, rel2, dd2⟩ := dk_of I.hok ho
  have l1 : kvs.length = vs.length := Paired.length rel
  have l2 : more.length = ms.length := Paired.length rel2
  refine call_meetsIn PySem.F.slot_dict_update dd.typeIs PySem.F.entry_dict_update (PySem.F.args_dict_update_2 _ _) (meets_dict_update (mixKind X.prog X.w) d o ne n2) ⟨vs, ms, dd, dd2, by omega, fun h' dd' _ hs => ?_⟩
  have he : ∃ q, h'.get? d = some q := let ⟨q, _, _, hq, _⟩ := dd'; ⟨q, hq⟩
  have hl := mergeK_len more kvs
  exact ⟨.non, _, d_write (t' := s.toks) I (by rw [hd]; exact True.intro) hs he (dk_new (by omega) n1 (merge_rel rel2 rel) dd'), rfl, q⟩
/-- {k: v for x in xs}, the pairs put one by one -/
def putAll (ps : List (Key × V)) : List (Key × V) := ps.foldl (fun acc kv => putK acc kv.1 kv.2) []
theorem putAll_snoc (ps : List (Key × V)) (p : Key × V) : putAll (ps ++ [p]) = putK (putAll ps) p.1 p.2 := by
  unfold putAll
  rw [List.foldl_append]
  rfl
theorem putAll_len (ps : List (Key × V)) : (putAll ps).length ≤ ps.length := by
  have := mergeK_len ps []
  simpa [mergeK, putAll] using this
theorem mem_putK {kvs : List (Key × V)} {k : Key} {v : V} {p : Key × V} (h : p ∈ putK kvs k v) : p ∈ kvs ∨ p = (k, v) := by
  unfold putK at h
  split at h
  · obtain ⟨q, hq, e⟩ := List.mem_map.mp h
    split at e
    · next c =>
      refine .inr ?_
      rw [← e, c]
    · exact .inl (by rw [← e]; exact hq)
  · rcases List.mem_append.mp h with h | h
    · exact .inl h
    · exact .inr (List.mem_singleton.mp h)
theorem mem_putAll {ps : List (Key × V)} {p : Key × V} (h : p ∈ putAll ps) : p ∈ ps := by
  have key : ∀ (ps kvs : List (Key × V)), p ∈ mergeK kvs ps → p ∈ kvs ∨ p ∈ ps := by
    intro ps
    induction ps with
    | nil => exact fun kvs h => .inl h
    | cons x ps ih =>
      intro kvs h
      rcases ih (putK kvs x.1 x.2) h with h | h
      · rcases mem_putK h with h | h
        · exact .inl h
        · exact .inr (by rw [h]; exact List.mem_cons_self ..)
      · exact .inr (List.mem_cons_of_mem _ h)
  rcases key ps [] h with h | h
  · cases h
  · exact h
theorem keys_putAll {ps : List (Key × V)} {j : Key} : (∃ p ∈ putAll ps, p.1 = j) ↔ ∃ p ∈ ps, p.1 = j := by
  constructor
  · rintro ⟨p, hp, e⟩
    exact ⟨p, mem_putAll hp, e⟩
  · rintro ⟨p, hp, e⟩
    obtain ⟨v, hv, _⟩ := mergeK_in (R := fun _ => True) (more := ps) (kvs := []) (j := j) (fun _ _ _ => trivial) (.inl ⟨p, hp, e⟩)
    have hv' : valV (putAll ps) j = some v := hv
    unfold valV at hv'
    cases h : (putAll ps).find? (fun kv => decide (kv.1 = j)) with
    | none =>
      rw [h] at hv'
      cases hv'
    | some q => exact ⟨q, List.mem_of_find?_eq_some h, of_decide_eq_true (by simpa using List.find?_some h)⟩
theorem valV_mem {kvs : List (Key × V)} {j : Key} {v : V} (h : valV kvs j = some v) : (j, v) ∈ kvs := by
  unfold valV at h
  cases e : kvs.find? (fun kv => decide (kv.1 = j)) with
  | none =>
    rw [e] at h
    cases h
  | some q =>
    rw [e] at h
    have h1 : q.1 = j := of_decide_eq_true (by simpa using List.find?_some e)
    have h2 : q.2 = v := Option.some.inj h
    have := List.mem_of_find?_eq_some e
    rw [← h1, ← h2]
    exact this
end Wc

/-! lines of screens, and lines that clash. -/
namespace Wc
open PySem PySem.Spec PyProof.Rows L2
/-- [e for i, x in enumerate(xs) for m, y in enumerate(x)], any state -/
theorem lc2_EE {K : PySem.W.Frag} {a D : Addr} {xs : List V} {j k j2 k2 : Nat} {te : TE} {vs vs1 : List Nat} {σ : L2.St} {H1 : Hp} {Qd : Hp → Prop} (ys : Nat → List V) (P : Nat → Nat → List V → Hp → Prop)
    (h0 : P 0 0 [] (upd H1 D (.lst []))) (hsrc : ∀ i m acc H, P i m acc H → SqL K H a xs ∧ ∀ x, xs[i]? = some x → ∃ q, x = .ref q ∧ SqL K H q (ys i)) (hlen : ∀ i m acc H, P i m acc H → acc.length < sizeLine)
    (hnew : ∀ i m acc H T o, P i m acc H → H T = Option.none → H D = some (.lst acc) → P i m acc (upd H T o)) (hrow : ∀ i acc H, i < xs.length → P i (ys i).length acc H → P (i + 1) 0 acc H)
    (hs : ∀ i m x y acc H, xs[i]? = some x → (ys i)[m]? = some y → P i m acc H → H D = some (.lst acc) → ∀ Q : VK, (∀ v H', H' D = some (.lst acc) → P i (m + 1) (acc ++ [v]) (upd H' D (.lst (acc ++ [v]))) → Q v H') →
      te (((wipe (((wipe σ vs).set j (some (.int (i : Nat)))).set k (some x)) vs1).set j2 (some (.int (m : Nat)))).set k2 (some y)) H Q)
    (hd : ∀ acc H', P xs.length 0 acc H' → H' D = some (.lst acc) → Qd H')
    (hw : ∀ x y : V, wipe (((wipe σ vs).set j (some x)).set k (some y)) vs = wipe σ vs := by intro x y; rfl)
    (hk : ∀ x y : V, (((wipe σ vs).set j (some x)).set k (some y))[k]? = some (some y) := by intro x y; rfl)
    (hw1 : ∀ x y x2 y2 : V, wipe (((wipe (((wipe σ vs).set j (some x)).set k (some y)) vs1).set j2 (some x2)).set k2 (some y2)) vs1 = wipe (((wipe σ vs).set j (some x)).set k (some y)) vs1 := by intro x y x2 y2; rfl) :
    ∃ W : Nat → Nat → Hp → Prop, (∃ m, W 0 m (upd H1 D (.lst []))) ∧ ∀ i m H, W i m H →
      ((Ite K a).stop i H ∧ Qd H) ∨ ((Ite K a).go i H ∧ ∃ Nx : Hp → Prop, (∀ H', Nx H' → ∃ m', m' < m ∧ W (i + 1) m' H') ∧ ∀ x H', (Ite K a).yld i H x H' → gTup K 2 (gCons (gName j) (gCons (gName k) gNil)) x (wipe σ vs) H' fun σ2 H2 => wipe σ2 vs = wipe σ vs ∧ tYes σ2 H2 fun b H3 =>
        if b = true then iEnum K (tCons (tVar k) tNil) σ2 H3 fun J1 H4 => ∃ W1 : Nat → Nat → Hp → Prop, (∃ m, W1 0 m H4) ∧ ∀ j k H, W1 j k H →
          (J1.stop j H ∧ Nx H) ∨ (J1.go j H ∧ ∃ Nx1 : Hp → Prop, (∀ H', Nx1 H' → ∃ k', k' < k ∧ W1 (j + 1) k' H') ∧ ∀ x H', J1.yld j H x H' → gTup K 2 (gCons (gName j2) (gCons (gName k2) gNil)) x (wipe σ2 vs1) H' fun σ3 H5 => wipe σ3 vs1 = wipe σ2 vs1 ∧ tYes σ3 H5 fun b H6 =>
            if b = true then te σ3 H6 fun y H7 => ∃ acc, H7 D = some (.lst acc) ∧ acc.length < sizeLine ∧ Nx1 (upd H7 D (.lst (acc ++ [y]))) else Nx1 H6)
        else Nx H3) := by
  refine ⟨fun i m H => m = xs.length - i ∧ i ≤ xs.length ∧ ∃ acc, H D = some (.lst acc) ∧ P i 0 acc H, ⟨_, rfl, Nat.zero_le _, [], upd_same, h0⟩, ?_⟩
  rintro i m H ⟨rfl, hi, acc, eD, hp⟩
  by_cases hlt : i < xs.length
  · refine .inr ⟨(walk_enum (xs := xs)).goes i H hlt (hsrc i 0 acc H hp).1, fun H' => ∃ acc, H' D = some (.lst acc) ∧ P (i + 1) 0 acc H', fun H' p' => ⟨xs.length - (i + 1), by omega, rfl, hlt, p'⟩, fun v H' y => ?_⟩
    obtain ⟨T, u, x, rfl, nT, rfl, hu, hx⟩ := (walk_enum (xs := xs)).yields i H v H' hlt (hsrc i 0 acc H hp).1 y
    have eu : V.int (i : Nat) = u := Option.some.inj hu
    subst eu
    have hp' := hnew i 0 acc H T (.tup [.int (i : Nat), x]) hp nT eD
    have eD' : (upd H T (.tup [.int (i : Nat), x])) D = some (.lst acc) := at_new eD nT
    refine ⟨T, _, rfl, .inl (.inl upd_same), rfl, _, [x], rfl, x, [], rfl, rfl, hw _ x, ?_⟩
    unfold tYes
    dsimp only
    rw [if_pos rfl]
    generalize (upd H T (.tup [.int (i : Nat), x])) = H3 at hp' eD'
    obtain ⟨q, rfl, hq⟩ := (hsrc i 0 acc H3 hp').2 x hx
    refine ⟨_, hk _ _, q, ys i, rfl, hq, ?_⟩
    refine ⟨fun m n H => n = (ys i).length - m ∧ m ≤ (ys i).length ∧ ∃ acc, H D = some (.lst acc) ∧ P i m acc H, ⟨_, rfl, Nat.zero_le _, acc, eD', hp'⟩, ?_⟩
    rintro m n H4 ⟨rfl, hm, acc4, eD4, hp4⟩
    obtain ⟨q', e', hq4⟩ := (hsrc i m acc4 H4 hp4).2 _ hx
    cases e'
    by_cases hlt2 : m < (ys i).length
    · refine .inr ⟨(walk_enum (xs := ys i)).goes m H4 hlt2 hq4, fun H' => ∃ acc, H' D = some (.lst acc) ∧ P i (m + 1) acc H', fun H' p' => ⟨(ys i).length - (m + 1), by omega, rfl, hlt2, p'⟩, fun v H' y => ?_⟩
      obtain ⟨T2, u2, x2, rfl, nT2, rfl, hu2, hx2⟩ := (walk_enum (xs := ys i)).yields m H4 v H' hlt2 hq4 y
      have eu2 : V.int (m : Nat) = u2 := Option.some.inj hu2
      subst eu2
      refine ⟨T2, _, rfl, .inl (.inl upd_same), rfl, _, [x2], rfl, x2, [], rfl, rfl, hw1 _ _ _ _, ?_⟩
      refine hs i m _ x2 acc4 _ hx hx2 (hnew i m acc4 H4 T2 _ hp4 nT2 eD4) (at_new eD4 nT2) _ fun v H7 e7 p7 => ⟨acc4, e7, hlen _ _ _ _ hp4, acc4 ++ [v], upd_same, p7⟩
    · have e : m = (ys i).length := by omega
      subst e
      exact .inl ⟨(walk_enum (xs := ys i)).stops H4 hq4, acc4, eD4, hrow i acc4 H4 hlt hp4⟩
  · have e : i = xs.length := by omega
    subst e
    exact .inl ⟨(walk_enum (xs := xs)).stops H (hsrc _ _ _ _ hp).1, hd acc H hp eD⟩
/-- [e for x, y in zip(xs, ys)], any state -/
theorem lc_genZ {K : PySem.W.Frag} {a b D : Addr} {xs ys : List V} {j k : Nat} {te : TE} {vs : List Nat} {σ : L2.St} {H1 : Hp} {Qd : Hp → Prop} (P : Nat → List V → Hp → Prop) (hl : ys.length = xs.length) (hz : xs.length ≤ sizeLine)
    (h0 : P 0 [] (upd H1 D (.lst []))) (hsrc : ∀ i acc H, P i acc H → H D = some (.lst acc) → SqL K H a xs ∧ SqL K H b ys)
    (hs : ∀ i x y acc H T, xs[i]? = some x → ys[i]? = some y → acc.length = i → P i acc H → H D = some (.lst acc) → H T = Option.none → ∀ Q : VK, (∀ v H', H' D = some (.lst acc) → P (i + 1) (acc ++ [v]) (upd H' D (.lst (acc ++ [v]))) → Q v H') → te (((wipe σ vs).set j (some x)).set k (some y)) (upd H T (.tup [x, y])) Q)
    (hd : ∀ acc H', acc.length = xs.length → P xs.length acc H' → H' D = some (.lst acc) → Qd H')
    (hw : ∀ x y : V, wipe (((wipe σ vs).set j (some x)).set k (some y)) vs = wipe σ vs := by intro x y; rfl) :
    ∃ W : Nat → Nat → Hp → Prop, (∃ m, W 0 m (upd H1 D (.lst []))) ∧ ∀ i m H, W i m H →
      ((Itz K a b).stop i H ∧ Qd H) ∨ ((Itz K a b).go i H ∧ ∃ Nx : Hp → Prop, (∀ H', Nx H' → ∃ m', m' < m ∧ W (i + 1) m' H') ∧ ∀ x H', (Itz K a b).yld i H x H' → gTup K 2 (gCons (gName j) (gCons (gName k) gNil)) x (wipe σ vs) H' fun σ2 H2 => wipe σ2 vs = wipe σ vs ∧ tYes σ2 H2 fun b H3 =>
        if b = true then te σ2 H3 fun y H4 => ∃ acc, H4 D = some (.lst acc) ∧ acc.length < sizeLine ∧ Nx (upd H4 D (.lst (acc ++ [y]))) else Nx H3) := by
  refine lc_it (n := xs.length) (walk_zip (xs := xs) (ys := ys) (by rw [hl, Nat.min_self])) (fun i H => ∃ acc, acc.length = i ∧ H D = some (.lst acc) ∧ P i acc H) ⟨[], rfl, upd_same, h0⟩ (fun i H _ ⟨acc, _, e, hp⟩ => hsrc i acc H hp e) ?_ ?_
  · rintro i v H H' hi ⟨acc, ha, eD, hp⟩ ⟨T, x, y, rfl, nT, rfl, hx, hy⟩
    refine ⟨T, [x, y], rfl, .inl (.inl upd_same), rfl, x, [y], rfl, y, [], rfl, rfl, hw x y, ?_⟩
    unfold tYes
    dsimp only
    rw [if_pos rfl]
    exact hs i x y acc H T hx hy ha hp eD nT _ fun v H4 e4 p4 => ⟨acc, e4, by omega, acc ++ [v], by rw [List.length_append, List.length_singleton, ha], upd_same, p4⟩
  · rintro H ⟨acc, ha, eD, hp⟩
    exact hd acc H ha hp eD
theorem fl_set {K : PySem.W.Frag} {ta tv : TE} {f : Str} {D : Ends} {σ : L2.St} {H : Hp} (h : tv σ H fun y H1 => ta σ H1 fun x H2 => ∃ a C dx fs, x = .ref a ∧ H2 a = some (.ins C dx fs) ∧ Cls K C ∧ NoAttr K C f ∧ fs.length < 1000 ∧ D.nx σ (upd H2 a (.ins C dx (putF f y fs)))) : sFld K ta tv f D σ H := h
/-! ### a line -/
structure Ln where
  s : Int
  e : Int
  long : Bool
  room : Int
def lnOf (w s e n : Int) : Ln := ⟨s, e, decide (e - s > w), if (decide (e - s > w) || decide (e = n)) = true then e else s + w⟩
def rngI (a b : Int) : List Int := (List.range (b - a).toNat).map fun i => a + (i : Nat)
theorem rgV_rngI (a b : Int) : rgV a b = iV (rngI a b) := by
  show (List.range (b - a).toNat).map (fun i : Nat => V.int (a + (i : Nat))) = ((List.range (b - a).toNat).map fun i : Nat => a + (i : Nat)).map V.int
  rw [List.map_map]
  rfl
theorem mem_rngI {x a b : Int} : x ∈ rngI a b ↔ a ≤ x ∧ x < b := by
  unfold rngI
  rw [List.mem_map]
  constructor
  · rintro ⟨i, hi, rfl⟩
    have := List.mem_range.mp hi
    omega
  · rintro ⟨h1, h2⟩
    exact ⟨(x - a).toNat, List.mem_range.mpr (by omega), by omega⟩
theorem rngI_len (a b : Int) : (rngI a b).length = (b - a).toNat := by
  unfold rngI
  rw [List.length_map, List.length_range]
/-- where no line may end, by the kind's word -/
def barS (l : Ln) (z : Str) : List Int := if z = "beside" then [l.e + 1] else if z = "room" then rngI (l.e + 1) (l.room + 1) else if l.long = true then rngI (l.s + 1) l.e else []
theorem putF_len (f : Str) (v : V) : ∀ fs : List (Str × V), (putF f v fs).length ≤ fs.length + 1
  | [] => Nat.le_refl _
  | (g, x) :: r => by
    unfold putF
    split
    · rw [List.length_cons, List.length_cons]
      omega
    · rw [List.length_cons, List.length_cons]
      have := putF_len f v r
      omega
def lnF1 (s : Int) : List (Str × V) := putF "start" (.int s) []
def lnF2 (s e : Int) : List (Str × V) := putF "end" (.int e) (lnF1 s)
def lnF3 (s e : Int) (b : Bool) : List (Str × V) := putF "is_long" (.bl b) (lnF2 s e)
def lnF (l : Ln) : List (Str × V) := putF "room_end" (.int l.room) (lnF3 l.s l.e l.long)
theorem lnF1_len (s : Int) : (lnF1 s).length ≤ 1 := putF_len _ _ _
theorem lnF2_len (s e : Int) : (lnF2 s e).length ≤ 2 := Nat.le_trans (putF_len _ _ _) (Nat.succ_le_succ (lnF1_len s))
theorem lnF3_len (s e : Int) (b : Bool) : (lnF3 s e b).length ≤ 3 := Nat.le_trans (putF_len _ _ _) (Nat.succ_le_succ (lnF2_len s e))
theorem st_en : ¬ (("start" : Str) = "end") := by decide +kernel
theorem st_lo : ¬ (("start" : Str) = "is_long") := by decide +kernel
theorem st_ro : ¬ (("start" : Str) = "room_end") := by decide +kernel
theorem en_lo : ¬ (("end" : Str) = "is_long") := by decide +kernel
theorem en_ro : ¬ (("end" : Str) = "room_end") := by decide +kernel
theorem lo_ro : ¬ (("is_long" : Str) = "room_end") := by decide +kernel
theorem lnF3_long (s e : Int) (b : Bool) : (lnF3 s e b).lookup ("is_long" : Str) = some (.bl b) := by
  unfold lnF3
  rw [lookup_putF, if_pos rfl]
theorem lnF_start (l : Ln) : (lnF l).lookup ("start" : Str) = some (.int l.s) := by
  unfold lnF lnF3 lnF2 lnF1
  rw [lookup_putF, if_neg st_ro, lookup_putF, if_neg st_lo, lookup_putF, if_neg st_en, lookup_putF, if_pos rfl]
theorem lnF_end (l : Ln) : (lnF l).lookup ("end" : Str) = some (.int l.e) := by
  unfold lnF lnF3 lnF2
  rw [lookup_putF, if_neg en_ro, lookup_putF, if_neg en_lo, lookup_putF, if_pos rfl]
theorem lnF_long (l : Ln) : (lnF l).lookup ("is_long" : Str) = some (.bl l.long) := by
  unfold lnF lnF3
  rw [lookup_putF, if_neg lo_ro, lookup_putF, if_pos rfl]
theorem lnF_room (l : Ln) : (lnF l).lookup ("room_end" : Str) = some (.int l.room) := by
  unfold lnF
  rw [lookup_putF, if_pos rfl]
theorem lnF_no (l : Ln) {m : Str} (h1 : ¬ m = "start") (h2 : ¬ m = "end") (h3 : ¬ m = "is_long") (h4 : ¬ m = "room_end") : (lnF l).lookup m = none := by
  unfold lnF lnF3 lnF2 lnF1
  rw [lookup_putF, if_neg h4, lookup_putF, if_neg h3, lookup_putF, if_neg h2, lookup_putF, if_neg h1]
  rfl
/-- a line stands at p -/
def LnAt (K : PySem.W.Frag) (H : Hp) (p : Addr) (l : Ln) : Prop := ∃ dx, H p = some (.ins (He.ga K "Line") dx (lnF l))
theorem LnAt.same {K : PySem.W.Frag} {H H' : Hp} {p : Addr} {l : Ln} (h : LnAt K H p l) (s : Same H H') : LnAt K H' p l := let ⟨dx, e⟩ := h; ⟨dx, s _ _ e⟩
/-- the lines of a screen, of screens -/
def scrLines (s : Scr) : List Ln := (List.zip (startsOf (endsOf s.2)) (endsOf s.2)).map fun p => lnOf s.1 p.1 p.2 (total s.2)
def linesOf (ss : List Scr) : List (List Ln) := ss.map scrLines
/-- lines in a list -/
def RowAt (K : PySem.W.Frag) (H : Hp) (x : V) (ls : List Ln) : Prop := ∃ q ps, x = .ref q ∧ H q = some (.lst ps) ∧ ps.length = ls.length ∧ ∀ (i : Nat) y l, ps[i]? = some y → ls[i]? = some l → ∃ p, y = .ref p ∧ LnAt K H p l
def RowsAt (K : PySem.W.Frag) (H : Hp) (p : Addr) (lss : List (List Ln)) : Prop := ∃ xs, H p = some (.lst xs) ∧ xs.length = lss.length ∧ ∀ (i : Nat) x ls, xs[i]? = some x → lss[i]? = some ls → RowAt K H x ls
theorem RowAt.same {K : PySem.W.Frag} {H H' : Hp} {x : V} {ls : List Ln} (h : RowAt K H x ls) (s : Same H H') : RowAt K H' x ls := by
  obtain ⟨q, ps, rfl, h1, h2, h3⟩ := h
  refine ⟨q, ps, rfl, s _ _ h1, h2, fun i y l hy hl => ?_⟩
  obtain ⟨p, e, hp⟩ := h3 i y l hy hl
  exact ⟨p, e, hp.same s⟩
theorem RowsAt.same {K : PySem.W.Frag} {H H' : Hp} {p : Addr} {lss : List (List Ln)} (h : RowsAt K H p lss) (s : Same H H') : RowsAt K H' p lss := by
  obtain ⟨xs, h1, h2, h3⟩ := h
  exact ⟨xs, s _ _ h1, h2, fun i x ls hx hl => (h3 i x ls hx hl).same s⟩
/-- lines in a list, none of them one of S -/
def LnsS (S : List Addr) (K : PySem.W.Frag) (H : Hp) (ps : List V) (ls : List Ln) : Prop := ps.length = ls.length ∧ ∀ (i : Nat) y l, ps[i]? = some y → ls[i]? = some l → ∃ p, y = .ref p ∧ p ∉ S ∧ LnAt K H p l
def RowS (S : List Addr) (K : PySem.W.Frag) (H : Hp) (x : V) (ls : List Ln) : Prop := ∃ q ps, x = .ref q ∧ q ∉ S ∧ H q = some (.lst ps) ∧ LnsS S K H ps ls
def RowsS (S : List Addr) (K : PySem.W.Frag) (H : Hp) (xs : List V) (lss : List (List Ln)) : Prop := xs.length = lss.length ∧ ∀ (i : Nat) x ls, xs[i]? = some x → lss[i]? = some ls → RowS S K H x ls
section
variable {S : List Addr} {K : PySem.W.Frag} {H H' : Hp} {ps xs : List V} {ls : List Ln} {lss : List (List Ln)} {x : V}
theorem snoc_get {α : Type} {xs : List α} {y z : α} {i : Nat} (h : (xs ++ [y])[i]? = some z) : (i < xs.length ∧ xs[i]? = some z) ∨ (i = xs.length ∧ z = y) := by
  have hi := (List.getElem?_eq_some_iff.mp h).1
  rw [List.length_append, List.length_singleton] at hi
  rcases (by omega : i < xs.length ∨ i = xs.length) with c | c
  · rw [List.getElem?_append_left c] at h
    exact .inl ⟨c, h⟩
  · subst c
    rw [List.getElem?_append_right (Nat.le_refl _)] at h
    simp at h
    exact .inr ⟨rfl, h.symm⟩
theorem LnsS.on (h : LnsS S K H ps ls) (s : SameS S H H') : LnsS S K H' ps ls := ⟨h.1, fun i y l hy hl => by
  obtain ⟨p, e, n, dx, hp⟩ := h.2 i y l hy hl
  exact ⟨p, e, n, dx, s.at n hp⟩⟩
theorem LnsS.nil : LnsS S K H [] [] := ⟨rfl, fun i y l hy _ => by simp at hy⟩
theorem LnsS.snoc {p : Addr} {l : Ln} (h : LnsS S K H ps ls) (n : p ∉ S) (hp : LnAt K H p l) : LnsS S K H (ps ++ [.ref p]) (ls ++ [l]) := by
  refine ⟨by simp [h.1], fun i y l' hy hl => ?_⟩
  rcases snoc_get hy with ⟨c, hy⟩ | ⟨c, rfl⟩
  · rcases snoc_get hl with ⟨c2, hl⟩ | ⟨c2, rfl⟩
    · exact h.2 i y l' hy hl
    · rw [h.1] at c
      omega
  · rcases snoc_get hl with ⟨c2, hl⟩ | ⟨c2, rfl⟩
    · rw [← h.1] at c2
      omega
    · exact ⟨p, rfl, n, hp⟩
theorem RowS.on (h : RowS S K H x ls) (s : SameS S H H') : RowS S K H' x ls := by
  obtain ⟨q, ps, rfl, n, e, hl⟩ := h
  exact ⟨q, ps, rfl, n, s.at n e, hl.on s⟩
theorem RowS.at_ (h : RowS S K H x ls) : RowAt K H x ls := by
  obtain ⟨q, ps, rfl, n, e, h1, h2⟩ := h
  refine ⟨q, ps, rfl, e, h1, fun i y l hy hl => ?_⟩
  obtain ⟨p, e, _, hp⟩ := h2 i y l hy hl
  exact ⟨p, e, hp⟩
theorem RowsS.on (h : RowsS S K H xs lss) (s : SameS S H H') : RowsS S K H' xs lss := ⟨h.1, fun i x ls hx hl => (h.2 i x ls hx hl).on s⟩
theorem RowsS.nil : RowsS S K H [] [] := ⟨rfl, fun i y l hy _ => by simp at hy⟩
theorem RowsS.snoc (h : RowsS S K H xs lss) (hr : RowS S K H x ls) : RowsS S K H (xs ++ [x]) (lss ++ [ls]) := by
  refine ⟨by simp [h.1], fun i y l' hy hl => ?_⟩
  rcases snoc_get hy with ⟨c, hy⟩ | ⟨c, rfl⟩
  · rcases snoc_get hl with ⟨c2, hl⟩ | ⟨c2, rfl⟩
    · exact h.2 i y l' hy hl
    · rw [h.1] at c
      omega
  · rcases snoc_get hl with ⟨c2, hl⟩ | ⟨c2, rfl⟩
    · rw [← h.1] at c2
      omega
    · exact hr
theorem RowsS.at_ {p : Addr} (h : RowsS S K H xs lss) (e : H p = some (.lst xs)) : RowsAt K H p lss := ⟨xs, e, h.1, fun i x ls hx hl => (h.2 i x ls hx hl).at_⟩
end
/-- a line with the number of its screen and its own -/
abbrev Nm := Int × Int × Ln
def numRow (k : Nat) : Nat → List Ln → List Nm
  | _, [] => []
  | j, l :: r => ((k : Int), (j : Int), l) :: numRow k (j + 1) r
def numFrom : Nat → List (List Ln) → List Nm
  | _, [] => []
  | k, ls :: r => numRow k 0 ls ++ numFrom (k + 1) r
def numL (ss : List Scr) : List Nm := numFrom 0 (linesOf ss)
theorem numRow_app (k : Nat) : ∀ (xs ys : List Ln) (j : Nat), numRow k j (xs ++ ys) = numRow k j xs ++ numRow k (j + xs.length) ys
  | [], _, _ => rfl
  | x :: xs, ys, j => by
    rw [List.cons_append, numRow, numRow, numRow_app k xs ys (j + 1), List.length_cons, List.cons_append, show j + 1 + xs.length = j + (xs.length + 1) by omega]
theorem numFrom_app : ∀ (xs ys : List (List Ln)) (k : Nat), numFrom k (xs ++ ys) = numFrom k xs ++ numFrom (k + xs.length) ys
  | [], _, _ => rfl
  | x :: xs, ys, k => by
    rw [List.cons_append, numFrom, numFrom, numFrom_app xs ys (k + 1), List.length_cons, List.append_assoc, show k + 1 + xs.length = k + (xs.length + 1) by omega]
theorem numRow_len (k : Nat) : ∀ (ls : List Ln) (j : Nat), (numRow k j ls).length = ls.length
  | [], _ => rfl
  | l :: r, j => by rw [numRow, List.length_cons, List.length_cons, numRow_len k r]
theorem mem_numRow {k : Nat} {t : Nm} : ∀ {ls : List Ln} {j : Nat}, t ∈ numRow k j ls ↔ ∃ b : Nat, ls[b]? = some t.2.2 ∧ t.1 = k ∧ t.2.1 = ((j + b : Nat) : Int)
  | [], j => by simp [numRow]
  | l :: r, j => by
    rw [numRow, List.mem_cons, mem_numRow]
    constructor
    · rintro (rfl | ⟨b, h1, h2, h3⟩)
      · exact ⟨0, rfl, rfl, rfl⟩
      · exact ⟨b + 1, by simpa using h1, h2, by rw [h3]; congr 1; omega⟩
    · rintro ⟨b, h1, h2, h3⟩
      cases b with
      | zero =>
        simp at h1
        exact .inl (Prod.ext h2 (Prod.ext h3 h1.symm))
      | succ b => exact .inr ⟨b, by simpa using h1, h2, by rw [h3]; congr 1; omega⟩
theorem mem_numFrom {t : Nm} : ∀ {lss : List (List Ln)} {k : Nat}, t ∈ numFrom k lss ↔ ∃ (a b : Nat) (ls : List Ln), lss[a]? = some ls ∧ ls[b]? = some t.2.2 ∧ t.1 = ((k + a : Nat) : Int) ∧ t.2.1 = (b : Int)
  | [], k => by simp [numFrom]
  | ls :: r, k => by
    rw [numFrom, List.mem_append, mem_numRow, mem_numFrom]
    constructor
    · rintro (⟨b, h1, h2, h3⟩ | ⟨a, b, l', h1, h2, h3, h4⟩)
      · exact ⟨0, b, ls, rfl, h1, h2, by rw [h3]; congr 1; omega⟩
      · exact ⟨a + 1, b, l', by simpa using h1, h2, by rw [h3]; congr 1; omega, h4⟩
    · rintro ⟨a, b, l', h1, h2, h3, h4⟩
      cases a with
      | zero =>
        simp at h1
        subst h1
        exact .inl ⟨b, h2, h3, by rw [h4]; congr 1; omega⟩
      | succ a => exact .inr ⟨a, b, l', by simpa using h1, h2, by rw [h3]; congr 1; omega, h4⟩
/-- the number of the last line with an end -/
def endOf (ns : List Nm) (x : Int) : Option (Int × Int) := (ns.reverse.find? fun t => decide (t.2.2.e = x)).map fun t => (t.1, t.2.1)
theorem endOf_snoc (ns : List Nm) (t : Nm) (x : Int) : endOf (ns ++ [t]) x = if t.2.2.e = x then some (t.1, t.2.1) else endOf ns x := by
  unfold endOf
  rw [List.reverse_append]
  show (List.find? _ (t :: ns.reverse)).map _ = _
  rw [List.find?_cons]
  by_cases c : t.2.2.e = x
  · simp [c]
  · simp [c]
theorem endOf_some {ns : List Nm} {x : Int} {p : Int × Int} (h : endOf ns x = some p) : ∃ l, (p.1, p.2, l) ∈ ns ∧ l.e = x := by
  unfold endOf at h
  cases e : ns.reverse.find? (fun t => decide (t.2.2.e = x)) with
  | none =>
    rw [e] at h
    cases h
  | some t =>
    rw [e] at h
    have h' := Option.some.inj h
    refine ⟨t.2.2, ?_, of_decide_eq_true (by simpa using List.find?_some e)⟩
    rw [← h']
    exact List.mem_reverse.mp (List.mem_of_find?_eq_some e)
theorem endOf_none {ns : List Nm} {x : Int} (h : endOf ns x = none) : ∀ t ∈ ns, t.2.2.e ≠ x := by
  intro t ht he
  unfold endOf at h
  rw [Option.map_eq_none_iff, List.find?_eq_none] at h
  exact h t (List.mem_reverse.mpr ht) (by simpa using he)
abbrev Clash := Str × Int × Int × Int × Int
def kinds : List Str := ["room", "long", "beside"]
def clashIn (ns : List Nm) (t : Nm) (z : Str) : Option Clash := (barS t.2.2 z).findSome? fun x => (endOf ns x).map fun p => (z, t.1, t.2.1, p.1, p.2)
def clashAt (ns : List Nm) (t : Nm) : Option Clash := kinds.findSome? fun z => clashIn ns t z
def clashOf (ns : List Nm) : Option Clash := ns.findSome? fun t => clashAt ns t
def clD : Option Clash → PyData
  | none => .none
  | some (z, i, j, k, l) => .tuple [.str z, .int i, .int j, .int k, .int l]
def NumAt (K : PySem.W.Frag) (H : Hp) (x : V) (t : Nm) : Prop := ∃ a p, x = .ref a ∧ H a = some (.tup [.int t.1, .int t.2.1, .ref p]) ∧ LnAt K H p t.2.2
def NumsAt (K : PySem.W.Frag) (H : Hp) (p : Addr) (ns : List Nm) : Prop := ∃ xs, H p = some (.lst xs) ∧ xs.length = ns.length ∧ ∀ (i : Nat) x t, xs[i]? = some x → ns[i]? = some t → NumAt K H x t
theorem NumAt.same {K : PySem.W.Frag} {H H' : Hp} {x : V} {t : Nm} (h : NumAt K H x t) (s : Same H H') : NumAt K H' x t := by
  obtain ⟨a, p, rfl, h1, h2⟩ := h
  exact ⟨a, p, rfl, s _ _ h1, h2.same s⟩
theorem NumsAt.same {K : PySem.W.Frag} {H H' : Hp} {p : Addr} {ns : List Nm} (h : NumsAt K H p ns) (s : Same H H') : NumsAt K H' p ns := by
  obtain ⟨xs, h1, h2, h3⟩ := h
  exact ⟨xs, s _ _ h1, h2, fun i x t hx ht => (h3 i x t hx ht).same s⟩
/-- the numbered lines of i screens and of m lines of the next one -/
def preN (L : List (List Ln)) (i m : Nat) : List Nm := numFrom 0 (L.take i) ++ (match L[i]? with
  | some ls => numRow i 0 (ls.take m)
  | none => [])
theorem preN_zero (L : List (List Ln)) : preN L 0 0 = [] := by
  unfold preN
  cases L with
  | nil => rfl
  | cons a L => rfl
theorem preN_row {L : List (List Ln)} {i : Nat} {ls : List Ln} (h : L[i]? = some ls) : preN L i ls.length = preN L (i + 1) 0 := by
  have hi := (List.getElem?_eq_some_iff.mp h).1
  unfold preN
  rw [h, take_succ_get h, numFrom_app]
  dsimp only
  rw [List.take_length]
  have e : numFrom (0 + (L.take i).length) [ls] = numRow i 0 ls := by
    rw [List.length_take, Nat.min_eq_left (by omega), numFrom, numFrom, List.append_nil, Nat.zero_add]
  rw [e]
  cases L[i + 1]? with
  | none => rw [List.append_nil]
  | some l2 =>
    dsimp only
    rw [List.take_zero, numRow, List.append_nil]
theorem preN_snoc {L : List (List Ln)} {i m : Nat} {ls : List Ln} {l : Ln} (h : L[i]? = some ls) (hm : ls[m]? = some l) : preN L i (m + 1) = preN L i m ++ [((i : Int), (m : Int), l)] := by
  have hi := (List.getElem?_eq_some_iff.mp hm).1
  unfold preN
  rw [h]
  dsimp only
  rw [take_succ_get hm, numRow_app, List.append_assoc]
  congr 2
  rw [List.length_take, Nat.min_eq_left (by omega), numRow, numRow, Nat.zero_add]
theorem preN_end (L : List (List Ln)) : preN L L.length 0 = numFrom 0 L := by
  unfold preN
  rw [List.take_length, List.getElem?_eq_none (Nat.le_refl _), List.append_nil]
/-- numbered lines in a list, none of them one of S -/
def NmsS (S : List Addr) (K : PySem.W.Frag) (H : Hp) (acc : List V) (ns : List Nm) : Prop := acc.length = ns.length ∧ ∀ (k : Nat) x t, acc[k]? = some x → ns[k]? = some t → ∃ a p, x = .ref a ∧ a ∉ S ∧ p ∉ S ∧ H a = some (.tup [.int t.1, .int t.2.1, .ref p]) ∧ LnAt K H p t.2.2
section
variable {S : List Addr} {K : PySem.W.Frag} {H H' : Hp} {acc : List V} {ns : List Nm}
theorem NmsS.nil : NmsS S K H [] [] := ⟨rfl, fun i y l hy _ => by simp at hy⟩
theorem NmsS.on (h : NmsS S K H acc ns) (s : SameS S H H') : NmsS S K H' acc ns := ⟨h.1, fun i y l hy hl => by
  obtain ⟨a, p, e, n1, n2, h1, dx, hp⟩ := h.2 i y l hy hl
  exact ⟨a, p, e, n1, n2, s.at n1 h1, dx, s.at n2 hp⟩⟩
theorem NmsS.snoc {a p : Addr} {t : Nm} (h : NmsS S K H acc ns) (n1 : a ∉ S) (n2 : p ∉ S) (h1 : H a = some (.tup [.int t.1, .int t.2.1, .ref p])) (hp : LnAt K H p t.2.2) : NmsS S K H (acc ++ [.ref a]) (ns ++ [t]) := by
  refine ⟨by simp [h.1], fun i y l' hy hl => ?_⟩
  rcases snoc_get hy with ⟨c, hy⟩ | ⟨c, rfl⟩
  · rcases snoc_get hl with ⟨c2, hl⟩ | ⟨c2, rfl⟩
    · exact h.2 i y l' hy hl
    · rw [h.1] at c
      omega
  · rcases snoc_get hl with ⟨c2, hl⟩ | ⟨c2, rfl⟩
    · rw [← h.1] at c2
      omega
    · exact ⟨a, p, rfl, n1, n2, h1, hp⟩
theorem NmsS.at_ {p : Addr} (h : NmsS S K H acc ns) (e : H p = some (.lst acc)) : NumsAt K H p ns := by
  refine ⟨acc, e, h.1, fun i x t hx ht => ?_⟩
  obtain ⟨a, p, e, _, _, h1, h2⟩ := h.2 i x t hx ht
  exact ⟨a, p, e, h1, h2⟩
end
end Wc

/-! clashes found. -/
namespace Wc
open PySem PySem.Spec PyProof.Rows L2
theorem dc_it {J : It} {n : Nat} {G : Hp → Prop} {Y : Nat → Hp → V → Hp → Prop} (w : Walk J n G Y) {g : TG} {tt : TT} {tk tv : TE} {vs : List Nat} {σ : L2.St} {H1 : Hp} {D : Addr} {Qd : Hp → Prop} (Pv : Nat → Hp → Prop) (h0 : Pv 0 (upd H1 D (.dK []))) (hG : ∀ i H, i ≤ n → Pv i H → G H)
    (hs : ∀ i x H H', i < n → Pv i H → Y i H x H' → g x (wipe σ vs) H' fun σ2 H2 => wipe σ2 vs = wipe σ vs ∧ tt σ2 H2 fun b H3 =>
      if b = true then tk σ2 H3 fun y H4 => tv σ2 H4 fun z H5 => ∃ kvs k, y = kV k ∧ H5 D = some (.dK kvs) ∧ kvs.length < sizeLine ∧ Pv (i + 1) (upd H5 D (.dK (putK kvs k z))) else Pv (i + 1) H3) (hd : ∀ H, Pv n H → Qd H) :
    ∃ W : Nat → Nat → Hp → Prop, (∃ m, W 0 m (upd H1 D (.dK []))) ∧ ∀ i m H, W i m H →
      (J.stop i H ∧ Qd H) ∨ (J.go i H ∧ ∃ Nx : Hp → Prop, (∀ H', Nx H' → ∃ m', m' < m ∧ W (i + 1) m' H') ∧ ∀ x H', J.yld i H x H' → g x (wipe σ vs) H' fun σ2 H2 => wipe σ2 vs = wipe σ vs ∧ tt σ2 H2 fun b H3 =>
        if b = true then tk σ2 H3 fun y H4 => tv σ2 H4 fun z H5 => ∃ kvs k, y = kV k ∧ H5 D = some (.dK kvs) ∧ kvs.length < sizeLine ∧ Nx (upd H5 D (.dK (putK kvs k z))) else Nx H3) := by
  refine ⟨fun i m H => m = n - i ∧ i ≤ n ∧ Pv i H, ⟨n, by simp, Nat.zero_le _, h0⟩, ?_⟩
  rintro i m H ⟨rfl, hi, p⟩
  have q := hG i H hi p
  by_cases hlt : i < n
  · refine .inr ⟨w.goes i H hlt q, Pv (i + 1), fun H' p' => ⟨n - (i + 1), by omega, rfl, hlt, p'⟩, fun x H' y => hs i x H H' hlt p (w.yields i H x H' hlt q y)⟩
  · have e : i = n := by omega
    subst e
    exact .inl ⟨w.stops H q, hd H p⟩
/-- x = {k: v for ..} -/
theorem ps_setDc {X : Cx} {i : Nat} {y : Str} {py : Pos} {kx vx tg iter : Expr} {ifs : List Expr} {scope : Scope} {own : List (Str × Nat)} {pos spos : Pos} {wi : TI} {g : TG} {tt : TT} {tk tv : TE} (hc : X.calm = true) (hN : X.N.Nodup) (hy : X.N[i]? = some y) (hyl : X.env.scope.names.lookup y = some .local)
    (hsw : swapsWith (.DictComp kx vx [⟨tg, iter, ifs, 0⟩] scope pos) (some (.Name y py)) spos.line X.env = pure true) (hi : PI X tg iter wi) (ok : BlkOk X.N X.env.scope scope own)
    (hg : ∀ (s : Shared) (H : Hp) (C : Addr) (cl : List (Str × Addr)) (fp : List Addr), PG (X.blk s H scope (compEnvC scope cl C X.env) fp) tg g) (ht : ∀ (s : Shared) (H : Hp) (C : Addr) (cl : List (Str × Addr)) (fp : List Addr), PTs (X.blk s H scope (compEnvC scope cl C X.env) fp) ifs tt)
    (hk : ∀ (s : Shared) (H : Hp) (C : Addr) (cl : List (Str × Addr)) (fp : List Addr), PE (X.blk s H scope (compEnvC scope cl C X.env) fp) kx tk)
    (he : ∀ (s : Shared) (H : Hp) (C : Addr) (cl : List (Str × Addr)) (fp : List Addr), PE (X.blk s H scope (compEnvC scope cl C X.env) fp) vx tv) (hs : ∀ x, foldedSetIterable iter X.env x = pure x := by intro _; rfl) :
    PS X (.Assign [.Name y py] (.DictComp kx vx [⟨tg, iter, ifs, 0⟩] scope pos) spos) (tAsg (tDc wi g tt tk tv (own.map (·.2))) (gName i)) := by
  refine ⟨fun pins s σ H D I h => ?_⟩
  rw [exec_Assign_Name_used _ _ _ _ hsw]
  refine wpAny_bind (wpAny_standAt (wpAny_bind ?_))
  show wpAny _ X.A (do let _ ← comprehension (.DictComp kx vx [⟨tg, iter, ifs, 0⟩] scope pos) scope X.env (firstIterPos [⟨tg, iter, ifs, 0⟩] pos) newDict false (eval iter X.env) (some (assign (.Name y py) X.env))) _ _ s
  have h : tDc wi g tt tk tv (own.map (·.2)) σ H (fun x H1 => gName i x σ H1 D.nx) := h
  refine wpAny_bind (thn (dc_core (Qf := fun _ s' => SP X pins D .next s') hc hN I hi ok hg ht hk he hs h fun L C s' m H' I' q hn f => ?_) fun _ s' hq => wpAny_pure (wpAny_pure hq))
  show wpAny _ _ (assign (.Name y py) X.env (.ref L)) _ _ _
  refine wpAny_assign_Name (store_ok2 (v := V.ref L) I' hN hy (.inl hyl) rfl (fun s2 I2 ⟨a, sb, ha⟩ => ?_) (.inr hyl))
  obtain ⟨f0, f1, f2, f3, f4, f5⟩ := f
  have haC : C ≠ a := by
    rcases ha with z | z
    · rw [z]; exact f1
    · exact fun e => f4 y a z e.symm
  refine ⟨m, hn.sameBut sb haC, fun h3 sb3 => ?_⟩
  exact ⟨_, H', I2.turned (t' := s2.toks) (fun b o hb e => (sb3.2 b hb).trans e) f0 f1 f3 f4 f5, q⟩
theorem sw_trueD {kx vx : Expr} {gs : List Comprehension} {scope : Scope} {pos py : Pos} {y : Str} {l : Nat} {env : Env} (hk : env.scope.kind = .function) (hy : env.scope.names.lookup y = some .local) (hl : (py.line == pos.line) = true)
    (ha : (scope.names.any fun (n, k) => n == y && (k == .local || k == .cell)) = false) : swapsWith (.DictComp kx vx gs scope pos) (some (.Name y py)) l env = pure true := by
  have ky : env.kindOf y = some .local := hy
  have hb : env.blockKind = .function := by unfold Env.blockKind; rw [hk]; rfl
  unfold swapsWith
  simp only [hb, ky, ha, Expr.pos, hl]
  rfl
section
variable {r : List V → Hp → VK → Prop} {ta : TE} {tr : TA} {D : Ends} {σ : L2.St} {H : Hp} {u : TS} {i j : Nat}
theorem cc1 {Q : List V → Hp → Prop} (h : ta σ H fun x H1 => r [x] H1 fun y H2 => tr σ H2 fun ys H3 => Q (y :: ys) H3) : tCons (tCB r (tCons ta tNil)) tr σ H Q := h
theorem sq_par (h : tr σ H fun vs H1 => ∃ v w, vs = [v, w] ∧ u D ((σ.set i (some v)).set j (some w)) H1) : tSeq (tPar i j tr) u D σ H := h
end
theorem findSome_at {α β : Type} {f : α → Option β} {xs : List α} {i : Nat} {x : α} {y : β} (h : (xs.take i).findSome? f = none) (hx : xs[i]? = some x) (hf : f x = some y) : xs.findSome? f = some y := by
  have e : xs = xs.take i ++ x :: xs.drop (i + 1) := by
    conv => lhs; rw [← List.take_append_drop i xs]
    congr 1
    obtain ⟨h1, h2⟩ := List.getElem?_eq_some_iff.mp hx
    rw [← h2]
    exact List.drop_eq_getElem_cons h1
  rw [e, List.findSome?_append, h]
  simp [hf]
theorem findSome_step {α β : Type} {f : α → Option β} {xs : List α} {i : Nat} {x : α} (h : (xs.take i).findSome? f = none) (hx : xs[i]? = some x) (hf : f x = none) : (xs.take (i + 1)).findSome? f = none := by
  rw [take_succ_get hx, List.findSome?_append, h]
  simp [hf]
/-- the dict of the lines' ends -/
def EndsD (D : Addr) (H : Hp) (kvs : List (Key × V)) (ns : List Nm) : Prop := ∀ x : Int, match endOf ns x with
  | none => valV kvs (Sum.inl x) = none
  | some p => ∃ t, valV kvs (Sum.inl x) = some (.ref t) ∧ t ≠ D ∧ H t = some (.tup [.int p.1, .int p.2])
theorem EndsD.nil {D : Addr} {H : Hp} : EndsD D H [] [] := fun x => rfl
theorem EndsD.on {D : Addr} {H H' : Hp} {kvs : List (Key × V)} {ns : List Nm} (h : EndsD D H kvs ns) (s : SameS [D] H H') : EndsD D H' kvs ns := by
  intro x
  have hx := h x
  cases e : endOf ns x with
  | none =>
    rw [e] at hx
    exact hx
  | some p =>
    rw [e] at hx
    obtain ⟨t, h1, h2, h3⟩ := hx
    exact ⟨t, h1, h2, s.at (by simp [h2]) h3⟩
theorem EndsD.snoc {D t : Addr} {H : Hp} {kvs : List (Key × V)} {ns : List Nm} {m : Nm} (h : EndsD D H kvs ns) (hn : t ≠ D) (ht : H t = some (.tup [.int m.1, .int m.2.1])) : EndsD D H (putK kvs (Sum.inl m.2.2.e) (.ref t)) (ns ++ [m]) := by
  intro x
  rw [endOf_snoc, valV_put]
  by_cases c : m.2.2.e = x
  · rw [if_pos c, if_pos (by rw [c])]
    exact ⟨t, rfl, hn, ht⟩
  · rw [if_neg c, if_neg (fun e => c (Sum.inl.inj e).symm)]
    exact h x
/-- where a line starts and ends -/
theorem lenFrom_at : ∀ (es : List Int) (p : Int) (i : Nat) (s e : Int), (p :: es.dropLast.map (· + 1))[i]? = some s → es[i]? = some e → (lenFrom p es)[i]? = some (e - s)
  | [], _, _, _, _, _, h => by simp at h
  | e :: r, p, 0, s, e', h1, h2 => by
    simp at h1 h2
    subst h1 h2
    rfl
  | e :: r, p, i + 1, s, e', h1, h2 => by
    have h2' : r[i]? = some e' := by simpa using h2
    have hr : r ≠ [] := by
      rintro rfl
      simp at h2'
    show (lenFrom (e + 1) r)[i]? = _
    refine lenFrom_at r (e + 1) i s e' ?_ h2'
    obtain ⟨x, r', rfl⟩ := List.exists_cons_of_ne_nil hr
    simpa using h1
theorem starts_ends {ns : List Int} (h : ∀ n ∈ ns, 1 ≤ n) {i : Nat} {s e : Int} (hs : (startsOf (endsOf ns))[i]? = some s) (he : (endsOf ns)[i]? = some e) : ns[i]? = some (e - s) ∧ 0 ≤ s ∧ s < e ∧ e ≤ total ns := by
  have h1 := lenFrom_at (endsOf ns) 0 i s e hs he
  have h2 : (lengthsOf (endsOf ns))[i]? = some (e - s) := h1
  rw [lengths_ends] at h2
  have h3 := h _ (List.mem_of_getElem? h2)
  have h4 := ends_rng ns (-1) h
  have h5 := h4 e (List.mem_of_getElem? he)
  refine ⟨h2, ?_, by omega, by unfold total; omega⟩
  have hm := List.mem_of_getElem? hs
  unfold startsOf at hm
  rcases List.mem_cons.mp hm with rfl | hm
  · exact Int.le_refl _
  · obtain ⟨x, hx, rfl⟩ := List.mem_map.mp hm
    have := h4 x (List.dropLast_subset _ hx)
    omega
theorem mem_scrLines {s : Scr} {l : Ln} : l ∈ scrLines s ↔ ∃ (i : Nat) (a b : Int), (startsOf (endsOf s.2))[i]? = some a ∧ (endsOf s.2)[i]? = some b ∧ l = lnOf s.1 a b (total s.2) := by
  unfold scrLines
  rw [List.mem_map]
  constructor
  · rintro ⟨p, hp, rfl⟩
    obtain ⟨i, hi⟩ := List.getElem?_of_mem hp
    have := List.getElem?_zip_eq_some.mp hi
    exact ⟨i, p.1, p.2, this.1, this.2, rfl⟩
  · rintro ⟨i, a, b, h1, h2, rfl⟩
    exact ⟨(a, b), List.mem_of_getElem? (i := i) ((List.getElem?_zip_eq_some (z := (a, b))).mpr ⟨h1, h2⟩), rfl⟩
theorem ln_rng {n : Int} {s : Scr} (h : ScrOk n s) {l : Ln} (hl : l ∈ scrLines s) : 0 ≤ l.s ∧ l.s < l.e ∧ l.e ≤ n ∧ l.e ≤ l.room ∧ l.room ≤ l.e + 1000 ∧ (l.long = true ↔ s.1 < l.e - l.s) ∧ (l.long = true → l.room = l.e) ∧ (l.long = false → l.e ≠ n → l.room = l.s + s.1) ∧ (l.e = n → l.room = l.e) := by
  obtain ⟨h1, h2, h3, h4⟩ := h
  obtain ⟨i, a, b, ha, hb, rfl⟩ := mem_scrLines.mp hl
  obtain ⟨g1, g2, g3, g4⟩ := starts_ends h3.2.1 ha hb
  rw [h4]
  unfold lnOf
  dsimp only
  by_cases c : b - a > s.1
  · simp [c]
    omega
  · by_cases c2 : b = n
    · simp [c, c2]
      omega
    · simp [c, c2]
      omega
theorem mem_numL {ss : List Scr} {t : Nm} : t ∈ numL ss ↔ ∃ (a b : Nat) (s : Scr), ss[a]? = some s ∧ (scrLines s)[b]? = some t.2.2 ∧ t.1 = (a : Int) ∧ t.2.1 = (b : Int) := by
  unfold numL linesOf
  rw [mem_numFrom]
  constructor
  · rintro ⟨a, b, ls, h1, h2, h3, h4⟩
    rw [List.getElem?_map] at h1
    cases e : ss[a]? with
    | none =>
      rw [e] at h1
      cases h1
    | some s =>
      rw [e] at h1
      cases h1
      exact ⟨a, b, s, e, h2, by rw [h3]; congr 1; omega, h4⟩
  · rintro ⟨a, b, s, h1, h2, h3, h4⟩
    exact ⟨a, b, scrLines s, by rw [List.getElem?_map, h1]; rfl, h2, by rw [h3]; congr 1; omega, h4⟩
theorem num_rng {n : Int} {ss : List Scr} (h : Scrs n ss) {t : Nm} (ht : t ∈ numL ss) : 0 ≤ t.2.2.s ∧ t.2.2.s < t.2.2.e ∧ t.2.2.e ≤ n ∧ t.2.2.e ≤ t.2.2.room ∧ t.2.2.room ≤ t.2.2.e + 1000 := by
  obtain ⟨a, b, s, h1, h2, _, _⟩ := mem_numL.mp ht
  have := ln_rng (h.2 s (List.mem_of_getElem? h1)) (List.mem_of_getElem? h2)
  exact ⟨this.1, this.2.1, this.2.2.1, this.2.2.2.1, this.2.2.2.2.1⟩
theorem numL_len {n : Int} {ss : List Scr} (h : Scrs n ss) : (numL ss).length ≤ 300 * ss.length := by
  have key : ∀ (L : List (List Ln)) (k : Nat), (∀ ls ∈ L, ls.length ≤ 300) → (numFrom k L).length ≤ 300 * L.length := by
    intro L
    induction L with
    | nil => exact fun k _ => Nat.le_refl _
    | cons ls L ih =>
      intro k h
      have h1 := ih (k + 1) fun l hl => h l (List.mem_cons_of_mem _ hl)
      have h2 := h ls (List.mem_cons_self ..)
      rw [numFrom, List.length_append, numRow_len, List.length_cons]
      omega
  have := key (linesOf ss) 0 fun ls hls => by
    obtain ⟨s, hs, rfl⟩ := List.mem_map.mp hls
    have h1 := (h.2 s hs).2.2.1.len
    unfold scrLines
    rw [List.length_map, List.length_zip, endsOf_len]
    omega
  unfold linesOf at this
  rw [List.length_map] at this
  exact this
end Wc

/-! which texts fit screens. -/
namespace Wc
open PySem PySem.Spec PyProof.Rows L2
theorem IsNx.uniq {all : List Int} {w s e e' : Int} (h : IsNx all w s e) (h' : IsNx all w s e') : e = e' := Int.le_antisymm (h.mono h' (Int.le_refl _) (Int.le_refl _)) (h'.mono h (Int.le_refl _) (Int.le_refl _))
theorem LinesOk.uniq {all : List Int} {w n : Int} (hm : ∀ t ∈ all, t ≤ n) : ∀ {es es' : List Int} {s : Int}, LinesOk all w s es → LinesOk all w s es' → es.getLast? = some n → es'.getLast? = some n → es = es'
  | [], _, _, _, _, h, _ => by simp at h
  | _ :: _, [], _, _, _, _, h => by simp at h
  | e :: es, e' :: es', s, ⟨h1, h2⟩, ⟨h1', h2'⟩, hl, hl' => by
    have he := h1.uniq h1'
    subst he
    congr 1
    match es, es', h2, h2', hl, hl' with
    | [], [], _, _, _, _ => rfl
    | [], x :: r, _, ⟨g, _⟩, hl, _ =>
      simp at hl
      have := hm x g.1
      have := g.2.1
      omega
    | x :: r, [], ⟨g, _⟩, _, _, hl' =>
      simp at hl'
      have := hm x g.1
      have := g.2.1
      omega
    | x :: r, y :: r', h2, h2', hl, hl' =>
      rw [List.getLast?_cons_cons] at hl hl'
      exact LinesOk.uniq hm h2 h2' hl hl'
theorem LinesOk.of {all : List Int} {w : Int} : ∀ {es : List Int} {s : Int}, (∀ (i : Nat) a e, (s :: es.map (· + 1))[i]? = some a → es[i]? = some e → IsNx all w a e) → LinesOk all w s es
  | [], _, _ => trivial
  | e :: es, s, h => ⟨h 0 s e rfl rfl, LinesOk.of fun i a e' ha he => h (i + 1) a e' (by simpa using ha) (by simpa using he)⟩
theorem starts_of_get {es : List Int} {i : Nat} {a e : Int} (he : es[i]? = some e) : (startsOf es)[i]? = some a ↔ ((0 : Int) :: es.map (· + 1))[i]? = some a := by
  have hi := (List.getElem?_eq_some_iff.mp he).1
  unfold startsOf
  cases i with
  | zero => simp
  | succ i =>
    rw [List.getElem?_cons_succ, List.getElem?_cons_succ, List.getElem?_map, List.getElem?_map, List.getElem?_dropLast, if_pos (by omega)]
theorem ends_max {ns : List Int} (h : Txt' ns) : ∀ e ∈ endsOf ns, 1 ≤ e ∧ e ≤ total ns := by
  intro e he
  have h1 := ends_rng ns (-1) h.2.1 e he
  have h2 := (ends_pair2 (-1) ns h.2.1).2 e he
  unfold total
  omega
theorem ends_gap {ns : List Int} (h : Txt' ns) {a b : Int} (ha : a ∈ endsOf ns) (hb : b ∈ endsOf ns) : b ≠ a + 1 := by
  have hp : (endsOf ns).Pairwise (fun a b => a + 1 < b) := (ends_pair2 (-1) ns h.2.1).1
  intro e
  obtain ⟨i, hi⟩ := List.getElem?_of_mem ha
  obtain ⟨j, hj⟩ := List.getElem?_of_mem hb
  obtain ⟨i1, i2⟩ := List.getElem?_eq_some_iff.mp hi
  obtain ⟨j1, j2⟩ := List.getElem?_eq_some_iff.mp hj
  rcases (by omega : i < j ∨ i = j ∨ j < i) with c | c | c
  · have := List.pairwise_iff_getElem.mp hp i j i1 j1 c
    rw [i2, j2] at this
    omega
  · subst c
    rw [hi] at hj
    cases hj
    omega
  · have := List.pairwise_iff_getElem.mp hp j i j1 i1 c
    rw [i2, j2] at this
    omega
/-- a text shows a screen: by its lines -/
theorem shows_iff {n : Int} {s : Scr} {ws : List Int} (h : ScrOk n s) (ht : Txt' ws) (hn : total ws = n) : lawWrap ws s.1 = s.2 ↔ ∀ l ∈ scrLines s, IsNx (endsOf ws) s.1 l.s l.e := by
  obtain ⟨h1, h2, h3, h4⟩ := h
  constructor
  · intro e l hl
    obtain ⟨i, a, b, ha, hb, rfl⟩ := mem_scrLines.mp hl
    have ok := lines_ok ht s.1
    rw [e] at ok
    exact ok.get i a b ((starts_of_get hb).mp ha) hb
  · intro hall
    have ok := lines_ok ht s.1
    have ok2 : LinesOk (endsOf ws) s.1 0 (endsOf s.2) := LinesOk.of fun i a e ha he => by
      have := hall (lnOf s.1 a e (total s.2)) (mem_scrLines.mpr ⟨i, a, e, (starts_of_get he).mpr ha, he, rfl⟩)
      exact this
    have hw := ht.wrap s.1
    have l1 := endsOf_last hw.1.1
    have l2 := endsOf_last h3.1
    rw [hw.2, hn] at l1
    rw [h4] at l2
    have e := LinesOk.uniq (n := n) (fun t ht' => by rw [← hn]; exact (ends_max ht t ht').2) ok ok2 l1 l2
    have := congrArg lengthsOf e
    rwa [lengths_ends, lengths_ends] at this
theorem mem_bar_room {l : Ln} {x : Int} : x ∈ barS l "room" ↔ l.e + 1 ≤ x ∧ x ≤ l.room := by
  unfold barS
  rw [if_neg (by decide +kernel), if_pos rfl, mem_rngI]
  omega
theorem mem_bar_beside {l : Ln} {x : Int} : x ∈ barS l "beside" ↔ x = l.e + 1 := by
  unfold barS
  rw [if_pos rfl, List.mem_singleton]
theorem mem_bar_long {l : Ln} {x : Int} : x ∈ barS l "long" ↔ l.long = true ∧ l.s + 1 ≤ x ∧ x < l.e := by
  unfold barS
  rw [if_neg (by decide +kernel), if_neg (by decide +kernel)]
  by_cases c : l.long = true
  · rw [if_pos c, mem_rngI]
    exact ⟨fun h => ⟨c, h⟩, fun h => h.2⟩
  · rw [if_neg c]
    exact ⟨fun h => (by cases h), fun h => (c h.1).elim⟩
theorem kinds_all {P : Str → Prop} : (∀ z ∈ kinds, P z) ↔ P "room" ∧ P "long" ∧ P "beside" := by
  constructor
  · intro h
    exact ⟨h _ (List.mem_cons_self ..), h _ (List.mem_cons_of_mem _ (List.mem_cons_self ..)), h _ (List.mem_cons_of_mem _ (List.mem_cons_of_mem _ (List.mem_cons_self ..)))⟩
  · rintro ⟨h1, h2, h3⟩ z hz
    rcases List.mem_cons.mp hz with rfl | hz
    · exact h1
    · rcases List.mem_cons.mp hz with rfl | hz
      · exact h2
      · rcases List.mem_cons.mp hz with rfl | hz
        · exact h3
        · cases hz
/-- a line of a screen is a line of the text: its end is a stop, no stop is barred -/
theorem isNx_iff {n : Int} {s : Scr} {ws : List Int} (h : ScrOk n s) (ht : Txt' ws) (hn : total ws = n) {l : Ln} (hl : l ∈ scrLines s) : IsNx (endsOf ws) s.1 l.s l.e ↔ l.e ∈ endsOf ws ∧ ∀ x ∈ endsOf ws, ∀ z ∈ kinds, x ∉ barS l z := by
  obtain ⟨r1, r2, r3, r4, r5, r6, r7, r8, r9⟩ := ln_rng h hl
  constructor
  · rintro ⟨h1, h2, h3, h4⟩
    refine ⟨h1, fun x hx => ?_⟩
    rw [kinds_all]
    have hxm := (ends_max ht x hx).2
    refine ⟨fun hb => ?_, fun hb => ?_, fun hb => ?_⟩
    · rw [mem_bar_room] at hb
      cases c : l.long with
      | true =>
        have := r7 c
        omega
      | false =>
        by_cases c2 : l.e = n
        · have := r9 c2
          omega
        · have := r8 c c2
          have := h3 x hx (by omega) (by omega)
          omega
    · rw [mem_bar_long] at hb
      have h5 := r6.mp hb.1
      rcases h4 with h4 | h4
      · omega
      · have := h4 x hx (by omega)
        omega
    · rw [mem_bar_beside] at hb
      exact ends_gap ht h1 hx hb
  · rintro ⟨h1, h2⟩
    have h2' := fun x hx => kinds_all.mp (h2 x hx)
    refine ⟨h1, r2, fun t ht' h5 h6 => ?_, ?_⟩
    · have hb := (h2' t ht').1
      rw [mem_bar_room] at hb
      have htm := (ends_max ht t ht').2
      cases c : l.long with
      | true =>
        have := r6.mp c
        omega
      | false =>
        by_cases c2 : l.e = n
        · omega
        · have := r8 c c2
          omega
    · by_cases c : l.e ≤ l.s + s.1
      · exact .inl c
      · refine .inr fun t ht' h5 => ?_
        have hb := (h2' t ht').2.1
        rw [mem_bar_long] at hb
        have c2 : l.long = true := r6.mpr (by omega)
        exact Int.not_lt.mp fun h6 => hb ⟨c2, by omega, h6⟩
/-- a text fits screens -/
theorem fits_iff {n : Int} {ss : List Scr} {ws : List Int} (h : Scrs n ss) (ht : Txt' ws) (hn : total ws = n) : fitsOf n ss ws = true ↔ ∀ t ∈ numL ss, t.2.2.e ∈ endsOf ws ∧ ∀ x ∈ endsOf ws, ∀ z ∈ kinds, x ∉ barS t.2.2 z := by
  unfold fitsOf
  rw [decide_eq_true hn, Bool.true_and, List.all_eq_true]
  constructor
  · intro hall t htm
    obtain ⟨a, b, s, h1, h2, _, _⟩ := mem_numL.mp htm
    have hs := List.mem_of_getElem? h1
    have e := of_decide_eq_true (hall s hs)
    exact (isNx_iff (h.2 s hs) ht hn (List.mem_of_getElem? h2)).mp ((shows_iff (h.2 s hs) ht hn).mp e _ (List.mem_of_getElem? h2))
  · intro hall s hs
    refine decide_eq_true ((shows_iff (h.2 s hs) ht hn).mpr fun l hl => ?_)
    obtain ⟨a, ha⟩ := List.getElem?_of_mem hs
    obtain ⟨b, hb⟩ := List.getElem?_of_mem hl
    exact (isNx_iff (h.2 s hs) ht hn hl).mpr (hall ((a : Int), (b : Int), l) (mem_numL.mpr ⟨a, b, s, ha, hb, rfl, rfl⟩))
/-- no two lines clash -/
def NoClash (ss : List Scr) : Prop := ∀ t ∈ numL ss, ∀ z ∈ kinds, ∀ u ∈ numL ss, u.2.2.e ∉ barS t.2.2 z
theorem clash_none {ss : List Scr} : clashOf (numL ss) = none ↔ NoClash ss := by
  unfold clashOf NoClash
  rw [List.findSome?_eq_none_iff]
  constructor
  · intro h t ht z hz u hu hx
    have h1 := h t ht
    unfold clashAt at h1
    rw [List.findSome?_eq_none_iff] at h1
    have h2 := h1 z hz
    unfold clashIn at h2
    rw [List.findSome?_eq_none_iff] at h2
    have h3 := h2 _ hx
    rw [Option.map_eq_none_iff] at h3
    exact endOf_none h3 u hu rfl
  · intro h t ht
    unfold clashAt
    rw [List.findSome?_eq_none_iff]
    intro z hz
    unfold clashIn
    rw [List.findSome?_eq_none_iff]
    intro x hx
    rw [Option.map_eq_none_iff]
    cases e : endOf (numL ss) x with
    | none => rfl
    | some p =>
      obtain ⟨l, h1, h2⟩ := endOf_some e
      refine (h t ht z hz _ h1 ?_).elim
      dsimp only
      rw [h2]
      exact hx
/-- what a clash tells -/
theorem clash_some {ss : List Scr} {z : Str} {i j k l : Int} (h : clashOf (numL ss) = some (z, i, j, k, l)) : z ∈ kinds ∧ ∃ a b, (i, j, a) ∈ numL ss ∧ (k, l, b) ∈ numL ss ∧ b.e ∈ barS a z := by
  unfold clashOf at h
  obtain ⟨t, ht, h⟩ := List.exists_of_findSome?_eq_some h
  unfold clashAt at h
  obtain ⟨z', hz, h⟩ := List.exists_of_findSome?_eq_some h
  unfold clashIn at h
  obtain ⟨x, hx, h⟩ := List.exists_of_findSome?_eq_some h
  rw [Option.map_eq_some_iff] at h
  obtain ⟨p, hp, h⟩ := h
  obtain ⟨b, h1, h2⟩ := endOf_some hp
  cases h
  exact ⟨hz, t.2.2, b, ht, h1, by rw [h2]; exact hx⟩
theorem fits_noClash {n : Int} {ss : List Scr} {ws : List Int} (h : Scrs n ss) (ht : Txt' ws) (hn : total ws = n) (hf : fitsOf n ss ws = true) : NoClash ss := by
  have hall := (fits_iff h ht hn).mp hf
  intro t htm z hz u hu
  exact (hall t htm).2 _ (hall u hu).1 z hz
/-- screens that are wraps of one text -/
theorem wraps_fit {ss : List Scr} {ws : List Int} (hw : ∀ s ∈ ss, s.2 = lawWrap ws s.1) : fitsOf (total ws) ss ws = true := by
  unfold fitsOf
  rw [decide_eq_true rfl, Bool.true_and, List.all_eq_true]
  exact fun s hs => decide_eq_true (hw s hs).symm
theorem fits_wraps {n : Int} {ss : List Scr} {ws : List Int} : fitsOf n ss ws = true ↔ total ws = n ∧ ∀ s ∈ ss, lawWrap ws s.1 = s.2 := by
  unfold fitsOf
  rw [Bool.and_eq_true, List.all_eq_true, decide_eq_true_iff]
  constructor
  · rintro ⟨h1, h2⟩
    exact ⟨h1, fun s hs => of_decide_eq_true (h2 s hs)⟩
  · rintro ⟨h1, h2⟩
    exact ⟨h1, fun s hs => decide_eq_true (h2 s hs)⟩
/-! ### texts by their stops -/
theorem lenFrom_pos : ∀ (es : List Int) (p : Int), (∀ e ∈ es, p < e) → es.Pairwise (fun a b => a + 1 < b) → ∀ x ∈ lenFrom p es, 1 ≤ x
  | [], _, _, _, x, hx => by cases hx
  | e :: r, p, h, hp, x, hx => by
    obtain ⟨h1, h2⟩ := List.pairwise_cons.mp hp
    rw [lenFrom] at hx
    rcases List.mem_cons.mp hx with rfl | hx
    · have := h e (List.mem_cons_self ..)
      omega
    · exact lenFrom_pos r (e + 1) (fun y hy => h1 y hy) h2 x hx
theorem txt_stops {es : List Int} {n : Int} (h0 : es.getLast? = some n) (h1 : ∀ e ∈ es, 1 ≤ e) (h2 : es.Pairwise (fun a b => a + 1 < b)) (hn : n ≤ 600) : Txt' (lengthsOf es) ∧ endsOf (lengthsOf es) = es ∧ total (lengthsOf es) = n := by
  have hne : es ≠ [] := by
    rintro rfl
    simp at h0
  have e1 := total_lengths hne
  rw [h0] at e1
  have et := Option.some.inj e1
  refine ⟨⟨?_, fun x hx => lenFrom_pos es 0 (fun e he => by have := h1 e he; omega) h2 x hx, by rw [← et]; exact hn⟩, ends_lengths es, et.symm⟩
  intro e
  have := congrArg List.length e
  unfold lengthsOf at this
  rw [lenFrom_len, List.length_nil] at this
  exact hne (List.length_eq_zero_iff.mp this)
theorem rngI_asc (a b : Int) : (rngI a b).Pairwise (· < ·) := by
  unfold rngI
  refine List.pairwise_map.mpr ?_
  exact List.pairwise_lt_range.imp fun h => by omega
/-- the stops of a text with some spaces -/
def stopsOf (n : Int) (S : Int → Bool) : List Int := (rngI 1 n).filter S ++ [n]
theorem stopsOf_last (n : Int) (S : Int → Bool) : (stopsOf n S).getLast? = some n := by
  unfold stopsOf
  simp
theorem mem_stopsOf {n : Int} {S : Int → Bool} {x : Int} : x ∈ stopsOf n S ↔ (1 ≤ x ∧ x < n ∧ S x = true) ∨ x = n := by
  unfold stopsOf
  rw [List.mem_append, List.mem_filter, mem_rngI, List.mem_singleton]
  constructor
  · rintro (⟨⟨h1, h2⟩, h3⟩ | h)
    · exact .inl ⟨h1, h2, h3⟩
    · exact .inr h
  · rintro (⟨h1, h2, h3⟩ | h)
    · exact .inl ⟨⟨h1, h2⟩, h3⟩
    · exact .inr h
/-- spaces that stand apart -/
def Apart (n : Int) (S : Int → Bool) : Prop := (∀ x, 1 ≤ x → x + 1 < n → S x = true → S (x + 1) = false) ∧ (2 ≤ n → S (n - 1) = false)
theorem stopsOf_pair {n : Int} {S : Int → Bool} (h : Apart n S) : (stopsOf n S).Pairwise (fun a b => a + 1 < b) := by
  unfold stopsOf
  refine List.pairwise_append.mpr ⟨?_, by simp, ?_⟩
  · refine List.Pairwise.imp_of_mem ?_ ((rngI_asc 1 n).sublist List.filter_sublist)
    intro a b ha hb hab
    rw [List.mem_filter, mem_rngI] at ha hb
    rcases (by omega : b = a + 1 ∨ a + 1 < b) with rfl | c
    · have := h.1 a ha.1.1 hb.1.2 ha.2
      rw [this] at hb
      cases hb.2
    · exact c
  · intro a ha b hb
    rw [List.mem_filter, mem_rngI] at ha
    rw [List.mem_singleton.mp hb]
    rcases (by omega : a = n - 1 ∨ a + 1 < n) with c | c
    · have := h.2 (by omega)
      rw [c, this] at ha
      cases ha.2
    · exact c
theorem txt_of_spaces {n : Int} {S : Int → Bool} (hn1 : 1 ≤ n) (hn : n ≤ 600) (h : Apart n S) : Txt' (lengthsOf (stopsOf n S)) ∧ endsOf (lengthsOf (stopsOf n S)) = stopsOf n S ∧ total (lengthsOf (stopsOf n S)) = n :=
  txt_stops (stopsOf_last n S) (fun e he => by rcases mem_stopsOf.mp he with c | c <;> omega) (stopsOf_pair h) hn
/-- two ascending lists with the same members -/
theorem asc2_ext {xs ys : List Int} (h1 : xs.Pairwise (fun a b => a + 1 < b)) (h2 : ys.Pairwise (fun a b => a + 1 < b)) (h : ∀ z, z ∈ xs ↔ z ∈ ys) : xs = ys := asc_ext (h1.imp fun h => by omega) (h2.imp fun h => by omega) h
theorem ends_asc2 {ns : List Int} (h : Txt' ns) : (endsOf ns).Pairwise (fun a b => a + 1 < b) := (ends_pair2 (-1) ns h.2.1).1
theorem txt_ext {ws us : List Int} (h1 : Txt' ws) (h2 : Txt' us) (h : ∀ z, z ∈ endsOf ws ↔ z ∈ endsOf us) : ws = us := by
  have := congrArg lengthsOf (asc2_ext (ends_asc2 h1) (ends_asc2 h2) h)
  rwa [lengths_ends, lengths_ends] at this
/-- every text is that of its spaces -/
theorem txt_spaces {ws : List Int} (h : Txt' ws) : Apart (total ws) (fun x => decide (x ∈ endsOf ws)) ∧ ws = lengthsOf (stopsOf (total ws) fun x => decide (x ∈ endsOf ws)) := by
  have hlast := endsOf_last h.1
  have hmem := List.mem_of_getLast? hlast
  have ha : Apart (total ws) (fun x => decide (x ∈ endsOf ws)) := by
    refine ⟨fun x h1 h2 h3 => decide_eq_false fun h4 => ends_gap h (of_decide_eq_true h3) h4 rfl, fun _ => decide_eq_false fun h4 => ends_gap h h4 hmem (by omega)⟩
  have hn1 : 1 ≤ total ws := (ends_max h _ hmem).1
  obtain ⟨t1, t2, t3⟩ := txt_of_spaces hn1 h.2.2 ha
  refine ⟨ha, txt_ext h t1 fun z => ?_⟩
  rw [t2, mem_stopsOf]
  constructor
  · intro hz
    have := ends_max h z hz
    rcases (by omega : z = total ws ∨ z < total ws) with c | c
    · exact .inr c
    · exact .inl ⟨this.1, c, decide_eq_true hz⟩
  · rintro (⟨_, _, h3⟩ | rfl)
    · exact of_decide_eq_true h3
    · exact hmem
/-- screens without a clash: the text with the breaks alone fits -/
theorem noClash_fits {n : Int} {ss : List Scr} (h : Scrs n ss) (hc : NoClash ss) : ∃ ws, Txt' ws ∧ total ws = n ∧ fitsOf n ss ws = true := by
  obtain ⟨n1, n2⟩ := h.len
  have hall : ∀ t ∈ numL ss, ∀ u ∈ numL ss, u.2.2.e ≠ t.2.2.e + 1 := fun t ht u hu e => by
    have := hc t ht "beside" (by decide +kernel) u hu
    rw [mem_bar_beside] at this
    exact this e
  have hend : ∃ t ∈ numL ss, t.2.2.e = n := by
    obtain ⟨h0, h1⟩ := h
    cases ss with
    | nil => exact (h0 rfl).elim
    | cons s ss =>
      obtain ⟨_, _, h3, h4⟩ := h1 s (List.mem_cons_self ..)
      have hl := endsOf_last h3.1
      rw [List.getLast?_eq_getElem?] at hl
      have hs : (startsOf (endsOf s.2)).length = (endsOf s.2).length := startsOf_len (by
        intro e
        rw [e] at hl
        simp at hl)
      have hi := (List.getElem?_eq_some_iff.mp hl).1
      obtain ⟨a, ha⟩ : ∃ a, (startsOf (endsOf s.2))[(endsOf s.2).length - 1]? = some a := ⟨_, List.getElem?_eq_getElem (by omega)⟩
      have hm : lnOf s.1 a (total s.2) (total s.2) ∈ scrLines s := mem_scrLines.mpr ⟨_, a, _, ha, hl, rfl⟩
      obtain ⟨b, hb⟩ := List.getElem?_of_mem hm
      exact ⟨(((0 : Nat) : Int), (b : Int), _), mem_numL.mpr ⟨0, b, s, rfl, hb, rfl, rfl⟩, h4⟩
  obtain ⟨tn, htn, en⟩ := hend
  have hap : Apart n (fun x => decide (∃ t ∈ numL ss, t.2.2.e = x)) := by
    refine ⟨fun x _ _ h3 => ?_, fun _ => decide_eq_false ?_⟩
    · obtain ⟨t, ht, e⟩ := of_decide_eq_true h3
      refine decide_eq_false ?_
      rintro ⟨u, hu, e2⟩
      exact hall t ht u hu (by omega)
    · rintro ⟨t, ht, e⟩
      exact hall t ht tn htn (by omega)
  obtain ⟨t1, t2, t3⟩ := txt_of_spaces n1 n2 hap
  refine ⟨_, t1, t3, (fits_iff h t1 t3).mpr fun t ht => ?_⟩
  have hr := num_rng h ht
  rw [t2]
  have hmem : ∀ x, x ∈ stopsOf n (fun x => decide (∃ t ∈ numL ss, t.2.2.e = x)) → ∃ u ∈ numL ss, u.2.2.e = x := by
    intro x hx
    rcases mem_stopsOf.mp hx with ⟨_, _, h3⟩ | rfl
    · exact of_decide_eq_true h3
    · exact ⟨tn, htn, en⟩
  refine ⟨mem_stopsOf.mpr ?_, fun x hx z hz => ?_⟩
  · rcases (by omega : t.2.2.e = n ∨ t.2.2.e < n) with c | c
    · exact .inr c
    · exact .inl ⟨by omega, c, decide_eq_true ⟨t, ht, rfl⟩⟩
  · obtain ⟨u, hu, rfl⟩ := hmem x hx
    exact hc t ht z hz u hu
end Wc

/-! reasons, and the pattern. -/
namespace Wc
open PySem PySem.Spec PyProof.Rows L2
/-! ### how many keys a dict may have -/
theorem len_sub : ∀ {xs ys : List Int}, xs.Nodup → (∀ x ∈ xs, x ∈ ys) → xs.length ≤ ys.length
  | [], _, _, _ => Nat.zero_le _
  | x :: r, ys, hn, h => by
    obtain ⟨h1, h2⟩ := List.nodup_cons.mp hn
    have hx := h x (List.mem_cons_self ..)
    have ih := len_sub (ys := ys.erase x) h2 fun y hy => (List.mem_erase_of_ne (fun e => h1 (by rw [← e]; exact hy))).mpr (h y (List.mem_cons_of_mem _ hy))
    have hl := List.length_erase_of_mem hx
    have hp := List.length_pos_of_mem hx
    rw [List.length_cons]
    omega
theorem putK_keys (kvs : List (Key × V)) (k : Key) (v : V) : (putK kvs k v).map (·.1) = if (kvs.any fun kv => decide (kv.1 = k)) = true then kvs.map (·.1) else kvs.map (·.1) ++ [k] := by
  unfold putK
  split
  · rw [List.map_map]
    refine List.map_congr_left fun p _ => ?_
    show (if p.1 = k then _ else p).1 = p.1
    split
    · rfl
    · rfl
  · rw [List.map_append]
    rfl
/-- keys: ints within bounds, each once -/
def KeysIn (lo hi : Int) (kvs : List (Key × V)) : Prop := ∃ ks : List Int, kvs.map (·.1) = ks.map Sum.inl ∧ ks.Nodup ∧ ∀ k ∈ ks, lo ≤ k ∧ k < hi
theorem KeysIn.nil {lo hi : Int} : KeysIn lo hi [] := ⟨[], rfl, .nil, fun k h => by cases h⟩
theorem KeysIn.put {lo hi : Int} {kvs : List (Key × V)} {k : Int} {v : V} (h : KeysIn lo hi kvs) (h1 : lo ≤ k) (h2 : k < hi) : KeysIn lo hi (putK kvs (Sum.inl k) v) := by
  obtain ⟨ks, e, hn, hb⟩ := h
  have ek := putK_keys kvs (Sum.inl k) v
  by_cases c : (kvs.any fun kv => decide (kv.1 = Sum.inl k)) = true
  · rw [if_pos c] at ek
    exact ⟨ks, by rw [ek, e], hn, hb⟩
  · rw [if_neg c] at ek
    refine ⟨ks ++ [k], by rw [ek, e, List.map_append]; rfl, ?_, fun x hx => ?_⟩
    · refine List.nodup_append.mpr ⟨hn, by simp, fun a ha b hb' hab => ?_⟩
      rw [List.mem_singleton.mp hb'] at hab
      subst hab
      have hm : (Sum.inl a : Key) ∈ kvs.map (·.1) := by
        rw [e]
        exact List.mem_map.mpr ⟨a, ha, rfl⟩
      obtain ⟨p, hp, hpe⟩ := List.mem_map.mp hm
      exact c (List.any_eq_true.mpr ⟨p, hp, decide_eq_true hpe⟩)
    · rcases List.mem_append.mp hx with hx | hx
      · exact hb x hx
      · rw [List.mem_singleton.mp hx]
        exact ⟨h1, h2⟩
theorem KeysIn.merge {lo hi : Int} : ∀ {more kvs : List (Key × V)}, KeysIn lo hi kvs → (∀ p ∈ more, ∃ k : Int, p.1 = Sum.inl k ∧ lo ≤ k ∧ k < hi) → KeysIn lo hi (mergeK kvs more)
  | [], _, h, _ => h
  | (k, v) :: more, kvs, h, hm => by
    obtain ⟨x, e, h1, h2⟩ := hm (k, v) (List.mem_cons_self ..)
    have e' : k = Sum.inl x := e
    subst e'
    exact KeysIn.merge (more := more) (kvs := putK kvs (Sum.inl x) v) (h.put h1 h2) fun p hp => hm p (List.mem_cons_of_mem _ hp)
theorem KeysIn.len {lo hi : Int} {kvs : List (Key × V)} (h : KeysIn lo hi kvs) : kvs.length ≤ (hi - lo).toNat := by
  obtain ⟨ks, e, hn, hb⟩ := h
  have := len_sub hn (ys := rngI lo hi) fun x hx => mem_rngI.mpr (hb x hx)
  rw [rngI_len] at this
  have el := congrArg List.length e
  rw [List.length_map, List.length_map] at el
  omega
/-! ### reasons -/
/-- positions that are letters because of a line, by the kind's word -/
def letS (l : Ln) (z : Str) : List Int := if z = "beside" then [l.e - 1, l.e + 1] else if z = "long" then (if l.long = true then rngI l.s l.e else []) else barS l z
abbrev Rs := Str × Option (Int × Int)
def rsV : Rs → List V
  | (z, none) => [.str z]
  | (z, some p) => [.str z, .int p.1, .int p.2]
def rsD : Rs → PyData
  | (z, none) => .tuple [.str z]
  | (z, some p) => .tuple [.str z, .int p.1, .int p.2]
def kinds2 : List Str := ["beside", "room", "long"]
/-- behind the first kinds of a line -/
def reasKinds (t : Nm) (r : Option Rs) (x : Int) (zs : List Str) : Option Rs := zs.foldl (fun r z => if x ∈ letS t.2.2 z then some (z, some (t.1, t.2.1)) else r) r
def reasStep (x : Int) (r : Option Rs) (t : Nm) : Option Rs := reasKinds t (if t.2.2.e = x then some ("break", some (t.1, t.2.1)) else r) x kinds2
def reasOf (ns : List Nm) (x : Int) : Option Rs := ns.foldl (reasStep x) (if x = 0 then some ("first", none) else none)
theorem reasOf_snoc (ns : List Nm) (t : Nm) (x : Int) : reasOf (ns ++ [t]) x = reasStep x (reasOf ns x) t := by
  unfold reasOf
  rw [List.foldl_append]
  rfl
/-- a dict of reasons -/
def RD (S : List Addr) (H : Hp) (kvs : List (Key × V)) (f : Int → Option Rs) : Prop := ∀ x : Int, match f x with
  | none => valV kvs (Sum.inl x) = none
  | some r => ∃ t, valV kvs (Sum.inl x) = some (.ref t) ∧ t ∉ S ∧ H t = some (.tup (rsV r))
theorem RD.on {S : List Addr} {H H' : Hp} {kvs : List (Key × V)} {f : Int → Option Rs} (h : RD S H kvs f) (s : SameS S H H') : RD S H' kvs f := by
  intro x
  have hx := h x
  cases e : f x with
  | none =>
    rw [e] at hx
    exact hx
  | some p =>
    rw [e] at hx
    obtain ⟨t, h1, h2, h3⟩ := hx
    exact ⟨t, h1, h2, s.at h2 h3⟩
theorem RD.nil {S : List Addr} {H : Hp} : RD S H [] (fun _ => none) := fun x => rfl
theorem RD.congr {S : List Addr} {H : Hp} {kvs : List (Key × V)} {f g : Int → Option Rs} (h : RD S H kvs f) (e : ∀ x, f x = g x) : RD S H kvs g := by
  intro x
  have := h x
  rwa [e x] at this
theorem RD.put {S : List Addr} {H : Hp} {kvs : List (Key × V)} {f : Int → Option Rs} {k : Int} {t : Addr} {r : Rs} (h : RD S H kvs f) (hn : t ∉ S) (ht : H t = some (.tup (rsV r))) : RD S H (putK kvs (Sum.inl k) (.ref t)) (fun x => if k = x then some r else f x) := by
  intro x
  rw [valV_put]
  by_cases c : k = x
  · dsimp only
    rw [if_pos c, if_pos (by rw [c])]
    exact ⟨t, rfl, hn, ht⟩
  · dsimp only
    rw [if_neg c, if_neg (fun e => c (Sum.inl.inj e).symm)]
    exact h x
/-- pairs of positions with tuples that all tell the same -/
def PosD (S : List Addr) (H : Hp) (ps : List (Key × V)) (xs : List Int) (r : Rs) : Prop := ps.map (·.1) = xs.map Sum.inl ∧ ∀ p ∈ ps, ∃ t, p.2 = .ref t ∧ t ∉ S ∧ H t = some (.tup (rsV r))
theorem PosD.on {S : List Addr} {H H' : Hp} {ps : List (Key × V)} {xs : List Int} {r : Rs} (h : PosD S H ps xs r) (s : SameS S H H') : PosD S H' ps xs r := ⟨h.1, fun p hp => by
  obtain ⟨t, h1, h2, h3⟩ := h.2 p hp
  exact ⟨t, h1, h2, s.at h2 h3⟩⟩
theorem RD.merge {S : List Addr} {H : Hp} {kvs ps : List (Key × V)} {f : Int → Option Rs} {xs : List Int} {r : Rs} (h : RD S H kvs f) (hp : PosD S H ps xs r) : RD S H (mergeK kvs (putAll ps)) (fun x => if x ∈ xs then some r else f x) := by
  intro x
  have hk : (∃ p ∈ ps, p.1 = Sum.inl x) ↔ x ∈ xs := by
    have e : (Sum.inl x : Key) ∈ ps.map (·.1) ↔ (Sum.inl x : Key) ∈ xs.map Sum.inl := by rw [hp.1]
    rw [List.mem_map, List.mem_map] at e
    constructor
    · intro hh
      obtain ⟨y, hy, ey⟩ := e.mp hh
      cases ey
      exact hy
    · intro hh
      exact e.mpr ⟨x, hh, rfl⟩
  by_cases c : x ∈ xs
  · dsimp only
    rw [if_pos c]
    obtain ⟨v, h1, t, h2, h3, h4⟩ := mergeK_in (j := Sum.inl x) (kvs := kvs) (more := putAll ps) (R := fun v => ∃ t, v = .ref t ∧ t ∉ S ∧ H t = some (.tup (rsV r))) (fun p hp' _ => hp.2 p (mem_putAll hp')) (.inl (keys_putAll.mpr (hk.mpr c)))
    exact ⟨t, by rw [h1, h2], h3, h4⟩
  · dsimp only
    rw [if_neg c, mergeK_out fun p hp' e => c (hk.mp (keys_putAll.mp ⟨p, hp', e⟩))]
    exact h x
/-! ### the pattern -/
def sgnS (r : Option Rs) : Str := match r with
  | none => "?"
  | some r => if r.1 = "break" then "_" else "x"
def signAt (ss : List Scr) (x : Int) : Str := sgnS (reasOf (numL ss) x)
def patL (n : Int) (ss : List Scr) : List Str := (rngI 0 n).map (signAt ss)
def patS (n : Int) (ss : List Scr) : Str := Txt.join "" (patL n ss)
end Wc

/-! what the pattern says. -/
namespace Wc
open PySem PySem.Spec PyProof.Rows L2
def IsEnd (ns : List Nm) (x : Int) : Prop := ∃ t ∈ ns, t.2.2.e = x
def IsLet (ns : List Nm) (x : Int) : Prop := x = 0 ∨ ∃ t ∈ ns, ∃ z ∈ kinds2, x ∈ letS t.2.2 z
theorem mem_let_beside {l : Ln} {x : Int} : x ∈ letS l "beside" ↔ x = l.e - 1 ∨ x = l.e + 1 := by
  unfold letS
  rw [if_pos rfl]
  simp
theorem mem_let_long {l : Ln} {x : Int} : x ∈ letS l "long" ↔ l.long = true ∧ l.s ≤ x ∧ x < l.e := by
  unfold letS
  rw [if_neg (by decide +kernel), if_pos rfl]
  by_cases c : l.long = true
  · rw [if_pos c, mem_rngI]
    exact ⟨fun h => ⟨c, h⟩, fun h => h.2⟩
  · rw [if_neg c]
    exact ⟨fun h => (by cases h), fun h => (c h.1).elim⟩
theorem mem_let_room {l : Ln} {x : Int} : x ∈ letS l "room" ↔ l.e + 1 ≤ x ∧ x ≤ l.room := by
  unfold letS
  rw [if_neg (by decide +kernel), if_neg (by decide +kernel), mem_bar_room]
theorem kinds2_all {P : Str → Prop} : (∀ z ∈ kinds2, P z) ↔ P "beside" ∧ P "room" ∧ P "long" := by
  constructor
  · intro h
    exact ⟨h _ (List.mem_cons_self ..), h _ (List.mem_cons_of_mem _ (List.mem_cons_self ..)), h _ (List.mem_cons_of_mem _ (List.mem_cons_of_mem _ (List.mem_cons_self ..)))⟩
  · rintro ⟨h1, h2, h3⟩ z hz
    rcases List.mem_cons.mp hz with rfl | hz
    · exact h1
    · rcases List.mem_cons.mp hz with rfl | hz
      · exact h2
      · rcases List.mem_cons.mp hz with rfl | hz
        · exact h3
        · cases hz
/-- the line behind whose end another line starts -/
theorem line_before {ss : List Scr} {t : Nm} (ht : t ∈ numL ss) : t.2.2.s = 0 ∨ ∃ u ∈ numL ss, u.2.2.e + 1 = t.2.2.s := by
  obtain ⟨a, b, s, h1, h2, _, _⟩ := mem_numL.mp ht
  obtain ⟨i, sa, e, hs, he, hl⟩ := mem_scrLines.mp (List.mem_of_getElem? h2)
  rw [hl]
  show sa = 0 ∨ _
  cases i with
  | zero =>
    unfold startsOf at hs
    simp at hs
    exact .inl hs.symm
  | succ i =>
    refine .inr ?_
    have hs' := (starts_of_get he).mp hs
    rw [List.getElem?_cons_succ, List.getElem?_map] at hs'
    cases e2 : (endsOf s.2)[i]? with
    | none =>
      rw [e2] at hs'
      cases hs'
    | some pe =>
      rw [e2] at hs'
      have hpe : pe + 1 = sa := Option.some.inj hs'
      have hi := (List.getElem?_eq_some_iff.mp e2).1
      have hsl : (startsOf (endsOf s.2)).length = (endsOf s.2).length := startsOf_len (by
        intro h
        rw [h] at e2
        simp at e2)
      obtain ⟨ps, hps⟩ : ∃ ps, (startsOf (endsOf s.2))[i]? = some ps := ⟨_, List.getElem?_eq_getElem (by omega)⟩
      obtain ⟨k, hk⟩ := List.getElem?_of_mem (mem_scrLines.mpr ⟨i, ps, pe, hps, e2, rfl⟩)
      exact ⟨((a : Int), (k : Int), _), mem_numL.mpr ⟨a, k, s, h1, hk, rfl, rfl⟩, hpe⟩
/-- no end of a line is a letter because of another one -/
theorem end_not_let {n : Int} {ss : List Scr} (h : Scrs n ss) (hc : NoClash ss) {x : Int} (he : IsEnd (numL ss) x) : ¬ IsLet (numL ss) x := by
  obtain ⟨u, hu, rfl⟩ := he
  have ru := num_rng h hu
  rintro (h0 | ⟨t, ht, z, hz, hx⟩)
  · omega
  · have rt := num_rng h ht
    have hk := fun t ht u hu => kinds_all.mp (fun z hz => hc t ht z hz u hu)
    have hz2 : z = "beside" ∨ z = "room" ∨ z = "long" := by
      have := (kinds2_all (P := fun z => z = "beside" ∨ z = "room" ∨ z = "long")).mpr ⟨.inl rfl, .inr (.inl rfl), .inr (.inr rfl)⟩
      exact this z hz
    rcases hz2 with rfl | rfl | rfl
    · rw [mem_let_beside] at hx
      rcases hx with hx | hx
      · have := (hk u hu t ht).2.2
        rw [mem_bar_beside] at this
        omega
      · have := (hk t ht u hu).2.2
        rw [mem_bar_beside] at this
        omega
    · rw [mem_let_room] at hx
      have := (hk t ht u hu).1
      rw [mem_bar_room] at this
      omega
    · rw [mem_let_long] at hx
      rcases (by omega : u.2.2.e = t.2.2.s ∨ t.2.2.s + 1 ≤ u.2.2.e) with c | c
      · rcases line_before ht with h0 | ⟨v, hv, e⟩
        · omega
        · have := (hk v hv u hu).2.2
          rw [mem_bar_beside] at this
          omega
      · have := (hk t ht u hu).2.1
        rw [mem_bar_long] at this
        exact this ⟨hx.1, c, hx.2.2⟩
theorem reasKinds_out {t : Nm} {x : Int} : ∀ {zs : List Str} {r : Option Rs}, (∀ z ∈ zs, x ∉ letS t.2.2 z) → reasKinds t r x zs = r
  | [], _, _ => rfl
  | z :: zs, r, h => by
    show reasKinds t (if x ∈ letS t.2.2 z then _ else r) x zs = r
    rw [if_neg (h z (List.mem_cons_self ..))]
    exact reasKinds_out fun y hy => h y (List.mem_cons_of_mem _ hy)
theorem reasKinds_in {t : Nm} {x : Int} : ∀ {zs : List Str} {r : Option Rs}, ((∃ z ∈ zs, x ∈ letS t.2.2 z) ∨ ∃ z ∈ kinds2, r = some (z, some (t.1, t.2.1)) ∧ x ∈ letS t.2.2 z) → (∀ z ∈ zs, z ∈ kinds2) → ∃ z ∈ kinds2, reasKinds t r x zs = some (z, some (t.1, t.2.1)) ∧ x ∈ letS t.2.2 z
  | [], r, h, _ => by
    rcases h with ⟨z, hz, _⟩ | h
    · cases hz
    · exact h
  | z :: zs, r, h, hz => by
    show ∃ z' ∈ kinds2, reasKinds t (if x ∈ letS t.2.2 z then _ else r) x zs = _ ∧ _
    refine reasKinds_in (zs := zs) ?_ fun y hy => hz y (List.mem_cons_of_mem _ hy)
    by_cases c : x ∈ letS t.2.2 z
    · rw [if_pos c]
      exact .inr ⟨z, hz z (List.mem_cons_self ..), rfl, c⟩
    · rw [if_neg c]
      rcases h with ⟨y, hy, hx⟩ | h
      · rcases List.mem_cons.mp hy with rfl | hy
        · exact (c hx).elim
        · exact .inl ⟨y, hy, hx⟩
      · exact .inr h
/-- what a reason tells -/
def RsOk (ns : List Nm) (x : Int) (r : Rs) : Prop := (x = 0 ∧ r = (("first" : Str), none)) ∨ (∃ t ∈ ns, t.2.2.e = x ∧ r = (("break" : Str), some (t.1, t.2.1))) ∨ ∃ t ∈ ns, ∃ z ∈ kinds2, x ∈ letS t.2.2 z ∧ r = (z, some (t.1, t.2.1))
theorem RsOk.more {ns : List Nm} {t : Nm} {x : Int} {r : Rs} (h : RsOk ns x r) : RsOk (ns ++ [t]) x r := by
  rcases h with h | ⟨u, hu, h⟩ | ⟨u, hu, h⟩
  · exact .inl h
  · exact .inr (.inl ⟨u, List.mem_append_left _ hu, h⟩)
  · exact .inr (.inr ⟨u, List.mem_append_left _ hu, h⟩)
theorem snoc_induct {α : Type} {P : List α → Prop} (h0 : P []) (hs : ∀ xs x, P xs → P (xs ++ [x])) (xs : List α) : P xs := by
  rw [← List.reverse_reverse xs]
  induction xs.reverse with
  | nil => exact h0
  | cons x r ih =>
    rw [List.reverse_cons]
    exact hs _ _ ih
theorem reas_some (x : Int) (ns : List Nm) : ∀ r, reasOf ns x = some r → RsOk ns x r := by
  refine snoc_induct (P := fun ns => ∀ r, reasOf ns x = some r → RsOk ns x r) ?_ ?_ ns
  · intro r h
    unfold reasOf at h
    rw [List.foldl_nil] at h
    split at h
    · next c => exact .inl ⟨c, (Option.some.inj h).symm⟩
    · cases h
  · intro ns t ih r h
    rw [reasOf_snoc] at h
    unfold reasStep at h
    by_cases c : ∃ z ∈ kinds2, x ∈ letS t.2.2 z
    · obtain ⟨z, hz, e, hx⟩ := reasKinds_in (t := t) (x := x) (zs := kinds2) (r := if t.2.2.e = x then some ("break", some (t.1, t.2.1)) else reasOf ns x) (.inl c) fun z hz => hz
      rw [e] at h
      exact .inr (.inr ⟨t, List.mem_append_right _ (List.mem_singleton.mpr rfl), z, hz, hx, (Option.some.inj h).symm⟩)
    · rw [reasKinds_out fun z hz hx => c ⟨z, hz, hx⟩] at h
      split at h
      · next c2 => exact .inr (.inl ⟨t, List.mem_append_right _ (List.mem_singleton.mpr rfl), c2, (Option.some.inj h).symm⟩)
      · exact (ih r h).more
theorem reas_none (x : Int) (ns : List Nm) : reasOf ns x = none ↔ ¬ IsEnd ns x ∧ ¬ IsLet ns x := by
  refine snoc_induct (P := fun ns => reasOf ns x = none ↔ ¬ IsEnd ns x ∧ ¬ IsLet ns x) ?_ ?_ ns
  · unfold reasOf IsEnd IsLet
    rw [List.foldl_nil]
    by_cases c : x = 0
    · simp [c]
    · simp [c]
  · intro ns t ih
    rw [reasOf_snoc]
    unfold reasStep
    have hE : IsEnd (ns ++ [t]) x ↔ IsEnd ns x ∨ t.2.2.e = x := by
      unfold IsEnd
      simp [List.mem_append, or_and_right, exists_or]
    have hL : IsLet (ns ++ [t]) x ↔ IsLet ns x ∨ ∃ z ∈ kinds2, x ∈ letS t.2.2 z := by
      unfold IsLet
      constructor
      · rintro (h | ⟨u, hu, h⟩)
        · exact .inl (.inl h)
        · rcases List.mem_append.mp hu with hu | hu
          · exact .inl (.inr ⟨u, hu, h⟩)
          · rw [List.mem_singleton.mp hu] at h
            exact .inr h
      · rintro ((h | ⟨u, hu, h⟩) | h)
        · exact .inl h
        · exact .inr ⟨u, List.mem_append_left _ hu, h⟩
        · exact .inr ⟨t, List.mem_append_right _ (List.mem_singleton.mpr rfl), h⟩
    rw [hE, hL]
    by_cases c : ∃ z ∈ kinds2, x ∈ letS t.2.2 z
    · obtain ⟨z, hz, e, hx⟩ := reasKinds_in (t := t) (x := x) (zs := kinds2) (r := if t.2.2.e = x then some ("break", some (t.1, t.2.1)) else reasOf ns x) (.inl c) fun z hz => hz
      rw [e]
      exact ⟨fun h => (by cases h), fun h => (h.2 (.inr c)).elim⟩
    · rw [reasKinds_out fun z hz hx => c ⟨z, hz, hx⟩]
      by_cases c2 : t.2.2.e = x
      · rw [if_pos c2]
        exact ⟨fun h => (by cases h), fun h => (h.1 (.inr c2)).elim⟩
      · rw [if_neg c2, ih]
        constructor
        · rintro ⟨h1, h2⟩
          exact ⟨fun h => h.elim h1 c2, fun h => h.elim h2 c⟩
        · rintro ⟨h1, h2⟩
          exact ⟨fun h => h1 (.inl h), fun h => h2 (.inl h)⟩
theorem sign_cases {n : Int} {ss : List Scr} (h : Scrs n ss) (hc : NoClash ss) (x : Int) : (IsEnd (numL ss) x ∧ ¬ IsLet (numL ss) x ∧ signAt ss x = "_") ∨ (¬ IsEnd (numL ss) x ∧ IsLet (numL ss) x ∧ signAt ss x = "x") ∨ (¬ IsEnd (numL ss) x ∧ ¬ IsLet (numL ss) x ∧ signAt ss x = "?") := by
  unfold signAt
  cases e : reasOf (numL ss) x with
  | none =>
    have := (reas_none x (numL ss)).mp e
    exact .inr (.inr ⟨this.1, this.2, rfl⟩)
  | some r =>
    have hn : ¬ (¬ IsEnd (numL ss) x ∧ ¬ IsLet (numL ss) x) := by
      rw [← reas_none, e]
      exact fun h => by cases h
    by_cases c : IsEnd (numL ss) x
    · have cl := end_not_let h hc c
      refine .inl ⟨c, cl, ?_⟩
      rcases reas_some x (numL ss) r e with ⟨h0, _⟩ | ⟨t, ht, h1, rfl⟩ | ⟨t, ht, z, hz, hx, _⟩
      · exact (cl (.inl h0)).elim
      · rfl
      · exact (cl (.inr ⟨t, ht, z, hz, hx⟩)).elim
    · have cl : IsLet (numL ss) x := Classical.byContradiction fun h => hn ⟨c, h⟩
      refine .inr (.inl ⟨c, cl, ?_⟩)
      rcases reas_some x (numL ss) r e with ⟨h0, rfl⟩ | ⟨t, ht, h1, _⟩ | ⟨t, ht, z, hz, hx, rfl⟩
      · decide +kernel
      · exact (c ⟨t, ht, h1⟩).elim
      · have : ∀ z ∈ kinds2, sgnS (some (z, some (t.1, t.2.1))) = "x" := kinds2_all.mpr ⟨by
          show (if ("beside" : Str) = "break" then ("_" : Str) else "x") = "x"
          rw [if_neg (by decide +kernel)], by
          show (if ("room" : Str) = "break" then ("_" : Str) else "x") = "x"
          rw [if_neg (by decide +kernel)], by
          show (if ("long" : Str) = "break" then ("_" : Str) else "x") = "x"
          rw [if_neg (by decide +kernel)]⟩
        exact this z hz
theorem some_last {n : Int} {ss : List Scr} (h : Scrs n ss) : IsEnd (numL ss) n := by
  obtain ⟨h0, h1⟩ := h
  cases ss with
  | nil => exact (h0 rfl).elim
  | cons s ss =>
    obtain ⟨_, _, h3, h4⟩ := h1 s (List.mem_cons_self ..)
    have hl := endsOf_last h3.1
    rw [List.getLast?_eq_getElem?] at hl
    have hs : (startsOf (endsOf s.2)).length = (endsOf s.2).length := startsOf_len (by
      intro e
      rw [e] at hl
      simp at hl)
    have hi := (List.getElem?_eq_some_iff.mp hl).1
    obtain ⟨a, ha⟩ : ∃ a, (startsOf (endsOf s.2))[(endsOf s.2).length - 1]? = some a := ⟨_, List.getElem?_eq_getElem (by omega)⟩
    have hm : lnOf s.1 a (total s.2) (total s.2) ∈ scrLines s := mem_scrLines.mpr ⟨_, a, _, ha, hl, rfl⟩
    obtain ⟨b, hb⟩ := List.getElem?_of_mem hm
    exact ⟨(((0 : Nat) : Int), (b : Int), _), mem_numL.mpr ⟨0, b, s, rfl, hb, rfl, rfl⟩, h4⟩
/-- the texts that fit are those that keep to the pattern -/
theorem fits_pat {n : Int} {ss : List Scr} {ws : List Int} (h : Scrs n ss) (hc : NoClash ss) (ht : Txt' ws) (hn : total ws = n) : fitsOf n ss ws = true ↔ ∀ x, 1 ≤ x → x < n → (signAt ss x = "_" → x ∈ endsOf ws) ∧ (signAt ss x = "x" → x ∉ endsOf ws) := by
  have hnm : n ∈ endsOf ws := by
    rw [← hn]
    exact List.mem_of_getLast? (endsOf_last ht.1)
  have u1 : ¬ (("_" : Str) = "x") := by decide +kernel
  have u2 : ¬ (("x" : Str) = "_") := by decide +kernel
  have u3 : ¬ (("?" : Str) = "_") := by decide +kernel
  have u4 : ¬ (("?" : Str) = "x") := by decide +kernel
  rw [fits_iff h ht hn]
  constructor
  · intro hall x x0 xn
    have hend : ∀ x, IsEnd (numL ss) x → x ∈ endsOf ws := by
      rintro x ⟨t, ht', rfl⟩
      exact (hall t ht').1
    rcases sign_cases h hc x with ⟨a, b, c⟩ | ⟨a, b, c⟩ | ⟨a, b, c⟩
    · rw [c]
      exact ⟨fun _ => hend x a, fun h => (u1 h).elim⟩
    · rw [c]
      refine ⟨fun h => (u2 h).elim, fun _ hx => ?_⟩
      rcases b with b | ⟨t, ht', z, hz, hxl⟩
      · have := (ends_max ht x hx).1
        omega
      · have htE := (hall t ht').1
        have hbar := kinds_all.mp ((hall t ht').2 x hx)
        have hz2 : z = "beside" ∨ z = "room" ∨ z = "long" := by
          have := (kinds2_all (P := fun z => z = "beside" ∨ z = "room" ∨ z = "long")).mpr ⟨.inl rfl, .inr (.inl rfl), .inr (.inr rfl)⟩
          exact this z hz
        rcases hz2 with rfl | rfl | rfl
        · rw [mem_let_beside] at hxl
          rcases hxl with e | e
          · exact ends_gap ht hx htE (by omega)
          · exact ends_gap ht htE hx e
        · rw [mem_let_room] at hxl
          have := hbar.1
          rw [mem_bar_room] at this
          exact this hxl
        · rw [mem_let_long] at hxl
          have hb2 := hbar.2.1
          rw [mem_bar_long] at hb2
          rcases (by omega : x = t.2.2.s ∨ t.2.2.s + 1 ≤ x) with c2 | c2
          · rcases line_before ht' with h0 | ⟨v, hv, e⟩
            · have := (ends_max ht x hx).1
              omega
            · exact ends_gap ht (hall v hv).1 hx (by omega)
          · exact hb2 ⟨hxl.1, c2, hxl.2.2⟩
    · rw [c]
      exact ⟨fun h => (u3 h).elim, fun h => (u4 h).elim⟩
  · intro hall t ht'
    have rt := num_rng h ht'
    have hstop : ∀ x ∈ endsOf ws, ¬ (IsLet (numL ss) x ∧ x < n) := by
      rintro x hx ⟨hl, hlt⟩
      have hx1 := (ends_max ht x hx).1
      rcases sign_cases h hc x with ⟨_, b, _⟩ | ⟨_, _, c⟩ | ⟨_, b, _⟩
      · exact b hl
      · exact (hall x hx1 hlt).2 c hx
      · exact b hl
    refine ⟨?_, fun x hx z hz hb => ?_⟩
    · rcases (by omega : t.2.2.e = n ∨ t.2.2.e < n) with c | c
      · rw [c]
        exact hnm
      · refine (hall _ (by omega) c).1 ?_
        rcases sign_cases h hc t.2.2.e with ⟨_, _, c⟩ | ⟨a, _, _⟩ | ⟨a, _, _⟩
        · exact c
        · exact (a ⟨t, ht', rfl⟩).elim
        · exact (a ⟨t, ht', rfl⟩).elim
    · have hxm := ends_max ht x hx
      rw [hn] at hxm
      rcases (by omega : x = n ∨ x < n) with c | c
      · obtain ⟨u, hu, e⟩ := some_last h
        have := hc t ht' z hz u hu
        rw [e, ← c] at this
        exact this hb
      · refine hstop x hx ⟨.inr ⟨t, ht', ?_⟩, c⟩
        have hz2 : z = "room" ∨ z = "long" ∨ z = "beside" := by
          have := (kinds_all (P := fun z => z = "room" ∨ z = "long" ∨ z = "beside")).mpr ⟨.inl rfl, .inr (.inl rfl), .inr (.inr rfl)⟩
          exact this z hz
        rcases hz2 with rfl | rfl | rfl
        · refine ⟨"room", by decide +kernel, ?_⟩
          rw [mem_bar_room] at hb
          rw [mem_let_room]
          exact hb
        · refine ⟨"long", by decide +kernel, ?_⟩
          rw [mem_bar_long] at hb
          rw [mem_let_long]
          exact ⟨hb.1, by omega, hb.2.2⟩
        · refine ⟨"beside", by decide +kernel, ?_⟩
          rw [mem_bar_beside] at hb
          rw [mem_let_beside]
          exact .inr hb
end Wc

/-! all texts with so many characters; free positions. -/
namespace Wc
open PySem PySem.Spec PyProof.Rows L2
def everyF : Nat → Int → List (List Int)
  | 0, _ => []
  | f + 1, T => [T] :: (rngI 1 (T - 1)).flatMap fun s => (everyF f (T - s - 1)).map (s :: ·)
def everyOf (T : Int) : List (List Int) := everyF T.toNat T
theorem everyF_eq : ∀ (f g : Nat) (T : Int), 1 ≤ T → T ≤ f → T ≤ g → everyF f T = everyF g T
  | 0, _, _, h1, h2, _ => by omega
  | _ + 1, 0, _, h1, _, h3 => by omega
  | f + 1, g + 1, T, h1, h2, h3 => by
    rw [everyF, everyF]
    congr 1
    have : ∀ s ∈ rngI 1 (T - 1), (everyF f (T - s - 1)).map (s :: ·) = (everyF g (T - s - 1)).map (s :: ·) := fun s hs => by
      rw [mem_rngI] at hs
      rw [everyF_eq f g (T - s - 1) (by omega) (by omega) (by omega)]
    rw [List.flatMap_def, List.flatMap_def, List.map_congr_left this]
theorem everyOf_eq {T : Int} (h : 1 ≤ T) : everyOf T = [T] :: (rngI 1 (T - 1)).flatMap fun s => (everyOf (T - s - 1)).map (s :: ·) := by
  unfold everyOf
  obtain ⟨k, hk⟩ : ∃ k, T.toNat = k + 1 := ⟨T.toNat - 1, by omega⟩
  rw [hk, everyF]
  congr 1
  have : ∀ s ∈ rngI 1 (T - 1), (everyF k (T - s - 1)).map (s :: ·) = (everyF (T - s - 1).toNat (T - s - 1)).map (s :: ·) := fun s hs => by
    rw [mem_rngI] at hs
    rw [everyF_eq k (T - s - 1).toNat (T - s - 1) (by omega) (by omega) (by omega)]
  rw [List.flatMap_def, List.flatMap_def, List.map_congr_left this]
/-- all texts with T characters, each of them -/
theorem mem_everyF : ∀ (f : Nat) (T : Int) (ws : List Int), 1 ≤ T → T ≤ f → (ws ∈ everyF f T ↔ ws ≠ [] ∧ (∀ w ∈ ws, 1 ≤ w) ∧ total ws = T)
  | 0, _, _, h1, h2 => by omega
  | f + 1, T, ws, h1, h2 => by
    rw [everyF, List.mem_cons, List.mem_flatMap]
    constructor
    · rintro (rfl | ⟨s, hs, hm⟩)
      · exact ⟨by simp, fun w hw => by rw [List.mem_singleton.mp hw]; exact h1, by simp [total]⟩
      · rw [mem_rngI] at hs
        obtain ⟨r, hr, rfl⟩ := List.mem_map.mp hm
        obtain ⟨g1, g2, g3⟩ := (mem_everyF f (T - s - 1) r (by omega) (by omega)).mp hr
        refine ⟨by simp, fun w hw => ?_, ?_⟩
        · rcases List.mem_cons.mp hw with rfl | hw
          · omega
          · exact g2 w hw
        · unfold total at g3 ⊢
          simp only [List.sum_cons, List.length_cons]
          omega
    · rintro ⟨g1, g2, g3⟩
      match ws, g1, g2, g3 with
      | [w], _, _, g3 =>
        left
        simp [total] at g3
        rw [g3]
      | w :: w2 :: r, _, g2, g3 =>
        right
        have hw := g2 w (List.mem_cons_self ..)
        have hr : ∀ x ∈ w2 :: r, 1 ≤ x := fun x hx => g2 x (List.mem_cons_of_mem _ hx)
        have hl := total_nonneg_len (w2 :: r) hr
        have ht : total (w2 :: r) = T - w - 1 := by
          unfold total at g3 ⊢
          simp only [List.sum_cons, List.length_cons] at g3 ⊢
          omega
        have hpos : 1 ≤ total (w2 :: r) := by
          unfold total
          simp only [List.sum_cons, List.length_cons] at hl ⊢
          omega
        refine ⟨w, mem_rngI.mpr (by omega), List.mem_map.mpr ⟨w2 :: r, ?_, rfl⟩⟩
        exact (mem_everyF f (T - w - 1) (w2 :: r) (by omega) (by omega)).mpr ⟨by simp, hr, ht⟩
theorem mem_every {T : Int} {ws : List Int} (h1 : 1 ≤ T) (h2 : T ≤ 600) : ws ∈ everyOf T ↔ Txt' ws ∧ total ws = T := by
  unfold everyOf
  rw [mem_everyF T.toNat T ws h1 (by omega)]
  constructor
  · rintro ⟨a, b, c⟩
    exact ⟨⟨a, b, by omega⟩, c⟩
  · rintro ⟨⟨a, b, _⟩, c⟩
    exact ⟨a, b, c⟩
theorem every_len {T : Int} (h1 : 1 ≤ T) (h2 : T ≤ 12) : (everyOf T).length ≤ 1000 := by
  rcases (by omega : T = 1 ∨ T = 2 ∨ T = 3 ∨ T = 4 ∨ T = 5 ∨ T = 6 ∨ T = 7 ∨ T = 8 ∨ T = 9 ∨ T = 10 ∨ T = 11 ∨ T = 12) with rfl | rfl | rfl | rfl | rfl | rfl | rfl | rfl | rfl | rfl | rfl | rfl <;> decide +kernel
theorem flat_take_len {α β : Type} (f : α → List β) (xs : List α) (i : Nat) : ((xs.take i).flatMap f).length ≤ (xs.flatMap f).length := by
  conv => rhs; rw [← List.take_append_drop i xs]
  rw [List.flatMap_append, List.length_append]
  omega
theorem rngI_get {a b : Int} {i : Nat} (h : i < (b - a).toNat) : (rngI a b)[i]? = some (a + (i : Int)) := by
  unfold rngI
  rw [List.getElem?_map, List.getElem?_range h]
  rfl
/-- lists of ints in a list, none of them one of S -/
def LsS (S : List Addr) (H : Hp) (xs : List V) (wss : List (List Int)) : Prop := xs.length = wss.length ∧ ∀ (i : Nat) x ws, xs[i]? = some x → wss[i]? = some ws → ∃ b, x = .ref b ∧ b ∉ S ∧ IL H b ws
section
variable {S : List Addr} {K : PySem.W.Frag} {H H' : Hp} {xs ys : List V} {wss vss : List (List Int)} {x : V} {b : Addr} {ws : List Int}
theorem LsS.nil : LsS S H [] [] := ⟨rfl, fun i x ws hx _ => by simp at hx⟩
theorem LsS.on (h : LsS S H xs wss) (s : SameS S H H') : LsS S H' xs wss := ⟨h.1, fun i x ws hx hw => by
  obtain ⟨b, e, n, hb⟩ := h.2 i x ws hx hw
  exact ⟨b, e, n, s.il n hb⟩⟩
theorem LsS.same (h : LsS S H xs wss) (s : Same H H') : LsS S H' xs wss := h.on (SameS.of s)
theorem LsS.app (h : LsS S H xs wss) (g : LsS S H ys vss) : LsS S H (xs ++ ys) (wss ++ vss) := by
  refine ⟨by rw [List.length_append, List.length_append, h.1, g.1], fun i x ws hx hw => ?_⟩
  by_cases c : i < xs.length
  · rw [List.getElem?_append_left c] at hx
    rw [List.getElem?_append_left (by rw [← h.1]; exact c)] at hw
    exact h.2 i x ws hx hw
  · rw [List.getElem?_append_right (by omega)] at hx
    rw [List.getElem?_append_right (by rw [← h.1]; omega), ← h.1] at hw
    exact g.2 _ x ws hx hw
theorem LsS.one (n : b ∉ S) (h : IL H b ws) : LsS S H [.ref b] [ws] := ⟨rfl, fun i x w hx hw => by
  cases i with
  | zero =>
    simp at hx hw
    subst hx hw
    exact ⟨b, rfl, n, h⟩
  | succ i => simp at hx⟩
theorem LsS.snoc (h : LsS S H xs wss) (n : b ∉ S) (hb : IL H b ws) : LsS S H (xs ++ [.ref b]) (wss ++ [ws]) := h.app (LsS.one n hb)
theorem LsS.mem {S' : List Addr} (h : LsS S H xs wss) (hm : ∀ b ∈ S', b ∈ S) : LsS S' H xs wss := ⟨h.1, fun i x ws hx hw => by
  obtain ⟨b, e, n, hb⟩ := h.2 i x ws hx hw
  exact ⟨b, e, fun hc => n (hm b hc), hb⟩⟩
theorem LsS.push {a : Addr} (h : LsS S H xs wss) (n : H a = Option.none) : LsS (a :: S) H xs wss := ⟨h.1, fun i x ws hx hw => by
  obtain ⟨b, e, nb, hb⟩ := h.2 i x ws hx hw
  refine ⟨b, e, fun hc => ?_, hb⟩
  rcases List.mem_cons.mp hc with rfl | hc
  · cases hb.symm.trans n
  · exact nb hc⟩
theorem LsS.get {i : Nat} (h : LsS S H xs wss) (hx : xs[i]? = some x) : ∃ b ws, x = .ref b ∧ wss[i]? = some ws ∧ b ∉ S ∧ IL H b ws := by
  have hi := (List.getElem?_eq_some_iff.mp hx).1
  obtain ⟨ws, hw⟩ : ∃ ws, wss[i]? = some ws := ⟨_, List.getElem?_eq_getElem (by rw [← h.1]; exact hi)⟩
  obtain ⟨b, e, n, hb⟩ := h.2 i x ws hx hw
  exact ⟨b, ws, e, hw, n, hb⟩
theorem LsS.dp (h : LsS S H xs wss) : DpAll K H xs (wss.map fun ws => .list (ws.map .int)) := dpAll_of (by rw [h.1, List.length_map]) fun i x d hx hd => by
  obtain ⟨b, ws, rfl, hw, _, hb⟩ := h.get hx
  rw [List.getElem?_map, hw] at hd
  cases hd
  exact dp_ints hb
end
/-- [e for x in xs if t] by places -/
theorem lc_filtX {K : PySem.W.Frag} {a D : Addr} {xs : List V} {j : Nat} {tt : TT} {te : TE} {vs : List Nat} {σ : L2.St} {H1 : Hp} {Qd : Hp → Prop} (c : Nat → Bool) (f : Nat → V) (hz : xs.length ≤ sizeLine) (hS : SqL K H1 a xs) (nD : H1 D = Option.none)
    (hs : ∀ (i : Nat) (x : V) (H' : Hp), xs[i]? = some x → Same H1 H' → Evt tt ((wipe σ vs).set j (some x)) H' (c i) ∧ ∀ H2, Same H' H2 → Evs te ((wipe σ vs).set j (some x)) H2 (f i))
    (hd : ∀ H', Same H1 H' → H' D = some (.lst (((List.range xs.length).filter c).map f)) → Qd H') (hw : ∀ x : V, wipe ((wipe σ vs).set j (some x)) vs = wipe σ vs := by intro x; rfl) :
    ∃ W : Nat → Nat → Hp → Prop, (∃ m, W 0 m (upd H1 D (.lst []))) ∧ ∀ i m H, W i m H →
      ((Itl K a).stop i H ∧ Qd H) ∨ ((Itl K a).go i H ∧ ∃ Nx : Hp → Prop, (∀ H', Nx H' → ∃ m', m' < m ∧ W (i + 1) m' H') ∧ ∀ x H', (Itl K a).yld i H x H' → gName j x (wipe σ vs) H' fun σ2 H2 => wipe σ2 vs = wipe σ vs ∧ tt σ2 H2 fun b H3 =>
        if b = true then te σ2 H3 fun y H4 => ∃ acc, H4 D = some (.lst acc) ∧ acc.length < sizeLine ∧ Nx (upd H4 D (.lst (acc ++ [y]))) else Nx H3) := by
  refine lc_list (xs := xs) (fun i H => Same H1 H ∧ H D = some (.lst (((List.range i).filter c).map f))) ⟨same_new nD, upd_same⟩ (fun i H _ hp => hp.1.seq hS) ?_ ?_
  · rintro i x H hx ⟨sm, eD⟩
    have hi : i < xs.length := (List.getElem?_eq_some_iff.mp hx).1
    obtain ⟨hk, hf⟩ := hs i x H hx sm
    refine ⟨hw x, hk _ fun H3 s3 => ?_⟩
    cases e : c i with
    | false =>
      refine iteF ⟨sm.trans s3, ?_⟩
      rw [s3 _ _ eD, List.range_succ, List.filter_append]
      simp [e]
    | true =>
      refine iteT (hf H3 s3 _ fun H4 s4 => ⟨_, s4 _ _ (s3 _ _ eD), ?_, ?_, ?_⟩)
      · rw [List.length_map]
        have := List.length_filter_le c (List.range i)
        rw [List.length_range] at this
        omega
      · exact same_mut ((sm.trans s3).trans s4) nD
      · rw [upd_same, List.range_succ, List.filter_append, List.map_append]
        simp [e]
  · rintro H ⟨sm, eD⟩
    exact hd H sm eD
/-- a free position is a space of some fitting text and none of another one -/
theorem free_both {n : Int} {ss : List Scr} (h : Scrs n ss) (hc : NoClash ss) {x : Int} (x1 : 1 ≤ x) (xn : x < n) (hs : signAt ss x = "?") : (∃ ws, Txt' ws ∧ total ws = n ∧ fitsOf n ss ws = true ∧ x ∈ endsOf ws) ∧ ∃ ws, Txt' ws ∧ total ws = n ∧ fitsOf n ss ws = true ∧ x ∉ endsOf ws := by
  classical
  obtain ⟨n1, n2⟩ := h.len
  have u3 : ¬ (("?" : Str) = "_") := by decide +kernel
  have u4 : ¬ (("?" : Str) = "x") := by decide +kernel
  have u1 : ¬ (("_" : Str) = "x") := by decide +kernel
  have hx : ¬ IsEnd (numL ss) x ∧ ¬ IsLet (numL ss) x := by
    rcases sign_cases h hc x with ⟨_, _, c⟩ | ⟨_, _, c⟩ | ⟨a, b, _⟩
    · rw [hs] at c
      exact (u3 c).elim
    · rw [hs] at c
      exact (u4 c).elim
    · exact ⟨a, b⟩
  have hgap : ∀ u ∈ numL ss, u.2.2.e ≠ x + 1 ∧ x ≠ u.2.2.e + 1 := fun u hu => by
    refine ⟨fun e => hx.2 (.inr ⟨u, hu, "beside", by decide +kernel, ?_⟩), fun e => hx.2 (.inr ⟨u, hu, "beside", by decide +kernel, ?_⟩)⟩
    · rw [mem_let_beside]
      exact .inl (by omega)
    · rw [mem_let_beside]
      exact .inr e
  have hall : ∀ t ∈ numL ss, ∀ u ∈ numL ss, u.2.2.e ≠ t.2.2.e + 1 := fun t ht u hu e => by
    have := hc t ht "beside" (by decide +kernel) u hu
    rw [mem_bar_beside] at this
    exact this e
  obtain ⟨tn, htn, en⟩ := some_last h
  -- the text with the breaks, and with x or without it
  have mk : ∀ b : Bool, ∃ ws, Txt' ws ∧ total ws = n ∧ fitsOf n ss ws = true ∧ (x ∈ endsOf ws ↔ b = true) := by
    intro b
    have hap : Apart n (fun y => decide (IsEnd (numL ss) y ∨ (b = true ∧ y = x))) := by
      refine ⟨fun y _ hy h3 => ?_, fun _ => decide_eq_false ?_⟩
      · have h3 := of_decide_eq_true h3
        refine decide_eq_false ?_
        rcases h3 with ⟨t, ht, e⟩ | ⟨_, e⟩
        · rintro (⟨u, hu, e2⟩ | ⟨_, e2⟩)
          · exact hall t ht u hu (by omega)
          · exact (hgap t ht).2 (by omega)
        · rintro (⟨u, hu, e2⟩ | ⟨_, e2⟩)
          · exact (hgap u hu).1 (by omega)
          · omega
      · rintro (⟨t, ht, e⟩ | ⟨_, e⟩)
        · exact hall t ht tn htn (by omega)
        · exact (hgap tn htn).1 (by omega)
    obtain ⟨t1, t2, t3⟩ := txt_of_spaces n1 n2 hap
    refine ⟨_, t1, t3, (fits_pat h hc t1 t3).mpr fun y y1 yn => ?_, ?_⟩
    · rw [t2]
      refine ⟨fun hsg => mem_stopsOf.mpr (.inl ⟨y1, yn, decide_eq_true (.inl ?_)⟩), fun hsg hm => ?_⟩
      · rcases sign_cases h hc y with ⟨a, _, _⟩ | ⟨_, _, c⟩ | ⟨_, _, c⟩
        · exact a
        · rw [c] at hsg
          exact (u1 hsg.symm).elim
        · rw [c] at hsg
          exact (u3 hsg).elim
      · rcases mem_stopsOf.mp hm with ⟨_, _, h3⟩ | e
        · rcases of_decide_eq_true h3 with h3 | ⟨_, rfl⟩
          · rcases sign_cases h hc y with ⟨_, _, c⟩ | ⟨a, _, _⟩ | ⟨a, _, _⟩
            · rw [c] at hsg
              exact u1 hsg
            · exact a h3
            · exact a h3
          · rw [hs] at hsg
            exact u4 hsg
        · omega
    · rw [t2, mem_stopsOf]
      constructor
      · rintro (⟨_, _, h3⟩ | e)
        · rcases of_decide_eq_true h3 with h3 | ⟨hb, _⟩
          · exact (hx.1 h3).elim
          · exact hb
        · omega
      · exact fun hb => .inl ⟨x1, xn, decide_eq_true (.inr ⟨hb, rfl⟩)⟩
  obtain ⟨ws, a1, a2, a3, a4⟩ := mk true
  obtain ⟨us, b1, b2, b3, b4⟩ := mk false
  exact ⟨⟨ws, a1, a2, a3, a4.mpr rfl⟩, us, b1, b2, b3, fun hm => by cases b4.mp hm⟩
end Wc

/-! the pattern as a string; signs by counting texts. -/
namespace Wc
open PySem PySem.Spec PyProof.Rows L2
def unitS (c : Nat) : Str := ⟨#[c]⟩
theorem str_ext {a b : Str} (h : a.cps.toList = b.cps.toList) : a = b := by
  obtain ⟨⟨x⟩⟩ := a
  obtain ⟨⟨y⟩⟩ := b
  have : x = y := h
  rw [this]
theorem join_units (cs : List Nat) : (Txt.join ("" : Str) (cs.map unitS)).cps.toList = cs := by
  have key : ∀ (r : List Nat) (acc : Array Nat), ((r.map unitS).foldl (fun acc p => acc ++ ("" : Str).cps ++ p.cps) acc).toList = acc.toList ++ r := by
    intro r
    induction r with
    | nil => intro acc; simp
    | cons c r ih =>
      intro acc
      rw [List.map_cons, List.foldl_cons, ih]
      have : ("" : Str).cps = #[] := rfl
      rw [this]
      simp [unitS]
  cases cs with
  | nil => rfl
  | cons c r =>
    show (((r.map unitS).foldl (fun acc p => acc ++ ("" : Str).cps ++ p.cps) (unitS c).cps)).toList = _
    rw [key]
    rfl
def signC (ss : List Scr) (x : Int) : Nat := match reasOf (numL ss) x with
  | none => 63
  | some r => if r.1 = "break" then 95 else 120
theorem signC_unit (ss : List Scr) (x : Int) : signAt ss x = unitS (signC ss x) := by
  unfold signAt sgnS signC
  cases reasOf (numL ss) x with
  | none => rfl
  | some r =>
    dsimp only
    by_cases c : r.1 = "break"
    · rw [if_pos c, if_pos c]
      rfl
    · rw [if_neg c, if_neg c]
      rfl
def patC (n : Int) (ss : List Scr) : List Nat := (rngI 0 n).map (signC ss)
theorem patS_cps (n : Int) (ss : List Scr) : (patS n ss).cps.toList = patC n ss := by
  unfold patS patL patC
  have : (rngI 0 n).map (signAt ss) = ((rngI 0 n).map (signC ss)).map unitS := by
    rw [List.map_map]
    exact List.map_congr_left fun x _ => signC_unit ss x
  rw [this, join_units]
theorem patC_len (n : Int) (ss : List Scr) : (patC n ss).length = n.toNat := by
  unfold patC
  rw [List.length_map, rngI_len]
  omega
theorem patC_get {n : Int} {ss : List Scr} {i : Nat} (h : (i : Int) < n) : (patC n ss)[i]? = some (signC ss (i : Int)) := by
  unfold patC
  rw [List.getElem?_map, rngI_get (by omega)]
  show some (signC ss (0 + (i : Int))) = _
  congr 2
  omega
theorem signC_small (ss : List Scr) (x : Int) : signC ss x < 1000 := by
  unfold signC
  split
  · decide
  · split <;> decide
theorem patS_len (n : Int) (ss : List Scr) : (patS n ss).length = n.toNat := by
  show (patS n ss).cps.size = _
  rw [← Array.length_toList, patS_cps, patC_len]
theorem Nc.str {x : Str} {L : Nat} (h1 : x.length ≤ L) (h2 : ∀ c ∈ x.cps.toList, c < 1000) : Nc (12 * L + 2) 0 (.str x) := by
  refine ⟨?_, ?_, by simp [PyData.depth], ?_⟩
  · simp only [okD, List.all_eq_true]
    exact fun c hc => decide_eq_true (Nat.lt_of_lt_of_le (h2 c hc) (by decide))
  · simp only [Wc.wt]
    omega
  · simp only [PyData.canLay0, PyData.strOk]
    rw [← Array.all_toList, List.all_eq_true]
    exact fun c hc => decide_eq_true (Nat.lt_of_lt_of_le (h2 c hc) (by decide))
theorem nc_pat {n : Int} {ss : List Scr} (hn : n ≤ 600) : Nc 7202 0 (.str (patS n ss)) := by
  refine (Nc.str (L := 600) (by rw [patS_len]; omega) fun c hc => ?_).mono (by decide) (Nat.le_refl _)
  rw [patS_cps] at hc
  unfold patC at hc
  obtain ⟨x, _, rfl⟩ := List.mem_map.mp hc
  exact signC_small ss x
/-- the sign of a position, by the texts that fit -/
theorem sign_count {n : Int} {ss : List Scr} {L : List (List Int)} (h : Scrs n ss) (hc : NoClash ss) (hL : ∀ ws, ws ∈ L ↔ Txt' ws ∧ total ws = n ∧ fitsOf n ss ws = true) {x : Int} (x0 : 0 ≤ x) (xn : x < n) :
    signAt ss x = if (L.filter fun ws => decide (x ∈ (endsOf ws).dropLast)).length = 0 then "x" else if (L.filter fun ws => decide (x ∈ (endsOf ws).dropLast)).length = L.length then "_" else "?" := by
  have hmem : ∀ ws ∈ L, (x ∈ (endsOf ws).dropLast ↔ x ∈ endsOf ws) := by
    intro ws hw
    obtain ⟨h1, h2, _⟩ := (hL ws).mp hw
    refine ⟨fun hx => List.dropLast_subset _ hx, fun hx => ?_⟩
    have hl := endsOf_last h1.1
    obtain ⟨r, hr⟩ := List.getLast?_eq_some_iff.mp hl
    rw [hr] at hx ⊢
    rw [List.dropLast_concat]
    rcases List.mem_append.mp hx with hx | hx
    · exact hx
    · have := List.mem_singleton.mp hx
      omega
  obtain ⟨w0, a1, a2, a3⟩ := noClash_fits h hc
  have hw0 := (hL w0).mpr ⟨a1, a2, a3⟩
  have hpos := List.length_pos_of_mem hw0
  have hzero : (L.filter fun ws => decide (x ∈ (endsOf ws).dropLast)).length = 0 ↔ ∀ ws ∈ L, x ∉ endsOf ws := by
    rw [List.length_eq_zero_iff, List.filter_eq_nil_iff]
    constructor
    · intro hh ws hw hx
      exact hh ws hw (decide_eq_true ((hmem ws hw).mpr hx))
    · intro hh ws hw hd
      exact hh ws hw ((hmem ws hw).mp (of_decide_eq_true hd))
  have hfull : (L.filter fun ws => decide (x ∈ (endsOf ws).dropLast)).length = L.length ↔ ∀ ws ∈ L, x ∈ endsOf ws := by
    rw [List.length_filter_eq_length_iff]
    constructor
    · intro hh ws hw
      exact (hmem ws hw).mp (of_decide_eq_true (hh ws hw))
    · intro hh ws hw
      exact decide_eq_true ((hmem ws hw).mpr (hh ws hw))
  have u1 : ¬ (("_" : Str) = "x") := by decide +kernel
  have u3 : ¬ (("?" : Str) = "_") := by decide +kernel
  have u4 : ¬ (("?" : Str) = "x") := by decide +kernel
  by_cases x1 : 1 ≤ x
  · rcases sign_cases h hc x with ⟨_, _, c⟩ | ⟨_, _, c⟩ | ⟨_, _, c⟩
    · have hall : ∀ ws ∈ L, x ∈ endsOf ws := fun ws hw => by
        obtain ⟨h1, h2, h3⟩ := (hL ws).mp hw
        exact ((fits_pat h hc h1 h2).mp h3 x x1 xn).1 c
      rw [c, if_neg (fun e => hzero.mp e w0 hw0 (hall w0 hw0)), if_pos (hfull.mpr hall)]
    · have hall : ∀ ws ∈ L, x ∉ endsOf ws := fun ws hw => by
        obtain ⟨h1, h2, h3⟩ := (hL ws).mp hw
        exact ((fits_pat h hc h1 h2).mp h3 x x1 xn).2 c
      rw [c, if_pos (hzero.mpr hall)]
    · obtain ⟨⟨ws, b1, b2, b3, b4⟩, us, d1, d2, d3, d4⟩ := free_both h hc x1 xn c
      rw [c, if_neg (fun e => hzero.mp e ws ((hL ws).mpr ⟨b1, b2, b3⟩) b4), if_neg (fun e => d4 (hfull.mp e us ((hL us).mpr ⟨d1, d2, d3⟩)))]
  · have e0 : x = 0 := by omega
    have hall : ∀ ws ∈ L, x ∉ endsOf ws := fun ws hw hx => by
      obtain ⟨h1, _⟩ := (hL ws).mp hw
      have := (ends_max h1 x hx).1
      omega
    rw [if_pos (hzero.mpr hall)]
    rcases sign_cases h hc x with ⟨_, b, _⟩ | ⟨_, _, c⟩ | ⟨_, b, _⟩
    · exact (b (.inl e0)).elim
    · exact c
    · exact (b (.inl e0)).elim
/-- filtered by places, as many as filtered -/
theorem range_filter_len {α : Type} (c : α → Bool) (xs : List α) : ((List.range xs.length).filter fun i => match xs[i]? with
    | some x => c x
    | none => false).length = (xs.filter c).length := by
  refine snoc_induct (P := fun xs => ((List.range xs.length).filter fun i => match xs[i]? with
    | some x => c x
    | none => false).length = (xs.filter c).length) rfl ?_ xs
  intro xs x ih
  rw [List.length_append, List.length_singleton, List.range_succ, List.filter_append, List.filter_append, List.length_append, List.length_append, ← ih]
  congr 1
  · congr 1
    refine List.filter_congr fun i hi => ?_
    rw [List.getElem?_append_left (List.mem_range.mp hi)]
  · rw [List.filter_cons, List.filter_cons, List.getElem?_append_right (Nat.le_refl _)]
    simp only [Nat.sub_self, List.getElem?_cons_zero, List.filter_nil]
    split <;> rfl
end Wc

/-! numbers of texts: ways, the walk by a number, the rank of a text. -/
namespace Wc
open PySem PySem.Spec PyProof.Rows L2
def waysP : List Nat → Nat × Nat
  | [] => (1, 1)
  | c :: cs => ((waysP cs).1 + (if c = 63 then (waysP cs).2 else 0), (waysP cs).1)
def ways (cs : List Nat) : Nat := (waysP cs).1
theorem ways_drop (cs : List Nat) : (waysP cs).2 = ways (cs.drop 1) := by
  cases cs <;> rfl
theorem ways_nil : ways [] = 1 := rfl
theorem ways_cons (c : Nat) (cs : List Nat) : ways (c :: cs) = ways cs + (if c = 63 then ways (cs.drop 1) else 0) := by
  show (waysP cs).1 + (if c = 63 then (waysP cs).2 else 0) = _
  rw [ways_drop]
  rfl
theorem ways_pos : ∀ cs : List Nat, 1 ≤ ways cs
  | [] => Nat.le_refl _
  | c :: cs => by
    rw [ways_cons]
    have := ways_pos cs
    omega
theorem ways_dropLe (cs : List Nat) : ways (cs.drop 1) ≤ ways cs := by
  cases cs with
  | nil => exact Nat.le_refl _
  | cons c cs =>
    rw [ways_cons]
    show ways cs ≤ _
    omega
theorem ways_le : ∀ cs : List Nat, ways cs ≤ 2 ^ cs.length
  | [] => Nat.le_refl _
  | c :: cs => by
    rw [ways_cons, List.length_cons, Nat.pow_succ]
    have h1 := ways_le cs
    have h2 := ways_dropLe cs
    split <;> omega
/-- a pattern whose spaces stand free -/
def PatOk : List Nat → Prop
  | [] => True
  | c :: cs => (c = 63 ∨ c = 95 ∨ c = 120) ∧ (c = 63 → ∃ d r, cs = d :: r ∧ d ≠ 95) ∧ (c = 95 → ∃ r, cs = 120 :: r) ∧ PatOk cs
def walkC : Bool → List Nat → Int → Nat → List Int
  | _, [], _, _ => []
  | true, _ :: cs, i, k => walkC false cs (i + 1) k
  | false, c :: cs, i, k => if c = 63 ∧ ways (cs.drop 1) ≤ k then walkC false cs (i + 1) (k - ways (cs.drop 1)) else if c = 63 ∨ c = 95 then i :: walkC true cs (i + 1) k else walkC false cs (i + 1) k
/-- spaces that a pattern allows -/
def VS : Bool → List Nat → Int → List Int → Prop
  | _, [], _, S => S = []
  | true, c :: cs, i, S => c ≠ 95 ∧ VS false cs (i + 1) S
  | false, c :: cs, i, S => ((c = 63 ∨ c = 95) ∧ ∃ S', S = i :: S' ∧ VS true cs (i + 1) S') ∨ (c ≠ 95 ∧ VS false cs (i + 1) S)
def rankS : Bool → List Nat → Int → List Int → Nat
  | _, [], _, _ => 0
  | true, _ :: cs, i, S => rankS false cs (i + 1) S
  | false, c :: cs, i, S => if S.head? = some i then rankS true cs (i + 1) S.tail else (if c = 63 then ways (cs.drop 1) else 0) + rankS false cs (i + 1) S
def wayB : Bool → List Nat → Nat
  | true, cs => ways (cs.drop 1)
  | false, cs => ways cs
/-- behind a space -/
def AfterB : Bool → List Nat → Prop
  | true, cs => ∃ d r, cs = d :: r ∧ d ≠ 95
  | false, _ => True
theorem vs_lo : ∀ {b : Bool} {cs : List Nat} {i : Int} {S : List Int}, VS b cs i S → ∀ x ∈ S, i + (if b = true then 1 else 0) ≤ x ∧ x < i + cs.length
  | b, [], i, S, h, x, hx => by
    unfold VS at h
    rw [h] at hx
    cases hx
  | true, c :: cs, i, S, h, x, hx => by
    obtain ⟨_, h⟩ := h
    have := vs_lo h x hx
    rw [List.length_cons]
    simp at this ⊢
    omega
  | false, c :: cs, i, S, h, x, hx => by
    rw [List.length_cons]
    rcases h with ⟨_, S', rfl, h⟩ | ⟨_, h⟩
    · rcases List.mem_cons.mp hx with rfl | hx
      · simp
        omega
      · have := vs_lo h x hx
        simp at this ⊢
        omega
    · have := vs_lo h x hx
      simp at this ⊢
      omega
theorem walk_vs : ∀ {b : Bool} {cs : List Nat} (i : Int) {k : Nat}, PatOk cs → AfterB b cs → k < wayB b cs → VS b cs i (walkC b cs i k)
  | b, [], i, k, _, _, _ => by unfold VS walkC; rfl
  | true, c :: cs, i, k, ⟨_, _, _, h⟩, ⟨d, r, e, hd⟩, hk => by
    obtain ⟨rfl, rfl⟩ := List.cons.inj e
    exact ⟨hd, walk_vs (b := false) (i + 1) h trivial hk⟩
  | false, c :: cs, i, k, ⟨h0, h1, h2, h⟩, _, hk => by
    have hk : k < ways (c :: cs) := hk
    rw [ways_cons] at hk
    unfold walkC
    by_cases c1 : c = 63 ∧ ways (cs.drop 1) ≤ k
    · rw [if_pos c1]
      refine .inr ⟨by omega, walk_vs (b := false) (i + 1) h trivial ?_⟩
      rw [if_pos c1.1] at hk
      show _ < ways cs
      omega
    · rw [if_neg c1]
      by_cases c2 : c = 63 ∨ c = 95
      · rw [if_pos c2]
        refine .inl ⟨c2, _, rfl, walk_vs (b := true) (i + 1) h ?_ ?_⟩
        · rcases c2 with c2 | c2
          · exact h1 c2
          · obtain ⟨r, e⟩ := h2 c2
            exact ⟨_, r, e, by decide⟩
        · show k < ways (cs.drop 1)
          rcases c2 with c2 | c2
          · have : ¬ ways (cs.drop 1) ≤ k := fun h => c1 ⟨c2, h⟩
            omega
          · obtain ⟨r, rfl⟩ := h2 c2
            rw [if_neg (by omega), ways_cons, if_neg (by decide)] at hk
            exact hk
      · rw [if_neg c2]
        refine .inr ⟨by omega, walk_vs (b := false) (i + 1) h trivial ?_⟩
        rw [if_neg (by omega)] at hk
        exact hk
theorem walk_head {cs : List Nat} {i : Int} {k : Nat} (h : PatOk cs) (hk : k < ways cs) : ∀ x ∈ walkC false cs (i + 1) k, i < x := fun x hx => by
  have := (vs_lo (walk_vs (b := false) (i + 1) h trivial hk) x hx).1
  simp at this
  omega
theorem head_ne {S : List Int} {i : Int} (h : ∀ x ∈ S, i < x) : ¬ S.head? = some i := fun e => by
  have := h i (List.mem_of_mem_head? e)
  omega
theorem rank_walk : ∀ {b : Bool} {cs : List Nat} (i : Int) {k : Nat}, PatOk cs → AfterB b cs → k < wayB b cs → rankS b cs i (walkC b cs i k) = k
  | true, [], i, k, _, ⟨d, r, e, _⟩, _ => by cases e
  | false, [], i, k, _, _, hk => by
    have hk : k < 1 := hk
    show 0 = k
    omega
  | true, c :: cs, i, k, ⟨_, _, _, h⟩, ⟨d, r, e, hd⟩, hk => by
    obtain ⟨rfl, rfl⟩ := List.cons.inj e
    exact rank_walk (b := false) (i + 1) h trivial hk
  | false, c :: cs, i, k, ⟨h0, h1, h2, h⟩, _, hk => by
    have hk : k < ways (c :: cs) := hk
    rw [ways_cons] at hk
    unfold walkC
    by_cases c1 : c = 63 ∧ ways (cs.drop 1) ≤ k
    · rw [if_pos c1]
      rw [if_pos c1.1] at hk
      have hk' : k - ways (cs.drop 1) < ways cs := by omega
      unfold rankS
      rw [if_neg (head_ne (walk_head h hk')), if_pos c1.1, rank_walk (b := false) (i + 1) h trivial hk']
      omega
    · rw [if_neg c1]
      by_cases c2 : c = 63 ∨ c = 95
      · rw [if_pos c2]
        unfold rankS
        rw [if_pos List.head?_cons]
        refine rank_walk (b := true) (i + 1) h ?_ ?_
        · rcases c2 with c2 | c2
          · exact h1 c2
          · obtain ⟨r, e⟩ := h2 c2
            exact ⟨_, r, e, by decide⟩
        · show k < ways (cs.drop 1)
          rcases c2 with c2 | c2
          · have : ¬ ways (cs.drop 1) ≤ k := fun h => c1 ⟨c2, h⟩
            omega
          · obtain ⟨r, rfl⟩ := h2 c2
            rw [if_neg (by omega), ways_cons, if_neg (by decide)] at hk
            exact hk
      · rw [if_neg c2]
        rw [if_neg (by omega)] at hk
        have hk' : k < ways cs := hk
        unfold rankS
        rw [if_neg (head_ne (walk_head h hk')), if_neg (by omega), rank_walk (b := false) (i + 1) h trivial hk']
        omega
theorem walk_rank : ∀ {b : Bool} {cs : List Nat} {i : Int} {S : List Int}, PatOk cs → AfterB b cs → VS b cs i S → rankS b cs i S < wayB b cs ∧ walkC b cs i (rankS b cs i S) = S
  | true, [], i, S, _, ⟨d, r, e, _⟩, _ => by cases e
  | false, [], i, S, _, _, hv => ⟨Nat.one_pos, by unfold VS at hv; rw [hv]; rfl⟩
  | true, c :: cs, i, S, ⟨_, _, _, h⟩, ⟨d, r, e, hd⟩, hv => by
    obtain ⟨rfl, rfl⟩ := List.cons.inj e
    exact walk_rank (b := false) h trivial hv.2
  | false, c :: cs, i, S, ⟨h0, h1, h2, h⟩, _, hv => by
    show rankS false (c :: cs) i S < ways (c :: cs) ∧ _
    rw [ways_cons]
    rcases hv with ⟨c2, S', rfl, hv⟩ | ⟨c2, hv⟩
    · have ha : AfterB true cs := by
        rcases c2 with c2 | c2
        · exact h1 c2
        · obtain ⟨r, e⟩ := h2 c2
          exact ⟨_, r, e, by decide⟩
      obtain ⟨a1, a2⟩ := walk_rank h ha hv
      have a1 : rankS true cs (i + 1) S' < ways (cs.drop 1) := a1
      have er : rankS false (c :: cs) i (i :: S') = rankS true cs (i + 1) S' := by
        rw [rankS.eq_def]
        dsimp only
        rw [if_pos List.head?_cons]
        rfl
      rw [er]
      refine ⟨?_, ?_⟩
      · have := ways_dropLe cs
        omega
      · unfold walkC
        rw [if_neg (by omega), if_pos c2, a2]
    · obtain ⟨a1, a2⟩ := walk_rank (b := false) h trivial hv
      have a1 : rankS false cs (i + 1) S < ways cs := a1
      have hh : ¬ S.head? = some i := head_ne fun x hx => by
        have := (vs_lo hv x hx).1
        simp at this
        omega
      have er : rankS false (c :: cs) i S = (if c = 63 then ways (cs.drop 1) else 0) + rankS false cs (i + 1) S := by
        rw [rankS.eq_def]
        dsimp only
        rw [if_neg hh]
      rw [er]
      by_cases c3 : c = 63
      · rw [if_pos c3]
        refine ⟨by omega, ?_⟩
        unfold walkC
        rw [if_pos ⟨c3, by omega⟩, Nat.add_sub_cancel_left, a2]
      · rw [if_neg c3, Nat.zero_add]
        refine ⟨by omega, ?_⟩
        unfold walkC
        rw [if_neg (fun h => c3 h.1), if_neg (by omega), a2]
end Wc

/-! the texts that fit are the walks through the pattern. -/
namespace Wc
open PySem PySem.Spec PyProof.Rows L2
theorem vs_of : ∀ {b : Bool} {cs : List Nat} {i : Int} {S : List Int}, S.Pairwise (fun a b => a + 1 < b) → (∀ x ∈ S, i + (if b = true then 1 else 0) ≤ x ∧ x < i + cs.length) → (∀ (j : Nat) c, cs[j]? = some c → (c = 63 ∨ c = 95 ∨ c = 120) ∧ (c = 95 → i + j ∈ S) ∧ (c = 120 → i + j ∉ S)) → VS b cs i S
  | b, [], i, S, _, hb, _ => by
    unfold VS
    cases S with
    | nil => rfl
    | cons x S =>
      have := hb x (List.mem_cons_self ..)
      simp only [List.length_nil] at this
      split at this <;> omega
  | true, c :: cs, i, S, hp, hb, hs => by
    have h0 := hs 0 c rfl
    refine ⟨fun e => ?_, vs_of hp (fun x hx => ?_) (fun j d hd => ?_)⟩
    · have := hb _ (h0.2.1 e)
      simp at this
      omega
    · have := hb x hx
      rw [List.length_cons] at this
      simp at this ⊢
      omega
    · have := hs (j + 1) d hd
      rw [show i + ((j + 1 : Nat) : Int) = i + 1 + (j : Int) by omega] at this
      exact this
  | false, c :: cs, i, S, hp, hb, hs => by
    have h0 := hs 0 c rfl
    by_cases hi : i ∈ S
    · cases S with
      | nil => cases hi
      | cons x S' =>
        rw [List.pairwise_cons] at hp
        have hx : x = i := by
          rcases List.mem_cons.mp hi with e | e
          · exact e.symm
          · have h1 := hp.1 i e
            have h2 := hb x (List.mem_cons_self ..)
            simp at h2
            omega
        subst hx
        refine .inl ⟨?_, S', rfl, vs_of hp.2 (fun y hy => ?_) (fun j d hd => ?_)⟩
        · rcases h0.1 with h | h | h
          · exact .inl h
          · exact .inr h
          · exact (h0.2.2 h (by simp)).elim
        · have h1 := hp.1 y hy
          have h2 := hb y (List.mem_cons_of_mem _ hy)
          rw [List.length_cons] at h2
          simp at h2 ⊢
          omega
        · have := hs (j + 1) d hd
          rw [show x + ((j + 1 : Nat) : Int) = x + 1 + (j : Int) by omega] at this
          refine ⟨this.1, fun e => ?_, fun e h => this.2.2 e (List.mem_cons_of_mem _ h)⟩
          rcases List.mem_cons.mp (this.2.1 e) with h | h
          · omega
          · exact h
    · refine .inr ⟨fun e => hi (by have := h0.2.1 e; simpa using this), vs_of hp (fun x hx => ?_) (fun j d hd => ?_)⟩
      · have := hb x hx
        have hne : x ≠ i := fun e => hi (e ▸ hx)
        rw [List.length_cons] at this
        simp at this ⊢
        omega
      · have := hs (j + 1) d hd
        rw [show i + ((j + 1 : Nat) : Int) = i + 1 + (j : Int) by omega] at this
        exact this
theorem vs_pair : ∀ {b : Bool} {cs : List Nat} {i : Int} {S : List Int}, VS b cs i S → S.Pairwise (fun a b => a + 1 < b)
  | b, [], i, S, h => by
    unfold VS at h
    rw [h]
    exact List.Pairwise.nil
  | true, c :: cs, i, S, h => vs_pair h.2
  | false, c :: cs, i, S, h => by
    rcases h with ⟨_, S', rfl, h⟩ | ⟨_, h⟩
    · refine List.pairwise_cons.mpr ⟨fun y hy => ?_, vs_pair h⟩
      have := (vs_lo h y hy).1
      simp at this
      omega
    · exact vs_pair h
theorem vs_signs : ∀ {b : Bool} {cs : List Nat} {i : Int} {S : List Int}, VS b cs i S → ∀ (j : Nat) c, cs[j]? = some c → (c = 95 → i + j ∈ S) ∧ (c = 120 → i + j ∉ S)
  | b, [], i, S, _, j, c, hj => by cases hj
  | true, d :: cs, i, S, h, j, c, hj => by
    cases j with
    | zero =>
      have e := Option.some.inj hj
      subst e
      refine ⟨fun e => (h.1 e).elim, fun _ hm => ?_⟩
      have := (vs_lo h.2 _ hm).1
      simp at this
      omega
    | succ j =>
      have := vs_signs h.2 j c hj
      rw [show i + ((j + 1 : Nat) : Int) = i + 1 + (j : Int) by omega]
      exact this
  | false, d :: cs, i, S, h, j, c, hj => by
    rcases h with ⟨hd, S', rfl, h⟩ | ⟨hd, h⟩
    · cases j with
      | zero =>
        have e := Option.some.inj hj
        subst e
        refine ⟨fun _ => by simp, fun e => by omega⟩
      | succ j =>
        have := vs_signs h j c hj
        rw [show i + ((j + 1 : Nat) : Int) = i + 1 + (j : Int) by omega]
        refine ⟨fun e => List.mem_cons_of_mem _ (this.1 e), fun e hm => ?_⟩
        rcases List.mem_cons.mp hm with hm | hm
        · omega
        · exact this.2 e hm
    · cases j with
      | zero =>
        have e := Option.some.inj hj
        subst e
        refine ⟨fun e => (hd e).elim, fun _ hm => ?_⟩
        have := (vs_lo h _ hm).1
        simp at this
        omega
      | succ j =>
        have := vs_signs h j c hj
        rw [show i + ((j + 1 : Nat) : Int) = i + 1 + (j : Int) by omega]
        exact this
theorem patOk_of : ∀ {p : List Nat}, (∀ (i : Nat) c, p[i]? = some c → (c = 63 ∨ c = 95 ∨ c = 120) ∧ (c = 63 → ∃ d, p[i + 1]? = some d ∧ d ≠ 95) ∧ (c = 95 → p[i + 1]? = some 120)) → PatOk p
  | [], _ => trivial
  | c :: cs, h => by
    obtain ⟨h0, h1, h2⟩ := h 0 c rfl
    refine ⟨h0, fun e => ?_, fun e => ?_, patOk_of fun i c hc => h (i + 1) c hc⟩
    · obtain ⟨d, e1, e2⟩ := h1 e
      cases cs with
      | nil => cases e1
      | cons x r =>
        have : x = d := Option.some.inj e1
        exact ⟨x, r, rfl, this ▸ e2⟩
    · have e1 := h2 e
      cases cs with
      | nil => cases e1
      | cons x r =>
        have : x = 120 := Option.some.inj e1
        exact ⟨r, this ▸ rfl⟩
theorem unitS_inj {a b : Nat} (h : unitS a = unitS b) : a = b := by
  have := congrArg (fun s : Str => s.cps.toList) h
  simpa [unitS] using this
theorem signC_cases {n : Int} {ss : List Scr} (h : Scrs n ss) (hc : NoClash ss) (x : Int) : (IsEnd (numL ss) x ∧ ¬ IsLet (numL ss) x ∧ signC ss x = 95) ∨ (¬ IsEnd (numL ss) x ∧ IsLet (numL ss) x ∧ signC ss x = 120) ∨ (¬ IsEnd (numL ss) x ∧ ¬ IsLet (numL ss) x ∧ signC ss x = 63) := by
  have e := signC_unit ss x
  rcases sign_cases h hc x with ⟨a, b, c⟩ | ⟨a, b, c⟩ | ⟨a, b, c⟩
  · exact .inl ⟨a, b, unitS_inj (by rw [← e, c]; rfl)⟩
  · exact .inr (.inl ⟨a, b, unitS_inj (by rw [← e, c]; rfl)⟩)
  · exact .inr (.inr ⟨a, b, unitS_inj (by rw [← e, c]; rfl)⟩)
theorem sign_of_C {ss : List Scr} {x : Int} : (signAt ss x = "_" ↔ signC ss x = 95) ∧ (signAt ss x = "x" ↔ signC ss x = 120) ∧ (signAt ss x = "?" ↔ signC ss x = 63) := by
  rw [signC_unit]
  exact ⟨⟨fun h => unitS_inj (h.trans (rfl : _ = unitS 95)), fun h => by rw [h]; rfl⟩, ⟨fun h => unitS_inj (h.trans (rfl : _ = unitS 120)), fun h => by rw [h]; rfl⟩, ⟨fun h => unitS_inj (h.trans (rfl : _ = unitS 63)), fun h => by rw [h]; rfl⟩⟩
theorem let_beside {ns : List Nm} {x : Int} (h : IsEnd ns (x + 1) ∨ IsEnd ns (x - 1)) : IsLet ns x := by
  rcases h with ⟨t, ht, e⟩ | ⟨t, ht, e⟩
  · exact .inr ⟨t, ht, "beside", by decide +kernel, mem_let_beside.mpr (.inl (by omega))⟩
  · exact .inr ⟨t, ht, "beside", by decide +kernel, mem_let_beside.mpr (.inr (by omega))⟩
/-- the edges are letters -/
theorem sign_edges {n : Int} {ss : List Scr} (h : Scrs n ss) (hc : NoClash ss) : signC ss 0 = 120 ∧ signC ss (n - 1) = 120 := by
  refine ⟨?_, ?_⟩
  · rcases signC_cases h hc 0 with ⟨_, b, _⟩ | ⟨_, _, c⟩ | ⟨_, b, _⟩
    · exact (b (.inl rfl)).elim
    · exact c
    · exact (b (.inl rfl)).elim
  · have hl : IsLet (numL ss) (n - 1) := let_beside (.inl (by rw [Int.sub_add_cancel]; exact some_last h))
    rcases signC_cases h hc (n - 1) with ⟨_, b, _⟩ | ⟨_, _, c⟩ | ⟨_, b, _⟩
    · exact (b hl).elim
    · exact c
    · exact (b hl).elim
theorem pat_get_iff {n : Int} {ss : List Scr} {i : Nat} {c : Nat} (h : (patC n ss)[i]? = some c) : (i : Int) < n ∧ c = signC ss (i : Int) := by
  have hi := (List.getElem?_eq_some_iff.mp h).1
  rw [patC_len] at hi
  have hi' : (i : Int) < n := by omega
  rw [patC_get hi'] at h
  exact ⟨hi', (Option.some.inj h).symm⟩
theorem patOk_pat {n : Int} {ss : List Scr} (h : Scrs n ss) (hc : NoClash ss) : PatOk (patC n ss) := by
  refine patOk_of fun i c hg => ?_
  obtain ⟨hi, rfl⟩ := pat_get_iff hg
  have hedge := (sign_edges h hc).2
  have hnext : signC ss (i : Int) ≠ 120 → (i : Int) + 1 < n := fun hne => by
    rcases Int.lt_or_eq_of_le (show (i : Int) + 1 ≤ n by omega) with c | c
    · exact c
    · rw [show (i : Int) = n - 1 by omega] at hne
      exact (hne hedge).elim
  have hget : (i : Int) + 1 < n → (patC n ss)[i + 1]? = some (signC ss ((i : Int) + 1)) := fun hh => by
    have := patC_get (ss := ss) (n := n) (i := i + 1) (by omega)
    rw [show ((i + 1 : Nat) : Int) = (i : Int) + 1 by omega] at this
    exact this
  rcases signC_cases h hc (i : Int) with ⟨a, b, c⟩ | ⟨a, b, c⟩ | ⟨a, b, c⟩
  · rw [c]
    refine ⟨.inr (.inl rfl), fun e => by omega, fun _ => ?_⟩
    rw [hget (hnext (by omega))]
    have hl : IsLet (numL ss) ((i : Int) + 1) := let_beside (.inr (by rw [Int.add_sub_cancel]; exact a))
    rcases signC_cases h hc ((i : Int) + 1) with ⟨_, b, _⟩ | ⟨_, _, c⟩ | ⟨_, b, _⟩
    · exact (b hl).elim
    · rw [c]
    · exact (b hl).elim
  · rw [c]
    exact ⟨.inr (.inr rfl), fun e => by omega, fun e => by omega⟩
  · rw [c]
    refine ⟨.inl rfl, fun _ => ⟨_, hget (hnext (by omega)), fun e => ?_⟩, fun e => by omega⟩
    rcases signC_cases h hc ((i : Int) + 1) with ⟨a', _, _⟩ | ⟨_, _, c'⟩ | ⟨_, _, c'⟩
    · exact b (let_beside (.inl a'))
    · omega
    · omega
/-- the spaces of a text, and the text of spaces -/
theorem vs_fits {n : Int} {ss : List Scr} (h : Scrs n ss) (hc : NoClash ss) {S : List Int} (hv : VS false (patC n ss) 0 S) : Txt' (lengthsOf (S ++ [n])) ∧ total (lengthsOf (S ++ [n])) = n ∧ endsOf (lengthsOf (S ++ [n])) = S ++ [n] ∧ fitsOf n ss (lengthsOf (S ++ [n])) = true := by
  obtain ⟨n1, n2⟩ := h.len
  have hlo := vs_lo hv
  have hsg := vs_signs hv
  rw [patC_len] at hlo
  have hx : ∀ x ∈ S, 1 ≤ x ∧ x + 1 < n := fun x hx => by
    have h0 := hlo x hx
    simp at h0
    have hs := (hsg x.toNat _ (patC_get (ss := ss) (n := n) (i := x.toNat) (by omega))).2
    rw [show ((x.toNat : Nat) : Int) = x by omega, Int.zero_add] at hs
    have h1 : x ≠ 0 := fun e => hs (by rw [e]; exact (sign_edges h hc).1) hx
    have h2 : x ≠ n - 1 := fun e => hs (by rw [e]; exact (sign_edges h hc).2) hx
    omega
  obtain ⟨a1, a2, a3⟩ := txt_stops (es := S ++ [n]) (n := n) (by simp) (fun e he => by
    rcases List.mem_append.mp he with he | he
    · exact (hx e he).1
    · have := List.mem_singleton.mp he
      omega) (List.pairwise_append.mpr ⟨vs_pair hv, by simp, fun a ha b hb => by
        rw [List.mem_singleton.mp hb]
        exact (hx a ha).2⟩) n2
  refine ⟨a1, a3, a2, (fits_pat h hc a1 a3).mpr fun x x1 xn => ?_⟩
  have hs := hsg x.toNat _ (patC_get (ss := ss) (n := n) (i := x.toNat) (by omega))
  rw [show ((x.toNat : Nat) : Int) = x by omega, Int.zero_add] at hs
  rw [a2]
  refine ⟨fun e => List.mem_append_left _ (hs.1 (sign_of_C.1.mp e)), fun e hm => ?_⟩
  rcases List.mem_append.mp hm with hm | hm
  · exact hs.2 (sign_of_C.2.1.mp e) hm
  · have := List.mem_singleton.mp hm
    omega
theorem fits_vs {n : Int} {ss : List Scr} (h : Scrs n ss) (hc : NoClash ss) {ws : List Int} (ht : Txt' ws) (hn : total ws = n) (hf : fitsOf n ss ws = true) : VS false (patC n ss) 0 (endsOf ws).dropLast ∧ lengthsOf ((endsOf ws).dropLast ++ [n]) = ws := by
  obtain ⟨n1, n2⟩ := h.len
  have hlast := endsOf_last ht.1
  rw [hn] at hlast
  obtain ⟨r, hr⟩ := List.getLast?_eq_some_iff.mp hlast
  have hp := ends_asc2 ht
  have hle := lengths_ends ws
  have hfp := (fits_pat h hc ht hn).mp hf
  have hmx := ends_max ht
  rw [hr] at hp hle hfp hmx ⊢
  rw [List.dropLast_concat]
  obtain ⟨p1, _, p3⟩ := List.pairwise_append.mp hp
  have hx : ∀ x ∈ r, 1 ≤ x ∧ x + 1 < n := fun x hx => ⟨(hmx x (List.mem_append_left _ hx)).1, p3 x hx n (by simp)⟩
  refine ⟨vs_of p1 (fun x hx' => ?_) (fun j c hj => ?_), hle⟩
  · have := hx x hx'
    rw [patC_len]
    simp
    omega
  · obtain ⟨hj', rfl⟩ := pat_get_iff hj
    have h3 : signC ss (j : Int) = 63 ∨ signC ss (j : Int) = 95 ∨ signC ss (j : Int) = 120 := by
      rcases signC_cases h hc (j : Int) with ⟨_, _, c⟩ | ⟨_, _, c⟩ | ⟨_, _, c⟩ <;> omega
    rw [Int.zero_add]
    refine ⟨h3, fun e => ?_, fun e hm => ?_⟩
    · have j1 : 1 ≤ (j : Int) := by
        rcases Int.lt_or_eq_of_le (show (0 : Int) ≤ j by omega) with c | c
        · omega
        · rw [← c, (sign_edges h hc).1] at e
          omega
      rcases List.mem_append.mp ((hfp j j1 hj').1 (sign_of_C.1.mpr e)) with hm | hm
      · exact hm
      · have := List.mem_singleton.mp hm
        omega
    · exact (hfp j (hx _ hm).1 hj').2 (sign_of_C.2.1.mpr e) (List.mem_append_left _ hm)
/-- the text of a number -/
def nthOf (n : Int) (ss : List Scr) (k : Nat) : List Int := lengthsOf (walkC false (patC n ss) 0 k ++ [n])
def countOf (n : Int) (ss : List Scr) : Nat := ways (patC n ss)
def indexOf (n : Int) (ss : List Scr) (ws : List Int) : Nat := rankS false (patC n ss) 0 (endsOf ws).dropLast
theorem nth_fits {n : Int} {ss : List Scr} (h : Scrs n ss) (hc : NoClash ss) {k : Nat} (hk : k < countOf n ss) : Txt' (nthOf n ss k) ∧ total (nthOf n ss k) = n ∧ endsOf (nthOf n ss k) = walkC false (patC n ss) 0 k ++ [n] ∧ fitsOf n ss (nthOf n ss k) = true :=
  vs_fits h hc (walk_vs (b := false) 0 (patOk_pat h hc) trivial hk)
theorem index_nth {n : Int} {ss : List Scr} (h : Scrs n ss) (hc : NoClash ss) {k : Nat} (hk : k < countOf n ss) : indexOf n ss (nthOf n ss k) = k := by
  unfold indexOf
  rw [(nth_fits h hc hk).2.2.1, List.dropLast_concat]
  exact rank_walk (b := false) 0 (patOk_pat h hc) trivial hk
theorem nth_index {n : Int} {ss : List Scr} (h : Scrs n ss) (hc : NoClash ss) {ws : List Int} (ht : Txt' ws) (hn : total ws = n) (hf : fitsOf n ss ws = true) : indexOf n ss ws < countOf n ss ∧ nthOf n ss (indexOf n ss ws) = ws := by
  obtain ⟨hv, he⟩ := fits_vs h hc ht hn hf
  obtain ⟨h1, h2⟩ := walk_rank (b := false) (patOk_pat h hc) trivial hv
  refine ⟨h1, ?_⟩
  unfold nthOf indexOf
  rw [h2, he]
end Wc

/-! xs[i] += e for a list; the list of ways. -/
namespace Wc
open PySem PySem.Spec PyProof PyProof.Rows L2
theorem get_list {X : Cx} : PGet X (rIxL X.K) := by
  intro pins s σ H x y v u Q I rx ry h
  obtain ⟨p, xs, i, z, rfl, rfl, hq, he, q⟩ := h
  cases rx
  obtain ⟨t, rfl⟩ := ry
  obtain ⟨its, r, pl, hz⟩ := I.list hq
  obtain ⟨j, h1, h2, h3, h4, h5⟩ := atI_get he
  obtain ⟨w, ew, rw'⟩ := r.get h2
  have hl := r.length
  have hn := line63
  have fin : EP X pins σ Q w s := ⟨z, H, I, rw', q⟩
  by_cases h0 : 0 ≤ i
  · have hj : i.toNat = j := by
      rw [seqIndex_of h0 h5] at h1
      exact Option.some.inj h1
    exact wpAny_getItem_list pl.isList h0 (by omega) (by rw [hj]; simpa using ew) fin
  · have hj : (i + (its.toArray.size : Int)).toNat = j := by
      rw [seqIndex_neg (by omega) h4] at h1
      rw [List.size_toArray, ← hl]
      exact Option.some.inj h1
    exact wpAny_getItem_list_neg pl.isList (by omega) (by rw [List.size_toArray] <;> omega) (by omega) (by rw [hj]; simpa using ew) fin
def waysL (p : List Nat) : List Int := (List.range (p.length + 1)).map fun j => (ways (p.drop j) : Int)
/-- after i turns -/
def waysI (p : List Nat) (i : Nat) : List Int := (List.range (p.length + 1)).map fun j => if p.length - i ≤ j then (ways (p.drop j) : Int) else 1
theorem waysI_len (p : List Nat) (i : Nat) : (waysI p i).length = p.length + 1 := by
  unfold waysI
  rw [List.length_map, List.length_range]
theorem waysI_get {p : List Nat} {i j : Nat} (h : j ≤ p.length) : (waysI p i)[j]? = some (if p.length - i ≤ j then (ways (p.drop j) : Int) else 1) := by
  unfold waysI
  rw [List.getElem?_map, List.getElem?_range (by omega)]
  rfl
theorem waysI_zero (p : List Nat) : List.replicate (p.length + 1) (1 : Int) = waysI p 0 := by
  refine List.ext_getElem? fun j => ?_
  by_cases h : j ≤ p.length
  · rw [waysI_get h, List.getElem?_replicate, if_pos (by omega)]
    split
    · rw [show j = p.length by omega, List.drop_length]
      rfl
    · rfl
  · rw [List.getElem?_eq_none (by rw [List.length_replicate]; omega), List.getElem?_eq_none (by rw [waysI_len]; omega)]
theorem waysI_full (p : List Nat) : waysI p p.length = waysL p := by
  unfold waysI waysL
  refine List.map_congr_left fun j _ => ?_
  rw [if_pos (by omega)]
theorem ways_at {p : List Nat} {q c : Nat} (h : p[q]? = some c) : ways (p.drop q) = ways (p.drop (q + 1)) + if c = 63 then ways (p.drop (q + 2)) else 0 := by
  obtain ⟨hq, e⟩ := List.getElem?_eq_some_iff.mp h
  rw [List.drop_eq_getElem_cons hq, e, ways_cons, List.drop_drop]
theorem waysI_step {p : List Nat} {i : Nat} {c : Nat} (hi : i < p.length) (h : p[p.length - 1 - i]? = some c) {z : Int} (hz : z = (ways (p.drop (p.length - i)) : Int) + if c = 63 then (ways (p.drop (p.length - i + 1)) : Int) else 0) : (waysI p i).set (p.length - 1 - i) z = waysI p (i + 1) := by
  refine List.ext_getElem? fun j => ?_
  by_cases hj : j ≤ p.length
  · rw [List.getElem?_set, waysI_get hj, waysI_get hj, waysI_len]
    by_cases e : p.length - 1 - i = j
    · rw [if_pos e, if_pos (by omega), if_pos (by omega), hz, ← e, ways_at h, show p.length - 1 - i + 1 = p.length - i by omega, show p.length - 1 - i + 2 = p.length - i + 1 by omega]
      by_cases c6 : c = 63
      · rw [if_pos c6, if_pos c6]
        simp
      · rw [if_neg c6, if_neg c6]
        simp
    · rw [if_neg e]
      by_cases c1 : p.length - i ≤ j
      · rw [if_pos c1, if_pos (by omega)]
      · rw [if_neg c1, if_neg (by omega)]
  · rw [List.getElem?_eq_none (by rw [List.length_set, waysI_len]; omega), List.getElem?_eq_none (by rw [waysI_len]; omega)]
theorem waysL_len (p : List Nat) : (waysL p).length = p.length + 1 := by
  unfold waysL
  rw [List.length_map, List.length_range]
theorem waysL_get {p : List Nat} {j : Nat} (h : j ≤ p.length) : (waysL p)[j]? = some (ways (p.drop j) : Int) := by
  unfold waysL
  rw [List.getElem?_map, List.getElem?_range (by omega)]
  rfl
theorem patOk_get : ∀ {p : List Nat}, PatOk p → ∀ (i : Nat) c, p[i]? = some c → (c = 63 ∨ c = 95 ∨ c = 120) ∧ (c = 63 → i + 1 < p.length) ∧ (c = 95 → i + 1 < p.length)
  | [], _, i, c, h => by cases h
  | d :: cs, ⟨h0, h1, h2, h3⟩, i, c, h => by
    cases i with
    | zero =>
      have e := Option.some.inj h
      subst e
      refine ⟨h0, fun e => ?_, fun e => ?_⟩
      · obtain ⟨_, _, rfl, _⟩ := h1 e
        simp
      · obtain ⟨_, rfl⟩ := h2 e
        simp
    | succ i =>
      have := patOk_get h3 i c h
      rw [List.length_cons]
      exact ⟨this.1, fun e => by have := this.2.1 e; omega, fun e => by have := this.2.2 e; omega⟩
theorem patOk_drop : ∀ {p : List Nat} (i : Nat), PatOk p → PatOk (p.drop i)
  | p, 0, h => h
  | [], _ + 1, h => h
  | c :: cs, i + 1, h => patOk_drop (p := cs) i h.2.2.2
theorem walk_end (i : Int) (k : Nat) : walkC false [] i k = [] := by
  unfold walkC
  rfl
theorem walk_skip {p : List Nat} {i : Nat} {c : Nat} (h : p[i]? = some c) {k : Nat} (hk : k < ways (p.drop i)) (h1 : c = 63 ∧ ways (p.drop (i + 2)) ≤ k) : walkC false (p.drop i) i k = walkC false (p.drop (i + 1)) ((i + 1 : Nat) : Int) (k - ways (p.drop (i + 2))) ∧ k - ways (p.drop (i + 2)) < ways (p.drop (i + 1)) := by
  have hw := ways_at h
  rw [if_pos h1.1] at hw
  obtain ⟨hi, e⟩ := List.getElem?_eq_some_iff.mp h
  refine ⟨?_, by omega⟩
  rw [List.drop_eq_getElem_cons hi, e]
  conv => lhs; unfold walkC
  rw [List.drop_drop, if_pos h1]
  rfl
theorem walk_letter {p : List Nat} {i : Nat} {c : Nat} (h : p[i]? = some c) {k : Nat} (hk : k < ways (p.drop i)) (h1 : ¬ (c = 63 ∨ c = 95)) : walkC false (p.drop i) i k = walkC false (p.drop (i + 1)) ((i + 1 : Nat) : Int) k ∧ k < ways (p.drop (i + 1)) := by
  have hw := ways_at h
  rw [if_neg (fun e => h1 (.inl e))] at hw
  obtain ⟨hi, e⟩ := List.getElem?_eq_some_iff.mp h
  refine ⟨?_, by omega⟩
  rw [List.drop_eq_getElem_cons hi, e]
  conv => lhs; unfold walkC
  rw [if_neg (fun e => h1 (.inl e.1)), if_neg h1]
  rfl
theorem walk_space {p : List Nat} {i : Nat} {c : Nat} (hok : PatOk p) (h : p[i]? = some c) {k : Nat} (hk : k < ways (p.drop i)) (h0 : ¬ (c = 63 ∧ ways (p.drop (i + 2)) ≤ k)) (h1 : c = 63 ∨ c = 95) : walkC false (p.drop i) i k = (i : Int) :: walkC false (p.drop (i + 2)) ((i + 2 : Nat) : Int) k ∧ k < ways (p.drop (i + 2)) ∧ i + 2 ≤ p.length := by
  have hw := ways_at h
  obtain ⟨hi, e⟩ := List.getElem?_eq_some_iff.mp h
  have hd := patOk_drop i hok
  rw [List.drop_eq_getElem_cons hi, e] at hd
  obtain ⟨_, d1, d2, _⟩ := hd
  have hcs : ∃ d r, p.drop (i + 1) = d :: r ∧ (c = 95 → d = 120) := by
    rcases h1 with c1 | c1
    · obtain ⟨d, r, e1, _⟩ := d1 c1
      exact ⟨d, r, e1, fun e => by omega⟩
    · obtain ⟨r, e1⟩ := d2 c1
      exact ⟨120, r, e1, fun _ => rfl⟩
  obtain ⟨d, r, e1, e2⟩ := hcs
  have hr : r = p.drop (i + 2) := by
    have := congrArg (List.drop 1) e1
    rw [List.drop_drop] at this
    exact this.symm
  have hi2 : i + 2 ≤ p.length := by
    have := congrArg List.length e1
    rw [List.length_drop, List.length_cons] at this
    omega
  refine ⟨?_, ?_, hi2⟩
  · rw [List.drop_eq_getElem_cons hi, e]
    conv => lhs; unfold walkC
    rw [List.drop_drop, if_neg h0, if_pos h1, e1]
    conv => lhs; unfold walkC
    rw [← hr, show ((i + 2 : Nat) : Int) = (i : Int) + 1 + 1 by omega]
  · rcases h1 with c1 | c1
    · exact Nat.lt_of_not_le fun hh => h0 ⟨c1, hh⟩
    · rw [if_neg (by omega), Nat.add_zero, e1, ways_cons, e2 c1, if_neg (by decide), Nat.add_zero, hr] at hw
      omega
end Wc

/-! texts with one space more or less. -/
namespace Wc
open PySem PySem.Spec PyProof.Rows L2
/-- a join: what holds behind a statement -/
theorem sq_cutS {a b : TS} {D : Ends} {σ : L2.St} {H : Hp} (P : L2.St → Hp → Prop) (h : ∀ D' : Ends, (∀ σ' H', P σ' H' → D'.nx σ' H') → a D' σ H) (k : ∀ σ' H', P σ' H' → b D σ' H') : tSeq a b D σ H := h _ k
theorem spots_text {n : Int} {xs : List Int} (n1 : 1 ≤ n) (n2 : n ≤ 600) (hn : xs.Nodup) (hr : ∀ x ∈ xs, 1 ≤ x ∧ x + 1 < n) (hg : ∀ x ∈ xs, ∀ y ∈ xs, x + 1 ≠ y) : textOf (.int n) (some (.list (xs.map .int))) = some (lengthsOf (srt xs ++ [n])) ∧ Txt' (lengthsOf (srt xs ++ [n])) ∧ endsOf (lengthsOf (srt xs ++ [n])) = srt xs ++ [n] ∧ total (lengthsOf (srt xs ++ [n])) = n := by
  have hm : ∀ x, x ∈ srt xs ↔ x ∈ xs := fun x => (srt_perm xs).mem_iff
  have hp : (srt xs).Pairwise (fun a b => a + 1 < b) := by
    refine List.Pairwise.imp_of_mem ?_ ((srt_pair xs).and ((srt_perm xs).nodup_iff.mpr hn))
    rintro a b ha hb ⟨h1, h2⟩
    have := hg a ((hm a).mp ha) b ((hm b).mp hb)
    omega
  obtain ⟨a1, a2, a3⟩ := txt_stops (es := srt xs ++ [n]) (n := n) (by simp) (fun e he => by
    rcases List.mem_append.mp he with he | he
    · exact (hr e ((hm e).mp he)).1
    · have := List.mem_singleton.mp he
      omega) (List.pairwise_append.mpr ⟨hp, by simp, fun a ha b hb => by
        rw [List.mem_singleton.mp hb]
        exact (hr a ((hm a).mp ha)).2⟩) n2
  exact ⟨(textOf_spots n1 n2 fun x hx => by have := (hr x hx).1; omega).1 fun x hx => by have := a1.2.1 x hx; omega, a1, a2, a3⟩
theorem fits_spots {n : Int} {ss : List Scr} (h : Scrs n ss) (hc : NoClash ss) {xs : List Int} {us : List Int} (ht : Txt' us) (hn : total us = n) (he : endsOf us = srt xs ++ [n]) : fitsOf n ss us = true ↔ ∀ x, 1 ≤ x → x < n → (signC ss x = 95 → x ∈ xs) ∧ (signC ss x = 120 → x ∉ xs) := by
  rw [fits_pat h hc ht hn, he]
  have hm : ∀ x, x < n → (x ∈ srt xs ++ [n] ↔ x ∈ xs) := fun x hx => by
    rw [List.mem_append, List.mem_singleton, (srt_perm xs).mem_iff]
    exact ⟨fun h => h.elim id fun h => by omega, .inl⟩
  constructor
  · intro hh x x1 xn
    have := hh x x1 xn
    rw [hm x xn] at this
    exact ⟨fun e => this.1 (sign_of_C.1.mpr e), fun e => this.2 (sign_of_C.2.1.mpr e)⟩
  · intro hh x x1 xn
    have := hh x x1 xn
    rw [hm x xn]
    exact ⟨fun e => this.1 (sign_of_C.1.mp e), fun e => this.2 (sign_of_C.2.1.mp e)⟩
/-- the spaces of a text -/
theorem spots_of {n : Int} {ws : List Int} (ht : Txt' ws) (hn : total ws = n) : endsOf ws = (endsOf ws).dropLast ++ [n] ∧ (endsOf ws).dropLast.Nodup ∧ (∀ x ∈ (endsOf ws).dropLast, 1 ≤ x ∧ x + 1 < n) ∧ (∀ x ∈ (endsOf ws).dropLast, ∀ y ∈ (endsOf ws).dropLast, x + 1 ≠ y) ∧ srt (endsOf ws).dropLast = (endsOf ws).dropLast := by
  have hlast := endsOf_last ht.1
  rw [hn] at hlast
  obtain ⟨r, hr⟩ := List.getLast?_eq_some_iff.mp hlast
  have hp := ends_asc2 ht
  have hmx := ends_max ht
  rw [hr] at hp hmx ⊢
  rw [List.dropLast_concat]
  obtain ⟨p1, _, p3⟩ := List.pairwise_append.mp hp
  refine ⟨rfl, p1.imp fun h => by omega, fun x hx => ⟨(hmx x (List.mem_append_left _ hx)).1, p3 x hx n (by simp)⟩, fun x hx y hy e => ?_, srt_id (p1.imp fun h => by omega)⟩
  have := ends_gap ht (a := x) (b := y)
  rw [hr] at this
  exact this (List.mem_append_left _ hx) (List.mem_append_left _ hy) e.symm
theorem fits_own {n : Int} {ss : List Scr} (h : Scrs n ss) (hc : NoClash ss) {ws : List Int} (ht : Txt' ws) (hn : total ws = n) (hf : fitsOf n ss ws = true) : ∀ x, 1 ≤ x → x < n → (signC ss x = 95 → x ∈ (endsOf ws).dropLast) ∧ (signC ss x = 120 → x ∉ (endsOf ws).dropLast) := by
  obtain ⟨e1, _, _, _, e5⟩ := spots_of ht hn
  exact (fits_spots h hc ht hn (by rw [e5]; exact e1)).mp hf
/-- one space less -/
theorem fits_less {n : Int} {ss : List Scr} (h : Scrs n ss) (hc : NoClash ss) {ws : List Int} (ht : Txt' ws) (hn : total ws = n) (hf : fitsOf n ss ws = true) {x : Int} (hx : x ∈ (endsOf ws).dropLast) : ∃ us, textOf (.int n) (some (.list (((endsOf ws).dropLast.filter fun y => !decide (y = x)).map .int))) = some us ∧ Txt' us ∧ fitsOf n ss us = decide (signC ss x = 63) := by
  obtain ⟨n1, n2⟩ := h.len
  obtain ⟨_, e2, e3, e4, _⟩ := spots_of ht hn
  have hm : ∀ y, y ∈ (endsOf ws).dropLast.filter (fun y => !decide (y = x)) ↔ y ∈ (endsOf ws).dropLast ∧ y ≠ x := fun y => by simp
  obtain ⟨a1, a2, a3, a4⟩ := spots_text n1 n2 (e2.filter (fun y => !decide (y = x))) (fun y hy => e3 y ((hm y).mp hy).1) (fun y hy z hz => e4 y ((hm y).mp hy).1 z ((hm z).mp hz).1)
  refine ⟨_, a1, a2, ?_⟩
  have ho := fits_own h hc ht hn hf
  rw [Bool.eq_iff_iff, fits_spots h hc a2 a4 a3, decide_eq_true_iff]
  obtain ⟨x1, x2⟩ := e3 x hx
  constructor
  · intro hh
    have g1 := hh x x1 (by omega)
    have g2 := ho x x1 (by omega)
    rcases signC_cases h hc x with ⟨_, _, c⟩ | ⟨_, _, c⟩ | ⟨_, _, c⟩
    · exact (((hm x).mp (g1.1 c)).2 rfl).elim
    · exact (g2.2 c hx).elim
    · exact c
  · intro c y y1 yn
    have g := ho y y1 yn
    refine ⟨fun e => (hm y).mpr ⟨g.1 e, fun e2 => by rw [e2] at e; omega⟩, fun e hy => g.2 e ((hm y).mp hy).1⟩
/-- one space more -/
theorem fits_more {n : Int} {ss : List Scr} (h : Scrs n ss) (hc : NoClash ss) {ws : List Int} (ht : Txt' ws) (hn : total ws = n) (hf : fitsOf n ss ws = true) {x : Int} (x0 : 0 < x) (xn : x < n - 1) (hx : x ∉ (endsOf ws).dropLast) (hx1 : x - 1 ∉ (endsOf ws).dropLast) (hx2 : x + 1 ∉ (endsOf ws).dropLast) : ∃ us, textOf (.int n) (some (.list (((endsOf ws).dropLast ++ [x]).map .int))) = some us ∧ Txt' us ∧ fitsOf n ss us = decide (signC ss x = 63) := by
  obtain ⟨n1, n2⟩ := h.len
  obtain ⟨_, e2, e3, e4, _⟩ := spots_of ht hn
  have hm : ∀ y, y ∈ (endsOf ws).dropLast ++ [x] ↔ y ∈ (endsOf ws).dropLast ∨ y = x := fun y => by simp
  obtain ⟨a1, a2, a3, a4⟩ := spots_text n1 n2 (xs := (endsOf ws).dropLast ++ [x]) (List.nodup_append.mpr ⟨e2, by simp, fun a ha b hb => by
    rw [List.mem_singleton.mp hb]
    rintro rfl
    exact hx ha⟩) (fun y hy => by
      rcases (hm y).mp hy with hy | rfl
      · exact e3 y hy
      · omega) (fun y hy z hz e => by
      rcases (hm y).mp hy with hy | hy
      · rcases (hm z).mp hz with hz | hz
        · exact e4 y hy z hz e
        · exact hx1 (by rw [← hz, ← e, Int.add_sub_cancel]; exact hy)
      · rcases (hm z).mp hz with hz | hz
        · exact hx2 (by rw [← hy, e]; exact hz)
        · omega)
  refine ⟨_, a1, a2, ?_⟩
  have ho := fits_own h hc ht hn hf
  rw [Bool.eq_iff_iff, fits_spots h hc a2 a4 a3, decide_eq_true_iff]
  constructor
  · intro hh
    have g1 := hh x (by omega) (by omega)
    have g2 := ho x (by omega) (by omega)
    rcases signC_cases h hc x with ⟨_, _, c⟩ | ⟨_, _, c⟩ | ⟨_, _, c⟩
    · exact (hx (g2.1 c)).elim
    · exact (g1.2 c ((hm x).mpr (.inr rfl))).elim
    · exact c
  · intro c y y1 yn
    have g := ho y y1 yn
    refine ⟨fun e => (hm y).mpr (.inl (g.1 e)), fun e hy => ?_⟩
    rcases (hm y).mp hy with hy | rfl
    · exact g.2 e hy
    · omega
theorem lineGo_w1 : ∀ {ns : List Int} {l : Int}, 1 ≤ l → (∀ n ∈ ns, 1 ≤ n) → lineGo 1 l ns = l :: ns
  | [], _, _, _ => rfl
  | n :: ns, l, hl, h => by
    have hn := h n (List.mem_cons_self ..)
    unfold lineGo
    rw [if_neg (by omega), lineGo_w1 hn fun m hm => h m (List.mem_cons_of_mem _ hm)]
theorem lawWrap_w1 {ns : List Int} (h : ∀ n ∈ ns, 1 ≤ n) : lawWrap ns 1 = ns := by
  cases ns with
  | nil => rfl
  | cons n ns =>
    rw [lawWrap_cons]
    exact lineGo_w1 (h n (List.mem_cons_self ..)) fun m hm => h m (List.mem_cons_of_mem _ hm)
theorem nth_inj {n : Int} {ss : List Scr} (h : Scrs n ss) (hc : NoClash ss) {j k : Nat} (hj : j < countOf n ss) (hk : k < countOf n ss) (e : nthOf n ss j = nthOf n ss k) : j = k := by
  rw [← index_nth h hc hj, e, index_nth h hc hk]
theorem count_one {n : Int} {ss : List Scr} {ws : List Int} (h : Scrs n (ss ++ [(1, ws)])) (ht : Txt' ws) (hn : total ws = n) (hf : fitsOf n ss ws = true) : NoClash (ss ++ [(1, ws)]) ∧ countOf n (ss ++ [(1, ws)]) = 1 := by
  have hfw := fits_wraps.mp hf
  have hf' : fitsOf n (ss ++ [(1, ws)]) ws = true := fits_wraps.mpr ⟨hn, fun s hs => by
    rcases List.mem_append.mp hs with hs | hs
    · exact hfw.2 s hs
    · rw [List.mem_singleton.mp hs]
      exact lawWrap_w1 ht.2.1⟩
  have hc := fits_noClash h ht hn hf'
  refine ⟨hc, ?_⟩
  have hall : ∀ k, k < countOf n (ss ++ [(1, ws)]) → nthOf n (ss ++ [(1, ws)]) k = ws := fun k hk => by
    obtain ⟨t1, t2, _, t4⟩ := nth_fits h hc hk
    have := (fits_wraps.mp t4).2 (1, ws) (by simp)
    rw [lawWrap_w1 t1.2.1] at this
    exact this
  have hp : 1 ≤ countOf n (ss ++ [(1, ws)]) := ways_pos _
  rcases Nat.lt_or_ge 1 (countOf n (ss ++ [(1, ws)])) with c | c
  · have := nth_inj h hc (j := 0) (k := 1) (by omega) c (by rw [hall 0 (by omega), hall 1 c])
    omega
  · omega
theorem count_small {n : Int} {ss : List Scr} (h : Scrs n ss) : 1 ≤ countOf n ss ∧ ((countOf n ss : Nat) : Int).natAbs.log2 < 9000 := by
  obtain ⟨n1, n2⟩ := h.len
  refine ⟨ways_pos _, ?_⟩
  have h1 := ways_le (patC n ss)
  rw [patC_len] at h1
  refine Nat.lt_of_lt_of_le (PySem.Flt.log2_lt_of (k := 601) (by decide) (Nat.lt_of_le_of_lt h1 ?_)) (by decide)
  exact Nat.pow_lt_pow_right (by decide) (by omega)
end Wc

/-! clashes depend on which screens there are. -/
namespace Wc
open PySem PySem.Spec PyProof.Rows L2
theorem kIxT {X : Cx} {K : PySem.W.Frag} (e : X.K = K) : IxR X (rIxT K) := by
  subst e
  exact ix_tup
theorem noClash_iff {ss : List Scr} : NoClash ss ↔ ∀ s ∈ ss, ∀ u ∈ ss, ∀ l ∈ scrLines s, ∀ z ∈ kinds, ∀ m ∈ scrLines u, m.e ∉ barS l z := by
  constructor
  · intro h s hs u hu l hl z hz m hm
    obtain ⟨a, ha⟩ := List.mem_iff_getElem?.mp hs
    obtain ⟨b, hb⟩ := List.mem_iff_getElem?.mp hu
    obtain ⟨c, hc⟩ := List.mem_iff_getElem?.mp hl
    obtain ⟨d, hd⟩ := List.mem_iff_getElem?.mp hm
    exact h ((a : Int), (c : Int), l) (mem_numL.mpr ⟨a, c, s, ha, hc, rfl, rfl⟩) z hz ((b : Int), (d : Int), m) (mem_numL.mpr ⟨b, d, u, hb, hd, rfl, rfl⟩)
  · intro h t ht z hz u hu
    obtain ⟨a, b, s, h1, h2, _, _⟩ := mem_numL.mp ht
    obtain ⟨c, d, s', h3, h4, _, _⟩ := mem_numL.mp hu
    exact h s (List.mem_of_getElem? h1) s' (List.mem_of_getElem? h3) _ (List.mem_of_getElem? h2) z hz _ (List.mem_of_getElem? h4)
theorem noClash_sub {ss ss' : List Scr} (h : ∀ s ∈ ss', s ∈ ss) (hc : NoClash ss) : NoClash ss' :=
  noClash_iff.mpr fun s hs u hu => noClash_iff.mp hc s (h s hs) u (h u hu)
theorem noClash_same {ss ss' : List Scr} (h : ∀ s, s ∈ ss' ↔ s ∈ ss) : NoClash ss' ↔ NoClash ss :=
  ⟨noClash_sub fun s hs => (h s).mpr hs, noClash_sub fun s hs => (h s).mp hs⟩
/-- a clash, with its screens -/
theorem clash_told {ss : List Scr} {z : Str} {i j k l : Int} (h : clashOf (numL ss) = some (z, i, j, k, l)) : z ∈ kinds ∧ ∃ (a b c d : Nat) (s u : Scr) (p q : Ln), i = a ∧ j = b ∧ k = c ∧ l = d ∧ ss[a]? = some s ∧ ss[c]? = some u ∧ (scrLines s)[b]? = some p ∧ (scrLines u)[d]? = some q ∧ q.e ∈ barS p z := by
  obtain ⟨hz, p, q, hp, hq, hx⟩ := clash_some h
  obtain ⟨a, b, s, h1, h2, h3, h4⟩ := mem_numL.mp hp
  obtain ⟨c, d, u, h5, h6, h7, h8⟩ := mem_numL.mp hq
  exact ⟨hz, a, b, c, d, s, u, p, q, h3, h4, h7, h8, h1, h5, h2, h6, hx⟩
theorem clash_both {s u : Scr} {p q : Ln} {z : Str} (hz : z ∈ kinds) (hp : p ∈ scrLines s) (hq : q ∈ scrLines u) (hx : q.e ∈ barS p z) {ss : List Scr} (hs : s ∈ ss) (hu : u ∈ ss) : ¬ NoClash ss := fun h => noClash_iff.mp h s hs u hu p hp z hz q hq hx
theorem SqT.onB {K : PySem.W.Frag} {H H' : Hp} {p t : Addr} {n : Nat} {xs : List V} (P : Pot H p n) (h : SqT K H t xs) (s : SameB p H H') : SqT K H' t xs := by
  obtain ⟨_, _, _, e, _⟩ := P
  rcases h with (h | ⟨o, h⟩) | h
  · refine .inl (.inl (s _ _ ?_ h))
    rintro rfl
    rw [e] at h
    cases h
  · refine .inl (.inr ⟨o, s _ _ ?_ h⟩)
    rintro rfl
    rw [e] at h
    cases h
  · exact .inr h
theorem cl_inv {K : PySem.W.Frag} {H : Hp} {v : V} {z : Str} {i j k l : Int} (h : Dp K H v (clD (some (z, i, j, k, l)))) : ∃ t, v = .ref t ∧ SqT K H t [.str z, .int i, .int j, .int k, .int l] := by
  obtain ⟨t, xs, rfl, hS, ha⟩ := dp_tuple_inv h
  cases ha with
  | cons h0 ha =>
  cases ha with
  | cons h1 ha =>
  cases ha with
  | cons h2 ha =>
  cases ha with
  | cons h3 ha =>
  cases ha with
  | cons h4 ha =>
  cases ha
  cases h0
  cases h1
  cases h2
  cases h3
  cases h4
  exact ⟨t, rfl, hS⟩
theorem cl_of {K : PySem.W.Frag} {H : Hp} {t : Addr} {z : Str} {i j k l : Int} (h : SqT K H t [.str z, .int i, .int j, .int k, .int l]) : Dp K H (.ref t) (clD (some (z, i, j, k, l))) :=
  .tup h (.cons (.str z) (.cons (.int _) (.cons (.int _) (.cons (.int _) (.cons (.int _) .nil)))))
theorem cl_non {K : PySem.W.Frag} {H : Hp} {v : V} {c : Option Clash} (h : Dp K H v (clD c)) : v = .non ↔ c = none := by
  cases c with
  | none =>
    cases h
    exact ⟨fun _ => rfl, fun _ => rfl⟩
  | some x =>
    obtain ⟨z, i, j, k, l⟩ := x
    obtain ⟨t, rfl, _⟩ := cl_inv h
    constructor
    · intro h
      cases h
    · intro h
      cases h
theorem DpAll.rev {K : PySem.W.Frag} {H : Hp} : ∀ {xs : List V} {ds : List PyData}, DpAll K H xs ds → DpAll K H xs.reverse ds.reverse
  | _, _, .nil => .nil
  | _, _, .cons h t => by
    rw [List.reverse_cons, List.reverse_cons]
    exact DpAll.snoc (DpAll.rev t) h
theorem DsAll.rev {S : List Addr} {K : PySem.W.Frag} {H : Hp} {xs : List V} {ds : List PyData} (h : DsAll S K H xs ds) : DsAll S K H xs.reverse ds.reverse := fun H2 s2 => DpAll.rev (h H2 s2)
theorem DsAll.app {S : List Addr} {K : PySem.W.Frag} {H : Hp} {xs ys : List V} {ds es : List PyData} (h : DsAll S K H xs ds) (h2 : DsAll S K H ys es) : DsAll S K H (xs ++ ys) (ds ++ es) := fun H2 s2 => DpAll.app (h H2 s2) (h2 H2 s2)
theorem DpAll.take {K : PySem.W.Frag} {H : Hp} : ∀ (n : Nat) {xs : List V} {ds : List PyData}, DpAll K H xs ds → DpAll K H (xs.take n) (ds.take n)
  | 0, _, _, _ => .nil
  | _ + 1, _, _, .nil => .nil
  | n + 1, _, _, .cons h t => .cons h (DpAll.take n t)
theorem DpAll.drop {K : PySem.W.Frag} {H : Hp} : ∀ (n : Nat) {xs : List V} {ds : List PyData}, DpAll K H xs ds → DpAll K H (xs.drop n) (ds.drop n)
  | 0, _, _, h => h
  | _ + 1, _, _, .nil => .nil
  | n + 1, _, _, .cons _ t => DpAll.drop n t
theorem DsAll.take {S : List Addr} {K : PySem.W.Frag} {H : Hp} {xs : List V} {ds : List PyData} (n : Nat) (h : DsAll S K H xs ds) : DsAll S K H (xs.take n) (ds.take n) := fun H2 s2 => DpAll.take n (h H2 s2)
theorem DsAll.drop {S : List Addr} {K : PySem.W.Frag} {H : Hp} {xs : List V} {ds : List PyData} (n : Nat) (h : DsAll S K H xs ds) : DsAll S K H (xs.drop n) (ds.drop n) := fun H2 s2 => DpAll.drop n (h H2 s2)
theorem cutV_eq (xs : List V) (lo hi : Option Int) : cutV xs lo hi = cutL xs lo hi := by
  have := cutV_map (fun x => x) xs lo hi
  simpa using this
theorem kinds_or {z : Str} (h : z ∈ kinds) : z = "room" ∨ z = "long" ∨ z = "beside" := by
  rcases List.mem_cons.mp h with h | h
  · exact .inl h
  · rcases List.mem_cons.mp h with h | h
    · exact .inr (.inl h)
    · rcases List.mem_cons.mp h with h | h
      · exact .inr (.inr h)
      · cases h
end Wc

/-! comprehensions with tests over ranges and lists of ints; the rank as a sum. -/
namespace Wc
open PySem PySem.Spec PyProof.Rows L2
theorem lc_filtR {D : Addr} {n j : Nat} {tt : TT} {te : TE} {vs : List Nat} {σ : L2.St} {H1 : Hp} {Qd : Hp → Prop} (c : Nat → Bool) (f : Nat → Int) (hz : n ≤ sizeLine) (nD : H1 D = Option.none)
    (hs : ∀ (i : Nat) (H' : Hp), i < n → Same H1 H' → Evt tt ((wipe σ vs).set j (some (.int (0 + (i : Int))))) H' (c i) ∧ ∀ H2, Same H' H2 → Evs te ((wipe σ vs).set j (some (.int (0 + (i : Int))))) H2 (.int (f i)))
    (hd : ∀ H', Same H1 H' → IL H' D (((List.range n).filter c).map f) → Qd H') (hw : ∀ x : V, wipe ((wipe σ vs).set j (some x)) vs = wipe σ vs := by intro x; rfl) :
    ∃ W : Nat → Nat → Hp → Prop, (∃ m, W 0 m (upd H1 D (.lst []))) ∧ ∀ i m H, W i m H →
      ((Itr 0 n).stop i H ∧ Qd H) ∨ ((Itr 0 n).go i H ∧ ∃ Nx : Hp → Prop, (∀ H', Nx H' → ∃ m', m' < m ∧ W (i + 1) m' H') ∧ ∀ x H', (Itr 0 n).yld i H x H' → gName j x (wipe σ vs) H' fun σ2 H2 => wipe σ2 vs = wipe σ vs ∧ tt σ2 H2 fun b H3 =>
        if b = true then te σ2 H3 fun y H4 => ∃ acc, H4 D = some (.lst acc) ∧ acc.length < sizeLine ∧ Nx (upd H4 D (.lst (acc ++ [y]))) else Nx H3) := by
  refine lc_range (lo := 0) (n := n) (fun i H => Same H1 H ∧ IL H D (((List.range i).filter c).map f)) ⟨same_new nD, upd_same⟩ ?_ ?_
  · rintro i H hi ⟨sm, eD⟩
    obtain ⟨hk, hf⟩ := hs i H hi sm
    refine ⟨hw _, hk _ fun H3 s3 => ?_⟩
    cases e : c i with
    | false =>
      refine iteF ⟨sm.trans s3, ?_⟩
      rw [List.range_succ, List.filter_append]
      simp only [List.filter_cons, e, List.filter_nil, Bool.false_eq_true, if_false, List.append_nil]
      exact s3 _ _ eD
    | true =>
      refine iteT (hf H3 s3 _ fun H4 s4 => ⟨_, s4 _ _ (s3 _ _ eD), ?_, ?_, ?_⟩)
      · rw [List.length_map, List.length_map]
        have := List.length_filter_le c (List.range i)
        rw [List.length_range] at this
        omega
      · exact same_mut ((sm.trans s3).trans s4) nD
      · show upd _ _ _ _ = some (HO.lst (List.map V.int (((List.range (i + 1)).filter c).map f)))
        rw [upd_same, List.range_succ, List.filter_append, List.map_append, List.map_append]
        simp [e]
  · rintro H ⟨sm, eD⟩
    exact hd H sm eD
theorem lc_filtV {K : PySem.W.Frag} {a D : Addr} {all : List Int} {j : Nat} {tt : TT} {te : TE} {vs : List Nat} {σ : L2.St} {H1 : Hp} {Qd : Hp → Prop} (c : Int → Bool) (f : Int → Int) (hz : all.length ≤ sizeLine) (hS : SqL K H1 a (iV all)) (nD : H1 D = Option.none)
    (hs : ∀ (z : Int) (H' : Hp), z ∈ all → Same H1 H' → Evt tt ((wipe σ vs).set j (some (.int z))) H' (c z) ∧ (c z = true → ∀ H2, Same H' H2 → Evs te ((wipe σ vs).set j (some (.int z))) H2 (.int (f z))))
    (hd : ∀ H', Same H1 H' → IL H' D ((all.filter c).map f) → Qd H') (hw : ∀ x : V, wipe ((wipe σ vs).set j (some x)) vs = wipe σ vs := by intro x; rfl) :
    ∃ W : Nat → Nat → Hp → Prop, (∃ m, W 0 m (upd H1 D (.lst []))) ∧ ∀ i m H, W i m H →
      ((Itl K a).stop i H ∧ Qd H) ∨ ((Itl K a).go i H ∧ ∃ Nx : Hp → Prop, (∀ H', Nx H' → ∃ m', m' < m ∧ W (i + 1) m' H') ∧ ∀ x H', (Itl K a).yld i H x H' → gName j x (wipe σ vs) H' fun σ2 H2 => wipe σ2 vs = wipe σ vs ∧ tt σ2 H2 fun b H3 =>
        if b = true then te σ2 H3 fun y H4 => ∃ acc, H4 D = some (.lst acc) ∧ acc.length < sizeLine ∧ Nx (upd H4 D (.lst (acc ++ [y]))) else Nx H3) := by
  refine lc_list (xs := iV all) (fun i H => Same H1 H ∧ IL H D (((all.take i).filter c).map f)) ⟨same_new nD, upd_same⟩ (fun i H _ hp => hp.1.seq hS) ?_ ?_
  · rintro i x H hx ⟨sm, eD⟩
    obtain ⟨z, hz', rfl⟩ := ints_get hx
    have hi : i < all.length := (List.getElem?_eq_some_iff.mp hz').1
    obtain ⟨hk, hf⟩ := hs z H (List.mem_of_getElem? hz') sm
    refine ⟨hw _, hk _ fun H3 s3 => ?_⟩
    cases e : c z with
    | false =>
      refine iteF ⟨sm.trans s3, ?_⟩
      rw [take_succ_get hz', List.filter_append]
      simp only [List.filter_cons, e, List.filter_nil, Bool.false_eq_true, if_false, List.append_nil]
      exact s3 _ _ eD
    | true =>
      refine iteT (hf e H3 s3 _ fun H4 s4 => ⟨_, s4 _ _ (s3 _ _ eD), ?_, ?_, ?_⟩)
      · rw [List.length_map, List.length_map]
        have := List.length_filter_le c (all.take i)
        rw [List.length_take] at this
        omega
      · exact same_mut ((sm.trans s3).trans s4) nD
      · show upd _ _ _ _ = some (HO.lst (List.map V.int (((all.take (i + 1)).filter c).map f)))
        rw [upd_same, take_succ_get hz', List.filter_append, List.map_append, List.map_append]
        simp [e]
  · rintro H ⟨sm, eD⟩
    rw [List.length_map, List.take_length] at eD
    exact hd H sm eD
/-- the rank, by places -/
def rankT (m : Int → Bool) : List Nat → Int → Nat
  | [], _ => 0
  | c :: cs, i => (if c = 63 ∧ m i = false ∧ m (i - 1) = false then ways (cs.drop 1) else 0) + rankT m cs (i + 1)
theorem rankT_eq {m : Int → Bool} : ∀ {b : Bool} {cs : List Nat} {i : Int} {S : List Int}, VS b cs i S → m (i - 1) = b → (∀ x, i ≤ x → x < i + cs.length → m x = decide (x ∈ S)) → rankT m cs i = rankS b cs i S
  | b, [], i, S, _, _, _ => by
    unfold rankT rankS
    rfl
  | true, c :: cs, i, S, ⟨_, hv⟩, hb, hm => by
    have hi : i ∉ S := fun h => by
      have := (vs_lo hv i h).1
      simp at this
      omega
    have hmi : m i = false := by rw [hm i (Int.le_refl _) (by rw [List.length_cons]; omega), decide_eq_false hi]
    unfold rankT rankS
    rw [if_neg (by rw [hb]; simp), Nat.zero_add]
    exact rankT_eq hv (by rw [Int.add_sub_cancel]; exact hmi) fun x h1 h2 => hm x (by omega) (by rw [List.length_cons]; omega)
  | false, c :: cs, i, S, hv, hb, hm => by
    have hmi := hm i (Int.le_refl _) (by rw [List.length_cons]; omega)
    rcases hv with ⟨_, S', rfl, hv⟩ | ⟨_, hv⟩
    · rw [decide_eq_true (by simp)] at hmi
      have er : rankS false (c :: cs) i (i :: S') = rankS true cs (i + 1) S' := by
        rw [rankS.eq_def]
        dsimp only
        rw [if_pos List.head?_cons]
        rfl
      rw [er]
      unfold rankT
      rw [if_neg (by rw [hmi]; simp), Nat.zero_add]
      refine rankT_eq hv (by rw [Int.add_sub_cancel]; exact hmi) fun x h1 h2 => ?_
      rw [hm x (by omega) (by rw [List.length_cons]; omega)]
      refine decide_eq_decide.mpr ⟨fun h => ?_, fun h => List.mem_cons_of_mem _ h⟩
      rcases List.mem_cons.mp h with h | h
      · omega
      · exact h
    · have hi : i ∉ S := fun h => by
        have := (vs_lo hv i h).1
        simp at this
        omega
      rw [decide_eq_false hi] at hmi
      have er : rankS false (c :: cs) i S = (if c = 63 then ways (cs.drop 1) else 0) + rankS false cs (i + 1) S := by
        rw [rankS.eq_def]
        dsimp only
        rw [if_neg (head_ne fun x hx => by
          have := (vs_lo hv x hx).1
          simp at this
          omega)]
      rw [er]
      unfold rankT
      rw [rankT_eq hv (by rw [Int.add_sub_cancel]; exact hmi) fun x h1 h2 => hm x (by omega) (by rw [List.length_cons]; omega)]
      congr 1
      by_cases c6 : c = 63
      · rw [if_pos c6, if_pos ⟨c6, hmi, hb⟩]
      · rw [if_neg c6, if_neg fun h => c6 h.1]
theorem rankT_sum (m : Int → Bool) : ∀ (cs : List Nat) (i : Int), rankT m cs i = ((List.range cs.length).map fun j : Nat => if cs[j]? = some 63 ∧ m (i + (j : Int)) = false ∧ m (i + (j : Int) - 1) = false then ways (cs.drop (j + 2)) else 0).sum
  | [], _ => rfl
  | c :: cs, i => by
    rw [List.length_cons, List.range_succ_eq_map, List.map_cons, List.map_map, List.sum_cons]
    unfold rankT
    rw [rankT_sum m cs (i + 1)]
    congr 1
    · simp
    · congr 1
      refine List.map_congr_left fun j _ => ?_
      show _ = (if (c :: cs)[j + 1]? = some 63 ∧ m (i + ((j + 1 : Nat) : Int)) = false ∧ m (i + ((j + 1 : Nat) : Int) - 1) = false then ways ((c :: cs).drop (j + 1 + 2)) else 0)
      rw [show i + ((j + 1 : Nat) : Int) = i + 1 + (j : Int) by omega]
      rfl
theorem tried_sum (A : Nat → Bool) (c : Int → Bool) (g : Int → Int) (h : Nat → Nat) : ∀ n : Nat, (∀ j, j < n → A j = true → c (0 + (j : Int)) = true → g (0 + (j : Int)) = (h j : Int)) → (((((List.range n).filter A).map fun i : Nat => 0 + (i : Int)).filter c).map g).sum = ((((List.range n).map fun j : Nat => if A j = true ∧ c (0 + (j : Int)) = true then h j else 0).sum : Nat) : Int)
  | 0, _ => rfl
  | n + 1, hh => by
    have ih := tried_sum A c g h n fun j hj => hh j (by omega)
    rw [List.range_succ, List.filter_append, List.map_append, List.filter_append, List.map_append, List.sum_append, ih, List.map_append, List.sum_append, Int.natCast_add]
    congr 1
    have hn := hh n (by omega)
    cases e1 : A n with
    | false => simp [e1]
    | true =>
      cases e2 : c (0 + (n : Int)) with
      | false => simp [e1] at e2 ⊢; simp [e2]
      | true =>
        have := hn e1 e2
        simp [e1] at e2 this ⊢
        simp [e2, this]
/-- the number of a text, as text_index sums it -/
theorem index_sum {n : Int} {ss : List Scr} (h : Scrs n ss) (hc : NoClash ss) {ws : List Int} (ht : Txt' ws) (hn : total ws = n) (hf : fitsOf n ss ws = true) : (indexOf n ss ws : Nat) = ((List.range (patC n ss).length).map fun j : Nat => if (patC n ss)[j]? = some 63 ∧ decide ((j : Int) ∈ endsOf ws) = false ∧ decide ((j : Int) - 1 ∈ endsOf ws) = false then ways ((patC n ss).drop (j + 2)) else 0).sum := by
  obtain ⟨hv, _⟩ := fits_vs h hc ht hn hf
  obtain ⟨e1, _, e3, _, _⟩ := spots_of ht hn
  obtain ⟨n1, n2⟩ := h.len
  have hx := rankT_eq (m := fun x => decide (x ∈ endsOf ws)) hv (decide_eq_false fun hm => by
    have := (ends_max ht _ hm).1
    omega) (fun x x0 x1 => by
    rw [patC_len] at x1
    refine decide_eq_decide.mpr ⟨fun hm => ?_, fun hm => List.dropLast_subset _ hm⟩
    rw [e1] at hm
    rcases List.mem_append.mp hm with hm | hm
    · exact hm
    · have := List.mem_singleton.mp hm
      omega)
  unfold indexOf
  rw [← hx, rankT_sum]
  simp only [Int.zero_add]
end Wc

/-! list(zip(a, b)), of lists: the loop that fills the list. -/
namespace Wc
open PySem PySem.Calls PyProof PyProof.Rows PyProof.V PySem.Spec PySem.W L2
section
variable {prog : Program} {w : World} {A : Around} {E : Value → Shared → Prop} {s : Shared} {z TI TO i1 i2 l1 l2 S : Addr} {xs ys : Array Value}
/-- the zip after i turns, beside the list S -/
def ZSt (z TI TO i1 i2 l1 l2 S : Addr) (xs ys : Array Value) (h : Heap) (i : Nat) : Prop :=
  IsPair h TI (.ref i1) (.ref i2) ∧ h.IsListIter i1 l1 i ∧ h.IsListIter i2 l2 i ∧ h.IsList l1 xs ∧ h.IsList l2 ys ∧
    ((IsZip h z TI TO .none ∧ ∃ a b, IsPair h TO a b) ∨ ∃ T f oT, IsZipHeld h z TI TO T f ∧ h.get? T = some oT ∧ T ≠ z ∧ T ≠ i1 ∧ T ≠ i2 ∧ T ≠ S)
structure ZOff (z TI TO i1 i2 l1 l2 S : Addr) : Prop where
  z : z ≠ S
  TI : TI ≠ S
  TO : TO ≠ S
  i1 : i1 ≠ S
  i2 : i2 ≠ S
  l1 : l1 ≠ S
  l2 : l2 ≠ S
theorem ZSt.keep {h h' : Heap} {i : Nat} (O : ZOff z TI TO i1 i2 l1 l2 S) (x : ZSt z TI TO i1 i2 l1 l2 S xs ys h i) (hk : ∀ b o, b ≠ S → h.get? b = some o → h'.get? b = some o) : ZSt z TI TO i1 i2 l1 l2 S xs ys h' i := by
  obtain ⟨hTI, h1, h2, hl1, hl2, hz⟩ := x
  refine ⟨hk _ _ O.TI hTI, h1.at fun o e => hk _ o O.i1 e, h2.at fun o e => hk _ o O.i2 e, hl1.at fun o e => hk _ o O.l1 e, hl2.at fun o e => hk _ o O.l2 e, ?_⟩
  rcases hz with ⟨hz, a, b, hTO⟩ | ⟨T, f, oT, hz, hT, r1, r2, r3, r4⟩
  · exact .inl ⟨hk _ _ O.z hz, a, b, hk _ _ O.TO hTO⟩
  · exact .inr ⟨T, f, oT, hk _ _ O.z hz, hk _ _ r4 hT, r1, r2, r3, r4⟩
theorem zst_item {i : Nat} {x y : Value} {Q : Option Value → Shared → Prop} (D : ZipApart z TI TO i1 i2 l1 l2) (st : ZSt z TI TO i1 i2 l1 l2 S xs ys s.heap i) (hS : S < s.heap.objs.size) (ex : xs[i]? = some x) (ey : ys[i]? = some y)
    (hQ : ∀ h', ZSt z TI TO i1 i2 l1 l2 S xs ys h' (i + 1) → IsPair h' s.heap.objs.size x y → h'.objs.size = s.heap.objs.size + 1 →
      (∀ c o, c ≠ z → c ≠ TO → c ≠ i1 → c ≠ i2 → s.heap.get? c = some o → h'.get? c = some o) → Q (some (.ref s.heap.objs.size)) { s with heap := h' }) :
    wpAny (model prog w) A (pyNext (.ref z)) Q E s := by
  obtain ⟨hTI, h1, h2, hl1, hl2, hz⟩ := st
  have lt : ∀ {c o}, s.heap.get? c = some o → s.heap.objs.size ≠ c := fun e => Nat.ne_of_gt (Heap.lt_size e)
  have n1 : s.heap.objs.size ≠ i1 := let ⟨_, e, _⟩ := h1; lt e
  have n2 : s.heap.objs.size ≠ i2 := let ⟨_, e, _⟩ := h2; lt e
  rcases hz with ⟨hz, a, b, hTO⟩ | ⟨T, f, oT, hz, hT, r1, r2, r3, r4⟩
  · refine wpAny_pyNext_zip_item D hz hTI hTO h1 h2 hl1 hl2 ex ey fun h' a1 a2 a3 a4 a5 a6 hk => ?_
    exact hQ h' ⟨hk _ _ D.TIz D.TITO D.TIi1 D.TIi2 hTI, a3, a4, hl1.at fun o e => hk _ o D.l1z D.l1TO D.l1i1 D.l1i2 e, hl2.at fun o e => hk _ o D.l2z D.l2TO D.l2i1 D.l2i2 e,
      .inr ⟨s.heap.objs.size, false, _, a1, a5, lt hz, n1, n2, Nat.ne_of_gt hS⟩⟩ a5 a6 hk
  · refine wpAny_pyNext_zip_item_held D hz hT hTI h1 h2 hl1 hl2 ex ey fun h' a1 a3 a4 a5 a6 hk => ?_
    exact hQ h' ⟨hk _ _ D.TIz D.TIi1 D.TIi2 hTI, a3, a4, hl1.at fun o e => hk _ o D.l1z D.l1i1 D.l1i2 e, hl2.at fun o e => hk _ o D.l2z D.l2i1 D.l2i2 e,
      .inr ⟨T, true, oT, a1, hk _ _ r1 r2 r3 hT, r1, r2, r3, r4⟩⟩ a5 a6 fun c o c1 _ c3 c4 e => hk c o c1 c3 c4 e
theorem zst_done {i : Nat} {Q : Option Value → Shared → Prop} (hA : A.handled = none) (D : ZipApart z TI TO i1 i2 l1 l2) (st : ZSt z TI TO i1 i2 l1 l2 S xs ys s.heap i) (hend : xs[i]? = none ∨ ys[i]? = none)
    (hQ : ∀ h', (∀ c o, c ≠ z → c ≠ TO → c ≠ i1 → c ≠ i2 → s.heap.get? c = some o → h'.get? c = some o) → Q none { s with heap := h' }) : wpAny (model prog w) A (pyNext (.ref z)) Q E s := by
  obtain ⟨hTI, h1, h2, hl1, hl2, hz⟩ := st
  rcases hz with ⟨hz, a, b, hTO⟩ | ⟨T, f, oT, hz, hT, r1, r2, r3, r4⟩
  · exact wpAny_pyNext_zip_end hA D hz hTI hTO h1 h2 hl1 hl2 hend fun h' hk => hQ h' fun c o c1 c2 c3 c4 e => hk c o c1 c2 c3 c4 e
  · exact wpAny_pyNext_zip_end_held hA D hz hT hTI h1 h2 hl1 hl2 hend fun h' hk => hQ h' fun c o c1 _ c3 c4 e => hk c o c1 c3 c4 e
structure ZG (xs ys : Array Value) (lo : Addr) (h : Heap) (as : List Addr) : Prop where
  rise : as.Pairwise (· < ·)
  above : ∀ a ∈ as, lo < a
  pairs : ∀ (j : Nat) (a : Addr), as[j]? = some a → ∃ x y, xs[j]? = some x ∧ ys[j]? = some y ∧ h.get? a = some { cls := .type "tuple", data := .seq #[x, y] }
theorem ZG.there {lo : Addr} {h : Heap} {as : List Addr} (g : ZG xs ys lo h as) {a : Addr} (ha : a ∈ as) : a < h.objs.size := by
  obtain ⟨j, hj⟩ := List.mem_iff_getElem?.mp ha
  obtain ⟨_, _, _, _, e⟩ := g.pairs j a hj
  exact Heap.lt_size e
end
section
variable {prog : Program} {w : World} {A : Around} {s : Shared} {R : Result → Shared → Prop} {z TI TO i1 i2 l1 l2 S : Addr} {xs ys : Array Value}
theorem zl_loop (hh : A.handled = none) (D : ZipApart z TI TO i1 i2 l1 l2) (O : ZOff z TI TO i1 i2 l1 l2 S) (hzS : z < S) (hTS : TO < S) (h1S : i1 < S) (h2S : i2 < S) {n : Nat} (hnx : n = min xs.size ys.size) (hn : n ≤ sizeLine) (res : Value) {h₁ : Heap}
    (hR : ∀ h' tk acc c as, (∀ b o, b ≠ S → b ≠ z → b ≠ TO → b ≠ i1 → b ≠ i2 → h₁.get? b = some o → h'.get? b = some o) → h'.get? S = some { cls := .type "list", dict := none, data := .seq acc c, slots := #[] } → as.length = n → ZG xs ys S h' as →
      acc.toList = as.map Value.ref → R (.ok (.ret res)) { s with heap := h', toks := tk }) :
    ∀ (k i : Nat) (h : Heap) (tk c : Nat) (acc : Array Value) (as : List Addr), n - i = k → i ≤ n → ZSt z TI TO i1 i2 l1 l2 S xs ys h i → (∀ b o, b ≠ S → b ≠ z → b ≠ TO → b ≠ i1 → b ≠ i2 → h₁.get? b = some o → h.get? b = some o) →
      h.get? S = some { cls := .type "list", dict := none, data := .seq acc c, slots := #[] } → acc.toList = as.map Value.ref → as.length = i → ZG xs ys S h as →
      codeAny (model prog w) A (.builtin "list.extend.loop" ⟨[.ref S, .ref z, res], []⟩) R { s with heap := h, toks := tk } := by
  intro k
  induction k with
  | zero =>
    intro i h tk c acc as hk hi hst hkeep hS hacc hal hG
    have hin : i = n := by omega
    have hend : xs[i]? = none ∨ ys[i]? = none := by
      rw [hin, hnx]
      rcases Nat.le_total xs.size ys.size with h | h
      · exact .inl (Array.getElem?_eq_none (by rw [Nat.min_eq_left h]; exact Nat.le_refl _))
      · exact .inr (Array.getElem?_eq_none (by rw [Nat.min_eq_right h]; exact Nat.le_refl _))
    refine codeAny_builtin PySem.F.entry_extend_loop ?_
    rw [Around.under_plainId PySem.F.plain_extend_loop _]
    show wpAny _ A.in1 (pyNext (.ref z) >>= _) _ _ _
    refine wpAny_bind (zst_done (s := { s with heap := h, toks := tk }) (A := A.in1) (S := S) hh D hst hend fun h' he => ?_)
    refine wpAny_pure (hR h' tk acc c as (fun b o e0 e1 e2 e3 e4 e => he b o e1 e2 e3 e4 (hkeep b o e0 e1 e2 e3 e4 e)) (he S _ (Ne.symm O.z) (Ne.symm O.TO) (Ne.symm O.i1) (Ne.symm O.i2) hS) (by omega) ⟨hG.rise, hG.above, fun j a hj => ?_⟩ hacc)
    obtain ⟨x, y, e1, e2, e3⟩ := hG.pairs j a hj
    have ha := hG.above a (List.mem_of_getElem? hj)
    exact ⟨x, y, e1, e2, he a _ (Nat.ne_of_gt (Nat.lt_trans hzS ha)) (Nat.ne_of_gt (Nat.lt_trans hTS ha)) (Nat.ne_of_gt (Nat.lt_trans h1S ha)) (Nat.ne_of_gt (Nat.lt_trans h2S ha)) e3⟩
  | succ k ih =>
    intro i h tk c acc as hk hi hst hkeep hS hacc hal hG
    have hlt : i < n := by omega
    have hix : i < xs.size := Nat.lt_of_lt_of_le hlt (by rw [hnx]; exact Nat.min_le_left ..)
    have hiy : i < ys.size := Nat.lt_of_lt_of_le hlt (by rw [hnx]; exact Nat.min_le_right ..)
    have ex := Array.getElem?_eq_getElem hix
    have ey := Array.getElem?_eq_getElem hiy
    have hsz : acc.size = i := by rw [← Array.length_toList, hacc, List.length_map, hal]
    refine codeAny_builtin PySem.F.entry_extend_loop ?_
    rw [Around.under_plainId PySem.F.plain_extend_loop _]
    show wpAny _ A.in1 (pyNext (.ref z) >>= _) _ _ _
    refine wpAny_bind (zst_item (s := { s with heap := h, toks := tk }) (S := S) D hst (Heap.lt_size hS) ex ey fun h' hst' ht hz hkp => ?_)
    dsimp only at ht hz hkp ⊢
    have hS' := hkp S _ (Ne.symm O.z) (Ne.symm O.TO) (Ne.symm O.i1) (Ne.symm O.i2) hS
    have up : ∀ b o, b ≠ S → h'.get? b = some o → (h'.update S (Obj.mapSeq (·.push (Value.ref h.objs.size)))).get? b = some o := fun b o hb e => (Heap.get?_update_other _ _ (Ne.symm hb)).trans e
    have hSl : S < h.objs.size := Heap.lt_size hS
    show wpAny _ A.in1 (updateSeq S (·.push (Value.ref h.objs.size)) >>= _) _ _ _
    refine wpAny_bind ?_
    refine wpAny_updateSeq hS' rfl (wpAny_pure ⟨plainId_quiet PySem.F.plain_extend_loop _, ih (i + 1) _ tk _ (acc.push (Value.ref h.objs.size)) (as ++ [h.objs.size]) (by omega) hlt (hst'.keep O up)
      (fun b o e0 e1 e2 e3 e4 e => up b o e0 (hkp b o e1 e2 e3 e4 (hkeep b o e0 e1 e2 e3 e4 e))) (Heap.get?_update_self _ hS' rfl) (by rw [Array.toList_push, hacc, List.map_append]; rfl) (by rw [List.length_append, hal]; rfl) ⟨?_, ?_, ?_⟩⟩) (by rw [hsz]; omega) (by show (acc.push (Value.ref h.objs.size)).size ≤ sizeLine + 1; rw [Array.size_push, hsz]; omega)
    · refine List.pairwise_append.mpr ⟨hG.rise, List.pairwise_singleton _ _, fun a ha b hb => ?_⟩
      rw [List.mem_singleton.mp hb]
      exact hG.there ha
    · intro a ha
      rcases List.mem_append.mp ha with ha | ha
      · exact hG.above a ha
      · rw [List.mem_singleton.mp ha]; exact hSl
    · intro j b hj
      rcases Nat.lt_trichotomy j as.length with h1 | h1 | h1
      · rw [List.getElem?_append_left h1] at hj
        obtain ⟨x, y, e1, e2, e3⟩ := hG.pairs j b hj
        have hb := hG.above b (List.mem_of_getElem? hj)
        exact ⟨x, y, e1, e2, up b _ (Nat.ne_of_gt hb) (hkp b _ (Nat.ne_of_gt (Nat.lt_trans hzS hb)) (Nat.ne_of_gt (Nat.lt_trans hTS hb)) (Nat.ne_of_gt (Nat.lt_trans h1S hb)) (Nat.ne_of_gt (Nat.lt_trans h2S hb)) e3)⟩
      · subst h1
        have hb : h.objs.size = b := by simpa using hj
        subst hb
        exact ⟨_, _, by rw [hal]; exact ex, by rw [hal]; exact ey, up _ _ (Nat.ne_of_gt hSl) ht⟩
      · have hnone : (as ++ [h.objs.size])[j]? = none := List.getElem?_eq_none (by rw [List.length_append, List.length_singleton]; omega)
        rw [hnone] at hj; cases hj
end
theorem zip_no_len : typeLookup (.type "zip") "__len__" = pure none := am_miss_of_fast (by decide +kernel)
theorem zip_no_hint : typeLookup (.type "zip") "__length_hint__" = pure none := am_miss_of_fast (by decide +kernel)
section
variable {prog : Program} {w : World} {A : Around} {E : Value → Shared → Prop} {s : Shared} {r : Addr}
theorem zl_hint (hT : s.TypeIs (.ref r) "zip") {Q : Bool → Shared → Prop} (h : Q true s) : wpAny (model prog w) A (Builtin.List.listLengthHint (.ref r)) Q E s := by
  unfold Builtin.List.listLengthHint
  refine wpAny_bind (wpAny_specialOf hT zip_no_len ?_)
  refine wpAny_ite_split (fun hab => absurd hab (by decide)) (fun _ => ?_)
  refine wpAny_ite_split (fun hab => absurd hab (by decide)) (fun _ => ?_)
  refine wpAny_bind (wpAny_specialOf hT zip_no_hint ?_)
  exact wpAny_pure h
end
section
variable {prog : Program} {w : World} {A : Around} {E : Value → Shared → Prop} {s : Shared} {z TI TO i1 i2 l1 l2 : Addr} {xs ys : Array Value}
theorem zl_extend {R : Result → Shared → Prop} (hh : A.handled = none) (D : ZipApart z TI TO i1 i2 l1 l2) (S : Addr) (O : ZOff z TI TO i1 i2 l1 l2 S) (hzS : z < S) (hTS : TO < S) (h1S : i1 < S) (h2S : i2 < S) {n : Nat} (hnx : n = min xs.size ys.size) (hn : n ≤ sizeLine)
    (hz : IsZip s.heap z TI TO .none) (hst : ZSt z TI TO i1 i2 l1 l2 S xs ys s.heap 0) (res : Value) (c₀ : Nat) (hS : s.heap.get? S = some { cls := .type "list", data := .seq #[] c₀ })
    (hR : ∀ h' tk acc c as, (∀ b o, b ≠ S → b ≠ z → b ≠ TO → b ≠ i1 → b ≠ i2 → s.heap.get? b = some o → h'.get? b = some o) → h'.get? S = some { cls := .type "list", dict := none, data := .seq acc c, slots := #[] } → as.length = n → ZG xs ys S h' as →
      acc.toList = as.map Value.ref → R (.ok (.ret res)) { s with heap := h', toks := tk }) :
    wpAny (model prog w) A.in1 (Builtin.List.listExtendWith (.ref S) (.ref z) res)
      (fun fin s' => match fin with | .done f => R (.ok f) s' | .again c' => c'.quiet = true ∧ codeAny (model prog w) A c' R s') (fun e s' => R (.error e) s') s := by
  have key : ∀ (h : Heap) (c₁ tk : Nat), (∀ b o, b ≠ S → s.heap.get? b = some o → h.get? b = some o) →
      h.get? S = some { cls := .type "list", data := .seq #[] c₁ } → codeAny (model prog w) A (.builtin "list.extend.loop" ⟨[.ref S, .ref z, res], []⟩) R { s with heap := h, toks := tk } := by
    intro h c₁ tk hk hS₁
    exact zl_loop (s := s) (h₁ := s.heap) hh D O hzS hTS h1S h2S hnx hn res hR n 0 h tk c₁ #[] [] (Nat.sub_zero _) (Nat.zero_le _) (hst.keep O hk) (fun b o e0 _ _ _ _ e => hk b o e0 e) hS₁ rfl rfl
      ⟨List.Pairwise.nil, (fun _ ha => nomatch ha), (fun j a hj => by simp at hj)⟩
  unfold Builtin.List.listExtendWith
  have hT : s.TypeIs (.ref z) "zip" := ⟨_, hz, rfl⟩
  refine wpAny_bind (wpAny_typeOf (T := "zip") hT ?_)
  have h1 : Builtin.List.listSameRef (.ref S) (.ref z) = false := by simp [Builtin.List.listSameRef, Nat.ne_of_gt hzS]
  have h2 : (Value.type "zip" == Value.type "list") = false := by decide
  have h3 : (Value.type "zip" == Value.type "tuple") = false := by decide
  simp only [h1, h2, h3, Bool.or_false, Bool.false_eq_true, if_false]
  refine wpAny_bind (wpAny_pyIter_zip hz ?_)
  refine wpAny_bind (wpAny_holding (zl_hint hT ?_))
  refine wpAny_ite_split (fun _ => ?_) (fun _ => wpAny_pure ⟨plainId_quiet PySem.F.plain_extend_loop _, key _ c₀ _ (fun b o _ e => e) hS⟩)
  refine wpAny_bind (wpAny_rule ?_)
  refine wpAny_bind ?_
  show wpAny _ _ (updateSeq S (·.push .none) >>= fun _ => updateSeq S (·.pop)) _ _ _
  refine wpAny_bind (wpAny_updateSeq hS rfl ?_)
  have hS₂ := Heap.get?_update_self (Obj.mapSeq (·.push Value.none)) hS rfl
  refine wpAny_updateSeq (hz := by seq_fits) hS₂ rfl ?_
  have hS₃ := Heap.get?_update_self (Obj.mapSeq (·.pop)) hS₂ rfl
  refine wpAny_pure ⟨plainId_quiet PySem.F.plain_extend_loop _, key _ _ _ (fun b o hb e => ?_) hS₃⟩
  exact (Heap.get?_update_other _ _ (Ne.symm hb)).trans ((Heap.get?_update_other _ _ (Ne.symm hb)).trans e)
theorem zl_init {R : Result → Shared → Prop} (hh : A.handled = none) (D : ZipApart z TI TO i1 i2 l1 l2) (S : Addr) (O : ZOff z TI TO i1 i2 l1 l2 S) (hzS : z < S) (hTS : TO < S) (h1S : i1 < S) (h2S : i2 < S) {n : Nat} (hnx : n = min xs.size ys.size) (hn : n ≤ sizeLine)
    (hz : IsZip s.heap z TI TO .none) (hst : ZSt z TI TO i1 i2 l1 l2 S xs ys s.heap 0) (hS : s.heap.get? S = some { cls := .type "list", data := .seq #[] })
    (hR : ∀ h' tk acc c as, (∀ b o, b ≠ S → b ≠ z → b ≠ TO → b ≠ i1 → b ≠ i2 → s.heap.get? b = some o → h'.get? b = some o) → h'.get? S = some { cls := .type "list", dict := none, data := .seq acc c, slots := #[] } → as.length = n → ZG xs ys S h' as →
      acc.toList = as.map Value.ref → R (.ok (.ret .none)) { s with heap := h', toks := tk }) :
    wpAny (model prog w) A.in1 (Builtin.«list.__init__» ⟨[.ref S, .ref z], []⟩)
      (fun fin s' => match fin with | .done f => R (.ok f) s' | .again c' => c'.quiet = true ∧ codeAny (model prog w) A c' R s') (fun e s' => R (.error e) s') s := by
  show wpAny _ _ (do let old ← Builtin.List.listItems (.ref S); Builtin.List.listUpdate (.ref S) (fun _ => #[]); letGo old.toList.reverse; Builtin.List.listExtendWith (.ref S) (.ref z) .none) _ _ s
  refine wpAny_bind ?_
  unfold Builtin.List.listItems
  refine wpAny_bind (wpAny_seqItems hS rfl (wpAny_pure ?_))
  show wpAny _ _ (updateSeq S (fun _ => #[]) >>= fun _ => letGo (#[] : Array Value).toList.reverse >>= fun _ => Builtin.List.listExtendWith (.ref S) (.ref z) .none) _ _ s
  refine wpAny_bind (wpAny_updateSeq hS rfl ?_)
  have hS₂ := Heap.get?_update_self (Obj.mapSeq (fun _ => (#[] : Array Value))) hS rfl
  have oth : ∀ b o, b ≠ S → s.heap.get? b = some o → (s.heap.update S (Obj.mapSeq (fun _ => (#[] : Array Value)))).get? b = some o :=
    fun b o hb e => (Heap.get?_update_other _ _ (Ne.symm hb)).trans e
  refine wpAny_bind (wpAny_letGo ?_)
  exact zl_extend hh D S O hzS hTS h1S h2S hnx hn (oth _ _ O.z hz) (hst.keep O oth) .none _ hS₂ (fun h' tk acc c as hk hS' hl hG hacc => hR h' tk acc c as (fun b o e0 e1 e2 e3 e4 e => hk b o e0 e1 e2 e3 e4 (oth b o e0 e)) hS' hl hG hacc)
theorem zl_call {Q : Value → Shared → Prop} (hh : A.handled = none) (D : ZipApart z TI TO i1 i2 l1 l2) {n : Nat} (hnx : n = min xs.size ys.size) (hn : n ≤ sizeLine)
    (hz : IsZip s.heap z TI TO .none) (hTI : IsPair s.heap TI (.ref i1) (.ref i2)) (hTO : ∃ a b, IsPair s.heap TO a b) (h1 : s.heap.IsListIter i1 l1 0) (h2 : s.heap.IsListIter i2 l2 0) (hl1 : s.heap.IsList l1 xs) (hl2 : s.heap.IsList l2 ys)
    (hQ : ∀ h' tk acc c as, (∀ b o, b ≠ z → b ≠ TO → b ≠ i1 → b ≠ i2 → s.heap.get? b = some o → h'.get? b = some o) → h'.get? s.heap.objs.size = some { cls := .type "list", dict := none, data := .seq acc c, slots := #[] } → as.length = n → ZG xs ys s.heap.objs.size h' as →
      acc.toList = as.map Value.ref → Q (.ref s.heap.objs.size) { s with heap := h', toks := tk }) :
    wpAny (model prog w) A (call (.type "list") [.ref z]) Q E s := by
  have lz : z < s.heap.objs.size := Heap.lt_size hz
  have lTI : TI < s.heap.objs.size := Heap.lt_size hTI
  have lTO : TO < s.heap.objs.size := let ⟨_, _, e⟩ := hTO; Heap.lt_size e
  have li1 : i1 < s.heap.objs.size := let ⟨_, e, _⟩ := h1; Heap.lt_size e
  have li2 : i2 < s.heap.objs.size := let ⟨_, e, _⟩ := h2; Heap.lt_size e
  have ll1 : l1 < s.heap.objs.size := let ⟨_, e, _⟩ := hl1; Heap.lt_size e
  have ll2 : l2 < s.heap.objs.size := let ⟨_, e, _⟩ := hl2; Heap.lt_size e
  refine callType_codes (Q₁ := fun obj s₁ => obj = .ref s.heap.objs.size ∧ s₁ = { s with heap := s.heap.push { cls := .type "list", data := .seq #[] } }) PySem.F.called_list (PySem.F.typeCall_list_1 _) PySem.F.entry_list_init
    (code_list_new _ ⟨rfl, rfl⟩) fun obj s₁ h₁ => ?_
  obtain ⟨rfl, rfl⟩ := h₁
  have hS : (s.heap.push { cls := .type "list", data := .seq #[] }).get? s.heap.objs.size = some { cls := .type "list", data := .seq #[] } := Heap.get?_push_size _ rfl
  have pk : ∀ b o, s.heap.get? b = some o → (s.heap.push { cls := .type "list", data := .seq #[] }).get? b = some o := fun b o e => Heap.get?_push_of_some _ e
  refine ⟨⟨_, hS, rfl⟩, PySem.F.args_list_init_2 _ _, zl_init (A := A.in1) hh D _ ⟨Nat.ne_of_lt lz, Nat.ne_of_lt lTI, Nat.ne_of_lt lTO, Nat.ne_of_lt li1, Nat.ne_of_lt li2, Nat.ne_of_lt ll1, Nat.ne_of_lt ll2⟩ lz lTO li1 li2 hnx hn (pk _ _ hz)
    ⟨pk _ _ hTI, h1.at fun o e => pk _ o e, h2.at fun o e => pk _ o e, hl1.at fun o e => pk _ o e, hl2.at fun o e => pk _ o e, .inl ⟨pk _ _ hz, let ⟨a, b, e⟩ := hTO; ⟨a, b, pk _ _ e⟩⟩⟩ hS (fun h' tk acc c as hk hS' hl hG hacc => ?_)⟩
  exact ⟨rfl, hQ h' tk acc c as (fun b o e1 e2 e3 e4 e => hk b o (Nat.ne_of_lt (Heap.lt_size e)) e1 e2 e3 e4 (pk b o e)) hS' hl hG hacc⟩
end
/-- pairs tracked at their addresses -/
def putZ : Hp → List Addr → List (V × V) → Hp
  | H, a :: as, p :: ps => putZ (upd H a (.tup [p.1, p.2])) as ps
  | H, _, _ => H
theorem putZ_off {b : Addr} : ∀ (as : List Addr) (ps : List (V × V)) (H : Hp), b ∉ as → putZ H as ps b = H b
  | [], _, _, _ => rfl
  | _ :: _, [], _, _ => rfl
  | a :: as, p :: ps, H, h => by
    show putZ (upd H a (.tup [p.1, p.2])) as ps b = H b
    rw [putZ_off as ps _ (fun z => h (List.mem_cons_of_mem _ z)), upd_ne (fun z => h (by rw [z]; exact List.mem_cons_self))]
theorem putZ_at : ∀ (as : List Addr) (ps : List (V × V)) (H : Hp), as.length = ps.length → as.Nodup → ∀ (j : Nat) t p, as[j]? = some t → ps[j]? = some p → putZ H as ps t = some (.tup [p.1, p.2])
  | [], _, _, _, _, j, t, p, h, _ => by cases h
  | _ :: _, [], _, h, _, _, _, _, _, _ => by cases h
  | a :: as, q :: ps, H, h, hn, 0, t, p, h1, h2 => by
    have hn' := List.nodup_cons.mp hn
    have e1 : a = t := Option.some.inj h1
    have e2 : q = p := Option.some.inj h2
    subst e1
    subst e2
    show putZ (upd H a (.tup [q.1, q.2])) as ps a = _
    rw [putZ_off as ps _ hn'.1, upd_same]
  | a :: as, q :: ps, H, h, hn, j + 1, t, p, h1, h2 => putZ_at as ps _ (Nat.succ.inj h) (List.nodup_cons.mp hn).2 j t p h1 h2
theorem zip_laid {X : Cx} {pins : List (Addr × Obj)} {σ : L2.St} {H : Hp} {s : Shared} {h' : Heap} {tk : Nat} {xs ys : List V} {us ws : List Value} {acc : Array Value} {c : Nat} {as : List Addr} {S : Addr} (I : Inv X pins σ H s) (hS0 : s.heap.objs.size ≤ S) (hz : xs.length ≤ sizeLine) (kx : Vals xs us) (ky : Vals ys ws)
    (hk : ∀ b o, s.heap.get? b = some o → h'.get? b = some o) (hS : h'.get? S = some { cls := .type "list", dict := none, data := .seq acc c, slots := #[] }) (hl : as.length = min us.length ws.length) (hG : ZG us.toArray ws.toArray S h' as) (hacc : acc.toList = as.map Value.ref) :
    ∃ H' : Hp, (∀ b o, H b = some o → H' b = some o) ∧ H S = none ∧ (∀ t ∈ as, H t = none) ∧ S ∉ as ∧ as.Nodup ∧ as.length = min xs.length ys.length ∧ H' S = some (.lst (as.map V.ref)) ∧ (∀ (j : Nat) t x y, as[j]? = some t → xs[j]? = some x → ys[j]? = some y → H' t = some (.tup [x, y])) ∧ Inv X pins σ H' { s with heap := h', toks := tk } := by
  have lx : xs.length = us.length := kx.length
  have ly : ys.length = ws.length := ky.length
  have hSn : S ∉ as := fun z => Nat.lt_irrefl _ (hG.above _ z)
  have nd : as.Nodup := List.Pairwise.imp (fun {a b} (h : a < b) => Nat.ne_of_lt h) hG.rise
  have up : ∀ t ∈ as, s.heap.objs.size ≤ t := fun t ht => Nat.le_trans hS0 (Nat.le_of_lt (hG.above t ht))
  have new : ∀ t ∈ as, H t = none := fun t ht => I.hok.fresh (up t ht)
  have newS : H S = none := I.hok.fresh hS0
  have lz : as.length = (List.zip xs ys).length := by rw [List.length_zip]; omega
  have atP := putZ_at as (List.zip xs ys) (upd H S (.lst (as.map V.ref))) lz nd
  have off : ∀ b, b ∉ as → b ≠ S → putZ (upd H S (.lst (as.map V.ref))) as (List.zip xs ys) b = H b := fun b h1 h2 => by rw [putZ_off as _ _ h1, upd_ne h2]
  have low : ∀ b o, s.heap.get? b = some o → b ∉ as ∧ b ≠ S := fun b o e => ⟨fun z => absurd (Heap.lt_size e) (Nat.not_lt.mpr (up b z)), fun z => absurd (Heap.lt_size e) (Nat.not_lt.mpr (z ▸ hS0))⟩
  have kp : ∀ b u, H b = some u → (putZ (upd H S (.lst (as.map V.ref))) as (List.zip xs ys)) b = some u := fun b u e => by
    rw [off b (fun z => by rw [new b z] at e; cases e) (fun z => by rw [z, newS] at e; cases e)]
    exact e
  have eS : putZ (upd H S (.lst (as.map V.ref))) as (List.zip xs ys) S = some (.lst (as.map V.ref)) := by rw [putZ_off as _ _ hSn, upd_same]
  refine ⟨putZ (upd H S (.lst (as.map V.ref))) as (List.zip xs ys), kp, newS, new, hSn, nd, by rw [lx, ly]; exact hl, eS, (fun j t x y h1 h2 h3 => atP j t (x, y) h1 (List.getElem?_zip_eq_some.mpr ⟨h2, h3⟩)), ?_⟩
  refine I.call' (ch := []) rfl ⟨fun b o q _ _ _ => hk b o q, fun b o q _ _ _ => ⟨o.slots, hk b o q⟩, fun b o q n _ => ?_, fun b o q _ => ⟨o, hk b o q⟩, fun b xs q => kp b _ q, fun b o u q => kp b _ q, fun b ps q => ⟨#[], by rw [kp b _ q]; simp⟩⟩ (fun b u q => ?_) I.bare fun b z => by simp at z
  · obtain ⟨z1, z2⟩ := low b o q
    rw [off b z1 z2]
    exact n
  · by_cases hb : b ∈ as
    · obtain ⟨j, hj⟩ := List.mem_iff_getElem?.mp hb
      have hjl := (List.getElem?_eq_some_iff.mp hj).1
      obtain ⟨x, ex⟩ : ∃ x, xs[j]? = some x := ⟨_, List.getElem?_eq_getElem (by omega)⟩
      obtain ⟨y, ey⟩ : ∃ y, ys[j]? = some y := ⟨_, List.getElem?_eq_getElem (by omega)⟩
      rw [atP j b (x, y) hj (List.getElem?_zip_eq_some.mpr ⟨ex, ey⟩)] at q
      cases q
      obtain ⟨ux, uy, f1, f2, f3⟩ := hG.pairs j b hj
      obtain ⟨u1, g1, r1⟩ := kx.get ex
      obtain ⟨u2, g2, r2⟩ := ky.get ey
      have e1 : ux = u1 := by
        rw [List.getElem?_toArray, g1] at f1
        exact (Option.some.inj f1).symm
      have e2 : uy = u2 := by
        rw [List.getElem?_toArray, g2] at f2
        exact (Option.some.inj f2).symm
      subst e1
      subst e2
      exact ⟨by show 2 ≤ sizeLine; decide, [ux, uy], .cons r1 (.cons r2 .nil), ⟨_, f3, rfl, _, rfl⟩⟩
    · by_cases hb2 : b = S
      · rw [hb2] at q ⊢
        rw [eS] at q
        cases q
        refine ⟨by rw [List.length_map]; omega, acc.toList, c, by rw [hacc]; exact LiI.vals_refs as, ?_⟩
        rw [Array.toArray_toList]
        exact hS
      · rw [off b hb hb2] at q
        exact (I.hok b u q).stay (fun d v _ y => hk d v y) (fun d y => kp d _ y) fun d xs y => kp d _ y
def tListZip (K : PySem.W.Frag) (ta : TA) : TE := fun σ H Q => ta σ H fun vs H1 => ∃ (a b : Addr) (xs ys : List V), vs = [.ref a, .ref b] ∧ SqL K H1 a xs ∧ SqL K H1 b ys ∧
  ∀ (H' : Hp) (p : Addr) (ts : List Addr), (∀ b o, H1 b = some o → H' b = some o) → H1 p = none → (∀ t ∈ ts, H1 t = none) → p ∉ ts → ts.Nodup → ts.length = min xs.length ys.length → H' p = some (.lst (ts.map V.ref)) →
    (∀ (j : Nat) t x y, ts[j]? = some t → xs[j]? = some x → ys[j]? = some y → H' t = some (.tup [x, y])) → Q (.ref p) H'
/-- list(zip(a, b)) -/
theorem pe_listZip {X : Cx} {e e2 : Expr} {ta : TA} {p p2 pos2 pos : Pos} (hc : X.calm = true) (hg : Gl X "list") (hm : X.mg "list" = none) (hg2 : Gl X "zip") (hm2 : X.mg "zip" = none) (ha : PA X [e, e2] ta) (hv : bootBuiltins "list" = some (.type "list") := by decide)
    (hs : starEach [.Call (.Name "zip" p2) [e, e2] [] pos2] X.env = (false, eval (.Call (.Name "zip" p2) [e, e2] [] pos2) X.env) :: starEach [] X.env := by rfl)
    (hs2 : starEach [e, e2] X.env = (false, eval e X.env) :: starEach [e2] X.env := by rfl) (hpl : (backTo pos2 (starEach [e2] X.env)).any (·.1) = false := by rfl) :
    PE X (.Call (.Name "list" p) [.Call (.Name "zip" p2) [e, e2] [] pos2] [] pos) (tListZip X.K ta) := by
  refine ⟨fun pins s σ H Q I hq => ?_⟩
  refine wpAny_Call_Name_kw (ld_blt I hg hm hv ?_)
  refine PyProof.Rows.callWith_type1 ?_ hs rfl
  rw [hs]
  show wpAny _ _ (spliced ((false, eval (.Call (.Name "zip" p2) [e, e2] [] pos2) X.env) :: backTo pos (starEach [] X.env))) _ _ s
  refine Calls.spliced_cons ?_
  refine Call_ (ld_blt I hg2 hm2 PyProof.Rows.boot_zip (PyProof.Rows.callWith_type1 (thn (ha.run pos2 pins s σ H _ I hq) fun us s1 ⟨vs, H1, I1, r1, q1⟩ => ?_) hs2 hpl))
  obtain ⟨a, b, xs, ys, ex, hqx, hqy, q⟩ := q1
  subst ex
  cases r1 with
  | cons r rr =>
    cases rr with
    | cons r' rr =>
      cases rr
      cases r
      cases r'
      obtain ⟨its, rv, p1, hz1⟩ := I1.list hqx
      obtain ⟨its2, rv2, p2, hz2⟩ := I1.list hqy
      have la : a < s1.heap.objs.size := p1.lt
      have lb : b < s1.heap.objs.size := p2.lt
      refine call_zip_2 p1.isList p2.isList fun h' hz hTI hTO h1 h2 hsz hk => ?_
      refine Calls.spliced_nil ?_
      refine zl_call (s := { s1 with heap := h' }) (xs := its.toArray) (ys := its2.toArray) (n := min its.toArray.size its2.toArray.size) (I1.ok.hd hc) (PySem.W.ktu_apart s1.heap.objs.size a b la lb) rfl (by rw [List.size_toArray]; have := rv.length; omega) hz hTI ⟨_, _, hTO⟩ h1 h2 (p1.isList.at fun o e => hk _ o e) (p2.isList.at fun o e => hk _ o e) fun h'' tk acc c as hk2 hS hl hG hacc => ?_
      have hkk : ∀ b o, s1.heap.get? b = some o → h''.get? b = some o := fun b o e => by
        have hb : b < s1.heap.objs.size := Heap.lt_size e
        exact hk2 b o (Nat.ne_of_lt (Nat.lt_of_lt_of_le hb (Nat.le_add_right _ _))) (Nat.ne_of_lt (Nat.lt_of_lt_of_le hb (Nat.le_add_right _ _))) (Nat.ne_of_lt hb) (Nat.ne_of_lt (Nat.lt_of_lt_of_le hb (Nat.le_add_right _ _))) (hk b o e)
      have hxz : xs.length ≤ sizeLine := by
        have := rv.length
        omega
      obtain ⟨H', k1, k2, k3, k4, k5, k6, k7, k8, J⟩ := zip_laid (tk := tk) (S := h'.objs.size) I1 (by rw [hsz]; omega) hxz rv rv2 hkk hS (by rw [List.size_toArray, List.size_toArray] at hl; exact hl) hG hacc
      exact ⟨.ref _, H', J, rfl, q H' _ as k1 k2 k3 k4 k5 k6 k7 k8⟩
end Wc

/-! signs in a list. -/
namespace Wc
open PySem PySem.Spec PyProof.Rows L2
def sgL (n : Int) (f : Int → Nat) : List Str := (rngI 0 (n + 2)).map fun x => unitS (f x)
theorem sgL_len {n : Int} (h : 0 ≤ n) (f : Int → Nat) : (sgL n f).length = n.toNat + 2 := by
  unfold sgL
  rw [List.length_map, rngI_len]
  omega
theorem sgL_get {n : Int} {f : Int → Nat} {i : Nat} (h : (i : Int) < n + 2) : (sgL n f)[i]? = some (unitS (f (i : Int))) := by
  unfold sgL
  rw [List.getElem?_map, rngI_get (by omega)]
  show some (unitS (f (0 + (i : Int)))) = _
  rw [Int.zero_add]
theorem sgL_set {n : Int} (h0 : 0 ≤ n) {f : Int → Nat} {z : Int} {c : Nat} (h1 : 0 ≤ z) (h2 : z < n + 2) : (sgL n f).set z.toNat (unitS c) = sgL n fun x => if x = z then c else f x := by
  refine List.ext_getElem? fun i => ?_
  by_cases hi : (i : Int) < n + 2
  · rw [List.getElem?_set, sgL_get hi, sgL_get hi, sgL_len h0]
    by_cases e : z.toNat = i
    · rw [if_pos e, if_pos (by omega), if_pos (by omega)]
    · rw [if_neg e, if_neg (by omega)]
  · rw [List.getElem?_eq_none (by rw [List.length_set, sgL_len h0]; omega), List.getElem?_eq_none (by rw [sgL_len h0]; omega)]
/-- letters at the places of L, spaces at those of E -/
def sgF (L E : List Int) (x : Int) : Nat := if x ∈ E then 95 else if x = 0 ∨ x ∈ L then 120 else 63
theorem sgF_let (L : List Int) (z : Int) : (fun x => if x = z then 120 else sgF L [] x) = sgF (L ++ [z]) [] := by
  funext x
  unfold sgF
  by_cases e : x = z
  · subst e
    simp
  · simp [e]
theorem sgF_end (L E : List Int) (z : Int) : (fun x => if x = z then 95 else sgF L E x) = sgF L (E ++ [z]) := by
  funext x
  unfold sgF
  by_cases e : x = z
  · subst e
    simp
  · simp [e]
theorem sgL_start {n : Int} (h0 : 1 ≤ n) : [("x" : Str)] ++ List.replicate (n + 1).toNat ("?" : Str) = sgL n (sgF [] []) := by
  refine List.ext_getElem? fun i => ?_
  by_cases hi : (i : Int) < n + 2
  · rw [sgL_get hi]
    cases i with
    | zero => rfl
    | succ i =>
      rw [List.getElem?_append_right (by simp), List.getElem?_replicate, if_pos (by simp; omega)]
      unfold sgF
      rw [if_neg (by simp), if_neg (by simp; omega)]
      rfl
  · rw [List.getElem?_eq_none (by rw [List.length_append, List.length_replicate]; show 1 + _ ≤ _; omega), List.getElem?_eq_none (by rw [sgL_len (by omega)]; omega)]
/-- what a line makes letters -/
def someV (w s e n : Int) : List Int := [e - 1, e + 1] ++ if e - s > w then rngI s e else if e < n then rngI (e + 1) (s + w + 1) else []
def someOf (w s e n : Int) : List Int := (someV w s e n).filter fun x => decide (x ≤ n)
theorem some_iff {w a b n x : Int} (hb : b ≤ n) (hx : x ≤ n) : x ∈ someOf w a b n ↔ ∃ z ∈ kinds2, x ∈ letS (lnOf w a b n) z := by
  have k : (∃ z ∈ kinds2, x ∈ letS (lnOf w a b n) z) ↔ (x ∈ letS (lnOf w a b n) "beside" ∨ x ∈ letS (lnOf w a b n) "room" ∨ x ∈ letS (lnOf w a b n) "long") := by
    constructor
    · rintro ⟨z, hz, h⟩
      simp only [kinds2, List.mem_cons, List.not_mem_nil, or_false] at hz
      rcases hz with rfl | rfl | rfl
      · exact .inl h
      · exact .inr (.inl h)
      · exact .inr (.inr h)
    · rintro (h | h | h)
      · exact ⟨_, by simp [kinds2], h⟩
      · exact ⟨_, by simp [kinds2], h⟩
      · exact ⟨_, by simp [kinds2], h⟩
  rw [k, mem_let_beside, mem_let_room, mem_let_long]
  unfold someOf someV
  rw [List.mem_filter, List.mem_append]
  simp only [List.mem_cons, List.not_mem_nil, or_false, decide_eq_true_eq]
  unfold lnOf
  dsimp only
  by_cases c : b - a > w
  · rw [if_pos c, if_pos (by simp [c]), mem_rngI]
    simp only [decide_eq_true_eq]
    omega
  · rw [if_neg c]
    by_cases c2 : b < n
    · rw [if_pos c2, if_neg (by simp [c]; omega), mem_rngI]
      simp only [decide_eq_true_eq]
      omega
    · rw [if_neg c2, if_pos (by simp; omega)]
      simp only [decide_eq_true_eq, List.not_mem_nil, or_false]
      constructor
      · intro h
        omega
      · intro h
        omega
theorem num_ex {ss : List Scr} {P : Ln → Prop} : (∃ t ∈ numL ss, P t.2.2) ↔ ∃ s ∈ ss, ∃ l ∈ scrLines s, P l := by
  constructor
  · rintro ⟨t, ht, h⟩
    obtain ⟨a, b, s, h1, h2, _, _⟩ := mem_numL.mp ht
    exact ⟨s, List.mem_of_getElem? h1, t.2.2, List.mem_of_getElem? h2, h⟩
  · rintro ⟨s, hs, l, hl, h⟩
    obtain ⟨a, h1⟩ := List.getElem?_of_mem hs
    obtain ⟨b, h2⟩ := List.getElem?_of_mem hl
    exact ⟨((a : Int), (b : Int), l), mem_numL.mpr ⟨a, b, s, h1, h2, rfl, rfl⟩, h⟩
def endAll (ss : List Scr) : List Int := ss.flatMap fun s => endsOf s.2
def letScr (n : Int) (s : Scr) : List Int := (List.zip (startsOf (endsOf s.2)) (endsOf s.2)).flatMap fun p => someOf s.1 p.1 p.2 n
def letAll (n : Int) (ss : List Scr) : List Int := ss.flatMap (letScr n)
theorem starts_there {es : List Int} {i : Nat} {e : Int} (h : es[i]? = some e) : ∃ a, (startsOf es)[i]? = some a := by
  have hn : es ≠ [] := fun c => by
    rw [c] at h
    cases h
  exact ⟨_, List.getElem?_eq_getElem (by rw [startsOf_len hn]; exact (List.getElem?_eq_some_iff.mp h).1)⟩
theorem isEnd_iff {ss : List Scr} {x : Int} : IsEnd (numL ss) x ↔ x ∈ endAll ss := by
  unfold IsEnd endAll
  rw [num_ex (P := fun l => l.e = x), List.mem_flatMap]
  constructor
  · rintro ⟨s, hs, l, hl, rfl⟩
    obtain ⟨i, a, b, h1, h2, rfl⟩ := mem_scrLines.mp hl
    exact ⟨s, hs, List.mem_of_getElem? h2⟩
  · rintro ⟨s, hs, hx⟩
    obtain ⟨i, hi⟩ := List.getElem?_of_mem hx
    obtain ⟨a, ha⟩ := starts_there hi
    exact ⟨s, hs, _, mem_scrLines.mpr ⟨i, a, x, ha, hi, rfl⟩, rfl⟩
theorem isLet_iff {n : Int} {ss : List Scr} (h : Scrs n ss) {x : Int} (hx : x ≤ n) : IsLet (numL ss) x ↔ x = 0 ∨ x ∈ letAll n ss := by
  unfold IsLet
  refine or_congr Iff.rfl ?_
  rw [num_ex (P := fun l => ∃ z ∈ kinds2, x ∈ letS l z)]
  unfold letAll letScr
  rw [List.mem_flatMap]
  refine exists_congr fun s => and_congr_right fun hs => ?_
  have hn := (h.2 s hs).2.2.2
  have hm := ends_max (h.2 s hs).2.2.1
  rw [List.mem_flatMap]
  constructor
  · rintro ⟨l, hl, h2⟩
    obtain ⟨i, a, b, h3, h4, rfl⟩ := mem_scrLines.mp hl
    rw [hn] at h2
    have hb := (hm b (List.mem_of_getElem? h4)).2
    exact ⟨(a, b), List.mem_of_getElem? (List.getElem?_zip_eq_some.mpr ⟨h3, h4⟩ : _ = some (a, b)), (some_iff (by omega) hx).mpr h2⟩
  · rintro ⟨⟨a, b⟩, hp, h2⟩
    obtain ⟨i, hi⟩ := List.getElem?_of_mem hp
    obtain ⟨h3, h4⟩ := List.getElem?_zip_eq_some.mp hi
    have hb := (hm b (List.mem_of_getElem? h4)).2
    refine ⟨lnOf s.1 a b (total s.2), mem_scrLines.mpr ⟨i, a, b, h3, h4, rfl⟩, ?_⟩
    rw [hn]
    exact (some_iff (by omega) hx).mp h2
theorem sgF_pat {n : Int} {ss : List Scr} (h : Scrs n ss) (hc : NoClash ss) {x : Int} (xn : x < n) : sgF (letAll n ss) (endAll ss) x = signC ss x := by
  unfold sgF
  rcases signC_cases h hc x with ⟨h1, h2, h3⟩ | ⟨h1, h2, h3⟩ | ⟨h1, h2, h3⟩
  · rw [if_pos (isEnd_iff.mp h1), h3]
  · rw [if_neg (fun e => h1 (isEnd_iff.mpr e)), if_pos ((isLet_iff h (by omega)).mp h2), h3]
  · rw [if_neg (fun e => h1 (isEnd_iff.mpr e)), if_neg (fun e => h2 ((isLet_iff h (by omega)).mpr e)), h3]
theorem sgL_pat {n : Int} {ss : List Scr} (h : Scrs n ss) (hc : NoClash ss) : (sgL n (sgF (letAll n ss) (endAll ss))).take n.toNat = patL n ss := by
  have hn := h.len
  refine List.ext_getElem? fun i => ?_
  unfold patL
  rw [List.getElem?_take]
  by_cases hi : (i : Int) < n
  · rw [if_pos (by omega), sgL_get (by omega), List.getElem?_map, rngI_get (by omega), Int.zero_add, sgF_pat h hc hi]
    show _ = some (signAt ss (i : Int))
    rw [signC_unit]
  · rw [if_neg (by omega), List.getElem?_eq_none (by rw [List.length_map, rngI_len]; omega)]
theorem flat_take {α β : Type} (f : α → List β) {xs : List α} {i : Nat} {x : α} (h : xs[i]? = some x) : (xs.take (i + 1)).flatMap f = (xs.take i).flatMap f ++ f x := by
  rw [take_succ_get h, List.flatMap_append]
  simp
theorem someV_len {w s e n : Int} (h1 : 0 ≤ s) (h2 : s < e) (h3 : e ≤ n) (hn : n ≤ 600) (hw : w ≤ 1000) : (someV w s e n).length ≤ 2000 := by
  unfold someV
  rw [List.length_append]
  show 2 + _ ≤ 2000
  split
  · rw [rngI_len]
    omega
  · split
    · rw [rngI_len]
      omega
    · show 2 + 0 ≤ _
      omega
theorem someOf_rng {w s e n : Int} (h1 : 0 ≤ s) (h2 : s < e) {x : Int} (hx : x ∈ someOf w s e n) : 0 ≤ x ∧ x ≤ n := by
  obtain ⟨h3, h4⟩ := List.mem_filter.mp hx
  have h5 := of_decide_eq_true h4
  refine ⟨?_, h5⟩
  unfold someV at h3
  rcases List.mem_append.mp h3 with h | h
  · simp at h
    omega
  · split at h
    · rw [mem_rngI] at h
      omega
    · split at h
      · rw [mem_rngI] at h
        omega
      · cases h
theorem set_strs (xs : List Str) (j : Nat) (z : Str) : (xs.map V.str).set j (.str z) = (xs.set j z).map V.str := by
  rw [List.map_set]
end Wc

/-! new lists; what two lists begin alike with. -/
namespace Wc
open PySem PySem.Spec PyProof.Rows L2
theorem new_il {H : Hp} {vs : List V} {zs : List Int} {Q : VK} (e : vs = iV zs) (k : ∀ c H', H c = Option.none → Same H H' → IL H' c zs → Q (.ref c) H') : ∀ c, H c = Option.none → Q (.ref c) (upd H c (.lst vs)) := by
  intro c nc
  subst e
  exact k c _ nc (same_new nc) upd_same
theorem new_fact {H : Hp} {c : Addr} {vs : List V} {zs : List Int} (nc : H c = Option.none) (e : vs = iV zs) : ∃ H', upd H c (.lst vs) = H' ∧ Same H H' ∧ IL H' c zs := ⟨_, rfl, same_new nc, by subst e; exact upd_same⟩
theorem cut_to {ns : List Int} {k : Int} (h : 0 ≤ k) : cutV (iV ns) none (some k) = iV (ns.take k.toNat) := by rw [cutV_map, cutL_to _ _ h]
theorem cut_from {ns : List Int} {k : Int} (h : 0 ≤ k) : cutV (iV ns) (some k) none = iV (ns.drop k.toNat) := by rw [cutV_map, cutL_from _ _ h]
theorem cut_mid {ns : List Int} {a b : Int} (h0 : 0 ≤ a) (h1 : 0 ≤ b) : cutV (iV ns) (some a) (some b) = iV ((ns.drop a.toNat).take (b.toNat - a.toNat)) := by rw [cutV_map, cutL_mid _ _ _ h0 h1]
theorem cut_last {ns : List Int} : cutV (iV ns) none (some (-1)) = iV ns.dropLast := by rw [cutV_map, cutL_init]
theorem comPre_self : ∀ xs : List Int, comPre xs xs = xs.length
  | [] => rfl
  | x :: xs => by
    unfold comPre
    rw [if_pos rfl, comPre_self xs, List.length_cons]
theorem shared_head (xs ys : List Int) : (((List.range (min xs.length ys.length)).filter fun i => !decide (xs[i]? = ys[i]?)).map (fun i : Nat => (0 + (i : Int))) ++ [((min xs.length ys.length : Nat) : Int)])[0]? = some ((comPre xs ys : Nat) : Int) := by
  cases hf : (List.range (min xs.length ys.length)).filter (fun i => !decide (xs[i]? = ys[i]?)) with
  | nil =>
    have h : comPre xs ys = min xs.length ys.length := by
      refine comPre_of (fun i hi => ?_) (fun x y hx hy => ?_) (Nat.min_le_left _ _) (Nat.min_le_right _ _)
      · have h1 := List.filter_eq_nil_iff.mp hf i (List.mem_range.mpr hi)
        have h2 : xs[i]? = ys[i]? := by simpa using h1
        exact ⟨xs[i]'(by omega), List.getElem?_eq_getElem (by omega), by rw [← h2]; exact List.getElem?_eq_getElem (by omega)⟩
      · have h1 := (List.getElem?_eq_some_iff.mp hx).1
        have h2 := (List.getElem?_eq_some_iff.mp hy).1
        omega
    rw [h]
    rfl
  | cons k r =>
    have hh : ((List.range (min xs.length ys.length)).filter fun i => !decide (xs[i]? = ys[i]?)).head? = some k := by rw [hf]; rfl
    rw [List.head?_filter, List.find?_range_eq_some] at hh
    obtain ⟨h1, h2, h3⟩ := hh
    rw [List.mem_range] at h2
    have h : comPre xs ys = k := by
      refine comPre_of (fun i hi => ?_) (fun x y hx hy => ?_) (by omega) (by omega)
      · have h4 := h3 i hi
        have h5 : xs[i]? = ys[i]? := by simpa using h4
        exact ⟨xs[i]'(by omega), List.getElem?_eq_getElem (by omega), by rw [← h5]; exact List.getElem?_eq_getElem (by omega)⟩
      · intro e
        rw [hx, hy, e] at h1
        simp at h1
    rw [h, List.map_cons]
    show some (0 + (k : Int)) = _
    rw [Int.zero_add]
theorem chg_self (ns : List Int) (w : Int) : chgOf ns ns w = (((lawWrap ns w).length : Int), 0) := by
  unfold chgOf
  rw [comPre_self]
  simp [comPre]
theorem comPre_ones (a b : Nat) (z : Int) (r : List Int) (hz : z ≠ 1) (h : a < b) : comPre (List.replicate b 1) (List.replicate a 1 ++ z :: r) = a := by
  refine comPre_of (fun i hi => ⟨1, ?_, ?_⟩) (fun x y hx hy => ?_) (by rw [List.length_replicate]; omega) (by rw [List.length_append, List.length_replicate]; omega)
  · rw [List.getElem?_replicate, if_pos (by omega)]
  · rw [List.getElem?_append_left (by rw [List.length_replicate]; exact hi), List.getElem?_replicate, if_pos hi]
  · rw [List.getElem?_replicate, if_pos h] at hx
    rw [List.getElem?_append_right (by rw [List.length_replicate]; exact Nat.le_refl _), List.length_replicate, Nat.sub_self] at hy
    have e1 := Option.some.inj hx
    have e2 : z = y := Option.some.inj hy
    omega
theorem ones_one (a : Nat) (h : a < 300) : Txt' (List.replicate 300 (1 : Int)) ∧ Txt' (List.replicate a (1 : Int) ++ [2] ++ List.replicate (299 - a) 1) ∧ chgOf (List.replicate 300 1) (List.replicate a (1 : Int) ++ [2] ++ List.replicate (299 - a) 1) 1 = ((a : Int), ((299 - a : Nat) : Int)) := by
  have t1 : Txt' (List.replicate 300 (1 : Int)) := ⟨by simp, fun n hn => by rw [(List.mem_replicate.mp hn).2]; decide, by simp [total]⟩
  have t2 : Txt' (List.replicate a (1 : Int) ++ [2] ++ List.replicate (299 - a) 1) := by
    refine ⟨by simp, fun n hn => ?_, ?_⟩
    · rcases List.mem_append.mp hn with hn | hn
      · rcases List.mem_append.mp hn with hn | hn
        · rw [(List.mem_replicate.mp hn).2]
          decide
        · rw [List.mem_singleton.mp hn]
          decide
      · rw [(List.mem_replicate.mp hn).2]
        decide
    · unfold total
      rw [List.sum_append, List.sum_append, List.length_append, List.length_append, List.length_replicate, List.length_replicate, List.sum_replicate_int, List.sum_replicate_int, List.length_singleton, List.sum_singleton]
      omega
  refine ⟨t1, t2, ?_⟩
  unfold chgOf
  rw [lawWrap_w1 t1.2.1, lawWrap_w1 t2.2.1, List.append_assoc, List.singleton_append, comPre_ones a 300 2 _ (by decide) h, List.drop_replicate, List.reverse_replicate, List.drop_append_of_le_length (by rw [List.length_replicate]; exact Nat.le_refl _), List.drop_replicate, Nat.sub_self]
  show _ = _
  rw [List.replicate_zero, List.nil_append, List.reverse_cons, List.reverse_replicate, comPre_ones (299 - a) (300 - a) 2 [] (by decide) (by omega)]
end Wc

/-! comprehensions over tuples; lines of screens. -/
namespace Wc
open PySem PySem.Spec PyProof.Rows L2
theorem lc_noneT {K : PySem.W.Frag} {a D : Addr} {xs : List V} {j : Nat} {tt : TT} {te : TE} {vs : List Nat} {σ : L2.St} {H1 : Hp} {Qd : Hp → Prop} (hA : SqT K H1 a xs) (nD : H1 D = Option.none)
    (hs : ∀ (i : Nat) (x : V) (H' : Hp), xs[i]? = some x → Same H1 H' → Evt tt ((wipe σ vs).set j (some x)) H' false) (hd : ∀ H', Same H1 H' → H' D = some (.lst []) → Qd H')
    (hw : ∀ x : V, wipe ((wipe σ vs).set j (some x)) vs = wipe σ vs := by intro x; rfl) :
    ∃ W : Nat → Nat → Hp → Prop, (∃ m, W 0 m (upd H1 D (.lst []))) ∧ ∀ i m H, W i m H →
      ((Itt K a).stop i H ∧ Qd H) ∨ ((Itt K a).go i H ∧ ∃ Nx : Hp → Prop, (∀ H', Nx H' → ∃ m', m' < m ∧ W (i + 1) m' H') ∧ ∀ x H', (Itt K a).yld i H x H' → gName j x (wipe σ vs) H' fun σ2 H2 => wipe σ2 vs = wipe σ vs ∧ tt σ2 H2 fun b H3 =>
        if b = true then te σ2 H3 fun y H4 => ∃ acc, H4 D = some (.lst acc) ∧ acc.length < sizeLine ∧ Nx (upd H4 D (.lst (acc ++ [y]))) else Nx H3) := by
  refine lc_it (n := xs.length) (walk_tup (xs := xs)) (fun i H => Same H1 H ∧ H D = some (.lst [])) ⟨same_new nD, upd_same⟩ (fun i H _ hp => SqT.same hp.1 hA) ?_ ?_
  · rintro i v H H' hi ⟨sm, eD⟩ ⟨rfl, hx⟩
    refine ⟨hw v, ?_⟩
    refine hs i v _ hx sm _ fun H3 s3 => ?_
    rw [if_neg (by decide)]
    exact ⟨sm.trans s3, s3 _ _ eD⟩
  · rintro H ⟨sm, eD⟩
    exact hd H sm eD
/-- a line by its place in a screen -/
theorem scrLine_get {s : Scr} {j : Nat} {l : Ln} (h : (scrLines s)[j]? = some l) : ∃ a b, (startsOf (endsOf s.2))[j]? = some a ∧ (endsOf s.2)[j]? = some b ∧ l = lnOf s.1 a b (total s.2) ∧ l.s = a ∧ l.e = b := by
  unfold scrLines at h
  rw [List.getElem?_map] at h
  obtain ⟨p, hp, rfl⟩ := Option.map_eq_some_iff.mp h
  obtain ⟨h1, h2⟩ := List.getElem?_zip_eq_some.mp hp
  exact ⟨p.1, p.2, h1, h2, rfl, rfl, rfl⟩
theorem scrLine_of {s : Scr} {j : Nat} {b : Int} (h : (endsOf s.2)[j]? = some b) : ∃ a, (startsOf (endsOf s.2))[j]? = some a ∧ (scrLines s)[j]? = some (lnOf s.1 a b (total s.2)) := by
  obtain ⟨a, ha⟩ := starts_there h
  refine ⟨a, ha, ?_⟩
  unfold scrLines
  have hz : (List.zip (startsOf (endsOf s.2)) (endsOf s.2))[j]? = some (a, b) := List.getElem?_zip_eq_some.mpr ⟨ha, h⟩
  rw [List.getElem?_map, hz]
  rfl
theorem scrLines_len {s : Scr} (h : s.2 ≠ []) : (scrLines s).length = s.2.length := by
  unfold scrLines
  rw [List.length_map, List.length_zip, startsOf_len (endsOf_ne h), Nat.min_self, endsOf_len]
theorem nc_cl {n : Int} {ss : List Scr} (h : Scrs n ss) (hl : ss.length ≤ 1000) : Nc 1000 1 (clD (clashOf (numL ss))) := by
  cases e : clashOf (numL ss) with
  | none => exact Nc.non.mono (by decide) (by decide)
  | some c =>
    obtain ⟨z, i, j, k, l⟩ := c
    obtain ⟨hz, a, b, c, d, s, u, p, q, rfl, rfl, rfl, rfl, hs, hu, hp, hq, _⟩ := clash_told e
    have h1 := (List.getElem?_eq_some_iff.mp hs).1
    have h2 := (List.getElem?_eq_some_iff.mp hu).1
    have t1 := (h.2 s (List.mem_of_getElem? hs)).2.2.1
    have t2 := (h.2 u (List.mem_of_getElem? hu)).2.2.1
    have h3 := (List.getElem?_eq_some_iff.mp hp).1
    have h4 := (List.getElem?_eq_some_iff.mp hq).1
    rw [scrLines_len t1.1] at h3
    rw [scrLines_len t2.1] at h4
    have l1 := t1.len
    have l2 := t2.len
    have nz : Nc 74 0 (.str z) := Nc.str (L := 6) (by rcases kinds_or hz with rfl | rfl | rfl <;> decide) (by rcases kinds_or hz with rfl | rfl | rfl <;> decide)
    exact (Nc.tuple (Ncs.cons nz (Ncs.cons (Nc.intS (z := (a : Int)) (by omega)) (Ncs.cons (Nc.intS (z := (b : Int)) (by omega)) (Ncs.cons (Nc.intS (z := (c : Int)) (by omega)) (Ncs.cons (Nc.intS (z := (d : Int)) (by omega)) (Ncs.nil (k := 0)))))))).mono (by decide) (by decide)
end Wc

/-! sorted(d) of a dict with int keys, any number of them. -/
namespace Wc
open PySem PySem.Spec PyProof.Rows L2
def rSortedDk : List V → Hp → VK → Prop := fun xs H Q => ∃ (a : Addr) (kvs : List (Key × V)) (ks : List Int), xs = [.ref a] ∧ H a = some (.dK kvs) ∧ kvs.map (·.1) = ks.map Sum.inl ∧
    ∀ (ys : List Int) (p : Addr), ys.Perm ks → ys.Pairwise (· ≤ ·) → H p = Option.none → Q (.ref p) (upd H p (.lst (ys.map V.int)))
theorem call_sortedDk {X : Cx} (hcalm : X.calm = true) : CallR X (.builtin "sorted") rSortedDk := by
  intro pins s σ H xs us Q I r q
  obtain ⟨a, kvs, ks, ex, hd, hks, q⟩ := q
  subst ex
  obtain ⟨u, eu, rx⟩ := vals1 r
  subst eu
  cases rx
  obtain ⟨z, lo, vs, rel, dd⟩ := dk_rd I.hok (.inl hd)
  obtain ⟨ep, hat⟩ := dd.dictAt
  have hkeys : vs.map (·.1) = ks.map Sum.inl := rel.keys.symm.trans hks
  have hl : vs.length = ks.length := by
    have e := congrArg List.length hkeys
    rw [List.length_map, List.length_map] at e
    exact e
  have h16 : vs.length ≤ sizeLine := by rw [← rel.length]; exact z
  refine Calls.call_function_entry PyProof.Rows.kind_sorted PyProof.Rows.plain_sorted PyProof.Rows.entry_sorted (PyProof.Rows.args_sorted1 _) ?_
  unfold Builtin.«sorted»
  refine wpAny_bind (m := checkCount "sorted" 1 1 _) (wpAny_pure ?_)
  refine wpAny_bind (PySem.W.kdu_collect (A := X.A.in1) (PySem.W.kdl_dict (knd := mixKind X.prog X.w) (kvs := vs) (ep := ep) lo) (I.ok.hd hcalm) hat h16 fun h' tk acc hk hacc => ?_)
  have hal : acc.toList.length = ks.length := by rw [Array.length_toList, hacc.1, hl]
  have hS : IntsAre acc.toList ks := ints_each hal fun j v e => by
    obtain ⟨k, x, e1, e2⟩ := hacc.2 j v (by rw [← Array.getElem?_toList]; exact e)
    have e3 : (vs.map (·.1))[j]? = some k := by rw [List.getElem?_map, e1]; rfl
    rw [hkeys, List.getElem?_map] at e3
    cases e4 : ks[j]? with
    | none => rw [e4] at e3; cases e3
    | some y =>
      rw [e4] at e3
      have e5 : Sum.inl y = k := Option.some.inj e3
      subst e5
      rcases keyIs_shape (show keyIs (Sum.inl y) v = true from e2) with ⟨i, t, ek, ev⟩ | ⟨z, t, ek, ev⟩
      · cases ek
        exact ⟨y, t, rfl, ev⟩
      · cases ek
  have I1 : Inv X pins σ H { s with heap := h', toks := tk } := I.kept hk
  refine wpAny_bind (wpAny_newList ?_ (by rw [hal, ← hl]; exact h16))
  have hoL : (h'.push (seqObj "list" acc.toList.toArray 0)).get? h'.objs.size = some (seqObj "list" acc.toList.toArray 0) := Heap.get?_push_size _ rfl
  show wpAny _ _ _ _ _ { s with heap := h'.push (seqObj "list" acc.toList.toArray 0), toks := tk }
  refine wpAny_bind (wpAny_holding (wpAny_call_entry PyProof.Rows.slot_list_sort ⟨_, hoL, rfl⟩ PyProof.Rows.entry_list_sort
    (SrtO.list_sort_ord (s := { s with heap := h'.push (seqObj "list" acc.toList.toArray 0), toks := tk }) SrtO.swo_int hoL (by rw [hal, ← hl]; exact h16) (fun h2 => SrtO.ints_sortable hS h2) fun out h1 h2 => ⟨_, rfl, ?_⟩) (PyProof.Rows.args_list_sort _)))
  obtain ⟨g1, g2, g3⟩ := SrtO.ints_out hS h1 h2
  obtain ⟨e', he'⟩ := PyProof.Rows.sortedHeap_at (vs := acc.toList) (out := out.toArray) hoL
  have hlen : ((out.map SrtO.iv).map V.int).length ≤ sizeLine := by
    rw [List.length_map, g2.length_eq, ← hl]
    exact h16
  refine wpAny_pure ⟨_, rfl, .ref h'.objs.size, upd H h'.objs.size (.lst ((out.map SrtO.iv).map V.int)), I1.laid (t' := tk) (fun b u e => ?_) (Nat.le_refl _)
    (show ObjOk X.prog X.w _ _ _ (.lst ((out.map SrtO.iv).map V.int)) from ⟨hlen, out, e', vals_of_ints g1, he'⟩), rfl, q _ _ g2 g3 (I1.hok.fresh (Nat.le_refl _))⟩
  have hb : b < h'.objs.size := Heap.lt_size e
  rw [PyProof.Rows.sortedHeap_old (Nat.ne_of_lt hb) (by rw [size_push']; exact Nat.lt_succ_of_lt hb)]
  exact Heap.get?_push_of_some _ e
end Wc

/-! a dict's keys; what is visible at some widths. -/
namespace Wc
open PySem PySem.Spec PyProof.Rows L2
/-- a dict's keys: ints, by membership -/
def KS (kvs : List (Key × V)) (S : Int → Prop) : Prop := ∃ ks : List Int, kvs.map (·.1) = ks.map Sum.inl ∧ ks.Nodup ∧ ∀ x, x ∈ ks ↔ S x
theorem KS.nil : KS [] (fun _ => False) := ⟨[], rfl, .nil, fun x => by simp⟩
theorem KS.congr {kvs : List (Key × V)} {S S' : Int → Prop} (h : KS kvs S) (e : ∀ x, S x ↔ S' x) : KS kvs S' := let ⟨ks, h1, h2, h3⟩ := h; ⟨ks, h1, h2, fun x => (h3 x).trans (e x)⟩
theorem KS.put {kvs : List (Key × V)} {S : Int → Prop} (h : KS kvs S) (k : Int) (v : V) : KS (putK kvs (Sum.inl k) v) (fun x => S x ∨ x = k) := by
  obtain ⟨ks, e, nd, hm⟩ := h
  have hk : (kvs.any fun kv => decide (kv.1 = (Sum.inl k : Key))) = true ↔ k ∈ ks := by
    rw [List.any_eq_true]
    constructor
    · rintro ⟨p, hp, h⟩
      have h1 : p.1 ∈ kvs.map (·.1) := List.mem_map.mpr ⟨p, hp, rfl⟩
      rw [of_decide_eq_true h, e] at h1
      obtain ⟨y, hy, h2⟩ := List.mem_map.mp h1
      rw [← Sum.inl.inj h2]
      exact hy
    · intro h
      have h1 : (Sum.inl k : Key) ∈ kvs.map (·.1) := by
        rw [e]
        exact List.mem_map.mpr ⟨k, h, rfl⟩
      obtain ⟨p, hp, h2⟩ := List.mem_map.mp h1
      exact ⟨p, hp, decide_eq_true h2⟩
  by_cases c : k ∈ ks
  · refine ⟨ks, by rw [putK_keys, if_pos (hk.mpr c), e], nd, fun x => ?_⟩
    rw [hm]
    constructor
    · exact .inl
    · rintro (h | rfl)
      · exact h
      · exact (hm _).mp c
  · refine ⟨ks ++ [k], by rw [putK_keys, if_neg (fun h => c (hk.mp h)), e, List.map_append]; rfl, ?_, fun x => ?_⟩
    · refine List.nodup_append.mpr ⟨nd, by simp, fun a ha b hb => ?_⟩
      rw [List.mem_singleton.mp hb]
      rintro rfl
      exact c ha
    · rw [List.mem_append, hm, List.mem_singleton]
theorem KS.merge : ∀ {more kvs : List (Key × V)} {S : Int → Prop}, KS kvs S → (∀ p ∈ more, ∃ k : Int, p.1 = Sum.inl k) → KS (mergeK kvs more) (fun x => S x ∨ ∃ p ∈ more, p.1 = (Sum.inl x : Key))
  | [], kvs, S, h, _ => h.congr fun x => by simp
  | (k, v) :: more, kvs, S, h, hm => by
    obtain ⟨y, e⟩ := hm (k, v) (List.mem_cons_self ..)
    have e : k = Sum.inl y := e
    subst e
    have h2 := KS.merge (h.put y v) fun p hp => hm p (List.mem_cons_of_mem _ hp)
    refine KS.congr (show KS (mergeK kvs ((Sum.inl y, v) :: more)) _ from h2) fun x => ?_
    constructor
    · rintro ((h | rfl) | ⟨p, hp, h⟩)
      · exact .inl h
      · exact .inr ⟨_, List.mem_cons_self .., rfl⟩
      · exact .inr ⟨p, List.mem_cons_of_mem _ hp, h⟩
    · rintro (h | ⟨p, hp, h⟩)
      · exact .inl (.inl h)
      · rcases List.mem_cons.mp hp with rfl | hp
        · exact .inl (.inr (Sum.inl.inj h).symm)
        · exact .inr ⟨p, hp, h⟩
theorem KS.len {kvs : List (Key × V)} {S : Int → Prop} (h : KS kvs S) {lo hi : Int} (hb : ∀ x, S x → lo ≤ x ∧ x < hi) : kvs.length ≤ (hi - lo).toNat := by
  obtain ⟨ks, h1, h2, h3⟩ := h
  have e := congrArg List.length h1
  rw [List.length_map, List.length_map] at e
  rw [e, ← rngI_len]
  exact len_sub h2 fun x hx => mem_rngI.mpr (hb x ((h3 x).mp hx))
/-- the breaks of a wrap -/
def brkOf (ns : List Int) (w : Int) : List Int := (endsOf (lawWrap ns w)).dropLast
theorem brk_ends {ns : List Int} (ht : Txt' ns) (w : Int) : endsOf (lawWrap ns w) = brkOf ns w ++ [total ns] := by
  obtain ⟨h1, h2⟩ := ht.wrap w
  rw [← h2]
  exact (ends_snoc h1.1).symm
theorem brk_mem {ns : List Int} (ht : Txt' ns) {w x : Int} : x ∈ brkOf ns w ↔ x ∈ endsOf (lawWrap ns w) ∧ x < total ns := by
  obtain ⟨h1, h2⟩ := ht.wrap w
  have hp := ends_asc2 h1
  rw [brk_ends ht w] at hp ⊢
  rw [List.mem_append, List.mem_singleton]
  constructor
  · intro h
    have := (List.pairwise_append.mp hp).2.2 x h (total ns) (List.mem_singleton.mpr rfl)
    exact ⟨.inl h, by omega⟩
  · rintro ⟨h | h, h3⟩
    · exact h
    · omega
theorem linesOk_mem {all : List Int} {w : Int} : ∀ {es : List Int} {s : Int}, LinesOk all w s es → ∀ e ∈ es, e ∈ all
  | e0 :: es, s, ⟨h1, h2⟩, e, he => by
    rcases List.mem_cons.mp he with rfl | he
    · exact h1.1
    · exact linesOk_mem h2 e he
theorem wrap_ends_sub {ns : List Int} (ht : Txt' ns) {w x : Int} (h : x ∈ endsOf (lawWrap ns w)) : x ∈ endsOf ns := linesOk_mem (lines_ok ht w) x h
theorem brk_sub {ns : List Int} (ht : Txt' ns) {w x : Int} (h : x ∈ brkOf ns w) : x ∈ endsOf ns ∧ 1 ≤ x ∧ x + 1 < total ns := by
  obtain ⟨h1, h2⟩ := (brk_mem ht).mp h
  have h3 := wrap_ends_sub ht h1
  have h4 := ends_max ht x h3
  have h5 := ends_gap ht h3 (b := total ns) (List.mem_of_getLast? (endsOf_last ht.1))
  exact ⟨h3, h4.1, by omega⟩
theorem brk_wide {ns : List Int} (ht : Txt' ns) {w : Int} (h : total ns ≤ w) : brkOf ns w = [] := by
  unfold brkOf
  rw [lawWrap_one ht h]
  rfl
/-- a space that is visible at some width -/
def visP (ns : List Int) (lo hi x : Int) : Prop := ∃ w, lo ≤ w ∧ w ≤ hi ∧ x ∈ brkOf ns w
def visL (ns : List Int) (lo hi : Int) : List Int := (endsOf ns).filter fun x => (rngI lo (hi + 1)).any fun w => decide (x ∈ brkOf ns w)
theorem mem_visL {ns : List Int} (ht : Txt' ns) {lo hi x : Int} : x ∈ visL ns lo hi ↔ visP ns lo hi x := by
  unfold visL visP
  rw [List.mem_filter, List.any_eq_true]
  constructor
  · rintro ⟨_, w, hw, h⟩
    obtain ⟨h1, h2⟩ := mem_rngI.mp hw
    exact ⟨w, h1, by omega, of_decide_eq_true h⟩
  · rintro ⟨w, h1, h2, h⟩
    exact ⟨(brk_sub ht h).1, w, mem_rngI.mpr ⟨h1, by omega⟩, decide_eq_true h⟩
theorem visL_asc2 {ns : List Int} (ht : Txt' ns) (lo hi : Int) : (visL ns lo hi).Pairwise (fun a b => a + 1 < b) := (ends_asc2 ht).sublist List.filter_sublist
theorem visL_asc {ns : List Int} (ht : Txt' ns) (lo hi : Int) : (visL ns lo hi).Pairwise (· < ·) := (visL_asc2 ht lo hi).imp fun h => by omega
theorem visL_rng {ns : List Int} (ht : Txt' ns) {lo hi x : Int} (h : x ∈ visL ns lo hi) : x ∈ endsOf ns ∧ 1 ≤ x ∧ x + 1 < total ns := by
  obtain ⟨w, _, _, h⟩ := (mem_visL ht).mp h
  exact brk_sub ht h
theorem visL_len {ns : List Int} (ht : Txt' ns) (lo hi : Int) : (visL ns lo hi).length ≤ 300 := by
  have := List.length_filter_le (fun x => (rngI lo (hi + 1)).any fun w => decide (x ∈ brkOf ns w)) (endsOf ns)
  rw [endsOf_len] at this
  exact Nat.le_trans this ht.len
def coreOf (ns : List Int) (lo hi : Int) : List Int := lengthsOf (visL ns lo hi ++ [total ns])
theorem core_ok {ns : List Int} (ht : Txt' ns) (lo hi : Int) : Txt' (coreOf ns lo hi) ∧ endsOf (coreOf ns lo hi) = visL ns lo hi ++ [total ns] ∧ total (coreOf ns lo hi) = total ns := by
  refine txt_stops (es := visL ns lo hi ++ [total ns]) (n := total ns) (by simp) (fun e he => ?_) ?_ ht.2.2
  · rcases List.mem_append.mp he with he | he
    · exact (visL_rng ht he).2.1
    · rw [List.mem_singleton.mp he]
      exact (ends_max ht _ (List.mem_of_getLast? (endsOf_last ht.1))).1
  · refine List.pairwise_append.mpr ⟨visL_asc2 ht lo hi, by simp, fun a ha b hb => ?_⟩
    rw [List.mem_singleton.mp hb]
    exact (visL_rng ht ha).2.2
theorem LinesOk.sub {all all' : List Int} {w : Int} (hs : ∀ t ∈ all', t ∈ all) : ∀ {es : List Int} {s : Int}, (∀ e ∈ es, e ∈ all') → LinesOk all w s es → LinesOk all' w s es
  | [], _, _, _ => trivial
  | e :: es, s, hm, ⟨⟨h1, h2, h3, h4⟩, h5⟩ => by
    refine ⟨⟨hm e (List.mem_cons_self ..), h2, fun t ht => h3 t (hs t ht), ?_⟩, LinesOk.sub hs (fun x hx => hm x (List.mem_cons_of_mem _ hx)) h5⟩
    rcases h4 with h4 | h4
    · exact .inl h4
    · exact .inr fun t ht => h4 t (hs t ht)
/-- fewer stops, all ends of lines among them: the same wrap -/
theorem wrap_fewer {ns ms : List Int} (ht : Txt' ns) (hm : Txt' ms) (hn : total ms = total ns) {w : Int} (hs : ∀ t ∈ endsOf ms, t ∈ endsOf ns) (he : ∀ e ∈ endsOf (lawWrap ns w), e ∈ endsOf ms) : lawWrap ms w = lawWrap ns w := by
  have h1 := lines_ok hm w
  have h2 := LinesOk.sub hs he (lines_ok ht w)
  obtain ⟨t1, t2⟩ := ht.wrap w
  obtain ⟨u1, u2⟩ := hm.wrap w
  have h3 := LinesOk.uniq (n := total ns) (fun t h => by rw [← hn]; exact (ends_max hm t h).2) h1 h2 (by rw [endsOf_last u1.1, u2, hn]) (by rw [endsOf_last t1.1, t2])
  rw [← lengths_ends (lawWrap ms w), h3, lengths_ends]
theorem core_wrap {ns : List Int} (ht : Txt' ns) {lo hi w : Int} (h1 : lo ≤ w) (h2 : w ≤ hi) : lawWrap (coreOf ns lo hi) w = lawWrap ns w := by
  obtain ⟨c1, c2, c3⟩ := core_ok ht lo hi
  refine wrap_fewer ht c1 c3 (fun t h => ?_) (fun e h => ?_)
  · rw [c2] at h
    rcases List.mem_append.mp h with h | h
    · exact (visL_rng ht h).1
    · rw [List.mem_singleton.mp h]
      exact List.mem_of_getLast? (endsOf_last ht.1)
  · rw [c2]
    rw [brk_ends ht w] at h
    rcases List.mem_append.mp h with h | h
    · exact List.mem_append_left _ ((mem_visL ht).mpr ⟨w, h1, h2, h⟩)
    · exact List.mem_append_right _ h
theorem visL_ext {ns ms : List Int} (ht : Txt' ns) (hm : Txt' ms) {lo hi lo' hi' : Int} (h : ∀ x, visP ns lo hi x ↔ visP ms lo' hi' x) : visL ns lo hi = visL ms lo' hi' :=
  asc_ext (visL_asc ht lo hi) (visL_asc hm lo' hi') fun z => by rw [mem_visL ht, mem_visL hm, h]
/-- equal wraps, equal cores -/
theorem alike_iff {ns ms : List Int} (ht : Txt' ns) (hm : Txt' ms) {lo hi : Int} (hl : lo ≤ hi) : coreOf ns lo hi = coreOf ms lo hi ↔ ∀ w, lo ≤ w → w ≤ hi → lawWrap ns w = lawWrap ms w := by
  constructor
  · intro h w h1 h2
    rw [← core_wrap ht h1 h2, h, core_wrap hm h1 h2]
  · intro h
    have ht0 : total ns = total ms := by
      rw [← (ht.wrap lo).2, h lo (Int.le_refl _) hl, (hm.wrap lo).2]
    have hv : visL ns lo hi = visL ms lo hi := visL_ext ht hm fun x => by
      unfold visP brkOf
      exact ⟨fun ⟨w, h1, h2, h3⟩ => ⟨w, h1, h2, by rw [← h w h1 h2]; exact h3⟩, fun ⟨w, h1, h2, h3⟩ => ⟨w, h1, h2, by rw [h w h1 h2]; exact h3⟩⟩
    unfold coreOf
    rw [hv, ht0]
/-- from the number of characters on nothing is visible -/
theorem visP_cut {ns : List Int} (ht : Txt' ns) {lo hi x : Int} (hl : lo ≤ hi) : visP ns (if total ns < lo then total ns else lo) (if total ns < hi then total ns else hi) x ↔ visP ns lo hi x := by
  unfold visP
  constructor
  · rintro ⟨w, h1, h2, h3⟩
    by_cases c : total ns ≤ w
    · rw [brk_wide ht c] at h3
      cases h3
    · refine ⟨w, ?_, ?_, h3⟩
      · split at h1 <;> omega
      · split at h2 <;> omega
  · rintro ⟨w, h1, h2, h3⟩
    by_cases c : total ns ≤ w
    · rw [brk_wide ht c] at h3
      cases h3
    · refine ⟨w, ?_, ?_, h3⟩
      · split <;> omega
      · split <;> omega
end Wc

/-! all([..]) over zips of tuples. -/
namespace Wc
open PySem PySem.Spec PyProof.Rows L2
theorem lc_allZT {K : PySem.W.Frag} {a b D : Addr} {xs ys : List V} {j k : Nat} {te : TE} {vs : List Nat} {σ : L2.St} {H1 : Hp} {Qd : Hp → Prop} (hl : ys.length = xs.length) (hz : xs.length ≤ sizeLine) (hA : SqT K H1 a xs) (hB : SqT K H1 b ys) (nD : H1 D = Option.none)
    (hs : ∀ (i : Nat) (x y : V) (H' : Hp), xs[i]? = some x → ys[i]? = some y → Same H1 H' → Evs te (((wipe σ vs).set j (some x)).set k (some y)) H' (.bl true)) (hd : ∀ H', Same H1 H' → H' D = some (.lst ((List.replicate xs.length true).map V.bl)) → Qd H')
    (hw : ∀ x y : V, wipe (((wipe σ vs).set j (some x)).set k (some y)) vs = wipe σ vs := by intro x y; rfl) :
    ∃ W : Nat → Nat → Hp → Prop, (∃ m, W 0 m (upd H1 D (.lst []))) ∧ ∀ i m H, W i m H →
      ((RZ.ItzT K a b).stop i H ∧ Qd H) ∨ ((RZ.ItzT K a b).go i H ∧ ∃ Nx : Hp → Prop, (∀ H', Nx H' → ∃ m', m' < m ∧ W (i + 1) m' H') ∧ ∀ x H', (RZ.ItzT K a b).yld i H x H' → gTup K 2 (gCons (gName j) (gCons (gName k) gNil)) x (wipe σ vs) H' fun σ2 H2 => wipe σ2 vs = wipe σ vs ∧ tYes σ2 H2 fun b H3 =>
        if b = true then te σ2 H3 fun y H4 => ∃ acc, H4 D = some (.lst acc) ∧ acc.length < sizeLine ∧ Nx (upd H4 D (.lst (acc ++ [y]))) else Nx H3) := by
  refine lc_it (n := xs.length) (walk_zipTT hl) (fun i H => Same H1 H ∧ H D = some (.lst ((List.replicate i true).map V.bl))) ⟨same_new nD, upd_same⟩ (fun i H _ hp => ⟨SqT.same hp.1 hA, SqT.same hp.1 hB⟩) ?_ ?_
  · rintro i v H H' hi ⟨sm, eD⟩ ⟨T, x, y, rfl, nT, rfl, hx, hy⟩
    have sT : Same H (upd H T (.tup [x, y])) := same_new nT
    refine ⟨T, [x, y], rfl, .inl (.inl upd_same), rfl, x, [y], rfl, y, [], rfl, rfl, hw x y, ?_⟩
    unfold tYes
    dsimp only
    rw [if_pos rfl]
    refine hs i x y _ hx hy (sm.trans sT) _ fun H3 s3 => ⟨_, s3 _ _ (sT _ _ eD), by rw [List.length_map, List.length_replicate]; omega, same_mut ((sm.trans sT).trans s3) nD, ?_⟩
    rw [upd_same, List.replicate_succ', List.map_append]
    rfl
  · rintro H ⟨sm, eD⟩
    exact hd H sm eD
theorem all_true (n : Nat) : (List.replicate n true).all id = true := by
  rw [List.all_eq_true]
  intro x hx
  rw [(List.mem_replicate.mp hx).2]
  rfl
end Wc

/-! sorted keys; cores by their spaces. -/
namespace Wc
open PySem PySem.Spec PyProof.Rows L2
theorem vis_sorted {ns ks ys : List Int} {lo hi : Int} (ht : Txt' ns) (k2 : ks.Nodup) (hp : ys.Perm ks) (ha : ys.Pairwise (· ≤ ·)) (k3 : ∀ x, x ∈ ks ↔ visP ns lo hi x) : ys = visL ns lo hi := by
  refine asc_ext ?_ (visL_asc ht lo hi) fun z => ?_
  · have hnd : ys.Nodup := hp.nodup_iff.mpr k2
    exact (ha.and hnd).imp fun ⟨h1, h2⟩ => by omega
  · rw [hp.mem_iff, k3, mem_visL ht]
/-- the lengths between spaces -/
theorem core_get {seen : List Int} {size : Int} {i : Nat} {b e : Int} (hb : ([-1] ++ seen)[i]? = some b) (he : (seen ++ [size])[i]? = some e) : (lengthsOf (seen ++ [size]))[i]? = some (e - b - 1) := by
  have h1 : (0 :: (seen ++ [size]).dropLast.map (· + 1))[i]? = some (b + 1) := by
    rw [List.dropLast_concat]
    have : (0 :: seen.map (· + 1)) = ([-1] ++ seen).map (· + 1) := rfl
    rw [this, List.getElem?_map, hb]
    rfl
  rw [show e - b - 1 = e - (b + 1) by omega]
  exact lenFrom_at _ _ _ _ _ h1 he
theorem lengths_len (es : List Int) : (lengthsOf es).length = es.length := lenFrom_len _ _
theorem total_lo {ns : List Int} (ht : Txt' ns) : 1 ≤ total ns := (ends_max ht _ (List.mem_of_getLast? (endsOf_last ht.1))).1
/-- texts and lists of ints, as data -/
theorem nc_txt {ns : List Int} (ht : Txt' ns) : Nc 3003 1 (.list (ns.map .int)) := Nc.intsS ht.len ht.tiny
theorem nc_vis {ns : List Int} (ht : Txt' ns) (lo hi : Int) : Nc 3003 1 (.list ((visL ns lo hi).map .int)) := Nc.intsS (visL_len ht lo hi) fun m hm => by
  have := visL_rng ht hm
  have := ht.2.2
  omega
end Wc

/-! the number of fitting texts, and of texts that are alike. -/
namespace Wc
open PySem PySem.Spec PyProof.Rows L2
/-- [e for i in range(..)], e giving new data -/
theorem lc_mapDR {K : PySem.W.Frag} {D : Addr} {lo : Int} {n j : Nat} {te : TE} {vs : List Nat} {σ : L2.St} {H1 : Hp} {Qd : Hp → Prop} (ds : List PyData) (hl : ds.length = n) (hz : n ≤ sizeLine) (nD : H1 D = Option.none)
    (hs : ∀ (i : Nat) (d : PyData) (H' : Hp), i < n → ds[i]? = some d → Same H1 H' → (∃ o, H' D = some o) → ∀ Q : VK, (∀ y H2, Same H' H2 → (∀ H3, (∀ b o, b ≠ D → H2 b = some o → H3 b = some o) → Dp K H3 y d) → Q y H2) → te ((wipe σ vs).set j (some (.int (lo + i)))) H' Q)
    (hd : ∀ H' acc, Same H1 H' → H' D = some (.lst acc) → DpAll K H' acc ds → Qd H')
    (hw : ∀ x : V, wipe ((wipe σ vs).set j (some x)) vs = wipe σ vs := by intro x; rfl) :
    ∃ W : Nat → Nat → Hp → Prop, (∃ m, W 0 m (upd H1 D (.lst []))) ∧ ∀ i m H, W i m H →
      ((Itr lo n).stop i H ∧ Qd H) ∨ ((Itr lo n).go i H ∧ ∃ Nx : Hp → Prop, (∀ H', Nx H' → ∃ m', m' < m ∧ W (i + 1) m' H') ∧ ∀ x H', (Itr lo n).yld i H x H' → gName j x (wipe σ vs) H' fun σ2 H2 => wipe σ2 vs = wipe σ vs ∧ tYes σ2 H2 fun b H3 =>
        if b = true then te σ2 H3 fun y H4 => ∃ acc, H4 D = some (.lst acc) ∧ acc.length < sizeLine ∧ Nx (upd H4 D (.lst (acc ++ [y]))) else Nx H3) := by
  refine lc_genR (fun i acc H => Same H1 H ∧ ∀ H3, (∀ b o, b ≠ D → H b = some o → H3 b = some o) → DpAll K H3 acc (ds.take i)) hz ⟨same_new nD, fun _ _ => .nil⟩ ?_ ?_ hw
  · rintro i acc H hi ha ⟨sm, hp⟩ eD Q k
    have hdd : ds[i]? = some (ds[i]'(by omega)) := List.getElem?_eq_getElem (by omega)
    refine hs i _ H hi hdd sm ⟨_, eD⟩ Q fun y H2 s2 hy => k y H2 (s2 _ _ eD) ⟨same_mut (sm.trans s2) nD, fun H3 s3 => ?_⟩
    have s23 : ∀ b o, b ≠ D → H2 b = some o → H3 b = some o := fun b o nb e => s3 b o nb (by rw [upd_ne nb]; exact e)
    rw [List.take_add_one, hdd]
    exact DpAll.snoc (hp H3 fun b o nb e => s23 b o nb (s2 b o e)) (hy H3 s23)
  · rintro acc H ha ⟨sm, hp⟩ eD
    refine hd H acc sm eD ?_
    have := hp H fun b o _ e => e
    rwa [← hl, List.take_length] at this
theorem everyF_nodup : ∀ (f : Nat) (T : Int), (everyF f T).Nodup
  | 0, _ => .nil
  | f + 1, T => by
    rw [everyF, List.nodup_cons]
    constructor
    · intro hm
      obtain ⟨s, hs, h⟩ := List.mem_flatMap.mp hm
      obtain ⟨r, hr, e⟩ := List.mem_map.mp h
      rw [mem_rngI] at hs
      cases f with
      | zero => cases hr
      | succ f =>
        cases r with
        | nil =>
          rw [everyF] at hr
          rcases List.mem_cons.mp hr with h | h
          · cases h
          · obtain ⟨_, _, h⟩ := List.mem_flatMap.mp h
            obtain ⟨_, _, h⟩ := List.mem_map.mp h
            cases h
        | cons a r =>
          injection e with _ e
          cases e
    · refine List.pairwise_flatMap.mpr ⟨fun s _ => ?_, ?_⟩
      · exact List.pairwise_map.mpr ((everyF_nodup f (T - s - 1)).imp fun h e => h (List.cons.inj e).2)
      · refine (rngI_asc 1 (T - 1)).imp fun {a b} hab x hx y hy e => ?_
        obtain ⟨r, _, rfl⟩ := List.mem_map.mp hx
        obtain ⟨u, _, rfl⟩ := List.mem_map.mp hy
        have := (List.cons.inj e).1
        omega
theorem every_nodup (T : Int) : (everyOf T).Nodup := everyF_nodup _ _
/-- as many texts fit as the pattern counts -/
theorem count_fit {n : Int} {ss : List Scr} (h : Scrs n ss) (hc : NoClash ss) : ((everyOf n).filter fun ws => fitsOf n ss ws).length = countOf n ss := by
  have hn := h.len
  have hp : ((everyOf n).filter fun ws => fitsOf n ss ws).Perm ((List.range (countOf n ss)).map (nthOf n ss)) := by
    refine (List.perm_ext_iff_of_nodup ((every_nodup n).filter _) ?_).mpr fun ws => ?_
    · refine List.pairwise_map.mpr ?_
      refine List.Pairwise.imp_of_mem ?_ (List.nodup_range (n := countOf n ss))
      intro a b ha hb hab e
      exact hab (nth_inj h hc (List.mem_range.mp ha) (List.mem_range.mp hb) e)
    · rw [List.mem_filter, mem_every hn.1 hn.2, List.mem_map]
      constructor
      · rintro ⟨⟨t1, t2⟩, hf⟩
        obtain ⟨h1, h2⟩ := nth_index h hc t1 t2 hf
        exact ⟨_, List.mem_range.mpr h1, h2⟩
      · rintro ⟨k, hk, rfl⟩
        obtain ⟨t1, t2, _, t4⟩ := nth_fits h hc (List.mem_range.mp hk)
        exact ⟨⟨t1, t2⟩, t4⟩
  rw [hp.length_eq, List.length_map, List.length_range]
/-- equal numbers where the same texts fit -/
theorem count_same {n : Int} {ss ss' : List Scr} (h : Scrs n ss) (hc : NoClash ss) (h' : Scrs n ss') (hc' : NoClash ss') (e : ∀ ws, Txt' ws → total ws = n → fitsOf n ss ws = fitsOf n ss' ws) : countOf n ss = countOf n ss' := by
  have hn := h.len
  rw [← count_fit h hc, ← count_fit h' hc']
  congr 1
  refine List.filter_congr fun ws hw => ?_
  obtain ⟨t1, t2⟩ := (mem_every hn.1 hn.2).mp hw
  exact e ws t1 t2
/-- the screens that a text shows at some widths -/
def scrsAt (ns : List Int) (W : List Int) : List Scr := W.map fun w => (w, lawWrap ns w)
theorem scrsAt_ok {ns W : List Int} (ht : Txt' ns) (h0 : W ≠ []) (hw : ∀ w ∈ W, 1 ≤ w ∧ w ≤ 1000) : Scrs (total ns) (scrsAt ns W) ∧ NoClash (scrsAt ns W) := by
  have hs : Scrs (total ns) (scrsAt ns W) := by
    refine ⟨fun e => h0 (List.map_eq_nil_iff.mp e), fun s hs => ?_⟩
    obtain ⟨w, hm, rfl⟩ := List.mem_map.mp hs
    exact ⟨(hw w hm).1, (hw w hm).2, ht.wrap w⟩
  refine ⟨hs, fits_noClash hs ht rfl (wraps_fit fun s h => ?_)⟩
  obtain ⟨w, _, rfl⟩ := List.mem_map.mp h
  rfl
theorem fits_scrsAt {ns W ws : List Int} : fitsOf (total ns) (scrsAt ns W) ws = true ↔ total ws = total ns ∧ ∀ w ∈ W, lawWrap ws w = lawWrap ns w := by
  rw [fits_wraps]
  refine and_congr_right fun _ => ⟨fun h w hw => h (w, lawWrap ns w) (List.mem_map.mpr ⟨w, hw, rfl⟩), fun h s hs => ?_⟩
  obtain ⟨w, hw, rfl⟩ := List.mem_map.mp hs
  exact h w hw
/-- wraps at the widths of a range, and at those up to the number of characters -/
theorem wraps_cut {ns ms : List Int} (ht : Txt' ns) (hm : Txt' ms) (hn : total ms = total ns) {lo hi : Int} (hl : lo ≤ hi) : (∀ w ∈ rngI (if total ns < lo then total ns else lo) ((if total ns < hi then total ns else hi) + 1), lawWrap ms w = lawWrap ns w) ↔ ∀ w ∈ rngI lo (hi + 1), lawWrap ms w = lawWrap ns w := by
  constructor
  · intro h w hw
    rw [mem_rngI] at hw
    by_cases c : total ns ≤ w
    · rw [lawWrap_one ht c, lawWrap_one hm (by omega), hn]
    · refine h w (mem_rngI.mpr ⟨?_, ?_⟩)
      · split <;> omega
      · split <;> omega
  · intro h w hw
    rw [mem_rngI] at hw
    by_cases c : total ns ≤ w
    · rw [lawWrap_one ht c, lawWrap_one hm (by omega), hn]
    · refine h w (mem_rngI.mpr ⟨?_, ?_⟩)
      · have := hw.1
        split at this <;> omega
      · have := hw.2
        split at this <;> omega
def cutW' (t w : Int) : Int := if t < w then t else w
def rngW (ns : List Int) (lo hi : Int) : List Int := rngI (cutW' (total ns) lo) (cutW' (total ns) hi + 1)
theorem rngW_ok {ns : List Int} (ht : Txt' ns) {lo hi : Int} (h1 : 1 ≤ lo) (h2 : lo ≤ hi) (h3 : hi ≤ 1000) : rngW ns lo hi ≠ [] ∧ ∀ w ∈ rngW ns lo hi, 1 ≤ w ∧ w ≤ 1000 := by
  have h0 := total_lo ht
  unfold rngW cutW'
  constructor
  · intro e
    have := congrArg List.length e
    rw [rngI_len, List.length_nil] at this
    split at this <;> split at this <;> omega
  · intro w hw
    rw [mem_rngI] at hw
    obtain ⟨a, b⟩ := hw
    split at a <;> split at b <;> omega
/-- how many texts are alike -/
def alikeN (ns : List Int) (lo hi : Int) : Nat := countOf (total ns) (scrsAt ns (rngW ns lo hi))
theorem rng_ok {lo hi : Int} (h1 : 1 ≤ lo) (h2 : lo ≤ hi) (h3 : hi ≤ 1000) : rngI lo (hi + 1) ≠ [] ∧ ∀ w ∈ rngI lo (hi + 1), 1 ≤ w ∧ w ≤ 1000 := by
  constructor
  · intro e
    have := congrArg List.length e
    rw [rngI_len, List.length_nil] at this
    omega
  · intro w hw
    rw [mem_rngI] at hw
    omega
theorem fits_cut {ns ws : List Int} (ht : Txt' ns) (hw : Txt' ws) {lo hi : Int} (h2 : lo ≤ hi) : fitsOf (total ns) (scrsAt ns (rngW ns lo hi)) ws = fitsOf (total ns) (scrsAt ns (rngI lo (hi + 1))) ws := by
  rw [Bool.eq_iff_iff, fits_scrsAt, fits_scrsAt]
  refine and_congr_right fun hn => ?_
  exact wraps_cut ht hw hn h2
theorem alike_count {ns : List Int} (ht : Txt' ns) {lo hi : Int} (h1 : 1 ≤ lo) (h2 : lo ≤ hi) (h3 : hi ≤ 1000) : alikeN ns lo hi = countOf (total ns) (scrsAt ns (rngI lo (hi + 1))) := by
  obtain ⟨a1, a2⟩ := rngW_ok ht h1 h2 h3
  obtain ⟨b1, b2⟩ := rng_ok h1 h2 h3
  obtain ⟨s1, s2⟩ := scrsAt_ok ht a1 a2
  obtain ⟨u1, u2⟩ := scrsAt_ok ht b1 b2
  exact count_same s1 s2 u1 u2 fun ws hw _ => fits_cut ht hw h2
end Wc

/-! dicts of keys alone. -/
namespace Wc
open PySem PySem.Spec PyProof.Rows L2
/-- {x: True for x in range(..)} -/
theorem dc_trueR {D : Addr} {lo : Int} {n j : Nat} {tk tv : TE} {vs : List Nat} {σ : L2.St} {H1 : Hp} {Qd : Hp → Prop} (hz : n ≤ 100000) (nD : H1 D = Option.none)
    (hk : ∀ (i : Nat) (H' : Hp), Evs tk ((wipe σ vs).set j (some (.int (lo + i)))) H' (.int (lo + i))) (hv : ∀ (x : V) (H' : Hp), Evs tv ((wipe σ vs).set j (some x)) H' (.bl true))
    (hd : ∀ H' ps, Same H1 H' → H' D = some (.dK (putAll ps)) → ps.length = n → ps.map (·.1) = (rngI lo (lo + n)).map Sum.inl → Qd H') (hw : ∀ x : V, wipe ((wipe σ vs).set j (some x)) vs = wipe σ vs := by intro x; rfl) :
    ∃ W : Nat → Nat → Hp → Prop, (∃ m, W 0 m (upd H1 D (.dK []))) ∧ ∀ i m H, W i m H →
      ((Itr lo n).stop i H ∧ Qd H) ∨ ((Itr lo n).go i H ∧ ∃ Nx : Hp → Prop, (∀ H', Nx H' → ∃ m', m' < m ∧ W (i + 1) m' H') ∧ ∀ x H', (Itr lo n).yld i H x H' → gName j x (wipe σ vs) H' fun σ2 H2 => wipe σ2 vs = wipe σ vs ∧ tYes σ2 H2 fun b H3 =>
        if b = true then tk σ2 H3 fun y H4 => tv σ2 H4 fun z H5 => ∃ kvs k, y = kV k ∧ H5 D = some (.dK kvs) ∧ kvs.length < sizeLine ∧ Nx (upd H5 D (.dK (putK kvs k z))) else Nx H3) := by
  have hz' : sizeLine = 16777216 := by decide
  refine dc_it (walk_range (lo := lo) (n := n)) (fun k H' => Same H1 H' ∧ ∃ ps, H' D = some (.dK (putAll ps)) ∧ ps.length = k ∧ ps.map (·.1) = ((rngI lo (lo + n)).take k).map Sum.inl) ⟨same_new nD, [], upd_same, rfl, rfl⟩ (fun k H' _ hh => trivial) ?_ ?_
  · rintro k x H7 H8 hk' ⟨s7, ps, eD, hpl, hpd⟩ ⟨rfl, rfl⟩
    refine ⟨hw _, ?_⟩
    unfold tYes
    dsimp only
    rw [if_pos rfl]
    have hg := rngI_get (a := lo) (b := lo + n) (i := k) (by omega)
    refine hk k _ _ fun H9 s9 => ?_
    refine hv _ _ _ fun HA sA => ?_
    refine ⟨putAll ps, Sum.inl (lo + (k : Int)), rfl, sA _ _ (s9 _ _ eD), ?_, same_mut ((s7.trans s9).trans sA) nD, ps ++ [(Sum.inl (lo + (k : Int)), .bl true)], ?_, ?_, ?_⟩
    · have := putAll_len ps
      omega
    · rw [putAll_snoc]
      exact upd_same
    · rw [List.length_append]
      show _ + 1 = _
      omega
    · rw [List.map_append, hpd, take_succ_get hg, List.map_append]
      rfl
  · rintro H7 ⟨s7, ps, eD, hpl, hpd⟩
    refine hd H7 ps s7 eD hpl ?_
    rw [hpd, List.take_of_length_le (by rw [rngI_len]; omega)]
/-- {x: True for x in xs} -/
theorem dc_trueL {K : PySem.W.Frag} {a D : Addr} {xs : List Int} {j : Nat} {tk tv : TE} {vs : List Nat} {σ : L2.St} {H1 : Hp} {Qd : Hp → Prop} (hz : xs.length ≤ 100000) (hS : SqL K H1 a (iV xs)) (nD : H1 D = Option.none)
    (hk : ∀ (z : Int) (H' : Hp), Evs tk ((wipe σ vs).set j (some (.int z))) H' (.int z)) (hv : ∀ (x : V) (H' : Hp), Evs tv ((wipe σ vs).set j (some x)) H' (.bl true))
    (hd : ∀ H' ps, Same H1 H' → H' D = some (.dK (putAll ps)) → ps.length = xs.length → ps.map (·.1) = xs.map Sum.inl → Qd H') (hw : ∀ x : V, wipe ((wipe σ vs).set j (some x)) vs = wipe σ vs := by intro x; rfl) :
    ∃ W : Nat → Nat → Hp → Prop, (∃ m, W 0 m (upd H1 D (.dK []))) ∧ ∀ i m H, W i m H →
      ((Itl K a).stop i H ∧ Qd H) ∨ ((Itl K a).go i H ∧ ∃ Nx : Hp → Prop, (∀ H', Nx H' → ∃ m', m' < m ∧ W (i + 1) m' H') ∧ ∀ x H', (Itl K a).yld i H x H' → gName j x (wipe σ vs) H' fun σ2 H2 => wipe σ2 vs = wipe σ vs ∧ tYes σ2 H2 fun b H3 =>
        if b = true then tk σ2 H3 fun y H4 => tv σ2 H4 fun z H5 => ∃ kvs k, y = kV k ∧ H5 D = some (.dK kvs) ∧ kvs.length < sizeLine ∧ Nx (upd H5 D (.dK (putK kvs k z))) else Nx H3) := by
  have hz' : sizeLine = 16777216 := by decide
  refine dc_it (walk_list (xs := iV xs)) (fun k H' => Same H1 H' ∧ ∃ ps, H' D = some (.dK (putAll ps)) ∧ ps.length = k ∧ ps.map (·.1) = (xs.take k).map Sum.inl) ⟨same_new nD, [], upd_same, rfl, rfl⟩ (fun k H' _ hh => hh.1.seq hS) ?_ ?_
  · rintro k x H7 H8 hk' ⟨s7, ps, eD, hpl, hpd⟩ ⟨rfl, hx7⟩
    rw [List.length_map] at hk'
    obtain ⟨y, hy, rfl⟩ := ints_get hx7
    refine ⟨hw _, ?_⟩
    unfold tYes
    dsimp only
    rw [if_pos rfl]
    refine hk y _ _ fun H9 s9 => ?_
    refine hv _ _ _ fun HA sA => ?_
    refine ⟨putAll ps, Sum.inl y, rfl, sA _ _ (s9 _ _ eD), ?_, same_mut ((s7.trans s9).trans sA) nD, ps ++ [(Sum.inl y, .bl true)], ?_, ?_, ?_⟩
    · have := putAll_len ps
      omega
    · rw [putAll_snoc]
      exact upd_same
    · rw [List.length_append]
      show _ + 1 = _
      omega
    · rw [List.map_append, hpd, take_succ_get hy, List.map_append]
      rfl
  · rintro H7 ⟨s7, ps, eD, hpl, hpd⟩
    rw [List.length_map] at hpl
    rw [List.length_map, List.take_length] at hpd
    exact hd H7 ps s7 eD hpl hpd
theorem KS.mergeL {kvs : List (Key × V)} {S : Int → Prop} {ps : List (Key × V)} {xs : List Int} (h : KS kvs S) (hp : ps.map (·.1) = xs.map Sum.inl) : KS (mergeK kvs (putAll ps)) (fun x => S x ∨ x ∈ xs) := by
  refine (h.merge fun pr hpr => ?_).congr fun x => or_congr_right ?_
  · have hm := mem_putAll hpr
    have : pr.1 ∈ ps.map (·.1) := List.mem_map.mpr ⟨pr, hm, rfl⟩
    rw [hp] at this
    obtain ⟨y, hy, e⟩ := List.mem_map.mp this
    exact ⟨y, e.symm⟩
  · rw [keys_putAll]
    constructor
    · rintro ⟨pr, hpr, e⟩
      have : pr.1 ∈ ps.map (·.1) := List.mem_map.mpr ⟨pr, hpr, rfl⟩
      rw [hp, e] at this
      obtain ⟨y, hy, e2⟩ := List.mem_map.mp this
      rw [← Sum.inl.inj e2]
      exact hy
    · intro h
      have : (Sum.inl x : Key) ∈ ps.map (·.1) := by
        rw [hp]
        exact List.mem_map.mpr ⟨x, h, rfl⟩
      obtain ⟨pr, hpr, e⟩ := List.mem_map.mp this
      exact ⟨pr, hpr, e⟩
theorem KS.putL : ∀ {ps : List (Key × V)} {xs : List Int} {kvs : List (Key × V)} {S : Int → Prop}, KS kvs S → ps.map (·.1) = xs.map Sum.inl → KS (ps.foldl (fun acc kv => putK acc kv.1 kv.2) kvs) (fun x => S x ∨ x ∈ xs)
  | [], [], _, _, h, _ => h.congr fun x => by simp
  | [], _ :: _, _, _, _, e => by cases e
  | _ :: _, [], _, _, _, e => by cases e
  | (k, v) :: ps, y :: xs, kvs, S, h, e => by
    have e1 : k = Sum.inl y := (List.cons.inj e).1
    subst e1
    have := KS.putL (h.put y v) (List.cons.inj e).2
    refine KS.congr this fun x => ?_
    rw [List.mem_cons, or_assoc]
theorem KS.all {ps : List (Key × V)} {xs : List Int} (hp : ps.map (·.1) = xs.map Sum.inl) : KS (putAll ps) (fun x => x ∈ xs) := (KS.nil.putL hp).congr fun x => by simp
theorem KS.has {kvs : List (Key × V)} {S : Int → Prop} (h : KS kvs S) (x : Int) : (valV kvs (Sum.inl x)).isSome = true ↔ S x := by
  obtain ⟨ks, h1, h2, h3⟩ := h
  rw [← h3]
  constructor
  · intro hs
    obtain ⟨v, hv⟩ := Option.isSome_iff_exists.mp hs
    have hm := valV_mem hv
    have : (Sum.inl x : Key) ∈ kvs.map (·.1) := List.mem_map.mpr ⟨_, hm, rfl⟩
    rw [h1] at this
    obtain ⟨y, hy, e⟩ := List.mem_map.mp this
    rw [← Sum.inl.inj e]
    exact hy
  · intro hx
    have : (Sum.inl x : Key) ∈ kvs.map (·.1) := by
      rw [h1]
      exact List.mem_map.mpr ⟨x, hx, rfl⟩
    obtain ⟨p, hp, e⟩ := List.mem_map.mp this
    cases hv : valV kvs (Sum.inl x) with
    | some v => rfl
    | none =>
      exfalso
      unfold valV at hv
      have hn := List.find?_eq_none.mp (Option.map_eq_none_iff.mp hv) p hp
      exact hn (decide_eq_true e)
end Wc

/-! the pattern of the texts that are alike. -/
namespace Wc
open PySem PySem.Spec PyProof.Rows L2
/-- letters because of a line's room or length -/
def linL (ns : List Int) (w x : Int) : Prop := ∃ l ∈ scrLines (w, lawWrap ns w), x ∈ letS l "long" ∨ x ∈ letS l "room"
def setP (ns : List Int) (lo hi x : Int) : Prop := (x = 0 ∨ x = total ns - 1) ∨ ∃ w ∈ rngW ns lo hi, linL ns w x
def letP (ns : List Int) (lo hi x : Int) : Prop := setP ns lo hi x ∨ ∃ z ∈ visL ns lo hi, x = z - 1 ∨ x = z + 1
theorem scrsAt_ex {ns W : List Int} {P : Ln → Prop} : (∃ s ∈ scrsAt ns W, ∃ l ∈ scrLines s, P l) ↔ ∃ w ∈ W, ∃ l ∈ scrLines (w, lawWrap ns w), P l := by
  constructor
  · rintro ⟨s, hs, h⟩
    obtain ⟨w, hw, rfl⟩ := List.mem_map.mp hs
    exact ⟨w, hw, h⟩
  · rintro ⟨w, hw, h⟩
    exact ⟨_, List.mem_map.mpr ⟨w, hw, rfl⟩, h⟩
theorem line_end {ns : List Int} (ht : Txt' ns) {w e : Int} (h : e ∈ endsOf (lawWrap ns w)) : ∃ l ∈ scrLines (w, lawWrap ns w), l.e = e := by
  obtain ⟨i, hi⟩ := List.getElem?_of_mem h
  obtain ⟨a, _, hl⟩ := scrLine_of (s := (w, lawWrap ns w)) hi
  exact ⟨_, List.mem_of_getElem? hl, rfl⟩
theorem line_end' {ns : List Int} {w : Int} {l : Ln} (h : l ∈ scrLines (w, lawWrap ns w)) : l.e ∈ endsOf (lawWrap ns w) := by
  obtain ⟨i, a, b, _, h2, rfl⟩ := mem_scrLines.mp h
  exact List.mem_of_getElem? h2
theorem vis_rngW {ns : List Int} (ht : Txt' ns) {lo hi x : Int} (h2 : lo ≤ hi) : x ∈ visL ns lo hi ↔ ∃ w ∈ rngW ns lo hi, x ∈ brkOf ns w := by
  rw [mem_visL ht, ← visP_cut ht h2]
  unfold visP rngW cutW'
  constructor
  · rintro ⟨w, w1, w2, h⟩
    exact ⟨w, mem_rngI.mpr ⟨w1, by omega⟩, h⟩
  · rintro ⟨w, hw, h⟩
    obtain ⟨w1, w2⟩ := mem_rngI.mp hw
    exact ⟨w, w1, by omega, h⟩
theorem alike_sign {ns : List Int} (ht : Txt' ns) {lo hi x : Int} (h1 : 1 ≤ lo) (h2 : lo ≤ hi) (h3 : hi ≤ 1000) (xn : x < total ns) :
    (x ∈ visL ns lo hi → signC (scrsAt ns (rngW ns lo hi)) x = 95) ∧ (x ∉ visL ns lo hi → letP ns lo hi x → signC (scrsAt ns (rngW ns lo hi)) x = 120) ∧ (x ∉ visL ns lo hi → ¬ letP ns lo hi x → signC (scrsAt ns (rngW ns lo hi)) x = 63) := by
  obtain ⟨a1, a2⟩ := rngW_ok ht h1 h2 h3
  obtain ⟨s1, s2⟩ := scrsAt_ok ht a1 a2
  have hE : IsEnd (numL (scrsAt ns (rngW ns lo hi))) x ↔ x ∈ visL ns lo hi := by
    unfold IsEnd
    rw [num_ex (P := fun l => l.e = x), scrsAt_ex (P := fun l => l.e = x), vis_rngW ht h2]
    constructor
    · rintro ⟨w, hw, l, hl, rfl⟩
      exact ⟨w, hw, (brk_mem ht).mpr ⟨line_end' hl, xn⟩⟩
    · rintro ⟨w, hw, h⟩
      obtain ⟨l, hl, e⟩ := line_end ht ((brk_mem ht).mp h).1
      exact ⟨w, hw, l, hl, e⟩
  have hL : IsLet (numL (scrsAt ns (rngW ns lo hi))) x ↔ letP ns lo hi x := by
    unfold IsLet
    rw [num_ex (P := fun l => ∃ z ∈ kinds2, x ∈ letS l z), scrsAt_ex (P := fun l => ∃ z ∈ kinds2, x ∈ letS l z)]
    constructor
    · rintro (h | ⟨w, hw, l, hl, z, hz, h⟩)
      · exact .inl (.inl (.inl h))
      · simp only [kinds2, List.mem_cons, List.not_mem_nil, or_false] at hz
        rcases hz with rfl | rfl | rfl
        · rw [mem_let_beside] at h
          have he := line_end' hl
          by_cases c : l.e < total ns
          · refine .inr ⟨l.e, (vis_rngW ht h2).mpr ⟨w, hw, (brk_mem ht).mpr ⟨he, c⟩⟩, h⟩
          · have hm := (ends_max (ht.wrap w).1 _ he).2
            rw [(ht.wrap w).2] at hm
            exact .inl (.inl (.inr (by omega)))
        · exact .inl (.inr ⟨w, hw, l, hl, .inr h⟩)
        · exact .inl (.inr ⟨w, hw, l, hl, .inl h⟩)
    · rintro (((h | h) | ⟨w, hw, l, hl, h⟩) | ⟨z, hz, h⟩)
      · exact .inl h
      · obtain ⟨w, r, e⟩ := List.exists_cons_of_ne_nil a1
        have hw : w ∈ rngW ns lo hi := by rw [e]; exact List.mem_cons_self ..
        obtain ⟨t1, t2⟩ := ht.wrap w
        obtain ⟨l, hl, he⟩ := line_end ht (w := w) (e := total ns) (List.mem_of_getLast? (by rw [endsOf_last t1.1, t2]))
        exact .inr ⟨w, hw, l, hl, "beside", by simp [kinds2], mem_let_beside.mpr (.inl (by omega))⟩
      · rcases h with h | h
        · exact .inr ⟨w, hw, l, hl, "long", by simp [kinds2], h⟩
        · exact .inr ⟨w, hw, l, hl, "room", by simp [kinds2], h⟩
      · obtain ⟨w, hw, hb⟩ := (vis_rngW ht h2).mp hz
        obtain ⟨l, hl, he⟩ := line_end ht ((brk_mem ht).mp hb).1
        exact .inr ⟨w, hw, l, hl, "beside", by simp [kinds2], mem_let_beside.mpr (by rw [he]; exact h)⟩
  rcases signC_cases s1 s2 x with ⟨c1, c2, c3⟩ | ⟨c1, c2, c3⟩ | ⟨c1, c2, c3⟩
  · exact ⟨fun _ => c3, fun h => (h (hE.mp c1)).elim, fun h => (h (hE.mp c1)).elim⟩
  · exact ⟨fun h => (c1 (hE.mpr h)).elim, fun _ _ => c3, fun _ h => (h (hL.mp c2)).elim⟩
  · exact ⟨fun h => (c1 (hE.mpr h)).elim, fun _ h => (c2 (hL.mpr h)).elim, fun _ _ => c3⟩
/-- signs for the positions -/
def sgN (n : Int) (f : Int → Nat) : List Str := (rngI 0 n).map fun x => unitS (f x)
theorem sgN_len (n : Int) (f : Int → Nat) : (sgN n f).length = n.toNat := by
  unfold sgN
  rw [List.length_map, rngI_len]
  omega
theorem sgN_get {n : Int} {f : Int → Nat} {i : Nat} (h : (i : Int) < n) : (sgN n f)[i]? = some (unitS (f (i : Int))) := by
  unfold sgN
  rw [List.getElem?_map, rngI_get (by omega)]
  show some (unitS (f (0 + (i : Int)))) = _
  rw [Int.zero_add]
theorem sgN_set {n : Int} {f : Int → Nat} {z : Int} {c : Nat} (h1 : 0 ≤ z) (h2 : z < n) : (sgN n f).set z.toNat (unitS c) = sgN n fun x => if x = z then c else f x := by
  refine List.ext_getElem? fun i => ?_
  by_cases hi : (i : Int) < n
  · rw [List.getElem?_set, sgN_get hi, sgN_get hi, sgN_len]
    by_cases e : z.toNat = i
    · rw [if_pos e, if_pos (by omega), if_pos (by omega)]
    · rw [if_neg e, if_neg (by omega)]
  · rw [List.getElem?_eq_none (by rw [List.length_set, sgN_len]; omega), List.getElem?_eq_none (by rw [sgN_len]; omega)]
theorem sgN_congr {n : Int} {f g : Int → Nat} (h : ∀ x, 0 ≤ x → x < n → f x = g x) : sgN n f = sgN n g := by
  unfold sgN
  refine List.map_congr_left fun x hx => ?_
  rw [mem_rngI] at hx
  rw [h x hx.1 hx.2]
theorem sgN_pat (n : Int) (ss : List Scr) : sgN n (signC ss) = patL n ss := by
  unfold sgN patL
  exact List.map_congr_left fun x _ => (signC_unit ss x).symm
theorem sgN_sum (n : Int) (f : Int → Nat) : ((sgN n f).map (·.length)).sum = n.toNat := by
  unfold sgN
  rw [List.map_map]
  have : ∀ xs : List Int, (xs.map ((fun x : Str => x.length) ∘ fun x => unitS (f x))).sum = xs.length := by
    intro xs
    induction xs with
    | nil => rfl
    | cons x xs ih =>
      rw [List.map_cons, List.sum_cons, ih, List.length_cons]
      show 1 + _ = _
      omega
  rw [this, rngI_len]
  omega
theorem sgN_join (n : Int) (ss : List Scr) : Txt.join ("" : Str) (sgN n (signC ss)) = patS n ss := by
  rw [sgN_pat]
  rfl
end Wc

/-! comprehensions over zips with a test. -/
namespace Wc
open PySem PySem.Spec PyProof.Rows L2
/-- [e for x, y in zip(xs, ys) if t] by places -/
theorem lc_filtZ {K : PySem.W.Frag} {a b D : Addr} {xs ys : List V} {j k : Nat} {tt : TT} {te : TE} {vs : List Nat} {σ : L2.St} {H1 : Hp} {Qd : Hp → Prop} (c : Nat → Bool) (f : Nat → V) (hz : xs.length ≤ sizeLine) (hA : SqL K H1 a xs) (hB : SqL K H1 b ys) (nD : H1 D = Option.none)
    (hs : ∀ (i : Nat) (x y : V) (H' : Hp), xs[i]? = some x → ys[i]? = some y → Same H1 H' → Evt tt (((wipe σ vs).set j (some x)).set k (some y)) H' (c i) ∧ ∀ H2, Same H' H2 → Evs te (((wipe σ vs).set j (some x)).set k (some y)) H2 (f i))
    (hd : ∀ H', Same H1 H' → H' D = some (.lst (((List.range (min xs.length ys.length)).filter c).map f)) → Qd H')
    (hw : ∀ x y : V, wipe (((wipe σ vs).set j (some x)).set k (some y)) vs = wipe σ vs := by intro x y; rfl) :
    ∃ W : Nat → Nat → Hp → Prop, (∃ m, W 0 m (upd H1 D (.lst []))) ∧ ∀ i m H, W i m H →
      ((Itz K a b).stop i H ∧ Qd H) ∨ ((Itz K a b).go i H ∧ ∃ Nx : Hp → Prop, (∀ H', Nx H' → ∃ m', m' < m ∧ W (i + 1) m' H') ∧ ∀ x H', (Itz K a b).yld i H x H' → gTup K 2 (gCons (gName j) (gCons (gName k) gNil)) x (wipe σ vs) H' fun σ2 H2 => wipe σ2 vs = wipe σ vs ∧ tt σ2 H2 fun b H3 =>
        if b = true then te σ2 H3 fun y H4 => ∃ acc, H4 D = some (.lst acc) ∧ acc.length < sizeLine ∧ Nx (upd H4 D (.lst (acc ++ [y]))) else Nx H3) := by
  refine lc_it (n := min xs.length ys.length) (walk_zip (xs := xs) (ys := ys) rfl) (fun i H => Same H1 H ∧ H D = some (.lst (((List.range i).filter c).map f))) ⟨same_new nD, upd_same⟩ (fun i H _ hp => ⟨hp.1.seq hA, hp.1.seq hB⟩) ?_ ?_
  · rintro i v H H' hi ⟨sm, eD⟩ ⟨T, x, y, rfl, nT, rfl, hx, hy⟩
    have sT : Same H (upd H T (.tup [x, y])) := same_new nT
    have eDT := sT _ _ eD
    obtain ⟨hk, hf⟩ := hs i x y _ hx hy (sm.trans sT)
    refine ⟨T, [x, y], rfl, .inl (.inl upd_same), rfl, x, [y], rfl, y, [], rfl, rfl, hw x y, ?_⟩
    refine hk _ fun H3 s3 => ?_
    cases e : c i with
    | false =>
      refine iteF ⟨(sm.trans sT).trans s3, ?_⟩
      rw [s3 _ _ eDT, List.range_succ, List.filter_append]
      simp [e]
    | true =>
      refine iteT (hf H3 s3 _ fun H4 s4 => ⟨_, s4 _ _ (s3 _ _ eDT), ?_, ?_, ?_⟩)
      · rw [List.length_map]
        have := List.length_filter_le c (List.range i)
        rw [List.length_range] at this
        omega
      · exact same_mut (((sm.trans sT).trans s3).trans s4) nD
      · rw [upd_same, List.range_succ, List.filter_append, List.map_append]
        simp [e]
  · rintro H ⟨sm, eD⟩
    exact hd H sm eD
theorem none_left {n : Nat} {c : Nat → Bool} : decide (((List.range n).filter c).map (fun _ => (1 : Int)) = []) = decide (∀ i < n, c i = false) := decide_eq_decide.mpr range_none
/-- the places at which the wraps differ -/
def wrMiss (ns W ws : List Int) (i : Nat) : Bool := match W[i]? with
    | some w => !decide (lawWrap ws w = lawWrap ns w)
    | none => false
theorem wrMiss_get {ns W ws : List Int} {i : Nat} {w : Int} (h : W[i]? = some w) : wrMiss ns W ws i = !decide (lawWrap ws w = lawWrap ns w) := by
  unfold wrMiss
  rw [h]
theorem fits_places {ns W ws : List Int} (hn : total ws = total ns) : fitsOf (total ns) (scrsAt ns W) ws = decide (∀ i < W.length, wrMiss ns W ws i = false) := by
  rw [Bool.eq_iff_iff, fits_scrsAt, decide_eq_true_eq]
  constructor
  · rintro ⟨_, h⟩ i hi
    rw [wrMiss_get (List.getElem?_eq_getElem hi), decide_eq_true (h _ (List.getElem_mem hi))]
    rfl
  · intro h
    refine ⟨hn, fun w hw => ?_⟩
    obtain ⟨i, hi, rfl⟩ := List.getElem_of_mem hw
    have := h i hi
    rw [wrMiss_get (List.getElem?_eq_getElem hi)] at this
    simpa using this
end Wc

/-! texts that are alike: separating widths, numbers. -/
namespace Wc
open PySem PySem.Spec PyProof.Rows L2
theorem find_at {α : Type} {p : α → Bool} {xs : List α} {i : Nat} {x : α} (h : (xs.take i).find? p = none) (hx : xs[i]? = some x) (hp : p x = true) : xs.find? p = some x := by
  have hi := (List.getElem?_eq_some_iff.mp hx).1
  have e : xs = xs.take i ++ x :: xs.drop (i + 1) := by
    have h2 := List.take_append_drop i xs
    rw [List.drop_eq_getElem_cons hi, (List.getElem?_eq_some_iff.mp hx).2] at h2
    exact h2.symm
  rw [e, List.find?_append, h]
  simp [hp]
theorem find_step {α : Type} {p : α → Bool} {xs : List α} {i : Nat} {x : α} (h : (xs.take i).find? p = none) (hx : xs[i]? = some x) (hp : p x = false) : (xs.take (i + 1)).find? p = none := by
  rw [take_succ_get hx, List.find?_append, h]
  simp [hp]
/-- the least width that separates two texts -/
def sepOf (ns ms : List Int) (lo hi : Int) : Option Int := (rngI lo (hi + 1)).find? fun w => !decide (lawWrap ns w = lawWrap ms w)
theorem sep_none {ns ms : List Int} {lo hi : Int} : sepOf ns ms lo hi = none ↔ ∀ w, lo ≤ w → w ≤ hi → lawWrap ns w = lawWrap ms w := by
  unfold sepOf
  rw [List.find?_eq_none]
  constructor
  · intro h w h1 h2
    have := h w (mem_rngI.mpr ⟨h1, by omega⟩)
    simpa using this
  · intro h w hw
    rw [mem_rngI] at hw
    simp [h w hw.1 (by omega)]
theorem sep_some {ns ms : List Int} {lo hi w : Int} (h : sepOf ns ms lo hi = some w) : lo ≤ w ∧ w ≤ hi ∧ lawWrap ns w ≠ lawWrap ms w ∧ ∀ u, lo ≤ u → u ≤ hi → lawWrap ns u ≠ lawWrap ms u → w ≤ u := by
  unfold sepOf at h
  obtain ⟨h1, as, bs, h2, h3⟩ := List.find?_eq_some_iff_append.mp h
  have hm : w ∈ rngI lo (hi + 1) := by rw [h2]; simp
  rw [mem_rngI] at hm
  refine ⟨hm.1, by omega, by simpa using h1, fun u u1 u2 hu => ?_⟩
  have hum : u ∈ rngI lo (hi + 1) := mem_rngI.mpr ⟨u1, by omega⟩
  have hasc := rngI_asc lo (hi + 1)
  rw [h2] at hum hasc
  rcases List.mem_append.mp hum with h4 | h4
  · have := h3 u h4
    simp at this
    exact (hu this).elim
  · rcases List.mem_cons.mp h4 with rfl | h4
    · exact Int.le_refl _
    · have := (List.pairwise_cons.mp (List.pairwise_append.mp hasc).2.1).1 u h4
      omega
theorem scrsAt_congr {ns ms W : List Int} (h : ∀ w ∈ W, lawWrap ns w = lawWrap ms w) : scrsAt ns W = scrsAt ms W := by
  unfold scrsAt
  exact List.map_congr_left fun w hw => by rw [h w hw]
/-- more widths, not more texts -/
theorem alike_mono {ns : List Int} (ht : Txt' ns) {lo hi lo' hi' : Int} (h1 : 1 ≤ lo') (h2 : lo' ≤ lo) (h3 : lo ≤ hi) (h4 : hi ≤ hi') (h5 : hi' ≤ 1000) : alikeN ns lo' hi' ≤ alikeN ns lo hi := by
  rw [alike_count ht h1 (by omega) h5, alike_count ht (by omega) h3 (by omega)]
  obtain ⟨a1, a2⟩ := rng_ok h1 (by omega : lo' ≤ hi') h5
  obtain ⟨b1, b2⟩ := rng_ok (by omega : 1 ≤ lo) h3 (by omega)
  obtain ⟨g1, g2⟩ := scrsAt_ok ht a1 a2
  obtain ⟨k1, k2⟩ := scrsAt_ok ht b1 b2
  rw [← count_fit g1 g2, ← count_fit k1 k2]
  rw [← List.countP_eq_length_filter, ← List.countP_eq_length_filter]
  refine List.countP_mono_left fun ws _ hw => ?_
  rw [fits_scrsAt] at hw ⊢
  exact ⟨hw.1, fun w h => hw.2 w (by rw [mem_rngI] at h ⊢; omega)⟩
theorem alike_same {ns ms : List Int} (ht : Txt' ns) (hm : Txt' ms) (hn : total ms = total ns) {lo hi : Int} (h1 : 1 ≤ lo) (h2 : lo ≤ hi) (h3 : hi ≤ 1000) (h : ∀ w, lo ≤ w → w ≤ hi → lawWrap ns w = lawWrap ms w) : alikeN ms lo hi = alikeN ns lo hi := by
  rw [alike_count ht h1 h2 h3, alike_count hm h1 h2 h3, hn, scrsAt_congr fun w hw => ?_]
  rw [mem_rngI] at hw
  exact (h w hw.1 (by omega)).symm
/-- alike, by the screens -/
theorem alike_fits {ns ms : List Int} (ht : Txt' ns) (hm : Txt' ms) (hn : total ms = total ns) {lo hi : Int} (h2 : lo ≤ hi) : decide (coreOf ns lo hi = coreOf ms lo hi) = fitsOf (total ns) (scrsAt ns (rngI lo (hi + 1))) ms := by
  rw [Bool.eq_iff_iff, decide_eq_true_eq, alike_iff ht hm h2, fits_scrsAt]
  constructor
  · intro h
    exact ⟨hn, fun w hw => by rw [mem_rngI] at hw; exact (h w hw.1 (by omega)).symm⟩
  · rintro ⟨_, h⟩ w h1 h2
    exact (h w (mem_rngI.mpr ⟨h1, by omega⟩)).symm
theorem sep_all {ns ms : List Int} (ht : Txt' ns) (hm : Txt' ms) : sepOf ns ms 1 1000 = none ↔ ns = ms := by
  rw [sep_none]
  constructor
  · intro h
    have := h 1 (by decide) (by decide)
    rwa [lawWrap_w1 ht.2.1, lawWrap_w1 hm.2.1] at this
  · rintro rfl w _ _
    rfl
end Wc

/-! new data that stands whatever is done to some objects. -/
namespace Wc
open PySem PySem.Spec PyProof.Rows L2
/-- [e for i in range(..)], e giving new data apart from S -/
theorem lc_mapDRS {K : PySem.W.Frag} {D : Addr} {S : List Addr} {lo : Int} {n j : Nat} {te : TE} {vs : List Nat} {σ : L2.St} {H1 : Hp} {Qd : Hp → Prop} (ds : List PyData) (hl : ds.length = n) (hz : n ≤ sizeLine) (nD : H1 D = Option.none)
    (hs : ∀ (i : Nat) (d : PyData) (H' : Hp), i < n → ds[i]? = some d → Same H1 H' → (∃ o, H' D = some o) → ∀ Q : VK, (∀ y H2, Same H' H2 → Ds (D :: S) K H2 y d → Q y H2) → te ((wipe σ vs).set j (some (.int (lo + i)))) H' Q)
    (hd : ∀ H' acc, Same H1 H' → H' D = some (.lst acc) → DsAll (D :: S) K H' acc ds → Qd H')
    (hw : ∀ x : V, wipe ((wipe σ vs).set j (some x)) vs = wipe σ vs := by intro x; rfl) :
    ∃ W : Nat → Nat → Hp → Prop, (∃ m, W 0 m (upd H1 D (.lst []))) ∧ ∀ i m H, W i m H →
      ((Itr lo n).stop i H ∧ Qd H) ∨ ((Itr lo n).go i H ∧ ∃ Nx : Hp → Prop, (∀ H', Nx H' → ∃ m', m' < m ∧ W (i + 1) m' H') ∧ ∀ x H', (Itr lo n).yld i H x H' → gName j x (wipe σ vs) H' fun σ2 H2 => wipe σ2 vs = wipe σ vs ∧ tYes σ2 H2 fun b H3 =>
        if b = true then te σ2 H3 fun y H4 => ∃ acc, H4 D = some (.lst acc) ∧ acc.length < sizeLine ∧ Nx (upd H4 D (.lst (acc ++ [y]))) else Nx H3) := by
  refine lc_genR (fun i acc H => Same H1 H ∧ DsAll (D :: S) K H acc (ds.take i)) hz ⟨same_new nD, DsAll.nil⟩ ?_ ?_ hw
  · rintro i acc H hi ha ⟨sm, hp⟩ eD Q k
    have hdd : ds[i]? = some (ds[i]'(by omega)) := List.getElem?_eq_getElem (by omega)
    refine hs i _ H hi hdd sm ⟨_, eD⟩ Q fun y H2 s2 hy => k y H2 (s2 _ _ eD) ⟨same_mut (sm.trans s2) nD, ?_⟩
    have u : SameS (D :: S) H2 (upd H2 D (.lst (acc ++ [y]))) := SameS.upd (List.mem_cons_self ..)
    rw [List.take_add_one, hdd]
    exact (hp.on ((SameS.of s2).trans u)).snoc (hy.on u)
  · rintro acc H ha ⟨sm, hp⟩ eD
    refine hd H acc sm eD ?_
    rwa [← hl, List.take_length] at hp
/-- [e for x in xs], e giving new data apart from S -/
theorem lc_mapDS {K : PySem.W.Frag} {a D : Addr} {S : List Addr} {xs : List V} {j : Nat} {te : TE} {vs : List Nat} {σ : L2.St} {H1 : Hp} {Qd : Hp → Prop} (ds : List PyData) (hl : ds.length = xs.length) (hz : xs.length ≤ sizeLine) (hS : SqL K H1 a xs) (nD : H1 D = Option.none)
    (hs : ∀ (i : Nat) (x : V) (d : PyData) (H' : Hp), xs[i]? = some x → ds[i]? = some d → Same H1 H' → (∃ o, H' D = some o) → ∀ Q : VK, (∀ y H2, Same H' H2 → Ds (D :: S) K H2 y d → Q y H2) → te ((wipe σ vs).set j (some x)) H' Q)
    (hd : ∀ H' acc, Same H1 H' → H' D = some (.lst acc) → DsAll (D :: S) K H' acc ds → Qd H')
    (hw : ∀ x : V, wipe ((wipe σ vs).set j (some x)) vs = wipe σ vs := by intro x; rfl) :
    ∃ W : Nat → Nat → Hp → Prop, (∃ m, W 0 m (upd H1 D (.lst []))) ∧ ∀ i m H, W i m H →
      ((Itl K a).stop i H ∧ Qd H) ∨ ((Itl K a).go i H ∧ ∃ Nx : Hp → Prop, (∀ H', Nx H' → ∃ m', m' < m ∧ W (i + 1) m' H') ∧ ∀ x H', (Itl K a).yld i H x H' → gName j x (wipe σ vs) H' fun σ2 H2 => wipe σ2 vs = wipe σ vs ∧ tYes σ2 H2 fun b H3 =>
        if b = true then te σ2 H3 fun y H4 => ∃ acc, H4 D = some (.lst acc) ∧ acc.length < sizeLine ∧ Nx (upd H4 D (.lst (acc ++ [y]))) else Nx H3) := by
  refine lc_genL (fun i acc H => Same H1 H ∧ DsAll (D :: S) K H acc (ds.take i)) hz ⟨same_new nD, DsAll.nil⟩ (fun i acc H hp _ => hp.1.seq hS) ?_ ?_ hw
  · rintro i x acc H hx ha ⟨sm, hp⟩ eD Q k
    have hi : i < xs.length := (List.getElem?_eq_some_iff.mp hx).1
    have hdd : ds[i]? = some (ds[i]'(by omega)) := List.getElem?_eq_getElem (by omega)
    refine hs i x _ H hx hdd sm ⟨_, eD⟩ Q fun y H2 s2 hy => k y H2 (s2 _ _ eD) ⟨same_mut (sm.trans s2) nD, ?_⟩
    have u : SameS (D :: S) H2 (upd H2 D (.lst (acc ++ [y]))) := SameS.upd (List.mem_cons_self ..)
    rw [List.take_add_one, hdd]
    exact (hp.on ((SameS.of s2).trans u)).snoc (hy.on u)
  · rintro acc H ha ⟨sm, hp⟩ eD
    refine hd H acc sm eD ?_
    rwa [← hl, List.take_length] at hp
end Wc

/-! the widths at which some fitting text has a wrap. -/
namespace Wc
open PySem PySem.Spec PyProof.Rows L2
/-- signs of positions, and the texts that keep to them -/
structure PatF (n : Int) (sg : Int → Nat) (F : List Int → Prop) : Prop where
  n1 : 1 ≤ n
  n2 : n ≤ 600
  fits : ∀ ws, Txt' ws → total ws = n → (F ws ↔ ∀ x, 1 ≤ x → x < n → (sg x = 95 → x ∈ endsOf ws) ∧ (sg x = 120 → x ∉ endsOf ws))
  gapR : ∀ x, 0 ≤ x → x + 1 < n → sg x = 95 → sg (x + 1) = 120
  gapL : ∀ x, 0 ≤ x → x + 1 < n → sg (x + 1) = 95 → sg x = 120
  e1 : sg (n - 1) = 120
theorem patF_scrs {n : Int} {ss : List Scr} (h : Scrs n ss) (hc : NoClash ss) : PatF n (signC ss) (fun ws => fitsOf n ss ws = true) where
  n1 := h.len.1
  n2 := h.len.2
  fits := fun ws ht hn => by
    rw [fits_pat h hc ht hn]
    refine forall_congr' fun x => forall_congr' fun _ => forall_congr' fun _ => ?_
    rw [sign_of_C.1, sign_of_C.2.1]
  gapR := fun x _ _ hx => by
    rcases signC_cases h hc x with ⟨c1, _, _⟩ | ⟨_, _, c3⟩ | ⟨_, _, c3⟩
    · have hl : IsLet (numL ss) (x + 1) := let_beside (.inr (by rw [show x + 1 - 1 = x by omega]; exact c1))
      rcases signC_cases h hc (x + 1) with ⟨_, d2, _⟩ | ⟨_, _, d3⟩ | ⟨_, d2, _⟩
      · exact (d2 hl).elim
      · exact d3
      · exact (d2 hl).elim
    · omega
    · omega
  gapL := fun x _ _ hx => by
    rcases signC_cases h hc (x + 1) with ⟨c1, _, _⟩ | ⟨_, _, c3⟩ | ⟨_, _, c3⟩
    · have hl : IsLet (numL ss) x := let_beside (.inl c1)
      rcases signC_cases h hc x with ⟨_, d2, _⟩ | ⟨_, _, d3⟩ | ⟨_, d2, _⟩
      · exact (d2 hl).elim
      · exact d3
      · exact (d2 hl).elim
    · omega
    · omega
  e1 := (sign_edges h hc).2
def sgAny (n x : Int) : Nat := if x = 0 ∨ x = n - 1 then 120 else 63
theorem patF_any {n : Int} (n1 : 1 ≤ n) (n2 : n ≤ 600) : PatF n (sgAny n) (fun _ => True) where
  n1 := n1
  n2 := n2
  fits := fun ws ht hn => by
    refine ⟨fun _ x x1 xn => ⟨fun h => ?_, fun h => ?_⟩, fun _ => trivial⟩
    · unfold sgAny at h
      split at h <;> omega
    · unfold sgAny at h
      split at h
      · intro hm
        have h5 := ends_gap ht hm (b := total ws) (List.mem_of_getLast? (endsOf_last ht.1))
        omega
      · omega
  gapR := fun x _ _ hx => by unfold sgAny at hx; split at hx <;> omega
  gapL := fun x _ _ hx => by unfold sgAny at hx; split at hx <;> omega
  e1 := by unfold sgAny; rw [if_pos (.inr rfl)]
/-- some text has this wrap at a width -/
def okW (n : Int) (F : List Int → Prop) (ls : List Int) (w : Int) : Prop := ∃ ws, Txt' ws ∧ total ws = n ∧ F ws ∧ lawWrap ws w = ls
def stopB (sg : Int → Nat) (ls : List Int) (x : Int) : Bool := decide (x ∈ endsOf ls) || decide (sg x = 95)
def NoLet (n : Int) (sg : Int → Nat) (ls : List Int) : Prop := ∀ e ∈ endsOf ls, e < n → sg e ≠ 120
def LineFit (n : Int) (sg : Int → Nat) (ls : List Int) (w s e : Int) : Prop := ((∃ t ∈ stopsOf n (stopB sg ls), s < t ∧ t < e) → e - s ≤ w) ∧ (e < n → ∀ t ∈ stopsOf n (stopB sg ls), e < t → s + w < t)
theorem mem_stops {n : Int} {sg : Int → Nat} {ls : List Int} (hl : Txt' ls) (hn : total ls = n) {x : Int} : x ∈ stopsOf n (stopB sg ls) ↔ x ∈ endsOf ls ∨ (1 ≤ x ∧ x < n ∧ sg x = 95) := by
  rw [mem_stopsOf]
  unfold stopB
  rw [Bool.or_eq_true, decide_eq_true_eq, decide_eq_true_eq]
  constructor
  · rintro (⟨h1, h2, h3 | h3⟩ | rfl)
    · exact .inl h3
    · exact .inr ⟨h1, h2, h3⟩
    · rw [← hn]
      exact .inl (List.mem_of_getLast? (endsOf_last hl.1))
  · rintro (h | ⟨h1, h2, h3⟩)
    · have := ends_max hl x h
      by_cases c : x = n
      · exact .inr c
      · exact .inl ⟨this.1, by omega, .inl h⟩
    · exact .inl ⟨h1, h2, .inr h3⟩
theorem okW_iff {n : Int} {sg : Int → Nat} {F : List Int → Prop} (P : PatF n sg F) {ls : List Int} (hl : Txt' ls) (hn : total ls = n) {w : Int} : okW n F ls w ↔ NoLet n sg ls ∧ ∀ (i : Nat) s e, (startsOf (endsOf ls))[i]? = some s → (endsOf ls)[i]? = some e → LineFit n sg ls w s e := by
  constructor
  · rintro ⟨ws, ht, hw, hF, hwr⟩
    have hlines := lines_ok ht w
    rw [hwr] at hlines
    have hsub : ∀ t ∈ stopsOf n (stopB sg ls), t ∈ endsOf ws := fun t h => by
      rcases (mem_stops hl hn).mp h with h | ⟨h1, h2, h3⟩
      · exact linesOk_mem hlines t h
      · exact (((P.fits ws ht hw).mp hF) t h1 h2).1 h3
    refine ⟨fun e he hen h => ?_, fun i s e hs he => ?_⟩
    · have h1 := (ends_max hl e he).1
      exact (((P.fits ws ht hw).mp hF) e h1 hen).2 h (linesOk_mem hlines e he)
    · obtain ⟨h1, h2, h3, h4⟩ := hlines.get i s e (startsOf_get hs) he
      refine ⟨fun ⟨t, ht1, ht2, ht3⟩ => ?_, fun hen t ht1 ht2 => ?_⟩
      · rcases h4 with h4 | h4
        · omega
        · have := h4 t (hsub t ht1) ht2
          omega
      · refine Decidable.byContradiction fun hc => ?_
        have := h3 t (hsub t ht1) (by omega) (by omega)
        omega
  · rintro ⟨hno, hfit⟩
    have hap : Apart n (stopB sg ls) := by
      refine ⟨fun x x1 xn hx => ?_, fun h2 => ?_⟩
      · rw [Bool.eq_false_iff]
        intro hy
        unfold stopB at hx hy
        rw [Bool.or_eq_true, decide_eq_true_eq, decide_eq_true_eq] at hx hy
        rcases hx with hx | hx <;> rcases hy with hy | hy
        · exact ends_gap hl hx hy rfl
        · exact hno x hx (by omega) (P.gapL x (by omega) xn hy)
        · exact hno (x + 1) hy xn (P.gapR x (by omega) xn hx)
        · have := P.gapR x (by omega) xn hx
          omega
      · rw [Bool.eq_false_iff]
        intro hy
        unfold stopB at hy
        rw [Bool.or_eq_true, decide_eq_true_eq, decide_eq_true_eq] at hy
        rcases hy with hy | hy
        · exact hno (n - 1) hy (by omega) P.e1
        · have := P.e1
          omega
    obtain ⟨t1, t2, t3⟩ := txt_of_spaces P.n1 P.n2 hap
    refine ⟨lengthsOf (stopsOf n (stopB sg ls)), t1, t3, (P.fits _ t1 t3).mpr fun x x1 xn => ?_, ?_⟩
    · rw [t2, mem_stops hl hn]
      refine ⟨fun h => .inr ⟨x1, xn, h⟩, fun h => ?_⟩
      rintro (h1 | ⟨_, _, h1⟩)
      · exact hno x h1 xn h
      · omega
    · have hL : LinesOk (endsOf (lengthsOf (stopsOf n (stopB sg ls)))) w 0 (endsOf ls) := by
        refine LinesOk.of fun i s e hs he => ?_
        obtain ⟨s', hs'⟩ := starts_there he
        have := startsOf_get hs'
        rw [hs] at this
        cases this
        obtain ⟨_, g1, g2, g3⟩ := starts_ends hl.2.1 hs' he
        obtain ⟨f1, f2⟩ := hfit i s e hs' he
        rw [t2]
        refine ⟨(mem_stops hl hn).mpr (.inl (List.mem_of_getElem? he)), g2, fun t ht1 ht2 ht3 => ?_, ?_⟩
        · refine Decidable.byContradiction fun hc => ?_
          by_cases c : e < n
          · have := f2 c t ht1 (by omega)
            omega
          · have : t ≤ n := by
              rcases mem_stopsOf.mp ht1 with ⟨_, h, _⟩ | h <;> omega
            omega
        · by_cases c : ∃ t ∈ stopsOf n (stopB sg ls), s < t ∧ t < e
          · exact .inl (by have := f1 c; omega)
          · refine .inr fun t ht1 ht2 => Decidable.byContradiction fun hc => c ⟨t, ht1, ht2, by omega⟩
      have h1 := lines_ok t1 w
      obtain ⟨u1, u2⟩ := t1.wrap w
      have h3 := LinesOk.uniq (n := n) (fun t h => by rw [← t3]; exact (ends_max t1 t h).2) h1 hL (by rw [endsOf_last u1.1, u2, t3]) (by rw [endsOf_last hl.1, hn])
      rw [← lengths_ends (lawWrap _ w), h3, lengths_ends]
/-- a range of widths, or none -/
def RngOk (n : Int) (F : List Int → Prop) (ls : List Int) : Option (Int × Int) → Prop
  | none => ∀ w, 1 ≤ w → w ≤ 1000 → ¬ okW n F ls w
  | some (lo, hi) => 1 ≤ lo ∧ lo ≤ hi ∧ hi ≤ 1000 ∧ ∀ w, 1 ≤ w → w ≤ 1000 → (okW n F ls w ↔ lo ≤ w ∧ w ≤ hi)
def rngD : Option (Int × Int) → PyData
  | none => .none
  | some (lo, hi) => .tuple [.int lo, .int hi]
theorem RngOk.uniq {n : Int} {F : List Int → Prop} {ls : List Int} {r r' : Option (Int × Int)} (h : RngOk n F ls r) (h' : RngOk n F ls r') : r = r' := by
  match r, r', h, h' with
  | none, none, _, _ => rfl
  | none, some (lo, hi), h, ⟨a, b, c, d⟩ => exact ((h lo a (by omega)) ((d lo a (by omega)).mpr ⟨Int.le_refl _, b⟩)).elim
  | some (lo, hi), none, ⟨a, b, c, d⟩, h => exact ((h lo a (by omega)) ((d lo a (by omega)).mpr ⟨Int.le_refl _, b⟩)).elim
  | some (lo, hi), some (lo', hi'), ⟨a, b, c, d⟩, ⟨a', b', c', d'⟩ =>
    have h1 := (d' lo a (by omega)).mp ((d lo a (by omega)).mpr ⟨Int.le_refl _, b⟩)
    have h2 := (d lo' a' (by omega)).mp ((d' lo' a' (by omega)).mpr ⟨Int.le_refl _, b'⟩)
    have h3 := (d' hi (by omega) c).mp ((d hi (by omega) c).mpr ⟨b, Int.le_refl _⟩)
    have h4 := (d hi' (by omega) c').mp ((d' hi' (by omega) c').mpr ⟨b', Int.le_refl _⟩)
    have e1 : lo = lo' := by omega
    have e2 : hi = hi' := by omega
    rw [e1, e2]
theorem nc_rng {n : Int} {F : List Int → Prop} {ls : List Int} {r : Option (Int × Int)} (h : RngOk n F ls r) : Nc 100 1 (rngD r) := by
  match r, h with
  | none, _ => exact Nc.non.mono (by decide) (by decide)
  | some (lo, hi), ⟨a, b, c, _⟩ => exact (Nc.tuple (Ncs.cons (Nc.intS (z := lo) (by omega)) (Ncs.cons (Nc.intS (z := hi) (by omega)) (Ncs.nil (k := 0))))).mono (by decide) (by decide)
end Wc

/-! a sign repeated; calls by keywords of defs with defaults. -/
namespace Wc
open PySem PySem.Spec PyProof.Rows L2
def repS (c : Nat) (n : Int) : Str := ⟨(List.replicate n.toNat c).toArray⟩
theorem fold_app (c : Nat) : ∀ (k : Nat) (acc : Array Nat), (List.replicate k (#[c] : Array Nat)).foldl (· ++ ·) acc = acc ++ (List.replicate k c).toArray
  | 0, acc => by simp
  | k + 1, acc => by
    rw [List.replicate_succ, List.foldl_cons, fold_app c k, List.replicate_succ]
    apply Array.toList_inj.mp
    simp
theorem mul_rep (c : Nat) (n : Int) : Txt.mul ⟨#[c]⟩ n = repS c n := by
  unfold Txt.mul repS
  split
  · rename_i h
    rw [show n.toNat = 0 by omega]
    rfl
  · rename_i h
    split
    · rename_i h2
      have : n = 1 := by
        rw [Bool.or_eq_true, beq_iff_eq, beq_iff_eq] at h2
        rcases h2 with h2 | h2
        · exact h2
        · exact absurd (show 1 = 0 from h2) (by decide)
      rw [this]
      rfl
    · rw [fold_app]
      simp
def rRepS : V → V → Hp → VK → Prop := fun x y H Q => ∃ c n, x = .str ⟨#[c]⟩ ∧ y = .int n ∧ 0 ≤ n ∧ n ≤ 1000 ∧ Q (.str (repS c n)) H
theorem op_repS {X : Cx} : OpR X (binaryOp .Mult) rRepS := by
  intro pins s σ H x y v u Q I rx ry h
  obtain ⟨c, n, rfl, rfl, hn0, hn, q⟩ := h
  obtain ⟨t, rfl⟩ := rx
  obtain ⟨t', rfl⟩ := ry
  have hl : Str.length ⟨#[c]⟩ = 1 := rfl
  refine SB.mul ⟨?_, fun h0 _ => ?_, fun h0 _ => ?_⟩ fun t' k => ?_
  · rw [Bool.or_eq_false_iff, decide_eq_false_iff_not, decide_eq_false_iff_not]
    omega
  · rw [hl]
    intro hc
    have h1 : (1 : Int) ≤ (2 ^ 63 - 1) / n := (Int.le_ediv_iff_mul_le (by omega)).mpr (by omega)
    have h2 : ((1 : Nat) : Int) = 1 := rfl
    omega
  · rw [hl]
    show decide (1 * n.toNat > sizeLine) = false
    rw [decide_eq_false_iff_not]
    have hz : sizeLine = 16777216 := by decide
    omega
  · rw [mul_rep]
    exact ⟨.str (repS c n), H, I.tok _, ⟨_, rfl⟩, q⟩
/-- a def with defaults, called by keywords alone: every parameter is named -/
theorem kbn_of1 {K : PySem.W.Frag} {x qual : Str} {params : Arguments} {body : List Stmt} {sc : Scope} {dvs : List V} {kws : List (Str × V)} {f : Addr} {fd : FuncData} {ps ks : List Str} {is : List Nat} (F : FunD K x qual params body sc dvs kws f fd) (hd : dvs ≠ [])
    (h : ∀ (T : Addr) (kV doc pm : Value) (an : Option Addr) (cdv ct : Value) (ws its : List Value), ws.length = ks.length → its.length = dvs.length →
      ∃ k, bindArgs (PySem.W.fnOf x qual params body sc (.ref T) kV doc pm an cdv ct) ⟨[], ks.zip ws⟩ = seqItems? (.ref T) >>= k ∧ k (some its.toArray) = pure (ps.zip (is.map fun i => ws.getD i .none))) : KBn K fd ps 0 ks (permW is) (permV is) := by
  obtain ⟨oc, od, dV, kV, doc, pm, an, cdv, ct, osl, rfl, lk, hcd, hD, hK⟩ := F.ex
  rcases hD with ⟨e, _⟩ | ⟨_, T, o, its, m, rfl, lT, oT, rT⟩
  · exact absurd e hd
  · constructor
    · intro s us ws X l1 l2
      have e : us = [] := List.length_eq_zero_iff.mp l1
      subst e
      obtain ⟨k, e1, e2⟩ := h T kV doc pm an cdv ct ws its l2 rT.length.symm
      refine BindsTo.of_looks fun M => ?_
      rw [e1]
      exact looks_items X lT oT (.of_pure e2)
    · intro vs us zs ws _ r2
      exact perm_rel r2 is
end Wc

/-! screens or none; the pattern of any text. -/
namespace Wc
open PySem PySem.Spec PyProof.Rows L2
def viewP (K : PySem.W.Frag) (H : Hp) (v : V) (n : Int) (sg : Int → Nat) (F : List Int → Prop) : Prop :=
  (v = .non ∧ sg = sgAny n ∧ F = fun _ => True) ∨ (∃ ss, Dp K H v (scrsD ss) ∧ Scrs n ss ∧ ss.length ≤ 1000 ∧ NoClash ss ∧ sg = signC ss ∧ F = fun ws => fitsOf n ss ws = true)
theorem viewP.same {K : PySem.W.Frag} {H H' : Hp} {v : V} {n : Int} {sg : Int → Nat} {F : List Int → Prop} (h : viewP K H v n sg F) (s : Same H H') : viewP K H' v n sg F := by
  rcases h with h | ⟨ss, h, r⟩
  · exact .inl h
  · exact .inr ⟨ss, Dp.same s _ _ h, r⟩
theorem viewP.pat {K : PySem.W.Frag} {H : Hp} {v : V} {n : Int} {sg : Int → Nat} {F : List Int → Prop} (h : viewP K H v n sg F) (n1 : 1 ≤ n) (n2 : n ≤ 600) : PatF n sg F := by
  rcases h with ⟨_, rfl, rfl⟩ | ⟨ss, _, h1, _, h2, rfl, rfl⟩
  · exact patF_any n1 n2
  · exact patF_scrs h1 h2
theorem any_list {n : Int} (n1 : 1 ≤ n) : (([120] ++ List.replicate (n - 2).toNat 63) ++ [120]).take n.toNat = (rngI 0 n).map (sgAny n) := by
  apply List.ext_getElem?
  intro i
  rw [List.getElem?_take, List.getElem?_map]
  split
  · rename_i hi
    have e0 : (rngI 0 n)[i]? = some (i : Int) := by
      unfold rngI
      rw [List.getElem?_map, List.getElem?_range (by omega)]
      show some (0 + (i : Int)) = _
      congr 1
      omega
    rw [e0]
    show _ = some (sgAny n i)
    unfold sgAny
    by_cases c0 : i = 0
    · subst c0
      rw [if_pos (.inl rfl)]
      rfl
    · by_cases c1 : (i : Int) = n - 1
      · rw [if_pos (.inr c1), List.getElem?_append_right (by rw [List.length_append, List.length_singleton, List.length_replicate]; omega)]
        have : i - ([120] ++ List.replicate (n - 2).toNat 63).length = 0 := by
          rw [List.length_append, List.length_singleton, List.length_replicate]
          omega
        rw [this]
        rfl
      · rw [if_neg (by omega), List.getElem?_append_left (by rw [List.length_append, List.length_singleton, List.length_replicate]; omega), List.getElem?_append_right (by rw [List.length_singleton]; omega), List.getElem?_replicate, if_pos (by rw [List.length_singleton]; omega)]
  · rename_i hi
    rw [List.getElem?_eq_none (by rw [rngI_len]; omega)]
    rfl
theorem any_cps {n : Int} (n1 : 1 ≤ n) (m : Int) (hm : m.toNat = (n - 2).toNat) : (cutS ((⟨#[120]⟩ ++ repS 63 m) ++ ⟨#[120]⟩) none (some n)).cps.toList = (rngI 0 n).map (sgAny n) := by
  rw [← any_list n1, ← hm]
  have hl : ((⟨#[120]⟩ ++ repS 63 m : Str) ++ (⟨#[120]⟩ : Str)).cps.toList = ([120] ++ List.replicate m.toNat 63) ++ [120] := by
    show ((#[120] ++ (List.replicate m.toNat 63).toArray) ++ #[120] : Array Nat).toList = _
    simp
  have hlen : ((⟨#[120]⟩ ++ repS 63 m : Str) ++ (⟨#[120]⟩ : Str)).length = m.toNat + 2 := by
    show Array.size _ = _
    rw [← Array.length_toList, hl, List.length_append, List.length_append, List.length_replicate, List.length_singleton]
    omega
  unfold cutS
  show (List.take _ (List.drop _ _)) = _
  rw [hl, hlen, HT.sIx_none, List.drop_zero]
  have : HT.sIx (m.toNat + 2) (m.toNat + 2) (some n) = n.toNat := by
    rw [show n = ((n.toNat : Nat) : Int) by omega, HT.sIx_nat]
    omega
  rw [this]
  rfl
end Wc

/-! an empty dict compared with a tuple. -/
namespace Wc
open PySem PySem.Spec PyProof.Rows L2
theorem tuple_eq_declines_dict (l b : Addr) (items : Array Value) (n : Nat) (dd : Option Addr) (sl : Array (Option Value)) (o2 : Obj) (hc : o2.cls = .type "dict") :
    Meets (Builtin.«tuple.__eq__» ⟨[.ref l, .ref b], []⟩) (fun _ R s => s.heap.get? l = some { cls := .type "tuple", dict := dd, data := .seq items n, slots := sl } ∧ s.heap.get? b = some o2 ∧ R (.ok (.ret .notImplemented)) s) :=
  .of_wp fun prog w A R s h => by obtain ⟨hp, g, d, tk, os⟩ := s; obtain ⟨c2, d2, da2, sl2⟩ := o2; obtain rfl := hc; obtain ⟨hl, hb, h⟩ := h; have f1 := F.sub_dict_tuple; wp_walk using wpAny_loadPart' hl, wpAny_loadPart' hb; exact ⟨_, rfl, h⟩
theorem rc_dict_tuple {A : Around} {s : Shared} {a b : Addr} {items : Array Value} (ta : s.TypeIs (.ref a) "dict") (hb : s.heap.IsTuple b items) (hu : A.units < cLine) : SeqAt.RcAt A s (.ref a) (.ref b) false := fun prog w E Q h => by
  obtain ⟨o, ho, hc⟩ := id ta
  obtain ⟨⟨cls2, dd2, data2, sl2⟩, ho2, hc2, n2, hd2⟩ := id hb
  simp only at hc2 hd2
  subst hc2 hd2
  have hne : a ≠ b := fun e => by
    subst e
    rw [ho] at ho2
    cases ho2
    exact absurd hc (by simp)
  exact (SeqAt.rc_eq_decline_or (k := false) ta ⟨_, ho2, rfl⟩ (by decide) F.sub_tuple_dict F.slot_dict_eq F.slot_tuple_eq_refl
    (fun _ hq => wpAny_call_entry PySem.F.slot_dict_eq ta PySem.F.entry_dict_eq (by
      show wpAny _ _ (Builtin.Dict.dictSlotArgs "__eq__" ⟨[.ref a, .ref b], []⟩ >>= _) _ _ s
      refine wpAny_bind ?_
      unfold Builtin.Dict.dictSlotArgs
      refine wpAny_bind (wpAny_notOrdered_dict ta ?_)
      show wpAny _ _ (pure (Value.ref a, Value.ref b)) _ _ s
      refine wpAny_pure ?_
      refine wpAny_bind (wpAny_isInstance (T := "tuple") ⟨_, ho2, rfl⟩ PySem.F.sub_tuple_dict ?_)
      simp only [Bool.not_false, if_true]
      exact wpAny_bind (wpAny_rule (wpAny_pure ⟨_, rfl, hq⟩))) (PySem.F.args_dict_eq_2 _ _))
    (fun _ hq => call_meets F.slot_tuple_eq_refl ⟨_, ho2, rfl⟩ F.entry_tuple_eq (F.args_tuple_eq_2 _ _) (tuple_eq_declines_dict b a items n2 dd2 sl2 o hc) ⟨ho2, ho, hq⟩)
    (fun _ hq => wpAny_isSame_ref_other hne ho ho2 (by rw [hc]; simp) hq) (.inr hu) h)
/-- thing == tuple: thing is data, or an empty dict -/
def rEqA (K : PySem.W.Frag) : R2 := fun x y H Q => rEqD K x y H Q ∨ ∃ a b ys, x = .ref a ∧ y = .ref b ∧ H a = some (.dK []) ∧ SqT K H b ys ∧ Q (.bl false) H
theorem op_eqA {X : Cx} (hu : X.A.units + 64 < cLine) : OpR X (compareOp .Eq) (rEqA X.K) := by
  intro pins s σ H x y v u Q I rx ry h
  rcases h with h | ⟨a, b, ys, rfl, rfl, ea, hb, q⟩
  · exact op_eqD hu pins s σ H x y v u Q I rx ry h
  · obtain rfl : v = Value.ref a := rx
    obtain rfl : u = Value.ref b := ry
    obtain ⟨_, ya, va, ra, da⟩ := (show ObjOk X.prog X.w H s.heap a (.dK []) from I.hok a _ ea)
    obtain ⟨its, r, pt, _⟩ := I.tuple hb
    have hu' : X.A.units < cLine := by omega
    exact rc_dict_tuple (A := X.A) (s := s) (a := a) (b := b) (items := its.toArray) da.typeIs pt hu' X.prog X.w X.xe _ ⟨.bl false, H, I, rfl, q⟩
end Wc

/-! things that are no screens. -/
namespace Wc
open PySem PySem.Spec PyProof.Rows L2
def BadS (K : PySem.W.Frag) (H : Hp) (v : V) (s0 : Scr) : Prop := ∃ o, Av K H v o ∧ areScreens o = false ∧ ∀ d, o = some d → Nc 4000000 8 d ∧ isScreenD d = PyData.eqv d (scrD s0)
theorem BadS.same {K : PySem.W.Frag} {H H' : Hp} {v : V} {s0 : Scr} (s : Same H H') (h : BadS K H v s0) : BadS K H' v s0 := let ⟨o, h1, h2⟩ := h; ⟨o, h1.same s, h2⟩
theorem dpa_app {K : PySem.W.Frag} {H : Hp} : ∀ {xs ys : List V} {ds es : List PyData}, DpAll K H xs ds → DpAll K H ys es → DpAll K H (xs ++ ys) (ds ++ es)
  | _, _, _, _, .nil, h => h
  | _, _, _, _, .cons h1 h2, h => .cons h1 (dpa_app h2 h)
theorem dpa_take {K : PySem.W.Frag} {H : Hp} : ∀ {xs : List V} {ds : List PyData} (n : Nat), DpAll K H xs ds → DpAll K H (xs.take n) (ds.take n)
  | _, _, 0, _ => by rw [List.take_zero, List.take_zero]; exact .nil
  | _, _, _ + 1, .nil => .nil
  | _, _, n + 1, .cons h1 h2 => .cons h1 (dpa_take n h2)
theorem dpa_drop {K : PySem.W.Frag} {H : Hp} : ∀ {xs : List V} {ds : List PyData} (n : Nat), DpAll K H xs ds → DpAll K H (xs.drop n) (ds.drop n)
  | _, _, 0, h => h
  | _, _, _ + 1, .nil => .nil
  | _, _, n + 1, .cons h1 h2 => dpa_drop n h2
theorem bad_one {L : List PyData} {e : PyData} (he : e ∈ L) (h : isScreenD e = false) : areScreens (some (.list L)) = false := by
  match L, he with
  | d :: ds, he =>
    show ((d :: ds).all isScreenD && _) = false
    have : (d :: ds).all isScreenD = false := by
      cases c : (d :: ds).all isScreenD with
      | false => rfl
      | true => rw [List.all_eq_true.mp c e he] at h; cases h
    rw [this]
    rfl
theorem bad_two {L : List PyData} {e f : PyData} (he : e ∈ L) (hf : f ∈ L) (h : scrTotal e ≠ scrTotal f) : areScreens (some (.list L)) = false := by
  match L, he, hf with
  | d :: ds, he, hf =>
    show (_ && (d :: ds).all fun e => decide (scrTotal e = scrTotal d)) = false
    have : ((d :: ds).all fun e => decide (scrTotal e = scrTotal d)) = false := by
      cases c : ((d :: ds).all fun e => decide (scrTotal e = scrTotal d)) with
      | false => rfl
      | true =>
        have h1 := of_decide_eq_true (List.all_eq_true.mp c e he)
        have h2 := of_decide_eq_true (List.all_eq_true.mp c f hf)
        exact (h (h1.trans h2.symm)).elim
    rw [this, Bool.and_false]
/-- a value that is neither a width nor the one length of a text -/
structure OddS (d : PyData) : Prop where
  wd : isIntD 1 1000 d = false
  ln : areLengths (some (.list [d])) = false
  nc : Nc 2000 1 d
def lastUp (ns : List Int) : List Int := ns.dropLast ++ [ns.getLast?.getD 0 + 1]
/-- twelve things put among the screens -/
def oddL (d : PyData) (c : Bool) (s : Scr) : List PyData := [.tuple [d, .list (s.2.map .int)], .tuple [.int s.1, .list (if c then [d] else [])], .list [.int s.1, .list (s.2.map .int)], .tuple [.int s.1], .tuple [.int s.1, .list (s.2.map .int), .int 0],
  .tuple [.int s.1, .tuple (s.2.map .int)], scrD (s.1, s.2 ++ [1]), .tuple [.int s.1, .list []], .none, .str "5: 2", .tuple [.int s.1, .list [.int 601]], scrD (s.1, lastUp s.2)]
theorem total_up {ns : List Int} (h : ns ≠ []) : total (lastUp ns) = total ns + 1 := by
  have e : ns = ns.dropLast ++ [ns.getLast h] := (List.dropLast_concat_getLast h).symm
  unfold lastUp total
  rw [List.getLast?_eq_some_getLast h]
  generalize ns.getLast h = z at e
  have h1 : ns.sum = ns.dropLast.sum + z := by
    conv => lhs; rw [e]
    rw [List.sum_append, List.sum_singleton]
  have h2 : ns.length = ns.dropLast.length + 1 := by
    conv => lhs; rw [e]
    rw [List.length_append, List.length_singleton]
  rw [List.sum_append, List.sum_singleton, List.length_append, List.length_singleton]
  show _ + (z + 1) + _ - 1 = _
  omega
theorem no_width {d l : PyData} (h : isIntD 1 1000 d = false) : isScreenD (.tuple [d, l]) = false := by
  show (isIntD 1 1000 d && areLengths (some l)) = false
  rw [h]
  rfl
theorem no_lens {d l : PyData} (h : areLengths (some l) = false) : isScreenD (.tuple [d, l]) = false := by
  show (isIntD 1 1000 d && areLengths (some l)) = false
  rw [h, Bool.and_false]
theorem nc_ws {n : Int} {s : Scr} (h : ScrOk n s) : Nc 8 0 (.int s.1) ∧ Nc 3003 1 (.list (s.2.map .int)) := ⟨Nc.intS (by have := h.1; have := h.2.1; omega), nc_txt h.2.2.1⟩
theorem nc_scrI {w : Int} {l : List Int} (h1 : 1 ≤ w) (h2 : w ≤ 1000) (h3 : l.length ≤ 301) (h4 : ∀ m ∈ l, m.natAbs < 100000) : Nc 3030 2 (scrD (w, l)) := (Nc.tuple (Ncs.cons (Nc.intS (z := w) (by omega)) (Ncs.cons (Nc.intsS h3 h4) (Ncs.nil (k := 0))))).mono (by decide) (by decide)
theorem odd_ok {n : Int} {d : PyData} {c : Bool} {s : Scr} (hd : OddS d) (hs : ScrOk n s) : ∀ e ∈ oddL d c s, (isScreenD e = false ∨ scrTotal e ≠ n) ∧ Nc 6000 3 e := by
  obtain ⟨n1, n2⟩ := nc_ws hs
  have hl := hs.2.2.1.len
  have h0 := hs.2.2.1.1
  have hl' : s.2.length ≤ 300 := hl
  have hm := hs.2.2.1.tiny
  have hm2 := hs.2.2.1.2.1
  have ht : total s.2 = n := hs.2.2.2
  intro e he
  unfold oddL at he
  simp only [List.mem_cons, List.not_mem_nil, or_false] at he
  rcases he with rfl | rfl | rfl | rfl | rfl | rfl | rfl | rfl | rfl | rfl | rfl | rfl
  · exact ⟨.inl (no_width hd.wd), (Nc.tuple (Ncs.cons hd.nc (Ncs.cons n2 (Ncs.nil (k := 0))))).mono (by decide) (by decide)⟩
  · refine ⟨.inl (no_lens ?_), ?_⟩
    · cases c with
      | true => exact hd.ln
      | false => rfl
    · cases c with
      | true => exact (Nc.tuple (Ncs.cons n1 (Ncs.cons (Nc.list (Ncs.cons hd.nc (Ncs.nil (k := 0)))) (Ncs.nil (k := 0))))).mono (by decide) (by decide)
      | false => exact (Nc.tuple (Ncs.cons n1 (Ncs.cons (Nc.list (Ncs.nil (k := 0))) (Ncs.nil (k := 0))))).mono (by decide) (by decide)
  · exact ⟨.inl rfl, (Nc.list (Ncs.cons n1 (Ncs.cons n2 (Ncs.nil (k := 0))))).mono (by decide) (by decide)⟩
  · exact ⟨.inl rfl, (Nc.tuple (Ncs.cons n1 (Ncs.nil (k := 0)))).mono (by decide) (by decide)⟩
  · exact ⟨.inl rfl, (Nc.tuple (Ncs.cons n1 (Ncs.cons n2 (Ncs.cons (Nc.intS (z := 0) (by decide)) (Ncs.nil (k := 0)))))).mono (by decide) (by decide)⟩
  · have n3 : Nc 3003 1 (.tuple (s.2.map .int)) := by
      have h1 := n2
      have hall : Ncs (10 * 300) 0 (s.2.map PyData.int) := by
        refine (Ncs.all (w := 8) (k := 0) (n := 300) (by rw [List.length_map]; exact hl') fun x hx => ?_).mono (by decide) (Nat.le_refl _)
        obtain ⟨z, hz, rfl⟩ := List.mem_map.mp hx
        exact Nc.intS (hm z hz)
      exact Nc.tuple hall
    exact ⟨.inl (no_lens rfl), (Nc.tuple (Ncs.cons n1 (Ncs.cons n3 (Ncs.nil (k := 0))))).mono (by decide) (by decide)⟩
  · refine ⟨.inr ?_, (nc_scrI hs.1 hs.2.1 (by rw [List.length_append]; show _ + 1 ≤ 301; omega) fun m h => ?_).mono (by decide) (by decide)⟩
    · rw [scrTotal_scr]
      unfold total at ht ⊢
      rw [List.sum_append, List.length_append, List.sum_singleton, List.length_singleton]
      omega
    · rcases List.mem_append.mp h with h | h
      · exact hm m h
      · rw [List.mem_singleton.mp h]
        decide
  · exact ⟨.inl (no_lens rfl), (Nc.tuple (Ncs.cons n1 (Ncs.cons (Nc.list (Ncs.nil (k := 0))) (Ncs.nil (k := 0))))).mono (by decide) (by decide)⟩
  · exact ⟨.inl rfl, Nc.non.mono (by decide) (by decide)⟩
  · exact ⟨.inl rfl, (Nc.str (x := "5: 2") (L := 4) (by decide) (by decide)).mono (by decide) (by decide)⟩
  · exact ⟨.inl (no_lens (by decide)), (Nc.tuple (Ncs.cons n1 (Ncs.cons (Nc.list (Ncs.cons (Nc.intS (z := 601) (by decide)) (Ncs.nil (k := 0)))) (Ncs.nil (k := 0))))).mono (by decide) (by decide)⟩
  · refine ⟨.inr ?_, (nc_scrI hs.1 hs.2.1 ?_ fun m h => ?_).mono (by decide) (by decide)⟩
    · rw [scrTotal_scr]
      have := total_up h0
      show total (lastUp s.2) ≠ n
      omega
    · unfold lastUp
      rw [List.length_append, List.length_dropLast, List.length_singleton]
      omega
    · unfold lastUp at h
      rcases List.mem_append.mp h with h | h
      · exact hm m (List.dropLast_subset _ h)
      · rw [List.mem_singleton.mp h, List.getLast?_eq_some_getLast h0]
        show (s.2.getLast h0 + 1).natAbs < _
        have h5 := hs.2.2.1.le _ (List.getLast_mem h0)
        have h6 := hm2 _ (List.getLast_mem h0)
        omega
theorem odd_list {n : Int} {d : PyData} {c : Bool} {s : Scr} {ss : List Scr} (hd : OddS d) (hs : Scrs n (s :: ss)) (hl : ss.length ≤ 20) (k : Nat) {e : PyData} (he : e ∈ oddL d c s) : areScreens (some (.list (((s :: ss).map scrD).take k ++ [e] ++ ((s :: ss).map scrD).drop k))) = false ∧ Nc 4000000 8 (.list (((s :: ss).map scrD).take k ++ [e] ++ ((s :: ss).map scrD).drop k)) := by
  obtain ⟨h1, h2⟩ := odd_ok (c := c) hd (hs.2 s (List.mem_cons_self ..)) e he
  have hmem : ∀ x ∈ ((s :: ss).map scrD).take k ++ [e] ++ ((s :: ss).map scrD).drop k, x = e ∨ x ∈ (s :: ss).map scrD := fun x hx => by
    rcases List.mem_append.mp hx with hx | hx
    · rcases List.mem_append.mp hx with hx | hx
      · exact .inr (List.take_subset _ _ hx)
      · exact .inl (List.mem_singleton.mp hx)
    · exact .inr (List.drop_subset _ _ hx)
  have hs0 : scrD s ∈ ((s :: ss).map scrD).take k ++ [e] ++ ((s :: ss).map scrD).drop k := by
    have : scrD s ∈ ((s :: ss).map scrD).take k ++ ((s :: ss).map scrD).drop k := by
      rw [List.take_append_drop]
      exact List.mem_cons_self ..
    rcases List.mem_append.mp this with h | h
    · exact List.mem_append_left _ (List.mem_append_left _ h)
    · exact List.mem_append_right _ h
  have he0 : e ∈ ((s :: ss).map scrD).take k ++ [e] ++ ((s :: ss).map scrD).drop k := List.mem_append_left _ (List.mem_append_right _ (List.mem_singleton.mpr rfl))
  refine ⟨?_, ?_⟩
  · rcases h1 with h1 | h1
    · exact bad_one he0 h1
    · refine bad_two he0 hs0 ?_
      rw [scrTotal_scr, (hs.2 s (List.mem_cons_self ..)).2.2.2]
      exact h1
  · refine (Nc.list (Ncs.all (w := 6000) (k := 3) (n := 22) ?_ fun x hx => ?_)).mono (by decide) (by decide)
    · rw [List.length_append, List.length_append, List.length_take, List.length_drop, List.length_map, List.length_cons, List.length_singleton]
      omega
    · rcases hmem x hx with rfl | hx
      · exact h2
      · obtain ⟨t, ht, rfl⟩ := List.mem_map.mp hx
        exact (nc_scr (hs.2 t ht)).mono (by decide) (by decide)
end Wc

/-! a comprehension over a list whose test never holds. -/
namespace Wc
open PySem PySem.Spec PyProof.Rows L2
theorem lc_noneL {K : PySem.W.Frag} {a D : Addr} {xs : List V} {j : Nat} {tt : TT} {te : TE} {vs : List Nat} {σ : L2.St} {H1 : Hp} {Qd : Hp → Prop} (hA : SqL K H1 a xs) (nD : H1 D = Option.none)
    (hs : ∀ (i : Nat) (x : V) (H' : Hp), xs[i]? = some x → Same H1 H' → Evt tt ((wipe σ vs).set j (some x)) H' false) (hd : ∀ H', Same H1 H' → H' D = some (.lst []) → Qd H')
    (hw : ∀ x : V, wipe ((wipe σ vs).set j (some x)) vs = wipe σ vs := by intro x; rfl) :
    ∃ W : Nat → Nat → Hp → Prop, (∃ m, W 0 m (upd H1 D (.lst []))) ∧ ∀ i m H, W i m H →
      ((Itl K a).stop i H ∧ Qd H) ∨ ((Itl K a).go i H ∧ ∃ Nx : Hp → Prop, (∀ H', Nx H' → ∃ m', m' < m ∧ W (i + 1) m' H') ∧ ∀ x H', (Itl K a).yld i H x H' → gName j x (wipe σ vs) H' fun σ2 H2 => wipe σ2 vs = wipe σ vs ∧ tt σ2 H2 fun b H3 =>
        if b = true then te σ2 H3 fun y H4 => ∃ acc, H4 D = some (.lst acc) ∧ acc.length < sizeLine ∧ Nx (upd H4 D (.lst (acc ++ [y]))) else Nx H3) := by
  refine lc_list (xs := xs) (fun i H => Same H1 H ∧ H D = some (.lst [])) ⟨same_new nD, upd_same⟩ (fun i H _ hp => hp.1.seq hA) ?_ ?_
  · rintro i x H hx ⟨sm, eD⟩
    refine ⟨hw x, ?_⟩
    refine hs i x _ hx sm _ fun H3 s3 => ?_
    rw [if_neg (by decide)]
    exact ⟨sm.trans s3, s3 _ _ eD⟩
  · rintro H ⟨sm, eD⟩
    exact hd H sm eD
end Wc

/-! xs[lo:hi:step] of a list: some items of it. -/
namespace Wc
open PySem PySem.Spec PyProof.Rows L2
theorem vals_pick {xs : List V} {its : List Value} (r : Vals xs its) : ∀ idx : List Nat, ∃ zs : List V, Vals zs (idx.filterMap (its.toArray[·]?)) ∧ (∀ z ∈ zs, z ∈ xs)
  | [] => ⟨[], .nil, fun _ h => by cases h⟩
  | i :: idx => by
    obtain ⟨zs, h1, h2⟩ := vals_pick r idx
    cases e : xs[i]? with
    | none =>
      have e2 := Vals.none_of r e
      refine ⟨zs, ?_, h2⟩
      rw [List.filterMap_cons_none (by simpa using e2)]
      exact h1
    | some z =>
      obtain ⟨u, e2, ru⟩ := Vals.get r e
      refine ⟨z :: zs, ?_, fun y hy => ?_⟩
      · rw [List.filterMap_cons_some (by simpa using e2)]
        exact .cons ru h1
      · rcases List.mem_cons.mp hy with rfl | hy
        · exact List.mem_of_getElem? e
        · exact h2 y hy
def tSl3 (K : PySem.W.Frag) (te : TE) (tl th ts : TO) : TE := fun σ H Q => te σ H fun x H1 => tl σ H1 fun _ H2 => th σ H2 fun _ H3 => ts σ H3 fun st H4 => st ≠ some 0 ∧ ∃ a xs, x = .ref a ∧ SqL K H4 a xs ∧ ∀ p zs, H4 p = none → zs.length ≤ xs.length → (∀ z ∈ zs, z ∈ xs) → Q (.ref p) (upd H4 p (.lst zs))
theorem pe_slice3 {X : Cx} {e : Expr} {te : TE} {lo hi : Option Expr} {stE : Expr} {tl th ts : TO} {p2 pos : Pos} (he : PE X e te) (hl : PO X lo tl) (hu : PO X hi th) (hst : PO X (some stE) ts) : PE X (.Subscript e (.Slice lo hi (some stE) p2) pos) (tSl3 X.K te tl th ts) := by
  refine ⟨fun pins s σ H Q I h => ?_⟩
  refine Subscript_ (thn (he.run pins s σ H _ I h) fun v s1 ⟨x, H1, I1, r1, q1⟩ => ?_)
  refine wpAny_Slice (thn (hl.run pins s1 σ H1 _ I1 q1) fun vl s2 ⟨l, H2, I2, pl, q2⟩ => thn (hu.run pins s2 σ H2 _ I2 q2) fun vu s3 ⟨u, H3, I3, pu, q3⟩ => ?_)
  refine thn (hst.run pins s3 σ H3 _ I3 q3) fun vs s4 ⟨o, H4, I4, ps, h0, a, xs, ex, hx, q⟩ => ?_
  subst ex
  cases r1
  have I5 : Inv X pins σ H4 { s4 with heap := s4.heap.push { cls := .type "slice", data := .fields #[vl, vu, vs] } } := I4.kept (t' := s4.toks) fun b ob q => Heap.get?_push_of_some _ q
  obtain ⟨its, r, ht, hz⟩ := I5.list hx
  have hlen := r.length
  show wpAny (model X.prog X.w) X.A (subscriptTail e (.Slice lo hi (some stE) p2) (.ref a) (.ref s4.heap.objs.size)) (EP X pins σ Q) X.xe { s4 with heap := s4.heap.push { cls := .type "slice", data := .fields #[vl, vu, vs] } }
  refine tail_any (ops := [.ref a, .ref s4.heap.objs.size]) ht.isList.typeIs (PySem.slot_list_getitem.lookup) ?_ (by with_unfolding_all rfl)
  refine wpAny_getItem_list_slice ht.isList (Heap.IsSliceOf.new _ vl vu vs) pl pu ps h0 ?_ (by rw [List.size_toArray]; omega)
  obtain ⟨zs, rz, hzm⟩ := vals_pick r (sliceRange (sliceBounds l u o its.toArray.size).1 (sliceBounds l u o its.toArray.size).2.1 (sliceBounds l u o its.toArray.size).2.2)
  have hsz := slicePick_size_le its.toArray l u o
  have hpz : (slicePick its.toArray l u o).size = zs.length := by
    unfold slicePick
    rw [List.size_toArray, ← rz.length]
  have hzl : zs.length ≤ xs.length := by
    rw [hpz, List.size_toArray, ← hlen] at hsz
    exact hsz
  refine ⟨.ref _, _, I5.laid (t' := s4.toks) (o := .lst zs) (fun b ob q => Heap.get?_push_of_some _ q) (Nat.le_refl _) ?_, rfl, q _ zs (I5.hok.fresh (Nat.le_refl _)) hzl hzm⟩
  exact ⟨by omega, _, 0, rz, Heap.get?_push_size _ rfl⟩
end Wc

/-! for i, (x, y) in enumerate(pairs); reasons found one by one. -/
namespace Wc
open PySem PySem.Spec PyProof.Rows L2
theorem for_enumT {K : PySem.W.Frag} {a : Addr} {xs : List V} {j0 j1 j2 : Nat} {tb : TS} {D : Ends} {σ : L2.St} {H : Hp} (Pv : Nat → L2.St → Hp → Prop) (h0 : Pv 0 σ H) (hG : ∀ i σ H, Pv i σ H → SqL K H a xs)
    (hs : ∀ i x σ H T, xs[i]? = some x → H T = Option.none → Pv i σ H → ∃ t u v, x = .ref t ∧ SqT K (upd H T (.tup [.int (i : Nat), x])) t [u, v] ∧ tb { D with nx := Pv (i + 1), ct := Pv (i + 1), bk := D.nx } (((σ.set j0 (some (.int (i : Nat)))).set j1 (some u)).set j2 (some v)) (upd H T (.tup [.int (i : Nat), x]))) (hd : ∀ σ H, Pv xs.length σ H → D.nx σ H) :
    ∃ W : Nat → Nat → L2.St → Hp → Prop, (∃ m, W 0 m σ H) ∧ ∀ i m σ H, W i m σ H →
      ((Ite K a).stop i H ∧ D.nx σ H) ∨ ((Ite K a).go i H ∧ ∃ N : L2.St → Hp → Prop, (∀ σ' H', N σ' H' → ∃ m', m' < m ∧ W (i + 1) m' σ' H') ∧ ∀ x H', (Ite K a).yld i H x H' → gTup K 2 (gCons (gName j0) (gCons (gTup K 2 (gCons (gName j1) (gCons (gName j2) gNil))) gNil)) x σ H' fun σ2 H2 => tb { D with nx := N, ct := N, bk := D.nx } σ2 H2) := by
  refine for_it (n := xs.length) walk_enum Pv h0 (fun i σ H _ p => hG i σ H p) ?_ hd
  rintro i v σ H H2 hi p ⟨T, x, y, rfl, nT, rfl, hx, hy⟩
  cases hx
  obtain ⟨t, u, v, rfl, ht, hb⟩ := hs i y σ H T hy nT p
  exact ⟨T, _, rfl, .inl (.inl upd_same), rfl, _, _, rfl, _, _, rfl, t, _, rfl, ht, rfl, _, _, rfl, _, _, rfl, rfl, rfl, hb⟩
/-- reasons by the lines seen so far -/
def RsP (P : Nm → Prop) (x : Int) (r : Rs) : Prop := (x = 0 ∧ r = (("first" : Str), none)) ∨ (∃ t, P t ∧ t.2.2.e = x ∧ r = (("break" : Str), some (t.1, t.2.1))) ∨ ∃ t, P t ∧ ∃ z ∈ kinds2, x ∈ letS t.2.2 z ∧ r = (z, some (t.1, t.2.1))
/-- the lines ahead of line j of screen i -/
def SeenT (ss : List Scr) (i j : Nat) (t : Nm) : Prop := ∃ (a b : Nat) (s : Scr), ss[a]? = some s ∧ (scrLines s)[b]? = some t.2.2 ∧ t.1 = (a : Int) ∧ t.2.1 = (b : Int) ∧ (a < i ∨ (a = i ∧ b < j))
theorem seen_all {ss : List Scr} {t : Nm} : SeenT ss ss.length 0 t ↔ t ∈ numL ss := by
  rw [mem_numL]
  constructor
  · rintro ⟨a, b, s, h1, h2, h3, h4, _⟩
    exact ⟨a, b, s, h1, h2, h3, h4⟩
  · rintro ⟨a, b, s, h1, h2, h3, h4⟩
    exact ⟨a, b, s, h1, h2, h3, h4, .inl (List.getElem?_eq_some_iff.mp h1).1⟩
theorem rsP_all {ss : List Scr} {x : Int} {r : Rs} : RsP (SeenT ss ss.length 0) x r ↔ RsOk (numL ss) x r := by
  unfold RsP RsOk
  simp only [seen_all]
theorem rsP_congr {P P' : Nm → Prop} (h : ∀ t, P t ↔ P' t) {x : Int} {r : Rs} : RsP P x r ↔ RsP P' x r := by
  unfold RsP
  simp only [h]
theorem seen_row {ss : List Scr} {i : Nat} {s : Scr} (hs : ss[i]? = some s) {t : Nm} : SeenT ss i (scrLines s).length t ↔ SeenT ss (i + 1) 0 t := by
  constructor
  · rintro ⟨a, b, s', h1, h2, h3, h4, h5⟩
    exact ⟨a, b, s', h1, h2, h3, h4, .inl (by omega)⟩
  · rintro ⟨a, b, s', h1, h2, h3, h4, h5⟩
    refine ⟨a, b, s', h1, h2, h3, h4, ?_⟩
    by_cases c : a < i
    · exact .inl c
    · have : a = i := by omega
      subst this
      rw [hs] at h1
      cases h1
      exact .inr ⟨rfl, (List.getElem?_eq_some_iff.mp h2).1⟩
/-- what one line gives -/
def newsR (i j : Nat) (l : Ln) (x : Int) : List Rs := (if x = l.e then [(("break" : Str), some ((i : Int), (j : Int)))] else []) ++ (if x = l.e - 1 ∨ x = l.e + 1 then [(("beside" : Str), some ((i : Int), (j : Int)))] else []) ++ (if x ∈ letS l "room" then [(("room" : Str), some ((i : Int), (j : Int)))] else []) ++ (if x ∈ letS l "long" then [(("long" : Str), some ((i : Int), (j : Int)))] else [])
theorem news_mem {i j : Nat} {l : Ln} {x : Int} {r : Rs} : r ∈ newsR i j l x ↔ (l.e = x ∧ r = (("break" : Str), some ((i : Int), (j : Int)))) ∨ ∃ z ∈ kinds2, x ∈ letS l z ∧ r = (z, some ((i : Int), (j : Int))) := by
  unfold newsR
  have hb : x ∈ letS l "beside" ↔ x = l.e - 1 ∨ x = l.e + 1 := mem_let_beside
  have ite_mem : ∀ (c : Prop) [Decidable c] (y : Rs), r ∈ (if c then [y] else []) ↔ c ∧ r = y := fun c _ y => by
    split
    · rename_i h
      simp [h]
    · rename_i h
      simp [h]
  rw [List.mem_append, List.mem_append, List.mem_append, ite_mem, ite_mem, ite_mem, ite_mem, ← hb]
  unfold kinds2
  constructor
  · rintro (((⟨h1, h2⟩ | ⟨h1, h2⟩) | ⟨h1, h2⟩) | ⟨h1, h2⟩)
    · exact .inl ⟨h1.symm, h2⟩
    · exact .inr ⟨"beside", by simp, h1, h2⟩
    · exact .inr ⟨"room", by simp, h1, h2⟩
    · exact .inr ⟨"long", by simp, h1, h2⟩
  · rintro (⟨h1, h2⟩ | ⟨z, hz, h1, h2⟩)
    · exact .inl (.inl (.inl ⟨h1.symm, h2⟩))
    · simp only [List.mem_cons, List.not_mem_nil, or_false] at hz
      rcases hz with rfl | rfl | rfl
      · exact .inl (.inl (.inr ⟨h1, h2⟩))
      · exact .inl (.inr ⟨h1, h2⟩)
      · exact .inr ⟨h1, h2⟩
theorem rsP_next {ss : List Scr} {i j : Nat} {s : Scr} {l : Ln} {x : Int} {r : Rs} (hs : ss[i]? = some s) (hl : (scrLines s)[j]? = some l) : RsP (SeenT ss i (j + 1)) x r ↔ RsP (SeenT ss i j) x r ∨ r ∈ newsR i j l x := by
  have hsn : ∀ t, SeenT ss i (j + 1) t ↔ SeenT ss i j t ∨ t = ((i : Int), (j : Int), l) := fun t => by
    constructor
    · rintro ⟨a, b, s', h1, h2, h3, h4, h5⟩
      by_cases c : a < i ∨ (a = i ∧ b < j)
      · exact .inl ⟨a, b, s', h1, h2, h3, h4, c⟩
      · have e1 : a = i := by omega
        have e2 : b = j := by omega
        subst e1 e2
        rw [hs] at h1
        cases h1
        rw [hl] at h2
        obtain ⟨t1, t2, t3⟩ := t
        dsimp only at h2 h3 h4
        cases h2
        rw [h3, h4]
        exact .inr rfl
    · rintro (⟨a, b, s', h1, h2, h3, h4, h5⟩ | rfl)
      · exact ⟨a, b, s', h1, h2, h3, h4, by omega⟩
      · exact ⟨i, j, s, hs, hl, rfl, rfl, .inr ⟨rfl, by omega⟩⟩
  rw [news_mem]
  unfold RsP
  simp only [hsn]
  constructor
  · rintro (h | ⟨t, h | rfl, h2⟩ | ⟨t, h | rfl, h2⟩)
    · exact .inl (.inl h)
    · exact .inl (.inr (.inl ⟨t, h, h2⟩))
    · exact .inr (.inl h2)
    · exact .inl (.inr (.inr ⟨t, h, h2⟩))
    · exact .inr (.inr h2)
  · rintro ((h | ⟨t, h, h2⟩ | ⟨t, h, h2⟩) | h | h)
    · exact .inl h
    · exact .inr (.inl ⟨t, .inl h, h2⟩)
    · exact .inr (.inr ⟨t, .inl h, h2⟩)
    · exact .inr (.inl ⟨_, .inr rfl, h⟩)
    · exact .inr (.inr ⟨_, .inr rfl, h⟩)
end Wc

/-! reasons as data, told and due. -/
namespace Wc
open PySem PySem.Spec PyProof.Rows L2
theorem units65 {k : Nat} {A : Around} (r : Room k A) : A.units + 65 < cLine := by
  have := r.un
  omega
def oRsD : Option Rs → PyData
  | none => .none
  | some r => rsD r
theorem eqv_rsD (r r' : Rs) : PyData.eqv (rsD r) (rsD r') = decide (r = r') := by
  obtain ⟨z, o⟩ := r
  obtain ⟨z', o'⟩ := r'
  cases o with
  | none =>
    cases o' with
    | none =>
      simp only [rsD, PyData.eqv, PyData.eqvAll, Bool.and_true]
      rw [Bool.eq_iff_iff]
      simp
    | some p' => simp [rsD, PyData.eqv, PyData.eqvAll]
  | some p =>
    cases o' with
    | none => simp [rsD, PyData.eqv, PyData.eqvAll]
    | some p' =>
      obtain ⟨a, b⟩ := p
      obtain ⟨a', b'⟩ := p'
      simp only [rsD, PyData.eqv, PyData.eqvAll, Bool.and_true]
      rw [Bool.eq_iff_iff]
      simp
theorem any_rsD (rs : List Rs) (r : Rs) : ((rs.map rsD).any fun z => PyData.eqv z (rsD r)) = decide (r ∈ rs) := by
  induction rs with
  | nil => rfl
  | cons r' rs ih =>
    rw [List.map_cons, List.any_cons, ih, eqv_rsD, Bool.eq_iff_iff, Bool.or_eq_true, decide_eq_true_eq, decide_eq_true_eq, decide_eq_true_eq, List.mem_cons]
    exact or_congr ⟨Eq.symm, Eq.symm⟩ Iff.rfl
theorem none_no {ns : List Nm} {x : Int} (h : reasOf ns x = none) (r : Rs) : ¬ RsOk ns x r := by
  obtain ⟨h1, h2⟩ := (reas_none x ns).mp h
  rintro (⟨h, _⟩ | ⟨t, ht, h, _⟩ | ⟨t, ht, z, hz, h, _⟩)
  · exact h2 (.inl h)
  · exact h1 ⟨t, ht, h⟩
  · exact h2 (.inr ⟨t, ht, z, hz, h⟩)
/-- a reason that names a line of the screens -/
def GoodR (ss : List Scr) (r : Rs) : Prop := r = (("first" : Str), none) ∨ ∃ (z : Str) (a b : Nat) (s : Scr) (l : Ln), r = (z, some ((a : Int), (b : Int))) ∧ (z = "break" ∨ z = "beside" ∨ z = "room" ∨ z = "long") ∧ ss[a]? = some s ∧ (scrLines s)[b]? = some l
theorem rs_good {ss : List Scr} {x : Int} {r : Rs} (h : RsOk (numL ss) x r) : GoodR ss r := by
  rcases h with ⟨_, h⟩ | ⟨t, ht, _, h⟩ | ⟨t, ht, z, hz, _, h⟩
  · exact .inl h
  · obtain ⟨a, b, s, h1, h2, h3, h4⟩ := mem_numL.mp ht
    exact .inr ⟨"break", a, b, s, _, by rw [h, h3, h4], .inl rfl, h1, h2⟩
  · obtain ⟨a, b, s, h1, h2, h3, h4⟩ := mem_numL.mp ht
    simp only [kinds2, List.mem_cons, List.not_mem_nil, or_false] at hz
    exact .inr ⟨z, a, b, s, _, by rw [h, h3, h4], .inr hz, h1, h2⟩
theorem rs_nc {n : Int} {ss : List Scr} (hs : Scrs n ss) (hl : ss.length ≤ 1000) {r : Rs} (h : GoodR ss r) : Nc 1000 1 (rsD r) := by
  rcases h with rfl | ⟨z, a, b, s, l, rfl, hz, h1, h2⟩
  · exact (Nc.tuple (Ncs.cons (Nc.str (x := "first") (L := 10) (by decide) (by decide)) (Ncs.nil (k := 0)))).mono (by decide) (by decide)
  · have ha := (List.getElem?_eq_some_iff.mp h1).1
    have hb := (List.getElem?_eq_some_iff.mp h2).1
    have ho := (hs.2 s (List.mem_of_getElem? h1)).2.2.1
    rw [scrLines_len ho.1] at hb
    have := ho.len
    have hz' : Nc 122 0 (.str z) := by
      rcases hz with rfl | rfl | rfl | rfl
      · exact (Nc.str (x := "break") (L := 10) (by decide) (by decide)).mono (by decide) (by decide)
      · exact (Nc.str (x := "beside") (L := 10) (by decide) (by decide)).mono (by decide) (by decide)
      · exact (Nc.str (x := "room") (L := 10) (by decide) (by decide)).mono (by decide) (by decide)
      · exact (Nc.str (x := "long") (L := 10) (by decide) (by decide)).mono (by decide) (by decide)
    exact (Nc.tuple (Ncs.cons hz' (Ncs.cons (Nc.intS (z := (a : Int)) (by omega)) (Ncs.cons (Nc.intS (z := (b : Int)) (by omega)) (Ncs.nil (k := 0)))))).mono (by decide) (by decide)
/-- a line's reason, judged -/
theorem rsOk_line {ss : List Scr} {x : Int} {z : Str} {a b : Nat} {s : Scr} {l : Ln} (h1 : ss[a]? = some s) (h2 : (scrLines s)[b]? = some l) : RsOk (numL ss) x (z, some ((a : Int), (b : Int))) ↔ (z = "break" ∧ l.e = x) ∨ (z ∈ kinds2 ∧ x ∈ letS l z) := by
  have hu : ∀ t ∈ numL ss, some ((a : Int), (b : Int)) = some (t.1, t.2.1) → t.2.2 = l := fun t ht e => by
    obtain ⟨a', b', s', g1, g2, g3, g4⟩ := mem_numL.mp ht
    injection e with e
    injection e with e1 e2
    have ea : a' = a := by omega
    have eb : b' = b := by omega
    subst ea eb
    rw [h1] at g1
    cases g1
    rw [h2] at g2
    exact (Option.some.inj g2).symm
  have hm : ((a : Int), (b : Int), l) ∈ numL ss := mem_numL.mpr ⟨a, b, s, h1, h2, rfl, rfl⟩
  constructor
  · rintro (⟨_, h⟩ | ⟨t, ht, h, e⟩ | ⟨t, ht, z', hz, h, e⟩)
    · cases h
    · injection e with e1 e2
      exact .inl ⟨e1, by rw [← hu t ht e2]; exact h⟩
    · injection e with e1 e2
      rw [e1, ← hu t ht e2]
      exact .inr ⟨hz, h⟩
  · rintro (⟨rfl, h⟩ | ⟨h, h'⟩)
    · exact .inr (.inl ⟨_, hm, h, rfl⟩)
    · exact .inr (.inr ⟨_, hm, z, h, h', rfl⟩)
theorem rsOk_first {ss : List Scr} {x : Int} : RsOk (numL ss) x (("first" : Str), none) ↔ x = 0 := by
  constructor
  · rintro (⟨h, _⟩ | ⟨t, _, _, e⟩ | ⟨t, _, z, _, _, e⟩)
    · exact h
    · cases e
    · cases e
  · exact fun h => .inl ⟨h, rfl⟩
end Wc

/-! sorted(rows): a list of lists of ints. -/
namespace Wc
open PySem PySem.Spec PyProof.Rows L2
def rowD (b : List Int) : PyData := .list (b.map .int)
theorem alikeAll_ints : ∀ xs ys : List Int, PySem.W.alikeAll (xs.map PyData.int) (ys.map PyData.int) = true
  | [], _ => by simp [PySem.W.alikeAll]
  | _ :: _, [] => by simp [PySem.W.alikeAll]
  | x :: xs, y :: ys => by
    rw [List.map_cons, List.map_cons]
    simp only [PySem.W.alikeAll, PySem.W.alike, alikeAll_ints xs ys, Bool.and_self]
theorem each_rows {X : Cx} {pins : List (Addr × Obj)} {σ : L2.St} {H : Hp} {s : Shared} (I : Inv X pins σ H s) : ∀ {bs : List (List Int)} {xs : List V} {its : List Value}, DpAll X.K H xs (bs.map rowD) → Vals xs its →
    PySem.W.EachIs (fun v b => (∃ as, Reads s.heap v (rowD b) as) ∧ ∃ x, RelV x v ∧ Dp X.K H x (rowD b)) its bs
  | [], _, _, .nil, .nil => .nil
  | b :: bs, _, _, .cons h1 h2, .cons r1 r2 => .cons ⟨Dp.reads I _ _ _ h1 r1, _, r1, h1⟩ (each_rows I h2 r2)
theorem rows_back {K : PySem.W.Frag} {H : Hp} {R : Value → List Int → Prop} (hR : ∀ v b, R v b → ∃ x, RelV x v ∧ Dp K H x (rowD b)) : ∀ {out : List Value} {cs : List (List Int)}, PySem.W.EachIs R out cs → ∃ ys : List V, Vals ys out ∧ DpAll K H ys (cs.map rowD)
  | [], [], .nil => ⟨[], .nil, .nil⟩
  | _ :: _, _ :: _, .cons h1 h2 => by
    obtain ⟨x, r, d⟩ := hR _ _ h1
    obtain ⟨ys, r2, d2⟩ := rows_back hR h2
    exact ⟨x :: ys, .cons r r2, .cons d d2⟩
/-- sorted(xs), rows of ints: what the sort's own order says -/
def rSortedR (K : PySem.W.Frag) : List V → Hp → VK → Prop := fun vs H Q => ∃ (a : Addr) (xs : List V) (bs : List (List Int)), vs = [V.ref a] ∧ SqL K H a xs ∧ DpAll K H xs (bs.map rowD) ∧
  ∀ ys p, DpAll K H ys ((bs.mergeSort (PySem.W.dataLe false rowD)).map rowD) → H p = none → Q (.ref p) (upd H p (.lst ys))
theorem cr_sortedR {X : Cx} (hu : X.A.units + 65 < cLine) : CallR X (.builtin "sorted") (rSortedR X.K) := by
  intro pins s σ H vs us Q I r h
  obtain ⟨a, xs, bs, rfl, hs, hx, q⟩ := h
  obtain ⟨its, rv, hl, hz⟩ := I.list hs
  obtain ⟨u, rfl, ru⟩ := vals1 r
  obtain rfl : u = Value.ref a := ru
  have hbl : bs.length = xs.length := by
    have := dpAll_len hx
    rw [List.length_map] at this
    exact this.symm
  have he := each_rows I hx rv
  refine PySem.W.sorted_data (enc := rowD) (R := fun v b => (∃ as, Reads s.heap v (rowD b) as) ∧ ∃ x, RelV x v ∧ Dp X.K H x (rowD b)) hl.isList he (he.mono fun v b h => h.1) (fun d hd d' hd' => ?_) (.inr fun d hd => ?_) (by omega) (fun b _ => ?_) (fun out ho eo => ?_)
  · obtain ⟨b, _, rfl⟩ := List.mem_map.mp hd
    obtain ⟨b', _, rfl⟩ := List.mem_map.mp hd'
    show PySem.W.alike (.list _) (.list _) = true
    simp only [PySem.W.alike, alikeAll_ints]
  · obtain ⟨b, _, rfl⟩ := List.mem_map.mp hd
    exact ⟨(fun h => by cases h), (fun xs h => by cases h)⟩
  · show X.A.units + 2 + PyData.depth (.list _) < _
    rw [PyData.depth, depth_ints]
    omega
  · obtain ⟨ys, ry, dy⟩ := rows_back (K := X.K) (H := H) (fun v b h => h.2) eo
    obtain ⟨c, hc⟩ := PyProof.Rows.sortedAll_at s.heap its out.toArray
    have hyl : ys.length = xs.length := by rw [ry.length, ho, hbl]
    refine ⟨.ref (s.heap.objs.size + 1), upd H (s.heap.objs.size + 1) (.lst ys), I.laid (t' := s.toks) (fun b u e => PyProof.Rows.sortedAll_old e) (Nat.le_succ _) ⟨by rw [hyl]; exact hz, out, c, ry, hc⟩, rfl, q ys _ dy (I.hok.fresh (Nat.le_succ _))⟩
end Wc

/-! rows of ints in the order of the lists; the texts by their numbers stand in that order. -/
namespace Wc
open PySem PySem.Spec PyProof.Rows L2 PySem.W
def ltI : List Int → List Int → Bool
  | [], [] => false
  | [], _ :: _ => true
  | _ :: _, [] => false
  | x :: xs, y :: ys => if x = y then ltI xs ys else decide (x < y)
theorem ltI_lex : ∀ xs ys : List Int, PyProof.Rows.lexLt itemOrd (PySem.W.keyToksAll (xs.map PyData.int)) (PySem.W.keyToksAll (ys.map PyData.int)) = ltI xs ys
  | [], [] => by
    rw [List.map_nil, PySem.W.keyToksAll]
    decide +kernel
  | [], y :: ys => by
    rw [List.map_nil, List.map_cons, PySem.W.toks_all_cons, PySem.W.keyToksAll]
    rfl
  | x :: xs, [] => by
    rw [List.map_nil, List.map_cons, PySem.W.toks_all_cons, PySem.W.keyToksAll]
    rfl
  | x :: xs, y :: ys => by
    rw [List.map_cons, List.map_cons]
    unfold ltI
    have ha : PySem.W.alike (.int x) (.int y) = true := by simp [PySem.W.alike]
    by_cases c : x = y
    · rw [if_pos c, PySem.W.dataLt_all_yes ha (by simp [PyData.eqv, c])]
      exact ltI_lex xs ys
    · rw [if_neg c, PySem.W.dataLt_all_no ha (by simp [PyData.eqv, c]), PySem.W.dataLt_int]
theorem dataLt_rows (xs ys : List Int) : PySem.W.dataLt (rowD xs) (rowD ys) = ltI xs ys := by
  unfold rowD
  rw [PySem.W.dataLt_list]
  exact ltI_lex xs ys
theorem ltI_irr : ∀ xs : List Int, ltI xs xs = false
  | [] => rfl
  | x :: xs => by
    unfold ltI
    rw [if_pos rfl]
    exact ltI_irr xs
theorem ltI_tri : ∀ xs ys : List Int, ltI xs ys = false → ltI ys xs = false → xs = ys
  | [], [], _, _ => rfl
  | [], _ :: _, h, _ => by cases h
  | _ :: _, [], _, h => by cases h
  | x :: xs, y :: ys, h1, h2 => by
    unfold ltI at h1 h2
    by_cases c : x = y
    · rw [if_pos c] at h1
      rw [if_pos c.symm] at h2
      rw [c, ltI_tri xs ys h1 h2]
    · rw [if_neg c] at h1
      rw [if_neg (Ne.symm c)] at h2
      have := of_decide_eq_false h1
      have := of_decide_eq_false h2
      omega
theorem ltI_asym : ∀ xs ys : List Int, ltI xs ys = true → ltI ys xs = false
  | [], [], _ => rfl
  | [], _ :: _, _ => rfl
  | _ :: _, [], h => by cases h
  | x :: xs, y :: ys, h => by
    unfold ltI at h ⊢
    by_cases c : x = y
    · rw [if_pos c] at h
      rw [if_pos c.symm]
      exact ltI_asym xs ys h
    · rw [if_neg c] at h
      rw [if_neg (Ne.symm c)]
      have := of_decide_eq_true h
      exact decide_eq_false (by omega)
theorem ltI_len : ∀ (p : Int) (xs ys : List Int), ltI (lenFrom p xs) (lenFrom p ys) = ltI xs ys
  | _, [], [] => rfl
  | _, [], _ :: _ => rfl
  | _, _ :: _, [] => rfl
  | p, x :: xs, y :: ys => by
    unfold lenFrom ltI
    by_cases c : x = y
    · rw [if_pos c, if_pos (by omega), c]
      exact ltI_len (y + 1) xs ys
    · rw [if_neg c, if_neg (by omega)]
      exact decide_eq_decide.mpr (by omega)
theorem ltI_head {i N : Int} {A B : List Int} (hN : i < N) (hB : ∀ x ∈ B, i < x) : ltI (i :: A) (B ++ [N]) = true := by
  match B, hB with
  | [], _ =>
    show (if i = N then _ else decide (i < N)) = true
    rw [if_neg (by omega)]
    exact decide_eq_true hN
  | b :: B, hB =>
    have := hB b (List.mem_cons_self ..)
    show (if i = b then _ else decide (i < b)) = true
    rw [if_neg (by omega)]
    exact decide_eq_true this
theorem ltI_cons (i : Int) (A B : List Int) : ltI (i :: A) (i :: B) = ltI A B := by
  show (if i = i then _ else _) = _
  rw [if_pos rfl]
theorem walk_mono : ∀ {b : Bool} {cs : List Nat} (i : Int) {k k' : Nat} {N : Int}, N = i + cs.length → PatOk cs → AfterB b cs → k < k' → k' < wayB b cs → ltI (walkC b cs i k ++ [N]) (walkC b cs i k' ++ [N]) = true
  | true, [], _, _, _, _, _, _, ⟨_, _, e, _⟩, _, _ => by cases e
  | false, [], _, k, k', _, _, _, _, h1, h2 => by
    have h2 : k' < 1 := h2
    omega
  | true, c :: cs, i, k, k', N, hN, ⟨_, _, _, h⟩, ⟨d, r, e, hd⟩, h1, h2 => by
    obtain ⟨rfl, rfl⟩ := List.cons.inj e
    exact walk_mono (b := false) (i + 1) (by rw [hN, List.length_cons]; omega) h trivial h1 h2
  | false, c :: cs, i, k, k', N, hN, ⟨h0, g1, g2, h⟩, _, h1, h2 => by
    rw [List.length_cons] at hN
    have hN' : N = i + 1 + cs.length := by omega
    have hk : k' < ways (c :: cs) := h2
    rw [ways_cons] at hk
    unfold walkC
    by_cases c1 : c = 63 ∧ ways (cs.drop 1) ≤ k
    · rw [if_pos c1, if_pos ⟨c1.1, by omega⟩]
      rw [if_pos c1.1] at hk
      exact walk_mono (b := false) (i + 1) hN' h trivial (by omega) (by show _ < ways cs; omega)
    · rw [if_neg c1]
      by_cases c2 : c = 63 ∨ c = 95
      · rw [if_pos c2]
        by_cases c3 : c = 63 ∧ ways (cs.drop 1) ≤ k'
        · rw [if_pos c3]
          rw [if_pos c3.1] at hk
          exact ltI_head (by omega) (walk_head h (by omega))
        · rw [if_neg c3, if_pos c2, List.cons_append, List.cons_append, ltI_cons]
          refine walk_mono (b := true) (i + 1) hN' h ?_ h1 ?_
          · rcases c2 with c2 | c2
            · exact g1 c2
            · obtain ⟨r, e⟩ := g2 c2
              exact ⟨_, r, e, by decide⟩
          · show k' < ways (cs.drop 1)
            rcases c2 with c2 | c2
            · have : ¬ ways (cs.drop 1) ≤ k' := fun h => c3 ⟨c2, h⟩
              omega
            · obtain ⟨r, rfl⟩ := g2 c2
              rw [if_neg (by omega), ways_cons, if_neg (by decide)] at hk
              exact hk
      · have c4 : ¬ (c = 63 ∧ ways (cs.drop 1) ≤ k') := fun h => c2 (.inl h.1)
        rw [if_neg c2, if_neg c4, if_neg c2]
        rw [if_neg (by omega)] at hk
        exact walk_mono (b := false) (i + 1) hN' h trivial h1 hk
theorem nth_mono {n : Int} {ss : List Scr} (h : Scrs n ss) (hc : NoClash ss) {k k' : Nat} (h1 : k < k') (h2 : k' < countOf n ss) : ltI (nthOf n ss k) (nthOf n ss k') = true := by
  unfold nthOf lengthsOf
  rw [ltI_len]
  have hn := h.len
  exact walk_mono (b := false) 0 (by rw [patC_len]; omega) (patOk_pat h hc) trivial h1 h2
/-- sorted, the fitting texts stand by their numbers -/
theorem sorted_fit {n : Int} {ss : List Scr} (h : Scrs n ss) (hc : NoClash ss) : ((everyOf n).filter fun ws => fitsOf n ss ws).mergeSort (PySem.W.dataLe false rowD) = (List.range (countOf n ss)).map (nthOf n ss) := by
  have hn := h.len
  have hp : ((everyOf n).filter fun ws => fitsOf n ss ws).Perm ((List.range (countOf n ss)).map (nthOf n ss)) := by
    refine (List.perm_ext_iff_of_nodup ((every_nodup n).filter _) ?_).mpr fun ws => ?_
    · refine List.pairwise_map.mpr ?_
      refine List.Pairwise.imp_of_mem ?_ (List.nodup_range (n := countOf n ss))
      intro a b ha hb hab e
      exact hab (nth_inj h hc (List.mem_range.mp ha) (List.mem_range.mp hb) e)
    · rw [List.mem_filter, mem_every hn.1 hn.2, List.mem_map]
      constructor
      · rintro ⟨⟨t1, t2⟩, hf⟩
        obtain ⟨h1, h2⟩ := nth_index h hc t1 t2 hf
        exact ⟨_, List.mem_range.mpr h1, h2⟩
      · rintro ⟨k, hk, rfl⟩
        obtain ⟨t1, t2, _, t4⟩ := nth_fits h hc (List.mem_range.mp hk)
        exact ⟨⟨t1, t2⟩, t4⟩
  have e : ∀ a b, PySem.W.dataLe false rowD a b = !ltI b a := fun a b => by
    rw [PySem.W.dataLe_eq]
    show (!PySem.W.dataLt (rowD b) (rowD a)) = _
    rw [dataLt_rows]
  refine (PySem.W.sort_unique (PySem.W.sortLe_total _ _ _) (le := PySem.W.dataLe false rowD) ?_ fun c => ?_).symm
  · refine List.pairwise_map.mpr ?_
    refine List.Pairwise.imp_of_mem ?_ (List.pairwise_lt_range (n := countOf n ss))
    intro a b ha hb hab
    rw [e, ltI_asym _ _ (nth_mono h hc hab (List.mem_range.mp hb))]
    rfl
  · have hc' : ∀ a, PySem.W.sameRank (PySem.W.dataLe false rowD) c a = true → a = c := fun a ha => by
      unfold PySem.W.sameRank at ha
      rw [Bool.and_eq_true, e, e, Bool.not_eq_true', Bool.not_eq_true'] at ha
      exact ltI_tri _ _ ha.1 ha.2
    have hrep : ∀ l : List (List Int), l.filter (PySem.W.sameRank (PySem.W.dataLe false rowD) c) = List.replicate (l.filter (PySem.W.sameRank (PySem.W.dataLe false rowD) c)).length c := fun l => List.eq_replicate_of_mem fun a ha => hc' a (List.mem_filter.mp ha).2
    rw [hrep, hrep (List.filter _ _), (hp.filter _).length_eq]
end Wc

/-! pages: texts of words, joined by blanks; comprehensions over a text. -/
namespace Wc
open PySem PySem.Spec PyProof.Rows L2
/-- [e for c in text] -/
theorem lc_mapS {z : Str} {D : Addr} {j : Nat} {te : TE} {vs : List Nat} {σ : L2.St} {H1 : Hp} {Qd : Hp → Prop} (f : Nat → V) (hz : z.cps.toList.length ≤ sizeLine) (nD : H1 D = Option.none)
    (hs : ∀ (i c : Nat) (H' : Hp), z.cps.toList[i]? = some c → Same H1 H' → Evs te ((wipe σ vs).set j (some (.str ⟨#[c]⟩))) H' (f c)) (hd : ∀ H', Same H1 H' → H' D = some (.lst (z.cps.toList.map f)) → Qd H')
    (hw : ∀ x : V, wipe ((wipe σ vs).set j (some x)) vs = wipe σ vs := by intro x; rfl) :
    ∃ W : Nat → Nat → Hp → Prop, (∃ m, W 0 m (upd H1 D (.lst []))) ∧ ∀ i m H, W i m H →
      ((Its z).stop i H ∧ Qd H) ∨ ((Its z).go i H ∧ ∃ Nx : Hp → Prop, (∀ H', Nx H' → ∃ m', m' < m ∧ W (i + 1) m' H') ∧ ∀ x H', (Its z).yld i H x H' → gName j x (wipe σ vs) H' fun σ2 H2 => wipe σ2 vs = wipe σ vs ∧ tYes σ2 H2 fun b H3 =>
        if b = true then te σ2 H3 fun y H4 => ∃ acc, H4 D = some (.lst acc) ∧ acc.length < sizeLine ∧ Nx (upd H4 D (.lst (acc ++ [y]))) else Nx H3) := by
  refine lc_it walk_str (fun i H => Same H1 H ∧ H D = some (.lst ((z.cps.toList.take i).map f))) ⟨same_new nD, ?_⟩ (fun _ _ _ _ => trivial) ?_ ?_
  · rw [upd_same, List.take_zero]
    rfl
  · rintro i x H H' hi ⟨sm, eD⟩ ⟨rfl, c, hc, rfl⟩
    have hc' : z.cps.toList[i]? = some c := by rw [← hc, Array.getElem?_toList]
    have hil : i < z.cps.toList.length := (List.getElem?_eq_some_iff.mp hc').1
    refine ⟨hw _, ?_⟩
    unfold tYes
    dsimp only
    rw [if_pos rfl]
    refine hs i c H' hc' sm _ fun H4 s4 => ⟨(z.cps.toList.take i).map f, s4 _ _ eD, ?_, ?_, ?_⟩
    · rw [List.length_map, List.length_take]
      omega
    · exact same_mut (sm.trans s4) nD
    · rw [upd_same, List.take_add_one, hc', List.map_append]
      rfl
  · rintro H ⟨sm, eD⟩
    refine hd H sm ?_
    rw [eD, ← Array.length_toList, List.take_length]
/-! ### the signs of a page -/
def pageL (ps : List (List Nat)) : List Nat := TL.joinL [32] ps
def lensOf (ps : List (List Nat)) : List Int := ps.map fun p => (p.length : Int)
theorem pageL_len : ∀ {ps : List (List Nat)}, ps ≠ [] → ((pageL ps).length : Int) = total (lensOf ps)
  | [], h => absurd rfl h
  | [p], _ => by
    show (p.length : Int) = ((p.length : Int) + 0) + ((0 + 1 : Nat) : Int) - 1
    omega
  | p :: q :: r, _ => by
    have ih := pageL_len (ps := q :: r) (by simp)
    show ((p ++ ([32] ++ pageL (q :: r))).length : Int) = _
    rw [List.length_append, List.length_append]
    unfold total lensOf at ih ⊢
    simp only [List.map_cons, List.sum_cons, List.length_cons, List.length_nil] at ih ⊢
    omega
theorem pageL_at : ∀ {ps : List (List Nat)} (a : Int) (j : Nat), (∀ p ∈ ps, 1 ≤ p.length ∧ 32 ∉ p) → j < (pageL ps).length → ((pageL ps)[j]? = some 32 ↔ a + 1 + (j : Int) ∈ endsFrom a (lensOf ps))
  | [], a, j, _, h => absurd h (Nat.not_lt_zero _)
  | [p], a, j, hp, h => by
    have h : j < p.length := h
    obtain ⟨h1, h2⟩ := hp p (List.mem_singleton.mpr rfl)
    constructor
    · intro e
      have e : p[j]? = some 32 := e
      exact (h2 (List.mem_of_getElem? e)).elim
    · intro e
      have e : a + 1 + (j : Int) ∈ [a + (1 + (p.length : Int))] := e
      have := List.mem_singleton.mp e
      omega
  | p :: q :: r, a, j, hp, h => by
    obtain ⟨h1, h2⟩ := hp p (List.mem_cons_self ..)
    have ih := pageL_at (ps := q :: r) (a + (1 + (p.length : Int))) (j - (p.length + 1)) (fun x hx => hp x (List.mem_cons_of_mem _ hx))
    have hpos : ∀ e ∈ endsFrom (a + (1 + (p.length : Int))) (lensOf (q :: r)), a + (1 + (p.length : Int)) < e := fun e he => (ends_rng _ _ (by
      intro n hn
      obtain ⟨x, hx, rfl⟩ := List.mem_map.mp hn
      have := (hp x (List.mem_cons_of_mem _ hx)).1
      omega) e he).1
    have hl : (pageL (p :: q :: r)).length = p.length + (1 + (pageL (q :: r)).length) := by
      show (p ++ ([32] ++ pageL (q :: r))).length = _
      rw [List.length_append, List.length_append]
      rfl
    show ((p ++ ([32] ++ pageL (q :: r)))[j]? = some 32 ↔ a + 1 + (j : Int) ∈ (a + (1 + (p.length : Int))) :: endsFrom (a + (1 + (p.length : Int))) (lensOf (q :: r)))
    rw [List.mem_cons]
    rcases Nat.lt_trichotomy j p.length with c | c | c
    · rw [List.getElem?_append_left c]
      constructor
      · intro e
        exact (h2 (List.mem_of_getElem? e)).elim
      · rintro (e | e)
        · omega
        · have := hpos _ e
          omega
    · subst c
      rw [List.getElem?_append_right (Nat.le_refl _), Nat.sub_self]
      exact ⟨fun _ => .inl (by omega), fun _ => rfl⟩
    · rw [List.getElem?_append_right (by omega), List.getElem?_append_right (by show 1 ≤ _; omega)]
      have e1 : j - p.length - [32].length = j - (p.length + 1) := by
        show j - p.length - 1 = _
        omega
      rw [e1, ih (by omega)]
      have e2 : a + (1 + (p.length : Int)) + 1 + ((j - (p.length + 1) : Nat) : Int) = a + 1 + (j : Int) := by omega
      rw [e2]
      exact ⟨.inr, fun h => h.elim (fun e => by omega) id⟩
/-! ### cut at the ends of lines -/
def cutAt (C : List Nat) (s : Int) : List Int → List (List Nat)
  | [] => []
  | e :: es => ((C.drop s.toNat).take (e.toNat - s.toNat)) :: cutAt C (e + 1) es
def CutOk (C : List Nat) (s : Int) : List Int → Prop
  | [] => False
  | [e] => s ≤ e ∧ e = C.length
  | e :: e' :: es => s ≤ e ∧ C[e.toNat]? = some 32 ∧ CutOk C (e + 1) (e' :: es)
theorem cutAt_join {C : List Nat} : ∀ {es : List Int} {s : Int}, 0 ≤ s → CutOk C s es → TL.joinL [32] (cutAt C s es) = C.drop s.toNat
  | [], _, _, h => h.elim
  | [e], s, h0, ⟨h1, h2⟩ => by
    show (C.drop s.toNat).take (e.toNat - s.toNat) = _
    refine List.take_of_length_le ?_
    rw [List.length_drop]
    omega
  | e :: e' :: es, s, h0, ⟨h1, h2, h3⟩ => by
    have ih := cutAt_join (C := C) (by omega) h3
    show (C.drop s.toNat).take (e.toNat - s.toNat) ++ ([32] ++ TL.joinL [32] (cutAt C (e + 1) (e' :: es))) = _
    rw [ih]
    have hk : C.drop e.toNat = 32 :: C.drop (e + 1).toNat := by
      obtain ⟨hl, hg⟩ := List.getElem?_eq_some_iff.mp h2
      rw [List.drop_eq_getElem_cons hl, hg]
      congr 2
      omega
    have := List.take_append_drop (e.toNat - s.toNat) (C.drop s.toNat)
    rw [List.drop_drop, show s.toNat + (e.toNat - s.toNat) = e.toNat by omega, hk] at this
    exact this
theorem cutOk_of {C : List Nat} : ∀ (ns : List Int) (p : Int), -1 ≤ p → ns ≠ [] → (∀ n ∈ ns, 1 ≤ n) → (∀ e ∈ endsFrom p ns, e < C.length → C[e.toNat]? = some 32) → p + ns.sum + ns.length = C.length → CutOk C (p + 1) (endsFrom p ns)
  | [], _, _, h, _, _, _ => absurd rfl h
  | [n], p, hp, _, hn, _, hs => by
    have h1 := hn n (List.mem_singleton.mpr rfl)
    simp only [List.sum_cons, List.sum_nil, List.length_cons, List.length_nil] at hs
    refine ⟨by omega, ?_⟩
    omega
  | n :: m :: r, p, hp, _, hn, hc, hs => by
    have h1 := hn n (List.mem_cons_self ..)
    have hrest : ∀ x ∈ m :: r, 1 ≤ x := fun x hx => hn x (List.mem_cons_of_mem _ hx)
    have hsum : ((m :: r).length : Int) ≤ (m :: r).sum := by
      have : ∀ l : List Int, (∀ x ∈ l, 1 ≤ x) → (l.length : Int) ≤ l.sum := by
        intro l
        induction l with
        | nil => intro _; exact Int.le_refl _
        | cons a l ih =>
          intro h
          have := ih fun x hx => h x (List.mem_cons_of_mem _ hx)
          have := h a (List.mem_cons_self ..)
          simp only [List.sum_cons, List.length_cons]
          omega
      exact this _ hrest
    simp only [List.sum_cons, List.length_cons] at hs hsum
    refine ⟨by omega, hc _ (List.mem_cons_self ..) (by omega), ?_⟩
    exact cutOk_of (m :: r) (p + (1 + n)) (by omega) (by simp) hrest (fun e he => hc e (List.mem_cons_of_mem _ he)) (by simp only [List.sum_cons, List.length_cons]; omega)
theorem cutAt_len {C : List Nat} : ∀ {es : List Int} {s : Int}, (cutAt C s es).length = es.length
  | [], _ => rfl
  | _ :: es, _ => congrArg (· + 1) (cutAt_len (es := es))
theorem cutAt_get {C : List Nat} : ∀ {es : List Int} {s : Int} (i : Nat) (a e : Int), (s :: es.map (· + 1))[i]? = some a → es[i]? = some e → (cutAt C s es)[i]? = some ((C.drop a.toNat).take (e.toNat - a.toNat))
  | [], _, i, _, _, _, h => by cases h
  | x :: es, s, 0, a, e, h, h' => by
    cases h
    cases h'
    rfl
  | x :: es, s, i + 1, a, e, h, h' => cutAt_get (es := es) (s := x + 1) i a e h h'
/-! ### the words of a text -/
def sp32 : Str := ⟨#[32]⟩
def printable (z : Str) : Bool := z.cps.toList.all fun c => decide (32 ≤ c) && decide (c ≤ 126)
def lensS (z : Str) : List Int := (Txt.split z sp32).map fun p => (p.length : Int)
def WordsD (o : Option PyData) (ls : List Int) : Prop := ∃ z, o = some (.str z) ∧ printable z = true ∧ ls = lensS z ∧ Txt' ls
theorem WordsD.uniq {o : Option PyData} {ls ls' : List Int} (h : WordsD o ls) (h' : WordsD o ls') : ls = ls' := by
  obtain ⟨z, rfl, _, rfl, _⟩ := h
  obtain ⟨z', e, _, rfl, _⟩ := h'
  cases e
  rfl
def partsL (z : Str) : List (List Nat) := (Txt.split z sp32).map fun p => p.cps.toList
theorem parts_page (z : Str) : pageL (partsL z) = z.cps.toList := by
  have h := StrLaws.join_split z sp32
  have h2 := TL.tl_join sp32 (Txt.split z sp32)
  rw [h] at h2
  exact h2.symm
theorem parts_lens (z : Str) : lensOf (partsL z) = lensS z := by
  unfold lensOf partsL lensS
  rw [List.map_map]
  refine List.map_congr_left fun p _ => ?_
  show (p.cps.toList.length : Int) = (p.cps.size : Int)
  rw [Array.length_toList]
theorem parts_free (z : Str) : ∀ p ∈ partsL z, 32 ∉ p := fun p hp => by
  obtain ⟨x, hx, rfl⟩ := List.mem_map.mp hp
  exact StrLaws.split_free z 32 x hx
theorem words_ok {z : Str} {ls : List Int} (e : ls = lensS z) (ht : Txt' ls) : (z.cps.toList.length : Int) = total ls ∧ ∀ j : Nat, j < z.cps.toList.length → (z.cps.toList[j]? = some 32 ↔ (j : Int) ∈ endsOf ls) := by
  subst e
  have hne : partsL z ≠ [] := fun h => ht.1 (by rw [← parts_lens, h]; rfl)
  have hp : ∀ p ∈ partsL z, 1 ≤ p.length ∧ 32 ∉ p := fun p h => by
    refine ⟨?_, parts_free z p h⟩
    have := ht.2.1 (p.length : Int) (by rw [← parts_lens]; exact List.mem_map.mpr ⟨p, h, rfl⟩)
    omega
  have h1 := pageL_len hne
  rw [parts_page, parts_lens] at h1
  refine ⟨h1, fun j hj => ?_⟩
  have h2 := pageL_at (-1) j hp (by rw [parts_page]; exact hj)
  rw [parts_page, parts_lens] at h2
  rw [h2, show (-1 : Int) + 1 + (j : Int) = (j : Int) by omega]
  rfl
/-- a page of words -/
theorem page_words {ps : List Str} (hne : ps ≠ []) (hp : ∀ p ∈ ps, ∀ c ∈ p.cps.toList, 33 ≤ c ∧ c ≤ 126) : Txt.split (Txt.join sp32 ps) sp32 = ps ∧ printable (Txt.join sp32 ps) = true := by
  constructor
  · exact TL.split_join (y := sp32) (s := 32) (S := []) rfl (by decide +kernel) hne fun p h hm => by
      have := hp p h 32 hm
      omega
  · unfold printable
    have e : (Txt.join sp32 ps).cps.toList = TL.joinL [32] (ps.map fun p => p.cps.toList) := by
      rw [TL.join_eq]
      exact TL.tl_join sp32 ps
    rw [e, List.all_eq_true]
    have key : ∀ qs : List (List Nat), (∀ q ∈ qs, ∀ c ∈ q, 33 ≤ c ∧ c ≤ 126) → ∀ c ∈ TL.joinL [32] qs, (decide (32 ≤ c) && decide (c ≤ 126)) = true := by
      intro qs
      induction qs with
      | nil => intro _ c h; cases h
      | cons q qs ih =>
        intro hq c hc
        cases qs with
        | nil =>
          have := hq q (List.mem_cons_self ..) c hc
          simp
          omega
        | cons r rs =>
          have hc : c ∈ q ++ ([32] ++ TL.joinL [32] (r :: rs)) := hc
          rcases List.mem_append.mp hc with hc | hc
          · have := hq q (List.mem_cons_self ..) c hc
            simp
            omega
          · rcases List.mem_append.mp hc with hc | hc
            · rw [List.mem_singleton.mp hc]
              decide
            · exact ih (fun x hx => hq x (List.mem_cons_of_mem _ hx)) c hc
    refine key _ fun q hq c hc => ?_
    obtain ⟨p, h, rfl⟩ := List.mem_map.mp hq
    exact hp p h c hc
/-! ### the lines of a text -/
def rowsS (z : Str) (rs : List Int) : List Str := (cutAt z.cps.toList 0 (endsOf rs)).map fun l => (⟨l.toArray⟩ : Str)
theorem rows_len (z : Str) (rs : List Int) : (rowsS z rs).length = rs.length := by
  unfold rowsS
  rw [List.length_map, cutAt_len, endsOf_len]
theorem rows_get {z : Str} {rs : List Int} {i : Nat} {s e : Int} (hr : ∀ n ∈ rs, 1 ≤ n) (hn : total rs = z.cps.toList.length) (hs : (startsOf (endsOf rs))[i]? = some s) (he : (endsOf rs)[i]? = some e) : (rowsS z rs)[i]? = some (cutS z (some s) (some e)) ∧ (cutS z (some s) (some e)).length = (e - s).toNat := by
  obtain ⟨_, g1, g2, g3⟩ := starts_ends hr hs he
  have hzl : z.length = z.cps.toList.length := by
    show z.cps.size = _
    rw [Array.length_toList]
  have hcut : (cutS z (some s) (some e)).cps.toList = (z.cps.toList.drop s.toNat).take (e.toNat - s.toNat) := by
    unfold cutS
    have i1 : HT.sIx z.length 0 (some s) = s.toNat := by
      unfold HT.sIx
      simp only
      split <;> omega
    have i2 : HT.sIx z.length z.length (some e) = e.toNat := by
      unfold HT.sIx
      simp only
      split <;> omega
    rw [i1, i2]
  have hc2 : cutS z (some s) (some e) = ⟨((z.cps.toList.drop s.toNat).take (e.toNat - s.toNat)).toArray⟩ := by
    rw [← hcut]
  constructor
  · unfold rowsS
    rw [List.getElem?_map, cutAt_get i s e (startsOf_get hs) he, hc2]
    rfl
  · show (cutS z (some s) (some e)).cps.size = _
    rw [← Array.length_toList, hcut, List.length_take, List.length_drop]
    omega
theorem rows_join {z : Str} {ls rs : List Int} (e : ls = lensS z) (ht : Txt' ls) (hr : Txt' rs) (hn : total rs = total ls) (hsub : ∀ x ∈ endsOf rs, x ∈ endsOf ls) : Txt.join sp32 (rowsS z rs) = z := by
  obtain ⟨h1, h2⟩ := words_ok e ht
  have hk := cutOk_of (C := z.cps.toList) rs (-1) (by omega) hr.1 hr.2.1 (fun x hx hlt => by
    have hm := ends_max hr x hx
    have := (h2 x.toNat (by omega)).mpr (by rw [show ((x.toNat : Nat) : Int) = x by omega]; exact hsub x hx)
    exact this) (by
    have : total rs = rs.sum + rs.length - 1 := rfl
    omega)
  have hk : CutOk z.cps.toList 0 (endsOf rs) := hk
  have hj := cutAt_join (C := z.cps.toList) (s := 0) (by omega) hk
  have e2 : (Txt.join sp32 (rowsS z rs)).cps.toList = TL.joinL [32] ((rowsS z rs).map fun p => p.cps.toList) := by
    rw [TL.join_eq]
    exact TL.tl_join sp32 _
  have e3 : (rowsS z rs).map (fun p => p.cps.toList) = cutAt z.cps.toList 0 (endsOf rs) := by
    unfold rowsS
    rw [List.map_map]
    exact List.map_id' _
  rw [e3, hj] at e2
  have e4 : (Txt.join sp32 (rowsS z rs)).cps.toList = z.cps.toList := e2
  obtain ⟨a⟩ := z
  show (⟨_⟩ : Str) = ⟨a⟩
  congr 1
  exact Array.toList_inj.mp e4
theorem wrap_sub {ls : List Int} (ht : Txt' ls) (w : Int) : ∀ x ∈ endsOf (lawWrap ls w), x ∈ endsOf ls := linesOk_mem (lines_ok ht w)
theorem rows_lens {z : Str} {rs : List Int} (hr : ∀ n ∈ rs, 1 ≤ n) (hne : rs ≠ []) (hn : total rs = z.cps.toList.length) : (rowsS z rs).map (fun p => (p.length : Int)) = rs := by
  refine List.ext_getElem? fun i => ?_
  by_cases hi : i < rs.length
  · have he : (endsOf rs)[i]? = some ((endsOf rs)[i]'(by rw [endsOf_len]; exact hi)) := List.getElem?_eq_getElem _
    obtain ⟨s, hs⟩ := starts_there he
    obtain ⟨r1, r2⟩ := rows_get hr hn hs he
    obtain ⟨g0, g1, g2, g3⟩ := starts_ends hr hs he
    rw [List.getElem?_map, r1, g0]
    show some (((cutS z _ _).length : Nat) : Int) = _
    rw [r2]
    congr 1
    omega
  · rw [List.getElem?_eq_none (by rw [List.length_map, rows_len]; omega), List.getElem?_eq_none (by omega)]
end Wc

/-! chains of three comparisons. -/
namespace Wc
open PySem PySem.Spec PyProof.Rows L2
def tChain3 (r1 r2 r3 : R2) (ta tb tc td : TE) : TE := fun σ H Q => ta σ H fun x H1 => tb σ H1 fun y H2 => r1 x y H2 fun z H3 => ∃ k, z = .bl k ∧
  (if k = true then tc σ H3 fun w H4 => r2 y w H4 fun z2 H5 => ∃ k2, z2 = .bl k2 ∧ (if k2 = true then td σ H5 fun u H6 => r3 w u H6 Q else Q (.bl false) H5) else Q (.bl false) H3)
section
variable {X : Cx} {a b c d : Expr} {ta tb tc td : TE} {pos : Pos}
theorem pt_chain3 {o1 o2 o3 : CmpOp} {r1 r2 r3 : R2} (h1 : OpR X (compareOp o1) r1) (h2 : OpR X (compareOp o2) r2) (h3 : OpR X (compareOp o3) r3) (ha : PE X a ta) (hb : PE X b tb) (hc : PE X c tc) (hd : PE X d td)
    (hm : lastMarks [o1, o2, o3] [b, c, d] = false := by with_unfolding_all rfl) : PT X (.Compare a [o1, o2, o3] [b, c, d] pos) (tTest (tChain3 r1 r2 r3 ta tb tc td)) := by
  refine ⟨fun pins s σ H Q I h => ?_⟩
  refine isTrue_chain (thn (ha.run pins s σ H _ I h) fun v s1 ⟨x, H1, I1, rx, q1⟩ => test_link (thn (hb.run pins s1 σ H1 _ I1 q1) fun u s2 ⟨y, H2, I2, ry, q2⟩ =>
    thn (h1 pins s2 σ H2 x y v u _ I2 rx ry q2) fun d s3 ⟨z, H3, I3, r3, k, e, q3⟩ => ?_)) hm
  subst e
  cases r3
  refine wpAny_truthy_bool ?_
  cases k with
  | false =>
    obtain ⟨k', e', q'⟩ := q3
    cases e'
    exact ite_ff ⟨H3, I3, q'⟩
  | true =>
    refine ite_tt (test_link (thn (hc.run pins s3 σ H3 _ I3 q3) fun w' s4 ⟨z', H4, I4, r4, q4⟩ => thn (h2 pins s4 σ H4 y z' u w' _ I4 ry r4 q4) fun d' s5 ⟨z2, H5, I5, r5, k2, e2, q5⟩ => ?_))
    subst e2
    cases r5
    refine wpAny_truthy_bool ?_
    cases k2 with
    | false =>
      obtain ⟨k', e', q'⟩ := q5
      cases e'
      exact ite_ff ⟨H5, I5, q'⟩
    | true =>
      refine ite_tt (test_last (thn (hd.run pins s5 σ H5 _ I5 q5) fun t' s6 ⟨t, H6, I6, r6, q6⟩ => thn (h3 pins s6 σ H6 z' t w' t' _ I6 r4 r6 q6) fun d2 s7 ⟨z3, H7, I7, r7, k3, e3, q7⟩ => ?_))
      subst e3
      cases r7
      exact wpAny_truthy_bool ⟨H7, I7, q7⟩
end
theorem cons_go {ta : TE} {tr : TA} {σ : L2.St} {H : Hp} {Q : List V → Hp → Prop} (h : ta σ H fun x H1 => tr σ H1 fun ys H2 => Q (x :: ys) H2) : tCons ta tr σ H Q := h
theorem le_sign {a b : Nat} : (!decide ([b] < [a])) = decide (a ≤ b) := by
  by_cases h : a ≤ b
  · rw [decide_eq_true h, decide_eq_false]
    · rfl
    · intro hlt
      rcases List.cons_lt_cons_iff.mp hlt with h1 | ⟨_, h2⟩
      · omega
      · exact absurd h2 (List.not_lt_nil _)
  · rw [decide_eq_false h, decide_eq_true]
    · rfl
    · exact List.cons_lt_cons_iff.mpr (.inl (by omega))
theorem str_case {K : PySem.W.Frag} {H : Hp} {v : V} {o : Option PyData} (hv : Av K H v o) : (∃ z, v = .str z ∧ o = some (.str z)) ∨ (isI o "str" = false ∧ ∀ ls, ¬ WordsD o ls) := by
  cases hv with
  | e _ => exact .inr ⟨by decide +kernel, fun ls ⟨z, e, _⟩ => by cases e⟩
  | d hd _ => cases hd with
    | str x => exact .inl ⟨x, rfl, rfl⟩
    | non => exact .inr ⟨by show (kitB "NoneType" "str").getD false = false; decide +kernel, fun ls ⟨z, e, _⟩ => by cases e⟩
    | bl b => exact .inr ⟨by show (kitB "bool" "str").getD false = false; decide +kernel, fun ls ⟨z, e, _⟩ => by cases e⟩
    | int i => exact .inr ⟨by show (kitB "int" "str").getD false = false; decide +kernel, fun ls ⟨z, e, _⟩ => by cases e⟩
    | lst _ _ => exact .inr ⟨by show (kitB "list" "str").getD false = false; decide +kernel, fun ls ⟨z, e, _⟩ => by cases e⟩
    | tup _ _ => exact .inr ⟨by show (kitB "tuple" "str").getD false = false; decide +kernel, fun ls ⟨z, e, _⟩ => by cases e⟩
theorem isI_strT (z : Str) : isI (some (.str z)) "str" = true := by show (kitB "str" "str").getD false = true; decide +kernel
theorem joinL_le : ∀ {ps : List (List Nat)}, ∀ p ∈ ps, p.length ≤ (TL.joinL [32] ps).length
  | [], p, h => by cases h
  | [q], p, h => by
    rw [List.mem_singleton.mp h]
    exact Nat.le_refl _
  | q :: r :: rs, p, h => by
    have e : (TL.joinL [32] (q :: r :: rs)).length = q.length + (1 + (TL.joinL [32] (r :: rs)).length) := by
      show (q ++ ([32] ++ TL.joinL [32] (r :: rs))).length = _
      rw [List.length_append, List.length_append]
      rfl
    rcases List.mem_cons.mp h with h | h
    · rw [h, e]
      omega
    · have := joinL_le (ps := r :: rs) p h
      omega
theorem split_len_le {z x : Str} (h : x ∈ Txt.split z sp32) : x.length ≤ z.cps.toList.length := by
  have h1 := joinL_le (ps := partsL z) x.cps.toList (List.mem_map.mpr ⟨x, h, rfl⟩)
  have h2 : TL.joinL [32] (partsL z) = z.cps.toList := parts_page z
  rw [h2] at h1
  show x.cps.size ≤ _
  rw [← Array.length_toList]
  exact h1
theorem nc_page {z : Str} {ls : List Int} (h : WordsD (some (.str z)) ls) (hl : z.cps.toList.length ≤ 4000) : Nc 48002 0 (.str z) := by
  obtain ⟨z', e, hp, _⟩ := h
  cases e
  refine Nc.str (L := 4000) ?_ fun c hc => ?_
  · show z.cps.size ≤ _
    rw [← Array.length_toList]
    exact hl
  · have := List.all_eq_true.mp hp c hc
    rw [Bool.and_eq_true, decide_eq_true_eq, decide_eq_true_eq] at this
    omega
theorem sum_lens {B : Nat} : ∀ {l : List Str}, (∀ x ∈ l, x.length ≤ B) → (l.map (·.length)).sum ≤ l.length * B
  | [], _ => Nat.zero_le _
  | x :: l, h => by
    have ih := sum_lens (l := l) fun y hy => h y (List.mem_cons_of_mem _ hy)
    have := h x (List.mem_cons_self ..)
    show x.length + (l.map (·.length)).sum ≤ (l.length + 1) * B
    rw [Nat.add_mul]
    omega
theorem dp_pair_inv {K : PySem.W.Frag} {H : Hp} {v : V} {x y : Int} (h : Dp K H v (.tuple [.int x, .int y])) : ∃ a, v = .ref a ∧ SqT K H a [.int x, .int y] := by
  obtain ⟨a, xs, rfl, hS, hd⟩ := dp_tuple_inv h
  cases hd with
  | cons h1 h2 =>
    cases h2 with
    | cons h2 h3 =>
      cases h3
      cases h1
      cases h2
      exact ⟨a, rfl, hS⟩
/-- wrapped again, the lines stay -/
theorem wrap_again {T : List Int} (ht : Txt' T) {w : Int} : lawWrap (lawWrap T w) w = lawWrap T w := by
  obtain ⟨u1, u2⟩ := ht.wrap w
  have h1 := lines_ok ht w
  have h2 := lines_ok u1 w
  have h3 : LinesOk (endsOf (lawWrap T w)) w 0 (endsOf (lawWrap T w)) := LinesOk.sub (linesOk_mem h1) (fun e h => h) h1
  have h4 := LinesOk.uniq (n := total (lawWrap T w)) (fun t h => (ends_max u1 t h).2) h2 h3 (by rw [endsOf_last (u1.wrap w).1.1, (u1.wrap w).2]) (endsOf_last u1.1)
  rw [← lengths_ends (lawWrap (lawWrap T w) w), h4, lengths_ends]
/-- the range of widths of a text's lines -/
theorem rng_of_text {ws : List Int} (ht : Txt' ws) {w n : Int} (w1 : 1 ≤ w) (w2 : w ≤ 1000) (hn : total ws = n) {r : Option (Int × Int)} (h : RngOk n (fun _ => True) (lawWrap ws w) r) :
    ∃ hi, r = some (1, hi) ∧ w ≤ hi ∧ hi ≤ 1000 ∧ lawWrap (lawWrap ws w) hi = lawWrap ws w ∧ lawWrap (lawWrap ws w) 1 = lawWrap ws w ∧
      (hi < 1000 → lawWrap (lawWrap ws w) (hi + 1) ≠ lawWrap ws w ∧ lawWrap ws (hi + 1) ≠ lawWrap ws w) ∧ ((lawWrap ws w).length = 1 → hi = 1000) := by
  obtain ⟨u1, u2⟩ := ht.wrap w
  have hok : okW n (fun _ => True) (lawWrap ws w) w := ⟨ws, ht, hn, trivial, rfl⟩
  have h11 : lawWrap (lawWrap ws w) 1 = lawWrap ws w := lawWrap_w1 u1.2.1
  have ok1 : okW n (fun _ => True) (lawWrap ws w) 1 := ⟨lawWrap ws w, u1, by rw [u2, hn], trivial, h11⟩
  match r, h with
  | none, h => exact (h w w1 w2 hok).elim
  | some (lo, hi), ⟨a, b, c, d⟩ =>
    have e1 := (d 1 (by omega) (by omega)).mp ok1
    have e2 := (d w w1 w2).mp hok
    obtain rfl : lo = 1 := by omega
    obtain ⟨T, t1, t2, _, t4⟩ := (d hi (by omega) c).mpr ⟨b, Int.le_refl _⟩
    refine ⟨hi, rfl, e2.2, c, ?_, h11, fun hlt => ⟨fun h => ?_, fun h => ?_⟩, fun hl => ?_⟩
    · rw [← t4]
      exact wrap_again t1
    · have := (d (hi + 1) (by omega) (by omega)).mp ⟨lawWrap ws w, u1, by rw [u2, hn], trivial, h⟩
      omega
    · have := (d (hi + 1) (by omega) (by omega)).mp ⟨ws, ht, hn, trivial, h⟩
      omega
    · obtain ⟨m, hm⟩ := List.length_eq_one_iff.mp hl
      have := (d 1000 (by omega) (by omega)).mp ⟨lawWrap ws w, u1, by rw [u2, hn], trivial, by rw [hm]; rfl⟩
      omega
end Wc

/-! a caught exception as a value: tracked, asked for its class, handed on; calls of an item of a display of defs. -/
namespace Wc
open PySem PySem.Spec PyProof.Rows L2
/-- a caught exception of the class cls, its dict at d -/
def ExR (cls : Value) (d : Option Addr) (a : Addr) : HO := .ext fun h => ∃ (oe : Obj) (vs : Array Value), h.get? a = some oe ∧ Zc cls d oe ∧ oe.data = .fields vs
theorem exR_ok {P : Program} {w : World} {H : Hp} {h : Heap} {a : Addr} {cls : Value} {d : Option Addr} {oe : Obj} {vs : Array Value} (e : h.get? a = some oe) (z : Zc cls d oe) (dt : oe.data = .fields vs) : ObjOk P w H h a (ExR cls d a) :=
  ⟨⟨oe, vs, e, z, dt⟩, ⟨oe, e⟩, fun _ _ ⟨o, v, q, r⟩ k => ⟨o, v, k o q, r⟩⟩
theorem exR_at {P : Program} {w : World} {H : Hp} {h : Heap} {a : Addr} {cls : Value} {d : Option Addr} (hok : HOk P w H h) (he : H a = some (ExR cls d a)) : ∃ (oe : Obj) (vs : Array Value), h.get? a = some oe ∧ Zc cls d oe ∧ oe.data = .fields vs := by
  have x : ObjOk P w H h a (.ext fun h => ∃ (oe : Obj) (vs : Array Value), h.get? a = some oe ∧ Zc cls d oe ∧ oe.data = .fields vs) := hok a _ he
  exact x.1
section
variable {X : Cx} {pins : List (Addr × Obj)} {σ : L2.St} {H : Hp} {s : Shared}
theorem layE {a : Addr} {oe : Obj} {vs : Array Value} {cls : Value} {d : Option Addr} (I : Inv X pins σ H s) (ha : s.heap.get? a = some oe) (hz : Zc cls d oe) (hd : oe.data = .fields vs) (na : H a = none) (nL : a ≠ X.env.locals)
    (n0 : ∀ b o, X.s_0.heap.get? b = some o → b ≠ a) (nc : ∀ x c, X.env.cells.lookup x = some c → c ≠ a) (np : ∀ p ∈ X.pn ++ pins, p.1 ≠ a) : Inv X pins σ (upd H a (ExR cls d a)) s where
  ok := I.ok
  os := I.os
  bare := I.bare
  base := {
    keep := I.base.keep
    slot := I.base.slot
    free := fun b o e n hb => by
      rw [upd_ne (n0 b o e)]
      exact I.base.free b o e n hb
    there := I.base.there
    tups := fun b xs e => by
      have q := I.base.tups b xs e
      rw [upd_ne (ne_of_none q na)]
      exact q
    frzs := fun b o u e => by
      have q := I.base.frzs b o u e
      rw [upd_ne (ne_of_none q na)]
      exact q
    tbls := fun b ps e => by
      obtain ⟨m, q⟩ := I.base.tbls b ps e
      exact ⟨m, by rw [upd_ne (ne_of_none q na)]; exact q⟩ }
  loc := I.loc
  cell := I.cell
  free := by
    rw [upd_ne nL.symm]
    exact I.free
  freeC := fun x c e => by
    rw [upd_ne (nc x c e)]
    exact I.freeC x c e
  pin := fun p hp => by
    obtain ⟨e, n, r⟩ := I.pin p hp
    exact ⟨e, by rw [upd_ne (np p hp)]; exact n, r⟩
  hok := HOk.laidN I.hok (fun _ _ z => z) na (exR_ok ha hz hd)
  len := I.len
theorem suite0 (I : Inv X pins σ H s) (a : Addr) : Inv (X.suite a (X.pn ++ pins)) [] σ H s :=
  ⟨I.ok.suite _ _, I.os, I.bare, I.base, I.loc, I.cell, I.free, I.freeC, fun p hp => I.pin p (by rw [List.append_nil] at hp; exact hp), I.hok, I.len⟩
theorem unsuite0 {a : Addr} {pn' : List (Addr × Obj)} (I : Inv (X.suite a (X.pn ++ pins)) pn' σ H s) (ok : X.Ok) : Inv X pins σ H s :=
  ⟨ok, I.os, I.bare, I.base, I.loc, I.cell, I.free, I.freeC, fun p hp => I.pin p (List.mem_append_left _ hp), I.hok, I.len⟩
end
/-- what the clause 'except x as n' wishes: the exception is tracked in the suite -/
def wLay (K : PySem.W.Frag) (c : Value) (i : Nat) (ts : Addr → Value → Option Addr → TS) (Wout : WX) (D : Ends) : WX := fun cls d σ H =>
  ∃ b, PySem.W.exmOne K cls c = some b ∧ (b = true → ∀ a, H a = none → ts a cls d { nx := fun σ' H' => D.nx (σ'.set i none) H', rt := D.rt, bk := fun σ' H' => D.bk (σ'.set i none) H', ct := fun σ' H' => D.ct (σ'.set i none) H' } (σ.set i (some (.ref a))) (upd H a (ExR cls d a))) ∧
    (b = false → Wout cls d σ H)
/-- try .. except x as n, as it is read -/
def tTryL (K : PySem.W.Frag) (tb : WX → TS) (c : Value) (i : Nat) (ts : Addr → Value → Option Addr → TS) (Wout : WX) : TS := fun D σ H => tb (wLay K c i ts Wout D) D σ H
section
variable {X : Cx} {x n : Str} {c : Value} {i : Nat} {body suite : List Stmt} {b₀ : Stmt} {np pos pos' : Pos} {tb : WX → TS} {ts : Addr → Value → Option Addr → TS} {Wout : WX}
theorem ps_try_lay (hs : X.stack = X.env :: X.outer) (hf : X.env.frame = some X.env.locals) (hex : X.ex = []) (hN : X.N.Nodup) (hi : X.N[i]? = some n) (hln : X.env.kindOf n = some .local) (hc : Names X x c) (tk : Takes X Wout)
    (hb : ∀ (W : WX) (pn : List (Addr × Obj)) (xe : Value → Shared → Prop), Takes (X.tr pn xe) W → PassesOwn (model X.prog X.w) X.A X.env xe → PSs (X.tr pn xe) body (tb W))
    (hsu : ∀ (a : Addr) (cls : Value) (d : Option Addr) (pn : List (Addr × Obj)), PSs (X.suite a pn) (b₀ :: suite) (ts a cls d)) :
    PS X (.Try body [.ExceptHandler (some (.Name x np)) (some n) (b₀ :: suite) pos'] [] [] pos) (tTryL X.K tb c i ts Wout) := by
  refine ⟨fun pins s σ H D I h => ?_⟩
  have ok := I.ok
  have hfr : X.A.frames = some (X.env :: X.outer) := by rw [ok.frames, hs]
  have hloc : Loc X.env.scope n := .inl hln
  refine wpAny_Try_except ?_
  refine wpAny_mono ((hb (wLay X.K c i ts Wout D) (X.pn ++ pins) (fun e s₁ => wpAny (model X.prog X.w) X.A (noteFrame e X.env) (fun _ s₂ => wpAny (model X.prog X.w) X.A (setFlight e none) (fun _ s₃ =>
    wpAny (model X.prog X.w) X.A (handleBy e X.env [.ExceptHandler (some (.Name x np)) (some n) (b₀ :: suite) pos']) (SP X pins D) X.xe s₃) X.xe s₂) X.xe s₁) (fun u s' xx => ?_) PassesOwn.looking).run [] s σ H D (I.toTry _) h) (fun f s1 hsp => ?_) (fun e s1 he => he)
  · -- the catch
    obtain ⟨a, B, sI, pins', σ', H', cls, d, rfl, J', nb, up, sky, na, os, ag, b, hb1, hyes, hno⟩ := xx
    have J : Inv X pins σ' H' sI := J'.ofTry ok
    have sky' : Sky B (X.env :: X.outer) a (Zc cls d) X.env.locals s'.heap := by rw [← hs]; exact sky
    show wpAny (model X.prog X.w) X.A (noteFrame (.ref a) X.env) _ _ _
    refine Sky.land Zc.steady hfr hf sky' fun h3 fl3 up3 => ?_
    have J3 : Inv X pins σ' H' { s' with heap := h3 } := J.landed nb fl3.1 (up.trans up3) os ag
    obtain ⟨oe3, vs3, he3, hz3, hd3⟩ := fl3.there
    have notFr : ∀ {h : Heap} {o : Obj} {vs : Array Value}, h.FunFrames B (X.env :: X.outer) → h.get? a = some o → o.data = .fields vs → a ∉ frs (X.env :: X.outer) := fun {h o vs} ff e dd hm => by
      obtain ⟨_, o', e', hnf⟩ := ff.mem hm
      rw [e] at e'; cases e'
      exact hnf _ dd
    have nfr := notFr fl3.2.2.1 he3 hd3
    have nL : a ≠ X.env.locals := fun z => nfr (List.mem_filterMap.mpr ⟨X.env, List.mem_cons_self, by rw [hf, z]⟩)
    have nI : sI.heap.get? a = none := by
      cases e : sI.heap.get? a with
      | none => rfl
      | some o =>
        have z := nb a o e (by rw [hs]; exact nfr)
        rw [fl3.2.1] at z
        cases z
    have n0 : ∀ b o, X.s_0.heap.get? b = some o → b ≠ a := fun b o e z => by
      obtain ⟨o', q⟩ := J.base.there b o e (by rw [hex]; exact fun z => nomatch z)
      rw [z, nI] at q
      cases q
    have ncell : ∀ x c, X.env.cells.lookup x = some c → c ≠ a := fun x c e z => by
      obtain ⟨v, o, q, _⟩ := J.cell x c e
      rw [z, nI] at q
      cases q
    have npin : ∀ p ∈ X.pn ++ pins, p.1 ≠ a := fun p hp z => by
      obtain ⟨q, _⟩ := J.pin p hp
      rw [z, nI] at q
      cases q
    have S3 := suite0 J3 a
    refine wpAny_handleBy_cons (codeAny_handlers_test ?_) (by intro q; cases q)
    have LT : PySem.W.Looks (model X.prog X.w) h3 (typeOf (.ref a)) cls := fun A Q E s k q => wpAny_typeOf_ref (k _ _ he3) (by rw [hz3.1]; exact q)
    have LM := PySem.W.exm_one (M := model X.prog X.w) (J3.kIn) LT hb1
    have test : ∀ {Q : Value → Shared → Prop} {E : Value → Shared → Prop}, Q c { s' with heap := h3 } → wpAny (model X.prog X.w) (X.A.mark (some (.ref a))) (eval (.Name x np) X.env) Q E { s' with heap := h3 } := fun {Q E} q => by
      obtain ⟨hg, hdbg, hm | ⟨hm, hv, hnn⟩⟩ := hc
      · exact ld_glob (X := X.suite a (X.pn ++ pins)) S3 hg hm q hdbg
      · exact ld_blt (X := X.suite a (X.pn ++ pins)) S3 hg hm hv q hnn hdbg
    refine test (LM.here ?_)
    cases b with
    | true =>
      refine codeAny_handlers_suite_as ?_
      refine HandSPX.lands_againZ fl3 fun h4 fl4 up4 => ?_
      have J4 : Inv X pins σ' H' { s' with heap := h4 } := J.landed nb fl4.1 ((up.trans up3).trans up4) os ag
      obtain ⟨oe4, vs4, he4, hz4, hd4⟩ := fl4.there
      have J5 := layE J4 he4 hz4 hd4 na nL n0 ncell npin
      have S4 := suite0 J5 a
      refine store_ok (X := X.suite a (X.pn ++ pins)) (v := .ref a) S4 hN hi hloc rfl (fun s5 S5 => ?_) (.inr hln)
      refine wpAny_mono ((hsu a cls d (X.pn ++ pins)).run [] s5 _ _ _ S5 (hyes rfl a na)) (fun f s6 hsp => ?_) (fun _ _ z => False.elim z)
      have end_ : ∀ {σ6 : L2.St} {H6 : Hp} {Q : Shared → Prop}, Inv (X.suite a (X.pn ++ pins)) [] σ6 H6 s6 → (∀ s7, Inv X pins (σ6.set i none) H6 s7 → Q s7) →
          wpAny (model X.prog X.w) X.A (do bindName X.env n .none; unbindBehindTheSuite X.env n pos') (fun _ s7 => Q s7) X.xe s6 := fun {σ6 H6 Q} S6 hq => gone_ok (unsuite0 S6 ok) hN hi hln hq
      cases f with
      | next =>
        obtain ⟨σ6, H6, S6, q6⟩ := hsp
        exact end_ S6 fun s7 J7 => ⟨_, _, J7, q6⟩
      | brk =>
        obtain ⟨σ6, H6, S6, q6⟩ := hsp
        exact end_ S6 fun s7 J7 => ⟨_, _, J7, q6⟩
      | cont =>
        obtain ⟨σ6, H6, S6, q6⟩ := hsp
        exact end_ S6 fun s7 J7 => ⟨_, _, J7, q6⟩
      | ret u =>
        obtain ⟨v6, σ6, H6, S6, r6, q6⟩ := hsp
        exact end_ S6 fun s7 J7 => ⟨_, _, _, J7, r6, q6⟩
    | false =>
      show wpAny _ X.A (handleBy (.ref a) X.env []) _ _ _
      refine wpAny_handleBy_nil ?_
      obtain ⟨k1, k2, k3, oe, vs, T, oT, ts', he, hz, hd, h1, hr⟩ := id fl3
      unfold PySem.passOn
      refine wpAny_bind (wpAny_field he hd h1 ?_)
      rw [if_neg (show ¬ ((Value.ref T == Value.none) = true) from by simp)]
      have fin : wpAny (model X.prog X.w) X.A (setFlight (.ref a) X.env.frame) (fun _ s4 => wpAny (model X.prog X.w) X.A (throw (.ref a) : Sem Flow) (SP X pins D) X.xe s4) X.xe { s' with heap := h3 } := by
        rw [hf]
        refine HandSPX.setFlight_upZ fl3 fun h4 hh4 up4 => wpAny_throw (tk _ _ ?_)
        exact ⟨a, B, sI, pins, σ', H', cls, d, rfl, J, nb, (up.trans up3).trans up4, .inr (.inr (by rw [hs]; exact hh4)), na, os, ag, hno rfl⟩
      first
        | exact wpAny_bind (wpAny_pure (wpAny_bind fin))
        | exact wpAny_bind fin
  · cases f with
    | next =>
      obtain ⟨σ', H', J', q⟩ := hsp
      exact wpAny_execs_nil ⟨σ', H', J'.ofTry ok, q⟩
    | brk =>
      obtain ⟨σ', H', J', q⟩ := hsp
      exact ⟨σ', H', J'.ofTry ok, q⟩
    | cont =>
      obtain ⟨σ', H', J', q⟩ := hsp
      exact ⟨σ', H', J'.ofTry ok, q⟩
    | ret u =>
      obtain ⟨v, σ', H', J', r, q⟩ := hsp
      exact ⟨v, σ', H', J'.ofTry ok, r, q⟩
end
/-! ### isinstance of a caught exception -/
def rIsX (K : PySem.W.Frag) : List V → Hp → VK → Prop := fun xs H Q => ∃ (a D : Addr) (c : V) (u : Value) (b : Bool), xs = [.ref a, c] ∧ H a = some (ExR (.ref D) none a) ∧ ExcC K D ∧ ClsV c u ∧ PySem.W.kitOne K (.ref D) u = some b ∧ Q (.bl b) H
def rIsXT (K : PySem.W.Frag) : List V → Hp → VK → Prop := fun xs H Q => ∃ (a D tp : Addr) (cs : List V) (us : List Value) (b : Bool), xs = [.ref a, .ref tp] ∧ H a = some (ExR (.ref D) none a) ∧ ExcC K D ∧ H tp = some (.tup cs) ∧ Paired ClsV cs us ∧ PySem.W.kitAny K (.ref D) us = some b ∧ Q (.bl b) H
theorem instE {X : Cx} {pins : List (Addr × Obj)} {σ : L2.St} {H : Hp} {s : Shared} {a D : Addr} (I : Inv X pins σ H s) (h : H a = some (ExR (.ref D) none a)) : ∃ oe, PySem.W.InstAt s.heap a oe D none := by
  obtain ⟨oe, vs, hget, ⟨h1, h2⟩, hv⟩ := exR_at I.hok h
  obtain ⟨oc, od, oda, osl⟩ := oe
  dsimp only at h1 h2 hv
  subst h1 h2 hv
  exact ⟨_, hget, rfl, rfl, trivial⟩
theorem call_isX {X : Cx} : CallR X (.builtin "isinstance") (rIsX X.K) := by
  intro pins s σ H xs us Q I r h
  obtain ⟨a, D, c, u, b, rfl, ha, C, k, e, q⟩ := h
  obtain ⟨u1, u2, rfl, r1, r2⟩ := vals2 r
  have e2 := k.eq r2
  subst e2
  cases (show u1 = Value.ref a from r1)
  obtain ⟨oe, J⟩ := instE I ha
  exact PySem.W.kia_one (PySem.W.handS_kitx_exc C.hg C.hk C.hs C.hd C.ha C.hn C.ht C.hm) I.kIn J e (fun z => nomatch z) fun tk => ⟨.bl b, H, I.tok tk, rfl, q⟩
theorem call_isXT {X : Cx} : CallR X (.builtin "isinstance") (rIsXT X.K) := by
  intro pins s σ H xs us Q I r h
  obtain ⟨a, D, tp, cs, ws, b, rfl, ha, C, hT, k, e, q⟩ := h
  obtain ⟨u1, u2, rfl, r1, r2⟩ := vals2 r
  cases (show u1 = Value.ref a from r1)
  cases (show u2 = Value.ref tp from r2)
  obtain ⟨oe, J⟩ := instE I ha
  obtain ⟨_, its, rv, o, h1, h2, n, h3⟩ := (show ObjOk X.prog X.w H s.heap tp (.tup cs) from I.hok tp _ hT)
  have e3 := ClsV.all k rv
  subst e3
  obtain ⟨oc, od, dt, sl⟩ := o
  simp only at h2 h3
  subst h2 h3
  exact PySem.W.kia_tup (PySem.W.handS_kitx_exc C.hg C.hk C.hs C.hd C.ha C.hn C.ht C.hm) I.kIn J h1 e (fun z => nomatch z) fun tk => ⟨.bl b, H, I.tok tk, rfl, q⟩
end Wc

/-! calls of an item of a display of defs; a hook with further facts; what isinstance says of own exceptions. -/
namespace Wc
open PySem PySem.Spec PyProof.Rows L2
/-! ### [f, g, ..][i](..) -/
section
variable {X : Cx} {E : L2.St → XK}
/-- a def as a value, with what it promises -/
def CalV (X : Cx) (E : L2.St → XK) (v : V) (sp : Sp) : Prop := ∃ f, v = .ref f ∧ PySem.W.keepIn X.K (.ref f) = true ∧ ∀ (pins : List (Addr × Obj)) (σ : L2.St) (H : Hp) (s : Shared) (Q : VK) (us : List Value) (vs : List V), Inv X pins σ H s → Vals vs us → sp vs H Q (E σ) →
  wpAny (model X.prog X.w) X.A (call (.ref f) us) (EP X pins σ Q) X.xe s
inductive LCals (X : Cx) (E : L2.St → XK) : List Expr → List Sp → Prop
  | nil : LCals X E [] []
  | cons {CX : CXT} {k : Nat} {x : Str} {ps : List Str} {dvs : List V} {sp : Sp} {p : Pos} {es : List Expr} {sps : List Sp} (c : Cal X.prog X.w X.K X.mg X.base CX k x ps dvs sp) (hr : Room k X.A) (hx : ∀ σ, PassesAt CX X σ (E σ)) (r : LCals X E es sps)
      (hg : Gl X x := by rfl) (hdb : (x == ("__debug__" : Str)) = false := by decide) (hs : starEach (.Name x p :: es) X.env = (false, eval (.Name x p) X.env) :: starEach es X.env := by rfl) : LCals X E (.Name x p :: es) ((fun vs H Q E => sp (vs ++ dvs) H Q E) :: sps)
inductive CalVs (X : Cx) (E : L2.St → XK) : List V → List Sp → Prop
  | nil : CalVs X E [] []
  | cons {v : V} {sp : Sp} {vs : List V} {sps : List Sp} (c : CalV X E v sp) (r : CalVs X E vs sps) : CalVs X E (v :: vs) (sp :: sps)
def tConsts (vs : List V) : TA := fun _ H Q => Q vs H
theorem LCals.pa {es : List Expr} {sps : List Sp} (h : LCals X E es sps) : ∃ vs, PA X es (tConsts vs) ∧ CalVs X E vs sps := by
  induction h with
  | nil => exact ⟨[], pa_nil, .nil⟩
  | cons c hr hx r hg hdb hs ih =>
    obtain ⟨vs, h1, h2⟩ := ih
    obtain ⟨f, fd, ds, F, hm, hk, hd, hb⟩ := c.ex
    exact ⟨.ref f :: vs, pa_cons (pe_glob (v := .ref f) hg hm rfl hdb) h1 hs, .cons ⟨f, rfl, hk, fun pins σ H s Q us vs I r h => run_fnSD F hr hb hd (hx σ) I r h⟩ h2⟩
theorem CalVs.len {vs : List V} {sps : List Sp} (h : CalVs X E vs sps) : vs.length = sps.length := by
  induction h with
  | nil => rfl
  | cons _ _ ih => exact congrArg (· + 1) ih
theorem CalVs.get {vs : List V} {sps : List Sp} (h : CalVs X E vs sps) : ∀ {i : Nat} {sp : Sp}, sps[i]? = some sp → ∃ v, vs[i]? = some v ∧ CalV X E v sp := by
  induction h with
  | nil => intro i sp e; cases e
  | cons c r ih =>
    intro i sp e
    cases i with
    | zero =>
      cases e
      exact ⟨_, rfl, c⟩
    | succ i => exact ih e
def tLcal (K : PySem.W.Frag) (sps : List Sp) (E : L2.St → XK) (ti : TE) (t : TA) : TE := fun σ H Q => ∀ (fs : List V) (C : V → Sp → Prop), fs.length = sps.length → (∀ (i : Nat) (sp : Sp), sps[i]? = some sp → ∃ v, fs[i]? = some v ∧ C v sp) →
  tOp (rIxL K) (tLst (tConsts fs)) ti σ H fun v H1 => ∃ sp, C v sp ∧ t σ H1 fun vs H3 => sp vs H3 Q (E σ)
theorem pe_lcal {names es : List Expr} {ie e : Expr} {sps : List Sp} {ti : TE} {t : TA} {p1 p2 pos : Pos} {K : PySem.W.Frag} (hK : X.K = K) (hl : LCals X E names sps) (hi : PE X ie ti) (ha : PA X (e :: es) t) (hp : PlainIx ie := by exact fun _ _ => rfl) (hn0 : Nat.ble sps.length 100 = true := by rfl)
    (he : starEach (e :: es) X.env = (false, eval e X.env) :: starEach es X.env := by rfl) (hpl : (backTo pos (starEach es X.env)).any (·.1) = false := by rfl)
    (ht : eval (.Call (.Subscript (.List names p1) ie p2) (e :: es) [] pos) X.env = (do callWith pos (← eval (.Subscript (.List names p1) ie p2) X.env) [] (backTo pos (starEach (e :: es) X.env)) (backToKw pos (keywordEach [] X.env))) := by rfl) :
    PE X (.Call (.Subscript (.List names p1) ie p2) (e :: es) [] pos) (tLcal K sps E ti t) := by
  subst hK
  obtain ⟨fs, hpa, hcv⟩ := hl.pa
  have hf : PE X (.Subscript (.List names p1) ie p2) (tOp (rIxL X.K) (tLst (tConsts fs)) ti) := pe_ix ix_list (pe_lst hpa) hi hp
  have hz : sizeLine = 16777216 := by decide
  refine ⟨fun pins s σ H Q I h => ?_⟩
  have hn : sps.length ≤ 100 := Nat.le_of_ble_eq_true hn0
  have h1 := h fs (CalV X E) hcv.len fun i sp e => hcv.get e
  refine Call_ (thn (hf.run pins s σ H _ I h1) fun u s1 ⟨x, H1, I1, rx, sp, ⟨f, ex, hk, hrun⟩, q⟩ => ?_) ht
  subst ex
  obtain rfl : u = Value.ref f := rx
  refine PySem.W.callWith_K (h₀ := X.base) I.ok.mod.kin hk (thn (ha.run pos pins s1 σ H1 _ I1 q) fun us s2 ⟨vs, H2, I2, r, q2⟩ => ⟨I2.kIn, ?_⟩) he hpl
  exact hrun pins σ H2 s2 Q us vs I2 r q2
end
/-! ### the hook with further facts -/
def obsX (fa : List He.Fa) (fn : List He.DefD) (ex : PySem.W.Frag → Bool) (K : PySem.W.Frag) : He.AlD := ((He.obsD fa fn K).1 && ex K, (He.obsD fa fn K).2)
theorem obsX_of {fa : List He.Fa} {fn : List He.DefD} {ex : PySem.W.Frag → Bool} {K : PySem.W.Frag} (e : obsX fa fn ex K = He.valD fn) : He.SaysD fa fn K ∧ ex K = true := by
  have h1 : ((He.obsD fa fn K).1 && ex K) = true := congrArg (fun z : He.AlD => z.1) e
  have h2 := congrArg (fun z : He.AlD => z.2) e
  obtain ⟨a, b⟩ := Bool.and_eq_true_iff.mp h1
  exact ⟨Prod.ext a h2, b⟩
def obsXG (n : Nat) (fa : List He.Fa) (fn : List He.DefD) (ex : PySem.W.Frag → Bool) (g : Addr → Option Obj) : He.AlD := obsX fa fn ex (He.frG g (He.asD g n))
def hookX (n : Nat) (fa : List He.Fa) (fn : List He.DefD) (ex : PySem.W.Frag → Bool) : PySem.W.Hook where
  α := He.AlD
  obs := fun s => obsXG n fa fn ex s.heap.get?
  val := fun _ => He.valD fn
  says := fun _ h => ∃ K : PySem.W.Frag, K.In h ∧ He.SaysD fa fn K ∧ ex K = true
  of := fun _ _ e => ⟨_, He.frG_in, obsX_of e⟩
  keeps := fun _ _ _ ⟨K, hK, c⟩ k => ⟨K, PySem.W.Frag.In.keeps hK k, c⟩
theorem obsXG_eq {n : Nat} {fa : List He.Fa} {fn : List He.DefD} {ex : PySem.W.Frag → Bool} {g : Addr → Option Obj} {s : Shared} (h : ∀ a, g a = s.heap.get? a) : obsXG n fa fn ex g = (hookX n fa fn ex).obs s := by
  have e : g = s.heap.get? := funext h
  rw [e] <;> rfl
/-! ### own exceptions, asked for their class -/
def excB (K : PySem.W.Frag) (C : Addr) : Bool :=
  He.eqO (PySem.W.findIn K (.ref C) "__getattribute__") (some (some (.builtin "BaseException.__getattribute__"))) && (He.eqO (PySem.W.findIn K (.ref C) "__getattr__") (some none) && (decide (PySem.W.subIn K (.ref C) (.type "BaseException") = some true) && (PySem.W.hasDictIn K C &&
    (He.eqO (PySem.W.findIn K (.ref C) "__class__") (some (some (.builtin "object.__class__"))) && (decide (PySem.W.specialIn K (.builtin "object.__class__") "__get__" = some (some (.builtin "getset_descriptor.__get__"))) && (decide (PySem.W.takesIn K (.builtin "object.__class__") = some true) && decide (PySem.W.mroIn K C (.type "object") = some true)))))))
theorem excB_ok {K : PySem.W.Frag} {C : Addr} (h : excB K C = true) : ExcC K C := by
  obtain ⟨h1, h⟩ := Bool.and_eq_true_iff.mp h
  obtain ⟨h2, h⟩ := Bool.and_eq_true_iff.mp h
  obtain ⟨h3, h⟩ := Bool.and_eq_true_iff.mp h
  obtain ⟨h4, h⟩ := Bool.and_eq_true_iff.mp h
  obtain ⟨h5, h⟩ := Bool.and_eq_true_iff.mp h
  obtain ⟨h6, h⟩ := Bool.and_eq_true_iff.mp h
  obtain ⟨h7, h8⟩ := Bool.and_eq_true_iff.mp h
  exact ⟨He.eqO_ok h1, He.eqO_ok h2, of_decide_eq_true h3, h4, He.eqO_ok h5, of_decide_eq_true h6, of_decide_eq_true h7, of_decide_eq_true h8⟩
/-- xs: whose instances are asked; ys: the classes that are named -/
def excsB (xs ys : List Str) (K : PySem.W.Frag) : Bool := xs.all fun x => excB K (He.ga K x) && ((ys.all fun y => decide (PySem.W.kitOne K (xc K x) (xc K y) = some (decide (x = y)))) && decide (PySem.W.kitOne K (xc K x) (.type "ValueError") = some true))
structure ExcsOk (xs ys : List Str) (K : PySem.W.Frag) : Prop where
  c : ∀ x ∈ xs, ExcC K (He.ga K x)
  k : ∀ x ∈ xs, ∀ y ∈ ys, PySem.W.kitOne K (xc K x) (xc K y) = some (decide (x = y))
  v : ∀ x ∈ xs, PySem.W.kitOne K (xc K x) (.type "ValueError") = some true
theorem excs_ok {xs ys : List Str} {K : PySem.W.Frag} (h : excsB xs ys K = true) : ExcsOk xs ys K := by
  have h := List.all_eq_true.mp h
  refine ⟨fun x hx => ?_, fun x hx y hy => ?_, fun x hx => ?_⟩
  · exact excB_ok (Bool.and_eq_true_iff.mp (h x hx)).1
  · exact of_decide_eq_true (List.all_eq_true.mp (Bool.and_eq_true_iff.mp (Bool.and_eq_true_iff.mp (h x hx)).2).1 y hy)
  · exact of_decide_eq_true (Bool.and_eq_true_iff.mp (Bool.and_eq_true_iff.mp (h x hx)).2).2
theorem pass0At {X : Cx} {σ : L2.St} {E : XK} : PassesAt CX0 X σ E := fun _ _ _ _ _ _ h => h.elim
section
variable {xs ys : List Str} {K : PySem.W.Frag} {a : Addr} {x y w : Str} {σ : L2.St} {H : Hp} {Q : List V → Hp → Prop} {tr : TA}
/-- ('word', isinstance(e, C)), an item of a display -/
theorem kind_item (ok : ExcsOk xs ys K) (hx : x ∈ xs) (hy : y ∈ ys) (hσ : σ[0]? = some (some (.ref a))) (ha : H a = some (ExR (xc K x) none a))
    (h : ∀ t, H t = none → tr σ (upd H t (.tup [.str w, .bl (decide (x = y))])) fun vs H2 => Q (.ref t :: vs) H2) :
    tCons (tTup (tCons (tC (.str w)) (tCons (tCB (rIsX K) (tCons (tVar 0) (tCons (tC (.ref (He.ga K y))) tNil))) tNil))) tr σ H Q := by
  refine ⟨_, hσ, a, He.ga K x, .ref (He.ga K y), .ref (He.ga K y), decide (x = y), rfl, ha, ok.c x hx, .own _, ok.k x hx y hy, (by show 2 ≤ sizeLine; decide), fun t nt => h t nt⟩
/-- an entry of the list of pairs -/
def PrAt (H : Hp) (v : V) (w : Str) (b : Bool) : Prop := ∃ t, v = .ref t ∧ H t = some (.tup [.str w, .bl b])
theorem PrAt.same {H H' : Hp} {v : V} {w : Str} {b : Bool} (h : PrAt H v w b) (s : Same H H') : PrAt H' v w b := by
  obtain ⟨t, e, h⟩ := h
  exact ⟨t, e, s _ _ h⟩
inductive Prs (H : Hp) : List V → List (Str × Bool) → Prop
  | nil : Prs H [] []
  | cons {v : V} {w : Str} {b : Bool} {vs : List V} {ps : List (Str × Bool)} (h : PrAt H v w b) (r : Prs H vs ps) : Prs H (v :: vs) ((w, b) :: ps)
theorem Prs.same {H H' : Hp} {vs : List V} {ps : List (Str × Bool)} (h : Prs H vs ps) (s : Same H H') : Prs H' vs ps := by
  induction h with
  | nil => exact .nil
  | cons h _ ih => exact .cons (h.same s) ih
theorem Prs.app {H : Hp} {vs vs' : List V} {ps ps' : List (Str × Bool)} (h : Prs H vs ps) (h' : Prs H vs' ps') : Prs H (vs ++ vs') (ps ++ ps') := by
  induction h with
  | nil => exact h'
  | cons h _ ih => exact .cons h ih
theorem Prs.len {H : Hp} {vs : List V} {ps : List (Str × Bool)} (h : Prs H vs ps) : vs.length = ps.length := by
  induction h with
  | nil => rfl
  | cons _ _ ih => exact congrArg (· + 1) ih
theorem Prs.get {H : Hp} {vs : List V} {ps : List (Str × Bool)} (h : Prs H vs ps) : ∀ {i : Nat} {v : V}, vs[i]? = some v → ∃ t w b, v = .ref t ∧ H t = some (.tup [.str w, .bl b]) ∧ ps[i]? = some (w, b) := by
  induction h with
  | nil => intro i v e; cases e
  | @cons v w b vs ps h r ih =>
    intro i u e
    cases i with
    | zero =>
      cases e
      obtain ⟨t, e, h⟩ := h
      exact ⟨t, w, b, e, h, rfl⟩
    | succ i => exact ih e
theorem cls_pair {K : PySem.W.Frag} : ∀ l : List Str, Paired ClsV (l.map fun y => V.ref (He.ga K y)) (l.map fun y => xc K y)
  | [] => .nil
  | y :: l => .cons (.own _) (cls_pair l)
theorem kit_none {xs ys : List Str} {K : PySem.W.Frag} {x : Str} (ok : ExcsOk xs ys K) (hx : x ∈ xs) : ∀ l : List Str, (∀ y ∈ l, y ∈ ys ∧ x ≠ y) → PySem.W.kitAny K (xc K x) (l.map fun y => xc K y) = some false
  | [], _ => kitAny_nil
  | y :: l, h => by
    have e := ok.k x hx y (h y (List.mem_cons_self ..)).1
    rw [decide_eq_false (h y (List.mem_cons_self ..)).2] at e
    exact kitAny_cons e (fun _ => kit_none ok hx l fun z hz => h z (List.mem_cons_of_mem _ hz)) (fun c => by cases c)
/-- [('w1', isinstance(e, C1)), ('w2', isinstance(e, C2))] -/
theorem two_items {xs ys : List Str} {K : PySem.W.Frag} {a : Addr} {x y1 y2 w1 w2 : Str} {σ : L2.St} {H : Hp} {Q : VK} (ok : ExcsOk xs ys K) (hx : x ∈ xs) (hy1 : y1 ∈ ys) (hy2 : y2 ∈ ys) (hσ : σ[0]? = some (some (.ref a))) (ha : H a = some (ExR (xc K x) none a))
    (h : ∀ l v1 v2 H1, Same H H1 → H1 l = some (.lst [v1, v2]) → Prs H1 [v1, v2] [(w1, decide (x = y1)), (w2, decide (x = y2))] → Q (.ref l) H1) :
    tLst (tCons (tTup (tCons (tC (.str w1)) (tCons (tCB (rIsX K) (tCons (tVar 0) (tCons (tC (.ref (He.ga K y1))) tNil))) tNil))) (tCons (tTup (tCons (tC (.str w2)) (tCons (tCB (rIsX K) (tCons (tVar 0) (tCons (tC (.ref (He.ga K y2))) tNil))) tNil))) tNil)) σ H Q := by
  refine kind_item ok hx hy1 hσ ha fun t1 n1 => kind_item ok hx hy2 hσ (same_new n1 _ _ ha) fun t2 n2 => ⟨by show 2 ≤ sizeLine; decide, fun l m => ?_⟩
  refine h l _ _ _ ((same_new n1).trans ((same_new n2).trans (same_new m))) upd_same (.cons ⟨t1, rfl, ?_⟩ (.cons ⟨t2, rfl, ?_⟩ .nil))
  · exact same_new m _ _ (same_new n2 _ _ upd_same)
  · exact same_new m _ _ upd_same
end
end Wc

/-! data with empty dicts within: what repr shows. -/
namespace Wc
open PySem PySem.Spec PyProof.Rows L2
mutual
inductive Dz (K : PySem.W.Frag) (H : Hp) : V → PyData → Prop
  | non : Dz K H .non .none
  | bl (b : Bool) : Dz K H (.bl b) (.bool b)
  | int (i : Int) : Dz K H (.int i) (.int i)
  | str (x : Str) : Dz K H (.str x) (.str x)
  | lst {a : Addr} {xs : List V} {ds : List PyData} : SqL K H a xs → DzAll K H xs ds → Dz K H (.ref a) (.list ds)
  | tup {a : Addr} {xs : List V} {ds : List PyData} : SqT K H a xs → DzAll K H xs ds → Dz K H (.ref a) (.tuple ds)
  | dct {a : Addr} : H a = some (.dK []) → Dz K H (.ref a) (.dict [])
inductive DzAll (K : PySem.W.Frag) (H : Hp) : List V → List PyData → Prop
  | nil : DzAll K H [] []
  | cons {v : V} {vs : List V} {d : PyData} {ds : List PyData} : Dz K H v d → DzAll K H vs ds → DzAll K H (v :: vs) (d :: ds)
end
mutual
theorem dz_of {K : PySem.W.Frag} {H : Hp} : ∀ (d : PyData) (v : V), Dp K H v d → Dz K H v d
  | .none, _, .non => .non
  | .bool _, _, .bl b => .bl b
  | .int _, _, .int i => .int i
  | .str _, _, .str x => .str x
  | .list ds, _, .lst h ha => .lst h (dzA_of ds _ ha)
  | .tuple ds, _, .tup h ha => .tup h (dzA_of ds _ ha)
  | .dict _, _, h => by cases h
theorem dzA_of {K : PySem.W.Frag} {H : Hp} : ∀ (ds : List PyData) (vs : List V), DpAll K H vs ds → DzAll K H vs ds
  | [], _, .nil => .nil
  | d :: ds, _, .cons h1 h2 => .cons (dz_of d _ h1) (dzA_of ds _ h2)
end
mutual
theorem dz_same {K : PySem.W.Frag} {H H' : Hp} (s : Same H H') : ∀ (d : PyData) (v : V), Dz K H v d → Dz K H' v d
  | .none, _, .non => .non
  | .bool _, _, .bl b => .bl b
  | .int _, _, .int i => .int i
  | .str _, _, .str x => .str x
  | .list ds, _, .lst h ha => .lst (s.seq h) (dzA_same s ds _ ha)
  | .tuple ds, _, .tup h ha => .tup (SqT.same s h) (dzA_same s ds _ ha)
  | .dict _, _, .dct h => .dct (s _ _ h)
theorem dzA_same {K : PySem.W.Frag} {H H' : Hp} (s : Same H H') : ∀ (ds : List PyData) (vs : List V), DzAll K H vs ds → DzAll K H' vs ds
  | [], _, .nil => .nil
  | d :: ds, _, .cons h1 h2 => .cons (dz_same s d _ h1) (dzA_same s ds _ h2)
end
theorem Dz.same {K : PySem.W.Frag} {H H' : Hp} {v : V} {d : PyData} (h : Dz K H v d) (s : Same H H') : Dz K H' v d := dz_same s d v h
/-- the table of modules is a dict in the written part -/
def SysD (K : PySem.W.Frag) : Prop := ∃ o, K.lookup sysModules = some o ∧ o.cls = .type "dict"
section
variable {X : Cx} {pins : List (Addr × Obj)} {σ : L2.St} {H : Hp} {s : Shared}
theorem ne_sys (I : Inv X pins σ H s) (sd : SysD X.K) {a : Addr} {o : Obj} {c : String} (e : s.heap.get? a = some o) (h : o.cls = .type c) (hc : c ≠ "dict") : a ≠ sysModules := fun z => by
  obtain ⟨q, h1, h2⟩ := sd
  have h3 := I.kIn _ _ h1
  rw [z, h3] at e
  cases e
  rw [h2] at h
  injection h with h
  exact hc h.symm
mutual
theorem dz_reads (I : Inv X pins σ H s) (sd : SysD X.K) : ∀ (d : PyData) (v : V) (u : Value), Dz X.K H v d → RelV v u → ∃ as, Reads s.heap u d as ∧ sysModules ∉ as
  | .none, _, _, h, r => by
    cases h
    cases r
    exact ⟨_, Reads.none, by simp⟩
  | .bool b, _, _, h, r => by
    cases h
    cases r
    exact ⟨_, Reads.bool b, by simp⟩
  | .int i, _, _, h, r => by
    cases h
    obtain ⟨t, rfl⟩ := r
    exact ⟨_, Reads.int i t, by simp⟩
  | .str x, _, _, h, r => by
    cases h
    obtain ⟨t, rfl⟩ := r
    exact ⟨_, Reads.str x t, by simp⟩
  | .list ds, _, _, h, r => by
    cases h with
    | lst hs ha =>
      cases r
      obtain ⟨its, rv, ⟨o, n, ho, hc, _, hd⟩, _⟩ := I.list hs
      obtain ⟨as, hr, hn⟩ := dzA_reads I sd ds _ its ha rv
      refine ⟨_, Reads.list ho hc hd hr, fun hm => ?_⟩
      rcases List.mem_cons.mp hm with hm | hm
      · exact ne_sys I sd ho hc (by decide) hm.symm
      · exact hn hm
  | .tuple ds, _, _, h, r => by
    cases h with
    | tup hs ha =>
      cases r
      obtain ⟨its, rv, ⟨o, ho, hc, n, hd⟩, _⟩ := I.tuple hs
      obtain ⟨as, hr, hn⟩ := dzA_reads I sd ds _ its ha rv
      exact ⟨_, Reads.tuple ho hc hd hr, hn⟩
  | .dict _, _, _, h, r => by
    cases h with
    | @dct a ha =>
      cases r
      obtain ⟨_, hsy, vs, kv, o, es, ep, h1, h2, h3, h4, h5⟩ := (show ObjOk X.prog X.w H s.heap a (.dK []) from I.hok a _ ha)
      cases kv
      refine ⟨[a], ?_, fun hm => ?_⟩
      · obtain ⟨es⟩ := es
        have h6 : Pairs (mixKind X.prog X.w) es [] := h5.1
        cases h6
        exact Reads.dict (kvs := []) h1 h2.1 h3 .nil .nil
      · simp at hm
        simp [← hm] at hsy
theorem dzA_reads (I : Inv X pins σ H s) (sd : SysD X.K) : ∀ (ds : List PyData) (vs : List V) (us : List Value), DzAll X.K H vs ds → Vals vs us → ∃ as, ReadsAll s.heap us ds as ∧ sysModules ∉ as
  | [], _, _, h, r => by
    cases h
    cases r
    exact ⟨_, ReadsAll.nil, by simp⟩
  | d :: ds, _, _, h, r => by
    cases h with
    | cons h1 h2 =>
      cases r with
      | cons r1 r2 =>
        obtain ⟨as, q1, n1⟩ := dz_reads I sd d _ _ h1 r1
        obtain ⟨bs, q2, n2⟩ := dzA_reads I sd ds _ _ h2 r2
        refine ⟨_, ReadsAll.cons q1 q2, fun hm => ?_⟩
        rcases List.mem_append.mp hm with hm | hm
        · exact n1 hm
        · exact n2 hm
end
end
def rReprZ (K : PySem.W.Frag) : List V → Hp → VK → Prop := fun xs H Q => ∃ v d, xs = [v] ∧ Dz K H v d ∧ d.showable = true ∧ d.depth ≤ 60 ∧ d.shown.length ≤ sizeLine ∧ Q (.str d.shown) H
theorem call_reprZ {X : Cx} {k : Nat} (hgd : X.A.guards = some []) (hr : Room k X.A) (sd : SysD X.K) : CallR X (.builtin "repr") (rReprZ X.K) := by
  intro pins s σ H xs us Q I r h
  have hu := hr.units
  obtain ⟨v, d, rfl, hd, hs, hdp, hz, q⟩ := h
  cases r with
  | cons rv rn =>
    rename_i u us'
    cases rn
    obtain ⟨as, rd, hn⟩ := dz_reads I sd d v u hd rv
    cases hd with
    | non => cases rv; exact PySem.P.repr_of_none ⟨.str _, _, I.tok _, ⟨_, rfl⟩, q⟩
    | bl b => cases rv; exact PySem.P.repr_of_bool ⟨.str _, _, I.tok _, ⟨_, rfl⟩, by cases b <;> exact q⟩
    | int i =>
      obtain ⟨t, rfl⟩ := rv
      have hi : i.natAbs.log2 < 1920 := by
        simp only [PyData.showable] at hs
        exact of_decide_eq_true hs
      exact PySem.P.repr_of_int hi ⟨.str _, _, I.tok _, ⟨_, rfl⟩, q⟩
    | str x =>
      obtain ⟨t, rfl⟩ := rv
      exact PySem.P.repr_of_str ⟨.str _, _, I.tok _, ⟨_, rfl⟩, q⟩ hz
    | lst h1 h2 =>
      cases rv
      exact repr_of_reads' rd hs (fun _ => hn) hgd (by omega) (fun _ _ e => e) (fun h' u tk hk => ⟨.str _, _, I.kept hk, ⟨_, rfl⟩, q⟩) hz
    | tup h1 h2 =>
      cases rv
      exact repr_of_reads' rd hs (fun _ => hn) hgd (by omega) (fun _ _ e => e) (fun h' u tk hk => ⟨.str _, _, I.kept hk, ⟨_, rfl⟩, q⟩) hz
    | dct h1 =>
      cases rv
      exact repr_of_reads' rd hs (fun _ => hn) hgd (by omega) (fun _ _ e => e) (fun h' u tk hk => ⟨.str _, _, I.kept hk, ⟨_, rfl⟩, q⟩) hz
/-! ### bounds -/
structure Nz (w k : Nat) (d : PyData) : Prop where
  ok : d.showable = true
  len : d.shown.length ≤ w
  dp : d.depth ≤ k
structure Nzs (w k : Nat) (ds : List PyData) : Prop where
  ok : PyData.showableAll ds = true
  len : ((PyData.shownAll ds).map (·.length)).sum + 2 * ds.length ≤ w
  dp : PyData.depthAll ds ≤ k
theorem Nc.z {w k : Nat} {d : PyData} (h : Nc w k d) : Nz w k d := ⟨(okD_show d h.ok).1, Nat.le_trans (okD_show d h.ok).2 h.wt, h.dp⟩
theorem Nz.dct : Nz 2 1 (.dict []) := ⟨by decide, by decide, by simp [PyData.depth, PyData.depthKv]⟩
theorem Nz.mono {w k w' k' : Nat} {d : PyData} (h : Nz w k d) (h1 : w ≤ w') (h2 : k ≤ k') : Nz w' k' d := ⟨h.ok, Nat.le_trans h.len h1, Nat.le_trans h.dp h2⟩
theorem Nzs.nil {k : Nat} : Nzs 0 k [] := ⟨by simp [PyData.showableAll], by simp [PyData.shownAll], by simp [PyData.depthAll]⟩
theorem Nzs.cons {w w' k k' : Nat} {d : PyData} {ds : List PyData} (h : Nz w k d) (hs : Nzs w' k' ds) : Nzs (w + 2 + w') (max k k') (d :: ds) := by
  refine ⟨by simp only [PyData.showableAll, h.ok, hs.ok, Bool.and_self], ?_, ?_⟩
  · have := h.len
    have := hs.len
    simp only [PyData.shownAll, List.map_cons, List.sum_cons, List.length_cons]
    omega
  · have := h.dp
    have := hs.dp
    simp only [PyData.depthAll]
    omega
theorem Nz.list {w k : Nat} {ds : List PyData} (h : Nzs w k ds) : Nz (w + 3) (k + 1) (.list ds) := by
  refine ⟨by simp only [PyData.showable, h.ok], ?_, ?_⟩
  · have h1 := h.len
    simp only [PyData.shown]
    have := listText_len_le (PyData.shownAll ds)
    rw [shownAll_len] at this
    omega
  · have := h.dp
    simp only [PyData.depth]
    omega
theorem Nz.tuple {w k : Nat} {ds : List PyData} (h : Nzs w k ds) : Nz (w + 3) (k + 1) (.tuple ds) := by
  refine ⟨by simp only [PyData.showable, h.ok], ?_, ?_⟩
  · have h1 := h.len
    simp only [PyData.shown]
    have := tupleText_len_le (PyData.shownAll ds)
    rw [shownAll_len] at this
    omega
  · have := h.dp
    simp only [PyData.depth]
    omega
theorem Nz.repr {w k : Nat} {K : PySem.W.Frag} {H : Hp} {Q : VK} {v : V} {d : PyData} (n : Nz w k d) (h : Dz K H v d) (hw : w ≤ 16000000) (hk : k ≤ 60) (q : Q (.str d.shown) H) : rReprZ K [v] H Q :=
  ⟨v, d, rfl, h, n.ok, Nat.le_trans n.dp hk, Nat.le_trans n.len (Nat.le_trans hw (by decide)), q⟩
/-- what may be asked of a thing: data, or an empty dict -/
theorem Av.z {K : PySem.W.Frag} {H : Hp} {v : V} {o : Option PyData} (h : Av K H v o) : Dz K H v (o.getD (.dict [])) := by
  cases h with
  | d h _ => exact dz_of _ _ h
  | e h => exact .dct h
/-! ### the hook, the table of modules within -/
def obsZG (n : Nat) (fa : List He.Fa) (fn : List He.DefD) (ex : PySem.W.Frag → Bool) (g : Addr → Option Obj) : He.AlD := obsX fa fn ex (He.frG g (He.asD g n ++ [sysModules]))
def hookZ (n : Nat) (fa : List He.Fa) (fn : List He.DefD) (ex : PySem.W.Frag → Bool) : PySem.W.Hook where
  α := He.AlD
  obs := fun s => obsZG n fa fn ex s.heap.get?
  val := fun _ => He.valD fn
  says := fun _ h => ∃ K : PySem.W.Frag, K.In h ∧ He.SaysD fa fn K ∧ ex K = true
  of := fun _ _ e => ⟨_, He.frG_in, obsX_of e⟩
  keeps := fun _ _ _ ⟨K, hK, c⟩ k => ⟨K, PySem.W.Frag.In.keeps hK k, c⟩
theorem obsZG_eq {n : Nat} {fa : List He.Fa} {fn : List He.DefD} {ex : PySem.W.Frag → Bool} {g : Addr → Option Obj} {s : Shared} (h : ∀ a, g a = s.heap.get? a) : obsZG n fa fn ex g = (hookZ n fa fn ex).obs s := by
  have e : g = s.heap.get? := funext h
  rw [e] <;> rfl
def sysB (K : PySem.W.Frag) : Bool := match K.lookup sysModules with
  | some o => decide (o.cls = .type "dict")
  | none => false
theorem sys_ok {K : PySem.W.Frag} (h : sysB K = true) : SysD K := by
  unfold sysB at h
  cases e : K.lookup sysModules with
  | none =>
    rw [e] at h
    cases h
  | some o =>
    rw [e] at h
    exact ⟨o, e, of_decide_eq_true h⟩
def exB (xs ys : List Str) (K : PySem.W.Frag) : Bool := excsB xs ys K && sysB K
theorem ex_ok {xs ys : List Str} {K : PySem.W.Frag} (h : exB xs ys K = true) : ExcsOk xs ys K ∧ SysD K := by
  obtain ⟨a, b⟩ := Bool.and_eq_true_iff.mp h
  exact ⟨excs_ok a, sys_ok b⟩
end Wc

/-! things that are no texts. -/
namespace Wc
open PySem PySem.Spec PyProof.Rows L2
/-- not a text, and repr shows it -/
def BadT (K : PySem.W.Frag) (H : Hp) (v : V) : Prop := ∃ o, Av K H v o ∧ areLengths o = false ∧ (∀ ds, o = some (.list ds) → ds.length ≤ sizeLine) ∧ ∀ d, o = some d → okD d = true ∧ wt d ≤ 4000000 ∧ d.depth ≤ 8
theorem BadT.same {K : PySem.W.Frag} {H H' : Hp} {v : V} (s : Same H H') (h : BadT K H v) : BadT K H' v := let ⟨o, h1, h2⟩ := h; ⟨o, h1.same s, h2⟩
/-- a value that no text has -/
structure OddD (d : PyData) : Prop where
  odd : isLen d = false ∨ ∃ i, d = .int i ∧ 601 ≤ i
  ok : okD d = true
  w : wt d ≤ 3000
  dep : d.depth ≤ 1
  can : d.canLay0 = true
theorem mem_total : ∀ {ds : List PyData} {i : Int}, ds.all isLen = true → PyData.int i ∈ ds → i ≤ total (ds.map lenOf)
  | ds, i, h, hm => by
    have h' : ∀ n ∈ ds.map lenOf, 1 ≤ n := by
      intro n hn
      obtain ⟨d, hd, rfl⟩ := List.mem_map.mp hn
      have := List.all_eq_true.mp h d hd
      cases d <;> simp [isLen] at this ⊢
      simpa [lenOf] using this
    have h1 := mem_le_sum _ h' i (List.mem_map.mpr ⟨_, hm, rfl⟩)
    have h2 : 0 < (ds.map lenOf).length := by
      rw [List.length_map]
      exact List.length_pos_of_mem hm
    unfold total
    omega
theorem OddD.no {d : PyData} {ds : List PyData} (h : OddD d) (hm : d ∈ ds) : areLengths (some (.list ds)) = false := by
  unfold areLengths
  rcases h.odd with h | ⟨i, rfl, hi⟩
  · have : ds.all isLen = false := by
      cases c : ds.all isLen with
      | false => rfl
      | true => rw [List.all_eq_true.mp c d hm] at h; cases h
    simp [this]
  · cases c : ds.all isLen with
    | false =>
      dsimp only
      rw [c, Bool.and_false, Bool.false_and]
    | true =>
      have := mem_total c hm
      have : ¬ total (ds.map lenOf) ≤ 600 := by omega
      simp [this]
theorem dpAll_app {K : PySem.W.Frag} {H : Hp} : ∀ {xs ys : List V} {ds es : List PyData}, DpAll K H xs ds → DpAll K H ys es → DpAll K H (xs ++ ys) (ds ++ es)
  | _, _, _, _, .nil, h => h
  | _, _, _, _, .cons h1 h2, h => .cons h1 (dpAll_app h2 h)
theorem canLay_app : ∀ (ds es : List PyData), PyData.canLayAll0 (ds ++ es) = (PyData.canLayAll0 ds && PyData.canLayAll0 es)
  | [], es => by simp [PyData.canLayAll0]
  | d :: ds, es => by simp [PyData.canLayAll0, canLay_app ds es, Bool.and_assoc]
theorem okAll_app : ∀ (ds es : List PyData), okAll (ds ++ es) = (okAll ds && okAll es)
  | [], es => by simp [okAll]
  | d :: ds, es => by simp [okAll, okAll_app ds es, Bool.and_assoc]
theorem wtAll_app : ∀ (ds es : List PyData), wtAll (ds ++ es) = wtAll ds + wtAll es
  | [], es => by simp [wtAll]
  | d :: ds, es => by simp [wtAll, wtAll_app ds es, Nat.add_assoc]
/-- a list of ints with one odd value in it -/
theorem bad_mid {K : PySem.W.Frag} {H : Hp} {p : Addr} {ns ms : List Int} {v : V} {d : PyData} (hd : Dp K H v d) (h : OddD d) (e : H p = some (.lst (iV ns ++ [v] ++ iV ms))) (h1 : ∀ n ∈ ns ++ ms, n.natAbs < 2 ^ 1000) (h2 : ns.length + ms.length ≤ 1000) : BadT K H (.ref p) := by
  have hz : ∀ n ∈ ns ++ ms, n.natAbs.log2 < 1920 := fun n hn => log_small (h1 n hn) (by decide) (by decide)
  refine ⟨some (.list (ns.map .int ++ [d] ++ ms.map .int)), .d (.lst (.inl (.inl e)) (dpAll_app (dpAll_app (dpAll_ints ns) (.cons hd .nil)) (dpAll_ints ms))) ?_, h.no (by simp), ?_, ?_⟩
  · unfold SeqAt.shaped
    rw [PyData.canLay0, canLay_app, canLay_app, canLay_ints, canLay_ints, PyData.depth, depth_app, depth_app, depth_ints, depth_ints]
    have := h.dep
    simp [PyData.canLayAll0, h.can, PyData.depthAll]
    omega
  · intro ds e'
    injection e' with e'
    injection e' with e'
    rw [← e']
    simp
    have : sizeLine = 16777216 := by decide
    omega
  · intro d' e'
    injection e' with e'
    subst e'
    have := h.w
    have := h.dep
    refine ⟨?_, ?_, ?_⟩
    · simp only [okD, okAll_app, okAll]
      rw [okAll_ints ns fun n hn => hz n (List.mem_append_left _ hn), okAll_ints ms fun n hn => hz n (List.mem_append_right _ hn), h.ok]
      rfl
    · simp only [wt, wtAll_app, wtAll]
      have := wtAll_ints ns
      have := wtAll_ints ms
      omega
    · rw [PyData.depth, depth_app, depth_app, depth_ints, depth_ints]
      simp only [PyData.depthAll]
      omega
/-- a list of ints that is no text -/
theorem bad_ints {K : PySem.W.Frag} {H : Hp} {p : Addr} {ns : List Int} (e : IL H p ns) (h : ¬ Txt' ns) (h1 : ∀ n ∈ ns, n.natAbs < 2 ^ 1000) (h2 : ns.length ≤ 1000) : BadT K H (.ref p) := by
  refine ⟨_, av_ints e.seq, ?_, ?_, ?_⟩
  · cases c : areLengths (some (.list (ns.map .int))) with
    | false => rfl
    | true => exact (h ((areLengths_ints ns).mp c)).elim
  · intro ds e'
    injection e' with e'
    injection e' with e'
    rw [← e', List.length_map]
    have : sizeLine = 16777216 := by decide
    omega
  · intro d' e'
    injection e' with e'
    subst e'
    refine ⟨?_, ?_, ?_⟩
    · simp only [okD]
      exact okAll_ints ns fun n hn => log_small (h1 n hn) (by decide) (by decide)
    · simp only [wt]
      have := wtAll_ints ns
      omega
    · rw [PyData.depth, depth_ints]
      decide
/-- it stays no text whatever is done to the object at a -/
def BadW (a : Addr) (K : PySem.W.Frag) (H : Hp) (v : V) : Prop := ∀ H2, SameB a H H2 → BadT K H2 v
theorem BadW.same {a : Addr} {K : PySem.W.Frag} {H H' : Hp} {v : V} (h : BadW a K H v) (s : Same H H') : BadW a K H' v := fun H2 s2 => h H2 ((SameB.of s).trans s2)
theorem BadW.on {a : Addr} {K : PySem.W.Frag} {H H' : Hp} {v : V} (h : BadW a K H v) (s : SameB a H H') : BadW a K H' v := fun H2 s2 => h H2 (s.trans s2)
section
variable {a q : Addr} {K : PySem.W.Frag} {H : Hp} {v : V} {d : PyData} {ns : List Int}
theorem badW_flat (h : ∀ H, Dp K H v d) (h0 : SeqAt.shaped d = true) (h1 : areLengths (some d) = false) (h2 : ∀ ds, d ≠ .list ds) (ok : okD d = true) (hw : wt d ≤ 4000000) (hk : d.depth ≤ 8) : BadW a K H v := fun H2 _ =>
  ⟨some d, .d (h H2) h0, h1, fun ds e => (h2 ds (Option.some.inj e)).elim, fun d' e => by cases e; exact ⟨ok, hw, hk⟩⟩
theorem badW_ints (e : IL H q ns) (nq : q ≠ a) (h : ¬ Txt' ns) (h1 : ∀ n ∈ ns, n.natAbs < 2 ^ 1000) (h2 : ns.length ≤ 1000) : BadW a K H (.ref q) := fun H2 s => bad_ints (s q _ nq e) h h1 h2
theorem badW_push {x : V} (hd : ∀ H, Dp K H x d) (h : OddD d) (e : H q = some (.lst (iV ns ++ [x]))) (nq : q ≠ a) (h1 : ∀ n ∈ ns, n.natAbs < 2 ^ 1000) (h2 : ns.length ≤ 1000) : BadW a K H (.ref q) := fun H2 s =>
  bad_mid (ns := ns) (ms := []) (hd H2) h (by
    have := s q _ nq e
    rw [this]
    show _ = some (HO.lst (iV ns ++ [x] ++ []))
    rw [List.append_nil]) (by simpa using h1) (by simpa using h2)
theorem badW_tup (e : H q = some (.tup (iV ns))) (nq : q ≠ a) (h1 : ∀ n ∈ ns, n.natAbs < 2 ^ 1000) (h2 : ns.length ≤ 1000) : BadW a K H (.ref q) := fun H2 s => by
  refine ⟨some (.tuple (ns.map .int)), .d (.tup (.inl (.inl (s q _ nq e))) (dpAll_ints ns)) ?_, rfl, (fun _ e => by injection e with e; cases e), ?_⟩
  · unfold SeqAt.shaped
    rw [PyData.canLay0, canLay_ints, PyData.depth, depth_ints]
    decide
  · intro d' e'
    injection e' with e'
    subst e'
    refine ⟨?_, ?_, ?_⟩
    · simp only [okD]
      exact okAll_ints ns fun n hn => log_small (h1 n hn) (by decide) (by decide)
    · simp only [wt]
      have := wtAll_ints ns
      omega
    · rw [PyData.depth, depth_ints]
      decide
theorem badW_list {w : Addr} (e : H q = some (.lst [.ref w])) (nq : q ≠ a) (ew : IL H w ns) (nw : w ≠ a) (h1 : ∀ n ∈ ns, n.natAbs < 2 ^ 1000) (h2 : ns.length ≤ 1000) : BadW a K H (.ref q) := fun H2 s => by
  refine ⟨some (.list [.list (ns.map .int)]), .d (.lst (.inl (.inl (s q _ nq e))) (.cons (dp_ints (s w _ nw ew)) .nil)) ?_, ?_, ?_, ?_⟩
  · unfold SeqAt.shaped
    simp only [PyData.canLay0, PyData.canLayAll0, canLay_ints, PyData.depth, PyData.depthAll, depth_ints]
    decide
  · simp [areLengths, isLen]
  · intro ds e'
    injection e' with e'
    injection e' with e'
    rw [← e']
    show 1 ≤ sizeLine
    decide
  · intro d' e'
    injection e' with e'
    subst e'
    refine ⟨?_, ?_, ?_⟩
    · simp only [okD, okAll, Bool.and_true]
      exact okAll_ints ns fun n hn => log_small (h1 n hn) (by decide) (by decide)
    · simp only [wt, wtAll]
      have := wtAll_ints ns
      omega
    · simp only [PyData.depth, PyData.depthAll, depth_ints]
      decide
theorem badW_dct (e : H q = some (.dK [])) (nq : q ≠ a) : BadW a K H (.ref q) := fun H2 s => ⟨Option.none, .e (s q _ nq e), rfl, (fun _ e => by cases e), (fun _ e => by cases e)⟩
end
theorem sq_par3 {tr : TA} {u : TS} {D : Ends} {σ : L2.St} {H : Hp} {i j l : Nat} (h : tr σ H fun vs H1 => ∃ x y z, vs = [x, y, z] ∧ u D (((σ.set i (some x)).set j (some y)).set l (some z)) H1) : tSeq (tPar3 i j l tr) u D σ H := h
theorem odd_0 : OddD (.int 0) := ⟨.inl rfl, by decide +kernel, by decide, by decide, by decide +kernel⟩
theorem odd_T : OddD (.bool true) := ⟨.inl rfl, by decide +kernel, by decide, by decide, by decide +kernel⟩
theorem odd_N : OddD .none := ⟨.inl rfl, by decide +kernel, by decide, by decide, by decide +kernel⟩
theorem odd_1 : OddD (.str "1") := ⟨.inl rfl, by decide +kernel, by decide +kernel, by decide, by decide +kernel⟩
end Wc

/-! enumerate of a text, zip of two texts. -/
namespace Wc
open PySem PySem.Spec PyProof.Rows L2
/-- the signs of a text, numbered -/
def ItEs (x : Str) : It :=
  ⟨fun i _ => i < x.cps.size, fun i H v H' => ∃ T c, v = .ref T ∧ H T = none ∧ H' = upd H T (.tup [.int (i : Nat), .str ⟨#[c]⟩]) ∧ x.cps[i]? = some c, fun i _ => i = x.cps.size⟩
theorem strIter_obj {h : Heap} {it : Addr} {ty : String} {x : Str} {t : Tok} {i : Nat} (st : h.IsStrIter it ty x t i) : ∃ o, h.get? it = some o ∧ ∀ v, o.data ≠ .cell v := by
  obtain ⟨o, e, _, d⟩ := st
  exact ⟨o, e, fun v q => by rw [d] at q; cases q⟩
theorem strIter_at {h h' : Heap} {it : Addr} {ty : String} {x : Str} {t : Tok} {i : Nat} (st : h.IsStrIter it ty x t i) (k : ∀ o, h.get? it = some o → h'.get? it = some o) : h'.IsStrIter it ty x t i := by
  obtain ⟨o, e, r⟩ := st
  exact ⟨o, k o e, r⟩
theorem turn_enumS {P : Program} {w : World} {K : PySem.W.Frag} {elts : List Expr} {kk : Nat} {tpos : Pos} (x : Str) (t : Tok) (e it : Addr) :
    Turn P w K (.Tuple elts kk tpos) (ItEs x) [e, it] e (fun i h => (∃ old, IsEnum h e it ((i : Nat) : Int) old) ∧ h.IsStrIter it (strIterType x) x t i ∧ e ≠ it) where
  mem := by simp
  obj := fun i h st b hb => by
    obtain ⟨⟨old, he⟩, hs, _⟩ := st
    have e' : b = e ∨ b = it := by simpa using hb
    rcases e' with z | z
    · rw [z]; exact ⟨_, he, fun v q => nomatch q⟩
    · rw [z]; exact strIter_obj hs
  keep := fun i h h' st k => let ⟨⟨old, he⟩, hi, hne⟩ := st; ⟨⟨old, k e (by simp) _ he⟩, strIter_at hi fun o q => k it (by simp) o q, hne⟩
  item := by
    intro X hP hw hK hc i pins s σ H E I hf st hg
    subst hP hw hK
    obtain ⟨⟨old, he⟩, hit, hne⟩ := st
    have hg : i < x.cps.size := hg
    have hel : e < s.heap.objs.size := Heap.lt_size he
    have hil : it < s.heap.objs.size := by obtain ⟨_, q, _⟩ := hit; exact Heap.lt_size q
    refine wpAny_pyNext_enum_itemD (Draws.text (show X.A.in1.handled = none from I.ok.hd hc) it x t) he hit hg hne (by simpa using hne) fun u h' tk hu ho hit' hT hsz hk => ?_
    obtain ⟨c, ut, hcx, rfl⟩ := hu
    refine ⟨_, rfl, wpAny_letOwnedTupleGo_enum (s := { s with heap := h', toks := tk + 1 }) ho fun h'' he' sb => ?_⟩
    have hT2 : h''.get? s.heap.objs.size = some { cls := .type "tuple", data := .seq #[.int i tk, .str ⟨#[c]⟩ ut] } := (sb.2 _ (Nat.ne_of_gt hel)).trans hT
    have new : ObjOk X.prog X.w (upd H s.heap.objs.size (.tup [.int (i : Nat), .str ⟨#[c]⟩])) h'' s.heap.objs.size (.tup [.int (i : Nat), .str ⟨#[c]⟩]) :=
      ⟨by show 2 ≤ sizeLine; decide, [.int i tk, .str ⟨#[c]⟩ ut], .cons ⟨_, rfl⟩ (.cons ⟨_, rfl⟩ .nil), ⟨_, hT2, rfl, _, rfl⟩⟩
    have I1 : Inv X pins σ (upd H s.heap.objs.size (.tup [.int (i : Nat), .str ⟨#[c]⟩])) { s with heap := h'', toks := tk + 1 } :=
      I.turnedNew (t' := tk + 1) (ch := [e, it]) (fun b ob hb q => (sb.2 b (fun z => hb (by simp [z]))).trans (hk b ob (fun z => hb (by simp [z])) (fun z => hb (by simp [z])) q)) hf (Nat.le_refl _) new
    refine ⟨.ref s.heap.objs.size, _, I1, rfl, ⟨_, c, rfl, I.hok.fresh (Nat.le_refl _), rfl, hcx⟩, ⟨⟨.str ⟨#[c]⟩ ut, ?_⟩, strIter_at hit' fun o q => (sb.2 it (Ne.symm hne)).trans q, hne⟩, fun b hb => ?_⟩
    · have e1 : ((i + 1 : Nat) : Int) = (i : Int) + 1 := by omega
      rw [e1]; exact he'
    · have hb' : b < s.heap.objs.size := by
        have e' : b = e ∨ b = it := by simpa using hb
        rcases e' with z | z
        · rw [z]; exact hel
        · rw [z]; exact hil
      rw [upd_ne (Nat.ne_of_lt hb')]
      exact (hf b hb).1
  done := by
    intro X hP hw hK hc i pins s σ H E I hf st hg
    subst hP hw hK
    obtain ⟨⟨old, he⟩, hit, hne⟩ := st
    have hg : i = x.cps.size := hg
    subst hg
    obtain ⟨f0, f1, f2, f3, f4, f5⟩ := hf it (by simp)
    exact wpAny_pyNext_enum_endD (Draws.text (show X.A.in1.handled = none from I.ok.hd hc) it x t) he hit fun h' eb => ⟨rfl, I.turned (t' := s.toks) (fun b o hb q => eb b o hb q) f0 f1 f3 f4 f5⟩
  self := fun A i s Q E st h => let ⟨⟨_, he⟩, _⟩ := st; wpAny_pyIter_enum he h
def iEnumS (ta : TA) : TI := fun σ H R => ta σ H fun vs H1 => ∃ x, vs = [.str x] ∧ R (ItEs x) H1
theorem pi_enumS {X : Cx} {e : Expr} {ta : TA} {p pos tpos : Pos} {elts : List Expr} {kk : Nat} (hg : Gl X "enumerate") (hm : X.mg "enumerate" = none) (ha : PA X [e] ta) (hs : starEach [e] X.env = [(false, eval e X.env)] := by rfl) :
    PI X (.Tuple elts kk tpos) (.Call (.Name "enumerate" p) [e] [] pos) (iEnumS ta) := by
  refine ⟨fun pins s σ H R I h => ?_⟩
  refine Call_ (ld_blt I hg hm boot_enumerate (PyProof.Rows.callWith_type1 (thn (ha.run pos pins s σ H _ I h) fun us s1 ⟨vs, H1, I1, r1, q1⟩ => ?_) hs rfl))
  obtain ⟨x, ex, q⟩ := q1
  subst ex
  cases r1 with
  | cons r rr =>
    cases rr
    obtain ⟨t, rfl⟩ := r
    refine call_enumerate_str fun h' he hit hsz hk => wpAny_pyIter_enum he ?_
    have I2 : Inv X pins σ H1 { s1 with heap := h' } := I1.kept (t' := s1.toks) hk
    refine ⟨s1.heap.objs.size + 1, [s1.heap.objs.size + 1, s1.heap.objs.size], _, _, H1, rfl, I2, turn_enumS x t (s1.heap.objs.size + 1) s1.heap.objs.size, ⟨⟨.none, he⟩, hit, Nat.succ_ne_self _⟩, fun b hb => ?_, q⟩
    have e' : b = s1.heap.objs.size + 1 ∨ b = s1.heap.objs.size := by simpa using hb
    have hle : s1.heap.objs.size ≤ b := by
      rcases e' with z | z
      · rw [z]; exact Nat.le_add_right _ _
      · rw [z]; exact Nat.le_refl _
    exact I1.fpOk hle (I1.hok.fresh hle)
theorem walk_enumS {x : Str} : Walk (ItEs x) x.cps.size (fun _ => True) (fun i H v H' => ∃ T c, v = .ref T ∧ H T = none ∧ H' = upd H T (.tup [.int (i : Nat), .str ⟨#[c]⟩]) ∧ x.cps[i]? = some c) :=
  ⟨fun _ _ h _ => h, fun _ _ => rfl, fun _ _ _ _ _ _ y => y⟩
/-- the signs of two texts, in pairs -/
def ItZs (x y : Str) : It :=
  ⟨fun i _ => i < x.cps.size ∧ i < y.cps.size, fun i H v H' => ∃ T c d, v = .ref T ∧ H T = none ∧ H' = upd H T (.tup [.str ⟨#[c]⟩, .str ⟨#[d]⟩]) ∧ x.cps[i]? = some c ∧ y.cps[i]? = some d, fun i _ => i = min x.cps.size y.cps.size⟩
theorem turn_zipS {P : Program} {w : World} {K : PySem.W.Frag} {elts : List Expr} {kk : Nat} {tpos : Pos} (x y : Str) (t u : Tok) {z TI TO i1 i2 : Addr} (D : ZipSep2 z TI TO i1 i2 [i1] [i2]) :
    Turn P w K (.Tuple elts kk tpos) (ItZs x y) [z, TI, TO, i1, i2] z (fun i h => IsZip h z TI TO .none ∧ IsTupOf2 h TI (.ref i1) (.ref i2) ∧ (∃ a b, IsTupOf2 h TO a b) ∧ h.IsStrIter i1 (strIterType x) x t i ∧ h.IsStrIter i2 (strIterType y) y u i) where
  mem := by simp
  obj := fun i h st c hc => by
    obtain ⟨hz, hTI, ⟨a, b, hTO⟩, h1, h2⟩ := st
    have e' : c = z ∨ c = TI ∨ c = TO ∨ c = i1 ∨ c = i2 := by simpa using hc
    rcases e' with q | q | q | q | q
    · rw [q]; exact ⟨_, hz, fun v q => nomatch q⟩
    · rw [q]; exact ⟨_, hTI, fun v q => nomatch q⟩
    · rw [q]; exact ⟨_, hTO, fun v q => nomatch q⟩
    · rw [q]; exact strIter_obj h1
    · rw [q]; exact strIter_obj h2
  keep := fun i h h' st k => by
    obtain ⟨hz, hTI, ⟨a, b, hTO⟩, h1, h2⟩ := st
    exact ⟨k z (by simp) _ hz, k TI (by simp) _ hTI, ⟨a, b, k TO (by simp) _ hTO⟩, strIter_at h1 fun o q => k i1 (by simp) o q, strIter_at h2 fun o q => k i2 (by simp) o q⟩
  item := by
    intro X hP hw hK hc i pins s σ H E I hf st hg
    subst hP hw hK
    obtain ⟨hz, hTI, ⟨x0, y0, hTO⟩, h1, h2⟩ := st
    obtain ⟨hg1, hg2⟩ := hg
    have hzl : z < s.heap.objs.size := Heap.lt_size hz
    have hh : X.A.in1.handled = none := I.ok.hd hc
    refine wpAny_pyNext_zipD2_item D (Draws.text hh i1 x t) (Draws.text hh i2 y u) hz hTI hTO h1 h2 hg1 hg2 fun v1 v2 h' tk hv1 hv2 z' TO' h1' h2' hT hsz hk => ?_
    obtain ⟨c, tc, hcx, rfl⟩ := hv1
    obtain ⟨d, td, hdy, rfl⟩ := hv2
    refine ⟨_, rfl, wpAny_letOwnedTupleGo_zip (s := { s with heap := h', toks := tk }) z' fun h'' z'' sb => ?_⟩
    have hT2 : h''.get? s.heap.objs.size = some { cls := .type "tuple", data := .seq #[.str ⟨#[c]⟩ tc, .str ⟨#[d]⟩ td] } := (sb.2 _ (Nat.ne_of_gt hzl)).trans hT
    have new : ObjOk X.prog X.w (upd H s.heap.objs.size (.tup [.str ⟨#[c]⟩, .str ⟨#[d]⟩])) h'' s.heap.objs.size (.tup [.str ⟨#[c]⟩, .str ⟨#[d]⟩]) :=
      ⟨by show 2 ≤ sizeLine; decide, [.str ⟨#[c]⟩ tc, .str ⟨#[d]⟩ td], .cons ⟨_, rfl⟩ (.cons ⟨_, rfl⟩ .nil), ⟨_, hT2, rfl, _, rfl⟩⟩
    have I1 : Inv X pins σ (upd H s.heap.objs.size (.tup [.str ⟨#[c]⟩, .str ⟨#[d]⟩])) { s with heap := h'', toks := tk } :=
      I.turnedNew (t' := tk) (ch := [z, TI, TO, i1, i2]) (fun c o hb q => (sb.2 c (fun q' => hb (by simp [q']))).trans (hk c o (fun q' => hb (by simp [q'])) (fun q' => hb (by simp [q'])) (fun q' => hb (by simp [q'])) (fun q' => hb (by simp [q'])) q)) hf (Nat.le_refl _) new
    refine ⟨.ref s.heap.objs.size, _, I1, rfl, ⟨_, c, d, rfl, I.hok.fresh (Nat.le_refl _), rfl, hcx, hdy⟩, ⟨z'', ?_, ⟨.str ⟨#[c]⟩ tc, .str ⟨#[d]⟩ td, ?_⟩, ?_, ?_⟩, fun c hcm => ?_⟩
    · exact (sb.2 _ D.TIz).trans (hk _ _ D.TIz D.TITO D.TIi1 D.TIi2 hTI)
    · exact (sb.2 _ D.TOz).trans TO'
    · exact strIter_at h1' fun o q => (sb.2 _ (Ne.symm D.zi1)).trans q
    · exact strIter_at h2' fun o q => (sb.2 _ (Ne.symm D.zi2)).trans q
    · have hlt : c < s.heap.objs.size := by
        have e' : c = z ∨ c = TI ∨ c = TO ∨ c = i1 ∨ c = i2 := by simpa using hcm
        rcases e' with q | q | q | q | q
        · rw [q]; exact hzl
        · rw [q]; exact Heap.lt_size hTI
        · rw [q]; exact Heap.lt_size hTO
        · rw [q]; obtain ⟨_, e1, _⟩ := h1; exact Heap.lt_size e1
        · rw [q]; obtain ⟨_, e2, _⟩ := h2; exact Heap.lt_size e2
      rw [upd_ne (Nat.ne_of_lt hlt)]
      exact (hf c hcm).1
  done := by
    intro X hP hw hK hc i pins s σ H E I hf st hg
    subst hP hw hK
    obtain ⟨hz, hTI, ⟨x0, y0, hTO⟩, h1, h2⟩ := st
    have hg : i = min x.cps.size y.cps.size := hg
    have hh : X.A.in1.handled = none := I.ok.hd hc
    exact wpAny_pyNext_zipD2_end D (Draws.text hh i1 x t) (Draws.text hh i2 y u) hz hTI hTO h1 h2 (by omega) (by omega) (by omega) fun h' tk hk => ⟨rfl, I.turnedL (t' := tk) (ch := [z, TI, TO, i1, i2]) (fun c o hb q =>
      hk c o (fun q' => hb (by simp [q'])) (fun q' => hb (by simp [q'])) (fun q' => hb (by simp [q'])) (fun q' => hb (by simp [q'])) q) hf⟩
  self := fun A i s Q E st h => wpAny_pyIter_zip st.1 h
def iZipS (ta : TA) : TI := fun σ H R => ta σ H fun vs H1 => ∃ x y, vs = [.str x, .str y] ∧ R (ItZs x y) H1
theorem pi_zipS {X : Cx} {e e2 : Expr} {ta : TA} {p pos tpos : Pos} {elts : List Expr} {kk : Nat} (hg : Gl X "zip") (hm : X.mg "zip" = none) (ha : PA X [e, e2] ta)
    (hs : starEach [e, e2] X.env = (false, eval e X.env) :: starEach [e2] X.env := by rfl) (hpl : (backTo pos (starEach [e2] X.env)).any (·.1) = false := by rfl) :
    PI X (.Tuple elts kk tpos) (.Call (.Name "zip" p) [e, e2] [] pos) (iZipS ta) := by
  refine ⟨fun pins s σ H R I h => ?_⟩
  refine Call_ (ld_blt I hg hm PyProof.Rows.boot_zip (PyProof.Rows.callWith_type1 (thn (ha.run pos pins s σ H _ I h) fun us s1 ⟨vs, H1, I1, r1, q1⟩ => ?_) hs hpl))
  obtain ⟨x, y, ex, q⟩ := q1
  subst ex
  cases r1 with
  | cons r rr =>
    cases rr with
    | cons r' rr =>
      cases rr
      obtain ⟨t, rfl⟩ := r
      obtain ⟨u, rfl⟩ := r'
      refine zip_begins2 (begins_text x t) (begins_text y u) trivial trivial fun h' hz hTI hTO h1 h2 hsz hk => wpAny_pyIter_zip hz ?_
      have I2 : Inv X pins σ H1 { s1 with heap := h' } := I1.kept (t' := s1.toks) hk
      refine ⟨s1.heap.objs.size + 4, [s1.heap.objs.size + 4, s1.heap.objs.size + 2, s1.heap.objs.size + 3, s1.heap.objs.size, s1.heap.objs.size + 1], _, _, H1, rfl, I2, turn_zipS x y t u ⟨by first | omega | (simp; done) | (simp; omega), by first | omega | (simp; done) | (simp; omega), by first | omega | (simp; done) | (simp; omega), by first | omega | (simp; done) | (simp; omega), by first | omega | (simp; done) | (simp; omega), by first | omega | (simp; done) | (simp; omega), by first | omega | (simp; done) | (simp; omega), by first | omega | (simp; done) | (simp; omega), by first | omega | (simp; done) | (simp; omega), by first | omega | (simp; done) | (simp; omega), by first | omega | (simp; done) | (simp; omega), by first | omega | (simp; done) | (simp; omega), by first | omega | (simp; done) | (simp; omega)⟩, ⟨hz, hTI, ⟨_, _, hTO⟩, ⟨_, h1, rfl, rfl⟩, ⟨_, h2, rfl, rfl⟩⟩, fun c hcm => ?_, q⟩
      have e' : c = s1.heap.objs.size + 4 ∨ c = s1.heap.objs.size + 2 ∨ c = s1.heap.objs.size + 3 ∨ c = s1.heap.objs.size ∨ c = s1.heap.objs.size + 1 := by simpa using hcm
      have hle : s1.heap.objs.size ≤ c := by
        rcases e' with z | z | z | z | z
        · rw [z]; exact Nat.le_add_right _ _
        · rw [z]; exact Nat.le_add_right _ _
        · rw [z]; exact Nat.le_add_right _ _
        · rw [z]; exact Nat.le_refl _
        · rw [z]; exact Nat.le_add_right _ _
      exact I1.fpOk hle (I1.hok.fresh hle)
theorem walk_zipS {x y : Str} {n : Nat} (hx : x.cps.size = n) (hy : y.cps.size = n) : Walk (ItZs x y) n (fun _ => True) (fun i H v H' => ∃ T c d, v = .ref T ∧ H T = none ∧ H' = upd H T (.tup [.str ⟨#[c]⟩, .str ⟨#[d]⟩]) ∧ x.cps[i]? = some c ∧ y.cps[i]? = some d) :=
  ⟨fun _ _ h _ => ⟨by omega, by omega⟩, fun _ _ => by show n = min _ _; omega, fun _ _ _ _ _ _ y => y⟩
/-- for i, c in enumerate(text) -/
theorem for_enumS {K : PySem.W.Frag} {x : Str} {j k : Nat} {tb : TS} {D : Ends} {σ : L2.St} {H : Hp} (Pv : Nat → L2.St → Hp → Prop) (h0 : Pv 0 σ H)
    (hs : ∀ (i c : Nat) σ H T, x.cps.toList[i]? = some c → H T = Option.none → Pv i σ H → tb { D with nx := Pv (i + 1), ct := Pv (i + 1), bk := D.nx } ((σ.set j (some (.int (i : Nat)))).set k (some (.str ⟨#[c]⟩))) (upd H T (.tup [.int (i : Nat), .str ⟨#[c]⟩]))) (hd : ∀ σ H, Pv x.cps.toList.length σ H → D.nx σ H) :
    ∃ W : Nat → Nat → L2.St → Hp → Prop, (∃ m, W 0 m σ H) ∧ ∀ i m σ H, W i m σ H →
      ((ItEs x).stop i H ∧ D.nx σ H) ∨ ((ItEs x).go i H ∧ ∃ N : L2.St → Hp → Prop, (∀ σ' H', N σ' H' → ∃ m', m' < m ∧ W (i + 1) m' σ' H') ∧ ∀ v H', (ItEs x).yld i H v H' → gTup K 2 (gCons (gName j) (gCons (gName k) gNil)) v σ H' fun σ2 H2 => tb { D with nx := N, ct := N, bk := D.nx } σ2 H2) := by
  refine for_it walk_enumS Pv h0 (fun _ _ _ _ _ => trivial) ?_ (fun σ H p => hd σ H (by rw [Array.length_toList]; exact p))
  rintro i v σ H H2 hi p ⟨T, c, rfl, nT, rfl, hc⟩
  exact ⟨T, _, rfl, .inl (.inl upd_same), rfl, _, _, rfl, _, _, rfl, rfl, hs i c σ H T (by rw [← hc, Array.getElem?_toList]) nT p⟩
end Wc

/-! Patterns of more screens; a comprehension over a zip of two texts. -/
namespace Wc
open PySem PySem.Spec PyProof.Rows L2
theorem lc_noneS {K : PySem.W.Frag} {x y : Str} {D : Addr} {n j k : Nat} {tt : TT} {te : TE} {vs : List Nat} {σ : L2.St} {H1 : Hp} {Qd : Hp → Prop} (hx : x.cps.size = n) (hy : y.cps.size = n) (nD : H1 D = Option.none)
    (hs : ∀ (i c d : Nat) (H' : Hp), x.cps.toList[i]? = some c → y.cps.toList[i]? = some d → Same H1 H' → Evt tt (((wipe σ vs).set j (some (.str ⟨#[c]⟩))).set k (some (.str ⟨#[d]⟩))) H' false) (hd : ∀ H', Same H1 H' → H' D = some (.lst []) → Qd H')
    (hw : ∀ x y : V, wipe (((wipe σ vs).set j (some x)).set k (some y)) vs = wipe σ vs := by intro x y; rfl) :
    ∃ W : Nat → Nat → Hp → Prop, (∃ m, W 0 m (upd H1 D (.lst []))) ∧ ∀ i m H, W i m H →
      ((ItZs x y).stop i H ∧ Qd H) ∨ ((ItZs x y).go i H ∧ ∃ Nx : Hp → Prop, (∀ H', Nx H' → ∃ m', m' < m ∧ W (i + 1) m' H') ∧ ∀ v H', (ItZs x y).yld i H v H' → gTup K 2 (gCons (gName j) (gCons (gName k) gNil)) v (wipe σ vs) H' fun σ2 H2 => wipe σ2 vs = wipe σ vs ∧ tt σ2 H2 fun b H3 =>
        if b = true then te σ2 H3 fun y H4 => ∃ acc, H4 D = some (.lst acc) ∧ acc.length < sizeLine ∧ Nx (upd H4 D (.lst (acc ++ [y]))) else Nx H3) := by
  refine lc_it (n := n) (walk_zipS hx hy) (fun i H => Same H1 H ∧ H D = some (.lst [])) ⟨same_new nD, upd_same⟩ (fun i H _ hp => trivial) ?_ ?_
  · rintro i v H H' hi ⟨sm, eD⟩ ⟨T, c, d, rfl, nT, rfl, hcx, hcy⟩
    have sT : Same H (upd H T (.tup [.str ⟨#[c]⟩, .str ⟨#[d]⟩])) := same_new nT
    refine ⟨T, _, rfl, .inl (.inl upd_same), rfl, _, _, rfl, _, _, rfl, rfl, hw _ _, ?_⟩
    refine hs i c d _ (by rw [← hcx, Array.getElem?_toList]) (by rw [← hcy, Array.getElem?_toList]) (sm.trans sT) _ fun H3 s3 => ?_
    rw [if_neg (by decide)]
    exact ⟨(sm.trans sT).trans s3, s3 _ _ (sT _ _ eD)⟩
  · rintro H ⟨sm, eD⟩
    exact hd H sm eD
theorem end_sub {ss us : List Scr} (h : ∀ s ∈ ss, s ∈ us) {x : Int} (he : IsEnd (numL ss) x) : IsEnd (numL us) x := by
  obtain ⟨s, hs, l, hl, e⟩ := (num_ex (P := fun l => l.e = x)).mp he
  exact (num_ex (P := fun l => l.e = x)).mpr ⟨s, h s hs, l, hl, e⟩
theorem let_sub {ss us : List Scr} (h : ∀ s ∈ ss, s ∈ us) {x : Int} (he : IsLet (numL ss) x) : IsLet (numL us) x := by
  rcases he with he | he
  · exact .inl he
  · obtain ⟨s, hs, l, hl, e⟩ := (num_ex (P := fun l => ∃ z ∈ kinds2, x ∈ letS l z)).mp he
    exact .inr ((num_ex (P := fun l => ∃ z ∈ kinds2, x ∈ letS l z)).mpr ⟨s, h s hs, l, hl, e⟩)
/-- more screens never change a sign that is not the third one -/
theorem sign_more {n : Int} {ss us : List Scr} (h1 : Scrs n ss) (c1 : NoClash ss) (h2 : Scrs n us) (c2 : NoClash us) (h : ∀ s ∈ ss, s ∈ us) (x : Int) : signC ss x = 63 ∨ signC us x = signC ss x := by
  rcases signC_cases h1 c1 x with ⟨e, _, q⟩ | ⟨_, l, q⟩ | ⟨_, _, q⟩
  · rcases signC_cases h2 c2 x with ⟨_, _, q2⟩ | ⟨e2, _, _⟩ | ⟨e2, _, _⟩
    · exact .inr (q2.trans q.symm)
    · exact absurd (end_sub h e) e2
    · exact absurd (end_sub h e) e2
  · rcases signC_cases h2 c2 x with ⟨_, l2, _⟩ | ⟨_, _, q2⟩ | ⟨_, l2, _⟩
    · exact absurd (let_sub h l) l2
    · exact .inr (q2.trans q.symm)
    · exact absurd (let_sub h l) l2
  · exact .inl q
theorem sign_same {n : Int} {ss us : List Scr} (h1 : Scrs n ss) (c1 : NoClash ss) (h2 : Scrs n us) (c2 : NoClash us) (h : ∀ s, s ∈ ss ↔ s ∈ us) (x : Int) : signC ss x = signC us x := by
  rcases sign_more h1 c1 h2 c2 (fun s => (h s).mp) x with e | e
  · rcases sign_more h2 c2 h1 c1 (fun s => (h s).mpr) x with e2 | e2
    · rw [e, e2]
    · exact e2
  · exact e.symm
theorem patS_eq {n : Int} {ss us : List Scr} : patS n ss = patS n us ↔ patC n ss = patC n us :=
  ⟨fun h => by rw [← patS_cps, ← patS_cps, h], fun h => str_ext (by rw [patS_cps, patS_cps, h])⟩
theorem patC_of {n : Int} {ss us : List Scr} (h : ∀ x, 0 ≤ x → x < n → signC ss x = signC us x) : patC n ss = patC n us := by
  refine List.map_congr_left fun x hx => ?_
  have := mem_rngI.mp hx
  exact h x this.1 this.2
theorem patC_sign {n : Int} {ss us : List Scr} (h : patC n ss = patC n us) {x : Int} (x0 : 0 ≤ x) (x1 : x < n) : signC ss x = signC us x := by
  have e : ((x.toNat : Nat) : Int) = x := by omega
  have h1 := patC_get (n := n) (ss := ss) (i := x.toNat) (by omega)
  have h2 := patC_get (n := n) (ss := us) (i := x.toNat) (by omega)
  rw [h, h2, e] at h1
  exact (Option.some.inj h1).symm
theorem pat_same {n : Int} {ss us : List Scr} (h1 : Scrs n ss) (c1 : NoClash ss) (h2 : Scrs n us) (c2 : NoClash us) (h : ∀ s, s ∈ ss ↔ s ∈ us) : patS n ss = patS n us :=
  patS_eq.mpr (patC_of fun x _ _ => sign_same h1 c1 h2 c2 h x)
theorem fits_sub {n : Int} {ss us : List Scr} {ws : List Int} (h : ∀ s ∈ ss, s ∈ us) (hf : fitsOf n us ws = true) : fitsOf n ss ws = true := by
  have := fits_wraps.mp hf
  exact fits_wraps.mpr ⟨this.1, fun s hs => this.2 s (h s hs)⟩
theorem fits_patC {n : Int} {ss us : List Scr} {ws : List Int} (h1 : Scrs n ss) (c1 : NoClash ss) (h2 : Scrs n us) (c2 : NoClash us) (e : patC n ss = patC n us) (ht : Txt' ws) (hn : total ws = n) : fitsOf n ss ws = fitsOf n us ws := by
  rw [Bool.eq_iff_iff, fits_pat h1 c1 ht hn, fits_pat h2 c2 ht hn]
  refine forall_congr' fun x => forall_congr' fun x1 => forall_congr' fun xn => ?_
  have := patC_sign e (x := x) (by omega) xn
  rw [sign_of_C.1, sign_of_C.1, sign_of_C.2.1, sign_of_C.2.1, this]
/-- more screens: not more texts, and as many only with the same pattern -/
theorem count_more {n : Int} {ss us : List Scr} (h1 : Scrs n ss) (c1 : NoClash ss) (h2 : Scrs n us) (c2 : NoClash us) (h : ∀ s ∈ ss, s ∈ us) : countOf n us ≤ countOf n ss ∧ (countOf n us = countOf n ss → patS n us = patS n ss) := by
  obtain ⟨n1, n6⟩ := h1.len
  rw [← count_fit h1 c1, ← count_fit h2 c2]
  have e : ((everyOf n).filter fun ws => fitsOf n us ws) = ((everyOf n).filter fun ws => fitsOf n ss ws).filter fun ws => fitsOf n us ws := by
    rw [List.filter_filter]
    refine List.filter_congr fun ws _ => ?_
    cases hf : fitsOf n us ws with
    | false => rfl
    | true => rw [fits_sub h hf]; rfl
  refine ⟨by rw [e]; exact List.length_filter_le _ _, fun hl => ?_⟩
  have e2 : ((everyOf n).filter fun ws => fitsOf n us ws) = (everyOf n).filter fun ws => fitsOf n ss ws := by
    have hs : (((everyOf n).filter fun ws => fitsOf n us ws)).Sublist ((everyOf n).filter fun ws => fitsOf n ss ws) := by
      rw [e]
      exact List.filter_sublist
    exact hs.eq_of_length hl
  refine patS_eq.mpr (patC_of fun x x0 xn => ?_)
  have m1 : ∀ ws, ws ∈ ((everyOf n).filter fun ws => fitsOf n ss ws) ↔ Txt' ws ∧ total ws = n ∧ fitsOf n ss ws = true := fun ws => by
    rw [List.mem_filter, mem_every n1 n6, and_assoc]
  have m2 : ∀ ws, ws ∈ ((everyOf n).filter fun ws => fitsOf n ss ws) ↔ Txt' ws ∧ total ws = n ∧ fitsOf n us ws = true := fun ws => by
    rw [← e2, List.mem_filter, mem_every n1 n6, and_assoc]
  have a1 := sign_count h1 c1 m1 x0 xn
  have a2 := sign_count h2 c2 m2 x0 xn
  have a3 := a2.trans a1.symm
  rw [signC_unit, signC_unit] at a3
  exact unitS_inj a3
/-- at width 1 the pattern is that of the text -/
theorem pat_own {n : Int} {ss : List Scr} {ws : List Int} (h : Scrs n (ss ++ [(1, ws)])) (ht : Txt' ws) (hn : total ws = n) (hf : fitsOf n ss ws = true) : patS n (ss ++ [(1, ws)]) = Txt.join "" ((rngI 0 n).map fun x => if x ∈ (endsOf ws).dropLast then ("_" : Str) else "x") := by
  obtain ⟨hc, c1⟩ := count_one h ht hn hf
  obtain ⟨n1, n6⟩ := h.len
  have hw : fitsOf n (ss ++ [(1, ws)]) ws = true := by
    refine fits_wraps.mpr ⟨hn, fun s hs => ?_⟩
    rcases List.mem_append.mp hs with hs | hs
    · exact (fits_wraps.mp hf).2 s hs
    · rw [List.mem_singleton.mp hs]
      exact lawWrap_w1 ht.2.1
  have hl := count_fit h hc
  rw [c1] at hl
  have hm : ws ∈ (everyOf n).filter fun us => fitsOf n (ss ++ [(1, ws)]) us := by
    rw [List.mem_filter, mem_every n1 n6]
    exact ⟨⟨ht, hn⟩, hw⟩
  obtain ⟨u, hu⟩ := List.length_eq_one_iff.mp hl
  rw [hu, List.mem_singleton] at hm
  subst hm
  have hL : ∀ us, us ∈ [ws] ↔ Txt' us ∧ total us = n ∧ fitsOf n (ss ++ [(1, ws)]) us = true := fun us => by
    rw [← hu, List.mem_filter, mem_every n1 n6, and_assoc]
  unfold patS patL
  congr 1
  refine List.map_congr_left fun x hx => ?_
  have hx := mem_rngI.mp hx
  rw [sign_count h hc hL hx.1 hx.2]
  by_cases hd : x ∈ (endsOf ws).dropLast
  · rw [List.filter_cons_of_pos (by exact decide_eq_true hd), if_neg (by simp), if_pos (by simp), if_pos hd]
  · rw [List.filter_cons_of_neg (by simpa using hd), if_pos (by simp), if_neg hd]
end Wc

/-! set(list of ints), sorted(set) of any size. -/
namespace Wc
open PySem PySem.Spec PyProof.Rows L2
section
variable {P : Program} {w : World} {A : Around} {E : Value → Shared → Prop} {s : Shared}
theorem call_set_lstI {l : Addr} {items : Array Value} (ns : List Int) {Q : Value → Shared → Prop} (hh : A.handled = none) (hl : s.heap.IsList l items) (hit : IntsAre items.toList ns) (hb : ns.length + 1 < scanBound)
    (h : ∀ (h' : Heap) (tk c : Nat), SetR w h' s.heap.objs.size (fun j => decide (j ∈ ns)) c → c ≤ ns.length → (∀ b o, s.heap.get? b = some o → h'.get? b = some o) → Q (.ref s.heap.objs.size) { s with heap := h', toks := tk }) :
    wpAny (model P w) A (call (.type "set") [.ref l]) Q E s := by
  have hisz : items.size = ns.length := by
    have q := IntsAre.length hit
    rw [Array.length_toList] at q
    exact q
  obtain ⟨c, tl, hmro⟩ := F.called_set.mro
  have hmade := F.called_set.made
  have hsub := F.called_set.sub
  refine wpAny_call (codeAny_of_tree ?_)
  show wpAny _ _ (callAny (.type "set") _) _ _ _
  refine wpAny_pure ⟨Code.quiet_builtin _ (by decide +kernel), codeAny_builtin F.entry_type_call ?_⟩
  rw [Around.under_plain (weight_type_call_type "set" [.ref l] []) rfl]
  have h1 := F.called_set.notType
  have h2 := F.called_set.canCreate
  have hct := F.typeCall_set_1 (.ref l)
  repeat (any_goals (first | assumption | wp_step))

  refine codeAny_mono (code_set_led1 (.ref l) (E := E) (Q₁ := fun obj s₁ => obj = .ref s.heap.objs.size ∧ s₁ = { s with heap := s.heap.push { cls := .type "set", dict := none, data := .set #[] 0 (.fresh 0 0 (!w.params.followText "set-order")) } }) ⟨rfl, rfl⟩) fun r s₁ hr => ?_
  cases r with
  | error e => exact hr
  | ok fl =>
    cases fl with
    | ret obj =>
      obtain ⟨rfl, rfl⟩ := hr
      have hS : (s.heap.push { cls := .type "set", dict := none, data := .set #[] 0 (.fresh 0 0 (!w.params.followText "set-order")) }).get? s.heap.objs.size = some { cls := .type "set", dict := none, data := .set #[] 0 (.fresh 0 0 (!w.params.followText "set-order")) } := Heap.get?_push_size _ rfl
      have hT : Shared.TypeIs { s with heap := s.heap.push { cls := .type "set", dict := none, data := .set #[] 0 (.fresh 0 0 (!w.params.followText "set-order")) } } (.ref s.heap.objs.size) "set" := ⟨_, hS, rfl⟩
      have hli := F.called_set.init.lookup
      have hbi := F.called_set.init.bind (.ref s.heap.objs.size)
      repeat (any_goals (first | assumption | wp_step))

      refine codeAny_mono (codeAny_call_builtin (R := wants (fun r s₂ => r = .none ∧ ∃ h' tk c, s₂ = { s with heap := h', toks := tk } ∧ SetR w h' s.heap.objs.size (fun j => decide (j ∈ ns)) c ∧ c ≤ ns.length ∧
          (∀ b o, s.heap.get? b = some o → h'.get? b = some o)) E) F.called_set.init.plain F.entry_set_init (check_set_init_1 hT ?_)) fun r₂ s₂ hr₂ => ?_
      · obtain ⟨ol, hol, hcl, nl, hdl⟩ := hl
        obtain ⟨ocls, odict, odata, oslots⟩ := ol
        simp only at hcl hdl
        subst hcl; subst hdl
        have hol' : (s.heap.push { cls := .type "set", dict := none, data := .set #[] 0 (.fresh 0 0 (!w.params.followText "set-order")) }).get? l = some { cls := .type "list", dict := odict, data := .seq items nl, slots := oslots } := Heap.get?_push_of_some _ hol
        have hsls := F.sub_list_set
        have hslf := F.sub_list_frozenset
        have hne : (Value.type "list" == Value.type "dict") = false := by decide
        have hl1 : (s.heap.push { cls := .type "set", dict := none, data := .set #[] 0 (.fresh 0 0 (!w.params.followText "set-order")) }).IsList l items := ⟨_, hol', rfl, nl, rfl⟩
        unfold Builtin.«set.__init__» noKeywords Builtin.Frozenset.updateFrom
        generalize hPI : pyIter = PI
        wp_walk
        subst hPI

        refine wpAny_pyIter_list hl1 ?_
        refine wpAny_bind (wpAny_runValue ?_)
        have hlS : l < s.heap.objs.size := Heap.lt_size hol
        have hh3 : A.in1.in1.in1.handled = none := by simp [hh]
        have hz1 : (s.heap.push { cls := .type "set", dict := none, data := .set #[] 0 (.fresh 0 0 (!w.params.followText "set-order")) }).objs.size = s.heap.objs.size + 1 := Heap.size_push ..
        have hneI : l ≠ (s.heap.push { cls := .type "set", dict := none, data := .set #[] 0 (.fresh 0 0 (!w.params.followText "set-order")) }).objs.size := by
          rw [Heap.size_push]; exact Nat.ne_of_lt (Nat.lt_succ_of_lt hlS)
        have hSf : s.heap.objs.size ∉ [(s.heap.push { cls := .type "set", dict := none, data := .set #[] 0 (.fresh 0 0 (!w.params.followText "set-order")) }).objs.size, l] := by
          rw [Heap.size_push]; simp only [List.mem_cons, List.mem_singleton, List.not_mem_nil, or_false, not_or]
          exact ⟨Nat.ne_of_lt (Nat.lt_succ_self _), Nat.ne_of_gt hlS⟩
        have hval : ∀ (i : Nat) (v : Value), items[i]? = some v → ∃ k t, ns[i]? = some k ∧ v = .int k t := fun i v hv => by
          have hi : i < ns.length := by rw [← hisz]; exact (Array.getElem?_eq_some_iff.mp hv).1
          obtain ⟨t, e⟩ := PyProof.Rows.IntsAre.int_at hit i v (by rw [Array.getElem?_toList]; exact hv)
          refine ⟨ns[i], t, List.getElem?_eq_getElem hi, ?_⟩
          rw [e, List.getD_eq_getElem?_getD, List.getElem?_eq_getElem hi] <;> rfl
        refine set_update_ints ((Walks.list hh3 _ l hneI items).toS) s.heap.objs.size
          hSf ns hisz hb hval (items.size - 0) 0 _ (by omega) (Nat.zero_le _)
          ⟨⟨_, Heap.get?_push_size _ rfl, rfl, rfl⟩, (hl1.push _)⟩ ?hS0 ?hR
        case hS0 =>
          have hget : ((s.heap.push { cls := .type "set", dict := none, data := .set #[] 0 (.fresh 0 0 (!w.params.followText "set-order")) }).push { cls := .type "list_iterator", data := .fields #[.ref l, .int 0 0] }).get? s.heap.objs.size
              = some { cls := .type "set", dict := none, data := .set #[] 0 (.fresh 0 0 (!w.params.followText "set-order")) } := Heap.get?_push_of_some _ hS
          exact ⟨0, Nat.le_refl 0, setR_new_at hget⟩
        case hR =>
          intro s' c' hm hc' hS'
          obtain ⟨h', g2, d', tk', os'⟩ := s'
          have eg : g2 = s.gens := hm.gens
          have ed : d' = s.drawn := hm.drawn
          have eo : os' = s.os := hm.os
          subst eg; subst ed; subst eo
          show wpAny _ _ _ _ _ _
          refine wpAny_pure ?_
          show wpAny _ _ (ret Value.none) _ _ _
          rw [hisz] at hc'
          refine wpAny_pure ⟨rfl, h', tk', c', rfl, hS', hc', fun b o e => ?_⟩
          have hb0 : b < s.heap.objs.size := Heap.lt_size e
          have hb1 : b ≠ s.heap.objs.size := Nat.ne_of_lt hb0
          have hb2 : b ≠ (s.heap.push { cls := .type "set", dict := none, data := .set #[] 0 (.fresh 0 0 (!w.params.followText "set-order")) }).objs.size := by
            rw [Heap.size_push]; exact Nat.ne_of_lt (Nat.lt_succ_of_lt hb0)
          exact hm.heap b o (by simp only [List.mem_cons, List.mem_singleton, List.not_mem_nil, or_false, not_or]; exact ⟨hb1, hb2⟩) (Heap.get?_push_of_some _ (Heap.get?_push_of_some _ e))

      · cases r₂ with
        | error e => exact hr₂
        | ok fl₂ =>
          cases fl₂ with
          | ret r =>
            obtain ⟨rfl, h', tk, c', rfl, hS', hc', hk'⟩ := hr₂
            repeat (any_goals (first | assumption | wp_step))
            exact h _ _ _ hS' hc' hk'
          | _ => exact hr₂.elim
    | _ => exact hr.elim

theorem sorted_setW {S : Int → Bool} {n : Nat} {Q : Value → Shared → Prop} (R : SetR w s.heap a S n) (hh : A.handled = none) (h64 : n ≤ sizeLine)
    (hQ : ∀ s' p (out : Array Value) (c : Nat) (ns : List Int), (∀ b o, s.heap.get? b = some o → s'.heap.get? b = some o) → s'.gens = s.gens → s'.os = s.os → s.heap.objs.size ≤ p →
      s'.heap.get? p = some (seqObj "list" out c) → IntsAre out.toList ns → ns.Pairwise (· < ·) → (∀ k, k ∈ ns ↔ S k = true) → ns.length = n → Q (.ref p) s') :
    wpAny (model P w) A (call (.builtin "sorted") [.ref a]) Q E s := by
  obtain ⟨o, es, ep, t, ho, hex, hd, g, nd, hm, hb, hf, hn, hr, hl⟩ := R
  refine Calls.call_function_entry kind_sorted plain_sorted entry_sorted (args_sorted1 _) ?_
  unfold Builtin.«sorted»
  refine wpAny_bind (m := checkCount "sorted" 1 1 _) (wpAny_pure ?_)
  refine wpAny_bind (collect_set (A := A.in1) hh ⟨o, ho, hex.1, hd⟩ hf hb hr hl fun s1 vs k1 hz g1 o1 pm => ?_)
  have hvl : vs.length = n := by rw [pm.length_eq, List.length_map, Array.length_toList]; exact hn
  have hI : IntsAre vs (vs.map Builtin.Re.reRawOf) := ints_of vs fun v hv => by
    obtain ⟨e, he, q⟩ := List.mem_map.mp (pm.mem_iff.mp hv)
    obtain ⟨k, tk, h1, _⟩ := g e he
    exact ⟨k, tk, by rw [← q]; exact h1⟩
  have pk : (vs.map Builtin.Re.reRawOf).Perm (es.toList.map keyOf) := by
    have q := pm.map Builtin.Re.reRawOf
    rw [List.map_map] at q
    exact q
  refine wpAny_bind (wpAny_newList ?_ (by rw [hvl]; exact h64))
  have hoL : (s1.heap.push (seqObj "list" vs.toArray 0)).get? s1.heap.objs.size = some (seqObj "list" vs.toArray 0) := Heap.get?_push_size _ rfl
  refine wpAny_bind (wpAny_holding (wpAny_call_entry slot_list_sort ⟨_, hoL, rfl⟩ entry_list_sort (SrtO.list_sort_ord SrtO.swo_int hoL (by rw [hvl]; exact h64) (fun h2 => SrtO.ints_sortable hI h2) fun out h1 h2 => ⟨_, rfl, ?_⟩) (args_list_sort _)))
  obtain ⟨a1, a2, a3⟩ := SrtO.ints_out hI h1 h2
  obtain ⟨c, hc⟩ := sortedHeap_at (vs := vs) (out := out.toArray) hoL
  have pn : (out.map SrtO.iv).Perm (es.toList.map keyOf) := a2.trans pk
  refine wpAny_pure ⟨_, rfl, hQ _ s1.heap.objs.size out.toArray c (out.map SrtO.iv) (fun b u e => ?_) g1 o1 hz hc a1 (lt_of_le_nodup _ a3 (pn.nodup_iff.mpr nd)) (fun k => by rw [pn.mem_iff, ← hm k]) ?_⟩
  · have q := k1 b u e
    have hlt := Heap.lt_size q
    show (sortedHeap (s1.heap.push (seqObj "list" vs.toArray 0)) s1.heap.objs.size vs out.toArray).get? b = some u
    rw [sortedHeap_old (Nat.ne_of_lt hlt) (by rw [size_push']; exact Nat.lt_succ_of_lt hlt)]
    exact Heap.get?_push_of_some _ q
  · rw [pn.length_eq, List.length_map, Array.length_toList]; exact hn
end
/-- set(xs), ints -/
def rSetLI (K : PySem.W.Frag) (w : World) : List V → Hp → VK → Prop := fun vs H Q => ∃ (a : Addr) (ns : List Int), vs = [V.ref a] ∧ SqL K H a (iV ns) ∧ ns.length ≤ 4000 ∧
  ∀ (p : Addr) (S : Int → Bool) (n : Nat), (∀ k, S k = decide (k ∈ ns)) → n ≤ 4000 → H p = none → Q (.ref p) (upd H p (SetO w p S n))
theorem cr_setLI {X : Cx} {K : PySem.W.Frag} (e : X.K = K) (hc : X.calm = true) : CallR X (.type "set") (rSetLI K X.w) := by
  subst e
  intro pins s σ H vs us Q I r h
  obtain ⟨a, ns, rfl, hs, hn, q⟩ := h
  obtain ⟨its, rv, hl, hz⟩ := I.list hs
  rw [Vals.ref1 r]
  have hi := rv.ints
  refine call_set_lstI ns (I.ok.hd hc) (show s.heap.IsList a its.toArray from hl.isList) (by simpa using hi) (by unfold scanBound; omega) fun h' tk c R hcn k => ?_
  exact ⟨.ref _, upd H s.heap.objs.size (SetO X.w s.heap.objs.size (fun j => decide (j ∈ ns)) c), I.laid (t' := tk) k (Nat.le_refl _) (setO_new R), rfl, q _ _ _ (fun _ => rfl) (by omega) (I.hok.fresh (Nat.le_refl _))⟩
/-- sorted(found), any number of members -/
def rSortedSetW (w : World) : List V → Hp → VK → Prop := fun vs H Q => ∃ (a : Addr) (S : Int → Bool) (n : Nat), vs = [V.ref a] ∧ H a = some (SetO w a S n) ∧ n ≤ 4000 ∧
  ∀ (ns : List Int) (p : Addr), ns.Pairwise (· < ·) → (∀ k : Int, k ∈ ns ↔ S k = true) → ns.length = n → H p = none → Q (.ref p) (upd H p (.lst (iV ns)))
theorem cr_sortedSetW {X : Cx} (hc : X.calm = true) : CallR X (.builtin "sorted") (rSortedSetW X.w) := by
  intro pins s σ H vs us Q I r h
  obtain ⟨a, S, n, rfl, ha, h64, q⟩ := h
  have R := setO_get I ha
  rw [Vals.ref1 r]
  refine sorted_setW R (I.ok.hd hc) (by have hz : sizeLine = 16777216 := by decide
                                        omega) fun s' p out c ns k g o hp hg hi hs hm hl => ?_
  have hlen : (ns.map V.int).length ≤ sizeLine := by rw [List.length_map, hl, sizeLine_eq]; omega
  have hn : H p = none := I.hok.fresh hp
  have J : Inv X pins σ (upd H p (.lst (ns.map V.int))) { s with heap := s'.heap, gens := s'.gens, drawn := s'.drawn, toks := s'.toks } :=
    I.call (ch := []) (Un.laid k hp hn) (I.hok.laid k hp ⟨hlen, out.toList, c, vals_of_ints hi, hg⟩) (by rw [g]; exact I.bare) (fun _ z => nomatch z)
  have e : s' = { s with heap := s'.heap, gens := s'.gens, drawn := s'.drawn, toks := s'.toks } := by
    cases s'
    cases s
    cases o
    rfl
  rw [e]
  exact ⟨.ref p, _, J, rfl, q ns p hs hm hl hn⟩
end Wc

/-! rows compared by <=, text.index of a sign, the first text's first space. -/
namespace Wc
open PySem PySem.Spec PyProof.Rows L2
def rLeR (K : PySem.W.Frag) : R2 := fun x y H Q => ∃ xs ys : List Int, Dp K H x (rowD xs) ∧ Dp K H y (rowD ys) ∧ Q (.bl (!ltI ys xs)) H
theorem op_leRow {X : Cx} (hu : X.A.units + 65 < cLine) : OpR X (compareOp .LtE) (rLeR X.K) := by
  intro pins s σ H x y v u Q I rx ry h
  obtain ⟨xs, ys, hx, hy, q⟩ := h
  obtain ⟨as, ra⟩ := Dp.reads I _ _ _ hx rx
  obtain ⟨bs, rb⟩ := Dp.reads I _ _ _ hy ry
  refine PySem.W.le_data ra rb (show PySem.W.alike (.list _) (.list _) = true by simp only [PySem.W.alike, alikeAll_ints]) (fun h => by cases h) ?_ ?_
  · show X.A.units + min (PyData.depth (.list _)) (PyData.depth (.list _)) < _
    rw [PyData.depth, PyData.depth, PySem.W.depth_ints, PySem.W.depth_ints]
    omega
  · rw [dataLt_rows]
    exact ⟨.bl _, H, I, rfl, q⟩
theorem occ_at {x : Str} {c : Nat} (h : c ∈ x.cps.toList) : ∃ i rest, Builtin.Str.occurrences x ⟨#[c]⟩ 0 x.length 1 = i :: rest ∧ x.cps.toList[i]? = some c ∧ ∀ m : Nat, m < i → x.cps.toList[m]? ≠ some c := by
  rw [PySem.StrLaws.occ_eq]
  rcases PySem.StrLaws.occ_first x ⟨#[c]⟩ x.length 1 (Nat.le_refl _) (List.range' 0 (x.length + 1 - 0)) 0 (fun _ _ => Nat.zero_le _) with ⟨_, h2⟩ | ⟨pre, a, post, e, h1, h2, h3⟩
  · obtain ⟨j, hj⟩ := List.mem_iff_getElem?.mp h
    have h4 := (PySem.StrLaws.subAt_one x c j).mpr hj
    exact (h2 j (List.mem_range'_1.mpr ⟨Nat.zero_le _, by have := h4.1; omega⟩) h4).elim
  · refine ⟨a, ((forIn (List.range' 0 (x.length + 1 - 0)) ((#[] : Array Nat), 0) (PySem.StrLaws.occBody x ⟨#[c]⟩ x.length 1)).run.fst.toList).tail, ?_, (PySem.StrLaws.subAt_one x c a).mp h2, fun m hm hc => ?_⟩
    · have h4 : ((forIn (List.range' 0 (x.length + 1 - 0)) ((#[] : Array Nat), 0) (PySem.StrLaws.occBody x ⟨#[c]⟩ x.length 1)).run.fst.toList)[0]? = some a := by
        rw [Array.getElem?_toList]
        exact h1
      generalize ((forIn (List.range' 0 (x.length + 1 - 0)) ((#[] : Array Nat), 0) (PySem.StrLaws.occBody x ⟨#[c]⟩ x.length 1)).run.fst.toList) = L at h4
      cases L with
      | nil => cases h4
      | cons y r =>
        have := Option.some.inj h4
        rw [show y = a from this]
        rfl
    · have ep : pre.length = a := by
        have h5 : (List.range' 0 (x.length + 1 - 0))[pre.length]? = some a := by rw [e, List.getElem?_append_right (Nat.le_refl _), Nat.sub_self]; rfl
        rw [List.getElem?_range'] at h5
        · have := Option.some.inj h5
          omega
        · have h6 := congrArg List.length e
          rw [List.length_append, List.length_cons, List.length_range'] at h6
          omega
      have hmem : m ∈ pre := by
        have h5 : (List.range' 0 (x.length + 1 - 0))[m]? = pre[m]? := by rw [e, List.getElem?_append_left (by omega)]
        rw [List.getElem?_range' (by
          have h6 := congrArg List.length e
          rw [List.length_append, List.length_cons, List.length_range'] at h6
          omega)] at h5
        have := List.mem_of_getElem? h5.symm
        rw [show 0 + 1 * m = m by omega] at this
        exact this
      exact h3 m hmem ((PySem.StrLaws.subAt_one x c m).mpr hc)
/-- the first free place is a space of the text with number 0 -/
theorem walk_first : ∀ {b : Bool} {cs : List Nat} (i : Int), PatOk cs → (b = true → ∃ r, cs = 120 :: r) → ∀ j : Nat, cs[j]? = some 63 → (∀ m : Nat, m < j → cs[m]? ≠ some 63) → i + j ∈ walkC b cs i 0
  | _, [], _, _, _, j, h, _ => by cases h
  | true, c :: cs, i, hp, hb, j, h, hm => by
    obtain ⟨r, e⟩ := hb rfl
    have e1 : c = 120 := (List.cons.inj e).1
    cases j with
    | zero =>
      rw [e1] at h
      cases h
    | succ j =>
      have := walk_first (b := false) (cs := cs) (i + 1) hp.2.2.2 (fun h => by cases h) j h (fun m hm2 => hm (m + 1) (by omega))
      show i + ((j + 1 : Nat) : Int) ∈ walkC false cs (i + 1) 0
      rw [show i + ((j + 1 : Nat) : Int) = i + 1 + (j : Int) by omega]
      exact this
  | false, c :: cs, i, hp, hb, j, h, hm => by
    have hw : ¬ (c = 63 ∧ ways (cs.drop 1) ≤ 0) := fun hh => by
      have := ways_pos (cs.drop 1)
      omega
    rcases hp.1 with hc | hc | hc
    · have hj : j = 0 := by
        cases j with
        | zero => rfl
        | succ j => exact (hm 0 (by omega) (by rw [hc]; rfl)).elim
      subst hj
      unfold walkC
      rw [if_neg hw, if_pos (.inl hc)]
      show i + (0 : Int) ∈ _
      rw [Int.add_zero]
      exact List.mem_cons_self ..
    · cases j with
      | zero =>
        rw [hc] at h
        cases h
      | succ j =>
        have := walk_first (b := true) (cs := cs) (i + 1) hp.2.2.2 (fun _ => hp.2.2.1 hc) j h (fun m hm2 => hm (m + 1) (by omega))
        unfold walkC
        rw [if_neg hw, if_pos (.inr hc)]
        rw [show i + ((j + 1 : Nat) : Int) = i + 1 + (j : Int) by omega]
        exact List.mem_cons_of_mem _ this
    · cases j with
      | zero =>
        rw [hc] at h
        cases h
      | succ j =>
        have := walk_first (b := false) (cs := cs) (i + 1) hp.2.2.2 (fun h => by cases h) j h (fun m hm2 => hm (m + 1) (by omega))
        unfold walkC
        rw [if_neg hw, if_neg (by omega)]
        rw [show i + ((j + 1 : Nat) : Int) = i + 1 + (j : Int) by omega]
        exact this
theorem first_free {n : Int} {ss : List Scr} (h : Scrs n ss) (hc : NoClash ss) {j : Nat} (hj : (patC n ss)[j]? = some 63) (hm : ∀ m : Nat, m < j → (patC n ss)[m]? ≠ some 63) : (j : Int) ∈ (endsOf (nthOf n ss 0)).dropLast := by
  obtain ⟨_, _, e, _⟩ := nth_fits h hc (k := 0) (by have := count_small h; omega)
  rw [e, List.dropLast_concat]
  have := walk_first (b := false) (0 : Int) (patOk_pat h hc) (fun h => by cases h) j hj hm
  rw [Int.zero_add] at this
  exact this
theorem cr_setLIw {X : Cx} {K : PySem.W.Frag} {w : World} (e : X.K = K) (ew : X.w = w) (hc : X.calm = true) : CallR X (.type "set") (rSetLI K w) := by
  subst ew
  exact cr_setLI e hc
theorem cr_sortedSetWw {X : Cx} {w : World} (ew : X.w = w) (hc : X.calm = true) : CallR X (.builtin "sorted") (rSortedSetW w) := by
  subst ew
  exact cr_sortedSetW hc
end Wc

/-! Texts grouped by a wrap: a dict keyed by rows. -/
namespace Wc
open PySem PySem.Spec PyProof.Rows L2
def rowK (r : List Int) : List Key := r.map Sum.inl
theorem rowK_inj : ∀ {a b : List Int}, rowK a = rowK b → a = b
  | [], [], _ => rfl
  | [], _ :: _, h => by cases h
  | _ :: _, [], h => by cases h
  | x :: a, y :: b, h => by
    obtain ⟨h1, h2⟩ := List.cons.inj h
    rw [Sum.inl.inj h1, rowK_inj h2]
theorem rowK_kV (r : List Int) : (rowK r).map kV = iV r := by
  unfold rowK
  rw [List.map_map]
  rfl
def grpOf (wd : Int) (done : List (List Int)) (r : List Int) : List (List Int) := done.filter fun ws => decide (lawWrap ws wd = r)
theorem grp_snoc {wd : Int} {done : List (List Int)} {ws r : List Int} : grpOf wd (done ++ [ws]) r = if lawWrap ws wd = r then grpOf wd done r ++ [ws] else grpOf wd done r := by
  unfold grpOf
  rw [List.filter_append]
  by_cases c : lawWrap ws wd = r
  · rw [if_pos c, List.filter_cons_of_pos (by exact decide_eq_true c)]
    rfl
  · rw [if_neg c, List.filter_cons_of_neg (by simpa using c), List.filter_nil, List.append_nil]
theorem putK_keysG {κ : Type} [DecidableEq κ] (kvs : List (κ × V)) (k : κ) (v : V) : (putK kvs k v).map (·.1) = if k ∈ kvs.map (·.1) then kvs.map (·.1) else kvs.map (·.1) ++ [k] := by
  have e : (k ∈ kvs.map (·.1)) ↔ (kvs.any fun kv => decide (kv.1 = k)) = true := by
    rw [List.any_eq_true, List.mem_map]
    exact ⟨fun ⟨p, h1, h2⟩ => ⟨p, h1, decide_eq_true h2⟩, fun ⟨p, h1, h2⟩ => ⟨p, h1, of_decide_eq_true h2⟩⟩
  unfold putK
  by_cases c : (kvs.any fun kv => decide (kv.1 = k)) = true
  · rw [if_pos c, if_pos (e.mpr c), List.map_map]
    refine List.map_congr_left fun p _ => ?_
    show (if p.1 = k then _ else p).1 = p.1
    split <;> rfl
  · rw [if_neg c, if_neg (fun h => c (e.mp h)), List.map_append]
    rfl
theorem valV_iff {κ : Type} [DecidableEq κ] {kvs : List (κ × V)} {k : κ} : valV kvs k = none ↔ k ∉ kvs.map (·.1) := by
  have h := valV_any k kvs
  have e : (k ∈ kvs.map (·.1)) ↔ (kvs.any fun kv => decide (kv.1 = k)) = true := by
    rw [List.any_eq_true, List.mem_map]
    exact ⟨fun ⟨p, h1, h2⟩ => ⟨p, h1, decide_eq_true h2⟩, fun ⟨p, h1, h2⟩ => ⟨p, h1, of_decide_eq_true h2⟩⟩
  rw [e, h]
  cases valV kvs k <;> simp
/-- the texts by their wraps, so far -/
def Parts (S : List Addr) (K : PySem.W.Frag) (H : Hp) (wd : Int) (kvs : List (List Key × V)) (done : List (List Int)) : Prop :=
  ∃ rows : List (List Int), kvs.map (·.1) = rows.map rowK ∧ rows.Nodup ∧ (∀ r, r ∈ rows ↔ ∃ ws ∈ done, lawWrap ws wd = r) ∧
    ∀ r, r ∈ rows → ∃ a xs, valV kvs (rowK r) = some (.ref a) ∧ a ∉ S ∧ H a = some (.lst xs) ∧ DsAll S K H xs ((grpOf wd done r).map rowD)
theorem Parts.nil {S : List Addr} {K : PySem.W.Frag} {H : Hp} {wd : Int} : Parts S K H wd [] [] := ⟨[], rfl, .nil, fun r => by simp, fun r h => by cases h⟩
theorem Parts.on {S : List Addr} {K : PySem.W.Frag} {H H' : Hp} {wd : Int} {kvs : List (List Key × V)} {done : List (List Int)} (h : Parts S K H wd kvs done) (s : SameS S H H') : Parts S K H' wd kvs done := by
  obtain ⟨rows, h1, h2, h3, h4⟩ := h
  refine ⟨rows, h1, h2, h3, fun r hr => ?_⟩
  obtain ⟨a, xs, g1, g2, g3, g4⟩ := h4 r hr
  exact ⟨a, xs, g1, g2, s.at g2 g3, g4.on s⟩
theorem Parts.mem {rows : List (List Int)} {kvs : List (List Key × V)} (h1 : kvs.map (·.1) = rows.map rowK) (r : List Int) : rowK r ∈ kvs.map (·.1) ↔ r ∈ rows := by
  rw [h1, List.mem_map]
  exact ⟨fun ⟨x, hx, e⟩ => by rw [← rowK_inj e]; exact hx, fun h => ⟨r, h, rfl⟩⟩
/-- what stands there for a row: its texts, or nothing -/
theorem Parts.get {S : List Addr} {K : PySem.W.Frag} {H : Hp} {wd : Int} {kvs : List (List Key × V)} {done : List (List Int)} (h : Parts S K H wd kvs done) (r : List Int) :
    ((∃ ws ∈ done, lawWrap ws wd = r) ∧ ∃ a xs, valV kvs (rowK r) = some (.ref a) ∧ a ∉ S ∧ H a = some (.lst xs) ∧ DsAll S K H xs ((grpOf wd done r).map rowD)) ∨
    ((¬ ∃ ws ∈ done, lawWrap ws wd = r) ∧ valV kvs (rowK r) = none ∧ grpOf wd done r = []) := by
  obtain ⟨rows, h1, h2, h3, h4⟩ := h
  by_cases c : r ∈ rows
  · exact .inl ⟨(h3 r).mp c, h4 r c⟩
  · refine .inr ⟨fun hh => c ((h3 r).mpr hh), valV_iff.mpr fun hm => c ((Parts.mem h1 r).mp hm), List.filter_eq_nil_iff.mpr fun ws hw hd => c ((h3 r).mpr ⟨ws, hw, of_decide_eq_true hd⟩)⟩
theorem Parts.put {S : List Addr} {K : PySem.W.Frag} {H : Hp} {wd : Int} {kvs : List (List Key × V)} {done : List (List Int)} {ws : List Int} {a : Addr} {xs : List V} (h : Parts S K H wd kvs done) (hn : a ∉ S) (ha : H a = some (.lst xs))
    (hx : DsAll S K H xs ((grpOf wd done (lawWrap ws wd) ++ [ws]).map rowD)) : Parts S K H wd (putK kvs (rowK (lawWrap ws wd)) (.ref a)) (done ++ [ws]) := by
  obtain ⟨rows, h1, h2, h3, h4⟩ := h
  have hm3 : ∀ r, (∃ us ∈ done ++ [ws], lawWrap us wd = r) ↔ (r ∈ rows ∨ r = lawWrap ws wd) := fun r => by
    rw [h3 r]
    constructor
    · rintro ⟨us, hu, e⟩
      rcases List.mem_append.mp hu with hu | hu
      · exact .inl ⟨us, hu, e⟩
      · rw [List.mem_singleton.mp hu] at e
        exact .inr e.symm
    · rintro (⟨us, hu, e⟩ | e)
      · exact ⟨us, List.mem_append_left _ hu, e⟩
      · exact ⟨ws, List.mem_append_right _ (List.mem_singleton.mpr rfl), e.symm⟩
  have hv : ∀ r, (r ∈ rows ∨ r = lawWrap ws wd) → ∃ a' xs', valV (putK kvs (rowK (lawWrap ws wd)) (.ref a)) (rowK r) = some (.ref a') ∧ a' ∉ S ∧ H a' = some (.lst xs') ∧ DsAll S K H xs' ((grpOf wd (done ++ [ws]) r).map rowD) := fun r hr => by
    rw [valV_put]
    by_cases c : r = lawWrap ws wd
    · subst c
      rw [if_pos rfl, grp_snoc, if_pos rfl]
      exact ⟨a, xs, rfl, hn, ha, hx⟩
    · rw [if_neg (fun e => c (rowK_inj e)), grp_snoc, if_neg (fun e => c e.symm)]
      exact h4 r (hr.resolve_right c)
  have ek := putK_keysG kvs (rowK (lawWrap ws wd)) (V.ref a)
  by_cases c : lawWrap ws wd ∈ rows
  · rw [if_pos ((Parts.mem h1 _).mpr c)] at ek
    refine ⟨rows, by rw [ek, h1], h2, fun r => ?_, fun r hr => hv r (.inl hr)⟩
    rw [hm3]
    exact ⟨.inl, fun hh => hh.elim id fun e => e ▸ c⟩
  · rw [if_neg (fun hm => c ((Parts.mem h1 _).mp hm))] at ek
    refine ⟨rows ++ [lawWrap ws wd], by rw [ek, h1, List.map_append]; rfl, ?_, fun r => ?_, fun r hr => hv r (by simpa using hr)⟩
    · refine List.nodup_append.mpr ⟨h2, by simp, fun x hx' y hy e => ?_⟩
      rw [List.mem_singleton.mp hy] at e
      exact c (e ▸ hx')
    · rw [hm3]
      simp
/-- rows that ascend strictly and have the same members are the same -/
theorem rows_ext : ∀ {xs ys : List (List Int)}, xs.Pairwise (fun a b => ltI a b = true) → ys.Pairwise (fun a b => ltI a b = true) → (∀ z, z ∈ xs ↔ z ∈ ys) → xs = ys
  | [], [], _, _, _ => rfl
  | [], y :: ys, _, _, h => by
    have := (h y).mpr (List.mem_cons_self ..)
    cases this
  | x :: xs, [], _, _, h => by
    have := (h x).mp (List.mem_cons_self ..)
    cases this
  | x :: xs, y :: ys, hx, hy, h => by
    obtain ⟨x1, x2⟩ := List.pairwise_cons.mp hx
    obtain ⟨y1, y2⟩ := List.pairwise_cons.mp hy
    have e : x = y := by
      rcases List.mem_cons.mp ((h x).mp (List.mem_cons_self ..)) with e | e
      · exact e
      · rcases List.mem_cons.mp ((h y).mpr (List.mem_cons_self ..)) with e2 | e2
        · exact e2.symm
        · have a1 := y1 x e
          have a2 := x1 y e2
          rw [ltI_asym _ _ a1] at a2
          cases a2
    subst e
    congr 1
    refine rows_ext x2 y2 fun z => ⟨fun hz => ?_, fun hz => ?_⟩
    · rcases List.mem_cons.mp ((h z).mp (List.mem_cons_of_mem _ hz)) with e | e
      · have := x1 z hz
        rw [e, ltI_irr] at this
        cases this
      · exact e
    · rcases List.mem_cons.mp ((h z).mpr (List.mem_cons_of_mem _ hz)) with e | e
      · have := y1 z hz
        rw [e, ltI_irr] at this
        cases this
      · exact e
def allNth (n : Int) (ss : List Scr) : List (List Int) := (List.range (countOf n ss)).map (nthOf n ss)
theorem allNth_asc {n : Int} {ss : List Scr} (h : Scrs n ss) (hc : NoClash ss) : (allNth n ss).Pairwise (fun a b => ltI a b = true) := by
  unfold allNth
  rw [List.pairwise_map]
  refine (List.pairwise_lt_range).imp_of_mem fun {i j} hi hj hij => ?_
  exact nth_mono h hc hij (List.mem_range.mp hj)
theorem mem_allNth {n : Int} {ss : List Scr} (h : Scrs n ss) (hc : NoClash ss) (ws : List Int) : ws ∈ allNth n ss ↔ Txt' ws ∧ total ws = n ∧ fitsOf n ss ws = true := by
  unfold allNth
  rw [List.mem_map]
  constructor
  · rintro ⟨i, hi, rfl⟩
    obtain ⟨a, b, _, d⟩ := nth_fits h hc (List.mem_range.mp hi)
    exact ⟨a, b, d⟩
  · rintro ⟨a, b, d⟩
    obtain ⟨x1, x2⟩ := nth_index h hc a b d
    exact ⟨_, List.mem_range.mpr x1, x2⟩
theorem fits_more_row {n wd : Int} {ss : List Scr} {ws r : List Int} : fitsOf n (ss ++ [(wd, r)]) ws = true ↔ fitsOf n ss ws = true ∧ lawWrap ws wd = r := by
  rw [fits_wraps, fits_wraps]
  constructor
  · rintro ⟨a, b⟩
    exact ⟨⟨a, fun s hs => b s (List.mem_append_left _ hs)⟩, b (wd, r) (List.mem_append_right _ (List.mem_singleton.mpr rfl))⟩
  · rintro ⟨⟨a, b⟩, c⟩
    refine ⟨a, fun s hs => ?_⟩
    rcases List.mem_append.mp hs with hs | hs
    · exact b s hs
    · rw [List.mem_singleton.mp hs]
      exact c
theorem grp_nth {n wd : Int} {ss : List Scr} {r : List Int} (h : Scrs n ss) (hc : NoClash ss) (h' : Scrs n (ss ++ [(wd, r)])) (hc' : NoClash (ss ++ [(wd, r)])) : allNth n (ss ++ [(wd, r)]) = grpOf wd (allNth n ss) r := by
  refine rows_ext (allNth_asc h' hc') ((allNth_asc h hc).sublist List.filter_sublist) fun z => ?_
  unfold grpOf
  rw [mem_allNth h' hc', List.mem_filter, mem_allNth h hc, fits_more_row, decide_eq_true_eq, and_assoc, and_assoc]
theorem grp_sum {wd : Int} {l : List (List Int)} : ∀ {rows : List (List Int)}, rows.Nodup → (rows.map fun r => (grpOf wd l r).length).sum = (l.filter fun ws => decide (lawWrap ws wd ∈ rows)).length
  | [], _ => by
    rw [List.map_nil, List.sum_nil, List.filter_eq_nil_iff.mpr fun ws _ h => by simp at h]
    rfl
  | r :: rows, hn => by
    obtain ⟨h1, h2⟩ := List.nodup_cons.mp hn
    rw [List.map_cons, List.sum_cons, grp_sum h2]
    clear hn h2
    unfold grpOf
    induction l with
    | nil => rfl
    | cons ws l ih =>
      by_cases c : lawWrap ws wd = r
      · rw [List.filter_cons_of_pos (by exact decide_eq_true c), List.filter_cons_of_neg (by rw [c]; simpa using h1), List.filter_cons_of_pos (by rw [c]; simp), List.length_cons, List.length_cons]
        omega
      · rw [List.filter_cons_of_neg (by simpa using c)]
        by_cases c2 : lawWrap ws wd ∈ rows
        · rw [List.filter_cons_of_pos (by exact decide_eq_true c2), List.filter_cons_of_pos (by exact decide_eq_true (List.mem_cons_of_mem _ c2)), List.length_cons, List.length_cons]
          omega
        · rw [List.filter_cons_of_neg (by simpa using c2), List.filter_cons_of_neg (by
            rw [decide_eq_true_eq, List.mem_cons]
            rintro (e | e)
            · exact c e
            · exact c2 e)]
          exact ih
theorem grp_all {wd : Int} {l rows : List (List Int)} (hn : rows.Nodup) (h : ∀ ws ∈ l, lawWrap ws wd ∈ rows) : (rows.map fun r => (grpOf wd l r).length).sum = l.length := by
  rw [grp_sum hn, List.filter_eq_self.mpr fun ws hw => decide_eq_true (h ws hw)]
theorem row_clash {n wd : Int} {ss : List Scr} {r : List Int} (h : Scrs n ss) (hc : NoClash ss) (h' : Scrs n (ss ++ [(wd, r)])) : NoClash (ss ++ [(wd, r)]) ↔ ∃ ws ∈ allNth n ss, lawWrap ws wd = r := by
  constructor
  · intro hc'
    obtain ⟨ws, a, b, d⟩ := noClash_fits h' hc'
    obtain ⟨d1, d2⟩ := fits_more_row.mp d
    exact ⟨ws, (mem_allNth h hc ws).mpr ⟨a, b, d1⟩, d2⟩
  · rintro ⟨ws, hw, e⟩
    obtain ⟨a, b, d⟩ := (mem_allNth h hc ws).mp hw
    exact fits_noClash h' a b (fits_more_row.mpr ⟨d, e⟩)
theorem kInD {X : Cx} {K : PySem.W.Frag} (e : X.K = K) (hu : X.A.units + 65 < cLine) : OpR X (compareOp .In) (rInD K) := by
  subst e
  exact op_inD hu
theorem kNotInD {X : Cx} {K : PySem.W.Frag} (e : X.K = K) (hu : X.A.units + 65 < cLine) : OpR X (compareOp .NotIn) (rNotInD K) := by
  subst e
  exact op_notInD hu
theorem len_subG {α : Type} [DecidableEq α] : ∀ {xs ys : List α}, xs.Nodup → (∀ x ∈ xs, x ∈ ys) → xs.length ≤ ys.length
  | [], _, _, _ => Nat.zero_le _
  | x :: r, ys, hn, h => by
    obtain ⟨h1, h2⟩ := List.nodup_cons.mp hn
    have hx := h x (List.mem_cons_self ..)
    have ih := len_subG (ys := ys.erase x) h2 fun y hy => (List.mem_erase_of_ne (fun e => h1 (by rw [← e]; exact hy))).mpr (h y (List.mem_cons_of_mem _ hy))
    have hl := List.length_erase_of_mem hx
    have hp := List.length_pos_of_mem hx
    rw [List.length_cons]
    omega
theorem Parts.len {S : List Addr} {K : PySem.W.Frag} {H : Hp} {wd : Int} {kvs : List (List Key × V)} {done : List (List Int)} (h : Parts S K H wd kvs done) : kvs.length ≤ done.length := by
  obtain ⟨rows, h1, h2, h3, _⟩ := h
  have e := congrArg List.length h1
  rw [List.length_map, List.length_map] at e
  have := len_subG (ys := done.map fun ws => lawWrap ws wd) h2 fun r hr => by
    obtain ⟨ws, hw, e⟩ := (h3 r).mp hr
    exact List.mem_map.mpr ⟨ws, hw, e⟩
  rw [List.length_map] at this
  omega
end Wc

/-! A token out; the groups of free places; Fibonacci numbers. -/
namespace Wc
open PySem PySem.Spec PyProof.Rows L2
section
variable {X : Cx} {rest : List Stmt} {u : TS}
/-- x = k op e: behind it a token is out -/
theorem pss_op1 {i j : Nat} {x : Str} {k : Int} {op : Operator} {r : R2} {e : Expr} {te : TE} {c1 bp pos' pos : Pos} (hN : X.N.Nodup) (hi : X.N[i]? = some x) (hx : Loc X.env.scope x) (ho : OpR X (binaryOp op) r) (he : PE X e te) (h2 : PSsT X rest u)
    (hs : swapsWith (.BinOp (.Constant (.int k) j c1) op e bp) (some (.Name x pos')) pos.line X.env = pure false := by rfl) (hf : X.fn x = true ∨ X.env.scope.names.lookup x = some .local := by first | exact .inl rfl | exact .inr rfl | assumption) :
    PSs X (.Assign [.Name x pos'] (.BinOp (.Constant (.int k) j c1) op e bp) pos :: rest) (tSeq (tAsg (tOp r (tC (.int k)) te) (gName i)) u) := by
  refine ⟨fun pins s σ H D I h => ?_⟩
  refine wpAny_execs_cons (wpAny_Assign_Name (wpAny_BinOp (wpAny_Constant_int ?_)) hs)
  have I0 : Inv X pins σ H { s with toks := s.toks + 1 } := I.tok _
  refine wpAny_mono (PySem.wpAny_toks_of (n := 1) (show 1 ≤ s.toks + 1 by omega) (he.run pins _ σ H _ I0 h)) (fun v1 s1 q => ?_) fun _ _ z => z.2
  obtain ⟨k1, y, H1, I1, r1, q1⟩ := q
  refine wpAny_mono (PySem.wpAny_toks_of (n := 1) k1 (ho pins s1 σ H1 (.int k) y _ v1 _ I1 ⟨_, rfl⟩ r1 q1)) (fun v2 s2 q => ?_) fun _ _ z => z.2
  obtain ⟨k2, w, H2, I2, r2, q2⟩ := q
  refine wpAny_mono (PySem.wpAny_toks_of (n := 1) k2 (store_ok (Q := fun _ s3 => Inv X pins (σ.set i (some w)) H2 s3) I2 hN hi hx r2 (fun _ I3 => I3) hf)) (fun _ s3 q => ?_) fun _ _ z => z.2
  exact h2 pins s3 _ H2 D q.1 q.2 q2
variable {o e : Expr} {to te : TE}
theorem pet_m1 {id : String} {name : Str} {apos pos : Pos} {r : V → List V → Hp → VK → Prop} (slot : Slot "str" name id) (ty : typeOf (.builtin id) = pure (.type "method_descriptor")) (rule : MtR X id r) (ho : PET X o to) (he : PE X e te)
    (hs : starEach [e] X.env = [(false, eval e X.env)] := by rfl) (hbase : attributeBase o name X.env (eval o X.env) = eval o X.env := by rfl) (hline : (apos.endLine == pos.line) = true := by rfl) :
    PET X (.Call (.Attribute o name apos) [e] [] pos) (tM1 r to te) := by
  intro pins s σ H Q h0 I h
  refine PySem.Call_method1 hbase hs hline (thn (ho pins s σ H _ h0 I h) fun v s1 ⟨x, H1, I1, r1, q1⟩ => ?_)
  obtain ⟨⟨a, rfl⟩, q1⟩ := q1
  obtain ⟨t, rfl⟩ := _root_.id r1
  refine ⟨"str", _, F.plainAttrs_str, slot, ty, typeIs_str _ _ _, (fun _ e => nomatch e), Calls.callWith_builtin rfl (Calls.evalArgs_plain (Calls.spliced_cons ?_))⟩
  exact thn (he.run pins s1 σ H1 _ I1 q1) fun u s2 ⟨y, H2, I2, r2, q2⟩ => Calls.spliced_nil (rule pins s2 σ H2 _ [y] _ [u] Q I2 r1 (.cons r2 .nil) q2)
theorem pet_split {apos pos : Pos} (ho : PET X o to) (he : PE X e te) (hs : starEach [e] X.env = [(false, eval e X.env)] := by rfl) (hbase : attributeBase o "split" X.env (eval o X.env) = eval o X.env := by rfl) (hline : (apos.endLine == pos.line) = true := by rfl) :
    PET X (.Call (.Attribute o "split" apos) [e] [] pos) (tM1 (fun x xs H Q => ∃ a b, x = .str a ∧ xs = [.str b] ∧ (b.length == 0) = false ∧ a.length + 2 ≤ sizeLine ∧ rNewStrs (Txt.split a b) H Q) to te) :=
  pet_m1 F.slot_str_split F.type_str_split mt_split ho he hs hbase hline
end
/-- one sign replaced by another -/
theorem replL_one {a b : Nat} : ∀ l : List Nat, PySem.StrLaws.replL [a] [b] l = l.map fun c => if c = a then b else c
  | [] => PySem.StrLaws.replL_nil
  | c :: l => by
    by_cases h : c = a
    · rw [PySem.StrLaws.replL_hit (by simp) (by rw [h]; rfl)]
      show b :: PySem.StrLaws.replL [a] [b] l = _
      rw [replL_one l, List.map_cons, if_pos h]
    · rw [PySem.StrLaws.replL_miss (by
        show ¬ [c] = [a]
        exact fun e => h (List.cons.inj e).1), replL_one l, List.map_cons, if_neg h]
def fibN : Nat → Nat
  | 0 => 0
  | 1 => 1
  | n + 2 => fibN n + fibN (n + 1)
theorem ways_free {c : Nat} {cs : List Nat} (hc : c ≠ 63) : ∀ r : Nat, ways (List.replicate r 63 ++ c :: cs) = fibN (r + 2) * ways cs
  | 0 => by
    rw [List.replicate_zero, List.nil_append, ways_cons, if_neg hc]
    show ways cs + 0 = 1 * ways cs
    omega
  | 1 => by
    show ways (63 :: c :: cs) = _
    rw [ways_cons, if_pos rfl, List.drop_succ_cons, List.drop_zero, ways_cons, if_neg hc]
    show _ = 2 * ways cs
    omega
  | r + 2 => by
    have e : List.replicate (r + 2) 63 ++ c :: cs = 63 :: (List.replicate (r + 1) 63 ++ c :: cs) := rfl
    have e2 : (List.replicate (r + 1) 63 ++ c :: cs).drop 1 = List.replicate r 63 ++ c :: cs := rfl
    rw [e, ways_cons, if_pos rfl, e2, ways_free hc (r + 1), ways_free hc r]
    have : fibN (r + 2 + 2) = fibN (r + 2) + fibN (r + 1 + 2) := rfl
    rw [this, Nat.add_mul]
    omega
theorem ways_only : ∀ r : Nat, ways (List.replicate r 63) = fibN (r + 2)
  | 0 => rfl
  | 1 => rfl
  | r + 2 => by
    have e : List.replicate (r + 2) 63 = 63 :: List.replicate (r + 1) 63 := rfl
    have e2 : (List.replicate (r + 1) 63).drop 1 = List.replicate r 63 := rfl
    rw [e, ways_cons, if_pos rfl, e2, ways_only (r + 1), ways_only r]
    have : fibN (r + 2 + 2) = fibN (r + 2) + fibN (r + 1 + 2) := rfl
    rw [this]
    omega
def prodF (gs : List (List Nat)) : Nat := (gs.map fun g => fibN (g.length + 2)).foldl (· * ·) 1
theorem foldl_mul (ns : List Nat) : ∀ a : Nat, ns.foldl (· * ·) a = a * ns.foldl (· * ·) 1 := by
  induction ns with
  | nil =>
    intro a
    exact (Nat.mul_one a).symm
  | cons n ns ih =>
    intro a
    show ns.foldl (· * ·) (a * n) = a * ns.foldl (· * ·) (1 * n)
    rw [ih (a * n), ih (1 * n), Nat.one_mul, Nat.mul_assoc]
theorem prodF_cons (g : List Nat) (gs : List (List Nat)) : prodF (g :: gs) = fibN (g.length + 2) * prodF gs := by
  unfold prodF
  rw [List.map_cons, List.foldl_cons, foldl_mul, Nat.one_mul]
/-- the groups of free places -/
theorem prod_ways : ∀ (p : List Nat) (r : Nat), (∀ c ∈ p, c = 63 ∨ c = 95 ∨ c = 120) → prodF (TL.spl [120] 0 (List.replicate r 63) (p.map fun c => if c = 95 then 120 else c)) = ways (List.replicate r 63 ++ p)
  | [], r, _ => by
    rw [List.map_nil, List.append_nil, ways_only]
    unfold TL.spl
    rw [prodF_cons, List.length_replicate]
    show fibN (r + 2) * 1 = _
    rw [Nat.mul_one]
  | c :: p, r, h => by
    have hp := fun x hx => h x (List.mem_cons_of_mem _ hx)
    by_cases h63 : c = 63
    · subst h63
      rw [List.map_cons, if_neg (by decide)]
      have e : TL.spl [120] 0 (List.replicate r 63) (63 :: p.map fun c => if c = 95 then 120 else c) = TL.spl [120] 0 (List.replicate r 63 ++ [63]) (p.map fun c => if c = 95 then 120 else c) := by
        rw [TL.spl, if_neg (by simp [TL.pre])]
      have e2 : List.replicate r 63 ++ [63] = List.replicate (r + 1) 63 := by rw [List.replicate_succ']
      have e3 : List.replicate r 63 ++ 63 :: p = List.replicate (r + 1) 63 ++ p := by rw [← e2, List.append_assoc]; rfl
      rw [e, e2, e3]
      exact prod_ways p (r + 1) hp
    · have hc : (if c = 95 then 120 else c) = 120 := by
        rcases h c (List.mem_cons_self ..) with e | e | e
        · exact (h63 e).elim
        · rw [if_pos e]
        · rw [e]
          rfl
      rw [List.map_cons, hc]
      have e : TL.spl [120] 0 (List.replicate r 63) (120 :: p.map fun c => if c = 95 then 120 else c) = List.replicate r 63 :: TL.spl [120] 0 [] (p.map fun c => if c = 95 then 120 else c) := by
        rw [TL.spl, if_pos (by simp [TL.pre])]
        rfl
      rw [e, prodF_cons, List.length_replicate, ways_free h63 r]
      have := prod_ways p 0 hp
      rw [List.replicate_zero, List.nil_append] at this
      rw [this]
end Wc

/-! Albums on the heap. -/
namespace Wc
open PySem PySem.Spec PyProof.Rows L2
theorem al_1 : ¬ (("characters" : Str) = "screens") := by decide +kernel
theorem al_2 : ¬ (("characters" : Str) = "operations") := by decide +kernel
theorem al_3 : ¬ (("characters" : Str) = "past") := by decide +kernel
theorem al_4 : ¬ (("screens" : Str) = "operations") := by decide +kernel
theorem al_5 : ¬ (("screens" : Str) = "past") := by decide +kernel
theorem al_6 : ¬ (("operations" : Str) = "past") := by decide +kernel
def albF (n : Int) (sc op pa : Addr) : List (Str × V) := [("characters", .int n), ("screens", .ref sc), ("operations", .ref op), ("past", .ref pa)]
def albG1 (n : Int) : List (Str × V) := [("characters", .int n)]
def albG2 (n : Int) (sc : Addr) : List (Str × V) := [("characters", .int n), ("screens", .ref sc)]
def albG3 (n : Int) (sc op : Addr) : List (Str × V) := [("characters", .int n), ("screens", .ref sc), ("operations", .ref op)]
theorem alb_put1 (n : Int) : putF "characters" (.int n) [] = albG1 n := rfl
theorem alb_put2 (n : Int) (sc : Addr) : putF "screens" (.ref sc) (albG1 n) = albG2 n sc := by
  unfold albG1 albG2
  rw [putF, if_neg al_1, putF]
theorem alb_put3 (n : Int) (sc op : Addr) : putF "operations" (.ref op) (albG2 n sc) = albG3 n sc op := by
  unfold albG2 albG3
  rw [putF, if_neg al_2, putF, if_neg al_4, putF]
theorem alb_put4 (n : Int) (sc op pa : Addr) : putF "past" (.ref pa) (albG3 n sc op) = albF n sc op pa := by
  unfold albG3 albF
  rw [putF, if_neg al_3, putF, if_neg al_5, putF, if_neg al_6, putF]
theorem alb_set (n : Int) (sc op pa sn : Addr) : putF "screens" (.ref sn) (albF n sc op pa) = albF n sn op pa := by
  unfold albF
  rw [putF, if_neg al_1, putF, if_pos rfl]
theorem alb_ch (n : Int) (sc op pa : Addr) : (albF n sc op pa).lookup ("characters" : Str) = some (.int n) := by
  rw [← alb_put4, lookup_putF, if_neg al_3, ← alb_put3, lookup_putF, if_neg al_2, ← alb_put2, lookup_putF, if_neg al_1, ← alb_put1, lookup_putF, if_pos rfl]
theorem alb_sc (n : Int) (sc op pa : Addr) : (albF n sc op pa).lookup ("screens" : Str) = some (.ref sc) := by
  rw [← alb_put4, lookup_putF, if_neg al_5, ← alb_put3, lookup_putF, if_neg al_4, ← alb_put2, lookup_putF, if_pos rfl]
theorem alb_op (n : Int) (sc op pa : Addr) : (albF n sc op pa).lookup ("operations" : Str) = some (.ref op) := by
  rw [← alb_put4, lookup_putF, if_neg al_6, ← alb_put3, lookup_putF, if_pos rfl]
theorem alb_pa (n : Int) (sc op pa : Addr) : (albF n sc op pa).lookup ("past" : Str) = some (.ref pa) := by
  rw [← alb_put4, lookup_putF, if_pos rfl]
/-- an operation, as the log tells it -/
inductive AOp where
  | add (w : Int) (ls : List Int)
  | rem (i : Int)
def opD : AOp → PyData
  | .add w ls => .tuple [.str "add_screen", .int w, .list (ls.map .int)]
  | .rem i => .tuple [.str "remove_screen", .int i]
/-- an album at A: its lists at op and pa; what it holds is not touched by what happens at S -/
structure Alb (S : List Addr) (K : PySem.W.Frag) (H : Hp) (A op pa : Addr) (n : Int) (ss : List Scr) (ops : List AOp) (past : List (List Scr)) : Prop where
  ex : ∃ dx sc xs oxs pxs, H A = some (.ins (He.ga K "Album") dx (albF n sc op pa)) ∧ sc ∉ S ∧ H sc = some (.lst xs) ∧ DsAll S K H xs (ss.map scrD) ∧
    H op = some (.lst oxs) ∧ DsAll S K H oxs (ops.map opD) ∧ H pa = some (.lst pxs) ∧ DsAll S K H pxs (past.map scrsD)
  inA : A ∈ S
  inO : op ∈ S
  inP : pa ∈ S
  ao : A ≠ op
  ap : A ≠ pa
  opp : op ≠ pa
  n1 : 1 ≤ n
  n6 : n ≤ 600
theorem Alb.on {S S' : List Addr} {K : PySem.W.Frag} {H H' : Hp} {A op pa : Addr} {n : Int} {ss : List Scr} {ops : List AOp} {past : List (List Scr)} (h : Alb S K H A op pa n ss ops past) (s : SameS S' H H') (hs : ∀ b ∈ S', b ∈ S) (nA : A ∉ S') (nO : op ∉ S') (nP : pa ∉ S') :
    Alb S K H' A op pa n ss ops past := by
  obtain ⟨dx, sc, xs, oxs, pxs, h1, h2, h3, h4, h5, h6, h7, h8⟩ := h.ex
  have sS := s.mem hs
  exact { h with ex := ⟨dx, sc, xs, oxs, pxs, s.at nA h1, h2, sS.at h2 h3, h4.on sS, s.at nO h5, h6.on sS, s.at nP h7, h8.on sS⟩ }
theorem Alb.same {S : List Addr} {K : PySem.W.Frag} {H H' : Hp} {A op pa : Addr} {n : Int} {ss : List Scr} {ops : List AOp} {past : List (List Scr)} (h : Alb S K H A op pa n ss ops past) (s : Same H H') : Alb S K H' A op pa n ss ops past :=
  h.on (S' := []) (SameS.of s) (fun b hb => by cases hb) (by simp) (by simp) (by simp)
/-- nothing at S is free -/
def Live (S : List Addr) (H : Hp) : Prop := ∀ b ∈ S, ∃ o, H b = some o
theorem Live.same {S : List Addr} {H H' : Hp} (h : Live S H) (s : Same H H') : Live S H' := fun b hb => let ⟨o, e⟩ := h b hb; ⟨o, s _ _ e⟩
theorem Live.nin {S : List Addr} {H : Hp} {a : Addr} (h : Live S H) (n : H a = none) : a ∉ S := fun hm => by
  obtain ⟨o, e⟩ := h a hm
  rw [n] at e
  cases e
theorem Live.upd {S : List Addr} {H : Hp} {a : Addr} {o : HO} (h : Live S H) : Live S (upd H a o) := fun b hb => by
  by_cases c : b = a
  · subst c
    exact ⟨_, upd_same⟩
  · obtain ⟨o, e⟩ := h b hb
    exact ⟨o, by rw [upd_ne c]; exact e⟩
theorem Ds.row {S : List Addr} {K : PySem.W.Frag} {H : Hp} {t l : Addr} {w : Int} {ls : List Int} (nt : t ∉ S) (et : H t = some (.tup [.int w, .ref l])) (nl : l ∉ S) (el : IL H l ls) : Ds S K H (.ref t) (scrD (w, ls)) := Ds.scr nt et nl el
theorem alb_no (n : Int) (sc op pa : Addr) {m : Str} (h1 : ¬ m = "characters") (h2 : ¬ m = "screens") (h3 : ¬ m = "operations") (h4 : ¬ m = "past") : (albF n sc op pa).lookup m = none := by
  rw [← alb_put4, lookup_putF, if_neg h4, ← alb_put3, lookup_putF, if_neg h3, ← alb_put2, lookup_putF, if_neg h2, ← alb_put1, lookup_putF, if_neg h1]
  rfl
theorem Same.free {H H' : Hp} {x : Addr} (s : Same H H') (h : H' x = none) : H x = none := by
  cases e : H x with
  | none => rfl
  | some o =>
    rw [s _ _ e] at h
    cases h
end Wc

/-! strings filled word by word; a string repeated; strings that are no words. -/
namespace Wc
open PySem PySem.Spec PyProof.Rows L2
def fillStep (w : Int) (acc : List Str) (p : Str) : List Str := match acc.getLast? with
  | none => acc ++ [p]
  | some c => if (c.length : Int) + 1 + (p.length : Int) ≤ w then acc.dropLast ++ [c ++ sp32 ++ p] else acc ++ [p]
def fillS (w : Int) (ps : List Str) : List Str := ps.foldl (fillStep w) []
def lenI (p : Str) : Int := (p.length : Int)
theorem fillStep_snoc (w : Int) (ys : List Str) (c p : Str) : fillStep w (ys ++ [c]) p = if (c.length : Int) + 1 + (p.length : Int) ≤ w then ys ++ [c ++ sp32 ++ p] else ys ++ [c] ++ [p] := by
  unfold fillStep
  rw [List.getLast?_concat]
  simp only [List.dropLast_concat]
theorem str_app_len (x y : Str) : (x ++ y).length = x.length + y.length := by
  show (x.cps ++ y.cps).size = _
  rw [Array.size_append]
  rfl
theorem str_app_list (x y : Str) : (x ++ y).cps.toList = x.cps.toList ++ y.cps.toList := by
  show (x.cps ++ y.cps).toList = _
  simp
theorem fillStep_lens (w : Int) (acc : List Str) (p : Str) : (fillStep w acc p).map lenI = lineStep w (acc.map lenI) (lenI p) := by
  rcases List.eq_nil_or_concat acc with rfl | ⟨ys, c, rfl⟩
  · rfl
  · rw [List.concat_eq_append, fillStep_snoc, List.map_append]
    show _ = lineStep w (ys.map lenI ++ [lenI c]) (lenI p)
    rw [lineStep_snoc]
    by_cases h : (c.length : Int) + 1 + (p.length : Int) ≤ w
    · rw [if_pos h, if_pos (show lenI c + 1 + lenI p ≤ w from h), List.map_append]
      congr 1
      show [lenI (c ++ sp32 ++ p)] = _
      congr 1
      unfold lenI
      rw [str_app_len, str_app_len]
      have : sp32.length = 1 := rfl
      omega
    · rw [if_neg h, if_neg (show ¬ (lenI c + 1 + lenI p ≤ w) from h), List.map_append, List.map_append]
      rfl
theorem fill_lens (w : Int) (ps : List Str) : (fillS w ps).map lenI = lawWrap (ps.map lenI) w := by
  have key : ∀ (ps : List Str) (acc : List Str), (ps.foldl (fillStep w) acc).map lenI = (ps.map lenI).foldl (lineStep w) (acc.map lenI) := by
    intro ps
    induction ps with
    | nil => intro acc; rfl
    | cons p ps ih =>
      intro acc
      rw [List.foldl_cons, ih, fillStep_lens]
      rfl
  exact key ps []
def pgL (ps : List Str) : List Nat := TL.joinL [32] (ps.map fun p => p.cps.toList)
theorem joinL_snoc : ∀ (qs : List (List Nat)) (q : List Nat), qs ≠ [] → TL.joinL [32] (qs ++ [q]) = TL.joinL [32] qs ++ ([32] ++ q)
  | [], q, h => absurd rfl h
  | [a], q, _ => rfl
  | a :: b :: r, q, _ => by
    have ih := joinL_snoc (b :: r) q (by simp)
    show a ++ ([32] ++ TL.joinL [32] ((b :: r) ++ [q])) = (a ++ ([32] ++ TL.joinL [32] (b :: r))) ++ ([32] ++ q)
    rw [ih]
    simp
theorem pgL_snoc (qs : List Str) (q : Str) (h : qs ≠ []) : pgL (qs ++ [q]) = pgL qs ++ ([32] ++ q.cps.toList) := by
  unfold pgL
  rw [List.map_append]
  exact joinL_snoc _ _ (fun e => h (List.map_eq_nil_iff.mp e))
theorem fillStep_ne (w : Int) (acc : List Str) (p : Str) : fillStep w acc p ≠ [] := by
  rcases List.eq_nil_or_concat acc with rfl | ⟨ys, c, rfl⟩
  · exact fun h => by cases h
  · rw [List.concat_eq_append, fillStep_snoc]
    split <;> simp
theorem fillStep_pg (w : Int) (acc : List Str) (p : Str) (h : acc ≠ []) : pgL (fillStep w acc p) = pgL acc ++ ([32] ++ p.cps.toList) := by
  rcases List.eq_nil_or_concat acc with rfl | ⟨ys, c, rfl⟩
  · exact absurd rfl h
  · rw [List.concat_eq_append, fillStep_snoc]
    split
    · cases ys with
      | nil =>
        show (c ++ sp32 ++ p).cps.toList = c.cps.toList ++ ([32] ++ p.cps.toList)
        rw [str_app_list, str_app_list]
        show c.cps.toList ++ [32] ++ p.cps.toList = _
        simp
      | cons y ys =>
        rw [pgL_snoc _ _ (by simp), pgL_snoc _ _ (by simp), str_app_list, str_app_list]
        show _ = pgL (y :: ys) ++ ([32] ++ c.cps.toList) ++ _
        show pgL (y :: ys) ++ ([32] ++ (c.cps.toList ++ [32] ++ p.cps.toList)) = _
        simp
    · rw [pgL_snoc _ _ (by simp)]
theorem fill_pg (w : Int) : ∀ (ps : List Str), pgL (fillS w ps) = pgL ps := by
  have key : ∀ (ps : List Str) (acc : List Str), acc ≠ [] → pgL (ps.foldl (fillStep w) acc) = pgL (acc ++ ps) := by
    intro ps
    induction ps with
    | nil => intro acc _; rw [List.append_nil]; rfl
    | cons p ps ih =>
      intro acc h
      rw [List.foldl_cons, ih _ (fillStep_ne w acc p)]
      cases ps with
      | nil => rw [List.append_nil, fillStep_pg w acc p h, pgL_snoc acc p h]
      | cons q qs =>
        have e1 : ∀ (xs : List Str), xs ≠ [] → pgL (xs ++ (q :: qs)) = pgL xs ++ ([32] ++ pgL (q :: qs)) := by
          intro xs
          induction xs with
          | nil => intro h; exact absurd rfl h
          | cons x xs ihx =>
            intro _
            cases xs with
            | nil => rfl
            | cons y ys =>
              have := ihx (by simp)
              show x.cps.toList ++ ([32] ++ pgL ((y :: ys) ++ (q :: qs))) = (x.cps.toList ++ ([32] ++ pgL (y :: ys))) ++ _
              rw [this]
              simp
        rw [e1 _ (fillStep_ne w acc p), fillStep_pg w acc p h]
        have : acc ++ p :: q :: qs = (acc ++ [p]) ++ (q :: qs) := by simp
        rw [this, e1 _ (by simp), pgL_snoc acc p h]
  intro ps
  cases ps with
  | nil => rfl
  | cons p ps =>
    show pgL (ps.foldl (fillStep w) (fillStep w [] p)) = _
    rw [key ps _ (fillStep_ne w [] p)]
    rfl
theorem fill_len_le (w : Int) (ps : List Str) : (fillS w ps).length ≤ ps.length := by
  have key : ∀ (ps : List Str) (acc : List Str), (ps.foldl (fillStep w) acc).length ≤ acc.length + ps.length := by
    intro ps
    induction ps with
    | nil => intro acc; exact Nat.le_refl _
    | cons p ps ih =>
      intro acc
      rw [List.foldl_cons]
      have h1 := ih (fillStep w acc p)
      have h2 : (fillStep w acc p).length ≤ acc.length + 1 := by
        rcases List.eq_nil_or_concat acc with rfl | ⟨ys, c, rfl⟩
        · exact Nat.le_refl _
        · rw [List.concat_eq_append, fillStep_snoc]
          split <;> simp
      rw [List.length_cons]
      omega
  have := key ps []
  rw [List.length_nil, Nat.zero_add] at this
  exact this
theorem join_uniq : ∀ {xs ys : List (List Nat)}, xs.map List.length = ys.map List.length → TL.joinL [32] xs = TL.joinL [32] ys → xs = ys
  | [], [], _, _ => rfl
  | [], _ :: _, h, _ => by cases h
  | _ :: _, [], h, _ => by cases h
  | [x], [y], _, h => by rw [show x = y from h]
  | [x], _ :: _ :: _, h, _ => by simp at h
  | _ :: _ :: _, [y], h, _ => by simp at h
  | x :: x2 :: xs, y :: y2 :: ys, h, e => by
    have h0 : x.length = y.length := (List.cons.inj h).1
    have h1 : (x2 :: xs).map List.length = (y2 :: ys).map List.length := (List.cons.inj h).2
    have e : x ++ ([32] ++ TL.joinL [32] (x2 :: xs)) = y ++ ([32] ++ TL.joinL [32] (y2 :: ys)) := e
    obtain ⟨a, b⟩ := List.append_inj e h0
    rw [a, join_uniq h1 (List.cons.inj b).2]
theorem str_list {a b : Str} (h : a.cps.toList = b.cps.toList) : a = b := by
  obtain ⟨x⟩ := a
  obtain ⟨y⟩ := b
  congr 1
  exact Array.toList_inj.mp h
/-- the lines filled here are the lines of the page -/
theorem fill_rows {ps : List Str} {ws : List Int} (ht : Txt' ws) (hl : ps.map lenI = ws) (hc : ∀ p ∈ ps, ∀ c ∈ p.cps.toList, 33 ≤ c ∧ c ≤ 126) (w : Int) : rowsS (Txt.join sp32 ps) (lawWrap ws w) = fillS w ps := by
  have hne : ps ≠ [] := fun h => ht.1 (by rw [← hl, h]; rfl)
  obtain ⟨a, b⟩ := page_words hne hc
  have hls : ws = lensS (Txt.join sp32 ps) := by
    unfold lensS
    rw [a]
    exact hl.symm
  obtain ⟨zl, _⟩ := words_ok hls ht
  obtain ⟨u1, u2⟩ := ht.wrap w
  have j := rows_join hls ht u1 u2 (wrap_sub ht w)
  have l1 := rows_lens (z := Txt.join sp32 ps) u1.2.1 u1.1 (by rw [u2, zl])
  have l2 := fill_lens w ps
  rw [hl] at l2
  have tl : ∀ (xs : List Str), (Txt.join sp32 xs).cps.toList = pgL xs := fun xs => by
    rw [TL.join_eq]
    exact TL.tl_join sp32 xs
  have jj : pgL (rowsS (Txt.join sp32 ps) (lawWrap ws w)) = pgL (fillS w ps) := by
    rw [fill_pg, ← tl, ← tl, j]
  have ll : ((rowsS (Txt.join sp32 ps) (lawWrap ws w)).map fun p => p.cps.toList).map List.length = ((fillS w ps).map fun p => p.cps.toList).map List.length := by
    rw [List.map_map, List.map_map]
    have key : ∀ {xs ys : List Str}, xs.map (fun p => (p.length : Int)) = ys.map lenI → xs.map (List.length ∘ fun p => p.cps.toList) = ys.map (List.length ∘ fun p => p.cps.toList) := by
      intro xs
      induction xs with
      | nil =>
        intro ys h
        cases ys with
        | nil => rfl
        | cons _ _ => cases h
      | cons x xs ih =>
        intro ys h
        cases ys with
        | nil => cases h
        | cons y ys =>
          obtain ⟨h1, h2⟩ := List.cons.inj h
          rw [List.map_cons, List.map_cons, ih h2]
          congr 1
          show x.cps.toList.length = y.cps.toList.length
          have h1 : ((x.cps.size : Nat) : Int) = ((y.cps.size : Nat) : Int) := h1
          rw [Array.length_toList, Array.length_toList]
          omega
    exact key (l1.trans l2.symm)
  have := join_uniq ll jj
  have inj : ∀ {xs ys : List Str}, xs.map (fun p => p.cps.toList) = ys.map (fun p => p.cps.toList) → xs = ys := by
    intro xs
    induction xs with
    | nil =>
      intro ys h
      cases ys with
      | nil => rfl
      | cons _ _ => cases h
    | cons x xs ih =>
      intro ys h
      cases ys with
      | nil => cases h
      | cons y ys =>
        obtain ⟨h1, h2⟩ := List.cons.inj h
        rw [str_list h1, ih h2]
  exact inj this
/-! ### a string repeated -/
def repL (x : Str) (n : Int) : Str := ⟨(List.replicate n.toNat x.cps.toList).flatten.toArray⟩
theorem fold_appL (x : Array Nat) : ∀ (k : Nat) (acc : Array Nat), (List.replicate k x).foldl (· ++ ·) acc = acc ++ (List.replicate k x.toList).flatten.toArray
  | 0, acc => by simp
  | k + 1, acc => by
    rw [List.replicate_succ, List.foldl_cons, fold_appL x k, List.replicate_succ]
    apply Array.toList_inj.mp
    simp
theorem mul_repL (x : Str) (n : Int) : Txt.mul x n = repL x n := by
  obtain ⟨x⟩ := x
  unfold Txt.mul repL
  split
  · rename_i h
    rw [show n.toNat = 0 by omega]
    rfl
  · rename_i h
    split
    · rename_i h2
      rw [Bool.or_eq_true, beq_iff_eq, beq_iff_eq] at h2
      rcases h2 with h2 | h2
      · rw [h2]
        simp
      · have e : x = #[] := Array.size_eq_zero_iff.mp h2
        subst e
        simp
    · rw [fold_appL]
      simp
def rRepL : V → V → Hp → VK → Prop := fun x y H Q => ∃ z n, x = .str z ∧ y = .int n ∧ 1 ≤ z.length ∧ z.length ≤ 10 ∧ 0 ≤ n ∧ n ≤ 1000 ∧ Q (.str (repL z n)) H
theorem op_repL {X : Cx} : OpR X (binaryOp .Mult) rRepL := by
  intro pins s σ H x y v u Q I rx ry h
  obtain ⟨z, n, rfl, rfl, hl1, hl2, hn0, hn, q⟩ := h
  obtain ⟨t, rfl⟩ := rx
  obtain ⟨t', rfl⟩ := ry
  refine SB.mul ⟨?_, fun h0 _ => ?_, fun h0 _ => ?_⟩ fun t' k => ?_
  · rw [Bool.or_eq_false_iff, decide_eq_false_iff_not, decide_eq_false_iff_not]
    omega
  · intro hc
    have h1 : (10 : Int) ≤ (2 ^ 63 - 1) / n := (Int.le_ediv_iff_mul_le (by omega)).mpr (by omega)
    omega
  · show decide (z.length * n.toNat > sizeLine) = false
    rw [decide_eq_false_iff_not]
    have hz : sizeLine = 16777216 := by decide
    have h1 : z.length * n.toNat ≤ 10 * 1000 := Nat.mul_le_mul hl2 (by omega)
    omega
  · rw [mul_repL]
    exact ⟨.str (repL z n), H, I.tok _, ⟨_, rfl⟩, q⟩
/-! ### no words -/
theorem ends_gap2 : ∀ (ns : List Int) (p : Int), (∀ n ∈ ns, 1 ≤ n) → ∀ e ∈ endsFrom p ns, p + 2 ≤ e ∧ (e + 1 ∉ endsFrom p ns)
  | [], p, _, e, h => by cases h
  | n :: ns, p, hn, e, h => by
    have h1 := hn n (List.mem_cons_self ..)
    have ih := ends_gap2 ns (p + (1 + n)) fun m hm => hn m (List.mem_cons_of_mem _ hm)
    have h : e ∈ (p + (1 + n)) :: endsFrom (p + (1 + n)) ns := h
    have e2 : ∀ x, x ∈ endsFrom p (n :: ns) ↔ x = p + (1 + n) ∨ x ∈ endsFrom (p + (1 + n)) ns := fun x => List.mem_cons
    rcases List.mem_cons.mp h with h | h
    · refine ⟨by omega, fun hm => ?_⟩
      rcases (e2 _).mp hm with hm | hm
      · omega
      · have := (ih _ hm).1
        omega
    · have h3 := ih e h
      refine ⟨by omega, fun hm => ?_⟩
      rcases (e2 _).mp hm with hm | hm
      · omega
      · exact h3.2 hm
/-- what makes a string no words -/
theorem no_words {z : Str} (h : 600 < z.cps.toList.length ∨ printable z = false ∨ z.cps.toList = [] ∨ z.cps.toList[0]? = some 32 ∨ z.cps.toList.getLast? = some 32 ∨ ∃ j : Nat, z.cps.toList[j]? = some 32 ∧ z.cps.toList[j + 1]? = some 32) : ∀ ls, ¬ WordsD (some (.str z)) ls := by
  rintro ls ⟨z', e, hp, hls, ht⟩
  cases e
  obtain ⟨h1, h2⟩ := words_ok hls ht
  have h3 := ht.2.2
  have pos : 1 ≤ total ls := by
    have h1 := total_nonneg_len ls ht.2.1
    have h2 := List.length_pos_iff.mpr ht.1
    unfold total
    omega
  have gap := ends_gap2 ls (-1) ht.2.1
  have hin : ∀ {j : Nat}, z.cps.toList[j]? = some 32 → (j : Int) ∈ endsFrom (-1) ls := fun {j} hj => (h2 j (List.getElem?_eq_some_iff.mp hj).1).mp hj
  rcases h with h | h | h | h | h | ⟨j, ha, hb⟩
  · omega
  · rw [hp] at h
    cases h
  · rw [h] at h1
    simp at h1
    omega
  · have := (gap _ (hin h)).1
    omega
  · rw [List.getLast?_eq_getElem?] at h
    have a := hin h
    have b : ((z.cps.toList.length - 1 : Nat) : Int) + 1 ∈ endsFrom (-1) ls := by
      have := endsOf_last ht.1
      have hm := List.mem_of_getLast? this
      rw [show ((z.cps.toList.length - 1 : Nat) : Int) + 1 = total ls by omega]
      exact hm
    exact (gap _ a).2 b
  · exact (gap _ (hin ha)).2 (by have := hin hb; rwa [show ((j + 1 : Nat) : Int) = (j : Int) + 1 by omega] at this)
theorem dpAll_strs {K : PySem.W.Frag} {H : Hp} : ∀ ps : List Str, DpAll K H (ps.map V.str) (ps.map PyData.str)
  | [] => .nil
  | n :: ns => .cons (.str n) (dpAll_strs ns)
theorem dp_strs {K : PySem.W.Frag} {H : Hp} {a : Addr} {ps : List Str} (h : H a = some (.lst (ps.map V.str))) : Dp K H (.ref a) (.list (ps.map .str)) := .lst (.inl (.inl h)) (dpAll_strs ps)
theorem eqv_strs_nil (ps : List Str) : PyData.eqv (.list (ps.map .str)) (.list []) = decide (ps = []) := by
  cases ps with
  | nil => rfl
  | cons r rs => simp [PyData.eqv, PyData.eqvAll]
theorem Nc.strs {n L : Nat} {ps : List Str} (hn : ps.length ≤ n) (h : ∀ p ∈ ps, p.length ≤ L ∧ ∀ c ∈ p.cps.toList, c < 1000) : Nc ((12 * L + 4) * n + 3) 1 (.list (ps.map .str)) := by
  refine Nc.list (Ncs.all (w := 12 * L + 2) (k := 0) (n := n) (by rw [List.length_map]; exact hn) fun d hd => ?_)
  obtain ⟨p, hp, rfl⟩ := List.mem_map.mp hd
  exact Nc.str (h p hp).1 (h p hp).2
theorem shaped_strs {L : Nat} {ps : List Str} (h : ∀ p ∈ ps, p.length ≤ L ∧ ∀ c ∈ p.cps.toList, c < 1000) : SeqAt.shaped (.list (ps.map .str)) = true := (Nc.strs (Nat.le_refl _) h).shaped (by decide)
theorem fillS_chars (w : Int) : ∀ (ps : List Str), (∀ p ∈ ps, ∀ c ∈ p.cps.toList, c < 1000) → ∀ x ∈ fillS w ps, ∀ c ∈ x.cps.toList, c < 1000 := by
  have key : ∀ (ps acc : List Str), (∀ p ∈ ps, ∀ c ∈ p.cps.toList, c < 1000) → (∀ p ∈ acc, ∀ c ∈ p.cps.toList, c < 1000) → ∀ x ∈ ps.foldl (fillStep w) acc, ∀ c ∈ x.cps.toList, c < 1000 := by
    intro ps
    induction ps with
    | nil => intro acc _ h; exact h
    | cons p ps ih =>
      intro acc hp ha
      rw [List.foldl_cons]
      have hp1 := hp p (List.mem_cons_self ..)
      refine ih _ (fun q hq => hp q (List.mem_cons_of_mem _ hq)) ?_
      rcases List.eq_nil_or_concat acc with rfl | ⟨ys, d, rfl⟩
      · intro x hx
        rw [show x = p from List.mem_singleton.mp hx]
        exact hp1
      · rw [List.concat_eq_append] at ha ⊢
        rw [fillStep_snoc]
        have hd := ha d (by simp)
        split
        · intro x hx
          rcases List.mem_append.mp hx with hx | hx
          · exact ha x (List.mem_append_left _ hx)
          · rw [List.mem_singleton.mp hx, str_app_list, str_app_list]
            intro c hc
            rcases List.mem_append.mp hc with hc | hc
            · rcases List.mem_append.mp hc with hc | hc
              · exact hd c hc
              · rw [show c = 32 from List.mem_singleton.mp hc]
                decide
            · exact hp1 c hc
        · intro x hx
          rcases List.mem_append.mp hx with hx | hx
          · exact ha x hx
          · rw [List.mem_singleton.mp hx]
            exact hp1
  exact fun ps h => key ps [] h (fun _ h => by cases h)
theorem ixN_lastS {n : Nat} (h : 0 < n) : ixN n (-1) = some n.pred := by
  unfold ixN
  rw [if_neg (by decide), if_pos (by omega)]
  congr 1
  show (-1 + (n : Int)).toNat = n - 1
  omega
theorem fillS_take {w : Int} {ps : List Str} {i : Nat} {z : Str} (h : ps[i]? = some z) : fillS w (ps.take (i + 1)) = fillStep w (fillS w (ps.take i)) z := by
  have : ps.take (i + 1) = ps.take i ++ [z] := by
    rw [List.take_add_one, h]
    rfl
  unfold fillS
  rw [this, List.foldl_append]
  rfl
theorem sum_succ : ∀ ps : List Str, (ps.map (fun p => p.length + 1)).sum = (ps.map (·.length)).sum + ps.length
  | [] => rfl
  | p :: ps => by
    have := sum_succ ps
    rw [List.map_cons, List.sum_cons, List.map_cons, List.sum_cons, List.length_cons]
    omega
theorem fillS_mem (w : Int) (B C : Nat) : ∀ (ps : List Str), (∀ p ∈ ps, p.length ≤ B) → (ps.map (·.length)).sum + ps.length ≤ C → ∀ x ∈ fillS w ps, x.length ≤ C := by
  intro ps _ hC x hx
  have key : ∀ (ps acc : List Str), ((ps.foldl (fillStep w) acc).map (fun p => p.length + 1)).sum ≤ (acc.map (fun p => p.length + 1)).sum + (ps.map (fun p => p.length + 1)).sum := by
    intro ps
    induction ps with
    | nil => intro acc; simp
    | cons p ps ih =>
      intro acc
      rw [List.foldl_cons]
      refine Nat.le_trans (ih _) ?_
      rw [List.map_cons, List.sum_cons]
      have : ((fillStep w acc p).map (fun p => p.length + 1)).sum ≤ (acc.map (fun p => p.length + 1)).sum + (p.length + 1) := by
        rcases List.eq_nil_or_concat acc with rfl | ⟨ys, c, rfl⟩
        · simp [fillStep]
        · rw [List.concat_eq_append, fillStep_snoc]
          split
          · rw [List.map_append, List.map_append, List.sum_append, List.sum_append]
            show _ + ((c ++ sp32 ++ p).length + 1 + 0) ≤ _ + (c.length + 1 + 0) + _
            rw [str_app_len, str_app_len]
            have : sp32.length = 1 := rfl
            omega
          · simp
            omega
      omega
  have h1 := key ps []
  have h2 : x.length + 1 ≤ ((fillS w ps).map (fun p => p.length + 1)).sum := by
    have : ∀ (l : List Str), x ∈ l → x.length + 1 ≤ (l.map (fun p => p.length + 1)).sum := by
      intro l
      induction l with
      | nil => intro h; cases h
      | cons a l ih =>
        intro h
        rw [List.map_cons, List.sum_cons]
        rcases List.mem_cons.mp h with h | h
        · subst h; omega
        · have := ih h; omega
    exact this _ hx
  have h3 : (ps.map (fun p => p.length + 1)).sum = (ps.map (·.length)).sum + ps.length := sum_succ ps
  have h4 : ((fillS w ps).map (fun p => p.length + 1)).sum ≤ (ps.map (fun p => p.length + 1)).sum := by
    have := h1
    rw [List.map_nil, List.sum_nil, Nat.zero_add] at this
    exact this
  omega
theorem no_words_of {o : Option PyData} (h : ∀ z, o ≠ some (.str z)) : ∀ ls, ¬ WordsD o ls := fun ls ⟨z, e, _⟩ => h z e
/-- a string that is no words -/
def BadStr (z : Str) : Prop := z.cps.toList.length ≤ 4000 ∧ (∀ c ∈ z.cps.toList, c < 1000) ∧ (∀ ls, ¬ WordsD (some (.str z)) ls)
theorem BadStr.shaped {z : Str} (h : BadStr z) : SeqAt.shaped (.str z) = true := (Nc.str (L := 4000) (by show z.cps.size ≤ _; rw [← Array.length_toList]; exact h.1) h.2.1).shaped (by decide)
theorem BadStr.of {z : Str} {l : List Nat} (e : z.cps.toList = l) (h1 : l.length ≤ 4000) (h2 : ∀ c ∈ l, c < 1000) (h3 : 600 < l.length ∨ (∃ c ∈ l, c < 32) ∨ l = [] ∨ l[0]? = some 32 ∨ l.getLast? = some 32 ∨ ∃ j : Nat, l[j]? = some 32 ∧ l[j + 1]? = some 32) : BadStr z := by
  subst e
  refine ⟨h1, h2, no_words ?_⟩
  rcases h3 with h | ⟨c, hc, h⟩ | h
  · exact .inl h
  · refine .inr (.inl ?_)
    unfold printable
    rw [List.all_eq_false]
    refine ⟨c, hc, ?_⟩
    rw [Bool.and_eq_true, decide_eq_true_eq]
    omega
  · exact .inr (.inr h)
theorem cutS_front {z : Str} {i : Int} (h0 : 0 ≤ i) (h1 : i ≤ z.cps.toList.length) : (cutS z none (some i)).cps.toList = z.cps.toList.take i.toNat := by
  have hzl : z.length = z.cps.toList.length := by
    show z.cps.size = _
    rw [Array.length_toList]
  unfold cutS
  have i2 : HT.sIx z.length z.length (some i) = i.toNat := by
    unfold HT.sIx
    simp only
    split <;> omega
  rw [HT.sIx_none, i2]
  simp
theorem cutS_back {z : Str} {i : Int} (h0 : 0 ≤ i) (h1 : i ≤ z.cps.toList.length) : (cutS z (some i) none).cps.toList = z.cps.toList.drop i.toNat := by
  have hzl : z.length = z.cps.toList.length := by
    show z.cps.size = _
    rw [Array.length_toList]
  unfold cutS
  have i2 : HT.sIx z.length 0 (some i) = i.toNat := by
    unfold HT.sIx
    simp only
    split <;> omega
  rw [HT.sIx_none, i2]
  simp only
  rw [List.take_of_length_le]
  rw [List.length_drop]
  omega
theorem lt_app {l m : List Nat} (h1 : ∀ c ∈ l, c < 1000) (h2 : ∀ c ∈ m, c < 1000) : ∀ c ∈ l ++ m, c < 1000 := fun c hc => (List.mem_append.mp hc).elim (h1 c) (h2 c)
theorem lt_one {d : Nat} (h : d < 1000) : ∀ c ∈ [d], c < 1000 := fun c hc => by
  rw [List.mem_singleton.mp hc]
  exact h
theorem lt_rep {k d : Nat} (h : d < 1000) : ∀ c ∈ List.replicate k d, c < 1000 := fun c hc => by
  rw [(List.mem_replicate.mp hc).2]
  exact h
theorem mid_two (l r : List Nat) : (l ++ [32, 32] ++ r)[l.length]? = some 32 ∧ (l ++ [32, 32] ++ r)[l.length + 1]? = some 32 := by
  rw [List.append_assoc]
  constructor
  · rw [List.getElem?_append_right (Nat.le_refl _), Nat.sub_self]
    rfl
  · rw [List.getElem?_append_right (by omega), show l.length + 1 - l.length = 1 by omega]
    rfl
end Wc

/-! len of an own class's instance. -/
namespace Wc
open PySem PySem.Spec PyProof.Rows L2
def rLenOwn (C : Addr) (sp : Sp) (E : XK) : List V → Hp → VK → Prop := fun xs H Q => ∃ a dx fs, xs = [V.ref a] ∧ H a = some (.ins C dx fs) ∧ sp [.ref a] H (fun v H' => ∃ k : Int, v = .int k ∧ 0 ≤ k ∧ k < 2 ^ 62 ∧ Q (.int k) H') E
theorem call_lenOwn {X : Cx} {CX : CXT} {k : Nat} {C : Addr} {ps : List Str} {sp : Sp} {E : XK} (c : MetC X.prog X.w X.K X.mg X.base CX k C "__len__" ps [] sp) (hr : Room (k + 1) X.A) (hx : Passes CX X E) : CallR X (.builtin "len") (rLenOwn C sp E) := by
  intro pins s σ H xs us Q I r h
  obtain ⟨f, fd, ds, hC, hm, F, hb, hd⟩ := c.ex
  obtain ⟨a, dx, fs, rfl, ha, h⟩ := h
  obtain ⟨u, rfl, ru⟩ := vals1 r
  obtain rfl : u = Value.ref a := ru
  obtain rfl : ds = [] := by cases hd; rfl
  obtain ⟨mA, J, _⟩ := ins_get I.hok ha
  obtain ⟨od, J, _⟩ := J.look
  refine Calls.call_function_entry kind_len plain_len entry_len (args_len1 _) ?_
  unfold Builtin.«len»
  refine wpAny_bind (m := oneArg "len" _) (wpAny_pure ?_)
  refine wpAny_bind (m := callSpecial? (.ref a) (PySem.Str.ofString "__len__")) (PySem.W.special_fn I.kIn J hm.at_ (beq_iff_eq.mp hm.fn) ?_)
  have e0 : Env0 X.prog X.w X.K X.mg X.base X.A.in1 X.stack s H := by
    have e := I.env0
    exact ⟨e.frames, e.mod, e.bs, e.bsz, e.funs, e.frf, e.hok, e.bare⟩
  have h : sp ([V.ref a] ++ []) H (fun v H' => ∃ k : Int, v = .int k ∧ 0 ≤ k ∧ k < 2 ^ 62 ∧ Q (.int k) H') E := h
  have hl := F.len _ _ _ _ h
  have r2 : Vals [V.ref a] [Value.ref a] := .cons rfl .nil
  refine wpAny_call (codeAny_mono (F.run X.A.in1 X.stack s H ⟨[.ref a], []⟩ [.ref a] [.ref a] _ E hr.in1 e0 (by
    have := hb s [.ref a] I.kIn (by simpa using hl)
    simpa using this) r2 h) fun r s' hq => ?_)
  cases r with
  | error e => exact hx pins σ H s e s' I hq
  | ok fl =>
    cases fl with
    | ret w =>
      obtain ⟨z, H', I', rz, m, ez, m0, m1, q⟩ := I.after hq
      subst ez
      obtain ⟨t, rfl⟩ := rz
      refine wpAny_bind (wpAny_holding (wpAny_pure ?_))
      refine wpAny_bind (wpAny_letGo ?_)
      show wpAny _ _ (if m < 0 then _ else _) _ _ _
      rw [if_neg (by omega)]
      show wpAny _ _ (if m ≥ 2 ^ 63 then _ else _) _ _ _
      rw [if_neg (by omega)]
      exact wpAny_bind (wpAny_mkInt (wpAny_pure ⟨_, rfl, .int m, H', I'.tok _, ⟨_, rfl⟩, q⟩))
    | next => exact False.elim hq
    | brk => exact False.elim hq
    | cont => exact False.elim hq
end Wc

/-! defs called while an exception is handled. -/
namespace Wc
open PySem PySem.Spec PyProof.Rows L2
open L2H (RoomH roomH_of)
def cxW (CX : CXT) (P : Program) (w : World) (K : PySem.W.Frag) (mg : Str → Option Value) (base : Heap) (N : List Str) (qual : Str) (scope : Scope) (f : Addr) (cd : Value) (A : Around) (outer : List Env) (s : Shared) (H : Hp) (E : XK) : Cx :=
  { cxOf CX P w K mg base N qual scope f cd A outer s H E with calm := false }
theorem inv_startW {CX : CXT} {P : Program} {w : World} {K : PySem.W.Frag} {mg : Str → Option Value} {base : Heap} {N ps : List Str} {qual : Str} {scope : Scope} {f : Addr} {cd : Value} {A : Around} {outer : List Env} {s s1 : Shared} {H : Hp} {E : XK} {us : List Value} {vs : List V}
    (S : FnScope N ps scope) (e0 : Env0 P w K mg base A outer s H) (hl : vs.length = ps.length) (r : Vals vs us)
    (x : InCallC s s.heap.objs.size (bindL (envOfC qual scope s.heap.objs.size f cd).kindOf (ps.zip us) fun _ => none) (cellsFrom (s.heap.objs.size + 1) scope.names []) (bindC (envOfC qual scope s.heap.objs.size f cd).kindOf (ps.zip us) fun _ => none) s1) :
    Inv (cxW CX P w K mg base N qual scope f cd A outer s H E) [] (L2.start N vs) H s1 := by
  have hpl : ps.length ≤ N.length := by have := congrArg List.length S.pre; rw [List.length_take] at this; omega
  obtain ⟨h1, tk, rfl, hk⟩ := x.done
  have noA : ∀ b : Addr, b ∉ (cxW CX P w K mg base N qual scope f cd A outer s H E).ex := fun b z => absurd (show b ∈ ([] : List Addr) from z) (by simp)
  refine ⟨⟨e0.mod, S.kind, rfl, rfl, Nat.le_refl _, fun y z c h1 h2 => ?_, fun y hy => ?_, fun y c _ h => ?_, (fun z => Bool.noConfusion (show false = true from z)), Around.frames_deeper e0.frames, .inr ⟨rfl, rfl⟩, fun b z => absurd z (noA b), e0.bs, e0.bsz, fun b _ _ => noA b, fun b z => absurd z (noA b), e0.funs, e0.frf⟩,
    rfl, e0.bare, Un.kept hk, ⟨_, x.toInCall.ns, fun i y v h1 h2 h3 => ?_⟩, fun y c h => ⟨_, x.cell y c h⟩, e0.hok.fresh (Nat.le_refl _), fun y c h => ?_, fun p hp => absurd (show p ∈ ([] : List (Addr × Obj)) from hp) (by simp), e0.hok.kept hk, ?_⟩
  · exact name_of_addr x.apart (PySem.mem_of_lookup h1) (PySem.mem_of_lookup h2)
  · have hy : scope.names.lookup y = some .cell ∨ scope.names.lookup y = some .free := hy
    rcases hy with hy | hy
    · exact cell_has hy
    · exact absurd rfl (S.nofree _ (PySem.mem_of_lookup hy))
  · exact Nat.le_of_lt (x.above y c (PySem.mem_of_lookup h))
  · have hi : i < vs.length := by
      unfold L2.start at h2
      by_cases hi : i < vs.length
      · exact hi
      · rw [List.getElem?_append_right (by simpa using hi)] at h2
        rw [List.getElem?_replicate] at h2
        split at h2 <;> cases h2
    have ha : vs[i]? = some v := by
      unfold L2.start at h2
      rw [List.getElem?_append_left (by simpa using hi), List.getElem?_map] at h2
      cases e : vs[i]? with
      | none => rw [e] at h2; cases h2
      | some a => rw [e] at h2; cases h2; rfl
    obtain ⟨u, hu, rv⟩ := r.get ha
    have hp : ps[i]? = some y := by
      rw [← S.pre, List.getElem?_take_of_lt (by omega)]; exact h1
    have ndP : ps.Nodup := by rw [← S.pre]; exact S.nd.sublist (List.take_sublist _ _)
    refine ⟨u, rv, ?_⟩
    rcases S.par y (List.mem_of_getElem? hp) with k | k
    · exact .inl ⟨k, bindL_get ndP hp hu k⟩
    · obtain ⟨c, e⟩ := cell_has (n := s.heap.objs.size + 1) k
      refine .inr ⟨.inl k, c, e, ?_⟩
      have q := x.cell y c e
      rw [bindC_get ndP hp hu (by show scope.names.lookup y ≠ _; rw [k]; decide)] at q
      exact q
  · exact e0.hok.fresh (Nat.le_of_lt (x.above y c (PySem.mem_of_lookup h)))
  · unfold L2.start
    show _ = N.length
    rw [List.length_append, List.length_map, List.length_replicate]
    omega

structure FnW (P : Program) (w : World) (K : PySem.W.Frag) (mg : Str → Option Value) (base : Heap) (k : Nat) (f : Addr) (fd : FuncData) (ps : List Str) (sp : Sp) : Prop where
  len : ∀ vs H Q E, sp vs H Q E → vs.length = ps.length
  run : ∀ (A : Around) (outer : List Env) (s : Shared) (H : Hp) (args : Args) (us : List Value) (vs : List V) (Q : VK) (E : XK), RoomH k A → Env0 P w K mg base A outer s H →
    BindsTo s fd args (ps.zip us) → Vals vs us → sp vs H Q E → codeAny (model P w) A (.call (.ref f) args) (CR CX0 outer P w H s Q E) s
theorem fnW_of {P : Program} {w : World} {K : PySem.W.Frag} {mg : Str → Option Value} {base : Heap} {k : Nat} {x qual : Str} {params : Arguments} {body : List Stmt} {sc : Scope} {f : Addr} {fd : FuncData} {N ps : List Str} {sp : Sp}
    (F : FunD K x qual params body sc [] [] f fd) (S : FnScope N ps sc) (len : ∀ vs H Q E, sp vs H Q E → vs.length = ps.length)
    (hbody : ∀ (cdv : Value) (A : Around) (outer : List Env) (s : Shared) (H : Hp) (vs : List V) (Q : VK) (E : XK), RoomH k (A.deeper (envOfC qual sc s.heap.objs.size f cdv)) → sp vs H Q E →
      ∃ t, PSs (cxW CX0 P w K mg base N qual sc f cdv A outer s H E).nox body t ∧ t { nx := fun _ H' => Q .non H', rt := Q } (start N vs) H) : FnW P w K mg base (k + 1) f fd ps sp := by
  obtain ⟨oc, od, dV, kV, doc, pm, an, cdv, ct, osl, rfl, lk, hcd, _, _⟩ := F.ex
  refine ⟨len, ?_⟩
  intro A outer s H args us vs Q E hr e0 hb r hsp
  have lenv := len _ _ _ _ hsp
  have keeps : ∀ b o, base.get? b = some o → s.heap.get? b = some o := fun b o e => (e0.bs b o e).1
  have KX : K.In s.heap := e0.mod.kin.keeps keeps
  have noL : s.heap.NoLimit := e0.mod.nolimit.keeps keeps
  refine codeAny_call_function hr.depth (KX _ _ lk) rfl S.co S.gen rfl (PySem.W.codeRec_of KX hcd) (hb _ _ _ _ ?_)
  refine wpAny_newFunctionEnv_cells S.kind ?kinds ?main
  case kinds =>
    rintro ⟨n, v⟩ hy
    cases S.par n (List.of_mem_zip hy).1 with
    | inl q => exact .inl q
    | inr q => exact .inr ⟨q, PySem.W.cellsFrom_some _ _ _ (.inl q)⟩
  case main =>
    rintro env rfl s1 x
    refine ⟨noL.keeps x.toInCall.keep, codeAny_func ?_⟩
    obtain ⟨t, ht, hq⟩ := hbody cdv A outer s H vs Q E (hr.deeper _) hsp
    have I := inv_startW (CX := CX0) (E := E) S e0 lenv r x
    refine wpAny_mono (ht.nox.run [] s1 (start N vs) H _ I hq) ?good ?bad
    case bad => exact fun _ _ h => h
    case good =>
      intro fl s' hs
      have fin : ∀ {σ' : L2.St} {H' : Hp} {v : V} {u : Value}, Inv (cxW CX0 P w K mg base N qual sc f cdv A outer s H E) [] σ' H' s' → RelV v u → Q v H' → CE outer P w H s Q u s' := by
        intro σ' H' v u J rv q
        exact ⟨v, H', J.os, J.bare, J.base, J.hok, rv, q⟩
      match fl, hs with
      | .ret _, ⟨_, _, _, J, rv, q⟩ => exact fin J rv q
      | .next, ⟨_, _, J, q⟩ => exact fin (v := V.non) (u := Value.none) J rfl q
      | .brk, ⟨_, _, _, q⟩ => exact q.elim
      | .cont, ⟨_, _, _, q⟩ => exact q.elim
structure CalW (P : Program) (w : World) (K : PySem.W.Frag) (mg : Str → Option Value) (base : Heap) (k : Nat) (x : Str) (ps : List Str) (sp : Sp) : Prop where
  ex : ∃ (f : Addr) (fd : FuncData), FnW P w K mg base k f fd ps sp ∧ mg x = some (.ref f) ∧ PySem.W.keepIn K (.ref f) = true ∧ L2.Binds K fd ps []
theorem roomW {k : Nat} {A : Around} (r : Room k A) (u : Option Value) : RoomH k (A.mark u) := ⟨r.dp, r.un⟩
section
variable {X : Cx} {k : Nat} {x : Str} {ps : List Str} {sp : Sp} {p pos : Pos} {e : Expr} {es : List Expr} {t : TA}
/-- f(e, ..), in a handler's suite -/
theorem pe_calW (c : CalW X.prog X.w X.K X.mg X.base k x ps sp) (hr : RoomH k X.A) (ha : PA X (e :: es) t) (hg : Gl X x := by rfl) (hdb : (x == ("__debug__" : Str)) = false := by decide)
    (he : starEach (e :: es) X.env = (false, eval e X.env) :: starEach es X.env := by rfl) (hpl : (backTo pos (starEach es X.env)).any (·.1) = false := by rfl) :
    PE X (.Call (.Name x p) (e :: es) [] pos) (tCall sp [] E0 t) := by
  obtain ⟨f, fd, F, hm, hk, hb⟩ := c.ex
  constructor
  intro pins s σ H Q I h
  refine wpAny_Call_Name_kw (ld_glob I hg hm ?_ hdb)
  refine PySem.W.callWith_K (h₀ := X.base) I.ok.mod.kin hk (thn (ha.run pos pins s σ H _ I h) ?_) he hpl
  rintro us s1 ⟨vs, H1, I1, r, q⟩
  refine ⟨I1.kIn, ?_⟩
  have q' : sp vs H1 Q E0 := by
    have q0 : sp (vs ++ []) H1 Q E0 := q
    rwa [List.append_nil] at q0
  have lu : us.length = ps.length := by rw [← r.length]; exact F.len _ _ _ _ q'
  have hb' : BindsTo s1 fd ⟨us, []⟩ (ps.zip us) := by
    have z := hb s1 us I1.kIn (by rw [List.append_nil]; exact lu)
    rwa [List.append_nil] at z
  refine wpAny_call (codeAny_mono (F.run X.A X.stack s1 H1 ⟨us, []⟩ us vs Q E0 hr I1.env0 hb' r q') ?_)
  intro res s' hq
  match res, hq with
  | .ok (.ret _), hq => exact I1.after hq
  | .ok .next, hq => exact hq.elim
  | .ok .brk, hq => exact hq.elim
  | .ok .cont, hq => exact hq.elim
  | .error _, hq => exact hq.elim
end
end Wc

/-! caught exceptions asked for their base, too. -/
namespace Wc
open PySem PySem.Spec PyProof.Rows L2
def exBase (xs : List Str) (K : PySem.W.Frag) : Bool := xs.all fun x => decide (PySem.W.kitOne K (xc K x) (xc K "WrapCluesError") = some true)
def exB2 (xs ys : List Str) (K : PySem.W.Frag) : Bool := exB xs ys K && exBase xs K
structure BaseOk (xs : List Str) (K : PySem.W.Frag) : Prop where
  b : ∀ x ∈ xs, PySem.W.kitOne K (xc K x) (xc K "WrapCluesError") = some true
theorem exb_ok {xs ys : List Str} {K : PySem.W.Frag} (h : exB2 xs ys K = true) : BaseOk xs K := ⟨fun x hx => of_decide_eq_true (List.all_eq_true.mp (Bool.and_eq_true_iff.mp h).2 x hx)⟩
theorem ex_ok2 {xs ys : List Str} {K : PySem.W.Frag} (h : exB2 xs ys K = true) : ExcsOk xs ys K ∧ SysD K := ex_ok (Bool.and_eq_true_iff.mp h).1
end Wc

/-! comprehensions over lists of lists of two. -/
namespace Wc
open PySem PySem.Spec PyProof.Rows L2
theorem lc_genPL {K : PySem.W.Frag} {a D : Addr} {xs : List V} {j k : Nat} {te : TE} {vs : List Nat} {σ : L2.St} {H1 : Hp} {Qd : Hp → Prop} (P : Nat → List V → Hp → Prop) (hz : xs.length ≤ sizeLine)
    (h0 : P 0 [] (upd H1 D (.lst []))) (hsrc : ∀ i acc H, P i acc H → H D = some (.lst acc) → SqL K H a xs)
    (hs : ∀ i x acc H, xs[i]? = some x → acc.length = i → P i acc H → H D = some (.lst acc) → ∃ t u w, x = .ref t ∧ SqL K H t [u, w] ∧ ∀ Q : VK, (∀ y H', H' D = some (.lst acc) → P (i + 1) (acc ++ [y]) (upd H' D (.lst (acc ++ [y]))) → Q y H') → te (((wipe σ vs).set j (some u)).set k (some w)) H Q)
    (hd : ∀ acc H', acc.length = xs.length → P xs.length acc H' → H' D = some (.lst acc) → Qd H')
    (hw : ∀ x y : V, wipe (((wipe σ vs).set j (some x)).set k (some y)) vs = wipe σ vs := by intro x y; rfl) :
    ∃ W : Nat → Nat → Hp → Prop, (∃ m, W 0 m (upd H1 D (.lst []))) ∧ ∀ i m H, W i m H →
      ((Itl K a).stop i H ∧ Qd H) ∨ ((Itl K a).go i H ∧ ∃ Nx : Hp → Prop, (∀ H', Nx H' → ∃ m', m' < m ∧ W (i + 1) m' H') ∧ ∀ x H', (Itl K a).yld i H x H' → gLst K 2 (gCons (gName j) (gCons (gName k) gNil)) x (wipe σ vs) H' fun σ2 H2 => wipe σ2 vs = wipe σ vs ∧ tYes σ2 H2 fun b H3 =>
        if b = true then te σ2 H3 fun y H4 => ∃ acc, H4 D = some (.lst acc) ∧ acc.length < sizeLine ∧ Nx (upd H4 D (.lst (acc ++ [y]))) else Nx H3) := by
  refine lc_list (xs := xs) (fun i H => ∃ acc, acc.length = i ∧ H D = some (.lst acc) ∧ P i acc H) ⟨[], rfl, upd_same, h0⟩ (fun i H _ ⟨acc, _, e, hp⟩ => hsrc i acc H hp e) ?_ ?_
  · rintro i x H hx ⟨acc, ha, eD, hp⟩
    have hi : i < xs.length := (List.getElem?_eq_some_iff.mp hx).1
    obtain ⟨t, u, w, rfl, ht, hk⟩ := hs i x acc H hx ha hp eD
    refine ⟨t, _, rfl, ht, rfl, u, [w], rfl, w, [], rfl, rfl, hw u w, ?_⟩
    unfold tYes
    dsimp only
    rw [if_pos rfl]
    refine hk _ fun y H4 e4 p4 => ⟨acc, e4, by omega, acc ++ [y], by rw [List.length_append, List.length_singleton, ha], upd_same, p4⟩
  · rintro H ⟨acc, ha, eD, hp⟩
    exact hd acc H ha hp eD
/-- [e for x, y in xs], e giving zs place by place -/
theorem lc_mapPL {K : PySem.W.Frag} {a D : Addr} {xs : List V} {j k : Nat} {te : TE} {vs : List Nat} {σ : L2.St} {H1 : Hp} {Qd : Hp → Prop} (zs : List V) (hl : zs.length = xs.length) (hz : xs.length ≤ sizeLine) (hS : SqL K H1 a xs) (nD : H1 D = Option.none)
    (hs : ∀ (i : Nat) (x z : V) (H' : Hp), xs[i]? = some x → zs[i]? = some z → Same H1 H' → ∃ t u w, x = .ref t ∧ SqL K H' t [u, w] ∧ Evs te (((wipe σ vs).set j (some u)).set k (some w)) H' z)
    (hd : ∀ H', Same H1 H' → H' D = some (.lst zs) → Qd H') (hw : ∀ x y : V, wipe (((wipe σ vs).set j (some x)).set k (some y)) vs = wipe σ vs := by intro x y; rfl) :
    ∃ W : Nat → Nat → Hp → Prop, (∃ m, W 0 m (upd H1 D (.lst []))) ∧ ∀ i m H, W i m H →
      ((Itl K a).stop i H ∧ Qd H) ∨ ((Itl K a).go i H ∧ ∃ Nx : Hp → Prop, (∀ H', Nx H' → ∃ m', m' < m ∧ W (i + 1) m' H') ∧ ∀ x H', (Itl K a).yld i H x H' → gLst K 2 (gCons (gName j) (gCons (gName k) gNil)) x (wipe σ vs) H' fun σ2 H2 => wipe σ2 vs = wipe σ vs ∧ tYes σ2 H2 fun b H3 =>
        if b = true then te σ2 H3 fun y H4 => ∃ acc, H4 D = some (.lst acc) ∧ acc.length < sizeLine ∧ Nx (upd H4 D (.lst (acc ++ [y]))) else Nx H3) := by
  refine lc_genPL (fun i acc H => Same H1 H ∧ acc = zs.take i) hz ⟨same_new nD, by simp⟩ (fun i acc H hp _ => hp.1.seq hS) ?_ ?_ hw
  · rintro i x acc H hx ha ⟨sm, hp⟩ eD
    have hi : i < xs.length := (List.getElem?_eq_some_iff.mp hx).1
    have hzz : zs[i]? = some (zs[i]'(by omega)) := List.getElem?_eq_getElem (by omega)
    obtain ⟨t, u, w, rfl, ht, hk⟩ := hs i x _ H hx hzz sm
    refine ⟨t, u, w, rfl, ht, fun Q k => hk Q fun H4 s4 => k _ _ (s4 _ _ eD) ⟨same_mut (sm.trans s4) nD, ?_⟩⟩
    rw [hp, List.take_add_one, hzz]
    rfl
  · rintro acc H ha ⟨sm, hp⟩ eD
    refine hd H sm ?_
    rw [eD, hp, ← hl, List.take_length]

theorem sum_mul {B : Int} : ∀ {ws : List Int}, (∀ m ∈ ws, m ≤ B) → ws.sum ≤ ws.length * B
  | [], _ => by simp
  | m :: ws, h => by
    have h1 := h m (List.mem_cons_self ..)
    have h2 := sum_mul (ws := ws) fun x hx => h x (List.mem_cons_of_mem _ hx)
    rw [List.sum_cons, List.length_cons]
    have e : ((ws.length + 1 : Nat) : Int) * B = (ws.length : Int) * B + B := by
      rw [Int.natCast_add, Int.add_mul]
      simp
    omega
end Wc

namespace Wc
open PySem PySem.Spec PyProof.Rows L2
/-! ### the text -/
def top (i : Nat) : Stmt := PySem.Challenge.pw_wrapclues_k49_reflow_errors.main.body.getD i (.Pass ⟨0, 0, 0, 0⟩)
abbrev FnQ (K : PySem.W.Frag) (x y : Str) (st : Stmt) (dvs : List V) (f : Addr) (fd : FuncData) : Prop := FunD K x y (defArgs st) (defBody st) (defScope st) dvs [] f fd
abbrev FnP (K : PySem.W.Frag) (x : Str) (st : Stmt) (dvs : List V) (f : Addr) (fd : FuncData) : Prop := FunD K x x (defArgs st) (defBody st) (defScope st) dvs [] f fd
structure Wd (K : PySem.W.Frag) (mg : Str → Option Value) : Prop where
  n_ValueError : mg "ValueError" = none
  n_all : mg "all" = none
  n_bool : mg "bool" = none
  n_int : mg "int" = none
  n_isinstance : mg "isinstance" = none
  n_len : mg "len" = none
  n_list : mg "list" = none
  n_max : mg "max" = none
  n_min : mg "min" = none
  n_range : mg "range" = none
  n_repr : mg "repr" = none
  n_sum : mg "sum" = none
  n_tuple : mg "tuple" = none
  n_zip : mg "zip" = none
  c_MAX_CHARACTERS : ∃ t, mg "MAX_CHARACTERS" = some (.int 600 t)
  c_MAX_WIDTH : ∃ t, mg "MAX_WIDTH" = some (.int 1000 t)
  x_InvalidIndex : ExcF K mg "InvalidIndex"
  x_InvalidLengths : ExcF K mg "InvalidLengths"
  x_InvalidNumber : ExcF K mg "InvalidNumber"
  x_InvalidText : ExcF K mg "InvalidText"
  x_InvalidWidth : ExcF K mg "InvalidWidth"
  x_WrapCluesError : ExcF K mg "WrapCluesError"
  g_InvalidCommand : mg "InvalidCommand" = some (xc K "InvalidCommand")
  g_InvalidIndex : mg "InvalidIndex" = some (xc K "InvalidIndex")
  g_InvalidLengths : mg "InvalidLengths" = some (xc K "InvalidLengths")
  g_InvalidNumber : mg "InvalidNumber" = some (xc K "InvalidNumber")
  g_InvalidPosition : mg "InvalidPosition" = some (xc K "InvalidPosition")
  g_InvalidRange : mg "InvalidRange" = some (xc K "InvalidRange")
  g_InvalidScreens : mg "InvalidScreens" = some (xc K "InvalidScreens")
  g_InvalidText : mg "InvalidText" = some (xc K "InvalidText")
  g_InvalidWidth : mg "InvalidWidth" = some (xc K "InvalidWidth")
  g_NoScreens : mg "NoScreens" = some (xc K "NoScreens")
  g_NotFitting : mg "NotFitting" = some (xc K "NotFitting")
  g_NothingToUndo : mg "NothingToUndo" = some (xc K "NothingToUndo")
  g_ParseError : mg "ParseError" = some (xc K "ParseError")
  g_ScreensClash : mg "ScreensClash" = some (xc K "ScreensClash")
  g_WrapCluesError : mg "WrapCluesError" = some (xc K "WrapCluesError")
  m_InvalidIndex_WrapCluesError : PySem.W.exmOne K (xc K "InvalidIndex") (xc K "WrapCluesError") = some true
  m_InvalidLengths_WrapCluesError : PySem.W.exmOne K (xc K "InvalidLengths") (xc K "WrapCluesError") = some true
  m_InvalidNumber_WrapCluesError : PySem.W.exmOne K (xc K "InvalidNumber") (xc K "WrapCluesError") = some true
  m_InvalidText_WrapCluesError : PySem.W.exmOne K (xc K "InvalidText") (xc K "WrapCluesError") = some true
  m_InvalidWidth_WrapCluesError : PySem.W.exmOne K (xc K "InvalidWidth") (xc K "WrapCluesError") = some true
  m_WrapCluesError_WrapCluesError : PySem.W.exmOne K (xc K "WrapCluesError") (xc K "WrapCluesError") = some true
  ex : ExcsOk ["InvalidIndex", "InvalidLengths", "InvalidNumber", "InvalidText", "InvalidWidth"] ["InvalidCommand", "InvalidIndex", "InvalidLengths", "InvalidNumber", "InvalidPosition", "InvalidRange", "InvalidScreens", "InvalidText", "InvalidWidth", "NoScreens", "NotFitting", "NothingToUndo", "ParseError", "ScreensClash"] K
  sysd : SysD K
  exw : BaseOk ["InvalidIndex", "InvalidLengths", "InvalidNumber", "InvalidText", "InvalidWidth"] K
theorem sc_is_integer : FnScope ["value", "low", "high"] ["value", "low", "high"] (defScope (top 19)) := ⟨rfl, rfl, rfl, by decide +kernel, rfl, by decide +kernel, by decide +kernel⟩
theorem sc_is_width : FnScope ["value"] ["value"] (defScope (top 20)) := ⟨rfl, rfl, rfl, by decide +kernel, rfl, by decide +kernel, by decide +kernel⟩
theorem sc_total_of : FnScope ["lengths"] ["lengths"] (defScope (top 21)) := ⟨rfl, rfl, rfl, by decide +kernel, rfl, by decide +kernel, by decide +kernel⟩
theorem sc_are_lengths : FnScope ["value", "length"] ["value"] (defScope (top 22)) := ⟨rfl, rfl, rfl, by decide +kernel, rfl, by decide +kernel, by decide +kernel⟩
theorem sc_is_text : FnScope ["value"] ["value"] (defScope (top 23)) := ⟨rfl, rfl, rfl, by decide +kernel, rfl, by decide +kernel, by decide +kernel⟩
theorem sc_require_text : FnScope ["text"] ["text"] (defScope (top 24)) := ⟨rfl, rfl, rfl, by decide +kernel, rfl, by decide +kernel, by decide +kernel⟩
theorem sc_require_width : FnScope ["width"] ["width"] (defScope (top 25)) := ⟨rfl, rfl, rfl, by decide +kernel, rfl, by decide +kernel, by decide +kernel⟩
theorem sc_ends_of : FnScope ["lengths", "found", "position", "length"] ["lengths"] (defScope (top 26)) := ⟨rfl, rfl, rfl, by decide +kernel, rfl, by decide +kernel, by decide +kernel⟩
theorem sc_starts_of : FnScope ["ends", "end"] ["ends"] (defScope (top 27)) := ⟨rfl, rfl, rfl, by decide +kernel, rfl, by decide +kernel, by decide +kernel⟩
theorem sc_lengths_of : FnScope ["ends", "start", "end"] ["ends"] (defScope (top 28)) := ⟨rfl, rfl, rfl, by decide +kernel, rfl, by decide +kernel, by decide +kernel⟩
theorem sc_wrapped_ends : FnScope ["stops", "width", "found", "start", "stop", "following"] ["stops", "width"] (defScope (top 29)) := ⟨rfl, rfl, rfl, by decide +kernel, rfl, by decide +kernel, by decide +kernel⟩
theorem sc_wrap_of : FnScope ["text", "width"] ["text", "width"] (defScope (top 30)) := ⟨rfl, rfl, rfl, by decide +kernel, rfl, by decide +kernel, by decide +kernel⟩
theorem sc_wrap_text : FnScope ["text", "width"] ["text", "width"] (defScope (top 31)) := ⟨rfl, rfl, rfl, by decide +kernel, rfl, by decide +kernel, by decide +kernel⟩
theorem sc_require_word : FnScope ["text", "word"] ["text", "word"] (defScope (top 33)) := ⟨rfl, rfl, rfl, by decide +kernel, rfl, by decide +kernel, by decide +kernel⟩
theorem sc_wrap_from : FnScope ["text", "width", "word"] ["text", "width", "word"] (defScope (top 34)) := ⟨rfl, rfl, rfl, by decide +kernel, rfl, by decide +kernel, by decide +kernel⟩
theorem sc_first_words : FnScope ["text", "width", "word", "found", "length"] ["text", "width", "word"] (defScope (top 35)) := ⟨rfl, rfl, rfl, by decide +kernel, rfl, by decide +kernel, by decide +kernel⟩
theorem sc_meeting_word : FnScope ["text", "width", "first", "second", "others", "common", "word"] ["text", "width", "first", "second"] (defScope (top 36)) := ⟨rfl, rfl, rfl, by decide +kernel, rfl, by decide +kernel, by decide +kernel⟩
theorem sc_replace_words : FnScope ["text", "first", "count", "words"] ["text", "first", "count", "words"] (defScope (top 37)) := ⟨rfl, rfl, rfl, by decide +kernel, rfl, by decide +kernel, by decide +kernel⟩
theorem sc_common_count : FnScope ["one", "other", "count"] ["one", "other"] (defScope (top 38)) := ⟨rfl, rfl, rfl, by decide +kernel, rfl, by decide +kernel, by decide +kernel⟩
theorem sc_changed_lines : FnScope ["text", "other", "width", "one", "two", "begun"] ["text", "other", "width"] (defScope (top 39)) := ⟨rfl, rfl, rfl, by decide +kernel, rfl, by decide +kernel, by decide +kernel⟩
theorem sc__law_deck : FnScope ["script", "pools", "k", "cell"] ["script"] (defScope (top 41)) := ⟨rfl, rfl, rfl, by decide +kernel, rfl, by decide +kernel, by decide +kernel⟩
theorem sc__law_draw : FnScope ["deck", "many", "pool", "found", "mixed"] ["deck", "many"] (defScope (top 42)) := ⟨rfl, rfl, rfl, by decide +kernel, rfl, by decide +kernel, by decide +kernel⟩
theorem sc__law_span : FnScope ["sizes"] ["sizes"] (defScope (top 43)) := ⟨rfl, rfl, rfl, by decide +kernel, rfl, by decide +kernel, by decide +kernel⟩
theorem sc__law_plan : FnScope ["deck", "most", "longest", "found", "turn", "more"] ["deck", "most", "longest"] (defScope (top 44)) := ⟨rfl, rfl, rfl, by decide +kernel, rfl, by decide +kernel, by decide +kernel⟩
theorem sc__law_word_of : FnScope ["e", "words_here", "is_base"] ["e"] (defScope (top 45)) := ⟨rfl, rfl, rfl, by decide +kernel, rfl, by decide +kernel, by decide +kernel⟩
theorem sc__law_told : FnScope ["door", "parts", "e"] ["door", "parts"] (defScope (top 46)) := ⟨rfl, rfl, rfl, by decide +kernel, rfl, by decide +kernel, by decide +kernel⟩
theorem sc__law_told_named : FnScope ["door", "parts", "e"] ["door", "parts"] (defScope (top 47)) := ⟨rfl, rfl, rfl, by decide +kernel, rfl, by decide +kernel, by decide +kernel⟩
theorem sc__law_no_plan : FnScope ["deck", "plan", "odd", "at", "whole"] ["deck", "plan"] (defScope (top 48)) := ⟨rfl, rfl, rfl, by decide +kernel, rfl, by decide +kernel, by decide +kernel⟩
theorem sc__law_bad : FnScope ["deck", "kind", "plan", "odd", "good", "at", "inside", "step"] ["deck", "kind", "plan"] (defScope (top 49)) := ⟨rfl, rfl, rfl, by decide +kernel, rfl, by decide +kernel, by decide +kernel⟩
theorem sc_law : FnScope ["script", "deck", "turn", "plan", "more", "wide", "at", "to", "rows", "door", "kinds", "good", "step", "wrong", "parts", "k", "kept", "due", "found", "kind", "value_here"] ["script"] (defScope (top 50)) := ⟨rfl, rfl, rfl, by decide +kernel, rfl, by decide +kernel, by decide +kernel⟩
/-! ### promises -/
def isIntV (v : V) (lo : Int) (hi : V) : Bool := match v with
  | .int i => decide (lo ≤ i) && (match hi with
    | .int h => decide (i ≤ h)
    | _ => true)
  | _ => false
structure sp_is_integer (K : PySem.W.Frag) (vs : List V) (H : Hp) (Q : VK) (E : XK) : Prop where
  h : ∃ v o lo hi, vs = [v, .int lo, hi] ∧ Av K H v o ∧ (hi = .non ∨ ∃ h, hi = .int h) ∧ Q (.bl (isIntV v lo hi)) H

def isWidth (v : V) : Bool := isIntV v 1 (.int 1000)
structure sp_is_width (K : PySem.W.Frag) (vs : List V) (H : Hp) (Q : VK) (E : XK) : Prop where
  h : ∃ v o, vs = [v] ∧ Av K H v o ∧ Q (.bl (isWidth v)) H
theorem isWidth_ok {w : Int} (h1 : 1 ≤ w) (h2 : w ≤ 1000) : isWidth (.int w) = true := by
  simp [isWidth, isIntV, h1, h2]

structure sp_total_of (K : PySem.W.Frag) (vs : List V) (H : Hp) (Q : VK) (E : XK) : Prop where
  h : ∃ a ns, vs = [.ref a] ∧ SqL K H a (iV ns) ∧ Q (.int (total ns)) H

theorem shaped_item {d : PyData} {ds : List PyData} (h : SeqAt.shaped (.list ds) = true) (hm : d ∈ ds) : SeqAt.shaped d = true := by
  unfold SeqAt.shaped at h ⊢
  rw [Bool.and_eq_true] at h ⊢
  obtain ⟨h1, h2⟩ := h
  have h2' := of_decide_eq_true h2
  rw [PyData.depth] at h2'
  rw [PyData.canLay0] at h1
  constructor
  · clear h2 h2'
    induction ds with
    | nil => cases hm
    | cons e ds ih =>
      have h1' : e.canLay0 = true ∧ PyData.canLayAll0 ds = true := by simpa [PyData.canLayAll0] using h1
      rcases List.mem_cons.mp hm with rfl | hm
      · exact h1'.1
      · exact ih hm h1'.2
  · refine decide_eq_true ?_
    have : d.depth ≤ PyData.depthAll ds := by
      clear h1 h2 h2'
      induction ds with
      | nil => cases hm
      | cons e ds ih =>
        rw [PyData.depthAll]
        rcases List.mem_cons.mp hm with rfl | hm
        · exact Nat.le_max_left _ _
        · exact Nat.le_trans (ih hm) (Nat.le_max_right _ _)
    omega
structure sp_are_lengths (K : PySem.W.Frag) (vs : List V) (H : Hp) (Q : VK) (E : XK) : Prop where
  h : ∃ v o, vs = [v] ∧ Av K H v o ∧ (∀ ds, o = some (.list ds) → ds.length ≤ sizeLine) ∧ ∀ H', Same H H' → Q (.bl (areLengths o)) H'

def sp_is_text (K : PySem.W.Frag) : Sp := sp_are_lengths K

structure sp_require_text (K : PySem.W.Frag) (vs : List V) (H : Hp) (Q : VK) (E : XK) : Prop where
  h : ∃ v o, vs = [v] ∧ Av K H v o ∧ (∀ ds, o = some (.list ds) → ds.length ≤ sizeLine) ∧ (areLengths o = true → ∀ H', Same H H' → Q .non H') ∧ (areLengths o = false → ∀ H', Same H H' → E (xc K "InvalidText") none H')

structure sp_require_width (K : PySem.W.Frag) (vs : List V) (H : Hp) (Q : VK) (E : XK) : Prop where
  h : ∃ v o, vs = [v] ∧ Av K H v o ∧ (isWidth v = true → Q .non H) ∧ (isWidth v = false → E (xc K "InvalidWidth") none H)

structure sp_ends_of (K : PySem.W.Frag) (vs : List V) (H : Hp) (Q : VK) (E : XK) : Prop where
  h : ∃ a ns, vs = [.ref a] ∧ SqL K H a (iV ns) ∧ ns.length ≤ sizeLine ∧ ∀ p H', H p = none → Same H H' → IL H' p (endsOf ns) → Q (.ref p) H'

structure sp_starts_of (K : PySem.W.Frag) (vs : List V) (H : Hp) (Q : VK) (E : XK) : Prop where
  h : ∃ a es, vs = [.ref a] ∧ SqL K H a (iV es) ∧ es.length ≤ 100000 ∧ ∀ p H', H p = none → Same H H' → IL H' p (startsOf es) → Q (.ref p) H'

theorem lenFrom_get : ∀ (es : List Int) (p : Int) (i : Nat) (s e : Int), (p :: es.dropLast.map (· + 1))[i]? = some s → es[i]? = some e → (lenFrom p es)[i]? = some (e - s)
  | [], _, _, _, _, _, h => by simp at h
  | e :: r, p, 0, s, e', h1, h2 => by
    simp at h1 h2
    subst h1 h2
    rfl
  | e :: r, p, i + 1, s, e', h1, h2 => by
    have h2' : r[i]? = some e' := by simpa using h2
    have hr : r ≠ [] := by
      rintro rfl
      simp at h2'
    show (lenFrom (e + 1) r)[i]? = _
    refine lenFrom_get r (e + 1) i s e' ?_ h2'
    obtain ⟨x, r', rfl⟩ := List.exists_cons_of_ne_nil hr
    simpa using h1
structure sp_lengths_of (K : PySem.W.Frag) (vs : List V) (H : Hp) (Q : VK) (E : XK) : Prop where
  h : ∃ a es, vs = [.ref a] ∧ SqL K H a (iV es) ∧ es ≠ [] ∧ es.length ≤ 100000 ∧ ∀ p H', H p = none → Same H H' → IL H' p (lengthsOf es) → Q (.ref p) H'

theorem drop_end {α : Type} {xs : List α} (h : xs ≠ []) : xs.drop (xs.length - 1) = [xs.getLast h] := by
  have e := List.dropLast_concat_getLast h
  have e2 : xs.length - 1 = xs.dropLast.length := by rw [List.length_dropLast]
  rw [e2]
  conv => lhs; rw [← e]
  simp
theorem wrapGo_drop (w start s t : Int) (stops : List Int) (i : Nat) (hs : stops[i]? = some s) (ht : stops[i + 1]? = some t) : wrapGo w start (stops.drop i) = if t > start + w then s :: wrapGo w (s + 1) (stops.drop (i + 1)) else wrapGo w start (stops.drop (i + 1)) := by
  have h1 : i < stops.length := (List.getElem?_eq_some_iff.mp hs).1
  have h2 : i + 1 < stops.length := (List.getElem?_eq_some_iff.mp ht).1
  have e2 : stops.drop (i + 1) = t :: stops.drop (i + 2) := by
    rw [List.drop_eq_getElem_cons h2]
    rw [List.getElem?_eq_getElem h2] at ht
    rw [Option.some.inj ht]
  have e1 : stops.drop i = s :: stops.drop (i + 1) := by
    rw [List.drop_eq_getElem_cons h1]
    rw [List.getElem?_eq_getElem h1] at hs
    rw [Option.some.inj hs]
  rw [e1, e2]
  rfl
structure sp_wrapped_ends (K : PySem.W.Frag) (vs : List V) (H : Hp) (Q : VK) (E : XK) : Prop where
  h : ∃ a stops w, vs = [.ref a, .int w] ∧ SqL K H a (iV stops) ∧ stops ≠ [] ∧ stops.length ≤ 100000 ∧ ∀ p H', H p = none → Same H H' → IL H' p (wrappedEnds stops w) → Q (.ref p) H'

structure sp_wrap_of (K : PySem.W.Frag) (vs : List V) (H : Hp) (Q : VK) (E : XK) : Prop where
  h : ∃ a ns w, vs = [.ref a, .int w] ∧ SqL K H a (iV ns) ∧ ns ≠ [] ∧ ns.length ≤ 100000 ∧ ∀ p H', H p = none → Same H H' → IL H' p (lawWrap ns w) → Q (.ref p) H'

structure sp_wrap_text (K : PySem.W.Frag) (vs : List V) (H : Hp) (Q : VK) (E : XK) : Prop where
  h : ∃ v o wv wo, vs = [v, wv] ∧ Av K H v o ∧ (∀ ds, o = some (.list ds) → ds.length ≤ sizeLine) ∧ (∀ H', Same H H' → Av K H' wv wo) ∧
  (areLengths o = true → isWidth wv = true → ∃ a ns w, v = .ref a ∧ wv = .int w ∧ SqL K H a (iV ns) ∧ ns ≠ [] ∧ ns.length ≤ 100000 ∧ ∀ p H', H p = none → Same H H' → IL H' p (lawWrap ns w) → Q (.ref p) H') ∧
  (areLengths o = false → ∀ H', Same H H' → E (xc K "InvalidText") none H') ∧ (areLengths o = true → isWidth wv = false → ∀ H', Same H H' → E (xc K "InvalidWidth") none H')
theorem wrap_text_ok {K : PySem.W.Frag} {H : Hp} {Q : VK} {E : XK} {w : Addr} {ws : List Int} {wd : Int} (hS : SqL K H w (iV ws)) (ht : Txt' ws) (h1 : 1 ≤ wd) (h2 : wd ≤ 1000) (q : ∀ p H', H p = none → Same H H' → IL H' p (lawWrap ws wd) → Q (.ref p) H') : sp_wrap_text K [.ref w, .int wd] H Q E := by
  have hl := ht.len
  refine ⟨.ref w, _, .int wd, some (.int wd), rfl, av_ints hS, lenLine (by omega), (fun H' _ => .d (.int _) rfl), fun _ _ => ⟨w, ws, wd, rfl, rfl, hS, ht.1, by omega, q⟩, fun c => ?_, fun _ c => ?_⟩
  · rw [ht.yes] at c
    cases c
  · rw [isWidth_ok h1 h2] at c
    cases c

def isWord (v : V) (n : Nat) : Bool := isIntV v 0 (.int ((n : Int) - 1))
structure sp_require_word (K : PySem.W.Frag) (vs : List V) (H : Hp) (Q : VK) (E : XK) : Prop where
  h : ∃ a ns v o, vs = [.ref a, v] ∧ SqL K H a (iV ns) ∧ Av K H v o ∧ (isWord v ns.length = true → Q .non H) ∧ (isWord v ns.length = false → E (xc K "InvalidIndex") none H)

structure sp_wrap_from (K : PySem.W.Frag) (vs : List V) (H : Hp) (Q : VK) (E : XK) : Prop where
  h : ∃ v o wv wo xv xo, vs = [v, wv, xv] ∧ Av K H v o ∧ (∀ ds, o = some (.list ds) → ds.length ≤ sizeLine) ∧ (∀ H', Same H H' → Av K H' wv wo) ∧ (∀ H', Same H H' → Av K H' xv xo) ∧
  (areLengths o = true → isWidth wv = true → ∃ a ns w, v = .ref a ∧ wv = .int w ∧ SqL K H a (iV ns) ∧ Txt' ns ∧
    (isWord xv ns.length = true → ∃ i : Int, xv = .int i ∧ ∀ p H', H p = none → Same H H' → IL H' p (lawWrap (ns.drop i.toNat) w) → Q (.ref p) H') ∧ (isWord xv ns.length = false → ∀ H', Same H H' → E (xc K "InvalidIndex") none H')) ∧
  (areLengths o = false → ∀ H', Same H H' → E (xc K "InvalidText") none H') ∧ (areLengths o = true → isWidth wv = false → ∀ H', Same H H' → E (xc K "InvalidWidth") none H')
theorem wrap_from_ok {K : PySem.W.Frag} {H : Hp} {Q : VK} {E : XK} {w : Addr} {ws : List Int} {wd i : Int} (hS : SqL K H w (iV ws)) (ht : Txt' ws) (h1 : 1 ≤ wd) (h2 : wd ≤ 1000) (i1 : 0 ≤ i) (i2 : i < ws.length) (q : ∀ p H', H p = none → Same H H' → IL H' p (lawWrap (ws.drop i.toNat) wd) → Q (.ref p) H') : sp_wrap_from K [.ref w, .int wd, .int i] H Q E := by
  have hl := ht.len
  have hw : isWord (.int i) ws.length = true := by
    simp only [isWord, isIntV, Bool.and_eq_true, decide_eq_true_eq]
    omega
  refine ⟨.ref w, _, .int wd, some (.int wd), .int i, some (.int i), rfl, av_ints hS, lenLine (by omega), (fun H' _ => .d (.int _) rfl), (fun H' _ => .d (.int _) rfl), fun _ _ => ⟨w, ws, wd, rfl, rfl, hS, ht, fun _ => ⟨i, rfl, q⟩, fun c => ?_⟩, fun c => ?_, fun _ c => ?_⟩
  · rw [hw] at c
    cases c
  · rw [ht.yes] at c
    cases c
  · rw [isWidth_ok h1 h2] at c
    cases c

structure sp_first_words (K : PySem.W.Frag) (vs : List V) (H : Hp) (Q : VK) (E : XK) : Prop where
  h : ∃ a ns w k, vs = [.ref a, .int w, .int k] ∧ SqL K H a (iV ns) ∧ ns.length ≤ 100000 ∧ 0 ≤ k ∧ ∀ p H', H p = none → Same H H' → IL H' p (firstsOf ns w k.toNat) → Q (.ref p) H'

structure sp_meeting_word (K : PySem.W.Frag) (vs : List V) (H : Hp) (Q : VK) (E : XK) : Prop where
  h : ∃ v o wv wo xv xo yv yo, vs = [v, wv, xv, yv] ∧ Av K H v o ∧ (∀ ds, o = some (.list ds) → ds.length ≤ sizeLine) ∧ (∀ H', Same H H' → Av K H' wv wo) ∧ (∀ H', Same H H' → Av K H' xv xo) ∧ (∀ H', Same H H' → Av K H' yv yo) ∧
  (areLengths o = true → isWidth wv = true → ∃ a ns w, v = .ref a ∧ wv = .int w ∧ SqL K H a (iV ns) ∧ Txt' ns ∧
    (isWord xv ns.length = true → isWord yv ns.length = true → ∃ i j : Int, xv = .int i ∧ yv = .int j ∧ ∀ H', Same H H' → Q (optV (meetOf ns w i.toNat j.toNat)) H') ∧ ((isWord xv ns.length && isWord yv ns.length) = false → ∀ H', Same H H' → E (xc K "InvalidIndex") none H')) ∧
  (areLengths o = false → ∀ H', Same H H' → E (xc K "InvalidText") none H') ∧ (areLengths o = true → isWidth wv = false → ∀ H', Same H H' → E (xc K "InvalidWidth") none H')
theorem meeting_word_ok {K : PySem.W.Frag} {H : Hp} {Q : VK} {E : XK} {w : Addr} {ws : List Int} {wd i j : Int} (hS : SqL K H w (iV ws)) (ht : Txt' ws) (h1 : 1 ≤ wd) (h2 : wd ≤ 1000) (i1 : 0 ≤ i) (i2 : i < ws.length) (j1 : 0 ≤ j) (j2 : j < ws.length) (q : ∀ H', Same H H' → Q (optV (meetOf ws wd i.toNat j.toNat)) H') : sp_meeting_word K [.ref w, .int wd, .int i, .int j] H Q E := by
  have hl := ht.len
  have hw : ∀ i : Int, 0 ≤ i → i < ws.length → isWord (.int i) ws.length = true := by
    intro i a b
    simp only [isWord, isIntV, Bool.and_eq_true, decide_eq_true_eq]
    omega
  refine ⟨.ref w, _, .int wd, some (.int wd), .int i, some (.int i), .int j, some (.int j), rfl, av_ints hS, lenLine (by omega), (fun H' _ => .d (.int _) rfl), (fun H' _ => .d (.int _) rfl), (fun H' _ => .d (.int _) rfl), fun _ _ => ⟨w, ws, wd, rfl, rfl, hS, ht, fun _ _ => ⟨i, j, rfl, rfl, q⟩, fun c => ?_⟩, fun c => ?_, fun _ c => ?_⟩
  · rw [hw i i1 i2, hw j j1 j2] at c
    cases c
  · rw [ht.yes] at c
    cases c
  · rw [isWidth_ok h1 h2] at c
    cases c

structure sp_replace_words (K : PySem.W.Frag) (vs : List V) (H : Hp) (Q : VK) (E : XK) : Prop where
  h : ∃ v o fv fo cv co wv wo, vs = [v, fv, cv, wv] ∧ Av K H v o ∧ (∀ ds, o = some (.list ds) → ds.length ≤ sizeLine) ∧ (∀ H', Same H H' → Av K H' fv fo) ∧ (∀ H', Same H H' → Av K H' cv co) ∧ (∀ H', Same H H' → Av K H' wv wo) ∧
  (∀ ds, wo = some (.list ds) → ds.length ≤ 5000 ∧ ∃ b xs, wv = .ref b ∧ H b = some (.lst xs) ∧ ∀ H', Same H H' → DpAll K H' xs ds) ∧
  (areLengths o = true → ∃ a ns, v = .ref a ∧ SqL K H a (iV ns) ∧ Txt' ns ∧ (isIntV fv 0 (.int ns.length) = false → ∀ H', Same H H' → E (xc K "InvalidIndex") none H') ∧
    ∀ f, fv = .int f → isIntV fv 0 (.int ns.length) = true → (isIntV cv 0 (.int (ns.length - f)) = false → ∀ H', Same H H' → E (xc K "InvalidNumber") none H') ∧
      ∀ c, cv = .int c → isIntV cv 0 (.int (ns.length - f)) = true → (replOf ns f.toNat c.toNat wo = none → ∀ H', Same H H' → E (xc K "InvalidLengths") none H') ∧
        ∀ t, replOf ns f.toNat c.toNat wo = some t → ∀ p H', H p = none → Same H H' → IL H' p t → Q (.ref p) H') ∧
  (areLengths o = false → ∀ H', Same H H' → E (xc K "InvalidText") none H')
theorem replace_words_of {K : PySem.W.Frag} {H : Hp} {Q : VK} {E : XK} {w b : Addr} {ws ms : List Int} {f c : Int} (hS : SqL K H w (iV ws)) (ht : Txt' ws) (hb : IL H b ms) (hm : ms.length ≤ 5000) (f1 : 0 ≤ f) (f2 : f ≤ ws.length) (c1 : 0 ≤ c) (c2 : c ≤ ws.length - f)
    (q : Txt' (ws.take f.toNat ++ ms ++ ws.drop (f.toNat + c.toNat)) → ∀ p H', H p = none → Same H H' → IL H' p (ws.take f.toNat ++ ms ++ ws.drop (f.toNat + c.toNat)) → Q (.ref p) H')
    (qe : ¬ Txt' (ws.take f.toNat ++ ms ++ ws.drop (f.toNat + c.toNat)) → ∀ H', Same H H' → E (xc K "InvalidLengths") none H') : sp_replace_words K [.ref w, .int f, .int c, .ref b] H Q E := by
  have hl := ht.len
  have hf : isIntV (.int f) 0 (.int ws.length) = true := by
    simp only [isIntV, Bool.and_eq_true, decide_eq_true_eq]
    omega
  have hc : isIntV (.int c) 0 (.int (ws.length - f)) = true := by
    simp only [isIntV, Bool.and_eq_true, decide_eq_true_eq]
    omega
  obtain ⟨r1, r2⟩ := replOf_ints ws f.toNat c.toNat ms
  refine ⟨.ref w, _, .int f, some (.int f), .int c, some (.int c), .ref b, some (.list (ms.map .int)), rfl, av_ints hS, lenLine (by omega), (fun H' _ => .d (.int _) rfl), (fun H' _ => .d (.int _) rfl), (fun H' s => av_ints (hb.same s).seq), fun ds e => ?_, fun _ => ⟨w, ws, rfl, hS, ht, fun h => ?_, fun f' ef _ => ?_⟩, fun h => ?_⟩
  · injection e with e
    injection e with e
    subst e
    exact ⟨by rw [List.length_map]; exact hm, b, _, rfl, hb, fun H' _ => dpAll_ints ms⟩
  · rw [hf] at h
    cases h
  · injection ef with ef
    subst ef
    refine ⟨fun h => ?_, fun c' ec _ => ?_⟩
    · rw [hc] at h
      cases h
    · injection ec with ec
      subst ec
      refine ⟨fun h H' s => qe (fun g => ?_) H' s, fun t h p H' n s e => ?_⟩
      · rw [r1 g] at h
        cases h
      · by_cases g : Txt' (ws.take f.toNat ++ ms ++ ws.drop (f.toNat + c.toNat))
        · rw [r1 g] at h
          rw [← Option.some.inj h] at e
          exact q g p H' n s e
        · rw [r2 g] at h
          cases h
  · rw [ht.yes] at h
    cases h

structure sp_common_count (K : PySem.W.Frag) (vs : List V) (H : Hp) (Q : VK) (E : XK) : Prop where
  h : ∃ a b xs ys, vs = [.ref a, .ref b] ∧ SqL K H a (iV xs) ∧ SqL K H b (iV ys) ∧ Q (.int (comPre xs ys)) H

structure sp_changed_lines (K : PySem.W.Frag) (vs : List V) (H : Hp) (Q : VK) (E : XK) : Prop where
  h : ∃ v o v2 o2 wv wo, vs = [v, v2, wv] ∧ Av K H v o ∧ (∀ ds, o = some (.list ds) → ds.length ≤ sizeLine) ∧ (∀ H', Same H H' → Av K H' v2 o2) ∧ (∀ ds, o2 = some (.list ds) → ds.length ≤ sizeLine) ∧ (∀ H', Same H H' → Av K H' wv wo) ∧
  (areLengths o = true → areLengths o2 = true → isWidth wv = true → ∃ a ns b ms w, v = .ref a ∧ v2 = .ref b ∧ wv = .int w ∧ SqL K H a (iV ns) ∧ Txt' ns ∧ SqL K H b (iV ms) ∧ Txt' ms ∧
    ∀ t H', H t = none → Same H H' → H' t = some (.tup [.int (chgOf ns ms w).1, .int (chgOf ns ms w).2]) → Q (.ref t) H') ∧
  (areLengths o = false → ∀ H', Same H H' → E (xc K "InvalidText") none H') ∧ (areLengths o = true → areLengths o2 = false → ∀ H', Same H H' → E (xc K "InvalidText") none H') ∧ (areLengths o = true → areLengths o2 = true → isWidth wv = false → ∀ H', Same H H' → E (xc K "InvalidWidth") none H')
theorem changed_lines_ok {K : PySem.W.Frag} {H : Hp} {Q : VK} {E : XK} {w b : Addr} {ws ms : List Int} {wd : Int} (hS : SqL K H w (iV ws)) (ht : Txt' ws) (hB : SqL K H b (iV ms)) (hm : Txt' ms) (h1 : 1 ≤ wd) (h2 : wd ≤ 1000)
    (q : ∀ t H', H t = none → Same H H' → H' t = some (.tup [.int (chgOf ws ms wd).1, .int (chgOf ws ms wd).2]) → Q (.ref t) H') : sp_changed_lines K [.ref w, .ref b, .int wd] H Q E := by
  have hl := ht.len
  have hl2 := hm.len
  refine ⟨.ref w, _, .ref b, _, .int wd, some (.int wd), rfl, av_ints hS, lenLine (by omega), (fun H' s => av_ints (s.seq hB)), lenLine (by omega), (fun H' _ => .d (.int _) rfl), fun _ _ _ => ⟨w, ws, b, ms, wd, rfl, rfl, rfl, hS, ht, hB, hm, q⟩, fun c => ?_, fun _ c => ?_, fun _ _ c => ?_⟩
  · rw [ht.yes] at c
    cases c
  · rw [hm.yes] at c
    cases c
  · rw [isWidth_ok h1 h2] at c
    cases c

structure sp__law_deck (K : PySem.W.Frag) (vs : List V) (H : Hp) (Q : VK) (E : XK) : Prop where
  h : ∃ a ns, vs = [.ref a] ∧ SqL K H a (iV ns) ∧ ns.length ≤ 63 ∧ ∀ b qs H', (∀ x ∈ b :: qs, H x = none) → Same H H' → Deck H' b qs 0 → Q (.ref b) H'

structure sp__law_draw (K : PySem.W.Frag) (vs : List V) (H : Hp) (Q : VK) (E : XK) : Prop where
  h : ∃ a qs n many, vs = [.ref a, .int many] ∧ Deck H a qs n ∧ n ≤ 2 ^ 50 ∧ 1 ≤ many ∧ (many < 2 ^ 29 ∨ many.natAbs.log2 < 9000) ∧ ∀ r H', 0 ≤ r → r < many → Deck H' a qs (n + 1) → SameS (a :: qs) H H' → Q (.int r) H'
theorem draw_ints {K : PySem.W.Frag} {E : XK} {H : Hp} {Q : VK} {σ : L2.St} {j : Nat} {b : Addr} {qs : List Addr} {n : Nat} (ds : List Int) {c : Int} (hσ : σ[j]? = some (some (.ref b))) (hD : Deck H b qs n) (hn : n ≤ 2 ^ 40) (hc : (ds.length : Int) = c) (h1 : 1 ≤ ds.length) (h2 : ds.length ≤ 1000)
    (q : ∀ d H', d ∈ ds → Deck H' b qs (n + 1) → SameS (b :: qs) H H' → Q (.int d) H') : tOp (rIxL K) (tLst (tInts ds)) (tCall (sp__law_draw K) [] E (tCons (tVar j) (tCons (tC (.int c)) tNil))) σ H Q := by
  have hz : sizeLine = 16777216 := by decide
  have e40 : (2 : Nat) ^ 40 = 1099511627776 := by decide
  have e50 : (2 : Nat) ^ 50 = 1125899906842624 := by decide
  rw [e40] at hn
  refine tInts_go _ ⟨by rw [List.length_map]; omega, fun t nt => ⟨_, hσ, b, qs, n, c, rfl, hD.new nt, by omega, by omega, by omega, fun r H2 r0 r1 D2 s2 => ?_⟩⟩
  obtain ⟨d, hd⟩ : ∃ d, ds[r.toNat]? = some d := ⟨_, List.getElem?_eq_getElem (by omega)⟩
  exact ⟨t, _, _, _, rfl, rfl, .inl (.inl (s2.at (hD.fresh nt) upd_same)), atI_int (atI_nn r0 hd), q d H2 (List.mem_of_getElem? hd) D2 ((SameS.of (same_new nt)).trans s2)⟩
theorem draw_pairs {K : PySem.W.Frag} {E : XK} {H : Hp} {Q : VK} {σ : L2.St} {j : Nat} {b : Addr} {qs : List Addr} {n : Nat} (ps : List (Int × Int)) {c : Int} (hσ : σ[j]? = some (some (.ref b))) (hD : Deck H b qs n) (hn : n ≤ 2 ^ 40) (hc : (ps.length : Int) = c) (h1 : 1 ≤ ps.length) (h2 : ps.length ≤ 1000)
    (q : ∀ x y t H', (x, y) ∈ ps → H' t = some (.tup [.int x, .int y]) → Deck H' b qs (n + 1) → SameS (b :: qs) H H' → Q (.ref t) H') : tOp (rIxL K) (tLst (tPairs ps)) (tCall (sp__law_draw K) [] E (tCons (tVar j) (tCons (tC (.int c)) tNil))) σ H Q := by
  have hz : sizeLine = 16777216 := by decide
  have e40 : (2 : Nat) ^ 40 = 1099511627776 := by decide
  have e50 : (2 : Nat) ^ 50 = 1125899906842624 := by decide
  rw [e40] at hn
  refine tPairs_go fun ts H1 hl s1 hs => ⟨by omega, fun t nt => ⟨_, hσ, b, qs, n, c, rfl, (hD.same s1).new nt, by omega, by omega, by omega, fun r H2 r0 r1 D2 s2 => ?_⟩⟩
  obtain ⟨v, hv⟩ : ∃ d, ts[r.toNat]? = some d := ⟨_, List.getElem?_eq_getElem (by omega)⟩
  obtain ⟨t', x, y, rfl, hm, ht⟩ := hs _ _ hv
  have f1 := (hD.same s1).fresh nt
  refine ⟨t, _, _, _, rfl, rfl, .inl (.inl (s2.at f1 upd_same)), atI_nn r0 hv, q x y t' H2 hm ?_ D2 ((SameS.of (s1.trans (same_new nt))).trans s2)⟩
  -- a pair's tuple is none of the deck's
  have D1 := hD.same s1
  have ns : t' ∉ b :: qs := by
    obtain ⟨⟨p0, ps0, t0, rfl, e1, e2, _, _, _, e6⟩, _⟩ := D1
    intro hm'
    rcases List.mem_cons.mp hm' with rfl | hm'
    · rw [ht] at e1
      cases e1
    · rcases List.mem_cons.mp hm' with rfl | hm'
      · rw [ht] at e2
        cases e2
      · obtain ⟨_, _, _, e, _⟩ := e6 t' hm'
        rw [ht] at e
        cases e
  exact s2.at ns (at_new ht nt)

structure sp__law_span (K : PySem.W.Frag) (vs : List V) (H : Hp) (Q : VK) (E : XK) : Prop where
  h : ∃ a ns, vs = [.ref a] ∧ SqL K H a (iV ns) ∧ Q (.int (total ns)) H

structure sp__law_plan (K : PySem.W.Frag) (vs : List V) (H : Hp) (Q : VK) (E : XK) : Prop where
  h : ∃ a qs n most longest, vs = [.ref a, .int most, .int longest] ∧ Deck H a qs n ∧ n ≤ 2 ^ 40 ∧ 1 ≤ most ∧ most ≤ 1000 ∧ 1 ≤ longest ∧ longest ≤ 600 ∧
  ∀ p ws H', H p = none → SameS (a :: qs) H H' → Deck H' a qs (n + 5000) → IL H' p ws → Txt' ws → (ws.length : Int) ≤ most → (∀ m ∈ ws, m ≤ longest ∨ m ≤ 5) → Q (.ref p) H'

def wordOf (x : Str) : Str := if x = "InvalidIndex" then "index" else if x = "InvalidLengths" then "lengths" else if x = "InvalidNumber" then "number" else if x = "InvalidText" then "text" else "width"
section
variable {xs ys : List Str} {K : PySem.W.Frag} {a : Addr} {x y : Str} {σ : L2.St} {H : Hp} {t1 u : TS} {D : Ends}
theorem ask_no (ok : ExcsOk xs ys K) (hx : x ∈ xs) (hy : y ∈ ys) (ne : x ≠ y) (hσ : σ[0]? = some (some (.ref a))) (ha : H a = some (ExR (xc K x) none a)) (k : u D σ H) :
    tSeq (tIfS (tB (tCB (rIsX K) (tCons (tVar 0) (tCons (tC (.ref (He.ga K y))) tNil)))) t1 tNext) u D σ H := by
  refine ⟨_, hσ, a, He.ga K x, .ref (He.ga K y), .ref (He.ga K y), decide (x = y), rfl, ha, ok.c x hx, .own _, ok.k x hx y hy, _, rfl, ?_⟩
  exact ifF (decide_eq_false ne) k
theorem ask_yes (ok : ExcsOk xs ys K) (hx : x ∈ xs) (hy : x ∈ ys) (hσ : σ[0]? = some (some (.ref a))) (ha : H a = some (ExR (xc K x) none a)) (k : t1 { D with nx := u D } σ H) :
    tSeq (tIfS (tB (tCB (rIsX K) (tCons (tVar 0) (tCons (tC (.ref (He.ga K x))) tNil)))) t1 tNext) u D σ H := by
  refine ⟨_, hσ, a, He.ga K x, .ref (He.ga K x), .ref (He.ga K x), decide (x = x), rfl, ha, ok.c x hx, .own _, ok.k x hx x hy, _, rfl, ?_⟩
  exact ifT (decide_eq_true rfl) k
end
structure sp__law_word_of (K : PySem.W.Frag) (vs : List V) (H : Hp) (Q : VK) (E : XK) : Prop where
  h : ∃ a x, vs = [.ref a] ∧ H a = some (ExR (xc K x) none a) ∧ x ∈ (["InvalidIndex", "InvalidLengths", "InvalidNumber", "InvalidText", "InvalidWidth"] : List Str) ∧ ∀ H', Same H H' → Q (.str (wordOf x)) H'

def nOf (o : Option PyData) : Int := match o with | some (.list ds) => (ds.length : Int) | _ => 0
def intsD (o : Option PyData) : List Int := match o with | some (.list ds) => ds.map (fun d => match d with | .int i => i | _ => 0) | _ => []
def iOf (v : V) : Int := match v with | .int i => i | _ => 0
theorem nOf_ints (ns : List Int) : nOf (some (.list (ns.map .int))) = (ns.length : Int) := by
  show ((ns.map PyData.int).length : Int) = _
  rw [List.length_map]
theorem intsD_ints (ns : List Int) : intsD (some (.list (ns.map .int))) = ns := by
  show (ns.map PyData.int).map _ = ns
  rw [List.map_map]
  conv => rhs; rw [← List.map_id ns]
  rfl
def wFrom (w x : V) (o : Option PyData) : Str := if areLengths o = false then "text" else if isWidth w = false then "width" else if isWord x (nOf o).toNat = false then "index" else "fine"
def wMeet (w x y : V) (o : Option PyData) : Str := if areLengths o = false then "text" else if isWidth w = false then "width" else if (isWord x (nOf o).toNat && isWord y (nOf o).toNat) = false then "index" else "fine"
def wRepl (f c : V) (o wo : Option PyData) : Str := if areLengths o = false then "text" else if isIntV f 0 (.int (nOf o)) = false then "index" else if isIntV c 0 (.int (nOf o - iOf f)) = false then "number" else if replOf (intsD o) (iOf f).toNat (iOf c).toNat wo = none then "lengths" else "fine"
def wChg (w : V) (o o2 : Option PyData) : Str := if areLengths o = false then "text" else if areLengths o2 = false then "text" else if isWidth w = false then "width" else "fine"
def wordFor (d : Int) (xs : List V) (os : List (Option PyData)) : Str :=
  if d = 0 then wFrom (xs.getD 1 .non) (xs.getD 2 .non) (os.getD 0 none) else if d = 1 then wMeet (xs.getD 1 .non) (xs.getD 2 .non) (xs.getD 3 .non) (os.getD 0 none)
  else if d = 2 then wRepl (xs.getD 1 .non) (xs.getD 2 .non) (os.getD 0 none) (os.getD 3 none) else wChg (xs.getD 2 .non) (os.getD 0 none) (os.getD 1 none)
def TxV (K : PySem.W.Frag) (H : Hp) (v : V) (o : Option PyData) : Prop := Av K H v o ∧ (∀ ds, o = some (.list ds) → ds.length ≤ sizeLine) ∧ (areLengths o = true → ∃ a ns, v = .ref a ∧ o = some (.list (ns.map .int)) ∧ SqL K H a (iV ns) ∧ Txt' ns)
def WdsV (K : PySem.W.Frag) (H : Hp) (v : V) (o : Option PyData) : Prop := Av K H v o ∧ ∀ ds, o = some (.list ds) → ds.length ≤ 5000 ∧ ∃ b xs, v = .ref b ∧ H b = some (.lst xs) ∧ ∀ H', Same H H' → DpAll K H' xs ds
def PartsOk (K : PySem.W.Frag) (H : Hp) (d : Int) (xs : List V) (os : List (Option PyData)) : Prop :=
  (d = 0 ∧ ∃ v w x o wo xo, xs = [v, w, x] ∧ os = [o, wo, xo] ∧ TxV K H v o ∧ Av K H w wo ∧ Av K H x xo) ∨
  (d = 1 ∧ ∃ v w x y o wo xo yo, xs = [v, w, x, y] ∧ os = [o, wo, xo, yo] ∧ TxV K H v o ∧ Av K H w wo ∧ Av K H x xo ∧ Av K H y yo) ∨
  (d = 2 ∧ ∃ v f c w o fo co wo, xs = [v, f, c, w] ∧ os = [o, fo, co, wo] ∧ TxV K H v o ∧ Av K H f fo ∧ Av K H c co ∧ WdsV K H w wo) ∨
  (d = 3 ∧ ∃ v v2 w o o2 wo, xs = [v, v2, w] ∧ os = [o, o2, wo] ∧ TxV K H v o ∧ TxV K H v2 o2 ∧ Av K H w wo)
structure sp__law_told (K : PySem.W.Frag) (vs : List V) (H : Hp) (Q : VK) (E : XK) : Prop where
  h : ∃ d p xs os, vs = [.int d, .ref p] ∧ 0 ≤ d ∧ d ≤ 3 ∧ SqL K H p xs ∧ PartsOk K H d xs os ∧ ∀ H', Same H H' → Q (.str (wordFor d xs os)) H'

structure sp__law_told_named (K : PySem.W.Frag) (vs : List V) (H : Hp) (Q : VK) (E : XK) : Prop where
  h : ∃ d p xs os, vs = [.int d, .ref p] ∧ 0 ≤ d ∧ d ≤ 3 ∧ SqL K H p xs ∧ PartsOk K H d xs os ∧ ∀ H', Same H H' → Q (.str (wordFor d xs os)) H'

inductive Kd
  | text
  | width
  | index
  | number
  | lengths
def Kd.name : Kd → Str
  | .text => "text"
  | .width => "width"
  | .index => "index"
  | .number => "number"
  | .lengths => "lengths"
def kdBad (k : Kd) (n : Int) (v : V) (o : Option PyData) : Prop := match k with
  | .text => areLengths o = false
  | .width => isWidth v = false
  | .index => ∀ m, m ≤ n → isIntV v 0 (.int m) = false
  | .number => ∀ m, m ≤ n → isIntV v 0 (.int m) = false
  | .lengths => ∀ ns f c, replOf ns f c o = none
structure BadAt (K : PySem.W.Frag) (H : Hp) (k : Kd) (n : Int) (v : V) (o : Option PyData) : Prop where
  av : Av K H v o
  len : ∀ ds, o = some (.list ds) → ds.length ≤ 5000
  ok : ∀ d, o = some d → okD d = true ∧ wt d ≤ 3000000 ∧ d.depth ≤ 8
  bad : kdBad k n v o
  wds : k = .lengths → ∀ ds, o = some (.list ds) → ∃ b xs, v = .ref b ∧ H b = some (.lst xs) ∧ ∀ H', Same H H' → DpAll K H' xs ds
def AsB (S : List Addr) (K : PySem.W.Frag) (H : Hp) (k : Kd) (n : Int) (v : V) : Prop := ∃ o, ∀ H', SameS S H H' → BadAt K H' k n v o
section
variable {S S' : List Addr} {K : PySem.W.Frag} {H H' : Hp} {k : Kd} {n : Int} {v x : V} {d : PyData} {q : Addr} {ns ms : List Int}
theorem AsB.on (h : AsB S K H k n v) (s : SameS S H H') : AsB S K H' k n v := let ⟨o, h⟩ := h; ⟨o, fun H2 s2 => h H2 (s.trans s2)⟩
theorem Live.new {a : Addr} {o : HO} (h : Live S H) (n : H a = none) : Live S (L2.upd H a o) := h.same (same_new n)
theorem Live.deck {b : Addr} {qs : List Addr} {m : Nat} (h : Live S H) (s : SameS (b :: qs) H H') (D : Deck H' b qs m) : Live S H' := fun x hx => by
  cases e : H' x with
  | some o => exact ⟨o, rfl⟩
  | none =>
    obtain ⟨o, eo⟩ := h x hx
    rw [s.at (D.fresh e) eo] at e
    cases e
theorem AsB.same (h : AsB S K H k n v) (s : Same H H') : AsB S K H' k n v := h.on (SameS.of s)
theorem asB_flat (h : ∀ H, Dp K H v d) (h0 : SeqAt.shaped d = true) (h2 : ∀ ds, d ≠ .list ds) (ok : okD d = true) (hw : wt d ≤ 3000000) (hk : d.depth ≤ 8) (hb : kdBad k n v (some d)) : AsB S K H k n v :=
  ⟨some d, fun H2 _ => ⟨.d (h H2) h0, fun ds e => (h2 ds (Option.some.inj e)).elim, fun d' e => by cases e; exact ⟨ok, hw, hk⟩, hb, fun _ ds e => (h2 ds (Option.some.inj e)).elim⟩⟩
theorem asB_dct (e : H q = some (.dK [])) (nq : q ∉ S) (hb : kdBad k n (.ref q) none) : AsB S K H k n (.ref q) :=
  ⟨none, fun H2 s => ⟨.e (s.at nq e), (fun _ e => by cases e), (fun _ e => by cases e), hb, (fun _ _ e => by cases e)⟩⟩
theorem okD_ints (h1 : ∀ m ∈ ns, m.natAbs < 2 ^ 1000) (h2 : ns.length ≤ 1000) : okD (.list (ns.map .int)) = true ∧ wt (.list (ns.map .int)) ≤ 3000000 ∧ (PyData.list (ns.map .int)).depth ≤ 8 := by
  have h := Nc.ints h2 h1
  exact ⟨h.ok, Nat.le_trans h.wt (by decide), Nat.le_trans h.dp (by decide)⟩
theorem asB_ints (e : IL H q ns) (nq : q ∉ S) (h1 : ∀ m ∈ ns, m.natAbs < 2 ^ 1000) (h2 : ns.length ≤ 1000) (hb : kdBad k n (.ref q) (some (.list (ns.map .int)))) : AsB S K H k n (.ref q) :=
  ⟨some (.list (ns.map .int)), fun H2 s => ⟨av_ints (IL.seq (show IL H2 q ns from s.at nq e)), fun ds e' => by
    injection e' with e'
    injection e' with e'
    rw [← e', List.length_map]
    omega, fun d' e' => by cases e'; exact okD_ints h1 h2, hb, fun _ ds e' => by
    injection e' with e'
    injection e' with e'
    subst e'
    exact ⟨q, iV ns, rfl, s.at nq e, fun _ _ => dpAll_ints ns⟩⟩⟩
theorem asB_tup (e : H q = some (.tup (iV ns))) (nq : q ∉ S) (h1 : ∀ m ∈ ns, m.natAbs < 2 ^ 1000) (h2 : ns.length ≤ 1000) (hb : kdBad k n (.ref q) (some (.tuple (ns.map .int)))) : AsB S K H k n (.ref q) := by
  have nn : Nc (2002 * 1000 + 3) 1 (.tuple (ns.map .int)) := Nc.tuple (Ncs.all (w := 2000) (k := 0) (n := 1000) (by rw [List.length_map]; exact h2) fun d hd => by
    obtain ⟨m, hm, rfl⟩ := List.mem_map.mp hd
    exact Nc.int (h1 m hm))
  refine ⟨some (.tuple (ns.map .int)), fun H2 s => ⟨.d (.tup (.inl (.inl (s.at nq e))) (dpAll_ints ns)) (nn.shaped (by decide)), (fun _ e => by injection e with e; cases e), fun d' e' => ?_, hb, (fun _ _ e => by injection e with e; cases e)⟩⟩
  cases e'
  exact ⟨nn.ok, Nat.le_trans nn.wt (by decide), Nat.le_trans nn.dp (by decide)⟩
theorem asB_mid (hd : ∀ H', SameS S H H' → Dp K H' x d) (h : OddD d) (e : H q = some (.lst (iV ns ++ [x] ++ iV ms))) (nq : q ∉ S) (h1 : ∀ m ∈ ns ++ ms, m.natAbs < 2 ^ 1000) (h2 : ns.length + ms.length ≤ 1000) (hb : kdBad k n (.ref q) (some (.list (ns.map .int ++ [d] ++ ms.map .int)))) : AsB S K H k n (.ref q) := by
  have hz : sizeLine = 16777216 := by decide
  refine ⟨some (.list (ns.map .int ++ [d] ++ ms.map .int)), fun H2 s => ?_⟩
  have e2 := s.at nq e
  have nn : okD (.list (ns.map .int ++ [d] ++ ms.map .int)) = true ∧ wt (.list (ns.map .int ++ [d] ++ ms.map .int)) ≤ 3000000 ∧ (PyData.list (ns.map .int ++ [d] ++ ms.map .int)).depth ≤ 8 ∧ SeqAt.shaped (.list (ns.map .int ++ [d] ++ ms.map .int)) = true := by
    have hz : ∀ n ∈ ns ++ ms, n.natAbs.log2 < 1920 := fun n hn => log_small (h1 n hn) (by decide) (by decide)
    refine ⟨?_, ?_, ?_, ?_⟩
    · simp only [okD, okAll_app, okAll]
      rw [okAll_ints ns fun n hn => hz n (List.mem_append_left _ hn), okAll_ints ms fun n hn => hz n (List.mem_append_right _ hn), h.ok]
      rfl
    · simp only [wt, wtAll_app, wtAll]
      have := h.w
      have := wtAll_ints ns
      have := wtAll_ints ms
      omega
    · rw [PyData.depth, depth_app, depth_app, depth_ints, depth_ints]
      have := h.dep
      simp only [PyData.depthAll]
      omega
    · unfold SeqAt.shaped
      rw [PyData.canLay0, canLay_app, canLay_app, canLay_ints, canLay_ints, PyData.depth, depth_app, depth_app, depth_ints, depth_ints]
      have := h.dep
      simp [PyData.canLayAll0, h.can, PyData.depthAll]
      omega
  refine ⟨.d (.lst (.inl (.inl e2)) (dpAll_app (dpAll_app (dpAll_ints ns) (.cons (hd H2 s) .nil)) (dpAll_ints ms))) nn.2.2.2, fun ds e' => ?_, fun d' e' => by cases e'; exact ⟨nn.1, nn.2.1, nn.2.2.1⟩, hb, fun _ ds e' => ?_⟩
  · injection e' with e'
    injection e' with e'
    rw [← e']
    simp
    omega
  · injection e' with e'
    injection e' with e'
    subst e'
    exact ⟨q, _, rfl, e2, fun H3 s3 => dpAll_app (dpAll_app (dpAll_ints ns) (.cons (hd H3 (s.trans (SameS.of s3))) .nil)) (dpAll_ints ms)⟩
theorem AsB.text {m : Int} (h : AsB S K H .text m v) : AsB S K H .text n v := let ⟨o, h⟩ := h; ⟨o, fun H2 s2 => ⟨(h H2 s2).av, (h H2 s2).len, (h H2 s2).ok, (h H2 s2).bad, (h H2 s2).wds⟩⟩
theorem AsB.number (h : AsB S K H .index n v) : AsB S K H .number n v := let ⟨o, h⟩ := h; ⟨o, fun H2 s2 => ⟨(h H2 s2).av, (h H2 s2).len, (h H2 s2).ok, (h H2 s2).bad, fun e => by cases e⟩⟩
theorem repl_odd {ds : List PyData} (h : OddD d) (hm : d ∈ ds) : ∀ ns f c, replOf ns f c (some (.list ds)) = none := fun ns f c => by
  unfold replOf
  dsimp only
  rw [if_neg]
  rw [h.no (show d ∈ replData ns f c ds from by unfold replData; simp [hm])]
  decide
theorem len_odd {ds : List PyData} (h : OddD d) (hm : d ∈ ds) : areLengths (some (.list ds)) = false := h.no hm
end
theorem menu_end {K : PySem.W.Frag} {E : XK} {σ : L2.St} {H : Hp} {Q : VK} {j : Nat} {b t : Addr} {qs : List Addr} {n : Nat} {c : Int} {vs : List V} (hσ : σ[j]? = some (some (.ref b))) (hD : Deck H b qs n) (hn : n ≤ 2 ^ 40) (nt : H t = none) (hl : (vs.length : Int) = c) (h1 : 1 ≤ vs.length) (h2 : vs.length ≤ 1000)
    (q : ∀ v H', v ∈ vs → SameS (b :: qs) H H' → Deck H' b qs (n + 1) → Q v H') : tCall (sp__law_draw K) [] E (tCons (tVar j) (tCons (tC (.int c)) tNil)) σ (upd H t (.lst vs)) fun y H2 => rIxL K (.ref t) y H2 Q := by
  have hz : sizeLine = 16777216 := by decide
  have e40 : (2 : Nat) ^ 40 = 1099511627776 := by decide
  have e50 : (2 : Nat) ^ 50 = 1125899906842624 := by decide
  rw [e40] at hn
  refine ⟨_, hσ, b, qs, n, c, rfl, hD.new nt, by omega, by omega, by omega, fun r H2 r0 r1 D2 s2 => ?_⟩
  obtain ⟨d, hd⟩ : ∃ d, vs[r.toNat]? = some d := ⟨_, List.getElem?_eq_getElem (by omega)⟩
  exact ⟨t, _, _, _, rfl, rfl, .inl (.inl (s2.at (hD.fresh nt) upd_same)), atI_nn r0 hd, q d H2 (List.mem_of_getElem? hd) ((SameS.of (same_new nt)).trans s2) D2⟩
structure sp__law_no_plan (K : PySem.W.Frag) (vs : List V) (H : Hp) (Q : VK) (E : XK) : Prop where
  h : ∃ S b qs n w ns, vs = [.ref b, .ref w] ∧ Live S H ∧ (∀ x ∈ b :: qs, x ∈ S) ∧ Deck H b qs n ∧ n ≤ 2 ^ 30 ∧ w ∉ b :: qs ∧ IL H w ns ∧ Txt' ns ∧
  ∀ v H', SameS (b :: qs) H H' → Deck H' b qs (n + 3) → AsB S K H' .text 0 v → Q v H'

structure sp__law_bad (K : PySem.W.Frag) (vs : List V) (H : Hp) (Q : VK) (E : XK) : Prop where
  h : ∃ S b qs n k w ns, vs = [.ref b, .str (Kd.name k), .ref w] ∧ Live S H ∧ (∀ x ∈ b :: qs, x ∈ S) ∧ Deck H b qs n ∧ n ≤ 2 ^ 30 ∧ w ∉ b :: qs ∧ IL H w ns ∧ Txt' ns ∧
  ∀ v H', SameS (b :: qs) H H' → Deck H' b qs (n + 20) → AsB S K H' k ns.length v → Q v H'

inductive RowE (S : List Addr) (H : Hp) : List V → List (Kd × V) → Prop
  | nil : RowE S H [] []
  | cons {e : V} {kv : Kd × V} {es : List V} {ks : List (Kd × V)} (h : ∃ a, e = .ref a ∧ a ∉ S ∧ H a = some (.lst [.str kv.1.name, kv.2])) (r : RowE S H es ks) : RowE S H (e :: es) (kv :: ks)
section
variable {S S' : List Addr} {K : PySem.W.Frag} {H H' : Hp} {n : Int}
theorem RowE.on {es : List V} {ks : List (Kd × V)} (h : RowE S H es ks) (s : SameS S H H') : RowE S H' es ks := by
  induction h with
  | nil => exact .nil
  | cons h _ ih =>
    obtain ⟨a, e, na, ha⟩ := h
    exact .cons ⟨a, e, na, s.at na ha⟩ ih
theorem RowE.push {es : List V} {ks : List (Kd × V)} {x : Addr} (h : RowE S H es ks) (n : H x = none) : RowE (x :: S) H es ks := by
  induction h with
  | nil => exact .nil
  | cons h _ ih =>
    obtain ⟨a, e, na, ha⟩ := h
    exact .cons ⟨a, e, fun hm => (List.mem_cons.mp hm).elim (fun e => by subst e; rw [n] at ha; cases ha) na, ha⟩ ih
theorem RowE.less {es : List V} {ks : List (Kd × V)} (h : RowE S H es ks) (hm : ∀ b ∈ S', b ∈ S) : RowE S' H es ks := by
  induction h with
  | nil => exact .nil
  | cons h _ ih =>
    obtain ⟨a, e, na, ha⟩ := h
    exact .cons ⟨a, e, fun h => na (hm _ h), ha⟩ ih
theorem RowE.get {es : List V} {ks : List (Kd × V)} (h : RowE S H es ks) : ∀ {i : Nat} {e : V}, es[i]? = some e → ∃ a kv, e = .ref a ∧ H a = some (.lst [.str kv.1.name, kv.2]) ∧ ks[i]? = some kv := by
  induction h with
  | nil => intro i e h; cases h
  | @cons e kv es ks h r ih =>
    intro i u hu
    cases i with
    | zero =>
      cases hu
      obtain ⟨a, e, _, ha⟩ := h
      exact ⟨a, kv, e, ha, rfl⟩
    | succ i => exact ih hu
theorem RowE.len {es : List V} {ks : List (Kd × V)} (h : RowE S H es ks) : es.length = ks.length := by
  induction h with
  | nil => rfl
  | cons _ _ ih => exact congrArg (· + 1) ih
def RowK (S : List Addr) (H : Hp) (r : Addr) (ks : List (Kd × V)) : Prop := ∃ es, H r = some (.lst es) ∧ r ∉ S ∧ RowE S H es ks
theorem RowK.on {r : Addr} {ks : List (Kd × V)} (h : RowK S H r ks) (s : SameS S H H') : RowK S H' r ks := let ⟨es, e, nr, h⟩ := h; ⟨es, s.at nr e, nr, h.on s⟩
theorem RowK.push {r x : Addr} {ks : List (Kd × V)} (h : RowK S H r ks) (n : H x = none) : RowK (x :: S) H r ks := by
  obtain ⟨es, e, nr, h⟩ := h
  exact ⟨es, e, fun hm => (List.mem_cons.mp hm).elim (fun h => by subst h; rw [n] at e; cases e) nr, h.push n⟩
theorem RowK.less {r : Addr} {ks : List (Kd × V)} (h : RowK S H r ks) (hm : ∀ b ∈ S', b ∈ S) : RowK S' H r ks := let ⟨es, e, nr, h⟩ := h; ⟨es, e, fun h => nr (hm _ h), h.less hm⟩
def rowOf (d : Nat) (p m : Addr) (wd at_ to np : Int) : List (Kd × V) := match d with
  | 0 => [(.text, .ref p), (.width, .int wd), (.index, .int at_)]
  | 1 => [(.text, .ref p), (.width, .int wd), (.index, .int at_), (.index, .int to)]
  | 2 => [(.text, .ref p), (.index, .int at_), (.number, .int (np - at_)), (.lengths, .ref m)]
  | _ => [(.text, .ref p), (.text, .ref m), (.width, .int wd)]
def Ent (S : List Addr) (K : PySem.W.Frag) (H : Hp) (n : Int) (kv : Kd × V) (f : Bool) (v : V) : Prop := (f = true → AsB S K H kv.1 n v) ∧ (f = false → v = kv.2)
inductive Ents (S : List Addr) (K : PySem.W.Frag) (H : Hp) (n : Int) : List V → List (Kd × V) → List Bool → Prop
  | nil : Ents S K H n [] [] []
  | cons {v : V} {kv : Kd × V} {f : Bool} {vs : List V} {ks : List (Kd × V)} {fs : List Bool} (h : Ent S K H n kv f v) (r : Ents S K H n vs ks fs) : Ents S K H n (v :: vs) (kv :: ks) (f :: fs)
theorem Ents.on {vs : List V} {ks : List (Kd × V)} {fs : List Bool} (h : Ents S K H n vs ks fs) (s : SameS S H H') : Ents S K H' n vs ks fs := by
  induction h with
  | nil => exact .nil
  | cons h _ ih => exact .cons ⟨fun e => (h.1 e).on s, h.2⟩ ih
theorem Ents.len {vs : List V} {ks : List (Kd × V)} {fs : List Bool} (h : Ents S K H n vs ks fs) : vs.length = ks.length ∧ fs.length = ks.length := by
  induction h with
  | nil => exact ⟨rfl, rfl⟩
  | cons _ _ ih => exact ⟨congrArg (· + 1) ih.1, congrArg (· + 1) ih.2⟩
theorem ents_good : ∀ ks : List (Kd × V), Ents S K H n (ks.map (·.2)) ks (ks.map fun _ => false)
  | [] => .nil
  | kv :: ks => .cons ⟨fun e => (by cases e), fun _ => rfl⟩ (ents_good ks)
theorem Ents.set {vs : List V} {ks : List (Kd × V)} {fs : List Bool} (h : Ents S K H n vs ks fs) : ∀ {i : Nat} {kv : Kd × V} {v : V}, ks[i]? = some kv → AsB S K H kv.1 n v → Ents S K H n (vs.set i v) ks (fs.set i true) := by
  induction h with
  | nil => intro i kv v h; cases h
  | @cons v0 kv0 f0 vs ks fs h r ih =>
    intro i kv v hi hb
    cases i with
    | zero =>
      cases hi
      exact .cons ⟨fun _ => hb, fun e => (by cases e)⟩ r
    | succ i => exact .cons h (ih hi hb)
def firstBad : List (Kd × V) → List Bool → Str
  | kv :: ks, f :: fs => if f = true then kv.1.name else firstBad ks fs
  | _, _ => "fine"
theorem firstBad_good : ∀ ks : List (Kd × V), firstBad ks (ks.map fun _ => false) = "fine"
  | [] => rfl
  | kv :: ks => firstBad_good ks
def idxFrom (o : Nat) : List Bool → List Int
  | [] => []
  | f :: fs => if f = true then (o : Int) :: idxFrom (o + 1) fs else idxFrom (o + 1) fs
theorem idx_none : ∀ (fs : List Bool) (o : Nat), (∀ j : Nat, fs[j]? ≠ some true) → idxFrom o fs = []
  | [], _, _ => rfl
  | f :: fs, o, h => by
    have h0 : f = false := by
      cases f with
      | false => rfl
      | true => exact (h 0 rfl).elim
    subst h0
    exact idx_none fs (o + 1) fun j => h (j + 1)
theorem idx_set : ∀ (fs : List Bool) (o i : Nat), i < fs.length → (∀ j : Nat, i ≤ j → fs[j]? ≠ some true) → idxFrom o (fs.set i true) = idxFrom o fs ++ [((o + i : Nat) : Int)]
  | [], _, _, h, _ => by cases h
  | f :: fs, o, 0, _, hj => by
    have h0 : f = false := by
      cases f with
      | false => rfl
      | true => exact (hj 0 (Nat.le_refl _) rfl).elim
    subst h0
    have h1 := idx_none fs (o + 1) fun j => hj (j + 1) (Nat.zero_le _)
    show ((o : Int) :: idxFrom (o + 1) fs) = idxFrom (o + 1) fs ++ _
    rw [h1]
    rfl
  | f :: fs, o, i + 1, h, hj => by
    have ih := idx_set fs (o + 1) i (by simpa using h) fun j hi => hj (j + 1) (by omega)
    have e : ((o + (i + 1) : Nat) : Int) = ((o + 1 + i : Nat) : Int) := by omega
    show (if f = true then (o : Int) :: idxFrom (o + 1) (fs.set i true) else idxFrom (o + 1) (fs.set i true)) = (if f = true then (o : Int) :: idxFrom (o + 1) fs else idxFrom (o + 1) fs) ++ _
    rw [ih, e]
    split <;> rfl
theorem idx_small : ∀ (fs : List Bool) (o : Nat), (idxFrom o fs).length ≤ fs.length ∧ ∀ x ∈ idxFrom o fs, 0 ≤ x ∧ x ≤ ((o + fs.length : Nat) : Int)
  | [], _ => ⟨Nat.le_refl _, fun x h => by cases h⟩
  | f :: fs, o => by
    obtain ⟨h1, h2⟩ := idx_small fs (o + 1)
    show (if f = true then (o : Int) :: idxFrom (o + 1) fs else idxFrom (o + 1) fs).length ≤ _ ∧ ∀ x ∈ (if f = true then (o : Int) :: idxFrom (o + 1) fs else idxFrom (o + 1) fs), _
    rw [List.length_cons]
    split
    · refine ⟨by rw [List.length_cons]; omega, fun x hx => ?_⟩
      rcases List.mem_cons.mp hx with rfl | hx
      · omega
      · have := h2 x hx
        omega
    · refine ⟨by omega, fun x hx => ?_⟩
      have := h2 x hx
      omega
theorem idx_first : ∀ (ks : List (Kd × V)) (fs : List Bool) (o : Nat), fs.length = ks.length → (idxFrom o fs = [] → firstBad ks fs = "fine") ∧ ∀ x rest, idxFrom o fs = x :: rest → ∃ (i : Nat) (kv : Kd × V), x = ((o + i : Nat) : Int) ∧ ks[i]? = some kv ∧ firstBad ks fs = kv.1.name
  | [], [], _, _ => ⟨fun _ => rfl, fun x rest h => by cases h⟩
  | [], _ :: _, _, h => by cases h
  | _ :: _, [], _, h => by cases h
  | kv :: ks, f :: fs, o, h => by
    obtain ⟨h1, h2⟩ := idx_first ks fs (o + 1) (by simpa using h)
    cases f with
    | true =>
      refine ⟨fun e => (by cases e), fun x rest e => ?_⟩
      cases e
      exact ⟨0, kv, rfl, rfl, rfl⟩
    | false =>
      refine ⟨fun e => h1 e, fun x rest e => ?_⟩
      obtain ⟨i, kv', e1, e2, e3⟩ := h2 x rest e
      exact ⟨i + 1, kv', by rw [e1]; omega, e2, e3⟩
theorem ents_repr {vs : List V} {ks : List (Kd × V)} {fs : List Bool} (h : Ents S K H n vs ks fs) : (∀ kv ∈ ks, ∃ d, Dp K H kv.2 d ∧ Nz 3000000 8 d) → ∃ ds, DzAll K H vs ds ∧ Nzs (3000002 * vs.length) 8 ds := by
  induction h with
  | nil => exact fun _ => ⟨[], .nil, Nzs.nil⟩
  | @cons v kv f vs ks fs h r ih =>
    intro hg
    obtain ⟨ds, h1, h2⟩ := ih fun kv hkv => hg kv (List.mem_cons_of_mem _ hkv)
    obtain ⟨d, h3, h4⟩ : ∃ d, Dz K H v d ∧ Nz 3000000 8 d := by
      cases f with
      | true =>
        obtain ⟨o, ho⟩ := h.1 rfl
        have B := ho H (SameS.refl _ _)
        refine ⟨o.getD (.dict []), B.av.z, ?_⟩
        cases o with
        | none => exact Nz.dct.mono (by decide) (by decide)
        | some d =>
          obtain ⟨k1, k2, k3⟩ := B.ok d rfl
          exact ⟨(okD_show d k1).1, Nat.le_trans (okD_show d k1).2 k2, k3⟩
      | false =>
        obtain ⟨d, h5, h6⟩ := hg kv (List.mem_cons_self ..)
        rw [h.2 rfl]
        exact ⟨d, dz_of _ _ h5, h6⟩
    refine ⟨d :: ds, .cons h3 h1, ?_⟩
    have e := Nzs.cons h4 h2
    rw [List.length_cons, Nat.mul_add]
    exact ⟨e.ok, Nat.le_trans e.len (by omega), Nat.le_trans e.dp (by omega)⟩
theorem name_small (k : Kd) : (Kd.name k).length ≤ 10 ∧ ∀ c ∈ (Kd.name k).cps.toList, c < 1000 := by
  cases k <;> decide +kernel
theorem firstBad_small : ∀ (ks : List (Kd × V)) (fs : List Bool), (firstBad ks fs).length ≤ 10 ∧ ∀ c ∈ (firstBad ks fs).cps.toList, c < 1000
  | [], _ => by
    show (("fine" : Str)).length ≤ 10 ∧ ∀ c ∈ (("fine" : Str)).cps.toList, c < 1000
    decide +kernel
  | _ :: _, [] => by
    show (("fine" : Str)).length ≤ 10 ∧ ∀ c ∈ (("fine" : Str)).cps.toList, c < 1000
    decide +kernel
  | kv :: ks, f :: fs => by
    show (if f = true then kv.1.name else firstBad ks fs).length ≤ 10 ∧ ∀ c ∈ (if f = true then kv.1.name else firstBad ks fs).cps.toList, c < 1000
    split
    · exact name_small _
    · exact firstBad_small ks fs
/-- what the values' reading needs -/
structure Good (K : PySem.W.Frag) (H : Hp) (p m : Addr) (ns ms : List Int) (wd at_ to : Int) : Prop where
  p : IL H p ns
  m : IL H m ms
  tp : Txt' ns
  tm : Txt' ms
  w1 : 1 ≤ wd
  w2 : wd ≤ 1000
  a1 : 0 ≤ at_
  a2 : at_ < ns.length
  t1 : 0 ≤ to
  t2 : to < ns.length
  fit : Txt' (ns.take at_.toNat ++ ms ++ ns.drop (at_.toNat + ((ns.length : Int) - at_).toNat))
theorem txt_yes {ns : List Int} (h : Txt' ns) : areLengths (some (.list (ns.map .int))) = true := (areLengths_ints ns).mpr h
theorem ent_text {p : Addr} {ns : List Int} {f : Bool} {v : V} (h : Ent S K H n (.text, .ref p) f v) (hp : IL H p ns) (ht : Txt' ns) : ∃ o, TxV K H v o ∧ areLengths o = !f ∧ (f = false → o = some (.list (ns.map .int))) := by
  have hz : sizeLine = 16777216 := by decide
  cases f with
  | true =>
    obtain ⟨o, ho⟩ := h.1 rfl
    have B := ho H (SameS.refl _ _)
    have hb : areLengths o = false := B.bad
    exact ⟨o, ⟨B.av, fun ds e => by have := B.len ds e; omega, fun c => by rw [hb] at c; cases c⟩, hb, fun e => by cases e⟩
  | false =>
    rw [h.2 rfl]
    refine ⟨some (.list (ns.map .int)), ⟨av_ints hp.seq, fun ds e => ?_, fun _ => ⟨p, ns, rfl, rfl, hp.seq, ht⟩⟩, txt_yes ht, fun _ => rfl⟩
    injection e with e
    injection e with e
    rw [← e, List.length_map]
    have := ht.len
    omega
theorem ent_width {wd : Int} {f : Bool} {v : V} (h : Ent S K H n (.width, .int wd) f v) (h1 : 1 ≤ wd) (h2 : wd ≤ 1000) : ∃ o, Av K H v o ∧ isWidth v = !f := by
  cases f with
  | true =>
    obtain ⟨o, ho⟩ := h.1 rfl
    have B := ho H (SameS.refl _ _)
    exact ⟨o, B.av, B.bad⟩
  | false =>
    rw [h.2 rfl]
    exact ⟨some (.int wd), .d (.int _) rfl, isWidth_ok h1 h2⟩
theorem ent_index {j : Int} {f : Bool} {v : V} (h : Ent S K H n (.index, .int j) f v) : ∃ o, Av K H v o ∧ (f = true → ∀ m, m ≤ n → isIntV v 0 (.int m) = false) ∧ (f = false → v = .int j) := by
  cases f with
  | true =>
    obtain ⟨o, ho⟩ := h.1 rfl
    have B := ho H (SameS.refl _ _)
    exact ⟨o, B.av, fun _ => B.bad, fun e => by cases e⟩
  | false =>
    rw [h.2 rfl]
    exact ⟨some (.int j), .d (.int _) rfl, fun e => (by cases e), fun _ => rfl⟩
theorem ent_number {j : Int} {f : Bool} {v : V} (h : Ent S K H n (.number, .int j) f v) : ∃ o, Av K H v o ∧ (f = true → ∀ m, m ≤ n → isIntV v 0 (.int m) = false) ∧ (f = false → v = .int j) := by
  cases f with
  | true =>
    obtain ⟨o, ho⟩ := h.1 rfl
    have B := ho H (SameS.refl _ _)
    exact ⟨o, B.av, fun _ => B.bad, fun e => by cases e⟩
  | false =>
    rw [h.2 rfl]
    exact ⟨some (.int j), .d (.int _) rfl, fun e => (by cases e), fun _ => rfl⟩
theorem ent_lengths {m : Addr} {ms : List Int} {f : Bool} {v : V} (h : Ent S K H n (.lengths, .ref m) f v) (hm : IL H m ms) (ht : Txt' ms) : ∃ o, WdsV K H v o ∧ (f = true → ∀ ns f c, replOf ns f c o = none) ∧ (f = false → o = some (.list (ms.map .int))) := by
  cases f with
  | true =>
    obtain ⟨o, ho⟩ := h.1 rfl
    have B := ho H (SameS.refl _ _)
    exact ⟨o, ⟨B.av, fun ds e => ⟨B.len ds e, B.wds rfl ds e⟩⟩, fun _ => B.bad, fun e => by cases e⟩
  | false =>
    rw [h.2 rfl]
    refine ⟨some (.list (ms.map .int)), ⟨av_ints hm.seq, fun ds e => ?_⟩, fun e => (by cases e), fun _ => rfl⟩
    injection e with e
    injection e with e
    subst e
    have := ht.len
    exact ⟨by rw [List.length_map]; omega, m, iV ms, rfl, hm, fun _ _ => dpAll_ints ms⟩
theorem ints_in {x : V} {j k : Int} (e : x = .int j) (h1 : 0 ≤ j) (h2 : j ≤ k) : isIntV x 0 (.int k) = true := by
  subst e
  simp only [isIntV, Bool.and_eq_true, decide_eq_true_eq]
  exact ⟨h1, h2⟩
theorem ents3 {xs : List V} {k0 k1 k2 : Kd × V} {fs : List Bool} (h : Ents S K H n xs [k0, k1, k2] fs) : ∃ v0 v1 v2 f0 f1 f2, xs = [v0, v1, v2] ∧ fs = [f0, f1, f2] ∧ Ent S K H n k0 f0 v0 ∧ Ent S K H n k1 f1 v1 ∧ Ent S K H n k2 f2 v2 := by
  cases h with
  | cons h0 h => cases h with
    | cons h1 h => cases h with
      | cons h2 h => cases h with
        | nil => exact ⟨_, _, _, _, _, _, rfl, rfl, h0, h1, h2⟩
theorem ents4 {xs : List V} {k0 k1 k2 k3 : Kd × V} {fs : List Bool} (h : Ents S K H n xs [k0, k1, k2, k3] fs) : ∃ v0 v1 v2 v3 f0 f1 f2 f3, xs = [v0, v1, v2, v3] ∧ fs = [f0, f1, f2, f3] ∧ Ent S K H n k0 f0 v0 ∧ Ent S K H n k1 f1 v1 ∧ Ent S K H n k2 f2 v2 ∧ Ent S K H n k3 f3 v3 := by
  cases h with
  | cons h0 h => cases h with
    | cons h1 h => cases h with
      | cons h2 h => cases h with
        | cons h3 h => cases h with
          | nil => exact ⟨_, _, _, _, _, _, _, _, rfl, rfl, h0, h1, h2, h3⟩
theorem parts_word {p m : Addr} {ns ms : List Int} {wd at_ to : Int} {d : Nat} {xs : List V} {fs : List Bool} (g : Good K H p m ns ms wd at_ to) (hd : d < 4) (h : Ents S K H ns.length xs (rowOf d p m wd at_ to ns.length) fs) :
    ∃ os, PartsOk K H (d : Int) xs os ∧ wordFor (d : Int) xs os = firstBad (rowOf d p m wd at_ to ns.length) fs := by
  have na1 := g.a1
  have na2 := g.a2
  have nt1 := g.t1
  have nt2 := g.t2
  have hd4 : d = 0 ∨ d = 1 ∨ d = 2 ∨ d = 3 := by omega
  rcases hd4 with rfl | rfl | rfl | rfl
  · obtain ⟨v, w, x, f0, f1, f2, rfl, rfl, h0, h1, h2⟩ := ents3 h
    obtain ⟨o, b0, c0, e0⟩ := ent_text h0 g.p g.tp
    obtain ⟨wo, b1, c1⟩ := ent_width h1 g.w1 g.w2
    obtain ⟨xo, b2, c2, e2⟩ := ent_index h2
    refine ⟨[o, wo, xo], .inl ⟨rfl, v, w, x, o, wo, xo, rfl, rfl, b0, b1, b2⟩, ?_⟩
    show wFrom w x o = _
    unfold wFrom
    cases f0 with
    | true => rw [if_pos (show areLengths o = false from c0)]; rfl
    | false =>
      rw [if_neg (by rw [c0]; decide), e0 rfl, nOf_ints, Int.toNat_natCast]
      cases f1 with
      | true => rw [if_pos (show isWidth w = false from c1)]; rfl
      | false =>
        rw [if_neg (by rw [c1]; decide)]
        cases f2 with
        | true => rw [if_pos (show isWord x ns.length = false from c2 rfl ((ns.length : Int) - 1) (by omega))]; rfl
        | false => rw [if_neg (by rw [show isWord x ns.length = true from ints_in (e2 rfl) na1 (by omega)]; decide)]; rfl
  · obtain ⟨v, w, x, y, f0, f1, f2, f3, rfl, rfl, h0, h1, h2, h3⟩ := ents4 h
    obtain ⟨o, b0, c0, e0⟩ := ent_text h0 g.p g.tp
    obtain ⟨wo, b1, c1⟩ := ent_width h1 g.w1 g.w2
    obtain ⟨xo, b2, c2, e2⟩ := ent_index h2
    obtain ⟨yo, b3, c3, e3⟩ := ent_index h3
    refine ⟨[o, wo, xo, yo], .inr (.inl ⟨rfl, v, w, x, y, o, wo, xo, yo, rfl, rfl, b0, b1, b2, b3⟩), ?_⟩
    show wMeet w x y o = _
    unfold wMeet
    cases f0 with
    | true => rw [if_pos (show areLengths o = false from c0)]; rfl
    | false =>
      rw [if_neg (by rw [c0]; decide), e0 rfl, nOf_ints, Int.toNat_natCast]
      cases f1 with
      | true => rw [if_pos (show isWidth w = false from c1)]; rfl
      | false =>
        rw [if_neg (by rw [c1]; decide)]
        cases f2 with
        | true => rw [if_pos (by rw [show isWord x ns.length = false from c2 rfl ((ns.length : Int) - 1) (by omega)]; rfl)]; rfl
        | false =>
          rw [show isWord x ns.length = true from ints_in (e2 rfl) na1 (by omega), Bool.true_and]
          cases f3 with
          | true => rw [if_pos (show isWord y ns.length = false from c3 rfl ((ns.length : Int) - 1) (by omega))]; rfl
          | false => rw [if_neg (by rw [show isWord y ns.length = true from ints_in (e3 rfl) nt1 (by omega)]; decide)]; rfl
  · obtain ⟨v, f, c, w, f0, f1, f2, f3, rfl, rfl, h0, h1, h2, h3⟩ := ents4 h
    obtain ⟨o, b0, c0, e0⟩ := ent_text h0 g.p g.tp
    obtain ⟨fo, b1, c1, e1⟩ := ent_index h1
    obtain ⟨co, b2, c2, e2⟩ := ent_number h2
    obtain ⟨wo, b3, c3, e3⟩ := ent_lengths h3 g.m g.tm
    refine ⟨[o, fo, co, wo], .inr (.inr (.inl ⟨rfl, v, f, c, w, o, fo, co, wo, rfl, rfl, b0, b1, b2, b3⟩)), ?_⟩
    show wRepl f c o wo = _
    unfold wRepl
    cases f0 with
    | true => rw [if_pos (show areLengths o = false from c0)]; rfl
    | false =>
      rw [if_neg (by rw [c0]; decide), e0 rfl, nOf_ints, intsD_ints]
      cases f1 with
      | true => rw [if_pos (c1 rfl _ (Int.le_refl _))]; rfl
      | false =>
        rw [if_neg (by rw [ints_in (e1 rfl) na1 (by omega)]; decide), e1 rfl]
        show (if isIntV c 0 (.int ((ns.length : Int) - at_)) = false then _ else if replOf ns at_.toNat (iOf c).toNat wo = none then _ else _) = _
        cases f2 with
        | true => rw [if_pos (show isIntV c 0 (.int ((ns.length : Int) - at_)) = false from c2 rfl _ (by omega))]; rfl
        | false =>
          rw [if_neg (by rw [ints_in (e2 rfl) (by omega) (Int.le_refl _)]; decide), e2 rfl]
          show (if replOf ns at_.toNat ((ns.length : Int) - at_).toNat wo = none then _ else _) = _
          cases f3 with
          | true => rw [if_pos (c3 rfl _ _ _)]; rfl
          | false =>
            rw [e3 rfl, (replOf_ints ns at_.toNat ((ns.length : Int) - at_).toNat ms).1 g.fit, if_neg (fun h => by cases h)]
            rfl
  · obtain ⟨v, v2, w, f0, f1, f2, rfl, rfl, h0, h1, h2⟩ := ents3 h
    obtain ⟨o, b0, c0, e0⟩ := ent_text h0 g.p g.tp
    obtain ⟨o2, b1, c1, e1⟩ := ent_text h1 g.m g.tm
    obtain ⟨wo, b2, c2⟩ := ent_width h2 g.w1 g.w2
    refine ⟨[o, o2, wo], .inr (.inr (.inr ⟨rfl, v, v2, w, o, o2, wo, rfl, rfl, b0, b1, b2⟩)), ?_⟩
    show wChg w o o2 = _
    unfold wChg
    cases f0 with
    | true => rw [if_pos (show areLengths o = false from c0)]; rfl
    | false =>
      rw [if_neg (by rw [c0]; decide)]
      cases f1 with
      | true => rw [if_pos (show areLengths o2 = false from c1)]; rfl
      | false =>
        rw [if_neg (by rw [c1]; decide)]
        cases f2 with
        | true => rw [if_pos (show isWidth w = false from c2)]; rfl
        | false => rw [if_neg (by rw [c2]; decide)]; rfl
end
structure sp_law (K : PySem.W.Frag) (vs : List V) (H : Hp) (Q : VK) (E : XK) : Prop where
  h : ∃ a ns, vs = [.ref a] ∧ SqL K H a (iV ns) ∧ ns.length ≤ 63 ∧ (∀ z ∈ ns, Builtin.Int.intBits z ≤ 1048576) ∧ ∀ H', Q (.bl true) H'

section
variable {P : Program} {w : World} {K : PySem.W.Frag} {mg : Str → Option Value} {base : Heap}
theorem ok_is_integer {f : Addr} {fd : FuncData} (F : FnP K "is_integer" (top 19) [.non] f fd) (W : Wd K mg)  : FnOk P w K mg base CX0 1 f fd ["value", "low", "high"] (sp_is_integer K) := by
  refine FunD.ok F sc_is_integer (fun vs H Q E h => ?len) (fun cdv A outer s H vs Q E hr h => ?_)
  case len =>
    obtain ⟨v, o, lo, hi, rfl, _⟩ := h
    rfl
  refine ⟨_, PSs.nox (pss_cons (ps_if (PW.pt (pw_or (pt_not (pt_val (pe_callB call_isi (by rfl) W.n_isinstance (by decide +kernel) (pa_cons (pv 0) (pa_cons (pe_ty (n := "int") W.n_int (by decide +kernel)) pa_nil))))) (pw_or1 (pt_val (pe_callB call_isi (by rfl) W.n_isinstance (by decide +kernel) (pa_cons (pv 0) (pa_cons (pe_ty (n := "bool") W.n_bool (by decide +kernel)) pa_nil))))))) (pss_one (ps_ret pe_bl)) pss_nil)
  (pss_one (ps_ret (pe_and (pe_cmpR op_le (pv 1) (pv 0) (nomark _)) (pe_one (pe_or (pe_cmpR op_isN (pv 2) pe_non (nomark _)) (pe_one (pe_cmpR op_le (pv 0) (pv 2) (nomark _))))))))), ?_⟩
  obtain ⟨v, o, lo, hi, rfl, hv, hh, q⟩ := h
  refine ⟨_, rfl, _, _, _, _, _, rfl, .ty _, hv.ty, isi_int o, _, rfl, ?_⟩
  rw [isI_int]
  cases hv with
  | e ha => exact q
  | d hd hs =>
    cases hd with
    | non => exact q
    | str x => exact q
    | lst _ _ => exact q
    | tup _ _ => exact q
    | bl b =>
      refine ⟨_, rfl, _, _, _, _, _, rfl, .ty _, .base (.bl b), isi_bool (some (.bool b)), _, rfl, ?_⟩
      rw [isI_bool]
      exact q
    | int i =>
      refine ⟨_, rfl, _, _, _, _, _, rfl, .ty _, .base (.int i), isi_bool (some (.int i)), _, rfl, ?_⟩
      rw [isI_bool]
      refine ⟨_, rfl, _, rfl, _, _, rfl, rfl, _, rfl, ?_⟩
      by_cases c : lo ≤ i
      · rw [decide_eq_true c]
        refine iteT ⟨_, rfl, rfl, _, rfl, ?_⟩
        rcases hh with rfl | ⟨h, rfl⟩
        · refine iteT ?_
          simpa [isIntV, c] using q
        · refine iteF ⟨_, rfl, _, rfl, _, _, rfl, rfl, ?_⟩
          simpa [isIntV, c] using q
      · rw [decide_eq_false c]
        refine iteF ?_
        simpa [isIntV, c] using q
theorem ok_is_width {f : Addr} {fd : FuncData} (F : FnP K "is_width" (top 20) [] f fd) (W : Wd K mg) (c_is_integer : Cal P w K mg base CX0 1 "is_integer" ["value", "low", "high"] [] (sp_is_integer K)) : FnOk P w K mg base CX0 2 f fd ["value"] (sp_is_width K) := by
  refine FunD.ok F sc_is_width (fun vs H Q E h => ?len) (fun cdv A outer s H vs Q E hr h => ?_)
  case len =>
    obtain ⟨v, o, rfl, _⟩ := h
    rfl
  refine ⟨_, PSs.nox (pss_one (ps_ret (pe_cal c_is_integer (hr.mono (by decide)) pass0 (pa_cons (pv 0) (pa_cons pe_int (pa_cons (pe_gint W.c_MAX_WIDTH) pa_nil)))))), ?_⟩
  obtain ⟨v, o, rfl, hv, q⟩ := h
  exact ⟨_, rfl, v, o, 1, .int 1000, rfl, hv, .inr ⟨_, rfl⟩, q⟩
theorem ok_total_of {f : Addr} {fd : FuncData} (F : FnP K "total_of" (top 21) [] f fd) (W : Wd K mg)  : FnOk P w K mg base CX0 1 f fd ["lengths"] (sp_total_of K) := by
  refine FunD.ok F sc_total_of (fun vs H Q E h => ?len) (fun cdv A outer s H vs Q E hr h => ?_)
  case len =>
    obtain ⟨a, ns, rfl, _⟩ := h
    rfl
  refine ⟨_, PSs.nox (pss_one (ps_ret (pe_op op_sub (pe_op op_add (pe_callB (cr_sum rfl) (by rfl) W.n_sum (by decide +kernel) (pa_cons (pv 0) pa_nil)) (pe_callB call_len_seq (by rfl) W.n_len (by decide +kernel) (pa_cons (pv 0) pa_nil))) pe_int))), ?_⟩
  obtain ⟨a, ns, rfl, hS, q⟩ := h
  refine ⟨_, rfl, a, ns, rfl, hS, _, rfl, a, _, rfl, .inl hS, _, _, rfl, rfl, _, _, rfl, rfl, ?_⟩
  rw [List.length_map]
  exact q
theorem ok_are_lengths {f : Addr} {fd : FuncData} (F : FnP K "are_lengths" (top 22) [] f fd) (W : Wd K mg) (c_total_of : Cal P w K mg base CX0 1 "total_of" ["lengths"] [] (sp_total_of K)) (c_is_integer_2 : Cal P w K mg base CX0 1 "is_integer" ["value", "low", "high"] [.non] (sp_is_integer K)) : FnOk P w K mg base CX0 2 f fd ["value"] (sp_are_lengths K) := by
  refine FunD.ok F sc_are_lengths (fun vs H Q E h => ?len) (fun cdv A outer s H vs Q E hr h => ?_)
  case len =>
    obtain ⟨v, o, rfl, _⟩ := h
    rfl
  refine ⟨_, PSs.nox (pss_cons (ps_if (PW.pt (pw_or (pt_not (pt_val (pe_callB call_isi (by rfl) W.n_isinstance (by decide +kernel) (pa_cons (pv 0) (pa_cons (pe_ty (n := "list") W.n_list (by decide +kernel)) pa_nil))))) (pw_or (pt_cmpR (op_eqD hr.units) (pv 0) (pe_lst pa_nil) (nomark _)) (pw_or1 (pt_not (pt_val (pe_callB (cr_all rfl) (by rfl) W.n_all (by decide +kernel) (pa_cons (pe_lc (own := [("length", 1)]) (g := (gName 1)) (by rfl) sc_are_lengths.nd (pi_list (pv 0)) (blkOk_by (own := [("length", 1)]) (N := ["value", "length"]) (sc := defScope (top 22)) (by decide +kernel)) (fun _ _ _ _ _ => (pg_name (i := 1) sc_are_lengths.nd rfl (Or.inl rfl))) (fun _ _ _ _ _ => pts_nil) (fun _ _ _ _ _ => (pe_cal c_is_integer_2 (hr.mono (by decide)) pass0 (pa_cons (pv 1) (pa_cons pe_int pa_nil))))) pa_nil)))))))) (pss_one (ps_ret pe_bl)) pss_nil)
  (pss_one (ps_ret (pe_cmpR op_le (pe_cal c_total_of (hr.mono (by decide)) pass0 (pa_cons (pv 0) pa_nil)) (pe_gint W.c_MAX_CHARACTERS) (nomark _))))), ?_⟩
  obtain ⟨v, o, rfl, hv, hz, q⟩ := h
  refine ⟨_, rfl, _, _, _, _, _, rfl, .ty _, hv.ty, isi_list o, _, rfl, ?_⟩
  rw [isI_list]
  cases hv with
  | e ha => exact q _ (Same.refl _)
  | d hd hs =>
    cases hd with
    | non => exact q _ (Same.refl _)
    | str x => exact q _ (Same.refl _)
    | bl _ => exact q _ (Same.refl _)
    | int _ => exact q _ (Same.refl _)
    | tup _ _ => exact q _ (Same.refl _)
    | @lst a xs ds hS ha =>
      have hl := dpAll_len ha
      have hz' : ds.length ≤ sizeLine := hz ds rfl
      refine ⟨_, rfl, (by decide), fun p hp => ?_⟩
      have s1 : Same H (upd H p (.lst [])) := same_new hp
      refine ⟨.list ds, .list [], .lst (s1.seq hS) (DpAll.same s1 _ _ ha), .lst (.inl (.inl upd_same)) .nil, hs, by decide, _, rfl, ?_⟩
      cases ds with
      | nil => exact q _ s1
      | cons d ds =>
        have e0 : PyData.eqv (.list (d :: ds)) (.list []) = false := by simp [PyData.eqv, PyData.eqvAll]
        rw [e0]
        refine iteF ⟨.ref a, rfl, a, rfl, ⟨xs, s1.seq hS⟩, fun D nD => ?_⟩
        refine lc_mapL (xs := xs) (((d :: ds).map fun d => V.bl (isLen d))) (by rw [List.length_map, hl]) (by rw [hl]; exact hz') (s1.seq hS) nD (fun i x y H' hx hy s2 Q' k => ?_) (fun H' s2 eD => ?_)
        · obtain ⟨d', e', hd'⟩ := dpAll_get ha hx
          refine ⟨x, rfl, x, some d', 1, .non, rfl, .d (Dp.same (s1.trans s2) _ _ hd') ?_, .inl rfl, ?_⟩
          · exact shaped_item hs (List.mem_of_getElem? e')
          · rw [List.getElem?_map, e'] at hy
            have hy' : V.bl (isLen d') = y := Option.some.inj hy
            have e2 : isIntV x 1 .non = isLen d' := by cases hd' <;> simp [isIntV, isLen]
            rw [e2, hy']
            exact k H' (Same.refl _)
        · refine ⟨D, (d :: ds).map isLen, rfl, .inl (.inl (by rw [eD, List.map_map]; rfl)), _, rfl, ?_⟩
          have s3 : Same H H' := s1.trans s2
          cases c : (((d :: ds).map isLen).all id) with
          | false =>
            refine iteT ?_
            have e3 : areLengths (some (.list (d :: ds))) = false := by
              have : (d :: ds).all isLen = false := by simpa [List.all_map] using c
              simp [areLengths, this]
            rw [← e3]
            exact q H' s3
          | true =>
            refine iteF ?_
            have ca : (d :: ds).all isLen = true := by simpa [List.all_map] using c
            have hi : xs = iV ((d :: ds).map lenOf) := dpAll_lens ha ca
            refine ⟨.ref a, rfl, a, (d :: ds).map lenOf, rfl, by rw [← hi]; exact s3.seq hS, _, _, rfl, rfl, ?_⟩
            have e3 : areLengths (some (.list (d :: ds))) = decide (total ((d :: ds).map lenOf) ≤ 600) := by simp [areLengths, ca]
            dsimp only
            rw [← e3]
            exact q H' s3
theorem ok_is_text {f : Addr} {fd : FuncData} (F : FnP K "is_text" (top 23) [] f fd) (W : Wd K mg) (c_are_lengths : Cal P w K mg base CX0 2 "are_lengths" ["value"] [] (sp_are_lengths K)) : FnOk P w K mg base CX0 3 f fd ["value"] (sp_is_text K) := by
  refine FunD.ok F sc_is_text (fun vs H Q E h => ?len) (fun cdv A outer s H vs Q E hr h => ?_)
  case len =>
    obtain ⟨v, o, rfl, _⟩ := h
    rfl
  refine ⟨_, PSs.nox (pss_one (ps_ret (pe_cal c_are_lengths (hr.mono (by decide)) pass0 (pa_cons (pv 0) pa_nil)))), ?_⟩
  obtain ⟨v, o, rfl, hv, hz, q⟩ := h
  exact ⟨_, rfl, v, o, rfl, hv, hz, q⟩
theorem ok_require_text {f : Addr} {fd : FuncData} (F : FnP K "require_text" (top 24) [] f fd) (W : Wd K mg) (c_is_text : Cal P w K mg base CX0 3 "is_text" ["value"] [] (sp_is_text K)) : FnOk P w K mg base (L2.CX P w) 4 f fd ["text"] (sp_require_text K) := by
  refine FunD.ok F sc_require_text (fun vs H Q E h => ?len) (fun cdv A outer s H vs Q E hr h => ?_)
  case len =>
    obtain ⟨v, o, rfl, _⟩ := h
    rfl
  refine ⟨_, (pss_one (ps_if (pt_not (pt_val (pe_cal c_is_text (hr.mono (by decide)) pass0 (pa_cons (pv 0) pa_nil)))) (pss_one (ps_raiseT (takes_of rfl rfl rfl rfl) W.x_InvalidText)) pss_nil)), ?_⟩
  obtain ⟨v, o, rfl, hv, hz, q, qe⟩ := h
  refine ⟨_, rfl, v, o, rfl, hv, hz, fun H' s => ⟨_, rfl, ?_⟩⟩
  cases c : areLengths o with
  | true => exact q c H' s
  | false => exact qe c H' s
theorem ok_require_width {f : Addr} {fd : FuncData} (F : FnP K "require_width" (top 25) [] f fd) (W : Wd K mg) (c_is_width : Cal P w K mg base CX0 2 "is_width" ["value"] [] (sp_is_width K)) : FnOk P w K mg base (L2.CX P w) 3 f fd ["width"] (sp_require_width K) := by
  refine FunD.ok F sc_require_width (fun vs H Q E h => ?len) (fun cdv A outer s H vs Q E hr h => ?_)
  case len =>
    obtain ⟨v, o, rfl, _⟩ := h
    rfl
  refine ⟨_, (pss_one (ps_if (pt_not (pt_val (pe_cal c_is_width (hr.mono (by decide)) pass0 (pa_cons (pv 0) pa_nil)))) (pss_one (ps_raiseT (takes_of rfl rfl rfl rfl) W.x_InvalidWidth)) pss_nil)), ?_⟩
  obtain ⟨v, o, rfl, hv, q, qe⟩ := h
  refine ⟨_, rfl, v, o, rfl, hv, _, rfl, ?_⟩
  cases c : isWidth v with
  | true => exact q c
  | false => exact qe c
theorem ok_ends_of {f : Addr} {fd : FuncData} (F : FnP K "ends_of" (top 26) [] f fd) (W : Wd K mg)  : FnOk P w K mg base CX0 1 f fd ["lengths"] (sp_ends_of K) := by
  refine FunD.ok F sc_ends_of (fun vs H Q E h => ?len) (fun cdv A outer s H vs Q E hr h => ?_)
  case len =>
    obtain ⟨a, ns, rfl, _⟩ := h
    rfl
  refine ⟨_, PSs.nox (pss_cons (ps_par (i := 1) (j := 2) (by rfl) sc_ends_of.nd rfl rfl (by decide) rfl rfl (pa_cons (pe_lst pa_nil) (pa_cons (pe_un un_neg pe_int) pa_nil)) (by rfl))
  (pss_cons (ps_for PassesOwn.never rfl (pi_list (pv 0)) (pg_name (i := 3) sc_ends_of.nd rfl (Or.inl rfl))
  (pss_cons (ps_aug (i := 2) sc_ends_of.nd rfl (.inl rfl) (pe_op op_add pe_int (pv 3)) ip_add)
  (pss_one (ps_expr (pe_bm PySem.F.plainAttrs_list PySem.F.slot_list_append PySem.F.type_list_append mt_append (pv 1) (pa_cons (pv 2) pa_nil))))))
  (pss_one (ps_ret (pv 1))))), ?_⟩
  obtain ⟨a, ns, rfl, hS, hl, q⟩ := h
  refine ⟨Nat.zero_le _, fun p hp => ⟨_, rfl, _, _, rfl, ?_⟩⟩
  refine ⟨_, rfl, a, rfl, ⟨_, (same_new hp).seq hS⟩, for_list (xs := iV ns) (fun i σ H' => ∃ j, σ = [some (.ref a), some (.ref p), some (.int (lastEnd ns i)), j] ∧ Same H H' ∧ IL H' p ((endsOf ns).take i))
    ⟨_, rfl, same_new hp, upd_same⟩ (fun i σ H' _ ⟨_, _, s, _⟩ => s.seq hS) ?_ ?_⟩
  · rintro i x σ H' hx ⟨j, rfl, s, e⟩
    obtain ⟨z, hz, rfl⟩ := ints_get hx
    have hi : i < ns.length := (List.getElem?_eq_some_iff.mp hz).1
    refine ⟨_, rfl, _, rfl, _, _, rfl, rfl, _, _, rfl, rfl, ?_⟩
    refine ⟨_, rfl, .inl ⟨rfl, _, .inl (.inl e)⟩, _, rfl, p, _, _, rfl, rfl, e, ?_, ?_⟩
    · rw [List.length_map, List.length_take]
      omega
    · have e2 : lastEnd ns i + (1 + z) = lastEnd ns (i + 1) := (lastEnd_succ hz).symm
      dsimp only
      rw [e2]
      refine ⟨_, rfl, same_mut s hp, ?_⟩
      rw [ints_push, ends_take hz]
      exact upd_same
  · rintro σ H' ⟨j, rfl, s, e⟩
    refine ⟨_, rfl, q p H' hp s ?_⟩
    rw [List.length_map] at e
    rwa [List.take_of_length_le (by rw [endsOf_len]; exact Nat.le_refl _)] at e
theorem ok_starts_of {f : Addr} {fd : FuncData} (F : FnP K "starts_of" (top 27) [] f fd) (W : Wd K mg)  : FnOk P w K mg base CX0 1 f fd ["ends"] (sp_starts_of K) := by
  refine FunD.ok F sc_starts_of (fun vs H Q E h => ?len) (fun cdv A outer s H vs Q E hr h => ?_)
  case len =>
    obtain ⟨a, es, rfl, _⟩ := h
    rfl
  refine ⟨_, PSs.nox (pss_one (ps_ret (pe_op op_cat (pe_lst (pa_cons pe_int pa_nil)) (pe_lc (own := [("end", 1)]) (g := (gName 1)) (by rfl) sc_starts_of.nd (pi_list (pe_slice sl_list (pv 0) po_none (po_some (pe_un un_neg pe_int)))) (blkOk_by (own := [("end", 1)]) (N := ["ends", "end"]) (sc := defScope (top 27)) (by decide +kernel)) (fun _ _ _ _ _ => (pg_name (i := 1) sc_starts_of.nd rfl (Or.inl rfl))) (fun _ _ _ _ _ => pts_nil) (fun _ _ _ _ _ => (pe_op op_add (pv 1) pe_int)))))), ?_⟩
  obtain ⟨a, es, rfl, hS, hl, q⟩ := h
  have hz : sizeLine = 16777216 := by decide
  refine rt_ret (op_go ⟨(by show 1 ≤ sizeLine; decide), fun p1 n1 => ?_⟩)
  refine ⟨_, rfl, _, rfl, _, rfl, a, _, rfl, (same_new n1).seq hS, fun c nc => ⟨c, rfl, ⟨_, .inl (.inl upd_same)⟩, fun D nD => ?_⟩⟩
  have ecut : cutV (iV es) none (some (-1)) = iV es.dropLast := by rw [cutV_map, cutL_init]
  rw [ecut]
  have hl2 : (iV es.dropLast).length ≤ sizeLine := by rw [List.length_map, List.length_dropLast]; omega
  rw [ecut] at nD
  refine lc_mapL (xs := iV es.dropLast) (iV (es.dropLast.map (· + 1))) (by simp) hl2 (.inl (.inl upd_same)) nD (fun i x y H' hx hy s Q' k => ?_) (fun H' s eD => ?_)
  · obtain ⟨z, hz1, rfl⟩ := ints_get hx
    refine ⟨_, rfl, _, _, rfl, rfl, ?_⟩
    have : (iV (es.dropLast.map (· + 1)))[i]? = some (.int (z + 1)) := get_ints (by rw [List.getElem?_map, hz1]; rfl)
    rw [this] at hy
    show Q' (V.int (z + 1)) H'
    rw [Option.some.inj hy]
    exact k H' (Same.refl _)
  · have s1 : Same (upd H p1 (.lst [.int 0])) H' := (same_new nc).trans s
    refine ⟨p1, D, _, _, rfl, rfl, s1 _ _ upd_same, eD, ?_, fun p np => q p _ ?_ ((same_new n1).trans (s1.trans (same_new np))) ?_⟩
    · simp
      omega
    · exact fresh_of ((same_new n1).trans s1) np
    · exact upd_same
theorem ok_lengths_of {f : Addr} {fd : FuncData} (F : FnP K "lengths_of" (top 28) [] f fd) (W : Wd K mg) (c_starts_of : Cal P w K mg base CX0 1 "starts_of" ["ends"] [] (sp_starts_of K)) : FnOk P w K mg base CX0 2 f fd ["ends"] (sp_lengths_of K) := by
  refine FunD.ok F sc_lengths_of (fun vs H Q E h => ?len) (fun cdv A outer s H vs Q E hr h => ?_)
  case len =>
    obtain ⟨a, es, rfl, _⟩ := h
    rfl
  refine ⟨_, PSs.nox (pss_one (ps_ret (pe_lc (own := [("start", 1), ("end", 2)]) (g := (gTup K 2 (gCons (gName 1) (gCons (gName 2) gNil)))) (by rfl) sc_lengths_of.nd (pi_zip (by rfl) W.n_zip (pa_cons (pe_cal c_starts_of (hr.mono (by decide)) pass0 (pa_cons (pv 0) pa_nil)) (pa_cons (pv 0) pa_nil))) (blkOk_by (own := [("start", 1), ("end", 2)]) (N := ["ends", "start", "end"]) (sc := defScope (top 28)) (by decide +kernel)) (fun _ _ _ _ _ => (pg_tup rfl (pgs_cons (pg_name (i := 1) sc_lengths_of.nd rfl (Or.inl rfl)) (pgs_cons (pg_name (i := 2) sc_lengths_of.nd rfl (Or.inl rfl)) pgs_nil)))) (fun _ _ _ _ _ => pts_nil) (fun _ _ _ _ _ => (pe_op op_sub (pv 2) (pv 1)))))), ?_⟩
  obtain ⟨a, es, rfl, hS, h0, hl, q⟩ := h
  have hz : sizeLine = 16777216 := by decide
  have hlen : (startsOf es).length = es.length := by
    unfold startsOf
    have := List.length_pos_iff.mpr h0
    simp
    omega
  refine rt_ret ?_
  refine ⟨_, rfl, a, es, rfl, hS, hl, fun p1 H1 n1 s1 e1 => ⟨_, rfl, p1, a, _, _, rfl, e1.seq, s1.seq hS, fun D nD => ?_⟩⟩
  refine lc_mapZ (xs := iV (startsOf es)) (ys := iV es) (iV (lengthsOf es)) (by simp [hlen]) (by simp [hlen, lengthsOf, lenFrom_len]) (by simp [hlen]; omega) e1.seq (s1.seq hS) nD (fun i x y z H' hx hy hzz s Q' k => ?_) (fun H' s eD => ?_)
  · obtain ⟨sv, hs1, rfl⟩ := ints_get hx
    obtain ⟨ev, he1, rfl⟩ := ints_get hy
    refine ⟨_, rfl, _, rfl, _, _, rfl, rfl, ?_⟩
    have := get_ints (lenFrom_get es 0 i sv ev hs1 he1)
    rw [show iV (lenFrom 0 es) = iV (lengthsOf es) from rfl, hzz] at this
    show Q' (V.int (ev - sv)) H'
    rw [← Option.some.inj this]
    exact k H' (Same.refl _)
  · exact q D H' (fresh_of s1 nD) (s1.trans s) eD
theorem ok_wrapped_ends {f : Addr} {fd : FuncData} (F : FnP K "wrapped_ends" (top 29) [] f fd) (W : Wd K mg)  : FnOk P w K mg base CX0 1 f fd ["stops", "width"] (sp_wrapped_ends K) := by
  refine FunD.ok F sc_wrapped_ends (fun vs H Q E h => ?len) (fun cdv A outer s H vs Q E hr h => ?_)
  case len =>
    obtain ⟨a, stops, w, rfl, _⟩ := h
    rfl
  refine ⟨_, PSs.nox (pss_cons (ps_par (i := 2) (j := 3) (by rfl) sc_wrapped_ends.nd rfl rfl (by decide) rfl rfl (pa_cons (pe_lst pa_nil) (pa_cons pe_int pa_nil)) (by rfl))
  (pss_cons (ps_for PassesOwn.never rfl (pi_zip (by rfl) W.n_zip (pa_cons (pv 0) (pa_cons (pe_slice sl_list (pv 0) (po_some pe_int) po_none) pa_nil))) (pg_tup rfl (pgs_cons (pg_name (i := 4) sc_wrapped_ends.nd rfl (Or.inl rfl)) (pgs_cons (pg_name (i := 5) sc_wrapped_ends.nd rfl (Or.inl rfl)) pgs_nil)))
  (pss_one (ps_if (pt_cmpR op_gt (pv 5) (pe_op op_add (pv 3) (pv 1)) (nomark _)) (pss_cons (ps_expr (pe_bm PySem.F.plainAttrs_list PySem.F.slot_list_append PySem.F.type_list_append mt_append (pv 2) (pa_cons (pv 4) pa_nil)))
  (pss_one (ps_set (i := 3) sc_wrapped_ends.nd rfl (.inl rfl) (pe_op op_add (pv 4) pe_int)))) pss_nil)))
  (pss_one (ps_ret (pe_op op_cat (pv 2) (pe_slice sl_list (pv 0) (po_some (pe_un un_neg pe_int)) po_none)))))), ?_⟩
  obtain ⟨a, stops, w, rfl, hS, h0, hl, q⟩ := h
  have hz : sizeLine = 16777216 := by decide
  refine ⟨Nat.zero_le _, fun p np => ⟨_, _, rfl, ?_⟩⟩
  refine ⟨_, rfl, _, rfl, _, rfl, a, _, rfl, (same_new np).seq hS, fun c nc => ?_⟩
  have ecut : cutV (iV stops) (some 1) none = iV (stops.drop 1) := by rw [cutV_map, cutL_from _ _ (by decide)]; rfl
  rw [ecut]
  have ncp : c ≠ p := (ne_of_none (L2.upd_same (H := H) (a := p)) nc).symm
  have sC : Same H (upd (upd H p (.lst [])) c (.lst (iV (stops.drop 1)))) := (same_new np).trans (same_new nc)
  refine ⟨a, c, _, _, rfl, sC.seq hS, .inl (.inl upd_same), ?_⟩
  refine for_it (n := (stops.drop 1).length) (walk_zip (xs := iV stops) (ys := iV (stops.drop 1)) (by simp)) (fun i σ H' => ∃ st found j4 j5, σ = [some (.ref a), some (.int w), some (.ref p), some (.int st), j4, j5] ∧
      SameB p (upd (upd H p (.lst [])) c (.lst (iV (stops.drop 1)))) H' ∧ IL H' p found ∧ found ++ wrapGo w st (stops.drop i) = wrappedEnds stops w) ⟨0, [], none, none, rfl, SameB.refl _ _, at_new upd_same nc, rfl⟩ ?_ ?_ ?_
  · rintro i σ H' hi ⟨st, found, j4, j5, rfl, s, e, hr⟩
    refine ⟨(SameB.all sC np s).seq hS, .inl (.inl (s c _ ncp upd_same))⟩
  · rintro i v σ H' H2 hi ⟨st, found, j4, j5, rfl, s, e, hr⟩ ⟨T, x, y, rfl, nT, rfl, hx, hy⟩
    obtain ⟨sv, hs1, rfl⟩ := ints_get hx
    obtain ⟨tv, ht1, rfl⟩ := ints_get hy
    have ht1' : stops[i + 1]? = some tv := by rw [List.getElem?_drop, Nat.add_comm] at ht1; exact ht1
    refine ⟨T, _, rfl, .inl (.inl upd_same), rfl, _, _, rfl, _, _, rfl, rfl, ?_⟩
    have nTp : p ≠ T := ne_of_none e nT
    have e2 : IL (upd H' T (.tup [.int sv, .int tv])) p found := at_new e nT
    have s2 : SameB p (upd (upd H p (.lst [])) c (.lst (iV (stops.drop 1)))) (upd H' T (.tup [.int sv, .int tv])) := s.trans (SameB.of (same_new nT))
    have hd := wrapGo_drop w st sv tv stops i hs1 ht1'
    refine ⟨_, rfl, _, rfl, _, rfl, _, _, rfl, rfl, _, _, rfl, rfl, _, rfl, ?_⟩
    by_cases c1 : st + w < tv
    · rw [decide_eq_true c1]
      rw [hd, if_pos c1] at hr
      refine iteT (sq_drop ?_)
      have hfl : found.length ≤ stops.length := by
        have h1 := congrArg List.length hr
        have h2 := wrapGo_len w 0 stops
        unfold wrappedEnds at h1
        rw [List.length_append] at h1
        omega
      refine ⟨_, rfl, .inl ⟨rfl, _, e2.seq⟩, _, rfl, p, _, _, rfl, rfl, e2, by rw [List.length_map]; omega, ?_⟩
      refine ⟨_, rfl, _, _, rfl, rfl, sv + 1, found ++ [sv], _, _, rfl, ?_, ?_, ?_⟩
      · intro b o nb eb
        rw [upd_ne nb]
        exact s2 b o nb eb
      · rw [ints_push]
        exact upd_same
      · rw [← hr, List.append_assoc]
        rfl
    · rw [decide_eq_false c1]
      rw [hd, if_neg c1] at hr
      exact iteF ⟨st, found, _, _, rfl, s2, e2, hr⟩
  · rintro σ H' ⟨st, found, j4, j5, rfl, s, e, hr⟩
    have sA : Same H H' := SameB.all sC np s
    have elast : stops.drop (stops.drop 1).length = [stops.getLast h0] := by
      rw [List.length_drop]
      exact drop_end h0
    rw [elast] at hr
    have ecl : cutV (iV stops) (some (-1)) none = iV [stops.getLast h0] := by
      rw [cutV_map]
      congr 1
      unfold cutL
      have e1 : HT.sIx stops.length 0 (some (-1)) = stops.length - 1 := by
        show (if (-1 : Int) < 0 then ((-1 : Int) + (stops.length : Int)).toNat else min (-1 : Int).toNat stops.length) = _
        rw [if_pos (by decide)]
        omega
      have hp := List.length_pos_iff.mpr h0
      rw [e1, HT.sIx_none, drop_end h0]
      have : stops.length - (stops.length - 1) = 1 := by omega
      rw [this]
      rfl
    have hr' : found ++ [stops.getLast h0] = wrappedEnds stops w := hr
    dsimp only
    refine rt_ret (op_go ⟨_, rfl, _, rfl, _, rfl, _, rfl, a, _, rfl, sA.seq hS, fun d nd => ?_⟩)
    rw [ecl]
    refine ⟨p, d, _, _, rfl, rfl, at_new e nd, upd_same, ?_, fun r nr => ?_⟩
    · have h1 := congrArg List.length hr'
      have h2 := wrapGo_len w 0 stops
      unfold wrappedEnds at h1
      rw [List.length_append] at h1
      simp at h1 ⊢
      omega
    · refine q r _ (fresh_of (sA.trans (same_new nd)) nr) (sA.trans ((same_new nd).trans (same_new nr))) ?_
      have e3 : iV found ++ iV [stops.getLast h0] = iV (wrappedEnds stops w) := by rw [ints_app, hr']
      rw [e3]
      exact upd_same
theorem ok_wrap_of {f : Addr} {fd : FuncData} (F : FnP K "wrap_of" (top 30) [] f fd) (W : Wd K mg) (c_lengths_of : Cal P w K mg base CX0 2 "lengths_of" ["ends"] [] (sp_lengths_of K)) (c_wrapped_ends : Cal P w K mg base CX0 1 "wrapped_ends" ["stops", "width"] [] (sp_wrapped_ends K)) (c_ends_of : Cal P w K mg base CX0 1 "ends_of" ["lengths"] [] (sp_ends_of K)) : FnOk P w K mg base CX0 3 f fd ["text", "width"] (sp_wrap_of K) := by
  refine FunD.ok F sc_wrap_of (fun vs H Q E h => ?len) (fun cdv A outer s H vs Q E hr h => ?_)
  case len =>
    obtain ⟨a, ns, w, rfl, _⟩ := h
    rfl
  refine ⟨_, PSs.nox (pss_one (ps_ret (pe_cal c_lengths_of (hr.mono (by decide)) pass0 (pa_cons (pe_cal c_wrapped_ends (hr.mono (by decide)) pass0 (pa_cons (pe_cal c_ends_of (hr.mono (by decide)) pass0 (pa_cons (pv 0) pa_nil)) (pa_cons (pv 1) pa_nil))) pa_nil)))), ?_⟩
  obtain ⟨a, ns, w, rfl, hS, h0, hl, q⟩ := h
  have hz : sizeLine = 16777216 := by decide
  refine ⟨_, rfl, a, ns, rfl, hS, by omega, fun p1 H1 n1 s1 e1 => ⟨_, rfl, ?_⟩⟩
  have hne : endsOf ns ≠ [] := by
    intro e
    have := congrArg List.length e
    rw [endsOf_len] at this
    exact h0 (List.length_eq_zero_iff.mp this)
  refine ⟨p1, endsOf ns, w, rfl, e1.seq, hne, by rw [endsOf_len]; exact hl, fun p2 H2 n2 s2 e2 => ?_⟩
  have hl2 := wrapGo_len w 0 (endsOf ns)
  rw [endsOf_len] at hl2
  obtain ⟨s, r, es⟩ := List.exists_cons_of_ne_nil hne
  refine ⟨p2, wrappedEnds (endsOf ns) w, rfl, e2.seq, by unfold wrappedEnds; rw [es]; exact wrapGo_ne w 0 s r, by unfold wrappedEnds; omega, fun p3 H3 n3 s3 e3 => ?_⟩
  refine q p3 H3 (fresh_of (s1.trans s2) n3) ((s1.trans s2).trans s3) ?_
  have := wrap_eq ns w
  unfold wrapOf at this
  rw [← this]
  exact e3
theorem ok_wrap_text {f : Addr} {fd : FuncData} (F : FnP K "wrap_text" (top 31) [] f fd) (W : Wd K mg) (c_wrap_of : Cal P w K mg base CX0 3 "wrap_of" ["text", "width"] [] (sp_wrap_of K)) (c_require_width : Cal P w K mg base (L2.CX P w) 3 "require_width" ["width"] [] (sp_require_width K)) (c_require_text : Cal P w K mg base (L2.CX P w) 4 "require_text" ["text"] [] (sp_require_text K)) : FnOk P w K mg base (L2.CX P w) 5 f fd ["text", "width"] (sp_wrap_text K) := by
  refine FunD.ok F sc_wrap_text (fun vs H Q E h => ?len) (fun cdv A outer s H vs Q E hr h => ?_)
  case len =>
    obtain ⟨v, o, wv, wo, rfl, _⟩ := h
    rfl
  refine ⟨_, (pss_cons (ps_expr (pe_cal c_require_text (hr.mono (by decide)) (passes_call (takes_of rfl rfl rfl rfl) (fun _ _ _ _ h => h)) (pa_cons (pv 0) pa_nil)))
  (pss_cons (ps_expr (pe_cal c_require_width (hr.mono (by decide)) (passes_call (takes_of rfl rfl rfl rfl) (fun _ _ _ _ h => h)) (pa_cons (pv 1) pa_nil)))
  (pss_one (ps_ret (pe_cal c_wrap_of (hr.mono (by decide)) pass0 (pa_cons (pv 0) (pa_cons (pv 1) pa_nil))))))), ?_⟩
  obtain ⟨v, o, wv, wo, rfl, hv, hz, hw, q, qe, qw⟩ := h
  refine ⟨_, rfl, v, o, rfl, hv, hz, fun c H1 s1 => ?_, qe⟩
  refine ⟨_, rfl, wv, wo, rfl, hw _ s1, fun c2 => ?_, fun c2 => qw c c2 H1 s1⟩
  obtain ⟨a, ns, w, rfl, rfl, hS, h0, hl, q'⟩ := q c c2
  exact ⟨_, rfl, _, rfl, a, ns, w, rfl, s1.seq hS, h0, hl, fun p H2 n2 s2 e2 => q' p H2 (fresh_of s1 n2) (s1.trans s2) e2⟩
theorem ok_require_word {f : Addr} {fd : FuncData} (F : FnP K "require_word" (top 33) [] f fd) (W : Wd K mg) (c_is_integer : Cal P w K mg base CX0 1 "is_integer" ["value", "low", "high"] [] (sp_is_integer K)) : FnOk P w K mg base (L2.CX P w) 2 f fd ["text", "word"] (sp_require_word K) := by
  refine FunD.ok F sc_require_word (fun vs H Q E h => ?len) (fun cdv A outer s H vs Q E hr h => ?_)
  case len =>
    obtain ⟨a, ns, v, o, rfl, _⟩ := h
    rfl
  refine ⟨_, (pss_one (ps_if (pt_not (pt_val (pe_cal c_is_integer (hr.mono (by decide)) pass0 (pa_cons (pv 1) (pa_cons pe_int (pa_cons (pe_op op_sub (pe_callB call_len_seq (by rfl) W.n_len (by decide +kernel) (pa_cons (pv 0) pa_nil)) pe_int) pa_nil)))))) (pss_one (ps_raiseT (takes_of rfl rfl rfl rfl) W.x_InvalidIndex)) pss_nil)), ?_⟩
  obtain ⟨a, ns, v, o, rfl, hS, hv, q, qe⟩ := h
  refine ⟨_, rfl, _, rfl, a, _, rfl, .inl hS, _, _, rfl, rfl, v, o, 0, .int ((ns.length : Int) - 1), by rw [List.length_map]; rfl, hv, .inr ⟨_, rfl⟩, _, rfl, ?_⟩
  cases c : isIntV v 0 (.int ((ns.length : Int) - 1)) with
  | true => exact q c
  | false => exact qe c
theorem ok_wrap_from {f : Addr} {fd : FuncData} (F : FnP K "wrap_from" (top 34) [] f fd) (W : Wd K mg) (c_wrap_text : Cal P w K mg base (L2.CX P w) 5 "wrap_text" ["text", "width"] [] (sp_wrap_text K)) (c_require_word : Cal P w K mg base (L2.CX P w) 2 "require_word" ["text", "word"] [] (sp_require_word K)) (c_require_width : Cal P w K mg base (L2.CX P w) 3 "require_width" ["width"] [] (sp_require_width K)) (c_require_text : Cal P w K mg base (L2.CX P w) 4 "require_text" ["text"] [] (sp_require_text K)) : FnOk P w K mg base (L2.CX P w) 6 f fd ["text", "width", "word"] (sp_wrap_from K) := by
  refine FunD.ok F sc_wrap_from (fun vs H Q E h => ?len) (fun cdv A outer s H vs Q E hr h => ?_)
  case len =>
    obtain ⟨v, o, wv, wo, xv, xo, rfl, _⟩ := h
    rfl
  refine ⟨_, (pss_cons (ps_expr (pe_cal c_require_text (hr.mono (by decide)) (passes_call (takes_of rfl rfl rfl rfl) (fun _ _ _ _ h => h)) (pa_cons (pv 0) pa_nil)))
  (pss_cons (ps_expr (pe_cal c_require_width (hr.mono (by decide)) (passes_call (takes_of rfl rfl rfl rfl) (fun _ _ _ _ h => h)) (pa_cons (pv 1) pa_nil)))
  (pss_cons (ps_expr (pe_cal c_require_word (hr.mono (by decide)) (passes_call (takes_of rfl rfl rfl rfl) (fun _ _ _ _ h => h)) (pa_cons (pv 0) (pa_cons (pv 2) pa_nil))))
  (pss_one (ps_ret (pe_cal c_wrap_text (hr.mono (by decide)) (passes_call (takes_of rfl rfl rfl rfl) (fun _ _ _ _ h => h)) (pa_cons (pe_slice sl_list (pv 0) (po_some (pv 2)) po_none) (pa_cons (pv 1) pa_nil)))))))), ?_⟩
  obtain ⟨v, o, wv, wo, xv, xo, rfl, hv, hz, hw, hx, q, qe, qw⟩ := h
  refine ⟨_, rfl, v, o, rfl, hv, hz, fun c H1 s1 => ?_, qe⟩
  refine ⟨_, rfl, wv, wo, rfl, hw _ s1, fun c2 => ?_, fun c2 => qw c c2 H1 s1⟩
  obtain ⟨a, ns, w, rfl, rfl, hS, ht, q1, q2⟩ := q c c2
  have hl := ht.len
  refine ⟨_, rfl, _, rfl, a, ns, xv, xo, rfl, s1.seq hS, hx _ s1, fun c3 => ?_, fun c3 => q2 c3 H1 s1⟩
  obtain ⟨i, rfl, q3⟩ := q1 c3
  have hi : 0 ≤ i ∧ i < ns.length := by
    simp only [isWord, isIntV, Bool.and_eq_true, decide_eq_true_eq] at c3
    omega
  have hwd : 1 ≤ w ∧ w ≤ 1000 := by
    simpa [isWidth, isIntV] using c2
  refine ⟨_, rfl, _, rfl, _, rfl, a, _, rfl, s1.seq hS, fun cc nc => ?_⟩
  have ecut : cutV (iV ns) (some i) none = iV (ns.drop i.toNat) := by rw [cutV_map, cutL_from _ _ hi.1]
  rw [ecut]
  refine ⟨_, rfl, ?_⟩
  refine wrap_text_ok (w := cc) (ws := ns.drop i.toNat) (.inl (.inl upd_same)) (ht.drop (by omega)) hwd.1 hwd.2 fun p H2 n2 s2 e2 => ?_
  exact q3 p H2 (fresh_of (s1.trans (same_new nc)) n2) ((s1.trans (same_new nc)).trans s2) e2
theorem ok_first_words {f : Addr} {fd : FuncData} (F : FnP K "first_words" (top 35) [] f fd) (W : Wd K mg)  : FnOk P w K mg base CX0 1 f fd ["text", "width", "word"] (sp_first_words K) := by
  refine FunD.ok F sc_first_words (fun vs H Q E h => ?len) (fun cdv A outer s H vs Q E hr h => ?_)
  case len =>
    obtain ⟨a, ns, w, k, rfl, _⟩ := h
    rfl
  refine ⟨_, PSs.nox (pss_cons (ps_set (i := 3) sc_first_words.nd rfl (.inl rfl) (pe_lst pa_nil))
  (pss_cons (ps_while PassesOwn.never (pt_cmpR op_lt (pv 2) (pe_callB call_len_seq (by rfl) W.n_len (by decide +kernel) (pa_cons (pv 0) pa_nil)) (nomark _)) (pss_cons (ps_expr (pe_bm PySem.F.plainAttrs_list PySem.F.slot_list_append PySem.F.type_list_append mt_append (pv 3) (pa_cons (pv 2) pa_nil)))
  (pss_cons (ps_set (i := 4) sc_first_words.nd rfl (.inl rfl) (pe_ix ix_list (pv 0) (pv 2) (fun _ _ => rfl)))
  (pss_cons (ps_aug (i := 2) sc_first_words.nd rfl (.inl rfl) pe_int ip_add)
  (pss_one (ps_while PassesOwn.never (PW.pt (pw_and (pt_cmpR op_lt (pv 2) (pe_callB call_len_seq (by rfl) W.n_len (by decide +kernel) (pa_cons (pv 0) pa_nil)) (nomark _)) (pw_and1 (pt_cmpR op_le (pe_op op_add (pe_op op_add (pv 4) pe_int) (pe_ix ix_list (pv 0) (pv 2) (fun _ _ => rfl))) (pv 1) (nomark _))))) (pss_cons (ps_aug (i := 4) sc_first_words.nd rfl (.inl rfl) (pe_op op_add pe_int (pe_ix ix_list (pv 0) (pv 2) (fun _ _ => rfl))) ip_add)
  (pss_one (ps_aug (i := 2) sc_first_words.nd rfl (.inl rfl) pe_int ip_add)))))))))
  (pss_one (ps_ret (pv 3))))), ?_⟩
  obtain ⟨a, ns, w, k, rfl, hS, hl, hk, q⟩ := h
  have hz : sizeLine = 16777216 := by decide
  refine sq_set ⟨Nat.zero_le _, fun p np => ?_⟩
  refine ⟨fun m σ H' => ∃ (j : Nat) (f : List Int) (j4 : Option V), σ = [some (.ref a), some (.int w), some (.int (j : Int)), some (.ref p), j4] ∧ m = ns.length - j ∧ f ++ firstsOf ns w j = firstsOf ns w k.toNat ∧ Same H H' ∧ IL H' p f,
    ⟨_, k.toNat, [], none, (by rw [Int.toNat_of_nonneg hk]; rfl), rfl, rfl, same_new np, upd_same⟩, ?_⟩
  rintro m σ H1 ⟨j, f, j4, rfl, rfl, hf, s1, e1⟩
  refine ⟨_, rfl, _, rfl, a, _, rfl, .inl (s1.seq hS), _, _, rfl, rfl, _, rfl, ?_⟩
  rw [List.length_map]
  by_cases c : (j : Int) < ns.length
  · rw [decide_eq_true c]
    obtain ⟨z, hz1⟩ : ∃ z, ns[j]? = some z := ⟨_, List.getElem?_eq_getElem (by omega)⟩
    have hdj := drop_get hz1
    have hfj : firstsOf ns w j = (j : Int) :: firstsGo w (j + 1) z (ns.drop (j + 1)) := by
      unfold firstsOf
      rw [hdj]
    have hflen : f.length < sizeLine := by
      have h1 := congrArg List.length hf
      have h2 := firstsOf_len ns w k.toNat
      rw [List.length_append] at h1
      omega
    refine iteT ⟨fun σ2 H2 => ∃ (j' : Nat) (f' : List Int) (j4' : Option V), σ2 = [some (.ref a), some (.int w), some (.int (j' : Int)), some (.ref p), j4'] ∧ j < j' ∧ f' ++ firstsOf ns w j' = firstsOf ns w k.toNat ∧ Same H H2 ∧ IL H2 p f', ?_, ?_⟩
    · rintro σ2 H2 ⟨j', f', j4', rfl, h1, h2, h3, h4⟩
      exact ⟨ns.length - j', by omega, j', f', j4', rfl, rfl, h2, h3, h4⟩
    refine sq_drop ⟨_, rfl, .inl ⟨rfl, _, e1.seq⟩, _, rfl, p, _, _, rfl, rfl, e1, by rw [List.length_map]; exact hflen, ?_⟩
    have s2 : Same H (upd H1 p (.lst (iV f ++ [.int j]))) := same_mut s1 np
    have e2 : IL (upd H1 p (.lst (iV f ++ [.int j]))) p (f ++ [(j : Int)]) := by
      show upd _ _ _ _ = _
      rw [upd_same, ints_push]
    generalize (upd H1 p (.lst (iV f ++ [.int j]))) = H2 at s2 e2
    refine sq_set ⟨_, rfl, _, rfl, a, _, _, _, rfl, rfl, s2.seq hS, atI_int (atI_nat hz1), ?_⟩
    refine ⟨_, rfl, _, _, rfl, rfl, ?_⟩
    refine ⟨fun m σ H' => ∃ (j' : Nat) (c' : Int), σ = [some (.ref a), some (.int w), some (.int (j' : Int)), some (.ref p), some (.int c')] ∧ m = ns.length - j' ∧ j < j' ∧ f ++ [(j : Int)] ++ firstsGo w j' c' (ns.drop j') = firstsOf ns w k.toNat ∧ Same H H' ∧ IL H' p (f ++ [(j : Int)]),
      ⟨_, j + 1, z, rfl, rfl, by omega, ?_, s2, e2⟩, ?_⟩
    · rw [← hf, hfj, List.append_assoc]
      rfl
    rintro m σ H3 ⟨j', c', rfl, rfl, hj, hf', s3, e3⟩
    refine cutT (fun b H' => H' = H3 ∧ (b = true → ∃ n, ns[j']? = some n ∧ c' + 1 + n ≤ w) ∧ (b = false → firstsGo w j' c' (ns.drop j') = firstsOf ns w j')) (fun Q' k' => ?_) ?_
    · refine ⟨_, rfl, _, rfl, a, _, rfl, .inl (s3.seq hS), _, _, rfl, rfl, _, rfl, ?_⟩
      rw [List.length_map]
      by_cases c2 : (j' : Int) < ns.length
      · rw [decide_eq_true c2]
        obtain ⟨n, hn⟩ : ∃ n, ns[j']? = some n := ⟨_, List.getElem?_eq_getElem (by omega)⟩
        refine iteT ⟨_, rfl, _, _, rfl, rfl, _, rfl, _, rfl, a, _, _, _, rfl, rfl, s3.seq hS, atI_int (atI_nat hn), _, _, rfl, rfl, _, rfl, _, _, rfl, rfl, _, rfl, ?_⟩
        refine k' _ _ ⟨rfl, fun h => ⟨n, hn, of_decide_eq_true h⟩, fun h => ?_⟩
        have h' := of_decide_eq_false h
        unfold firstsOf
        rw [drop_get hn]
        show firstsGo w j' c' (n :: ns.drop (j' + 1)) = _
        rw [firstsGo, if_neg h']
      · rw [decide_eq_false c2]
        refine iteF (k' _ _ ⟨rfl, (fun h => by cases h), fun _ => ?_⟩)
        have hd : ns.drop j' = [] := List.drop_eq_nil_of_le (by omega)
        unfold firstsOf
        rw [hd]
        rfl
    · rintro b H' ⟨rfl, hb1, hb2⟩
      cases b with
      | true =>
        obtain ⟨n, hn, hle⟩ := hb1 rfl
        refine iteT ⟨fun σ2 H2 => σ2 = [some (.ref a), some (.int w), some (.int ((j' + 1 : Nat) : Int)), some (.ref p), some (.int (c' + (1 + n)))] ∧ H2 = H', ?_, ?_⟩
        · rintro σ2 H2 ⟨rfl, rfl⟩
          have hlt : j' < ns.length := (List.getElem?_eq_some_iff.mp hn).1
          refine ⟨ns.length - (j' + 1), by omega, j' + 1, c' + (1 + n), rfl, rfl, by omega, ?_, s3, e3⟩
          rw [← hf', drop_get hn]
          rw [firstsGo, if_pos hle]
          have : c' + (1 + n) = c' + 1 + n := by omega
          rw [this]
        · refine ⟨_, rfl, _, rfl, _, rfl, a, _, _, _, rfl, rfl, s3.seq hS, atI_int (atI_nat hn), _, _, rfl, rfl, _, _, rfl, rfl, ?_⟩
          exact ⟨_, rfl, _, _, rfl, rfl, rfl, rfl⟩
      | false =>
        refine iteF ⟨j', f ++ [(j : Int)], _, rfl, hj, ?_, s3, e3⟩
        rw [← hb2 rfl]
        exact hf'
  · rw [decide_eq_false c]
    have hd : firstsOf ns w j = [] := by
      unfold firstsOf
      rw [List.drop_eq_nil_of_le (by omega)]
    rw [hd, List.append_nil] at hf
    refine iteF ⟨_, rfl, q p H1 np s1 ?_⟩
    rw [← hf]
    exact e1
theorem ok_meeting_word {f : Addr} {fd : FuncData} (F : FnP K "meeting_word" (top 36) [] f fd) (W : Wd K mg) (c_first_words : Cal P w K mg base CX0 1 "first_words" ["text", "width", "word"] [] (sp_first_words K)) (c_require_word : Cal P w K mg base (L2.CX P w) 2 "require_word" ["text", "word"] [] (sp_require_word K)) (c_require_width : Cal P w K mg base (L2.CX P w) 3 "require_width" ["width"] [] (sp_require_width K)) (c_require_text : Cal P w K mg base (L2.CX P w) 4 "require_text" ["text"] [] (sp_require_text K)) : FnOk P w K mg base (L2.CX P w) 5 f fd ["text", "width", "first", "second"] (sp_meeting_word K) := by
  refine FunD.ok F sc_meeting_word (fun vs H Q E h => ?len) (fun cdv A outer s H vs Q E hr h => ?_)
  case len =>
    obtain ⟨v, o, wv, wo, xv, xo, yv, yo, rfl, _⟩ := h
    rfl
  refine ⟨_, (pss_cons (ps_expr (pe_cal c_require_text (hr.mono (by decide)) (passes_call (takes_of rfl rfl rfl rfl) (fun _ _ _ _ h => h)) (pa_cons (pv 0) pa_nil)))
  (pss_cons (ps_expr (pe_cal c_require_width (hr.mono (by decide)) (passes_call (takes_of rfl rfl rfl rfl) (fun _ _ _ _ h => h)) (pa_cons (pv 1) pa_nil)))
  (pss_cons (ps_expr (pe_cal c_require_word (hr.mono (by decide)) (passes_call (takes_of rfl rfl rfl rfl) (fun _ _ _ _ h => h)) (pa_cons (pv 0) (pa_cons (pv 2) pa_nil))))
  (pss_cons (ps_expr (pe_cal c_require_word (hr.mono (by decide)) (passes_call (takes_of rfl rfl rfl rfl) (fun _ _ _ _ h => h)) (pa_cons (pv 0) (pa_cons (pv 3) pa_nil))))
  (pss_cons (ps_set (i := 4) sc_meeting_word.nd rfl (.inr rfl) (pe_cal c_first_words (hr.mono (by decide)) pass0 (pa_cons (pv 0) (pa_cons (pv 1) (pa_cons (pv 3) pa_nil)))))
  (pss_cons (ps_setLc (i := 5) (own := [("word", 6)]) (g := (gName 6)) (by rfl) sc_meeting_word.nd rfl rfl (sw_true rfl rfl rfl (by decide +kernel)) (pi_list (pe_cal c_first_words (hr.mono (by decide)) pass0 (pa_cons (pv 0) (pa_cons (pv 1) (pa_cons (pv 2) pa_nil))))) (blkOk_by (own := [("word", 6)]) (N := ["text", "width", "first", "second", "others", "common", "word"]) (sc := defScope (top 36)) (by decide +kernel)) (fun _ _ _ _ _ => (pg_name (i := 6) sc_meeting_word.nd rfl (Or.inl rfl))) (fun _ _ _ _ _ => pts_one (pt_cmpR (kIn (K := K) rfl) (pv 6) (pv 4) (by rfl))) (fun _ _ _ _ _ => (pv 6)))
  (pss_one (ps_ret (pe_ifExp (pt_cmpR (op_neD hr.units) (pv 5) (pe_lst pa_nil) (nomark _)) (pe_ix ix_list (pv 5) pe_int (fun _ _ => rfl)) pe_non))))))))), ?_⟩
  obtain ⟨v, o, wv, wo, xv, xo, yv, yo, rfl, hv, hz, hw, hx, hy, q, qe, qw⟩ := h
  have hsz : sizeLine = 16777216 := by decide
  refine ⟨_, rfl, v, o, rfl, hv, hz, fun c H1 s1 => ?_, qe⟩
  refine ⟨_, rfl, wv, wo, rfl, hw _ s1, fun c2 => ?_, fun c2 => qw c c2 H1 s1⟩
  obtain ⟨a, ns, w, rfl, rfl, hS, ht, q1, q2⟩ := q c c2
  have hl := ht.len
  refine ⟨_, rfl, _, rfl, a, ns, xv, xo, rfl, s1.seq hS, hx _ s1, fun c3 => ?_, fun c3 => q2 (by rw [c3]; rfl) H1 s1⟩
  refine ⟨_, rfl, _, rfl, a, ns, yv, yo, rfl, s1.seq hS, hy _ s1, fun c4 => ?_, fun c4 => q2 (by rw [c4]; simp) H1 s1⟩
  obtain ⟨i, j, rfl, rfl, q3⟩ := q1 c3 c4
  have hi : 0 ≤ i ∧ i < ns.length := by
    simp only [isWord, isIntV, Bool.and_eq_true, decide_eq_true_eq] at c3
    omega
  have hj : 0 ≤ j ∧ j < ns.length := by
    simp only [isWord, isIntV, Bool.and_eq_true, decide_eq_true_eq] at c4
    omega
  refine ⟨_, rfl, _, rfl, _, rfl, a, ns, w, j, rfl, s1.seq hS, by omega, hj.1, fun p2 H2 n2 s2 e2 => ?_⟩
  refine ⟨_, rfl, _, rfl, _, rfl, a, ns, w, i, rfl, (s1.trans s2).seq hS, by omega, hi.1, fun p3 H3 n3 s3 e3 => ?_⟩
  have hle := firstsOf_len ns w i.toNat
  refine ⟨p3, rfl, ⟨_, e3.seq⟩, fun D nD => ?_⟩
  refine lc_filtI (fun x => decide (x ∈ firstsOf ns w j.toNat)) (by omega) e3.seq nD (fun k z H4 hz1 s4 Q' k' => ?_) (fun z H4 Q' k' => ⟨_, rfl, k' _ (Same.refl _)⟩) (fun H4 s4 e4 => ?_)
  · have e2' : IL H4 p2 (firstsOf ns w j.toNat) := (e2.same s3).same s4
    refine ⟨_, rfl, _, rfl, p2, _, rfl, .inl e2'.seq, rfl, flat_ints _, _, rfl, ?_⟩
    show Q' (inV (.int z) (iV (firstsOf ns w j.toNat))) H4
    rw [inV_ints]
    exact k' _ (Same.refl _)
  · refine gn_go ?_
    dsimp only
    have sA := ((s1.trans s2).trans s3).trans s4
    generalize hco : ((firstsOf ns w i.toNat).filter fun x => decide (x ∈ firstsOf ns w j.toNat)) = co at e4
    have hme : meetOf ns w i.toNat j.toNat = co.head? := by
      rw [← hco]
      rfl
    rw [hme] at q3
    refine ⟨_, rfl, Nat.zero_le _, fun q1 n1 => ⟨_, .list (([] : List Int).map .int), dp_ints (e4.new n1), dp_ints (ns := []) upd_same, shaped_ints _, shaped_ints _, _, rfl, ?_⟩⟩
    rw [eqvL]
    cases co with
    | nil =>
      rw [decide_eq_true rfl]
      exact iteF (q3 _ (sA.trans (same_new n1)))
    | cons z r =>
      rw [decide_eq_false (by simp)]
      refine iteT ⟨_, rfl, D, _, _, _, rfl, rfl, (e4.new n1).seq, atI_int (atI_nn (by decide) rfl), ?_⟩
      exact q3 _ (sA.trans (same_new n1))
theorem ok_replace_words {f : Addr} {fd : FuncData} (F : FnP K "replace_words" (top 37) [] f fd) (W : Wd K mg) (c_is_text : Cal P w K mg base CX0 3 "is_text" ["value"] [] (sp_is_text K)) (c_is_integer : Cal P w K mg base CX0 1 "is_integer" ["value", "low", "high"] [] (sp_is_integer K)) (c_require_text : Cal P w K mg base (L2.CX P w) 4 "require_text" ["text"] [] (sp_require_text K)) : FnOk P w K mg base (L2.CX P w) 5 f fd ["text", "first", "count", "words"] (sp_replace_words K) := by
  refine FunD.ok F sc_replace_words (fun vs H Q E h => ?len) (fun cdv A outer s H vs Q E hr h => ?_)
  case len =>
    obtain ⟨v, o, fv, fo, cv, co, wv, wo, rfl, _⟩ := h
    rfl
  refine ⟨_, (pss_cons (ps_expr (pe_cal c_require_text (hr.mono (by decide)) (passes_call (takes_of rfl rfl rfl rfl) (fun _ _ _ _ h => h)) (pa_cons (pv 0) pa_nil)))
  (pss_cons (ps_if (pt_not (pt_val (pe_cal c_is_integer (hr.mono (by decide)) pass0 (pa_cons (pv 1) (pa_cons pe_int (pa_cons (pe_callB call_len_seq (by rfl) W.n_len (by decide +kernel) (pa_cons (pv 0) pa_nil)) pa_nil)))))) (pss_one (ps_raiseT (takes_of rfl rfl rfl rfl) W.x_InvalidIndex)) pss_nil)
  (pss_cons (ps_if (pt_not (pt_val (pe_cal c_is_integer (hr.mono (by decide)) pass0 (pa_cons (pv 2) (pa_cons pe_int (pa_cons (pe_op op_sub (pe_callB call_len_seq (by rfl) W.n_len (by decide +kernel) (pa_cons (pv 0) pa_nil)) (pv 1)) pa_nil)))))) (pss_one (ps_raiseT (takes_of rfl rfl rfl rfl) W.x_InvalidNumber)) pss_nil)
  (pss_cons (ps_if (PW.pt (pw_or (pt_not (pt_val (pe_callB call_isi (by rfl) W.n_isinstance (by decide +kernel) (pa_cons (pv 3) (pa_cons (pe_ty (n := "list") W.n_list (by decide +kernel)) pa_nil))))) (pw_or1 (pt_not (pt_val (pe_cal c_is_text (hr.mono (by decide)) pass0 (pa_cons (pe_op op_cat (pe_op op_cat (pe_slice sl_list (pv 0) po_none (po_some (pv 1))) (pv 3)) (pe_slice sl_list (pv 0) (po_some (pe_op op_add (pv 1) (pv 2))) po_none)) pa_nil))))))) (pss_one (ps_raiseT (takes_of rfl rfl rfl rfl) W.x_InvalidLengths)) pss_nil)
  (pss_one (ps_ret (pe_op op_cat (pe_op op_cat (pe_slice sl_list (pv 0) po_none (po_some (pv 1))) (pv 3)) (pe_slice sl_list (pv 0) (po_some (pe_op op_add (pv 1) (pv 2))) po_none)))))))), ?_⟩
  obtain ⟨v, o, fv, fo, cv, co, wv, wo, rfl, hv, hz, hf, hc, hw, hwl, q, qe⟩ := h
  have hsz : sizeLine = 16777216 := by decide
  refine ⟨_, rfl, v, o, rfl, hv, hz, fun c0 H1 s1 => ?_, qe⟩
  obtain ⟨a, ns, rfl, hS, ht, q1, q2⟩ := q c0
  have hl := ht.len
  refine ⟨_, rfl, _, rfl, a, _, rfl, .inl (s1.seq hS), fv, fo, 0, .int ns.length, by rw [List.length_map]; rfl, hf _ s1, .inr ⟨_, rfl⟩, _, rfl, ?_⟩
  cases c1 : isIntV fv 0 (.int ns.length) with
  | false => exact iteT (q1 c1 H1 s1)
  | true =>
    obtain ⟨f, rfl, hf1, hf2⟩ : ∃ f, fv = .int f ∧ 0 ≤ f ∧ f ≤ ns.length := by
      cases fv <;> simp [isIntV] at c1
      exact ⟨_, rfl, c1.1, c1.2⟩
    obtain ⟨q3, q4⟩ := q2 f rfl c1
    refine iteF ?_
    refine ⟨_, rfl, _, rfl, a, _, rfl, .inl (s1.seq hS), _, rfl, _, _, rfl, rfl, cv, co, 0, .int (ns.length - f), by first | (rw [List.length_map]; rfl) | (dsimp only; rw [List.length_map]; rfl), hc _ s1, .inr ⟨_, rfl⟩, _, rfl, ?_⟩
    cases c2 : isIntV cv 0 (.int (ns.length - f)) with
    | false => exact iteT (q3 c2 H1 s1)
    | true =>
      obtain ⟨c, rfl, hc1, hc2⟩ : ∃ c, cv = .int c ∧ 0 ≤ c ∧ c ≤ ns.length - f := by
        cases cv <;> simp [isIntV] at c2
        exact ⟨_, rfl, c2.1, c2.2⟩
      obtain ⟨q5, q6⟩ := q4 c rfl c2
      refine iteF ?_
      have nol : (∀ ds, wo ≠ some (.list ds)) → replOf ns f.toNat c.toNat wo = none := by
        intro h
        unfold replOf
        split
        · exact (h _ rfl).elim
        · rfl
      have hw1 := hw _ s1
      refine ⟨_, rfl, _, _, _, _, _, rfl, .ty _, hw1.ty, isi_list wo, _, rfl, ?_⟩
      rw [isI_list]
      have isl : (∃ ds, wo = some (.list ds)) ∨ ∀ ds, wo ≠ some (.list ds) := by
        cases wo with
        | none => exact .inr fun ds e => by cases e
        | some d =>
          cases d with
          | list ds => exact .inl ⟨ds, rfl⟩
          | _ => exact .inr fun ds e => by cases e
      rcases isl with ⟨ds, rfl⟩ | hn
      · obtain ⟨hdl, b, xs, rfl, hb, hda⟩ := hwl ds rfl
        have hxl := dpAll_len (hda H (Same.refl _))
        have hsh : SeqAt.shaped (.list ds) = true := by
          cases hw1 with
          | d _ h => exact h
        refine iteF ?_
        refine ⟨_, rfl, _, rfl, _, rfl, a, _, rfl, (s1).seq hS, fun c1_ nc1 => ?_⟩
        have ecut : cutV (iV ns) none (some f) = iV (ns.take f.toNat) := by rw [cutV_map, cutL_to _ _ hf1]
        rw [ecut]
        have ec1 : (upd H1 c1_ (.lst (iV (ns.take f.toNat)))) c1_ = some (.lst (iV (ns.take f.toNat))) := upd_same
        have sc1 : Same H1 (upd H1 c1_ (.lst (iV (ns.take f.toNat)))) := same_new nc1
        generalize (upd H1 c1_ (.lst (iV (ns.take f.toNat)))) = G1 at ec1 sc1
        refine ⟨_, rfl, c1_, b, _, xs, rfl, rfl, ec1, sc1 _ _ ((s1) _ _ hb), by rw [List.length_map, List.length_take]; omega, fun p1 np1 => ?_⟩
        have ep1 : (upd G1 p1 (.lst (iV (ns.take f.toNat) ++ xs))) p1 = some (.lst (iV (ns.take f.toNat) ++ xs)) := upd_same
        have sp1 : Same H1 (upd G1 p1 (.lst (iV (ns.take f.toNat) ++ xs))) := sc1.trans (same_new np1)
        generalize (upd G1 p1 (.lst (iV (ns.take f.toNat) ++ xs))) = G2 at ep1 sp1
        refine ⟨_, rfl, _, rfl, _, rfl, _, _, rfl, rfl, _, rfl, a, _, rfl, ((s1).trans sp1).seq hS, fun c2_ nc2 => ?_⟩
        dsimp only
        have ecut2 : cutV (iV ns) (some (f + c)) none = iV (ns.drop (f.toNat + c.toNat)) := by
          rw [cutV_map, cutL_from _ _ (by omega)]
          congr 2
          omega
        rw [ecut2]
        refine ⟨p1, c2_, _, _, rfl, rfl, at_new ep1 nc2, upd_same, by simp; omega, fun p2 np2 => ?_⟩
        have np := fresh_of sp1 (fresh_of (same_new nc2) np2)
        have s3 : Same H1 (upd (upd G2 c2_ (.lst (iV (ns.drop (f.toNat + c.toNat))))) p2 (.lst (iV (ns.take f.toNat) ++ xs ++ iV (ns.drop (f.toNat + c.toNat))))) := (sp1.trans (same_new nc2)).trans (same_new np2)
        have e3 : (upd (upd G2 c2_ (.lst (iV (ns.drop (f.toNat + c.toNat))))) p2 (.lst (iV (ns.take f.toNat) ++ xs ++ iV (ns.drop (f.toNat + c.toNat))))) p2 = some (.lst (iV (ns.take f.toNat) ++ xs ++ iV (ns.drop (f.toNat + c.toNat)))) := upd_same
        generalize (upd (upd G2 c2_ (.lst (iV (ns.drop (f.toNat + c.toNat))))) p2 (.lst (iV (ns.take f.toNat) ++ xs ++ iV (ns.drop (f.toNat + c.toNat))))) = H3 at s3 e3
        clear np2 nc2 ecut2 sp1 ep1 np1 sc1 ec1 nc1 ecut
        have s13 := s1.trans s3
        have hall : DpAll K H3 (iV (ns.take f.toNat) ++ xs ++ iV (ns.drop (f.toNat + c.toNat))) (replData ns f.toNat c.toNat ds) := DpAll.app (DpAll.app (dpAll_ints _) (hda H3 s13)) (dpAll_ints _)
        refine ⟨.ref p2, some (.list (replData ns f.toNat c.toNat ds)), rfl, .d (.lst (.inl (.inl e3)) hall) (repl_shaped hsh), fun ds' e => ?_, fun H4 s4 => ⟨_, rfl, ?_⟩⟩
        · injection e with e
          injection e with e
          rw [← e]
          unfold replData
          simp
          omega
        cases c5 : areLengths (some (.list (replData ns f.toNat c.toNat ds))) with
        | false =>
          refine iteT (q5 ?_ H4 (s13.trans s4))
          unfold replOf
          dsimp only
          rw [c5]
          rfl
        | true =>
          refine iteF ?_
          have hto : replOf ns f.toNat c.toNat (some (.list ds)) = some ((replData ns f.toNat c.toNat ds).map lenOf) := by
            unfold replOf
            dsimp only
            rw [if_pos c5]
          have ci : (replData ns f.toNat c.toNat ds).all isLen = true := by
            simp only [areLengths, Bool.and_eq_true] at c5
            exact c5.1.2
          have hi := dpAll_lens hall ci
          have s14 := s13.trans s4
          refine nx_go ?_
          dsimp only
          refine ⟨_, rfl, _, rfl, _, rfl, a, _, rfl, (s14).seq hS, fun c1_ nc1 => ?_⟩
          have ecut : cutV (iV ns) none (some f) = iV (ns.take f.toNat) := by rw [cutV_map, cutL_to _ _ hf1]
          rw [ecut]
          have ec1 : (upd H4 c1_ (.lst (iV (ns.take f.toNat)))) c1_ = some (.lst (iV (ns.take f.toNat))) := upd_same
          have sc1 : Same H4 (upd H4 c1_ (.lst (iV (ns.take f.toNat)))) := same_new nc1
          generalize (upd H4 c1_ (.lst (iV (ns.take f.toNat)))) = G1 at ec1 sc1
          refine ⟨_, rfl, c1_, b, _, xs, rfl, rfl, ec1, sc1 _ _ ((s14) _ _ hb), by rw [List.length_map, List.length_take]; omega, fun p1 np1 => ?_⟩
          have ep1 : (upd G1 p1 (.lst (iV (ns.take f.toNat) ++ xs))) p1 = some (.lst (iV (ns.take f.toNat) ++ xs)) := upd_same
          have sp1 : Same H4 (upd G1 p1 (.lst (iV (ns.take f.toNat) ++ xs))) := sc1.trans (same_new np1)
          generalize (upd G1 p1 (.lst (iV (ns.take f.toNat) ++ xs))) = G2 at ep1 sp1
          refine ⟨_, rfl, _, rfl, _, rfl, _, _, rfl, rfl, _, rfl, a, _, rfl, ((s14).trans sp1).seq hS, fun c2_ nc2 => ?_⟩
          dsimp only
          have ecut2 : cutV (iV ns) (some (f + c)) none = iV (ns.drop (f.toNat + c.toNat)) := by
            rw [cutV_map, cutL_from _ _ (by omega)]
            congr 2
            omega
          rw [ecut2]
          refine ⟨p1, c2_, _, _, rfl, rfl, at_new ep1 nc2, upd_same, by simp; omega, fun p5 np5 => ?_⟩
          refine q6 _ hto p5 _ (fresh_of s14 (fresh_of sp1 (fresh_of (same_new nc2) np5))) (s14.trans ((sp1.trans (same_new nc2)).trans (same_new np5))) ?_
          show upd _ _ _ _ = _
          rw [upd_same, hi]
      · have hq := q5 (nol hn) H1 s1
        clear q q1 q2 q3 q4 q5 q6 nol hwl hw
        cases wo with
        | none => exact iteT hq
        | some d => cases d <;> first | exact iteT hq | exact (hn _ rfl).elim
theorem ok_common_count {f : Addr} {fd : FuncData} (F : FnP K "common_count" (top 38) [] f fd) (W : Wd K mg)  : FnOk P w K mg base CX0 1 f fd ["one", "other"] (sp_common_count K) := by
  refine FunD.ok F sc_common_count (fun vs H Q E h => ?len) (fun cdv A outer s H vs Q E hr h => ?_)
  case len =>
    obtain ⟨a, b, xs, ys, rfl, _⟩ := h
    rfl
  refine ⟨_, PSs.nox (pss_cons (ps_set (i := 2) sc_common_count.nd rfl (.inl rfl) pe_int)
  (pss_cons (ps_while PassesOwn.never (PW.pt (pw_and (pt_cmpR op_lt (pv 2) (pe_callB (call_min2 rfl) (by rfl) W.n_min (by decide +kernel) (pa_cons (pe_callB call_len_seq (by rfl) W.n_len (by decide +kernel) (pa_cons (pv 0) pa_nil)) (pa_cons (pe_callB call_len_seq (by rfl) W.n_len (by decide +kernel) (pa_cons (pv 1) pa_nil)) pa_nil))) (nomark _)) (pw_and1 (pt_cmpR op_eq (pe_ix ix_list (pv 0) (pv 2) (fun _ _ => rfl)) (pe_ix ix_list (pv 1) (pv 2) (fun _ _ => rfl)) (nomark _))))) (pss_one (ps_aug (i := 2) sc_common_count.nd rfl (.inl rfl) pe_int ip_add)))
  (pss_one (ps_ret (pv 2))))), ?_⟩
  obtain ⟨a, b, xs, ys, rfl, hA, hB, q⟩ := h
  refine sq_set ?_
  refine ⟨fun m σ H' => ∃ n : Nat, σ = [some (.ref a), some (.ref b), some (.int n)] ∧ m = xs.length - n ∧ H' = H ∧ (∀ i, i < n → ∃ z, xs[i]? = some z ∧ ys[i]? = some z) ∧ n ≤ xs.length ∧ n ≤ ys.length, ⟨_, 0, rfl, rfl, rfl, (fun i hi => by omega), Nat.zero_le _, Nat.zero_le _⟩, ?_⟩
  rintro m σ H' ⟨n, rfl, rfl, rfl, h1, h2, h3⟩
  refine cutT (fun k H2 => H2 = H' ∧ (k = true → ∃ z, xs[n]? = some z ∧ ys[n]? = some z) ∧ (k = false → ∀ x y, xs[n]? = some x → ys[n]? = some y → x ≠ y)) (fun Q' k' => ?_) ?_
  · refine ⟨_, rfl, _, rfl, a, _, rfl, .inl hA, _, rfl, b, _, rfl, .inl hB, _, _, rfl, _, _, rfl, rfl, _, rfl, ?_⟩
    rw [List.length_map, List.length_map]
    by_cases c : (n : Int) < (if (ys.length : Int) < xs.length then (ys.length : Int) else xs.length)
    · rw [decide_eq_true c]
      have hn : n < xs.length ∧ n < ys.length := by
        split at c <;> omega
      obtain ⟨x, hx⟩ : ∃ x, xs[n]? = some x := ⟨_, List.getElem?_eq_getElem hn.1⟩
      obtain ⟨y, hy⟩ : ∃ y, ys[n]? = some y := ⟨_, List.getElem?_eq_getElem hn.2⟩
      refine iteT ⟨_, rfl, _, rfl, a, _, _, _, rfl, rfl, hA, atI_int (atI_nat hx), _, rfl, _, rfl, b, _, _, _, rfl, rfl, hB, atI_int (atI_nat hy), rfl, _, rfl, ?_⟩
      refine k' _ _ ⟨rfl, fun h => ⟨x, hx, ?_⟩, fun h u v hu hv => ?_⟩
      · have := of_decide_eq_true h
        injection this with this
        rw [this]
        exact hy
      · have := of_decide_eq_false h
        rw [hx] at hu
        rw [hy] at hv
        cases hu
        cases hv
        intro e
        exact this (by rw [e])
    · rw [decide_eq_false c]
      refine iteF (k' _ _ ⟨rfl, (fun h => by cases h), fun _ u v hu hv => ?_⟩)
      have g1 := (List.getElem?_eq_some_iff.mp hu).1
      have g2 := (List.getElem?_eq_some_iff.mp hv).1
      exact absurd (by split <;> omega) c
  rintro k H2 ⟨rfl, k1, k2⟩
  cases k with
  | true =>
    obtain ⟨z, hx, hy⟩ := k1 rfl
    have g1 := (List.getElem?_eq_some_iff.mp hx).1
    have g2 := (List.getElem?_eq_some_iff.mp hy).1
    refine iteT ⟨fun σ2 H3 => σ2 = [some (.ref a), some (.ref b), some (.int ((n + 1 : Nat) : Int))] ∧ H3 = H2, ?_, ?_⟩
    · rintro σ2 H3 ⟨rfl, rfl⟩
      refine ⟨xs.length - (n + 1), by omega, n + 1, rfl, rfl, rfl, fun i hi => ?_, by omega, by omega⟩
      rcases (by omega : i < n ∨ i = n) with h | rfl
      · exact h1 i h
      · exact ⟨z, hx, hy⟩
    · exact ⟨_, rfl, _, _, rfl, rfl, rfl, rfl⟩
  | false =>
    refine iteF ⟨_, rfl, ?_⟩
    rw [← comPre_of h1 (k2 rfl) h2 h3]
    exact q
theorem ok_changed_lines {f : Addr} {fd : FuncData} (F : FnP K "changed_lines" (top 39) [] f fd) (W : Wd K mg) (c_common_count : Cal P w K mg base CX0 1 "common_count" ["one", "other"] [] (sp_common_count K)) (c_wrap_text : Cal P w K mg base (L2.CX P w) 5 "wrap_text" ["text", "width"] [] (sp_wrap_text K)) (c_require_width : Cal P w K mg base (L2.CX P w) 3 "require_width" ["width"] [] (sp_require_width K)) (c_require_text : Cal P w K mg base (L2.CX P w) 4 "require_text" ["text"] [] (sp_require_text K)) : FnOk P w K mg base (L2.CX P w) 6 f fd ["text", "other", "width"] (sp_changed_lines K) := by
  refine FunD.ok F sc_changed_lines (fun vs H Q E h => ?len) (fun cdv A outer s H vs Q E hr h => ?_)
  case len =>
    obtain ⟨v, o, v2, o2, wv, wo, rfl, _⟩ := h
    rfl
  refine ⟨_, (pss_cons (ps_expr (pe_cal c_require_text (hr.mono (by decide)) (passes_call (takes_of rfl rfl rfl rfl) (fun _ _ _ _ h => h)) (pa_cons (pv 0) pa_nil)))
  (pss_cons (ps_expr (pe_cal c_require_text (hr.mono (by decide)) (passes_call (takes_of rfl rfl rfl rfl) (fun _ _ _ _ h => h)) (pa_cons (pv 1) pa_nil)))
  (pss_cons (ps_expr (pe_cal c_require_width (hr.mono (by decide)) (passes_call (takes_of rfl rfl rfl rfl) (fun _ _ _ _ h => h)) (pa_cons (pv 2) pa_nil)))
  (pss_cons (ps_par (i := 3) (j := 4) (by rfl) sc_changed_lines.nd rfl rfl (by decide) rfl rfl (pa_cons (pe_cal c_wrap_text (hr.mono (by decide)) (passes_call (takes_of rfl rfl rfl rfl) (fun _ _ _ _ h => h)) (pa_cons (pv 0) (pa_cons (pv 2) pa_nil))) (pa_cons (pe_cal c_wrap_text (hr.mono (by decide)) (passes_call (takes_of rfl rfl rfl rfl) (fun _ _ _ _ h => h)) (pa_cons (pv 1) (pa_cons (pv 2) pa_nil))) pa_nil)) (by rfl))
  (pss_cons (ps_set (i := 5) sc_changed_lines.nd rfl (.inl rfl) (pe_cal c_common_count (hr.mono (by decide)) pass0 (pa_cons (pv 3) (pa_cons (pv 4) pa_nil))))
  (pss_one (ps_ret (pe_tup (pa_cons (pv 5) (pa_cons (pe_cal c_common_count (hr.mono (by decide)) pass0 (pa_cons (pe_revL (pe_slice sl_list (pv 3) (po_some (pv 5)) po_none)) (pa_cons (pe_revL (pe_slice sl_list (pv 4) (po_some (pv 5)) po_none)) pa_nil))) pa_nil)))))))))), ?_⟩
  obtain ⟨v, o, v2, o2, wv, wo, rfl, hv, hz, hv2, hz2, hw, q, qe, qe2, qw⟩ := h
  refine ⟨_, rfl, v, o, rfl, hv, hz, fun c H1 s1 => ?_, qe⟩
  refine ⟨_, rfl, v2, o2, rfl, hv2 _ s1, hz2, fun c2 H2 s2 => ?_, fun c2 H2 s2 => qe2 c c2 H2 (s1.trans s2)⟩
  have s12 := s1.trans s2
  refine ⟨_, rfl, wv, wo, rfl, hw _ s12, fun c3 => ?_, fun c3 => qw c c2 c3 H2 s12⟩
  obtain ⟨a, ns, b, ms, w, rfl, rfl, rfl, hS, ht, hB, hm, q'⟩ := q c c2 c3
  have hwd : 1 ≤ w ∧ w ≤ 1000 := by
    simpa [isWidth, isIntV] using c3
  refine ⟨_, rfl, _, rfl, wrap_text_ok (s12.seq hS) ht hwd.1 hwd.2 fun x1 H3 n1 s3 e1 => ?_⟩
  refine ⟨_, rfl, _, rfl, wrap_text_ok ((s12.trans s3).seq hB) hm hwd.1 hwd.2 fun x2 H4 n2 s4 e2 => ⟨_, _, rfl, ?_⟩⟩
  have e14 := e1.same s4
  have s14 := (s12.trans s3).trans s4
  dsimp only
  refine sq_set ⟨_, rfl, _, rfl, x1, x2, _, _, rfl, e14.seq, e2.seq, ?_⟩
  generalize hk : comPre (lawWrap ns w) (lawWrap ms w) = k
  refine ⟨_, rfl, _, rfl, _, rfl, _, rfl, x1, _, rfl, e14.seq, fun c1 nc1 => ?_⟩
  have ecut1 : cutV (iV (lawWrap ns w)) (some (k : Int)) none = iV ((lawWrap ns w).drop k) := by
    rw [cutV_map, cutL_from _ _ (by omega)]
    rfl
  rw [ecut1]
  have ec1 : IL (upd H4 c1 (.lst (iV ((lawWrap ns w).drop k)))) c1 _ := upd_same
  have sc1 := same_new (u := .lst (iV ((lawWrap ns w).drop k))) nc1
  generalize (upd H4 c1 (.lst (iV ((lawWrap ns w).drop k)))) = G1 at ec1 sc1
  refine ⟨c1, _, rfl, ec1.seq, fun c2_ nc2 => ?_⟩
  have ec2 : IL (upd G1 c2_ (.lst (iV ((lawWrap ns w).drop k)).reverse)) c2_ ((lawWrap ns w).drop k).reverse := by
    show upd _ _ _ _ = _
    rw [upd_same, rev_ints]
  have sc2 := sc1.trans (same_new (u := .lst (iV ((lawWrap ns w).drop k)).reverse) nc2)
  generalize (upd G1 c2_ (.lst (iV ((lawWrap ns w).drop k)).reverse)) = G2 at ec2 sc2
  refine ⟨_, rfl, _, rfl, _, rfl, x2, _, rfl, (e2.same sc2).seq, fun c3_ nc3 => ?_⟩
  have ecut3 : cutV (iV (lawWrap ms w)) (some (k : Int)) none = iV ((lawWrap ms w).drop k) := by
    rw [cutV_map, cutL_from _ _ (by omega)]
    rfl
  rw [ecut3]
  have ec3 : IL (upd G2 c3_ (.lst (iV ((lawWrap ms w).drop k)))) c3_ _ := upd_same
  have sc3 := same_new (u := .lst (iV ((lawWrap ms w).drop k))) nc3
  generalize (upd G2 c3_ (.lst (iV ((lawWrap ms w).drop k)))) = G3 at ec3 sc3
  refine ⟨c3_, _, rfl, ec3.seq, fun c4 nc4 => ?_⟩
  have ec4 : IL (upd G3 c4 (.lst (iV ((lawWrap ms w).drop k)).reverse)) c4 ((lawWrap ms w).drop k).reverse := by
    show upd _ _ _ _ = _
    rw [upd_same, rev_ints]
  have sc4 := sc3.trans (same_new (u := .lst (iV ((lawWrap ms w).drop k)).reverse) nc4)
  generalize (upd G3 c4 (.lst (iV ((lawWrap ms w).drop k)).reverse)) = G4 at ec4 sc4
  refine ⟨c2_, c4, _, _, rfl, (ec2.same sc4).seq, ec4.seq, (by show 2 ≤ sizeLine; decide), fun t nt => ?_⟩
  have sG := (s14.trans sc2).trans sc4
  refine q' t _ (fresh_of sG nt) (sG.trans (same_new nt)) ?_
  rw [upd_same]
  unfold chgOf
  rw [hk]
theorem ok__law_deck {f : Addr} {fd : FuncData} (F : FnP K "_law_deck" (top 41) [] f fd) (W : Wd K mg)  : FnOk P w K mg base CX0 1 f fd ["script"] (sp__law_deck K) := by
  refine FunD.ok F sc__law_deck (fun vs H Q E h => ?len) (fun cdv A outer s H vs Q E hr h => ?_)
  case len =>
    obtain ⟨a, ns, rfl, _⟩ := h
    rfl
  refine ⟨_, PSs.nox (pss_cons (ps_set (i := 1) sc__law_deck.nd rfl (.inl rfl) (pe_lst pa_nil))
  (pss_cons (ps_for PassesOwn.never rfl (pi_range1 (by rfl) W.n_range (pa_cons (pe_callB (call_max2 rfl) (by rfl) W.n_max (by decide +kernel) (pa_cons pe_int (pa_cons (pe_callB (call_min2 rfl) (by rfl) W.n_min (by decide +kernel) (pa_cons pe_int (pa_cons (pe_callB call_len_seq (by rfl) W.n_len (by decide +kernel) (pa_cons (pv 0) pa_nil)) pa_nil))) pa_nil))) pa_nil)) (pg_name (i := 2) sc__law_deck.nd rfl (Or.inl rfl))
  (pss_cons (ps_set (i := 3) sc__law_deck.nd rfl (.inl rfl) pe_int)
  (pss_cons (ps_if (pt_cmpR op_lt (pv 2) (pe_callB call_len_seq (by rfl) W.n_len (by decide +kernel) (pa_cons (pv 0) pa_nil)) (nomark _)) (pss_one (ps_set (i := 3) sc__law_deck.nd rfl (.inl rfl) (pe_ix ix_list (pv 0) (pv 2) (fun _ _ => rfl)))) pss_nil)
  (pss_one (ps_expr (pe_bm PySem.F.plainAttrs_list PySem.F.slot_list_append PySem.F.type_list_append mt_append (pv 1) (pa_cons (pe_lst (pa_cons (pv 3) (pa_cons (pe_callTy call_int1 (by rfl) W.n_int (by decide +kernel) (pa_cons (pe_cmpR op_ge (pv 3) (pe_op op_powW pe_int pe_int) (nomark _)) pa_nil)) (pa_cons (pe_op op_mulW pe_int (pv 2)) pa_nil)))) pa_nil)))))))
  (pss_one (ps_ret (pe_lst (pa_cons (pv 1) (pa_cons pe_int pa_nil))))))), ?_⟩
  obtain ⟨a, ns, rfl, hS, hl, q⟩ := h
  have hz : sizeLine = 16777216 := by decide
  refine sq_set ⟨Nat.zero_le _, fun p np => ?_⟩
  refine ⟨_, rfl, a, _, rfl, .inl ((same_new np).seq hS), _, _, rfl, _, _, rfl, ?_⟩
  rw [List.length_map]
  generalize hN : (if (if (ns.length : Int) < 63 then (ns.length : Int) else 63) > 1 then (if (ns.length : Int) < 63 then (ns.length : Int) else 63) else 1) = N
  have hN6 : 1 ≤ N ∧ N ≤ 63 := by
    rw [← hN]
    constructor
    · split <;> omega
    · split
      · split <;> omega
      · omega
  refine ⟨N, rfl, by omega, by omega, ?_⟩
  refine for_range (lo := 0) (n := N.toNat) (fun i σ H' => ∃ j1 j2 qs, σ = [some (.ref a), some (.ref p), j1, j2] ∧ Same H H' ∧ H' p = some (.lst (qs.map V.ref)) ∧ qs.length = i ∧ qs.Nodup ∧ p ∉ qs ∧ (∀ b ∈ qs, H b = none) ∧ ∀ b ∈ qs, Pool H' 0 b)
    ⟨_, _, [], rfl, same_new np, upd_same, rfl, .nil, (by simp), (fun b hb => by cases hb), fun b hb => by cases hb⟩ ?_ ?_
  · rintro i σ H1 hi ⟨j1, j2, qs, rfl, s1, e1, hql, hqn, hpq, hqf, hqp⟩
    refine sq_set ?_
    refine cutN (fun σ' H' => ∃ c : Int, H' = H1 ∧ σ' = [some (.ref a), some (.ref p), some (.int (0 + (i : Int))), some (.int c)]) (fun N' k' => ?_) ?_
    · refine ⟨_, rfl, _, rfl, a, _, rfl, .inl (s1.seq hS), _, _, rfl, rfl, _, rfl, ?_⟩
      rw [List.length_map]
      by_cases c : 0 + (i : Int) < (ns.length : Int)
      · rw [decide_eq_true c]
        refine iteT ?_
        obtain ⟨z, hz1⟩ : ∃ z, ns[(0 + (i : Int)).toNat]? = some z := ⟨_, List.getElem?_eq_getElem (by omega)⟩
        exact ⟨_, rfl, _, rfl, a, _, _, _, rfl, rfl, s1.seq hS, atI_int (atI_nn (by omega) hz1), k' _ _ ⟨z, rfl, rfl⟩⟩
      · rw [decide_eq_false c]
        exact iteF (k' _ _ ⟨0, rfl, rfl⟩)
    rintro σ' H' ⟨c, rfl, rfl⟩
    refine ⟨_, rfl, .inl ⟨rfl, _, .inl (.inl e1)⟩, ?_⟩
    refine ⟨_, rfl, _, rfl, _, _, rfl, rfl, ⟨by decide, by decide, by decide⟩, _, _, rfl, rfl, ?_⟩
    refine .inr ⟨_, rfl, ?_⟩
    refine ⟨_, rfl, _, _, rfl, rfl, ?_, (by show 3 ≤ sizeLine; decide), fun q0 nq => ?_⟩
    · have e10 : (2 : Nat) ^ 10 = 1024 := by decide
      exact wide_mul (i := 31) (j := 0 + (i : Int)) (a := 10) (b := 10) (by decide) (by rw [e10]; omega) (by decide) (by decide) (by decide)
    refine ⟨p, _, _, rfl, rfl, at_new e1 nq, by rw [List.length_map]; omega, ?_⟩
    have npq : p ≠ q0 := ne_of_none e1 nq
    refine ⟨_, _, qs ++ [q0], rfl, same_mut (s1.trans (same_new nq)) np, ?_, by simp [hql], ?_, ?_, ?_, ?_⟩
    · rw [upd_same]
      simp
    · refine List.nodup_append.mpr ⟨hqn, by simp, fun x hx y hy e => ?_⟩
      obtain ⟨_, _, _, e', _⟩ := hqp x hx
      rw [e, List.mem_singleton.mp hy, nq] at e'
      cases e'
    · intro hm
      rcases List.mem_append.mp hm with hm | hm
      · exact hpq hm
      · exact npq (List.mem_singleton.mp hm)
    · intro b hb
      rcases List.mem_append.mp hb with hb | hb
      · exact hqf b hb
      · rw [List.mem_singleton.mp hb]
        exact fresh_of s1 nq
    · intro b hb
      rcases List.mem_append.mp hb with hb | hb
      · obtain ⟨c', f', m', e', r'⟩ := hqp b hb
        have nbp : b ≠ p := fun e => hpq (by rw [← e]; exact hb)
        exact ⟨c', f', m', at_mut (at_new e' nq) nbp, r'⟩
      · rw [List.mem_singleton.mp hb]
        exact ⟨_, _, _, at_mut upd_same npq.symm, by omega, by omega⟩
  rintro σ H' ⟨j1, j2, qs, rfl, s1, e1, hql, hqn, hpq, hqf, hqp⟩
  refine ⟨_, rfl, (by show 2 ≤ sizeLine; decide), fun d nd => ?_⟩
  have hdq : d ∉ qs := by
    intro hm
    obtain ⟨_, _, _, e, _⟩ := hqp d hm
    rw [nd] at e
    cases e
  have hdp : d ≠ p := (ne_of_none e1 nd).symm
  refine q d (p :: qs) _ ?_ (s1.trans (same_new nd)) ⟨⟨p, qs, 0, rfl, upd_same, at_new e1 nd, by decide, by decide, ?_, fun b hb => (hqp b hb).same (same_new nd)⟩, ?_⟩
  · intro x hx
    rcases List.mem_cons.mp hx with rfl | hx
    · exact fresh_of s1 nd
    · rcases List.mem_cons.mp hx with rfl | hx
      · exact np
      · exact hqf x hx
  · rintro rfl
    simp at hql
    omega
  · refine List.nodup_cons.mpr ⟨fun hm => ?_, List.nodup_cons.mpr ⟨hpq, hqn⟩⟩
    rcases List.mem_cons.mp hm with h | h
    · exact hdp h
    · exact hdq h
theorem ok__law_draw {f : Addr} {fd : FuncData} (F : FnP K "_law_draw" (top 42) [] f fd) (W : Wd K mg)  : FnOk P w K mg base CX0 1 f fd ["deck", "many"] (sp__law_draw K) := by
  refine FunD.ok F sc__law_draw (fun vs H Q E h => ?len) (fun cdv A outer s H vs Q E hr h => ?_)
  case len =>
    obtain ⟨a, qs, n, many, rfl, _⟩ := h
    rfl
  refine ⟨_, PSs.nox (pss_cons (ps_set (i := 2) sc__law_draw.nd rfl (.inl rfl) (pe_ix ix_list (pe_ix ix_list (pv 0) pe_int (fun _ _ => rfl)) (pe_op op_modN (pe_ix ix_list (pv 0) pe_int (fun _ _ => rfl)) (pe_callB call_len_seq (by rfl) W.n_len (by decide +kernel) (pa_cons (pe_ix ix_list (pv 0) pe_int (fun _ _ => rfl)) pa_nil))) (fun _ _ => rfl)))
  (pss_cons (ps_asg (pe_op op_add (pe_ix ix_list (pv 0) pe_int (fun _ _ => rfl)) pe_int) (pg_sub (pv 0) pe_int set_list))
  (pss_cons (ps_if (PW.pt (pw_and (pt_cmpR op_eq (pe_ix ix_list (pv 2) pe_int (fun _ _ => rfl)) pe_int (nomark _)) (pw_and1 (pt_cmpR op_gt (pe_ix ix_list (pv 2) pe_int (fun _ _ => rfl)) pe_int (nomark _))))) (pss_cons (ps_set (i := 3) sc__law_draw.nd rfl (.inl rfl) (pe_op op_modN (pe_ix ix_list (pv 2) pe_int (fun _ _ => rfl)) (pv 1)))
  (pss_cons (ps_asg (pe_op op_fdivW (pe_ix ix_list (pv 2) pe_int (fun _ _ => rfl)) (pv 1)) (pg_sub (pv 2) pe_int set_list))
  (pss_one (ps_ret (pv 3))))) pss_nil)
  (pss_cons (ps_asg (pe_op op_add (pe_ix ix_list (pv 2) pe_int (fun _ _ => rfl)) pe_int) (pg_sub (pv 2) pe_int set_list))
  (pss_cons (ps_set (i := 4) sc__law_draw.nd rfl (.inl rfl) (pe_op op_add (pe_op op_modN (pe_ix ix_list (pv 2) pe_int (fun _ _ => rfl)) pe_int) (pe_op op_mulW pe_int (pe_ix ix_list (pv 2) pe_int (fun _ _ => rfl)))))
  (pss_cons (ps_set (i := 4) sc__law_draw.nd rfl (.inl rfl) (pe_op op_modN (pe_op op_powW (pv 4) pe_int) pe_int))
  (pss_cons (ps_set (i := 4) sc__law_draw.nd rfl (.inl rfl) (pe_op op_modN (pe_op op_powW (pe_op op_add (pv 4) (pe_op op_mulW pe_int (pe_ix ix_list (pv 2) pe_int (fun _ _ => rfl)))) pe_int) pe_int))
  (pss_one (ps_ret (pe_op op_modN (pe_op op_fdivW (pv 4) pe_int) (pv 1))))))))))), ?_⟩
  obtain ⟨a, qs, n, many, rfl, hD, hn, hm, hm2, q⟩ := h
  have hmw : ∀ i, CDivW i many := by
    intro i
    rcases hm2 with h | h
    · refine wide_div (b := 29) (by omega) ?_ (by decide) (by decide)
      have e29 : (2 : Nat) ^ 29 = 536870912 := by decide
      rw [e29]
      omega
    · exact ⟨by omega, h⟩
  obtain ⟨p, ps, t, rfl, ea, ep, t0, t1, hne, hpools⟩ := hD.ex
  have sA : SqL K H a [.ref p, .int t] := .inl (.inl ea)
  have sP : SqL K H p (ps.map V.ref) := .inl (.inl ep)
  have hql : 0 < ps.length := List.length_pos_iff.mpr hne
  obtain ⟨g1, g2⟩ := fmod_rng t (ps.map V.ref).length (by rw [List.length_map]; omega)
  generalize hr0 : t.fmod ((ps.map V.ref).length : Int) = r0 at g1 g2
  rw [List.length_map] at g2
  obtain ⟨b, hb⟩ : ∃ b, ps[r0.toNat]? = some b := ⟨_, List.getElem?_eq_getElem (by omega)⟩
  have hbm := List.mem_of_getElem? hb
  have hbq : b ∈ a :: p :: ps := List.mem_cons_of_mem _ (List.mem_cons_of_mem _ hbm)
  have hb1 : atI (ps.map V.ref) r0 = some (.ref b) := atI_nn g1 (by rw [List.getElem?_map, hb]; rfl)
  refine sq_set ?_
  refine ⟨_, rfl, a, _, _, _, rfl, rfl, sA, (rfl : atI [V.ref p, V.int t] 0 = some (V.ref p)), ?_⟩
  refine ⟨_, rfl, a, _, _, _, rfl, rfl, sA, (rfl : atI [V.ref p, V.int t] 1 = some (V.int t)), ?_⟩
  refine ⟨_, rfl, a, _, _, _, rfl, rfl, sA, (rfl : atI [V.ref p, V.int t] 0 = some (V.ref p)), p, _, rfl, .inl sP, ?_⟩
  refine ⟨_, _, rfl, rfl, (by rw [List.length_map]; omega), ?_⟩
  refine ⟨p, _, _, _, rfl, rfl, sP, (by rw [hr0]; exact hb1), ?_⟩
  -- deck[1] = deck[1] + 1
  refine ⟨_, rfl, a, _, _, _, rfl, rfl, sA, (rfl : atI [V.ref p, V.int t] 1 = some (V.int t)), _, _, rfl, rfl, ?_⟩
  refine ⟨_, rfl, a, _, _, 1, rfl, rfl, ea, rfl, ?_⟩
  obtain ⟨c, f, m, eb, m0, m1⟩ := hpools b hbm
  have hba : b ≠ a := fun e => (List.nodup_cons.mp hD.nd).1 (by rw [← e]; exact List.mem_cons_of_mem _ hbm)
  have eb1 : (upd H a (.lst [.ref p, .int (t + 1)])) b = some (.lst [.int c, .int f, .int m]) := at_mut eb hba
  have s1 : SameS (a :: p :: ps) H (upd H a (.lst [.ref p, .int (t + 1)])) := SameS.upd (List.mem_cons_self ..)
  have hdr : ∀ c' f' m' : Int, 0 ≤ m' → m' ≤ 2000 + (n + 1 : Nat) → Deck (upd (upd H a (.lst [.ref p, .int (t + 1)])) b (.lst [.int c', .int f', .int m'])) a (p :: ps) (n + 1) := fun c' f' m' h1 h2 => hD.draw ea hbm h1 h2
  have s2 : ∀ o, SameS (a :: p :: ps) H (upd (upd H a (.lst [.ref p, .int (t + 1)])) b o) := fun o => s1.trans (SameS.upd hbq)
  dsimp only
  rw [show ([V.ref p, V.int t].set 1 (V.int (t + 1))) = [V.ref p, V.int (t + 1)] from rfl]
  generalize (upd H a (.lst [.ref p, .int (t + 1)])) = H1 at eb1 s1 hdr s2
  have sB : SqL K H1 b [.int c, .int f, .int m] := .inl (.inl eb1)
  obtain ⟨r1, r2⟩ := fmod_rng c many (by omega)
  refine sq_if ?_
  refine cutT (fun k H' => H' = H1 ∧ (k = true → 0 < c)) (fun Q' k' => ?_) ?_
  · refine ⟨_, rfl, b, _, _, _, rfl, rfl, sB, (rfl : atI [V.int c, V.int f, V.int m] 1 = some (V.int f)), rfl, _, rfl, ?_⟩
    by_cases c1 : V.int f = V.int 1
    · rw [decide_eq_true c1]
      refine iteT ⟨_, rfl, b, _, _, _, rfl, rfl, sB, (rfl : atI [V.int c, V.int f, V.int m] 0 = some (V.int c)), _, _, rfl, rfl, _, rfl, ?_⟩
      exact k' _ _ ⟨rfl, fun h => of_decide_eq_true h⟩
    · rw [decide_eq_false c1]
      exact iteF (k' _ _ ⟨rfl, fun h => by cases h⟩)
  rintro k H' ⟨rfl, hk⟩
  cases k with
  | true =>
    refine iteT (sq_set ?_)
    refine ⟨_, rfl, b, _, _, _, rfl, rfl, sB, (rfl : atI [V.int c, V.int f, V.int m] 0 = some (V.int c)), _, rfl, _, _, rfl, rfl, by omega, ?_⟩
    refine ⟨_, rfl, b, _, _, _, rfl, rfl, sB, (rfl : atI [V.int c, V.int f, V.int m] 0 = some (V.int c)), _, rfl, _, _, rfl, rfl, hmw _, ?_⟩
    refine ⟨_, rfl, b, _, _, 0, rfl, rfl, eb1, rfl, ?_⟩
    refine ⟨_, rfl, ?_⟩
    exact q _ _ r1 r2 (hdr _ _ _ m0 (by omega)) (s2 _)
  | false =>
    refine iteF ?_
    refine ⟨_, rfl, b, _, _, _, rfl, rfl, sB, (rfl : atI [V.int c, V.int f, V.int m] 2 = some (V.int m)), _, _, rfl, rfl, _, rfl, b, _, _, 2, rfl, rfl, eb1, rfl, ?_⟩
    have eb2 : (upd H' b (.lst [.int c, .int f, .int (m + 1)])) b = some (.lst [.int c, .int f, .int (m + 1)]) := upd_same
    have sB2 : SqL K (upd H' b (.lst [.int c, .int f, .int (m + 1)])) b [.int c, .int f, .int (m + 1)] := .inl (.inl eb2)
    have b50 : (2 : Nat) ^ 50 = 1125899906842624 := by decide
    rw [b50] at hn
    have hm3 : (m + 1).natAbs < 2 ^ 60 := by
      have b60 : (2 : Nat) ^ 60 = 1152921504606846976 := by decide
      rw [b60]
      omega
    have hdr2 := hdr c f (m + 1) (by omega) (by omega)
    have s3 := s2 (.lst [.int c, .int f, .int (m + 1)])
    dsimp only
    rw [show ([V.int c, V.int f, V.int m].set 2 (V.int (m + 1))) = [V.int c, V.int f, V.int (m + 1)] from rfl]
    generalize (upd H' b (.lst [.int c, .int f, .int (m + 1)])) = H2 at eb2 sB2 hdr2 s3
    obtain ⟨x10, x11⟩ := fmod_rng c 162259276829213363391578010288127 (by decide)
    refine sq_set ?_
    refine ⟨_, rfl, b, _, _, _, rfl, rfl, sB2, (rfl : atI [V.int c, V.int f, V.int (m + 1)] 0 = some (V.int c)), _, _, rfl, rfl, (show (162259276829213363391578010288127 : Int) ≠ 0 by decide), ?_⟩
    refine ⟨_, rfl, b, _, _, _, rfl, rfl, sB2, (rfl : atI [V.int c, V.int f, V.int (m + 1)] 2 = some (V.int (m + 1))), _, _, rfl, rfl, ?_, _, _, rfl, rfl, ?_⟩
    · exact wide_of (small_of (k := 40) (by decide) (by decide)) (small_of (k := 60) hm3 (by decide))
    generalize c.fmod 162259276829213363391578010288127 = x1 at x10 x11
    dsimp only
    have big : ∀ z : Int, 0 ≤ z → z < 2 ^ 200 → z.natAbs < 2 ^ 1000 := fun z h1 h2 => by
      refine Nat.lt_of_lt_of_le (m := 2 ^ 200) ?_ (Nat.pow_le_pow_right (by decide) (by decide))
      have e1 : (2 : Int) ^ 200 = 1606938044258990275541962092341162602522202993782792835301376 := by decide
      have e2 : (2 : Nat) ^ 200 = 1606938044258990275541962092341162602522202993782792835301376 := by decide
      rw [e1] at h2
      rw [e2]
      omega
    have e200 : (2 : Int) ^ 200 = 1606938044258990275541962092341162602522202993782792835301376 := by decide
    have hx1 : x1 + 2038074743 * (m + 1) < 2 ^ 200 := by
      rw [e200]
      omega
    refine sq_set ?_
    refine ⟨_, rfl, _, _, rfl, rfl, ⟨by decide, by decide, big _ (by omega) hx1⟩, _, _, rfl, rfl, (show (618970019642690137449562111 : Int) ≠ 0 by decide), ?_⟩
    obtain ⟨y10, y11⟩ := fmod_rng ((x1 + 2038074743 * (m + 1)) ^ (3 : Int).toNat) 618970019642690137449562111 (by decide)
    dsimp only
    generalize ((x1 + 2038074743 * (m + 1)) ^ (3 : Int).toNat).fmod 618970019642690137449562111 = x2 at y10 y11
    have hx2 : x2 + 86028121 * (m + 1) < 2 ^ 200 := by
      rw [e200]
      omega
    refine sq_set ?_
    refine ⟨_, rfl, _, rfl, b, _, _, _, rfl, rfl, sB2, (rfl : atI [V.int c, V.int f, V.int (m + 1)] 2 = some (V.int (m + 1))), _, _, rfl, rfl, ?_, _, _, rfl, rfl, _, _, rfl, rfl, ⟨by decide, by decide, big _ (by omega) hx2⟩, _, _, rfl, rfl, (show (162259276829213363391578010288127 : Int) ≠ 0 by decide), ?_⟩
    · exact wide_of (small_of (k := 40) (by decide) (by decide)) (small_of (k := 60) hm3 (by decide))
    dsimp only
    generalize ((x2 + 86028121 * (m + 1)) ^ (3 : Int).toNat).fmod 162259276829213363391578010288127 = x3
    obtain ⟨z1, z2⟩ := fmod_rng (x3 / 262144) many (by omega)
    refine ⟨_, rfl, _, _, rfl, rfl, wide_div (b := 29) (by decide) (by decide) (by decide) (by decide), _, rfl, _, _, rfl, rfl, by omega, ?_⟩
    exact q _ _ z1 z2 hdr2 s3
theorem ok__law_span {f : Addr} {fd : FuncData} (F : FnP K "_law_span" (top 43) [] f fd) (W : Wd K mg)  : FnOk P w K mg base CX0 1 f fd ["sizes"] (sp__law_span K) := by
  refine FunD.ok F sc__law_span (fun vs H Q E h => ?len) (fun cdv A outer s H vs Q E hr h => ?_)
  case len =>
    obtain ⟨a, ns, rfl, _⟩ := h
    rfl
  refine ⟨_, PSs.nox (pss_one (ps_ret (pe_op op_sub (pe_op op_add (pe_callB (cr_sum rfl) (by rfl) W.n_sum (by decide +kernel) (pa_cons (pv 0) pa_nil)) (pe_callB call_len_seq (by rfl) W.n_len (by decide +kernel) (pa_cons (pv 0) pa_nil))) pe_int))), ?_⟩
  obtain ⟨a, ns, rfl, hS, q⟩ := h
  refine rt_ret (op_go ⟨_, rfl, a, _, rfl, hS, _, rfl, a, _, rfl, .inl hS, _, _, rfl, rfl, _, _, rfl, rfl, ?_⟩)
  dsimp only
  rw [List.length_map]
  exact q
theorem ok__law_plan {f : Addr} {fd : FuncData} (F : FnP K "_law_plan" (top 44) [] f fd) (W : Wd K mg) (c__law_draw : Cal P w K mg base CX0 1 "_law_draw" ["deck", "many"] [] (sp__law_draw K)) (c__law_span : Cal P w K mg base CX0 1 "_law_span" ["sizes"] [] (sp__law_span K)) : FnOk P w K mg base CX0 2 f fd ["deck", "most", "longest"] (sp__law_plan K) := by
  refine FunD.ok F sc__law_plan (fun vs H Q E h => ?len) (fun cdv A outer s H vs Q E hr h => ?_)
  case len =>
    obtain ⟨a, qs, n, most, longest, rfl, _⟩ := h
    rfl
  refine ⟨_, PSs.nox (pss_cons (ps_set (i := 3) sc__law_plan.nd rfl (.inl rfl) (pe_lst (pa_cons (pe_op op_add pe_int (pe_cal c__law_draw (hr.mono (by decide)) pass0 (pa_cons (pv 0) (pa_cons (pv 2) pa_nil)))) pa_nil)))
  (pss_cons (ps_for PassesOwn.never rfl (pi_range1 (by rfl) W.n_range (pa_cons (pe_cal c__law_draw (hr.mono (by decide)) pass0 (pa_cons (pv 0) (pa_cons (pv 1) pa_nil))) pa_nil)) (pg_name (i := 4) sc__law_plan.nd rfl (Or.inl rfl))
  (pss_cons (ps_set (i := 5) sc__law_plan.nd rfl (.inl rfl) (pe_op op_add pe_int (pe_cal c__law_draw (hr.mono (by decide)) pass0 (pa_cons (pv 0) (pa_cons (pe_ix ix_list (pe_lst (pa_cons pe_int (pa_cons pe_int (pa_cons (pv 2) pa_nil)))) (pe_cal c__law_draw (hr.mono (by decide)) pass0 (pa_cons (pv 0) (pa_cons pe_int pa_nil))) (fun _ _ => rfl)) pa_nil)))))
  (pss_one (ps_if (pt_cmpR op_le (pe_op op_add (pe_op op_add (pe_cal c__law_span (hr.mono (by decide)) pass0 (pa_cons (pv 3) pa_nil)) pe_int) (pv 5)) pe_int (nomark _)) (pss_one (ps_expr (pe_bm PySem.F.plainAttrs_list PySem.F.slot_list_append PySem.F.type_list_append mt_append (pv 3) (pa_cons (pv 5) pa_nil)))) pss_nil))))
  (pss_one (ps_ret (pv 3))))), ?_⟩
  obtain ⟨a, qs, n, most, longest, rfl, hD, hn, hm1, hm2, hl1, hl2, q⟩ := h
  have e40 : (2 : Nat) ^ 40 = 1099511627776 := by decide
  have e50 : (2 : Nat) ^ 50 = 1125899906842624 := by decide
  have hz : sizeLine = 16777216 := by decide
  rw [e40] at hn
  refine sq_set ⟨_, rfl, _, rfl, a, qs, n, longest, rfl, hD, by omega, hl1, by omega, fun r H1 r0 r1 D1 s1 => ⟨_, _, rfl, rfl, (by show 1 ≤ sizeLine; decide), fun p np => ?_⟩⟩
  have npS : p ∉ a :: qs := D1.fresh np
  refine ⟨_, rfl, _, rfl, a, qs, n + 1, most, rfl, D1.new np, by omega, hm1, by omega, fun r2 H2 r20 r21 D2 s2 => ⟨r2, rfl, by omega, by omega, ?_⟩⟩
  have npH : H p = Option.none := s1.free npS np
  refine for_range (lo := 0) (n := r2.toNat) (fun i σ H' => ∃ ws j4 j5, σ = [some (.ref a), some (.int most), some (.int longest), some (.ref p), j4, j5] ∧ SameS (a :: qs) H H' ∧ Deck H' a qs (n + 2 + 2 * i) ∧ IL H' p ws ∧ Txt' ws ∧ ws.length ≤ 1 + i ∧ ∀ m ∈ ws, m ≤ longest ∨ m ≤ 5)
    ⟨[1 + r], _, _, rfl, (s1.trans (SameS.of (same_new np))).trans s2, D2, s2.il npS upd_same, ⟨?_, ?_, ?_⟩, (by simp), (fun m hm => by rw [List.mem_singleton.mp hm]; omega)⟩ ?_ ?_
  · simp
  · intro m hm
    rw [List.mem_singleton.mp hm]
    omega
  · simp [total]
    omega
  · rintro i σ H3 hi ⟨ws, j4, j5, rfl, s3, D3, e3, ht, hw1, hw2⟩
    refine sq_set (op_go ⟨_, rfl, _, rfl, (by show 3 ≤ sizeLine; decide), fun t nt => ⟨_, rfl, a, qs, _, 3, rfl, D3.new nt, by omega, by decide, by decide, fun r4 H4 r40 r41 D4 s4 => ?_⟩⟩)
    have htS : t ∉ a :: qs := D3.fresh nt
    have e4 : H4 t = some (.lst [.int 2, .int 5, .int longest]) := s4.at htS upd_same
    have e34 : IL H4 p ws := s4.il npS (e3.new nt)
    have s34 : SameS (a :: qs) H H4 := (s3.trans (SameS.of (same_new nt))).trans s4
    obtain ⟨mn, hmn, mn1, mn2, mn3⟩ : ∃ mn : Int, atI [V.int 2, V.int 5, V.int longest] r4 = some (.int mn) ∧ 1 ≤ mn ∧ mn ≤ 600 ∧ (mn ≤ longest ∨ mn ≤ 5) := by
      have : r4 = 0 ∨ r4 = 1 ∨ r4 = 2 := by omega
      rcases this with rfl | rfl | rfl
      · exact ⟨2, rfl, by decide, by decide, .inr (by decide)⟩
      · exact ⟨5, rfl, by decide, by decide, .inr (by decide)⟩
      · exact ⟨longest, rfl, hl1, hl2, .inl (Int.le_refl _)⟩
    refine ⟨t, _, _, _, rfl, rfl, .inl (.inl e4), hmn, a, qs, _, mn, rfl, D4, by omega, mn1, by omega, fun r5 H5 r50 r51 D5 s5 => ⟨_, _, rfl, rfl, ?_⟩⟩
    have e35 : IL H5 p ws := s5.il npS e34
    have s35 := s34.trans s5
    refine ⟨_, rfl, p, ws, rfl, e35.seq, _, _, rfl, rfl, _, rfl, _, _, rfl, rfl, _, _, rfl, rfl, _, rfl, ?_⟩
    by_cases c : total ws + 1 + (1 + r5) ≤ 600
    · rw [decide_eq_true c]
      refine iteT ⟨_, rfl, .inl ⟨rfl, _, e35.seq⟩, _, rfl, p, _, _, rfl, rfl, e35, ?_, ?_⟩
      · rw [List.length_map]
        have := ht.len
        omega
      refine ⟨ws ++ [1 + r5], _, _, rfl, s35.mut npH, ?_, ?_, ?_, ?_, ?_⟩
      · exact (D5.mut npS).mono (by omega)
      · show upd _ _ _ _ = _
        rw [ints_push, upd_same]
      · obtain ⟨h1, h2, h3⟩ := ht
        refine ⟨by simp, fun m hm => ?_, ?_⟩
        · rcases List.mem_append.mp hm with hm | hm
          · exact h2 m hm
          · rw [List.mem_singleton.mp hm]
            omega
        · unfold total at c ⊢
          rw [List.sum_append, List.length_append]
          simp
          omega
      · rw [List.length_append]
        show _ + 1 ≤ _
        omega
      · intro m hm
        rcases List.mem_append.mp hm with hm | hm
        · exact hw2 m hm
        · rw [List.mem_singleton.mp hm]
          omega
    · rw [decide_eq_false c]
      exact iteF ⟨ws, _, _, rfl, s35, D5.mono (by omega), e35, ht, by omega, hw2⟩
  rintro σ H' ⟨ws, j4, j5, rfl, s3, D3, e3, ht, hw1, hw2⟩
  exact ⟨_, rfl, q p ws H' npH s3 (D3.mono (by omega)) e3 ht (by omega) hw2⟩
theorem ok__law_word_of {f : Addr} {fd : FuncData} (F : FnP K "_law_word_of" (top 45) [] f fd) (W : Wd K mg)  : FnW P w K mg base 1 f fd ["e"] (sp__law_word_of K) := by
  refine fnW_of F sc__law_word_of (fun vs H Q E h => ?len) (fun cdv A outer s H vs Q E hr h => ?_)
  case len =>
    obtain ⟨a, x, rfl, _⟩ := h
    rfl
  refine ⟨_, PSs.nox (pss_cons (ps_set (i := 1) sc__law_word_of.nd rfl (.inl rfl) (pe_lst pa_nil))
  (pss_cons (ps_if (pt_val (pe_callB call_isX (by rfl) W.n_isinstance (by decide +kernel) (pa_cons (pv 0) (pa_cons (pe_glob (v := .ref (He.ga K "InvalidText")) (by rfl) W.g_InvalidText rfl) pa_nil)))) (pss_one (ps_expr (pe_bm PySem.F.plainAttrs_list PySem.F.slot_list_append PySem.F.type_list_append mt_append (pv 1) (pa_cons pe_str pa_nil)))) pss_nil)
  (pss_cons (ps_if (pt_val (pe_callB call_isX (by rfl) W.n_isinstance (by decide +kernel) (pa_cons (pv 0) (pa_cons (pe_glob (v := .ref (He.ga K "InvalidWidth")) (by rfl) W.g_InvalidWidth rfl) pa_nil)))) (pss_one (ps_expr (pe_bm PySem.F.plainAttrs_list PySem.F.slot_list_append PySem.F.type_list_append mt_append (pv 1) (pa_cons pe_str pa_nil)))) pss_nil)
  (pss_cons (ps_if (pt_val (pe_callB call_isX (by rfl) W.n_isinstance (by decide +kernel) (pa_cons (pv 0) (pa_cons (pe_glob (v := .ref (He.ga K "InvalidNumber")) (by rfl) W.g_InvalidNumber rfl) pa_nil)))) (pss_one (ps_expr (pe_bm PySem.F.plainAttrs_list PySem.F.slot_list_append PySem.F.type_list_append mt_append (pv 1) (pa_cons pe_str pa_nil)))) pss_nil)
  (pss_cons (ps_if (pt_val (pe_callB call_isX (by rfl) W.n_isinstance (by decide +kernel) (pa_cons (pv 0) (pa_cons (pe_glob (v := .ref (He.ga K "InvalidScreens")) (by rfl) W.g_InvalidScreens rfl) pa_nil)))) (pss_one (ps_expr (pe_bm PySem.F.plainAttrs_list PySem.F.slot_list_append PySem.F.type_list_append mt_append (pv 1) (pa_cons pe_str pa_nil)))) pss_nil)
  (pss_cons (ps_if (pt_val (pe_callB call_isX (by rfl) W.n_isinstance (by decide +kernel) (pa_cons (pv 0) (pa_cons (pe_glob (v := .ref (He.ga K "ScreensClash")) (by rfl) W.g_ScreensClash rfl) pa_nil)))) (pss_one (ps_expr (pe_bm PySem.F.plainAttrs_list PySem.F.slot_list_append PySem.F.type_list_append mt_append (pv 1) (pa_cons pe_str pa_nil)))) pss_nil)
  (pss_cons (ps_if (pt_val (pe_callB call_isX (by rfl) W.n_isinstance (by decide +kernel) (pa_cons (pv 0) (pa_cons (pe_glob (v := .ref (He.ga K "InvalidLengths")) (by rfl) W.g_InvalidLengths rfl) pa_nil)))) (pss_one (ps_expr (pe_bm PySem.F.plainAttrs_list PySem.F.slot_list_append PySem.F.type_list_append mt_append (pv 1) (pa_cons pe_str pa_nil)))) pss_nil)
  (pss_cons (ps_if (pt_val (pe_callB call_isX (by rfl) W.n_isinstance (by decide +kernel) (pa_cons (pv 0) (pa_cons (pe_glob (v := .ref (He.ga K "InvalidIndex")) (by rfl) W.g_InvalidIndex rfl) pa_nil)))) (pss_one (ps_expr (pe_bm PySem.F.plainAttrs_list PySem.F.slot_list_append PySem.F.type_list_append mt_append (pv 1) (pa_cons pe_str pa_nil)))) pss_nil)
  (pss_cons (ps_if (pt_val (pe_callB call_isX (by rfl) W.n_isinstance (by decide +kernel) (pa_cons (pv 0) (pa_cons (pe_glob (v := .ref (He.ga K "NothingToUndo")) (by rfl) W.g_NothingToUndo rfl) pa_nil)))) (pss_one (ps_expr (pe_bm PySem.F.plainAttrs_list PySem.F.slot_list_append PySem.F.type_list_append mt_append (pv 1) (pa_cons pe_str pa_nil)))) pss_nil)
  (pss_cons (ps_if (pt_val (pe_callB call_isX (by rfl) W.n_isinstance (by decide +kernel) (pa_cons (pv 0) (pa_cons (pe_glob (v := .ref (He.ga K "ParseError")) (by rfl) W.g_ParseError rfl) pa_nil)))) (pss_one (ps_expr (pe_bm PySem.F.plainAttrs_list PySem.F.slot_list_append PySem.F.type_list_append mt_append (pv 1) (pa_cons pe_str pa_nil)))) pss_nil)
  (pss_cons (ps_if (pt_val (pe_callB call_isX (by rfl) W.n_isinstance (by decide +kernel) (pa_cons (pv 0) (pa_cons (pe_glob (v := .ref (He.ga K "InvalidCommand")) (by rfl) W.g_InvalidCommand rfl) pa_nil)))) (pss_one (ps_expr (pe_bm PySem.F.plainAttrs_list PySem.F.slot_list_append PySem.F.type_list_append mt_append (pv 1) (pa_cons pe_str pa_nil)))) pss_nil)
  (pss_cons (ps_if (pt_val (pe_callB call_isX (by rfl) W.n_isinstance (by decide +kernel) (pa_cons (pv 0) (pa_cons (pe_glob (v := .ref (He.ga K "NoScreens")) (by rfl) W.g_NoScreens rfl) pa_nil)))) (pss_one (ps_expr (pe_bm PySem.F.plainAttrs_list PySem.F.slot_list_append PySem.F.type_list_append mt_append (pv 1) (pa_cons pe_str pa_nil)))) pss_nil)
  (pss_cons (ps_if (pt_val (pe_callB call_isXT (by rfl) W.n_isinstance (by decide +kernel) (pa_cons (pv 0) (pa_cons (pe_tup (pa_cons (pe_glob (v := .ref (He.ga K "InvalidPosition")) (by rfl) W.g_InvalidPosition rfl) (pa_cons (pe_glob (v := .ref (He.ga K "InvalidRange")) (by rfl) W.g_InvalidRange rfl) (pa_cons (pe_glob (v := .ref (He.ga K "NotFitting")) (by rfl) W.g_NotFitting rfl) pa_nil)))) pa_nil)))) (pss_one (ps_expr (pe_bm PySem.F.plainAttrs_list PySem.F.slot_list_append PySem.F.type_list_append mt_append (pv 1) (pa_cons pe_str pa_nil)))) pss_nil)
  (pss_cons (ps_set (i := 2) sc__law_word_of.nd rfl (.inl rfl) (pe_and (pe_callB call_isX (by rfl) W.n_isinstance (by decide +kernel) (pa_cons (pv 0) (pa_cons (pe_glob (v := .ref (He.ga K "WrapCluesError")) (by rfl) W.g_WrapCluesError rfl) pa_nil))) (pe_one (pe_callB call_isX (by rfl) W.n_isinstance (by decide +kernel) (pa_cons (pv 0) (pa_cons (pe_ty (n := "ValueError") W.n_ValueError (by decide +kernel)) pa_nil))))))
  (pss_one (ps_ret (pe_ifExp (PW.pt (pw_and (pt_cmpR op_eq (pe_callB call_len_seq (by rfl) W.n_len (by decide +kernel) (pa_cons (pv 1) pa_nil)) pe_int (nomark _)) (pw_and1 (pt_val (pv 2))))) (pe_ix ix_list (pv 1) pe_int (fun _ _ => rfl)) pe_str))))))))))))))))), ?_⟩
  obtain ⟨a, x, rfl, ha, hx, q⟩ := h
  have hz : sizeLine = 16777216 := by decide
  refine sq_set ⟨Nat.zero_le _, fun p np => ?_⟩
  have npa : a ≠ p := ne_of_none ha np
  have s1 : Same H (upd H p (.lst [])) := same_new np
  have ha1 := s1 _ _ ha
  have ep : (upd H p (.lst [])) p = some (.lst []) := upd_same
  generalize hH1 : upd H p (.lst []) = H1 at s1 ha1 ep ⊢
  have e2 : (upd H1 p (.lst ([] ++ [V.str (wordOf x)]))) p = some (.lst [V.str (wordOf x)]) := upd_same
  have ha2 : (upd H1 p (.lst ([] ++ [V.str (wordOf x)]))) a = some (ExR (xc K x) none a) := at_mut ha1 npa
  have s2 : Same H (upd H1 p (.lst ([] ++ [V.str (wordOf x)]))) := same_mut s1 np
  have fin : ∀ H3, Same (upd H1 p (.lst ([] ++ [V.str (wordOf x)]))) H3 → H3 p = some (.lst [V.str (wordOf x)]) → H3 a = some (ExR (xc K x) none a) → Same H H3 := fun H3 s3 _ _ => s2.trans s3
  have hno : ∀ y ∈ (["InvalidPosition", "InvalidRange", "NotFitting"] : List Str), y ∈ (["InvalidCommand", "InvalidIndex", "InvalidLengths", "InvalidNumber", "InvalidPosition", "InvalidRange", "InvalidScreens", "InvalidText", "InvalidWidth", "NoScreens", "NotFitting", "NothingToUndo", "ParseError", "ScreensClash"] : List Str) ∧ x ≠ y := by
    simp only [List.mem_cons, List.not_mem_nil, or_false] at hx
    rcases hx with rfl | rfl | rfl | rfl | rfl <;> decide +kernel
  have hxc := hx
  have tail : ∀ (u : TS) (σ : L2.St) (D : Ends) (t1 : TS), σ[0]? = some (some (.ref a)) → (∀ H3, Same (upd H1 p (.lst ([] ++ [V.str (wordOf x)]))) H3 → u D σ H3) →
      tSeq (tIfS (tB (tCB (rIsXT K) (tCons (tVar 0) (tCons (tTup (tCons (tC (.ref (He.ga K "InvalidPosition"))) (tCons (tC (.ref (He.ga K "InvalidRange"))) (tCons (tC (.ref (He.ga K "NotFitting"))) tNil)))) tNil)))) t1 tNext) u D σ (upd H1 p (.lst ([] ++ [V.str (wordOf x)]))) := fun u σ D t1 hσ k => by
    refine ⟨_, hσ, (by show 3 ≤ sizeLine; decide), fun tp ntp => ⟨a, He.ga K x, tp, _, _, false, rfl, same_new ntp _ _ ha2, W.ex.c x hx, upd_same, cls_pair ["InvalidPosition", "InvalidRange", "NotFitting"], kit_none W.ex hx _ hno, _, rfl, ?_⟩⟩
    exact ifF rfl (k _ (same_new ntp))
  have last : ∀ H3, Same (upd H1 p (.lst ([] ++ [V.str (wordOf x)]))) H3 → H3 a = some (ExR (xc K x) none a) ∧ H3 p = some (.lst [V.str (wordOf x)]) ∧ Same H H3 := fun H3 s3 => ⟨s3 _ _ ha2, s3 _ _ e2, s2.trans s3⟩
  simp only [List.mem_cons, List.not_mem_nil, or_false] at hx
  rcases hx with rfl | rfl | rfl | rfl | rfl
  · have ew : wordOf "InvalidIndex" = "index" := by decide +kernel
    rw [ew] at e2 ha2 s2 tail last q
    refine ask_no W.ex hxc (by decide +kernel) (by decide +kernel) rfl ha1 ?_
    refine ask_no W.ex hxc (by decide +kernel) (by decide +kernel) rfl ha1 ?_
    refine ask_no W.ex hxc (by decide +kernel) (by decide +kernel) rfl ha1 ?_
    refine ask_no W.ex hxc (by decide +kernel) (by decide +kernel) rfl ha1 ?_
    refine ask_no W.ex hxc (by decide +kernel) (by decide +kernel) rfl ha1 ?_
    refine ask_no W.ex hxc (by decide +kernel) (by decide +kernel) rfl ha1 ?_
    refine ask_yes W.ex hxc (by decide +kernel) rfl ha1 ?_
    refine ⟨_, rfl, .inl ⟨rfl, _, .inl (.inl ep)⟩, p, _, _, rfl, rfl, ep, (by show 0 < sizeLine; decide), ?_⟩
    refine ask_no W.ex hxc (by decide +kernel) (by decide +kernel) rfl ha2 ?_
    refine ask_no W.ex hxc (by decide +kernel) (by decide +kernel) rfl ha2 ?_
    refine ask_no W.ex hxc (by decide +kernel) (by decide +kernel) rfl ha2 ?_
    refine ask_no W.ex hxc (by decide +kernel) (by decide +kernel) rfl ha2 ?_
    refine tail _ _ _ _ rfl fun H3 s3 => ?_
    obtain ⟨ha3, e3, s4⟩ := last H3 s3
    refine sq_set ⟨_, rfl, a, He.ga K "InvalidIndex", .ref (He.ga K "WrapCluesError"), .ref (He.ga K "WrapCluesError"), true, rfl, ha3, W.ex.c _ hxc, .own _, W.exw.b _ hxc, _, rfl, ifT rfl ⟨_, rfl, a, He.ga K "InvalidIndex", .ty "ValueError", .type "ValueError", true, rfl, ha3, W.ex.c _ hxc, .ty _, W.ex.v _ hxc, ?_⟩⟩
    try dsimp only
    refine rt_ret ⟨_, rfl, p, _, rfl, .inl (.inl (.inl e3)), rfl, _, rfl, ifT rfl ⟨_, rfl, _, rfl, ifT rfl ?_⟩⟩
    exact ⟨_, rfl, p, _, 0, _, rfl, rfl, .inl (.inl e3), rfl, q _ s4⟩
  · have ew : wordOf "InvalidLengths" = "lengths" := by decide +kernel
    rw [ew] at e2 ha2 s2 tail last q
    refine ask_no W.ex hxc (by decide +kernel) (by decide +kernel) rfl ha1 ?_
    refine ask_no W.ex hxc (by decide +kernel) (by decide +kernel) rfl ha1 ?_
    refine ask_no W.ex hxc (by decide +kernel) (by decide +kernel) rfl ha1 ?_
    refine ask_no W.ex hxc (by decide +kernel) (by decide +kernel) rfl ha1 ?_
    refine ask_no W.ex hxc (by decide +kernel) (by decide +kernel) rfl ha1 ?_
    refine ask_yes W.ex hxc (by decide +kernel) rfl ha1 ?_
    refine ⟨_, rfl, .inl ⟨rfl, _, .inl (.inl ep)⟩, p, _, _, rfl, rfl, ep, (by show 0 < sizeLine; decide), ?_⟩
    refine ask_no W.ex hxc (by decide +kernel) (by decide +kernel) rfl ha2 ?_
    refine ask_no W.ex hxc (by decide +kernel) (by decide +kernel) rfl ha2 ?_
    refine ask_no W.ex hxc (by decide +kernel) (by decide +kernel) rfl ha2 ?_
    refine ask_no W.ex hxc (by decide +kernel) (by decide +kernel) rfl ha2 ?_
    refine ask_no W.ex hxc (by decide +kernel) (by decide +kernel) rfl ha2 ?_
    refine tail _ _ _ _ rfl fun H3 s3 => ?_
    obtain ⟨ha3, e3, s4⟩ := last H3 s3
    refine sq_set ⟨_, rfl, a, He.ga K "InvalidLengths", .ref (He.ga K "WrapCluesError"), .ref (He.ga K "WrapCluesError"), true, rfl, ha3, W.ex.c _ hxc, .own _, W.exw.b _ hxc, _, rfl, ifT rfl ⟨_, rfl, a, He.ga K "InvalidLengths", .ty "ValueError", .type "ValueError", true, rfl, ha3, W.ex.c _ hxc, .ty _, W.ex.v _ hxc, ?_⟩⟩
    try dsimp only
    refine rt_ret ⟨_, rfl, p, _, rfl, .inl (.inl (.inl e3)), rfl, _, rfl, ifT rfl ⟨_, rfl, _, rfl, ifT rfl ?_⟩⟩
    exact ⟨_, rfl, p, _, 0, _, rfl, rfl, .inl (.inl e3), rfl, q _ s4⟩
  · have ew : wordOf "InvalidNumber" = "number" := by decide +kernel
    rw [ew] at e2 ha2 s2 tail last q
    refine ask_no W.ex hxc (by decide +kernel) (by decide +kernel) rfl ha1 ?_
    refine ask_no W.ex hxc (by decide +kernel) (by decide +kernel) rfl ha1 ?_
    refine ask_yes W.ex hxc (by decide +kernel) rfl ha1 ?_
    refine ⟨_, rfl, .inl ⟨rfl, _, .inl (.inl ep)⟩, p, _, _, rfl, rfl, ep, (by show 0 < sizeLine; decide), ?_⟩
    refine ask_no W.ex hxc (by decide +kernel) (by decide +kernel) rfl ha2 ?_
    refine ask_no W.ex hxc (by decide +kernel) (by decide +kernel) rfl ha2 ?_
    refine ask_no W.ex hxc (by decide +kernel) (by decide +kernel) rfl ha2 ?_
    refine ask_no W.ex hxc (by decide +kernel) (by decide +kernel) rfl ha2 ?_
    refine ask_no W.ex hxc (by decide +kernel) (by decide +kernel) rfl ha2 ?_
    refine ask_no W.ex hxc (by decide +kernel) (by decide +kernel) rfl ha2 ?_
    refine ask_no W.ex hxc (by decide +kernel) (by decide +kernel) rfl ha2 ?_
    refine ask_no W.ex hxc (by decide +kernel) (by decide +kernel) rfl ha2 ?_
    refine tail _ _ _ _ rfl fun H3 s3 => ?_
    obtain ⟨ha3, e3, s4⟩ := last H3 s3
    refine sq_set ⟨_, rfl, a, He.ga K "InvalidNumber", .ref (He.ga K "WrapCluesError"), .ref (He.ga K "WrapCluesError"), true, rfl, ha3, W.ex.c _ hxc, .own _, W.exw.b _ hxc, _, rfl, ifT rfl ⟨_, rfl, a, He.ga K "InvalidNumber", .ty "ValueError", .type "ValueError", true, rfl, ha3, W.ex.c _ hxc, .ty _, W.ex.v _ hxc, ?_⟩⟩
    try dsimp only
    refine rt_ret ⟨_, rfl, p, _, rfl, .inl (.inl (.inl e3)), rfl, _, rfl, ifT rfl ⟨_, rfl, _, rfl, ifT rfl ?_⟩⟩
    exact ⟨_, rfl, p, _, 0, _, rfl, rfl, .inl (.inl e3), rfl, q _ s4⟩
  · have ew : wordOf "InvalidText" = "text" := by decide +kernel
    rw [ew] at e2 ha2 s2 tail last q
    refine ask_yes W.ex hxc (by decide +kernel) rfl ha1 ?_
    refine ⟨_, rfl, .inl ⟨rfl, _, .inl (.inl ep)⟩, p, _, _, rfl, rfl, ep, (by show 0 < sizeLine; decide), ?_⟩
    refine ask_no W.ex hxc (by decide +kernel) (by decide +kernel) rfl ha2 ?_
    refine ask_no W.ex hxc (by decide +kernel) (by decide +kernel) rfl ha2 ?_
    refine ask_no W.ex hxc (by decide +kernel) (by decide +kernel) rfl ha2 ?_
    refine ask_no W.ex hxc (by decide +kernel) (by decide +kernel) rfl ha2 ?_
    refine ask_no W.ex hxc (by decide +kernel) (by decide +kernel) rfl ha2 ?_
    refine ask_no W.ex hxc (by decide +kernel) (by decide +kernel) rfl ha2 ?_
    refine ask_no W.ex hxc (by decide +kernel) (by decide +kernel) rfl ha2 ?_
    refine ask_no W.ex hxc (by decide +kernel) (by decide +kernel) rfl ha2 ?_
    refine ask_no W.ex hxc (by decide +kernel) (by decide +kernel) rfl ha2 ?_
    refine ask_no W.ex hxc (by decide +kernel) (by decide +kernel) rfl ha2 ?_
    refine tail _ _ _ _ rfl fun H3 s3 => ?_
    obtain ⟨ha3, e3, s4⟩ := last H3 s3
    refine sq_set ⟨_, rfl, a, He.ga K "InvalidText", .ref (He.ga K "WrapCluesError"), .ref (He.ga K "WrapCluesError"), true, rfl, ha3, W.ex.c _ hxc, .own _, W.exw.b _ hxc, _, rfl, ifT rfl ⟨_, rfl, a, He.ga K "InvalidText", .ty "ValueError", .type "ValueError", true, rfl, ha3, W.ex.c _ hxc, .ty _, W.ex.v _ hxc, ?_⟩⟩
    try dsimp only
    refine rt_ret ⟨_, rfl, p, _, rfl, .inl (.inl (.inl e3)), rfl, _, rfl, ifT rfl ⟨_, rfl, _, rfl, ifT rfl ?_⟩⟩
    exact ⟨_, rfl, p, _, 0, _, rfl, rfl, .inl (.inl e3), rfl, q _ s4⟩
  · have ew : wordOf "InvalidWidth" = "width" := by decide +kernel
    rw [ew] at e2 ha2 s2 tail last q
    refine ask_no W.ex hxc (by decide +kernel) (by decide +kernel) rfl ha1 ?_
    refine ask_yes W.ex hxc (by decide +kernel) rfl ha1 ?_
    refine ⟨_, rfl, .inl ⟨rfl, _, .inl (.inl ep)⟩, p, _, _, rfl, rfl, ep, (by show 0 < sizeLine; decide), ?_⟩
    refine ask_no W.ex hxc (by decide +kernel) (by decide +kernel) rfl ha2 ?_
    refine ask_no W.ex hxc (by decide +kernel) (by decide +kernel) rfl ha2 ?_
    refine ask_no W.ex hxc (by decide +kernel) (by decide +kernel) rfl ha2 ?_
    refine ask_no W.ex hxc (by decide +kernel) (by decide +kernel) rfl ha2 ?_
    refine ask_no W.ex hxc (by decide +kernel) (by decide +kernel) rfl ha2 ?_
    refine ask_no W.ex hxc (by decide +kernel) (by decide +kernel) rfl ha2 ?_
    refine ask_no W.ex hxc (by decide +kernel) (by decide +kernel) rfl ha2 ?_
    refine ask_no W.ex hxc (by decide +kernel) (by decide +kernel) rfl ha2 ?_
    refine ask_no W.ex hxc (by decide +kernel) (by decide +kernel) rfl ha2 ?_
    refine tail _ _ _ _ rfl fun H3 s3 => ?_
    obtain ⟨ha3, e3, s4⟩ := last H3 s3
    refine sq_set ⟨_, rfl, a, He.ga K "InvalidWidth", .ref (He.ga K "WrapCluesError"), .ref (He.ga K "WrapCluesError"), true, rfl, ha3, W.ex.c _ hxc, .own _, W.exw.b _ hxc, _, rfl, ifT rfl ⟨_, rfl, a, He.ga K "InvalidWidth", .ty "ValueError", .type "ValueError", true, rfl, ha3, W.ex.c _ hxc, .ty _, W.ex.v _ hxc, ?_⟩⟩
    try dsimp only
    refine rt_ret ⟨_, rfl, p, _, rfl, .inl (.inl (.inl e3)), rfl, _, rfl, ifT rfl ⟨_, rfl, _, rfl, ifT rfl ?_⟩⟩
    exact ⟨_, rfl, p, _, 0, _, rfl, rfl, .inl (.inl e3), rfl, q _ s4⟩
theorem ok__law_told {f : Addr} {fd : FuncData} (F : FnP K "_law_told" (top 46) [] f fd) (W : Wd K mg) (c_wrap_from : Cal P w K mg base (L2.CX P w) 6 "wrap_from" ["text", "width", "word"] [] (sp_wrap_from K)) (c_meeting_word : Cal P w K mg base (L2.CX P w) 5 "meeting_word" ["text", "width", "first", "second"] [] (sp_meeting_word K)) (c_replace_words : Cal P w K mg base (L2.CX P w) 5 "replace_words" ["text", "first", "count", "words"] [] (sp_replace_words K)) (c_changed_lines : Cal P w K mg base (L2.CX P w) 6 "changed_lines" ["text", "other", "width"] [] (sp_changed_lines K)) (c__law_word_of : CalW P w K mg base 1 "_law_word_of" ["e"] (sp__law_word_of K)) : FnOk P w K mg base CX0 7 f fd ["door", "parts"] (sp__law_told K) := by
  refine FunD.ok F sc__law_told (fun vs H Q E h => ?len) (fun cdv A outer s H vs Q E hr h => ?_)
  case len =>
    obtain ⟨d, p, xs, os, rfl, _⟩ := h
    rfl
  refine ⟨_, PSs.nox (pss_cons (ps_try_lay (i := 2) rfl rfl rfl sc__law_told.nd rfl rfl ⟨rfl, by decide, .inl W.x_WrapCluesError.g⟩ takes0 (fun Wx pn xe tk po => (pss_one (ps_if (pt_cmpR op_eq (pv 0) pe_int (nomark _)) (pss_one (ps_expr (pe_calS c_wrap_from (hr.mono (by decide)) (fun σ => passAt tk σ) (pa_cons (pe_ix (kIx (K := K) rfl) (pv 1) pe_int (fun _ _ => rfl)) (pa_cons (pe_ix (kIx (K := K) rfl) (pv 1) pe_int (fun _ _ => rfl)) (pa_cons (pe_ix (kIx (K := K) rfl) (pv 1) pe_int (fun _ _ => rfl)) pa_nil)))))) (pss_one (ps_if (pt_cmpR op_eq (pv 0) pe_int (nomark _)) (pss_one (ps_expr (pe_calS c_meeting_word (hr.mono (by decide)) (fun σ => passAt tk σ) (pa_cons (pe_ix (kIx (K := K) rfl) (pv 1) pe_int (fun _ _ => rfl)) (pa_cons (pe_ix (kIx (K := K) rfl) (pv 1) pe_int (fun _ _ => rfl)) (pa_cons (pe_ix (kIx (K := K) rfl) (pv 1) pe_int (fun _ _ => rfl)) (pa_cons (pe_ix (kIx (K := K) rfl) (pv 1) pe_int (fun _ _ => rfl)) pa_nil))))))) (pss_one (ps_if (pt_cmpR op_eq (pv 0) pe_int (nomark _)) (pss_one (ps_expr (pe_calS c_replace_words (hr.mono (by decide)) (fun σ => passAt tk σ) (pa_cons (pe_ix (kIx (K := K) rfl) (pv 1) pe_int (fun _ _ => rfl)) (pa_cons (pe_ix (kIx (K := K) rfl) (pv 1) pe_int (fun _ _ => rfl)) (pa_cons (pe_ix (kIx (K := K) rfl) (pv 1) pe_int (fun _ _ => rfl)) (pa_cons (pe_ix (kIx (K := K) rfl) (pv 1) pe_int (fun _ _ => rfl)) pa_nil))))))) (pss_one (ps_expr (pe_calS c_changed_lines (hr.mono (by decide)) (fun σ => passAt tk σ) (pa_cons (pe_ix (kIx (K := K) rfl) (pv 1) pe_int (fun _ _ => rfl)) (pa_cons (pe_ix (kIx (K := K) rfl) (pv 1) pe_int (fun _ _ => rfl)) (pa_cons (pe_ix (kIx (K := K) rfl) (pv 1) pe_int (fun _ _ => rfl)) pa_nil))))))))))))) (fun a_ cls_ d_ pn_ => (pss_one (ps_ret (pe_calW c__law_word_of (roomW (hr.mono (by decide)) _) (pa_cons (pv 2) pa_nil))))))
  (pss_one (ps_ret pe_str))), ?_⟩
  obtain ⟨d, p, xs, os, rfl, d0, d3, hp, hP, q⟩ := h
  have hz : sizeLine = 16777216 := by decide
  unfold tTryL
  have fine : ∀ {σ : L2.St} {j : Option V} {D : Ends} {H' : Hp}, Same H H' → wordFor d xs os = "fine" → Q (.str "fine") H' := fun s e => by
    have := q _ s
    rwa [e] at this
  have bad : ∀ (x : Str), x ∈ (["InvalidIndex", "InvalidLengths", "InvalidNumber", "InvalidText", "InvalidWidth"] : List Str) → wordFor d xs os = wordOf x → ∀ H', Same H H' → ∀ a, H' a = none → sp__law_word_of K [.ref a] (upd H' a (ExR (xc K x) none a)) Q E0 := fun x hx e H' s a na => ⟨a, x, rfl, upd_same, hx, fun H2 s2 => by
    have := q H2 ((s.trans (same_new na)).trans s2)
    rwa [e] at this⟩
  have iText : ("InvalidText" : Str) ∈ (["InvalidIndex", "InvalidLengths", "InvalidNumber", "InvalidText", "InvalidWidth"] : List Str) := by decide +kernel
  have iWidth : ("InvalidWidth" : Str) ∈ (["InvalidIndex", "InvalidLengths", "InvalidNumber", "InvalidText", "InvalidWidth"] : List Str) := by decide +kernel
  have iIndex : ("InvalidIndex" : Str) ∈ (["InvalidIndex", "InvalidLengths", "InvalidNumber", "InvalidText", "InvalidWidth"] : List Str) := by decide +kernel
  have iNumber : ("InvalidNumber" : Str) ∈ (["InvalidIndex", "InvalidLengths", "InvalidNumber", "InvalidText", "InvalidWidth"] : List Str) := by decide +kernel
  have iLengths : ("InvalidLengths" : Str) ∈ (["InvalidIndex", "InvalidLengths", "InvalidNumber", "InvalidText", "InvalidWidth"] : List Str) := by decide +kernel
  have eText : ("text" : Str) = wordOf "InvalidText" := by decide +kernel
  have eWidth : ("width" : Str) = wordOf "InvalidWidth" := by decide +kernel
  have eIndex : ("index" : Str) = wordOf "InvalidIndex" := by decide +kernel
  have eNumber : ("number" : Str) = wordOf "InvalidNumber" := by decide +kernel
  have eLengths : ("lengths" : Str) = wordOf "InvalidLengths" := by decide +kernel
  rcases hP with ⟨rfl, v, w, x, o, wo, xo, rfl, rfl, ⟨hv, hvz, hvt⟩, hw, hx⟩ | ⟨rfl, v, w, x, y, o, wo, xo, yo, rfl, rfl, ⟨hv, hvz, hvt⟩, hw, hx, hy⟩ | ⟨rfl, v, f, c, w, o, fo, co, wo, rfl, rfl, ⟨hv, hvz, hvt⟩, hf, hc, hw, hwl⟩ | ⟨rfl, v, v2, w, o, o2, wo, rfl, rfl, ⟨hv, hvz, hvt⟩, ⟨hv2, hvz2, hvt2⟩, hw⟩
  · have e0 : wordFor 0 [v, w, x] [o, wo, xo] = wFrom w x o := rfl
    rw [e0] at fine bad
    refine ⟨_, rfl, rfl, _, rfl, ifT (eqT rfl) ?_⟩
    refine ⟨_, rfl, p, _, 0, v, rfl, rfl, hp, rfl, _, rfl, p, _, 1, w, rfl, rfl, hp, rfl, _, rfl, p, _, 2, x, rfl, rfl, hp, rfl, v, o, w, wo, x, xo, rfl, hv, hvz, (fun H' s => hw.same s), (fun H' s => hx.same s), fun c1 c2 => ?_, fun c1 H' s => ?_, fun c1 c2 H' s => ?_⟩
    · obtain ⟨a, ns, e1, eo, hS1, hT1⟩ := hvt c1
      obtain ⟨wd, e2⟩ : ∃ wd, w = .int wd := by
        cases w <;> simp [isWidth, isIntV] at c2
        exact ⟨_, rfl⟩
      have en : (nOf o).toNat = ns.length := by rw [eo, nOf_ints, Int.toNat_natCast]
      refine ⟨a, ns, wd, e1, e2, hS1, hT1, fun c3 => ?_, fun c3 H' s => ?_⟩
      · obtain ⟨i, ei⟩ : ∃ i, x = .int i := by
          cases x <;> simp [isWord, isIntV] at c3
          exact ⟨_, rfl⟩
        exact ⟨i, ei, fun p' H' _ s _ => fine (σ := []) (j := none) (D := ⟨fun _ _ => True, fun _ _ => True, fun _ _ => True, fun _ _ => True⟩) s (by unfold wFrom; rw [if_neg (by rw [c1]; decide), if_neg (by rw [c2]; decide), en, if_neg (by rw [c3]; decide)])⟩
      · exact ⟨true, W.m_InvalidIndex_WrapCluesError, fun _ a na => ⟨_, rfl, bad "InvalidIndex" iIndex (by unfold wFrom; rw [if_neg (by rw [c1]; decide), if_neg (by rw [c2]; decide), en, if_pos c3]; exact eIndex) H' s a na⟩, fun h => by cases h⟩
    · exact ⟨true, W.m_InvalidText_WrapCluesError, fun _ a na => ⟨_, rfl, bad "InvalidText" iText (by unfold wFrom; rw [if_pos c1]; exact eText) H' s a na⟩, fun h => by cases h⟩
    · exact ⟨true, W.m_InvalidWidth_WrapCluesError, fun _ a na => ⟨_, rfl, bad "InvalidWidth" iWidth (by unfold wFrom; rw [if_neg (by rw [c1]; decide), if_pos c2]; exact eWidth) H' s a na⟩, fun h => by cases h⟩
  · have e0 : wordFor 1 [v, w, x, y] [o, wo, xo, yo] = wMeet w x y o := rfl
    rw [e0] at fine bad
    refine ⟨_, rfl, rfl, _, rfl, ifF (eqF (by decide)) ⟨_, rfl, rfl, _, rfl, ifT (eqT rfl) ?_⟩⟩
    refine ⟨_, rfl, p, _, 0, v, rfl, rfl, hp, rfl, _, rfl, p, _, 1, w, rfl, rfl, hp, rfl, _, rfl, p, _, 2, x, rfl, rfl, hp, rfl, _, rfl, p, _, 3, y, rfl, rfl, hp, rfl, v, o, w, wo, x, xo, y, yo, rfl, hv, hvz, (fun H' s => hw.same s), (fun H' s => hx.same s), (fun H' s => hy.same s), fun c1 c2 => ?_, fun c1 H' s => ?_, fun c1 c2 H' s => ?_⟩
    · obtain ⟨a, ns, e1, eo, hS1, hT1⟩ := hvt c1
      obtain ⟨wd, e2⟩ : ∃ wd, w = .int wd := by
        cases w <;> simp [isWidth, isIntV] at c2
        exact ⟨_, rfl⟩
      have en : (nOf o).toNat = ns.length := by rw [eo, nOf_ints, Int.toNat_natCast]
      refine ⟨a, ns, wd, e1, e2, hS1, hT1, fun c3 c4 => ?_, fun c3 H' s => ?_⟩
      · obtain ⟨i, ei⟩ : ∃ i, x = .int i := by
          cases x <;> simp [isWord, isIntV] at c3
          exact ⟨_, rfl⟩
        obtain ⟨j, ej⟩ : ∃ i, y = .int i := by
          cases y <;> simp [isWord, isIntV] at c4
          exact ⟨_, rfl⟩
        exact ⟨i, j, ei, ej, fun H' s => fine (σ := []) (j := none) (D := ⟨fun _ _ => True, fun _ _ => True, fun _ _ => True, fun _ _ => True⟩) s (by unfold wMeet; rw [if_neg (by rw [c1]; decide), if_neg (by rw [c2]; decide), en, if_neg (by rw [c3, c4]; decide)])⟩
      · exact ⟨true, W.m_InvalidIndex_WrapCluesError, fun _ a na => ⟨_, rfl, bad "InvalidIndex" iIndex (by unfold wMeet; rw [if_neg (by rw [c1]; decide), if_neg (by rw [c2]; decide), en, if_pos c3]; exact eIndex) H' s a na⟩, fun h => by cases h⟩
    · exact ⟨true, W.m_InvalidText_WrapCluesError, fun _ a na => ⟨_, rfl, bad "InvalidText" iText (by unfold wMeet; rw [if_pos c1]; exact eText) H' s a na⟩, fun h => by cases h⟩
    · exact ⟨true, W.m_InvalidWidth_WrapCluesError, fun _ a na => ⟨_, rfl, bad "InvalidWidth" iWidth (by unfold wMeet; rw [if_neg (by rw [c1]; decide), if_pos c2]; exact eWidth) H' s a na⟩, fun h => by cases h⟩
  · have e0 : wordFor 2 [v, f, c, w] [o, fo, co, wo] = wRepl f c o wo := rfl
    rw [e0] at fine bad
    refine ⟨_, rfl, rfl, _, rfl, ifF (eqF (by decide)) ⟨_, rfl, rfl, _, rfl, ifF (eqF (by decide)) ⟨_, rfl, rfl, _, rfl, ifT (eqT rfl) ?_⟩⟩⟩
    refine ⟨_, rfl, p, _, 0, v, rfl, rfl, hp, rfl, _, rfl, p, _, 1, f, rfl, rfl, hp, rfl, _, rfl, p, _, 2, c, rfl, rfl, hp, rfl, _, rfl, p, _, 3, w, rfl, rfl, hp, rfl, v, o, f, fo, c, co, w, wo, rfl, hv, hvz, (fun H' s => hf.same s), (fun H' s => hc.same s), (fun H' s => hw.same s), hwl, fun c1 => ?_, fun c1 H' s => ?_⟩
    · obtain ⟨a, ns, e1, eo, hS1, hT1⟩ := hvt c1
      have en : nOf o = ns.length := by rw [eo, nOf_ints]
      have ei : intsD o = ns := by rw [eo, intsD_ints]
      refine ⟨a, ns, e1, hS1, hT1, fun c2 H' s => ?_, fun fi ef c2 => ⟨fun c3 H' s => ?_, fun ci ec c3 => ⟨fun c4 H' s => ?_, fun t c4 p' H' _ s _ => ?_⟩⟩⟩
      · exact ⟨true, W.m_InvalidIndex_WrapCluesError, fun _ a na => ⟨_, rfl, bad "InvalidIndex" iIndex (by unfold wRepl; rw [if_neg (by rw [c1]; decide), en, if_pos c2]; exact eIndex) H' s a na⟩, fun h => by cases h⟩
      · exact ⟨true, W.m_InvalidNumber_WrapCluesError, fun _ a na => ⟨_, rfl, bad "InvalidNumber" iNumber (by subst ef; unfold wRepl; rw [if_neg (by rw [c1]; decide), en, if_neg (by rw [c2]; decide), if_pos (show isIntV c 0 (.int ((ns.length : Int) - iOf (.int fi))) = false from c3)]; exact eNumber) H' s a na⟩, fun h => by cases h⟩
      · exact ⟨true, W.m_InvalidLengths_WrapCluesError, fun _ a na => ⟨_, rfl, bad "InvalidLengths" iLengths (by subst ef; subst ec; unfold wRepl; rw [if_neg (by rw [c1]; decide), en, if_neg (by rw [c2]; decide), if_neg (by rw [show isIntV (.int ci) 0 (.int ((ns.length : Int) - iOf (.int fi))) = true from c3]; decide), ei, if_pos (show replOf ns (iOf (.int fi)).toNat (iOf (.int ci)).toNat wo = none from c4)]; exact eLengths) H' s a na⟩, fun h => by cases h⟩
      · exact fine (σ := []) (j := none) (D := ⟨fun _ _ => True, fun _ _ => True, fun _ _ => True, fun _ _ => True⟩) s (by subst ef; subst ec; unfold wRepl; rw [if_neg (by rw [c1]; decide), en, if_neg (by rw [c2]; decide), if_neg (by rw [show isIntV (.int ci) 0 (.int ((ns.length : Int) - iOf (.int fi))) = true from c3]; decide), ei, if_neg (by rw [show replOf ns (iOf (.int fi)).toNat (iOf (.int ci)).toNat wo = some t from c4]; exact fun h => by cases h)])
    · exact ⟨true, W.m_InvalidText_WrapCluesError, fun _ a na => ⟨_, rfl, bad "InvalidText" iText (by unfold wRepl; rw [if_pos c1]; exact eText) H' s a na⟩, fun h => by cases h⟩
  · have e0 : wordFor 3 [v, v2, w] [o, o2, wo] = wChg w o o2 := rfl
    rw [e0] at fine bad
    refine ⟨_, rfl, rfl, _, rfl, ifF (eqF (by decide)) ⟨_, rfl, rfl, _, rfl, ifF (eqF (by decide)) ⟨_, rfl, rfl, _, rfl, ifF (eqF (by decide)) ?_⟩⟩⟩
    refine ⟨_, rfl, p, _, 0, v, rfl, rfl, hp, rfl, _, rfl, p, _, 1, v2, rfl, rfl, hp, rfl, _, rfl, p, _, 2, w, rfl, rfl, hp, rfl, v, o, v2, o2, w, wo, rfl, hv, hvz, (fun H' s => hv2.same s), hvz2, (fun H' s => hw.same s), fun c1 c2 c3 => ?_, fun c1 H' s => ?_, fun c1 c2 H' s => ?_, fun c1 c2 c3 H' s => ?_⟩
    · obtain ⟨a, ns, e1, eo, hS1, hT1⟩ := hvt c1
      obtain ⟨b, ms, e2, eo2, hS2, hT2⟩ := hvt2 c2
      obtain ⟨wd, e3⟩ : ∃ wd, w = .int wd := by
        cases w <;> simp [isWidth, isIntV] at c3
        exact ⟨_, rfl⟩
      exact ⟨a, ns, b, ms, wd, e1, e2, e3, hS1, hT1, hS2, hT2, fun t H' _ s _ => fine (σ := []) (j := none) (D := ⟨fun _ _ => True, fun _ _ => True, fun _ _ => True, fun _ _ => True⟩) s (by unfold wChg; rw [if_neg (by rw [c1]; decide), if_neg (by rw [c2]; decide), if_neg (by rw [c3]; decide)])⟩
    · exact ⟨true, W.m_InvalidText_WrapCluesError, fun _ a na => ⟨_, rfl, bad "InvalidText" iText (by unfold wChg; rw [if_pos c1]; exact eText) H' s a na⟩, fun h => by cases h⟩
    · exact ⟨true, W.m_InvalidText_WrapCluesError, fun _ a na => ⟨_, rfl, bad "InvalidText" iText (by unfold wChg; rw [if_neg (by rw [c1]; decide), if_pos c2]; exact eText) H' s a na⟩, fun h => by cases h⟩
    · exact ⟨true, W.m_InvalidWidth_WrapCluesError, fun _ a na => ⟨_, rfl, bad "InvalidWidth" iWidth (by unfold wChg; rw [if_neg (by rw [c1]; decide), if_neg (by rw [c2]; decide), if_pos c3]; exact eWidth) H' s a na⟩, fun h => by cases h⟩
theorem ok__law_told_named {f : Addr} {fd : FuncData} (F : FnP K "_law_told_named" (top 47) [] f fd) (W : Wd K mg) (cK_wrap_from_word_width_text : CalK P w K mg base (L2.CX P w) 6 "wrap_from" ["text", "width", "word"] ["word", "width", "text"] [2, 1, 0] (sp_wrap_from K)) (cK_meeting_word_second_first_width_text : CalK P w K mg base (L2.CX P w) 5 "meeting_word" ["text", "width", "first", "second"] ["second", "first", "width", "text"] [3, 2, 1, 0] (sp_meeting_word K)) (cK_replace_words_words_count_first_text : CalK P w K mg base (L2.CX P w) 5 "replace_words" ["text", "first", "count", "words"] ["words", "count", "first", "text"] [3, 2, 1, 0] (sp_replace_words K)) (cK_changed_lines_width_other_text : CalK P w K mg base (L2.CX P w) 6 "changed_lines" ["text", "other", "width"] ["width", "other", "text"] [2, 1, 0] (sp_changed_lines K)) (c__law_word_of : CalW P w K mg base 1 "_law_word_of" ["e"] (sp__law_word_of K)) : FnOk P w K mg base CX0 7 f fd ["door", "parts"] (sp__law_told_named K) := by
  refine FunD.ok F sc__law_told_named (fun vs H Q E h => ?len) (fun cdv A outer s H vs Q E hr h => ?_)
  case len =>
    obtain ⟨d, p, xs, os, rfl, _⟩ := h
    rfl
  refine ⟨_, PSs.nox (pss_cons (ps_try_lay (i := 2) rfl rfl rfl sc__law_told_named.nd rfl rfl ⟨rfl, by decide, .inl W.x_WrapCluesError.g⟩ takes0 (fun Wx pn xe tk po => (pss_one (ps_if (pt_cmpR op_eq (pv 0) pe_int (nomark _)) (pss_one (ps_expr (pe_calKS cK_wrap_from_word_width_text (hr.mono (by decide)) (fun σ => passAt tk σ) (pk_cons (pe_ix (kIx (K := K) rfl) (pv 1) pe_int (fun _ _ => rfl)) (pk_cons (pe_ix (kIx (K := K) rfl) (pv 1) pe_int (fun _ _ => rfl)) (pk_cons (pe_ix (kIx (K := K) rfl) (pv 1) pe_int (fun _ _ => rfl)) pk_nil)))))) (pss_one (ps_if (pt_cmpR op_eq (pv 0) pe_int (nomark _)) (pss_one (ps_expr (pe_calKS cK_meeting_word_second_first_width_text (hr.mono (by decide)) (fun σ => passAt tk σ) (pk_cons (pe_ix (kIx (K := K) rfl) (pv 1) pe_int (fun _ _ => rfl)) (pk_cons (pe_ix (kIx (K := K) rfl) (pv 1) pe_int (fun _ _ => rfl)) (pk_cons (pe_ix (kIx (K := K) rfl) (pv 1) pe_int (fun _ _ => rfl)) (pk_cons (pe_ix (kIx (K := K) rfl) (pv 1) pe_int (fun _ _ => rfl)) pk_nil))))))) (pss_one (ps_if (pt_cmpR op_eq (pv 0) pe_int (nomark _)) (pss_one (ps_expr (pe_calKS cK_replace_words_words_count_first_text (hr.mono (by decide)) (fun σ => passAt tk σ) (pk_cons (pe_ix (kIx (K := K) rfl) (pv 1) pe_int (fun _ _ => rfl)) (pk_cons (pe_ix (kIx (K := K) rfl) (pv 1) pe_int (fun _ _ => rfl)) (pk_cons (pe_ix (kIx (K := K) rfl) (pv 1) pe_int (fun _ _ => rfl)) (pk_cons (pe_ix (kIx (K := K) rfl) (pv 1) pe_int (fun _ _ => rfl)) pk_nil))))))) (pss_one (ps_expr (pe_calKS cK_changed_lines_width_other_text (hr.mono (by decide)) (fun σ => passAt tk σ) (pk_cons (pe_ix (kIx (K := K) rfl) (pv 1) pe_int (fun _ _ => rfl)) (pk_cons (pe_ix (kIx (K := K) rfl) (pv 1) pe_int (fun _ _ => rfl)) (pk_cons (pe_ix (kIx (K := K) rfl) (pv 1) pe_int (fun _ _ => rfl)) pk_nil))))))))))))) (fun a_ cls_ d_ pn_ => (pss_one (ps_ret (pe_calW c__law_word_of (roomW (hr.mono (by decide)) _) (pa_cons (pv 2) pa_nil))))))
  (pss_one (ps_ret pe_str))), ?_⟩
  obtain ⟨d, p, xs, os, rfl, d0, d3, hp, hP, q⟩ := h
  have hz : sizeLine = 16777216 := by decide
  unfold tTryL
  have fine : ∀ {σ : L2.St} {j : Option V} {D : Ends} {H' : Hp}, Same H H' → wordFor d xs os = "fine" → Q (.str "fine") H' := fun s e => by
    have := q _ s
    rwa [e] at this
  have bad : ∀ (x : Str), x ∈ (["InvalidIndex", "InvalidLengths", "InvalidNumber", "InvalidText", "InvalidWidth"] : List Str) → wordFor d xs os = wordOf x → ∀ H', Same H H' → ∀ a, H' a = none → sp__law_word_of K [.ref a] (upd H' a (ExR (xc K x) none a)) Q E0 := fun x hx e H' s a na => ⟨a, x, rfl, upd_same, hx, fun H2 s2 => by
    have := q H2 ((s.trans (same_new na)).trans s2)
    rwa [e] at this⟩
  have iText : ("InvalidText" : Str) ∈ (["InvalidIndex", "InvalidLengths", "InvalidNumber", "InvalidText", "InvalidWidth"] : List Str) := by decide +kernel
  have iWidth : ("InvalidWidth" : Str) ∈ (["InvalidIndex", "InvalidLengths", "InvalidNumber", "InvalidText", "InvalidWidth"] : List Str) := by decide +kernel
  have iIndex : ("InvalidIndex" : Str) ∈ (["InvalidIndex", "InvalidLengths", "InvalidNumber", "InvalidText", "InvalidWidth"] : List Str) := by decide +kernel
  have iNumber : ("InvalidNumber" : Str) ∈ (["InvalidIndex", "InvalidLengths", "InvalidNumber", "InvalidText", "InvalidWidth"] : List Str) := by decide +kernel
  have iLengths : ("InvalidLengths" : Str) ∈ (["InvalidIndex", "InvalidLengths", "InvalidNumber", "InvalidText", "InvalidWidth"] : List Str) := by decide +kernel
  have eText : ("text" : Str) = wordOf "InvalidText" := by decide +kernel
  have eWidth : ("width" : Str) = wordOf "InvalidWidth" := by decide +kernel
  have eIndex : ("index" : Str) = wordOf "InvalidIndex" := by decide +kernel
  have eNumber : ("number" : Str) = wordOf "InvalidNumber" := by decide +kernel
  have eLengths : ("lengths" : Str) = wordOf "InvalidLengths" := by decide +kernel
  rcases hP with ⟨rfl, v, w, x, o, wo, xo, rfl, rfl, ⟨hv, hvz, hvt⟩, hw, hx⟩ | ⟨rfl, v, w, x, y, o, wo, xo, yo, rfl, rfl, ⟨hv, hvz, hvt⟩, hw, hx, hy⟩ | ⟨rfl, v, f, c, w, o, fo, co, wo, rfl, rfl, ⟨hv, hvz, hvt⟩, hf, hc, hw, hwl⟩ | ⟨rfl, v, v2, w, o, o2, wo, rfl, rfl, ⟨hv, hvz, hvt⟩, ⟨hv2, hvz2, hvt2⟩, hw⟩
  · have e0 : wordFor 0 [v, w, x] [o, wo, xo] = wFrom w x o := rfl
    rw [e0] at fine bad
    refine ⟨_, rfl, rfl, _, rfl, ifT (eqT rfl) ?_⟩
    refine ⟨_, rfl, p, _, 2, x, rfl, rfl, hp, rfl, _, rfl, p, _, 1, w, rfl, rfl, hp, rfl, _, rfl, p, _, 0, v, rfl, rfl, hp, rfl, rfl, v, o, w, wo, x, xo, rfl, hv, hvz, (fun H' s => hw.same s), (fun H' s => hx.same s), fun c1 c2 => ?_, fun c1 H' s => ?_, fun c1 c2 H' s => ?_⟩
    · obtain ⟨a, ns, e1, eo, hS1, hT1⟩ := hvt c1
      obtain ⟨wd, e2⟩ : ∃ wd, w = .int wd := by
        cases w <;> simp [isWidth, isIntV] at c2
        exact ⟨_, rfl⟩
      have en : (nOf o).toNat = ns.length := by rw [eo, nOf_ints, Int.toNat_natCast]
      refine ⟨a, ns, wd, e1, e2, hS1, hT1, fun c3 => ?_, fun c3 H' s => ?_⟩
      · obtain ⟨i, ei⟩ : ∃ i, x = .int i := by
          cases x <;> simp [isWord, isIntV] at c3
          exact ⟨_, rfl⟩
        exact ⟨i, ei, fun p' H' _ s _ => fine (σ := []) (j := none) (D := ⟨fun _ _ => True, fun _ _ => True, fun _ _ => True, fun _ _ => True⟩) s (by unfold wFrom; rw [if_neg (by rw [c1]; decide), if_neg (by rw [c2]; decide), en, if_neg (by rw [c3]; decide)])⟩
      · exact ⟨true, W.m_InvalidIndex_WrapCluesError, fun _ a na => ⟨_, rfl, bad "InvalidIndex" iIndex (by unfold wFrom; rw [if_neg (by rw [c1]; decide), if_neg (by rw [c2]; decide), en, if_pos c3]; exact eIndex) H' s a na⟩, fun h => by cases h⟩
    · exact ⟨true, W.m_InvalidText_WrapCluesError, fun _ a na => ⟨_, rfl, bad "InvalidText" iText (by unfold wFrom; rw [if_pos c1]; exact eText) H' s a na⟩, fun h => by cases h⟩
    · exact ⟨true, W.m_InvalidWidth_WrapCluesError, fun _ a na => ⟨_, rfl, bad "InvalidWidth" iWidth (by unfold wFrom; rw [if_neg (by rw [c1]; decide), if_pos c2]; exact eWidth) H' s a na⟩, fun h => by cases h⟩
  · have e0 : wordFor 1 [v, w, x, y] [o, wo, xo, yo] = wMeet w x y o := rfl
    rw [e0] at fine bad
    refine ⟨_, rfl, rfl, _, rfl, ifF (eqF (by decide)) ⟨_, rfl, rfl, _, rfl, ifT (eqT rfl) ?_⟩⟩
    refine ⟨_, rfl, p, _, 3, y, rfl, rfl, hp, rfl, _, rfl, p, _, 2, x, rfl, rfl, hp, rfl, _, rfl, p, _, 1, w, rfl, rfl, hp, rfl, _, rfl, p, _, 0, v, rfl, rfl, hp, rfl, rfl, v, o, w, wo, x, xo, y, yo, rfl, hv, hvz, (fun H' s => hw.same s), (fun H' s => hx.same s), (fun H' s => hy.same s), fun c1 c2 => ?_, fun c1 H' s => ?_, fun c1 c2 H' s => ?_⟩
    · obtain ⟨a, ns, e1, eo, hS1, hT1⟩ := hvt c1
      obtain ⟨wd, e2⟩ : ∃ wd, w = .int wd := by
        cases w <;> simp [isWidth, isIntV] at c2
        exact ⟨_, rfl⟩
      have en : (nOf o).toNat = ns.length := by rw [eo, nOf_ints, Int.toNat_natCast]
      refine ⟨a, ns, wd, e1, e2, hS1, hT1, fun c3 c4 => ?_, fun c3 H' s => ?_⟩
      · obtain ⟨i, ei⟩ : ∃ i, x = .int i := by
          cases x <;> simp [isWord, isIntV] at c3
          exact ⟨_, rfl⟩
        obtain ⟨j, ej⟩ : ∃ i, y = .int i := by
          cases y <;> simp [isWord, isIntV] at c4
          exact ⟨_, rfl⟩
        exact ⟨i, j, ei, ej, fun H' s => fine (σ := []) (j := none) (D := ⟨fun _ _ => True, fun _ _ => True, fun _ _ => True, fun _ _ => True⟩) s (by unfold wMeet; rw [if_neg (by rw [c1]; decide), if_neg (by rw [c2]; decide), en, if_neg (by rw [c3, c4]; decide)])⟩
      · exact ⟨true, W.m_InvalidIndex_WrapCluesError, fun _ a na => ⟨_, rfl, bad "InvalidIndex" iIndex (by unfold wMeet; rw [if_neg (by rw [c1]; decide), if_neg (by rw [c2]; decide), en, if_pos c3]; exact eIndex) H' s a na⟩, fun h => by cases h⟩
    · exact ⟨true, W.m_InvalidText_WrapCluesError, fun _ a na => ⟨_, rfl, bad "InvalidText" iText (by unfold wMeet; rw [if_pos c1]; exact eText) H' s a na⟩, fun h => by cases h⟩
    · exact ⟨true, W.m_InvalidWidth_WrapCluesError, fun _ a na => ⟨_, rfl, bad "InvalidWidth" iWidth (by unfold wMeet; rw [if_neg (by rw [c1]; decide), if_pos c2]; exact eWidth) H' s a na⟩, fun h => by cases h⟩
  · have e0 : wordFor 2 [v, f, c, w] [o, fo, co, wo] = wRepl f c o wo := rfl
    rw [e0] at fine bad
    refine ⟨_, rfl, rfl, _, rfl, ifF (eqF (by decide)) ⟨_, rfl, rfl, _, rfl, ifF (eqF (by decide)) ⟨_, rfl, rfl, _, rfl, ifT (eqT rfl) ?_⟩⟩⟩
    refine ⟨_, rfl, p, _, 3, w, rfl, rfl, hp, rfl, _, rfl, p, _, 2, c, rfl, rfl, hp, rfl, _, rfl, p, _, 1, f, rfl, rfl, hp, rfl, _, rfl, p, _, 0, v, rfl, rfl, hp, rfl, rfl, v, o, f, fo, c, co, w, wo, rfl, hv, hvz, (fun H' s => hf.same s), (fun H' s => hc.same s), (fun H' s => hw.same s), hwl, fun c1 => ?_, fun c1 H' s => ?_⟩
    · obtain ⟨a, ns, e1, eo, hS1, hT1⟩ := hvt c1
      have en : nOf o = ns.length := by rw [eo, nOf_ints]
      have ei : intsD o = ns := by rw [eo, intsD_ints]
      refine ⟨a, ns, e1, hS1, hT1, fun c2 H' s => ?_, fun fi ef c2 => ⟨fun c3 H' s => ?_, fun ci ec c3 => ⟨fun c4 H' s => ?_, fun t c4 p' H' _ s _ => ?_⟩⟩⟩
      · exact ⟨true, W.m_InvalidIndex_WrapCluesError, fun _ a na => ⟨_, rfl, bad "InvalidIndex" iIndex (by unfold wRepl; rw [if_neg (by rw [c1]; decide), en, if_pos c2]; exact eIndex) H' s a na⟩, fun h => by cases h⟩
      · exact ⟨true, W.m_InvalidNumber_WrapCluesError, fun _ a na => ⟨_, rfl, bad "InvalidNumber" iNumber (by subst ef; unfold wRepl; rw [if_neg (by rw [c1]; decide), en, if_neg (by rw [c2]; decide), if_pos (show isIntV c 0 (.int ((ns.length : Int) - iOf (.int fi))) = false from c3)]; exact eNumber) H' s a na⟩, fun h => by cases h⟩
      · exact ⟨true, W.m_InvalidLengths_WrapCluesError, fun _ a na => ⟨_, rfl, bad "InvalidLengths" iLengths (by subst ef; subst ec; unfold wRepl; rw [if_neg (by rw [c1]; decide), en, if_neg (by rw [c2]; decide), if_neg (by rw [show isIntV (.int ci) 0 (.int ((ns.length : Int) - iOf (.int fi))) = true from c3]; decide), ei, if_pos (show replOf ns (iOf (.int fi)).toNat (iOf (.int ci)).toNat wo = none from c4)]; exact eLengths) H' s a na⟩, fun h => by cases h⟩
      · exact fine (σ := []) (j := none) (D := ⟨fun _ _ => True, fun _ _ => True, fun _ _ => True, fun _ _ => True⟩) s (by subst ef; subst ec; unfold wRepl; rw [if_neg (by rw [c1]; decide), en, if_neg (by rw [c2]; decide), if_neg (by rw [show isIntV (.int ci) 0 (.int ((ns.length : Int) - iOf (.int fi))) = true from c3]; decide), ei, if_neg (by rw [show replOf ns (iOf (.int fi)).toNat (iOf (.int ci)).toNat wo = some t from c4]; exact fun h => by cases h)])
    · exact ⟨true, W.m_InvalidText_WrapCluesError, fun _ a na => ⟨_, rfl, bad "InvalidText" iText (by unfold wRepl; rw [if_pos c1]; exact eText) H' s a na⟩, fun h => by cases h⟩
  · have e0 : wordFor 3 [v, v2, w] [o, o2, wo] = wChg w o o2 := rfl
    rw [e0] at fine bad
    refine ⟨_, rfl, rfl, _, rfl, ifF (eqF (by decide)) ⟨_, rfl, rfl, _, rfl, ifF (eqF (by decide)) ⟨_, rfl, rfl, _, rfl, ifF (eqF (by decide)) ?_⟩⟩⟩
    refine ⟨_, rfl, p, _, 2, w, rfl, rfl, hp, rfl, _, rfl, p, _, 1, v2, rfl, rfl, hp, rfl, _, rfl, p, _, 0, v, rfl, rfl, hp, rfl, rfl, v, o, v2, o2, w, wo, rfl, hv, hvz, (fun H' s => hv2.same s), hvz2, (fun H' s => hw.same s), fun c1 c2 c3 => ?_, fun c1 H' s => ?_, fun c1 c2 H' s => ?_, fun c1 c2 c3 H' s => ?_⟩
    · obtain ⟨a, ns, e1, eo, hS1, hT1⟩ := hvt c1
      obtain ⟨b, ms, e2, eo2, hS2, hT2⟩ := hvt2 c2
      obtain ⟨wd, e3⟩ : ∃ wd, w = .int wd := by
        cases w <;> simp [isWidth, isIntV] at c3
        exact ⟨_, rfl⟩
      exact ⟨a, ns, b, ms, wd, e1, e2, e3, hS1, hT1, hS2, hT2, fun t H' _ s _ => fine (σ := []) (j := none) (D := ⟨fun _ _ => True, fun _ _ => True, fun _ _ => True, fun _ _ => True⟩) s (by unfold wChg; rw [if_neg (by rw [c1]; decide), if_neg (by rw [c2]; decide), if_neg (by rw [c3]; decide)])⟩
    · exact ⟨true, W.m_InvalidText_WrapCluesError, fun _ a na => ⟨_, rfl, bad "InvalidText" iText (by unfold wChg; rw [if_pos c1]; exact eText) H' s a na⟩, fun h => by cases h⟩
    · exact ⟨true, W.m_InvalidText_WrapCluesError, fun _ a na => ⟨_, rfl, bad "InvalidText" iText (by unfold wChg; rw [if_neg (by rw [c1]; decide), if_pos c2]; exact eText) H' s a na⟩, fun h => by cases h⟩
    · exact ⟨true, W.m_InvalidWidth_WrapCluesError, fun _ a na => ⟨_, rfl, bad "InvalidWidth" iWidth (by unfold wChg; rw [if_neg (by rw [c1]; decide), if_neg (by rw [c2]; decide), if_pos c3]; exact eWidth) H' s a na⟩, fun h => by cases h⟩
theorem ok__law_no_plan {f : Addr} {fd : FuncData} (F : FnP K "_law_no_plan" (top 48) [] f fd) (W : Wd K mg) (c__law_draw : Cal P w K mg base CX0 1 "_law_draw" ["deck", "many"] [] (sp__law_draw K)) : FnOk P w K mg base CX0 2 f fd ["deck", "plan"] (sp__law_no_plan K) := by
  refine FunD.ok F sc__law_no_plan (fun vs H Q E h => ?len) (fun cdv A outer s H vs Q E hr h => ?_)
  case len =>
    obtain ⟨S, b, qs, n, w, ns, rfl, _⟩ := h
    rfl
  refine ⟨_, PSs.nox (pss_cons (ps_set (i := 2) sc__law_no_plan.nd rfl (.inl rfl) (pe_ix ix_list (pe_lst (pa_cons pe_int (pa_cons (pe_un un_neg pe_int) (pa_cons pe_bl (pa_cons pe_non (pa_cons pe_str (pa_cons (pe_lst (pa_cons pe_int pa_nil)) (pa_cons (pe_tup (pa_cons pe_int pa_nil)) (pa_cons pe_int pa_nil))))))))) (pe_cal c__law_draw (hr.mono (by decide)) pass0 (pa_cons (pv 0) (pa_cons pe_int pa_nil))) (fun _ _ => rfl)))
  (pss_cons (ps_set (i := 3) sc__law_no_plan.nd rfl (.inl rfl) (pe_cal c__law_draw (hr.mono (by decide)) pass0 (pa_cons (pv 0) (pa_cons (pe_op op_add (pe_callB call_len_seq (by rfl) W.n_len (by decide +kernel) (pa_cons (pv 1) pa_nil)) pe_int) pa_nil))))
  (pss_cons (ps_set (i := 4) sc__law_no_plan.nd rfl (.inl rfl) (pe_op op_cat (pe_op op_cat (pe_slice sl_list (pv 1) po_none (po_some (pv 3))) (pe_lst (pa_cons (pv 2) pa_nil))) (pe_slice sl_list (pv 1) (po_some (pv 3)) po_none)))
  (pss_one (ps_ret (pe_ix ix_list (pe_lst (pa_cons (pe_lst pa_nil) (pa_cons pe_non (pa_cons pe_int (pa_cons pe_str (pa_cons pe_dnewK (pa_cons (pe_callTy call_tuple_of (by rfl) W.n_tuple (by decide +kernel) (pa_cons (pv 1) pa_nil)) (pa_cons (pe_op op_rep (pe_lst (pa_cons pe_int pa_nil)) pe_int) (pa_cons pe_bl (pa_cons (pv 4) (pa_cons (pv 4) (pa_cons (pv 4) pa_nil)))))))))))) (pe_cal c__law_draw (hr.mono (by decide)) pass0 (pa_cons (pv 0) (pa_cons pe_int pa_nil))) (fun _ _ => rfl))))))), ?_⟩
  obtain ⟨S, b, qs, n, w, ns, rfl, hS, hbS, hD, hn, nw, hw, ht, q⟩ := h
  have hz : sizeLine = 16777216 := by decide
  have e30 : (2 : Nat) ^ 30 = 1073741824 := by decide
  have e40 : (2 : Nat) ^ 40 = 1099511627776 := by decide
  have e50 : (2 : Nat) ^ 50 = 1125899906842624 := by decide
  rw [e30] at hn
  have hlen := ht.len
  have hsm := ht.small
  -- odd
  refine sq_set (op_go ⟨_, rfl, (by show 1 ≤ sizeLine; decide), fun q1 n1 => ⟨(by show 1 ≤ sizeLine; decide), fun q2 n2 => ⟨(by show 8 ≤ sizeLine; decide), fun t nt => menu_end rfl ((hD.new n1).new n2) (by omega) nt rfl (by simp) (by simp) fun od H2 hod s2 D2 => ?_⟩⟩⟩)
  have nq1 : q1 ∉ S := hS.nin n1
  have nq2 : q2 ∉ S := Live.nin (Live.new hS n1) n2
  have g1 : (upd (upd H q1 (.lst [.int 5])) q2 (.tup [.int 5])) q1 = some (.lst [.int 5]) := at_new upd_same n2
  have g2 : (upd (upd H q1 (.lst [.int 5])) q2 (.tup [.int 5])) q2 = some (.tup [.int 5]) := upd_same
  have s0 : Same H (upd (upd H q1 (.lst [.int 5])) q2 (.tup [.int 5])) := (same_new n1).trans (same_new n2)
  have hodd : ∃ d, (∀ H', SameS S H2 H' → Dp K H' od d) ∧ OddD d := by
    simp only [List.mem_cons, List.not_mem_nil, or_false] at hod
    rcases hod with rfl | rfl | rfl | rfl | rfl | rfl | rfl | rfl
    · exact ⟨.int 0, fun _ _ => .int _, odd_0⟩
    · exact ⟨.int (-1), fun _ _ => .int _, ⟨.inl rfl, by decide +kernel, by decide, by decide, by decide +kernel⟩⟩
    · exact ⟨.bool true, fun _ _ => .bl _, odd_T⟩
    · exact ⟨.none, fun _ _ => .non, odd_N⟩
    · exact ⟨.str "5", fun _ _ => .str _, ⟨.inl rfl, by decide +kernel, by decide +kernel, by decide +kernel, by decide +kernel⟩⟩
    · exact ⟨.list [.int 5], fun H' s => .lst (.inl (.inl (((s2.mem hbS).trans s).at nq1 g1))) (.cons (.int _) .nil), ⟨.inl rfl, by decide +kernel, by decide +kernel, by decide +kernel, by decide +kernel⟩⟩
    · exact ⟨.tuple [.int 5], fun H' s => .tup (.inl (.inl (((s2.mem hbS).trans s).at nq2 g2))) (.cons (.int _) .nil), ⟨.inl rfl, by decide +kernel, by decide +kernel, by decide +kernel, by decide +kernel⟩⟩
    · exact ⟨.int 601, fun _ _ => .int _, ⟨.inr ⟨601, rfl, by decide⟩, by decide +kernel, by decide, by decide, by decide +kernel⟩⟩
  obtain ⟨dd, hdd, hod2⟩ := hodd
  have hw2 : IL H2 w ns := s2.il nw (hw.same s0)
  have hS2 : Live S H2 := (hS.same s0).deck s2 D2
  have s02 : SameS (b :: qs) H H2 := (SameS.of s0).trans s2
  clear hod g1 g2 s0 s2 nt n1 n2 nq1 nq2 hD hw
  -- at
  refine sq_set ⟨_, rfl, _, rfl, w, _, rfl, .inl hw2.seq, _, _, rfl, rfl, b, qs, _, _, rfl, D2, by omega, by rw [List.length_map]; omega, .inl (by rw [List.length_map]; omega), fun at_ H3 a0 a1 D3 s3 => ?_⟩
  rw [List.length_map] at a1
  have hw3 : IL H3 w ns := s3.il nw hw2
  have s03 := s02.trans s3
  have hS3 : Live S H3 := hS2.deck s3 D3
  have hdd3 : ∀ H', SameS S H3 H' → Dp K H' od dd := fun H' s => hdd H' ((s3.mem hbS).trans s)
  clear hw2 s02 D2 hdd
  try dsimp only
  -- whole
  refine sq_set (op_go (op_go ⟨_, rfl, _, rfl, _, rfl, w, _, rfl, hw3.seq, fun x1 nx1 => ⟨_, rfl, (by show 1 ≤ sizeLine; decide), fun x2 nx2 => ⟨x1, x2, _, _, rfl, rfl, at_new upd_same nx2, upd_same, ?_, fun x3 nx3 => ⟨_, rfl, _, rfl, _, rfl, w, _, rfl, (((hw3.new nx1).new nx2).new nx3).seq, fun x4 nx4 => ⟨x3, x4, _, _, rfl, rfl, at_new upd_same nx4, upd_same, ?_, fun x5 nx5 => ?_⟩⟩⟩⟩⟩))
  · rw [cutV_map, List.length_map, cutL_to _ _ a0, List.length_take]
    show _ + 1 ≤ _
    omega
  · rw [List.length_append, cutV_map, cutV_map, List.length_map, List.length_map, cutL_to _ _ a0, cutL_from _ _ a0, List.length_take, List.length_drop]
    show _ + 1 + _ ≤ _
    omega
  have s5 : Same H3 (upd (upd (upd (upd (upd H3 x1 (.lst (cutV (iV ns) none (some at_)))) x2 (.lst [od])) x3 (.lst (cutV (iV ns) none (some at_) ++ [od]))) x4 (.lst (cutV (iV ns) (some at_) none))) x5 (.lst (cutV (iV ns) none (some at_) ++ [od] ++ cutV (iV ns) (some at_) none))) := ((((same_new nx1).trans (same_new nx2)).trans (same_new nx3)).trans (same_new nx4)).trans (same_new nx5)
  have e5 : (upd (upd (upd (upd (upd H3 x1 (.lst (cutV (iV ns) none (some at_)))) x2 (.lst [od])) x3 (.lst (cutV (iV ns) none (some at_) ++ [od]))) x4 (.lst (cutV (iV ns) (some at_) none))) x5 (.lst (cutV (iV ns) none (some at_) ++ [od] ++ cutV (iV ns) (some at_) none))) x5 = some (.lst (iV (ns.take at_.toNat) ++ [od] ++ iV (ns.drop at_.toNat))) := by
    rw [upd_same, cutV_map, cutV_map, cutL_to _ _ a0, cutL_from _ _ a0]
  have nx5S : x5 ∉ S := (hS3.same ((((same_new nx1).trans (same_new nx2)).trans (same_new nx3)).trans (same_new nx4))).nin nx5
  generalize upd (upd (upd (upd (upd H3 x1 (.lst (cutV (iV ns) none (some at_)))) x2 (.lst [od])) x3 (.lst (cutV (iV ns) none (some at_) ++ [od]))) x4 (.lst (cutV (iV ns) (some at_) none))) x5 (.lst (cutV (iV ns) none (some at_) ++ [od] ++ cutV (iV ns) (some at_) none)) = H5 at s5 e5 ⊢
  clear nx5 nx4 nx3 nx2 nx1
  have hw5 := hw3.same s5
  have D5 := D3.same s5
  have hS5 := hS3.same s5
  have s05 := s03.trans (SameS.of s5)
  have hdd5 : ∀ H', SameS S H5 H' → Dp K H' od dd := fun H' s => hdd3 H' ((SameS.of s5).trans s)
  clear hw3 D3 s03 hdd3 s5
  try dsimp only
  -- the menu
  refine rt_ret (op_go ⟨Nat.zero_le _, fun m1 o1 => fun m2 o2 => ⟨_, rfl, w, _, rfl, .inl ⟨((hw5.new o1).new o2).seq, fun m3 o3 => ⟨(by show 1 ≤ sizeLine; decide), fun m4 o4 => ⟨m4, 301, _, rfl, rfl, upd_same, by decide, by decide, (by show 1 * 301 ≤ sizeLine; decide), fun m5 o5 => ⟨_, rfl, _, rfl, _, rfl, (by show 11 ≤ sizeLine; decide), fun t nt => menu_end rfl (((((D5.new o1).new o2).new o3).new o4).new o5) (by omega) nt rfl (by simp) (by simp) fun v H6 hv s6 D6 => ?_⟩⟩⟩⟩⟩⟩)
  have s56 : Same H5 (upd (upd (upd (upd (upd H5 m1 (.lst [])) m2 (.dK [])) m3 (.tup (iV ns))) m4 (.lst [.int 1])) m5 (.lst (List.replicate (Int.toNat 301) [V.int 1]).flatten)) := ((((same_new o1).trans (same_new o2)).trans (same_new o3)).trans (same_new o4)).trans (same_new o5)
  have f1 : (upd (upd (upd (upd (upd H5 m1 (.lst [])) m2 (.dK [])) m3 (.tup (iV ns))) m4 (.lst [.int 1])) m5 (.lst (List.replicate (Int.toNat 301) [V.int 1]).flatten)) m1 = some (.lst []) := (((at_new (at_new (at_new (at_new upd_same o2) o3) o4) o5)))
  have f2 : (upd (upd (upd (upd (upd H5 m1 (.lst [])) m2 (.dK [])) m3 (.tup (iV ns))) m4 (.lst [.int 1])) m5 (.lst (List.replicate (Int.toNat 301) [V.int 1]).flatten)) m2 = some (.dK []) := ((at_new (at_new (at_new upd_same o3) o4) o5))
  have f3 : (upd (upd (upd (upd (upd H5 m1 (.lst [])) m2 (.dK [])) m3 (.tup (iV ns))) m4 (.lst [.int 1])) m5 (.lst (List.replicate (Int.toNat 301) [V.int 1]).flatten)) m3 = some (.tup (iV ns)) := (at_new (at_new upd_same o4) o5)
  have e301 : (List.replicate (Int.toNat 301) [V.int 1]).flatten = iV (List.replicate 301 1) := by decide +kernel
  have f5 : (upd (upd (upd (upd (upd H5 m1 (.lst [])) m2 (.dK [])) m3 (.tup (iV ns))) m4 (.lst [.int 1])) m5 (.lst (List.replicate (Int.toNat 301) [V.int 1]).flatten)) m5 = some (.lst (iV (List.replicate 301 1))) := by
    rw [upd_same, e301]
  have nm1 := hS5.nin o1
  have nm2 := Live.nin (Live.new hS5 o1) o2
  have nm3 := Live.nin (Live.new (Live.new hS5 o1) o2) o3
  have nm5 := Live.nin (Live.new (Live.new (Live.new (Live.new hS5 o1) o2) o3) o4) o5
  refine q v H6 ((s05.trans (SameS.of s56)).trans s6) (D6.mono (by omega)) ?_
  refine AsB.on ?_ (s6.mem hbS)
  simp only [List.mem_cons, List.not_mem_nil, or_false] at hv
  have mid := asB_mid (k := .text) (n := 0) (fun H' s => hdd5 H' ((SameS.of s56).trans s)) hod2 (s56 _ _ e5) nx5S (fun m hm => hsm m (by rw [← List.take_append_drop at_.toNat ns]; exact hm)) (by rw [List.length_take, List.length_drop]; omega) (len_odd hod2 (by simp))
  rcases hv with rfl | rfl | rfl | rfl | rfl | rfl | rfl | rfl | rfl | rfl | rfl
  · exact asB_ints (ns := []) f1 nm1 (fun _ h => by cases h) (by decide) (show areLengths (some (.list [])) = false from by decide +kernel)
  · exact asB_flat (d := .none) (fun _ => .non) (by decide +kernel) (by intro ds h; cases h) (by decide +kernel) (by decide +kernel) (by decide +kernel) rfl
  · exact asB_flat (d := .int 5) (fun _ => .int _) (by decide +kernel) (by intro ds h; cases h) (by decide +kernel) (by decide +kernel) (by decide +kernel) rfl
  · exact asB_flat (d := .str "5") (fun _ => .str _) (by decide +kernel) (by intro ds h; cases h) (by decide +kernel) (by decide +kernel) (by decide +kernel) rfl
  · exact asB_dct f2 nm2 rfl
  · exact asB_tup f3 nm3 hsm (by omega) rfl
  · refine asB_ints (ns := List.replicate 301 1) f5 nm5 (ints_small (B := 10) (by decide) (by decide +kernel)) (by decide +kernel) ?_
    show areLengths (some (.list ((List.replicate 301 (1 : Int)).map .int))) = false
    cases c : areLengths (some (.list ((List.replicate 301 (1 : Int)).map .int))) with
    | false => rfl
    | true => exact absurd ((areLengths_ints _).mp c).2.2 (by decide +kernel)
  · exact asB_flat (d := .bool true) (fun _ => .bl _) (by decide +kernel) (by intro ds h; cases h) (by decide +kernel) (by decide +kernel) (by decide +kernel) rfl
  · exact mid
  · exact mid
  · exact mid
theorem ok__law_bad {f : Addr} {fd : FuncData} (F : FnP K "_law_bad" (top 49) [] f fd) (W : Wd K mg) (c__law_draw : Cal P w K mg base CX0 1 "_law_draw" ["deck", "many"] [] (sp__law_draw K)) (c__law_no_plan : Cal P w K mg base CX0 2 "_law_no_plan" ["deck", "plan"] [] (sp__law_no_plan K)) : FnOk P w K mg base CX0 3 f fd ["deck", "kind", "plan"] (sp__law_bad K) := by
  refine FunD.ok F sc__law_bad (fun vs H Q E h => ?len) (fun cdv A outer s H vs Q E hr h => ?_)
  case len =>
    obtain ⟨S, b, qs, n, k, w, ns, rfl, _⟩ := h
    rfl
  refine ⟨_, PSs.nox (pss_cons (ps_if (pt_cmpR op_eq (pv 1) pe_str (nomark _)) (pss_one (ps_ret (pe_cal c__law_no_plan (hr.mono (by decide)) pass0 (pa_cons (pv 0) (pa_cons (pv 2) pa_nil))))) pss_nil)
  (pss_cons (ps_if (pt_cmpR op_eq (pv 1) pe_str (nomark _)) (pss_one (ps_ret (pe_ix ix_list (pe_lst (pa_cons pe_int (pa_cons (pe_un un_neg pe_int) (pa_cons pe_int (pa_cons pe_non (pa_cons pe_bl (pa_cons pe_str (pa_cons (pe_lst (pa_cons pe_int pa_nil)) (pa_cons (pe_op op_powW (pe_op op_powW pe_int pe_int) pe_int) pa_nil))))))))) (pe_cal c__law_draw (hr.mono (by decide)) pass0 (pa_cons (pv 0) (pa_cons pe_int pa_nil))) (fun _ _ => rfl)))) pss_nil)
  (pss_cons (ps_if (pt_cmpR op_eq (pv 1) pe_str (nomark _)) (pss_cons (ps_set (i := 3) sc__law_bad.nd rfl (.inl rfl) (pe_ix ix_list (pe_lst (pa_cons pe_int (pa_cons (pe_un un_neg pe_int) (pa_cons pe_bl (pa_cons pe_non (pa_cons pe_str (pa_cons (pe_lst (pa_cons pe_int pa_nil)) (pa_cons pe_int pa_nil)))))))) (pe_cal c__law_draw (hr.mono (by decide)) pass0 (pa_cons (pv 0) (pa_cons pe_int pa_nil))) (fun _ _ => rfl)))
  (pss_cons (ps_setLc (i := 4) (own := [("step", 7)]) (g := (gName 7)) (by rfl) sc__law_bad.nd rfl rfl (sw_true rfl rfl rfl (by decide +kernel)) (pi_range1 (by rfl) W.n_range (pa_cons (pe_cal c__law_draw (hr.mono (by decide)) pass0 (pa_cons (pv 0) (pa_cons pe_int pa_nil))) pa_nil)) (blkOk_by (own := [("step", 7)]) (N := ["deck", "kind", "plan", "odd", "good", "at", "inside", "step"]) (sc := defScope (top 49)) (by decide +kernel)) (fun _ _ _ _ _ => (pg_name (i := 7) sc__law_bad.nd rfl (Or.inl rfl))) (fun _ _ _ _ _ => pts_nil) (fun _ _ _ _ _ => (pe_op op_add pe_int (pe_cal c__law_draw (hr.mono (by decide)) pass0 (pa_cons (pv 0) (pa_cons pe_int pa_nil))))))
  (pss_cons (ps_set (i := 5) sc__law_bad.nd rfl (.inl rfl) (pe_cal c__law_draw (hr.mono (by decide)) pass0 (pa_cons (pv 0) (pa_cons (pe_op op_add (pe_callB call_len_seq (by rfl) W.n_len (by decide +kernel) (pa_cons (pv 4) pa_nil)) pe_int) pa_nil))))
  (pss_cons (ps_set (i := 6) sc__law_bad.nd rfl (.inl rfl) (pe_op op_cat (pe_op op_cat (pe_slice sl_list (pv 4) po_none (po_some (pv 5))) (pe_lst (pa_cons (pv 3) pa_nil))) (pe_slice sl_list (pv 4) (po_some (pv 5)) po_none)))
  (pss_one (ps_ret (pe_ix ix_list (pe_lst (pa_cons pe_non (pa_cons pe_int (pa_cons (pe_tup (pa_cons pe_int (pa_cons pe_int pa_nil))) (pa_cons pe_dnewK (pa_cons pe_str (pa_cons pe_bl (pa_cons (pv 6) (pa_cons (pv 6) (pa_cons (pv 6) (pa_cons (pv 6) pa_nil))))))))))) (pe_cal c__law_draw (hr.mono (by decide)) pass0 (pa_cons (pv 0) (pa_cons pe_int pa_nil))) (fun _ _ => rfl)))))))) pss_nil)
  (pss_one (ps_ret (pe_ix ix_list (pe_lst (pa_cons (pe_un un_neg pe_int) (pa_cons (pe_op op_add (pe_callB call_len_seq (by rfl) W.n_len (by decide +kernel) (pa_cons (pv 2) pa_nil)) pe_int) (pa_cons pe_non (pa_cons pe_bl (pa_cons pe_bl (pa_cons pe_str (pa_cons (pe_lst (pa_cons pe_int pa_nil)) (pa_cons (pe_op op_powW (pe_op op_powW pe_int pe_int) pe_int) pa_nil))))))))) (pe_cal c__law_draw (hr.mono (by decide)) pass0 (pa_cons (pv 0) (pa_cons pe_int pa_nil))) (fun _ _ => rfl))))))), ?_⟩
  obtain ⟨S, b, qs, n, k, w, ns, rfl, hS, hbS, hD, hn, nw, hw, ht, q⟩ := h
  have hz : sizeLine = 16777216 := by decide
  have e30 : (2 : Nat) ^ 30 = 1073741824 := by decide
  have e40 : (2 : Nat) ^ 40 = 1099511627776 := by decide
  have e50 : (2 : Nat) ^ 50 = 1125899906842624 := by decide
  rw [e30] at hn
  have hlen := ht.len
  have hbig : ((((10 : Int) ^ (53 : Int).toNat) ^ (3 : Int).toNat)).natAbs < 2 ^ 1000 := by decide +kernel
  -- text
  by_cases c1 : k = .text
  · subst c1
    refine sq_if0 ⟨_, rfl, rfl, _, rfl, ifT (eqT rfl) ?_⟩
    exact rt_ret ⟨_, rfl, _, rfl, S, b, qs, n, w, ns, rfl, hS, hbS, hD, by omega, nw, hw, ht, fun v H' s D a => q v H' s (D.mono (by omega)) a.text⟩
  have n1 : Kd.name k ≠ "text" := by
    cases k <;> first | exact (c1 rfl).elim | decide +kernel
  refine sq_no (fun H' => H = H') (fun Q' k' => ⟨_, rfl, rfl, _, rfl, by
    rw [decide_eq_false (fun e => n1 (V.str.inj e))]
    exact k' _ rfl⟩) ?_
  rintro _ rfl
  have pw1 : CPowW 10 53 := ⟨by decide, by decide, by decide +kernel⟩
  have pw2 : CPowW ((10 : Int) ^ (53 : Int).toNat) 3 := ⟨by decide, by decide, by decide +kernel⟩
  -- width
  by_cases c2 : k = .width
  · subst c2
    refine sq_if0 ⟨_, rfl, rfl, _, rfl, ifT (eqT rfl) ?_⟩
    refine rt_ret (op_go ⟨_, rfl, (by show 1 ≤ sizeLine; decide), fun q1 o1 => ?_⟩)
    refine cons_go (op_go (op_go ⟨10, 53, rfl, rfl, pw1, _, 3, rfl, rfl, pw2, (by show 8 ≤ sizeLine; decide), fun t nt => menu_end rfl (hD.new o1) (by omega) nt rfl (by simp) (by simp) fun v H6 hv s6 D6 => ?_⟩))
    have nq1 := hS.nin o1
    refine q v H6 ((SameS.of (same_new o1)).trans s6) (D6.mono (by omega)) (AsB.on ?_ (s6.mem hbS))
    simp only [List.mem_cons, List.not_mem_nil, or_false] at hv
    rcases hv with rfl | rfl | rfl | rfl | rfl | rfl | rfl | rfl
    · exact asB_flat (d := .int 0) (fun _ => .int _) (by decide +kernel) (by intro ds h; cases h) (by decide +kernel) (by decide +kernel) (by decide +kernel) (rfl)
    · exact asB_flat (d := .int (-1)) (fun _ => .int _) (by decide +kernel) (by intro ds h; cases h) (by decide +kernel) (by decide +kernel) (by decide +kernel) (rfl)
    · exact asB_flat (d := .int 1001) (fun _ => .int _) (by decide +kernel) (by intro ds h; cases h) (by decide +kernel) (by decide +kernel) (by decide +kernel) (by show isWidth (.int 1001) = false; decide +kernel)
    · exact asB_flat (d := .none) (fun _ => .non) (by decide +kernel) (by intro ds h; cases h) (by decide +kernel) (by decide +kernel) (by decide +kernel) (rfl)
    · exact asB_flat (d := .bool true) (fun _ => .bl _) (by decide +kernel) (by intro ds h; cases h) (by decide +kernel) (by decide +kernel) (by decide +kernel) (rfl)
    · exact asB_flat (d := .str "5") (fun _ => .str _) (by decide +kernel) (by intro ds h; cases h) (by decide +kernel) (by decide +kernel) (by decide +kernel) (rfl)
    · exact asB_ints (ns := [5]) upd_same nq1 (ints_small (B := 10) (by decide) (by decide)) (by decide) rfl
    · exact asB_flat (d := .int (((10 : Int) ^ (53 : Int).toNat) ^ (3 : Int).toNat)) (fun _ => .int _) ((Nc.int hbig).shaped (by decide)) (by intro ds h; cases h) (Nc.int hbig).ok (Nat.le_trans (Nc.int hbig).wt (by decide)) (Nat.le_trans (Nc.int hbig).dp (by decide)) (by show isWidth (.int _) = false; decide +kernel)
  have n2 : Kd.name k ≠ "width" := by
    cases k <;> first | exact (c2 rfl).elim | decide +kernel
  refine sq_no (fun H' => H = H') (fun Q' k' => ⟨_, rfl, rfl, _, rfl, by
    rw [decide_eq_false (fun e => n2 (V.str.inj e))]
    exact k' _ rfl⟩) ?_
  rintro _ rfl
  -- lengths
  by_cases c3 : k = .lengths
  · subst c3
    refine sq_if0 ⟨_, rfl, rfl, _, rfl, ifT (eqT rfl) ?_⟩
    refine sq_set (op_go ⟨_, rfl, (by show 1 ≤ sizeLine; decide), fun q1 n1 => ⟨(by show 7 ≤ sizeLine; decide), fun t nt => menu_end rfl (hD.new n1) (by omega) nt rfl (by simp) (by simp) fun od H2 hod s2 D2 => ?_⟩⟩)
    have nq1 : q1 ∉ S := hS.nin n1
    have s0 : Same H (upd H q1 (.lst [.int 1])) := same_new n1
    have hodd : ∃ d, (∀ H', SameS S H2 H' → Dp K H' od d) ∧ OddD d := by
      simp only [List.mem_cons, List.not_mem_nil, or_false] at hod
      rcases hod with rfl | rfl | rfl | rfl | rfl | rfl | rfl
      · exact ⟨.int 0, fun _ _ => .int _, odd_0⟩
      · exact ⟨.int (-1), fun _ _ => .int _, ⟨.inl rfl, by decide +kernel, by decide, by decide, by decide +kernel⟩⟩
      · exact ⟨.bool true, fun _ _ => .bl _, odd_T⟩
      · exact ⟨.none, fun _ _ => .non, odd_N⟩
      · exact ⟨.str "1", fun _ _ => .str _, odd_1⟩
      · exact ⟨.list [.int 1], fun H' s => .lst (.inl (.inl (((s2.mem hbS).trans s).at nq1 upd_same))) (.cons (.int _) .nil), ⟨.inl rfl, by decide +kernel, by decide +kernel, by decide +kernel, by decide +kernel⟩⟩
      · exact ⟨.int 601, fun _ _ => .int _, ⟨.inr ⟨601, rfl, by decide⟩, by decide +kernel, by decide, by decide, by decide +kernel⟩⟩
    obtain ⟨dd, hdd, hod2⟩ := hodd
    have hS2 : Live S H2 := (hS.same s0).deck s2 D2
    have s02 : SameS (b :: qs) H H2 := (SameS.of s0).trans s2
    clear hod s0 s2 nt n1 nq1
    try dsimp only
    -- good
    refine sq_set ⟨_, rfl, b, qs, _, 9, rfl, D2, by omega, by decide, .inl (by decide), fun r H3 r0 r1 D3 s3 => ⟨r, rfl, by omega, by omega, fun g ng => ?_⟩⟩
    have ngS : g ∉ b :: qs := D3.fresh ng
    refine lc_genR (fun i acc H' => ∃ gs : List Int, acc = iV gs ∧ gs.length = i ∧ (∀ z ∈ gs, 1 ≤ z ∧ z ≤ 9) ∧ Deck H' b qs (n + 2 + i) ∧ SameS (b :: qs) H3 H') (by omega) ⟨[], rfl, rfl, (fun _ h => by cases h), (D3.new ng).mono (by omega), SameS.of (same_new ng)⟩ ?_ ?_
    · rintro i acc H4 hi hl ⟨gs, rfl, hg1, hg2, D4, s4⟩ e4 Q2 k2
      refine op_go ⟨_, rfl, b, qs, _, 9, rfl, D4, by omega, by decide, .inl (by decide), fun r2 H5 r20 r21 D5 s5 => ⟨_, _, rfl, rfl, k2 _ _ (s5.at ngS e4) ⟨gs ++ [1 + r2], (by show iV gs ++ iV [1 + r2] = _; exact (List.map_append ..).symm), by rw [List.length_append, hg1]; rfl, ?_, (D5.mut ngS).mono (by omega), (s4.trans s5).mut ng⟩⟩⟩
      intro z hz2
      rcases List.mem_append.mp hz2 with h | h
      · exact hg2 z h
      · rw [List.mem_singleton.mp h]
        omega
    rintro acc H4 hl4 ⟨gs, rfl, hg1, hg2, D4, s4⟩ e4
    have hgl : gs.length ≤ 8 := by omega
    have hgs : ∀ m ∈ gs, m.natAbs < 2 ^ 1000 := ints_small (B := 10) (by decide) (fun m hm => by have := hg2 m hm; omega)
    have s04 := (s02.trans s3).trans s4
    have hdd4 : ∀ H', SameS S H4 H' → Dp K H' od dd := fun H' s => hdd H' (((s3.trans s4).mem hbS).trans s)
    have eg : IL H4 g gs := e4
    clear hdd s02
    try dsimp only
    -- at
    refine sq_set ⟨_, rfl, _, rfl, g, _, rfl, .inl eg.seq, _, _, rfl, rfl, b, qs, _, _, rfl, D4, by omega, by rw [List.length_map]; omega, .inl (by rw [List.length_map]; omega), fun at_ H5 a0 a1 D5 s5 => ?_⟩
    rw [List.length_map] at a1
    have eg5 : IL H5 g gs := s5.il ngS eg
    have s05 := s04.trans s5
    have hS5 : Live S H5 := ((hS2.deck s3 D3).deck s4 D4).deck s5 D5
    have hdd5 : ∀ H', SameS S H5 H' → Dp K H' od dd := fun H' s => hdd4 H' ((s5.mem hbS).trans s)
    try dsimp only
    -- inside
    refine sq_set (op_go (op_go ⟨_, rfl, _, rfl, _, rfl, g, _, rfl, eg5.seq, fun x1 nx1 => ⟨_, rfl, (by show 1 ≤ sizeLine; decide), fun x2 nx2 => ⟨x1, x2, _, _, rfl, rfl, at_new upd_same nx2, upd_same, ?_, fun x3 nx3 => ⟨_, rfl, _, rfl, _, rfl, g, _, rfl, (((eg5.new nx1).new nx2).new nx3).seq, fun x4 nx4 => ⟨x3, x4, _, _, rfl, rfl, at_new upd_same nx4, upd_same, ?_, fun x5 nx5 => ?_⟩⟩⟩⟩⟩))
    · rw [cutV_map, List.length_map, cutL_to _ _ a0, List.length_take]
      show _ + 1 ≤ _
      omega
    · rw [List.length_append, cutV_map, cutV_map, List.length_map, List.length_map, cutL_to _ _ a0, cutL_from _ _ a0, List.length_take, List.length_drop]
      show _ + 1 + _ ≤ _
      omega
    have s56 : Same H5 (upd (upd (upd (upd (upd H5 x1 (.lst (cutV (iV gs) none (some at_)))) x2 (.lst [od])) x3 (.lst (cutV (iV gs) none (some at_) ++ [od]))) x4 (.lst (cutV (iV gs) (some at_) none))) x5 (.lst (cutV (iV gs) none (some at_) ++ [od] ++ cutV (iV gs) (some at_) none))) := ((((same_new nx1).trans (same_new nx2)).trans (same_new nx3)).trans (same_new nx4)).trans (same_new nx5)
    have e6 : (upd (upd (upd (upd (upd H5 x1 (.lst (cutV (iV gs) none (some at_)))) x2 (.lst [od])) x3 (.lst (cutV (iV gs) none (some at_) ++ [od]))) x4 (.lst (cutV (iV gs) (some at_) none))) x5 (.lst (cutV (iV gs) none (some at_) ++ [od] ++ cutV (iV gs) (some at_) none))) x5 = some (.lst (iV (gs.take at_.toNat) ++ [od] ++ iV (gs.drop at_.toNat))) := by
      rw [upd_same, cutV_map, cutV_map, cutL_to _ _ a0, cutL_from _ _ a0]
    have nx5S : x5 ∉ S := (hS5.same ((((same_new nx1).trans (same_new nx2)).trans (same_new nx3)).trans (same_new nx4))).nin nx5
    generalize upd (upd (upd (upd (upd H5 x1 (.lst (cutV (iV gs) none (some at_)))) x2 (.lst [od])) x3 (.lst (cutV (iV gs) none (some at_) ++ [od]))) x4 (.lst (cutV (iV gs) (some at_) none))) x5 (.lst (cutV (iV gs) none (some at_) ++ [od] ++ cutV (iV gs) (some at_) none)) = H6 at s56 e6 ⊢
    clear nx5 nx4 nx3 nx2 nx1
    have D6 := D5.same s56
    have hS6 := hS5.same s56
    have s06 := s05.trans (SameS.of s56)
    have hdd6 : ∀ H', SameS S H6 H' → Dp K H' od dd := fun H' s => hdd5 H' ((SameS.of s56).trans s)
    try dsimp only
    refine rt_ret (op_go ⟨(by show 2 ≤ sizeLine; decide), fun m1 o1 => fun m2 o2 => ⟨_, rfl, _, rfl, _, rfl, _, rfl, (by show 10 ≤ sizeLine; decide), fun t nt => menu_end rfl ((D6.new o1).new o2) (by omega) nt rfl (by simp) (by simp) fun v H7 hv s7 D7 => ?_⟩⟩)
    have s67 : Same H6 (upd (upd H6 m1 (.tup [.int 1, .int 2])) m2 (.dK [])) := (same_new o1).trans (same_new o2)
    have f1 : (upd (upd H6 m1 (.tup [.int 1, .int 2])) m2 (.dK [])) m1 = some (.tup (iV [1, 2])) := at_new upd_same o2
    have nm1 := hS6.nin o1
    have nm2 := Live.nin (Live.new hS6 o1) o2
    refine q v H7 ((s06.trans (SameS.of s67)).trans s7) (D7.mono (by omega)) (AsB.on ?_ (s7.mem hbS))
    simp only [List.mem_cons, List.not_mem_nil, or_false] at hv
    have mid := asB_mid (k := .lengths) (n := ns.length) (fun H' s => hdd6 H' ((SameS.of s67).trans s)) hod2 (s67 _ _ e6) nx5S (fun m hm => hgs m (by rw [← List.take_append_drop at_.toNat gs]; exact hm)) (by rw [List.length_take, List.length_drop]; omega) (repl_odd hod2 (by simp))
    rcases hv with rfl | rfl | rfl | rfl | rfl | rfl | rfl | rfl | rfl | rfl
    · exact asB_flat (d := .none) (fun _ => .non) (by decide +kernel) (by intro ds h; cases h) (by decide +kernel) (by decide +kernel) (by decide +kernel) (fun _ _ _ => rfl)
    · exact asB_flat (d := .int 5) (fun _ => .int _) (by decide +kernel) (by intro ds h; cases h) (by decide +kernel) (by decide +kernel) (by decide +kernel) (fun _ _ _ => rfl)
    · exact asB_tup (ns := [1, 2]) f1 nm1 (ints_small (B := 10) (by decide) (by decide)) (by decide) (fun _ _ _ => rfl)
    · exact asB_dct upd_same nm2 (fun _ _ _ => rfl)
    · exact asB_flat (d := .str "5") (fun _ => .str _) (by decide +kernel) (by intro ds h; cases h) (by decide +kernel) (by decide +kernel) (by decide +kernel) (fun _ _ _ => rfl)
    · exact asB_flat (d := .bool true) (fun _ => .bl _) (by decide +kernel) (by intro ds h; cases h) (by decide +kernel) (by decide +kernel) (by decide +kernel) (fun _ _ _ => rfl)
    · exact mid
    · exact mid
    · exact mid
    · exact mid
  have n3 : Kd.name k ≠ "lengths" := by
    cases k <;> first | exact (c3 rfl).elim | decide +kernel
  refine sq_no (fun H' => H = H') (fun Q' k' => ⟨_, rfl, rfl, _, rfl, by
    rw [decide_eq_false (fun e => n3 (V.str.inj e))]
    exact k' _ rfl⟩) ?_
  rintro _ rfl
  -- index, number
  have fin : ∀ v H', AsB S K H' .index ns.length v → AsB S K H' k ns.length v := fun v H' h => by
    cases k with
    | text => exact (c1 rfl).elim
    | width => exact (c2 rfl).elim
    | lengths => exact (c3 rfl).elim
    | index => exact h
    | number => exact h.number
  refine rt_ret (op_go ⟨_, rfl, ?_⟩)
  refine cons_go (op_go ⟨_, rfl, w, _, rfl, .inl hw.seq, _, _, rfl, rfl, (by show 1 ≤ sizeLine; decide), fun q1 o1 => ?_⟩)
  refine cons_go (op_go (op_go ⟨10, 53, rfl, rfl, pw1, _, 3, rfl, rfl, pw2, (by show 8 ≤ sizeLine; decide), fun t nt => menu_end rfl (hD.new o1) (by omega) nt rfl (by simp) (by simp) fun v H6 hv s6 D6 => ?_⟩))
  have nq1 := hS.nin o1
  refine q v H6 ((SameS.of (same_new o1)).trans s6) (D6.mono (by omega)) (fin _ _ (AsB.on ?_ (s6.mem hbS)))
  simp only [List.mem_cons, List.not_mem_nil, or_false] at hv
  rcases hv with rfl | rfl | rfl | rfl | rfl | rfl | rfl | rfl
  · exact asB_flat (d := .int (-1)) (fun _ => .int _) (by decide +kernel) (by intro ds h; cases h) (by decide +kernel) (by decide +kernel) (by decide +kernel) (fun _ _ => rfl)
  · rw [List.length_map]
    refine asB_flat (d := .int ((ns.length : Int) + 1)) (fun _ => .int _) ((Nc.intS (by omega)).shaped (by decide)) (by intro ds h; cases h) (Nc.intS (by omega)).ok (Nat.le_trans (Nc.intS (by omega)).wt (by decide)) (Nat.le_trans (Nc.intS (by omega)).dp (by decide)) (fun m hm => ?_)
    simp only [isIntV, Bool.and_eq_false_iff, decide_eq_false_iff_not]
    exact .inr (by omega)
  · exact asB_flat (d := .none) (fun _ => .non) (by decide +kernel) (by intro ds h; cases h) (by decide +kernel) (by decide +kernel) (by decide +kernel) (fun _ _ => rfl)
  · exact asB_flat (d := .bool true) (fun _ => .bl _) (by decide +kernel) (by intro ds h; cases h) (by decide +kernel) (by decide +kernel) (by decide +kernel) (fun _ _ => rfl)
  · exact asB_flat (d := .bool false) (fun _ => .bl _) (by decide +kernel) (by intro ds h; cases h) (by decide +kernel) (by decide +kernel) (by decide +kernel) (fun _ _ => rfl)
  · exact asB_flat (d := .str "0") (fun _ => .str _) (by decide +kernel) (by intro ds h; cases h) (by decide +kernel) (by decide +kernel) (by decide +kernel) (fun _ _ => rfl)
  · exact asB_ints (ns := [0]) upd_same nq1 (ints_small (B := 10) (by decide) (by decide)) (by decide) (fun _ _ => rfl)
  · exact asB_flat (d := .int (((10 : Int) ^ (53 : Int).toNat) ^ (3 : Int).toNat)) (fun _ => .int _) ((Nc.int hbig).shaped (by decide)) (by intro ds h; cases h) (Nc.int hbig).ok (Nat.le_trans (Nc.int hbig).wt (by decide)) (Nat.le_trans (Nc.int hbig).dp (by decide)) (fun m hm => by
      simp only [isIntV, Bool.and_eq_false_iff, decide_eq_false_iff_not]
      refine .inr ?_
      have h600 : (ns.length : Int) < ((10 : Int) ^ (53 : Int).toNat) ^ (3 : Int).toNat := Int.lt_of_le_of_lt (show (ns.length : Int) ≤ 300 by omega) (by decide +kernel)
      exact fun h => absurd (Int.lt_of_le_of_lt (Int.le_trans h hm) h600) (Int.lt_irrefl _))
theorem ok_law {f : Addr} {fd : FuncData} (F : FnP K "law" (top 50) [] f fd) (W : Wd K mg) (c__law_told : Cal P w K mg base CX0 7 "_law_told" ["door", "parts"] [] (sp__law_told K)) (c__law_told_named : Cal P w K mg base CX0 7 "_law_told_named" ["door", "parts"] [] (sp__law_told_named K)) (c__law_draw : Cal P w K mg base CX0 1 "_law_draw" ["deck", "many"] [] (sp__law_draw K)) (c__law_bad : Cal P w K mg base CX0 3 "_law_bad" ["deck", "kind", "plan"] [] (sp__law_bad K)) (c__law_plan : Cal P w K mg base CX0 2 "_law_plan" ["deck", "most", "longest"] [] (sp__law_plan K)) (c__law_deck : Cal P w K mg base CX0 1 "_law_deck" ["script"] [] (sp__law_deck K)) : FnG P w K mg base 8 f fd ["script"] (sp_law K) := by
  refine fnG_of F sc_law (fun vs H Q E h => ?len) (fun cdv A outer s H vs Q E hgd hr h => ?_)
  case len =>
    obtain ⟨a, ns, rfl, _⟩ := h
    rfl
  refine ⟨_, (pss_cons (ps_set (i := 1) sc_law.nd rfl (.inl rfl) (pe_cal c__law_deck (hr.mono (by decide)) pass0 (pa_cons (pv 0) pa_nil)))
  (pss_cons (ps_for PassesOwn.never rfl (pi_range1 (by rfl) W.n_range (pa_cons pe_int pa_nil)) (pg_name (i := 2) sc_law.nd rfl (Or.inl rfl))
  (pss_cons (ps_par (i := 3) (j := 4) (by rfl) sc_law.nd rfl rfl (by decide) rfl rfl (pa_cons (pe_cal c__law_plan (hr.mono (by decide)) pass0 (pa_cons (pv 1) (pa_cons pe_int (pa_cons pe_int pa_nil)))) (pa_cons (pe_cal c__law_plan (hr.mono (by decide)) pass0 (pa_cons (pv 1) (pa_cons pe_int (pa_cons pe_int pa_nil)))) pa_nil)) (by rfl))
  (pss_cons (ps_par3 (i := 5) (j := 6) (l := 7) (by rfl) sc_law.nd rfl rfl rfl (by decide) (by decide) (by decide) rfl rfl rfl (pa_cons (pe_op op_add pe_int (pe_cal c__law_draw (hr.mono (by decide)) pass0 (pa_cons (pv 1) (pa_cons pe_int pa_nil)))) (pa_cons (pe_cal c__law_draw (hr.mono (by decide)) pass0 (pa_cons (pv 1) (pa_cons (pe_callB call_len_seq (by rfl) W.n_len (by decide +kernel) (pa_cons (pv 3) pa_nil)) pa_nil))) (pa_cons (pe_cal c__law_draw (hr.mono (by decide)) pass0 (pa_cons (pv 1) (pa_cons (pe_callB call_len_seq (by rfl) W.n_len (by decide +kernel) (pa_cons (pv 3) pa_nil)) pa_nil))) pa_nil))) (by rfl))
  (pss_cons (ps_set (i := 8) sc_law.nd rfl (.inl rfl) (pe_lst (pa_cons (pe_lst (pa_cons (pe_lst (pa_cons pe_str (pa_cons (pv 3) pa_nil))) (pa_cons (pe_lst (pa_cons pe_str (pa_cons (pv 5) pa_nil))) (pa_cons (pe_lst (pa_cons pe_str (pa_cons (pv 6) pa_nil))) pa_nil)))) pa_nil)))
  (pss_cons (ps_expr (pe_bm PySem.F.plainAttrs_list PySem.F.slot_list_append PySem.F.type_list_append mt_append (pv 8) (pa_cons (pe_lst (pa_cons (pe_lst (pa_cons pe_str (pa_cons (pv 3) pa_nil))) (pa_cons (pe_lst (pa_cons pe_str (pa_cons (pv 5) pa_nil))) (pa_cons (pe_lst (pa_cons pe_str (pa_cons (pv 6) pa_nil))) (pa_cons (pe_lst (pa_cons pe_str (pa_cons (pv 7) pa_nil))) pa_nil))))) pa_nil)))
  (pss_cons (ps_expr (pe_bm PySem.F.plainAttrs_list PySem.F.slot_list_append PySem.F.type_list_append mt_append (pv 8) (pa_cons (pe_lst (pa_cons (pe_lst (pa_cons pe_str (pa_cons (pv 3) pa_nil))) (pa_cons (pe_lst (pa_cons pe_str (pa_cons (pv 6) pa_nil))) (pa_cons (pe_lst (pa_cons pe_str (pa_cons (pe_op op_sub (pe_callB call_len_seq (by rfl) W.n_len (by decide +kernel) (pa_cons (pv 3) pa_nil)) (pv 6)) pa_nil))) (pa_cons (pe_lst (pa_cons pe_str (pa_cons (pv 4) pa_nil))) pa_nil))))) pa_nil)))
  (pss_cons (ps_expr (pe_bm PySem.F.plainAttrs_list PySem.F.slot_list_append PySem.F.type_list_append mt_append (pv 8) (pa_cons (pe_lst (pa_cons (pe_lst (pa_cons pe_str (pa_cons (pv 3) pa_nil))) (pa_cons (pe_lst (pa_cons pe_str (pa_cons (pv 4) pa_nil))) (pa_cons (pe_lst (pa_cons pe_str (pa_cons (pv 5) pa_nil))) pa_nil)))) pa_nil)))
  (pss_one (ps_for PassesOwn.never rfl (pi_range1 (by rfl) W.n_range (pa_cons pe_int pa_nil)) (pg_name (i := 9) sc_law.nd rfl (Or.inl rfl))
  (pss_cons (ps_setLc (i := 10) (own := [("kind", 19), ("value_here", 20)]) (g := (gLst K 2 (gCons (gName 19) (gCons (gName 20) gNil)))) (by rfl) sc_law.nd rfl rfl (sw_true rfl rfl rfl (by decide +kernel)) (pi_list (pe_ix ix_list (pv 8) (pv 9) (fun _ _ => rfl))) (blkOk_by (own := [("kind", 19), ("value_here", 20)]) (N := ["script", "deck", "turn", "plan", "more", "wide", "at", "to", "rows", "door", "kinds", "good", "step", "wrong", "parts", "k", "kept", "due", "found", "kind", "value_here"]) (sc := defScope (top 50)) (by decide +kernel)) (fun _ _ _ _ _ => (pg_lst rfl (pgs_cons (pg_name (i := 19) sc_law.nd rfl (Or.inl rfl)) (pgs_cons (pg_name (i := 20) sc_law.nd rfl (Or.inl rfl)) pgs_nil)))) (fun _ _ _ _ _ => pts_nil) (fun _ _ _ _ _ => (pv 19)))
  (pss_cons (ps_setLc (i := 11) (own := [("kind", 19), ("value_here", 20)]) (g := (gLst K 2 (gCons (gName 19) (gCons (gName 20) gNil)))) (by rfl) sc_law.nd rfl rfl (sw_true rfl rfl rfl (by decide +kernel)) (pi_list (pe_ix ix_list (pv 8) (pv 9) (fun _ _ => rfl))) (blkOk_by (own := [("kind", 19), ("value_here", 20)]) (N := ["script", "deck", "turn", "plan", "more", "wide", "at", "to", "rows", "door", "kinds", "good", "step", "wrong", "parts", "k", "kept", "due", "found", "kind", "value_here"]) (sc := defScope (top 50)) (by decide +kernel)) (fun _ _ _ _ _ => (pg_lst rfl (pgs_cons (pg_name (i := 19) sc_law.nd rfl (Or.inl rfl)) (pgs_cons (pg_name (i := 20) sc_law.nd rfl (Or.inl rfl)) pgs_nil)))) (fun _ _ _ _ _ => pts_nil) (fun _ _ _ _ _ => (pv 20)))
  (pss_cons (ps_if (pt_cmpR op_ne (pe_cal c__law_told (hr.mono (by decide)) pass0 (pa_cons (pv 9) (pa_cons (pv 11) pa_nil))) pe_str (nomark _)) (pss_one (ps_ret pe_bl)) pss_nil)
  (pss_one (ps_for PassesOwn.never rfl (pi_range1 (by rfl) W.n_range (pa_cons pe_int pa_nil)) (pg_name (i := 12) sc_law.nd rfl (Or.inl rfl))
  (pss_cons (ps_par (i := 13) (j := 14) (by rfl) sc_law.nd rfl rfl (by decide) rfl rfl (pa_cons (pe_lst pa_nil) (pa_cons (pe_callTy call_list_of (by rfl) W.n_list (by decide +kernel) (pa_cons (pv 11) pa_nil)) pa_nil)) (by rfl))
  (pss_cons (ps_for PassesOwn.never rfl (pi_range1 (by rfl) W.n_range (pa_cons (pe_callB call_len_seq (by rfl) W.n_len (by decide +kernel) (pa_cons (pv 11) pa_nil)) pa_nil)) (pg_name (i := 15) sc_law.nd rfl (Or.inl rfl))
  (pss_one (ps_if (pt_cmpR op_eq (pe_cal c__law_draw (hr.mono (by decide)) pass0 (pa_cons (pv 1) (pa_cons pe_int pa_nil))) pe_int (nomark _)) (pss_cons (ps_expr (pe_bm PySem.F.plainAttrs_list PySem.F.slot_list_append PySem.F.type_list_append mt_append (pv 13) (pa_cons (pv 15) pa_nil)))
  (pss_one (ps_asg (pe_cal c__law_bad (hr.mono (by decide)) pass0 (pa_cons (pv 1) (pa_cons (pe_ix ix_list (pv 10) (pv 15) (fun _ _ => rfl)) (pa_cons (pv 3) pa_nil)))) (pg_sub (pv 14) (pv 15) set_list)))) pss_nil)))
  (pss_cons (ps_set (i := 16) sc_law.nd rfl (.inl rfl) (pe_callB (call_reprZ hgd hr W.sysd) (by rfl) W.n_repr (by decide +kernel) (pa_cons (pv 14) pa_nil)))
  (pss_cons (ps_set (i := 17) sc_law.nd rfl (.inl rfl) (pe_ifExp (pt_cmpR (op_neD hr.units) (pv 13) (pe_lst pa_nil) (nomark _)) (pe_ix ix_list (pv 10) (pe_ix ix_list (pv 13) pe_int (fun _ _ => rfl)) (fun _ _ => rfl)) pe_str))
  (pss_cons (ps_set (i := 18) sc_law.nd rfl (.inl rfl) (pe_lst (pa_cons (pe_cal c__law_told (hr.mono (by decide)) pass0 (pa_cons (pv 9) (pa_cons (pv 14) pa_nil))) (pa_cons (pe_cal c__law_told_named (hr.mono (by decide)) pass0 (pa_cons (pv 9) (pa_cons (pv 14) pa_nil))) pa_nil))))
  (pss_one (ps_if (PW.pt (pw_or (pt_cmpR (op_neD hr.units) (pv 18) (pe_lst (pa_cons (pv 17) (pa_cons (pv 17) pa_nil))) (nomark _)) (pw_or1 (pt_cmpR op_ne (pe_callB (call_reprZ hgd hr W.sysd) (by rfl) W.n_repr (by decide +kernel) (pa_cons (pv 14) pa_nil)) (pv 16) (nomark _))))) (pss_one (ps_ret pe_bl)) pss_nil)))))))))))))))))))))
  (pss_cons (ps_set (i := 18) sc_law.nd rfl (.inl rfl) (pe_lst (pa_cons (pe_cal c__law_told (hr.mono (by decide)) pass0 (pa_cons pe_int (pa_cons (pe_lst (pa_cons (pe_lst (pa_cons pe_int pa_nil)) (pa_cons pe_int (pa_cons pe_int pa_nil)))) pa_nil))) (pa_cons (pe_cal c__law_told (hr.mono (by decide)) pass0 (pa_cons pe_int (pa_cons (pe_lst (pa_cons (pe_lst (pa_cons pe_int pa_nil)) (pa_cons pe_int (pa_cons pe_int (pa_cons (pe_lst pa_nil) pa_nil))))) pa_nil))) (pa_cons (pe_cal c__law_told (hr.mono (by decide)) pass0 (pa_cons pe_int (pa_cons (pe_lst (pa_cons (pe_lst (pa_cons pe_int pa_nil)) (pa_cons pe_int (pa_cons pe_int (pa_cons (pe_lst (pa_cons pe_int pa_nil)) pa_nil))))) pa_nil))) pa_nil)))))
  (pss_one (ps_ret (pe_cmpR (op_eqD hr.units) (pv 18) (pe_lst (pa_cons pe_str (pa_cons pe_str (pa_cons pe_str pa_nil)))) (nomark _))))))), ?_⟩
  obtain ⟨a, ns, rfl, hS, hl, _, q⟩ := h
  have hz : sizeLine = 16777216 := by decide
  refine sq_set ⟨_, rfl, a, ns, rfl, hS, hl, fun b qs H0 hfr s0 D0 => ?_⟩
  refine ⟨12, rfl, by decide, by decide, ?_⟩
  refine for_range (lo := 0) (n := 12) (fun i σ H' => ∃ j2 j3 j4 j5 j6 j7 j8 j9 j10 j11 j12 j13 j14 j15 j16 j17 j18 j19 j20, σ = [some (.ref a), some (.ref b), j2, j3, j4, j5, j6, j7, j8, j9, j10, j11, j12, j13, j14, j15, j16, j17, j18, j19, j20] ∧ SameS (b :: qs) H0 H' ∧ Deck H' b qs (30000 * i))
    ⟨_, _, _, _, _, _, _, _, _, _, _, _, _, _, _, _, _, _, _, rfl, SameS.refl _ _, D0⟩ ?_ ?_
  case refine_2 =>
    rintro σ H' ⟨j2, j3, j4, j5, j6, j7, j8, j9, j10, j11, j12, j13, j14, j15, j16, j17, j18, j19, j20, rfl, s, D⟩
    have t3 : Txt' [3] := ⟨by simp, by decide, by decide⟩
    have tx : ∀ {l : Addr} {H2 : Hp}, IL H2 l [3] → TxV K H2 (.ref l) (some (.list ([3].map .int))) := fun {l H2} h => ⟨av_ints h.seq, fun ds e => by
      injection e with e
      injection e with e
      rw [← e]
      show 1 ≤ sizeLine
      decide, fun _ => ⟨l, [3], rfl, rfl, h.seq, t3⟩⟩
    have wd : ∀ {l : Addr} {H2 : Hp} {ms : List Int}, ms.length ≤ 10 → IL H2 l ms → WdsV K H2 (.ref l) (some (.list (ms.map .int))) := fun {l H2 ms} hl h => ⟨av_ints h.seq, fun ds e => by
      injection e with e
      injection e with e
      subst e
      exact ⟨by rw [List.length_map]; omega, l, iV ms, rfl, h, fun _ _ => dpAll_ints ms⟩⟩
    have w1 : wFrom (.int 5) (.int 1) (some (.list ([3].map .int))) = "index" := by decide +kernel
    have w2 : wRepl (.int 1) (.int 1) (some (.list ([3].map .int))) (some (.list (([] : List Int).map .int))) = "number" := by decide +kernel
    have w3 : wRepl (.int 1) (.int 0) (some (.list ([3].map .int))) (some (.list ([597].map .int))) = "lengths" := by decide +kernel
    try dsimp only
    refine sq_set (cons_go ⟨(by show 1 ≤ sizeLine; decide), fun l1 n1 => ⟨(by show 3 ≤ sizeLine; decide), fun l2 n2 => ⟨0, l2, _, [some (.list ([3].map .int)), some (.int 5), some (.int 1)], rfl, by decide, by decide, .inl (.inl upd_same), .inl ⟨rfl, _, _, _, _, _, _, rfl, rfl, tx (at_new upd_same n2), .d (.int _) rfl, .d (.int _) rfl⟩, fun H2 s2 => ?_⟩⟩⟩)
    rw [show wordFor 0 [V.ref l1, V.int 5, V.int 1] [some (.list ([3].map .int)), some (.int 5), some (.int 1)] = "index" from w1]
    refine cons_go ⟨(by show 1 ≤ sizeLine; decide), fun l3 n3 => ⟨Nat.zero_le _, fun l4 n4 => ⟨(by show 4 ≤ sizeLine; decide), fun l5 n5 => ⟨2, l5, _, [some (.list ([3].map .int)), some (.int 1), some (.int 1), some (.list (([] : List Int).map .int))], rfl, by decide, by decide, .inl (.inl upd_same), .inr (.inr (.inl ⟨rfl, _, _, _, _, _, _, _, _, rfl, rfl, tx (at_new (at_new upd_same n4) n5), .d (.int _) rfl, .d (.int _) rfl, wd (ms := []) (by decide) (at_new upd_same n5)⟩)), fun H3 s3 => ?_⟩⟩⟩⟩
    rw [show wordFor 2 [V.ref l3, V.int 1, V.int 1, V.ref l4] [some (.list ([3].map .int)), some (.int 1), some (.int 1), some (.list (([] : List Int).map .int))] = "number" from w2]
    refine cons_go ⟨(by show 1 ≤ sizeLine; decide), fun l6 n6 => ⟨(by show 1 ≤ sizeLine; decide), fun l7 n7 => ⟨(by show 4 ≤ sizeLine; decide), fun l8 n8 => ⟨2, l8, _, [some (.list ([3].map .int)), some (.int 1), some (.int 0), some (.list ([597].map .int))], rfl, by decide, by decide, .inl (.inl upd_same), .inr (.inr (.inl ⟨rfl, _, _, _, _, _, _, _, _, rfl, rfl, tx (at_new (at_new upd_same n7) n8), .d (.int _) rfl, .d (.int _) rfl, wd (ms := [597]) (by decide) (at_new upd_same n8)⟩)), fun H4 s4 => ?_⟩⟩⟩⟩
    rw [show wordFor 2 [V.ref l6, V.int 1, V.int 0, V.ref l7] [some (.list ([3].map .int)), some (.int 1), some (.int 0), some (.list ([597].map .int))] = "lengths" from w3]
    refine ⟨(by show 3 ≤ sizeLine; decide), fun fo nfo => ?_⟩
    try dsimp only
    refine rt_ret (op_go ⟨_, rfl, (by show 3 ≤ sizeLine; decide), fun lq nlq => ?_⟩)
    have nn : Nc ((12 * 10 + 4) * 3 + 3) 1 (.list ([("index" : Str), ("number" : Str), ("lengths" : Str)].map .str)) := Nc.strs (by decide) (by decide +kernel)
    exact nn.eqD (dp_strs (ps := [("index" : Str), ("number" : Str), ("lengths" : Str)]) (at_new upd_same nlq)) (dp_strs (ps := [("index" : Str), ("number" : Str), ("lengths" : Str)]) upd_same) (by decide) (q _)
  rintro i0 σ H1 hi0 ⟨j2, j3, j4, j5, j6, j7, j8, j9, j10, j11, j12, j13, j14, j15, j16, j17, j18, j19, j20, rfl, s1, D1⟩
  have hi12 : i0 < 12 := by omega
  have e40 : (2 : Nat) ^ 40 = 1099511627776 := by decide
  have e50 : (2 : Nat) ^ 50 = 1125899906842624 := by decide
  -- plan, more
  refine sq_par (cons_go ⟨_, rfl, b, qs, _, 9, 9, rfl, D1, by omega, by decide, by decide, by decide, by decide, fun p ps H2 np s2 D2 ep tp lp bp => ?_⟩)
  have npS := D1.fresh np
  refine cons_go ⟨_, rfl, b, qs, _, 9, 9, rfl, D2, by omega, by decide, by decide, by decide, by decide, fun m ms H3 nm s3 D3 em tm lm bm => ⟨_, _, rfl, ?_⟩⟩
  have nmS := D2.fresh nm
  have ep3 := s3.il npS ep
  have hpl := tp.len
  have hp1 : 1 ≤ ps.length := List.length_pos_iff.mpr tp.1
  try dsimp only
  -- wide, at, to
  refine sq_par3 (cons_go (op_go ⟨_, rfl, b, qs, _, 1000, rfl, D3, by omega, by decide, .inl (by decide), fun r1 H4 r10 r11 D4 s4 => ⟨_, _, rfl, rfl, ?_⟩⟩))
  have ep4 := s4.il npS ep3
  refine cons_go ⟨_, rfl, _, rfl, p, _, rfl, .inl ep4.seq, b, qs, _, _, rfl, D4, by omega, by rw [List.length_map]; omega, .inl (by rw [List.length_map]; omega), fun at_ H5 a0 a1 D5 s5 => ?_⟩
  have ep5 := s5.il npS ep4
  refine cons_go ⟨_, rfl, _, rfl, p, _, rfl, .inl ep5.seq, b, qs, _, _, rfl, D5, by omega, by rw [List.length_map]; omega, .inl (by rw [List.length_map]; omega), fun to H6 t0 t1 D6 s6 => ⟨_, _, _, rfl, ?_⟩⟩
  rw [List.length_map] at a1 t1
  have ep6 := s6.il npS ep5
  have em6 := s6.il nmS (s5.il nmS (s4.il nmS em))
  have s16 := ((((s1.trans s2).trans s3).trans s4).trans s5).trans s6
  have D6' : Deck H6 b qs (30000 * i0 + 12000) := D6.mono (by omega)
  try dsimp only
  generalize hwd : 1 + r1 = wd
  have w1 : 1 ≤ wd := by omega
  have w2 : wd ≤ 1000 := by omega
  have good : ∀ {H' : Hp}, IL H' p ps → IL H' m ms → Good K H' p m ps ms wd at_ to := fun {H'} h1 h2 => ⟨h1, h2, tp, tm, w1, w2, a0, a1, t0, t1, by
    have e1 : ps.drop (at_.toNat + ((ps.length : Int) - at_).toNat) = [] := List.drop_eq_nil_of_le (by omega)
    rw [e1, List.append_nil]
    refine ⟨fun h => tm.1 (List.append_eq_nil_iff.mp h).2, fun x hx => ?_, ?_⟩
    · rcases List.mem_append.mp hx with hx | hx
      · exact tp.2.1 x (List.mem_of_mem_take hx)
      · exact tm.2.1 x hx
    · have q1 := sum_mul (B := 9) (ws := ps.take at_.toNat) fun x hx => by have := bp x (List.mem_of_mem_take hx); omega
      have q2 := sum_mul (B := 9) (ws := ms) fun x hx => by have := bm x hx; omega
      rw [List.length_take] at q1
      unfold total
      rw [List.sum_append, List.length_append, List.length_take]
      omega⟩
  clear s2 s3 s4 s5 s6 ep ep3 ep4 ep5 em D2 D3 D4 D5 D6 np nm r10 r11
  -- row 0
  refine sq_set ⟨_, rfl, (by show 2 ≤ sizeLine; decide), fun x00 y00 => ⟨_, rfl, (by show 2 ≤ sizeLine; decide), fun x01 y01 => ⟨_, rfl, (by show 2 ≤ sizeLine; decide), fun x02 y02 => ⟨(by show 3 ≤ sizeLine; decide), fun r0 m0 => ⟨(by show 1 ≤ sizeLine; decide), fun R nR => ?_⟩⟩⟩⟩⟩
  have z0 : RowK (b :: qs) (upd (upd (upd (upd H6 x00 (.lst [.str "text", V.ref p])) x01 (.lst [.str "width", V.int wd])) x02 (.lst [.str "index", V.int at_])) r0 (.lst [V.ref x00, V.ref x01, V.ref x02])) r0 (rowOf 0 p m wd at_ to ps.length) := by
    refine ⟨[V.ref x00, V.ref x01, V.ref x02], upd_same, ?_, ?_⟩
    · exact (((D6'.new y00).new y01).new y02).fresh m0
    · exact .cons (kv := (.text, V.ref p)) ⟨x00, rfl, D6'.fresh y00, (at_new (at_new (at_new upd_same y01) y02) m0)⟩ (.cons (kv := (.width, V.int wd)) ⟨x01, rfl, (D6'.new y00).fresh y01, (at_new (at_new upd_same y02) m0)⟩ (.cons (kv := (.index, V.int at_)) ⟨x02, rfl, ((D6'.new y00).new y01).fresh y02, (at_new upd_same m0)⟩ (.nil)))
  have sr0 : Same H6 (upd (upd (upd (upd H6 x00 (.lst [.str "text", V.ref p])) x01 (.lst [.str "width", V.int wd])) x02 (.lst [.str "index", V.int at_])) r0 (.lst [V.ref x00, V.ref x01, V.ref x02])) := (((same_new y00).trans (same_new y01)).trans (same_new y02)).trans (same_new (u := .lst [V.ref x00, V.ref x01, V.ref x02]) m0)
  have zz0 : RowK (R :: b :: qs) (upd (upd (upd (upd (upd H6 x00 (.lst [.str "text", V.ref p])) x01 (.lst [.str "width", V.int wd])) x02 (.lst [.str "index", V.int at_])) r0 (.lst [V.ref x00, V.ref x01, V.ref x02])) R (.lst [.ref r0])) r0 (rowOf 0 p m wd at_ to ps.length) := (z0.push nR).on (SameS.of (same_new nR))
  have nRS : R ∉ b :: qs := (D6'.same sr0).fresh nR
  have nR0 : H0 R = none := (s16.trans (SameS.of sr0)).free nRS nR
  have sR0 : Same H6 (upd (upd (upd (upd (upd H6 x00 (.lst [.str "text", V.ref p])) x01 (.lst [.str "width", V.int wd])) x02 (.lst [.str "index", V.int at_])) r0 (.lst [V.ref x00, V.ref x01, V.ref x02])) R (.lst [.ref r0])) := sr0.trans (same_new nR)
  have eR0 : (upd (upd (upd (upd (upd H6 x00 (.lst [.str "text", V.ref p])) x01 (.lst [.str "width", V.int wd])) x02 (.lst [.str "index", V.int at_])) r0 (.lst [V.ref x00, V.ref x01, V.ref x02])) R (.lst [.ref r0])) R = some (.lst [.ref r0]) := upd_same
  have DR0 := D6'.same sR0
  have ep0r := ep6.same sR0
  have em0r := em6.same sR0
  have sq0 := s16.trans (SameS.of sR0)
  generalize (upd (upd (upd (upd (upd H6 x00 (.lst [.str "text", V.ref p])) x01 (.lst [.str "width", V.int wd])) x02 (.lst [.str "index", V.int at_])) r0 (.lst [V.ref x00, V.ref x01, V.ref x02])) R (.lst [.ref r0])) = HR0 at zz0 eR0 DR0 ep0r em0r sq0 ⊢
  clear z0 sr0 sR0 nR m0 y00 y01 y02 s16 D6' ep6 em6
  try dsimp only
  have npR : p ≠ R := by
    rintro rfl
    exact absurd (ep0r.symm.trans eR0) (by intro h; injection h with h; injection h with h; cases ps <;> simp at h)
  have nmR : m ≠ R := by
    rintro rfl
    exact absurd (em0r.symm.trans eR0) (by intro h; injection h with h; injection h with h; cases ms <;> simp at h)
  -- row 1
  refine sq_drop ⟨_, rfl, .inl ⟨rfl, _, .inl (.inl eR0)⟩, _, rfl, (by show 2 ≤ sizeLine; decide), fun x10 y10 => ⟨_, rfl, (by show 2 ≤ sizeLine; decide), fun x11 y11 => ⟨_, rfl, (by show 2 ≤ sizeLine; decide), fun x12 y12 => ⟨_, rfl, (by show 2 ≤ sizeLine; decide), fun x13 y13 => ⟨(by show 4 ≤ sizeLine; decide), fun r1 m1 => ⟨R, _, _, rfl, rfl, (at_new (at_new (at_new (at_new (at_new eR0 y10) y11) y12) y13) m1), (by show 1 < sizeLine; decide), ?_⟩⟩⟩⟩⟩⟩
  have z1 : RowK (R :: b :: qs) (upd (upd (upd (upd (upd HR0 x10 (.lst [.str "text", V.ref p])) x11 (.lst [.str "width", V.int wd])) x12 (.lst [.str "index", V.int at_])) x13 (.lst [.str "index", V.int to])) r1 (.lst [V.ref x10, V.ref x11, V.ref x12, V.ref x13])) r1 (rowOf 1 p m wd at_ to ps.length) := by
    refine ⟨[V.ref x10, V.ref x11, V.ref x12, V.ref x13], upd_same, ?_, ?_⟩
    · exact (fun hm => (List.mem_cons.mp hm).elim (fun h => ne_of_none (at_new (at_new (at_new (at_new eR0 y10) y11) y12) y13) m1 h.symm) (((((DR0.new y10).new y11).new y12).new y13).fresh m1))
    · exact .cons (kv := (.text, V.ref p)) ⟨x10, rfl, (fun hm => (List.mem_cons.mp hm).elim (fun h => ne_of_none eR0 y10 h.symm) (DR0.fresh y10)), (at_new (at_new (at_new (at_new upd_same y11) y12) y13) m1)⟩ (.cons (kv := (.width, V.int wd)) ⟨x11, rfl, (fun hm => (List.mem_cons.mp hm).elim (fun h => ne_of_none (at_new eR0 y10) y11 h.symm) ((DR0.new y10).fresh y11)), (at_new (at_new (at_new upd_same y12) y13) m1)⟩ (.cons (kv := (.index, V.int at_)) ⟨x12, rfl, (fun hm => (List.mem_cons.mp hm).elim (fun h => ne_of_none (at_new (at_new eR0 y10) y11) y12 h.symm) (((DR0.new y10).new y11).fresh y12)), (at_new (at_new upd_same y13) m1)⟩ (.cons (kv := (.index, V.int to)) ⟨x13, rfl, (fun hm => (List.mem_cons.mp hm).elim (fun h => ne_of_none (at_new (at_new (at_new eR0 y10) y11) y12) y13 h.symm) ((((DR0.new y10).new y11).new y12).fresh y13)), (at_new upd_same m1)⟩ (.nil))))
  have sr1 : Same HR0 (upd (upd (upd (upd (upd HR0 x10 (.lst [.str "text", V.ref p])) x11 (.lst [.str "width", V.int wd])) x12 (.lst [.str "index", V.int at_])) x13 (.lst [.str "index", V.int to])) r1 (.lst [V.ref x10, V.ref x11, V.ref x12, V.ref x13])) := ((((same_new y10).trans (same_new y11)).trans (same_new y12)).trans (same_new y13)).trans (same_new (u := .lst [V.ref x10, V.ref x11, V.ref x12, V.ref x13]) m1)
  have y091 : RowK (R :: b :: qs) (upd (upd (upd (upd (upd (upd HR0 x10 (.lst [.str "text", V.ref p])) x11 (.lst [.str "width", V.int wd])) x12 (.lst [.str "index", V.int at_])) x13 (.lst [.str "index", V.int to])) r1 (.lst [V.ref x10, V.ref x11, V.ref x12, V.ref x13])) R (.lst ([V.ref r0] ++ [V.ref r1]))) r0 (rowOf 0 p m wd at_ to ps.length) := (zz0.on (SameS.of sr1)).on (SameS.upd (List.mem_cons_self ..))
  have y191 : RowK (R :: b :: qs) (upd (upd (upd (upd (upd (upd HR0 x10 (.lst [.str "text", V.ref p])) x11 (.lst [.str "width", V.int wd])) x12 (.lst [.str "index", V.int at_])) x13 (.lst [.str "index", V.int to])) r1 (.lst [V.ref x10, V.ref x11, V.ref x12, V.ref x13])) R (.lst ([V.ref r0] ++ [V.ref r1]))) r1 (rowOf 1 p m wd at_ to ps.length) := z1.on (SameS.upd (List.mem_cons_self ..))
  have eR1 : (upd (upd (upd (upd (upd (upd HR0 x10 (.lst [.str "text", V.ref p])) x11 (.lst [.str "width", V.int wd])) x12 (.lst [.str "index", V.int at_])) x13 (.lst [.str "index", V.int to])) r1 (.lst [V.ref x10, V.ref x11, V.ref x12, V.ref x13])) R (.lst ([V.ref r0] ++ [V.ref r1]))) R = some (.lst [.ref r0, .ref r1]) := upd_same
  have DR1 := (DR0.same sr1).mut nRS (u := .lst ([V.ref r0] ++ [V.ref r1]))
  have ep1r : IL (upd (upd (upd (upd (upd (upd HR0 x10 (.lst [.str "text", V.ref p])) x11 (.lst [.str "width", V.int wd])) x12 (.lst [.str "index", V.int at_])) x13 (.lst [.str "index", V.int to])) r1 (.lst [V.ref x10, V.ref x11, V.ref x12, V.ref x13])) R (.lst ([V.ref r0] ++ [V.ref r1]))) p ps := at_mut (ep0r.same sr1) npR
  have em1r : IL (upd (upd (upd (upd (upd (upd HR0 x10 (.lst [.str "text", V.ref p])) x11 (.lst [.str "width", V.int wd])) x12 (.lst [.str "index", V.int at_])) x13 (.lst [.str "index", V.int to])) r1 (.lst [V.ref x10, V.ref x11, V.ref x12, V.ref x13])) R (.lst ([V.ref r0] ++ [V.ref r1]))) m ms := at_mut (em0r.same sr1) nmR
  have sq1 : SameS (R :: b :: qs) H0 (upd (upd (upd (upd (upd (upd HR0 x10 (.lst [.str "text", V.ref p])) x11 (.lst [.str "width", V.int wd])) x12 (.lst [.str "index", V.int at_])) x13 (.lst [.str "index", V.int to])) r1 (.lst [V.ref x10, V.ref x11, V.ref x12, V.ref x13])) R (.lst ([V.ref r0] ++ [V.ref r1]))) := ((sq0.more).trans (SameS.of sr1)).trans (SameS.upd (List.mem_cons_self ..))
  generalize (upd (upd (upd (upd (upd (upd HR0 x10 (.lst [.str "text", V.ref p])) x11 (.lst [.str "width", V.int wd])) x12 (.lst [.str "index", V.int at_])) x13 (.lst [.str "index", V.int to])) r1 (.lst [V.ref x10, V.ref x11, V.ref x12, V.ref x13])) R (.lst ([V.ref r0] ++ [V.ref r1]))) = HR1 at y091 y191 eR1 DR1 ep1r em1r sq1 ⊢
  clear z1 sr1 m1 y10 y11 y12 y13 DR0 ep0r em0r sq0 eR0 zz0
  have zz0 := y091
  clear y091
  have zz1 := y191
  clear y191
  try dsimp only
  -- row 2
  refine sq_drop ⟨_, rfl, .inl ⟨rfl, _, .inl (.inl eR1)⟩, _, rfl, (by show 2 ≤ sizeLine; decide), fun x20 y20 => ⟨_, rfl, (by show 2 ≤ sizeLine; decide), fun x21 y21 => ⟨_, rfl, p, _, rfl, .inl (IL.seq ((ep1r.new y20).new y21)), _, rfl, _, _, rfl, rfl, (by show 2 ≤ sizeLine; decide), fun x22 y22 => ⟨_, rfl, (by show 2 ≤ sizeLine; decide), fun x23 y23 => ⟨(by show 4 ≤ sizeLine; decide), fun r2 m2 => ⟨R, _, _, rfl, rfl, (at_new (at_new (at_new (at_new (at_new eR1 y20) y21) y22) y23) m2), (by show 2 < sizeLine; decide), ?_⟩⟩⟩⟩⟩⟩
  try dsimp only at y23 m2 ⊢
  rw [List.length_map] at y23 m2 ⊢
  have z2 : RowK (R :: b :: qs) (upd (upd (upd (upd (upd HR1 x20 (.lst [.str "text", V.ref p])) x21 (.lst [.str "index", V.int at_])) x22 (.lst [.str "number", V.int ((ps.length : Int) - at_)])) x23 (.lst [.str "lengths", V.ref m])) r2 (.lst [V.ref x20, V.ref x21, V.ref x22, V.ref x23])) r2 (rowOf 2 p m wd at_ to ps.length) := by
    refine ⟨[V.ref x20, V.ref x21, V.ref x22, V.ref x23], upd_same, ?_, ?_⟩
    · exact (fun hm => (List.mem_cons.mp hm).elim (fun h => ne_of_none (at_new (at_new (at_new (at_new eR1 y20) y21) y22) y23) m2 h.symm) (((((DR1.new y20).new y21).new y22).new y23).fresh m2))
    · exact .cons (kv := (.text, V.ref p)) ⟨x20, rfl, (fun hm => (List.mem_cons.mp hm).elim (fun h => ne_of_none eR1 y20 h.symm) (DR1.fresh y20)), (at_new (at_new (at_new (at_new upd_same y21) y22) y23) m2)⟩ (.cons (kv := (.index, V.int at_)) ⟨x21, rfl, (fun hm => (List.mem_cons.mp hm).elim (fun h => ne_of_none (at_new eR1 y20) y21 h.symm) ((DR1.new y20).fresh y21)), (at_new (at_new (at_new upd_same y22) y23) m2)⟩ (.cons (kv := (.number, V.int ((ps.length : Int) - at_))) ⟨x22, rfl, (fun hm => (List.mem_cons.mp hm).elim (fun h => ne_of_none (at_new (at_new eR1 y20) y21) y22 h.symm) (((DR1.new y20).new y21).fresh y22)), (at_new (at_new upd_same y23) m2)⟩ (.cons (kv := (.lengths, V.ref m)) ⟨x23, rfl, (fun hm => (List.mem_cons.mp hm).elim (fun h => ne_of_none (at_new (at_new (at_new eR1 y20) y21) y22) y23 h.symm) ((((DR1.new y20).new y21).new y22).fresh y23)), (at_new upd_same m2)⟩ (.nil))))
  have sr2 : Same HR1 (upd (upd (upd (upd (upd HR1 x20 (.lst [.str "text", V.ref p])) x21 (.lst [.str "index", V.int at_])) x22 (.lst [.str "number", V.int ((ps.length : Int) - at_)])) x23 (.lst [.str "lengths", V.ref m])) r2 (.lst [V.ref x20, V.ref x21, V.ref x22, V.ref x23])) := ((((same_new y20).trans (same_new y21)).trans (same_new y22)).trans (same_new y23)).trans (same_new (u := .lst [V.ref x20, V.ref x21, V.ref x22, V.ref x23]) m2)
  have y092 : RowK (R :: b :: qs) (upd (upd (upd (upd (upd (upd HR1 x20 (.lst [.str "text", V.ref p])) x21 (.lst [.str "index", V.int at_])) x22 (.lst [.str "number", V.int ((ps.length : Int) - at_)])) x23 (.lst [.str "lengths", V.ref m])) r2 (.lst [V.ref x20, V.ref x21, V.ref x22, V.ref x23])) R (.lst ([V.ref r0, V.ref r1] ++ [V.ref r2]))) r0 (rowOf 0 p m wd at_ to ps.length) := (zz0.on (SameS.of sr2)).on (SameS.upd (List.mem_cons_self ..))
  have y192 : RowK (R :: b :: qs) (upd (upd (upd (upd (upd (upd HR1 x20 (.lst [.str "text", V.ref p])) x21 (.lst [.str "index", V.int at_])) x22 (.lst [.str "number", V.int ((ps.length : Int) - at_)])) x23 (.lst [.str "lengths", V.ref m])) r2 (.lst [V.ref x20, V.ref x21, V.ref x22, V.ref x23])) R (.lst ([V.ref r0, V.ref r1] ++ [V.ref r2]))) r1 (rowOf 1 p m wd at_ to ps.length) := (zz1.on (SameS.of sr2)).on (SameS.upd (List.mem_cons_self ..))
  have y292 : RowK (R :: b :: qs) (upd (upd (upd (upd (upd (upd HR1 x20 (.lst [.str "text", V.ref p])) x21 (.lst [.str "index", V.int at_])) x22 (.lst [.str "number", V.int ((ps.length : Int) - at_)])) x23 (.lst [.str "lengths", V.ref m])) r2 (.lst [V.ref x20, V.ref x21, V.ref x22, V.ref x23])) R (.lst ([V.ref r0, V.ref r1] ++ [V.ref r2]))) r2 (rowOf 2 p m wd at_ to ps.length) := z2.on (SameS.upd (List.mem_cons_self ..))
  have eR2 : (upd (upd (upd (upd (upd (upd HR1 x20 (.lst [.str "text", V.ref p])) x21 (.lst [.str "index", V.int at_])) x22 (.lst [.str "number", V.int ((ps.length : Int) - at_)])) x23 (.lst [.str "lengths", V.ref m])) r2 (.lst [V.ref x20, V.ref x21, V.ref x22, V.ref x23])) R (.lst ([V.ref r0, V.ref r1] ++ [V.ref r2]))) R = some (.lst [.ref r0, .ref r1, .ref r2]) := upd_same
  have DR2 := (DR1.same sr2).mut nRS (u := .lst ([V.ref r0, V.ref r1] ++ [V.ref r2]))
  have ep2r : IL (upd (upd (upd (upd (upd (upd HR1 x20 (.lst [.str "text", V.ref p])) x21 (.lst [.str "index", V.int at_])) x22 (.lst [.str "number", V.int ((ps.length : Int) - at_)])) x23 (.lst [.str "lengths", V.ref m])) r2 (.lst [V.ref x20, V.ref x21, V.ref x22, V.ref x23])) R (.lst ([V.ref r0, V.ref r1] ++ [V.ref r2]))) p ps := at_mut (ep1r.same sr2) npR
  have em2r : IL (upd (upd (upd (upd (upd (upd HR1 x20 (.lst [.str "text", V.ref p])) x21 (.lst [.str "index", V.int at_])) x22 (.lst [.str "number", V.int ((ps.length : Int) - at_)])) x23 (.lst [.str "lengths", V.ref m])) r2 (.lst [V.ref x20, V.ref x21, V.ref x22, V.ref x23])) R (.lst ([V.ref r0, V.ref r1] ++ [V.ref r2]))) m ms := at_mut (em1r.same sr2) nmR
  have sq2 : SameS (R :: b :: qs) H0 (upd (upd (upd (upd (upd (upd HR1 x20 (.lst [.str "text", V.ref p])) x21 (.lst [.str "index", V.int at_])) x22 (.lst [.str "number", V.int ((ps.length : Int) - at_)])) x23 (.lst [.str "lengths", V.ref m])) r2 (.lst [V.ref x20, V.ref x21, V.ref x22, V.ref x23])) R (.lst ([V.ref r0, V.ref r1] ++ [V.ref r2]))) := ((sq1).trans (SameS.of sr2)).trans (SameS.upd (List.mem_cons_self ..))
  generalize (upd (upd (upd (upd (upd (upd HR1 x20 (.lst [.str "text", V.ref p])) x21 (.lst [.str "index", V.int at_])) x22 (.lst [.str "number", V.int ((ps.length : Int) - at_)])) x23 (.lst [.str "lengths", V.ref m])) r2 (.lst [V.ref x20, V.ref x21, V.ref x22, V.ref x23])) R (.lst ([V.ref r0, V.ref r1] ++ [V.ref r2]))) = HR2 at y092 y192 y292 eR2 DR2 ep2r em2r sq2 ⊢
  clear z2 sr2 m2 y20 y21 y22 y23 DR1 ep1r em1r sq1 eR1 zz0 zz1
  have zz0 := y092
  clear y092
  have zz1 := y192
  clear y192
  have zz2 := y292
  clear y292
  try dsimp only
  -- row 3
  refine sq_drop ⟨_, rfl, .inl ⟨rfl, _, .inl (.inl eR2)⟩, _, rfl, (by show 2 ≤ sizeLine; decide), fun x30 y30 => ⟨_, rfl, (by show 2 ≤ sizeLine; decide), fun x31 y31 => ⟨_, rfl, (by show 2 ≤ sizeLine; decide), fun x32 y32 => ⟨(by show 3 ≤ sizeLine; decide), fun r3 m3 => ⟨R, _, _, rfl, rfl, (at_new (at_new (at_new (at_new eR2 y30) y31) y32) m3), (by show 3 < sizeLine; decide), ?_⟩⟩⟩⟩⟩
  have z3 : RowK (R :: b :: qs) (upd (upd (upd (upd HR2 x30 (.lst [.str "text", V.ref p])) x31 (.lst [.str "text", V.ref m])) x32 (.lst [.str "width", V.int wd])) r3 (.lst [V.ref x30, V.ref x31, V.ref x32])) r3 (rowOf 3 p m wd at_ to ps.length) := by
    refine ⟨[V.ref x30, V.ref x31, V.ref x32], upd_same, ?_, ?_⟩
    · exact (fun hm => (List.mem_cons.mp hm).elim (fun h => ne_of_none (at_new (at_new (at_new eR2 y30) y31) y32) m3 h.symm) ((((DR2.new y30).new y31).new y32).fresh m3))
    · exact .cons (kv := (.text, V.ref p)) ⟨x30, rfl, (fun hm => (List.mem_cons.mp hm).elim (fun h => ne_of_none eR2 y30 h.symm) (DR2.fresh y30)), (at_new (at_new (at_new upd_same y31) y32) m3)⟩ (.cons (kv := (.text, V.ref m)) ⟨x31, rfl, (fun hm => (List.mem_cons.mp hm).elim (fun h => ne_of_none (at_new eR2 y30) y31 h.symm) ((DR2.new y30).fresh y31)), (at_new (at_new upd_same y32) m3)⟩ (.cons (kv := (.width, V.int wd)) ⟨x32, rfl, (fun hm => (List.mem_cons.mp hm).elim (fun h => ne_of_none (at_new (at_new eR2 y30) y31) y32 h.symm) (((DR2.new y30).new y31).fresh y32)), (at_new upd_same m3)⟩ (.nil)))
  have sr3 : Same HR2 (upd (upd (upd (upd HR2 x30 (.lst [.str "text", V.ref p])) x31 (.lst [.str "text", V.ref m])) x32 (.lst [.str "width", V.int wd])) r3 (.lst [V.ref x30, V.ref x31, V.ref x32])) := (((same_new y30).trans (same_new y31)).trans (same_new y32)).trans (same_new (u := .lst [V.ref x30, V.ref x31, V.ref x32]) m3)
  have y093 : RowK (R :: b :: qs) (upd (upd (upd (upd (upd HR2 x30 (.lst [.str "text", V.ref p])) x31 (.lst [.str "text", V.ref m])) x32 (.lst [.str "width", V.int wd])) r3 (.lst [V.ref x30, V.ref x31, V.ref x32])) R (.lst ([V.ref r0, V.ref r1, V.ref r2] ++ [V.ref r3]))) r0 (rowOf 0 p m wd at_ to ps.length) := (zz0.on (SameS.of sr3)).on (SameS.upd (List.mem_cons_self ..))
  have y193 : RowK (R :: b :: qs) (upd (upd (upd (upd (upd HR2 x30 (.lst [.str "text", V.ref p])) x31 (.lst [.str "text", V.ref m])) x32 (.lst [.str "width", V.int wd])) r3 (.lst [V.ref x30, V.ref x31, V.ref x32])) R (.lst ([V.ref r0, V.ref r1, V.ref r2] ++ [V.ref r3]))) r1 (rowOf 1 p m wd at_ to ps.length) := (zz1.on (SameS.of sr3)).on (SameS.upd (List.mem_cons_self ..))
  have y293 : RowK (R :: b :: qs) (upd (upd (upd (upd (upd HR2 x30 (.lst [.str "text", V.ref p])) x31 (.lst [.str "text", V.ref m])) x32 (.lst [.str "width", V.int wd])) r3 (.lst [V.ref x30, V.ref x31, V.ref x32])) R (.lst ([V.ref r0, V.ref r1, V.ref r2] ++ [V.ref r3]))) r2 (rowOf 2 p m wd at_ to ps.length) := (zz2.on (SameS.of sr3)).on (SameS.upd (List.mem_cons_self ..))
  have y393 : RowK (R :: b :: qs) (upd (upd (upd (upd (upd HR2 x30 (.lst [.str "text", V.ref p])) x31 (.lst [.str "text", V.ref m])) x32 (.lst [.str "width", V.int wd])) r3 (.lst [V.ref x30, V.ref x31, V.ref x32])) R (.lst ([V.ref r0, V.ref r1, V.ref r2] ++ [V.ref r3]))) r3 (rowOf 3 p m wd at_ to ps.length) := z3.on (SameS.upd (List.mem_cons_self ..))
  have eR3 : (upd (upd (upd (upd (upd HR2 x30 (.lst [.str "text", V.ref p])) x31 (.lst [.str "text", V.ref m])) x32 (.lst [.str "width", V.int wd])) r3 (.lst [V.ref x30, V.ref x31, V.ref x32])) R (.lst ([V.ref r0, V.ref r1, V.ref r2] ++ [V.ref r3]))) R = some (.lst [.ref r0, .ref r1, .ref r2, .ref r3]) := upd_same
  have DR3 := (DR2.same sr3).mut nRS (u := .lst ([V.ref r0, V.ref r1, V.ref r2] ++ [V.ref r3]))
  have ep3r : IL (upd (upd (upd (upd (upd HR2 x30 (.lst [.str "text", V.ref p])) x31 (.lst [.str "text", V.ref m])) x32 (.lst [.str "width", V.int wd])) r3 (.lst [V.ref x30, V.ref x31, V.ref x32])) R (.lst ([V.ref r0, V.ref r1, V.ref r2] ++ [V.ref r3]))) p ps := at_mut (ep2r.same sr3) npR
  have em3r : IL (upd (upd (upd (upd (upd HR2 x30 (.lst [.str "text", V.ref p])) x31 (.lst [.str "text", V.ref m])) x32 (.lst [.str "width", V.int wd])) r3 (.lst [V.ref x30, V.ref x31, V.ref x32])) R (.lst ([V.ref r0, V.ref r1, V.ref r2] ++ [V.ref r3]))) m ms := at_mut (em2r.same sr3) nmR
  have sq3 : SameS (R :: b :: qs) H0 (upd (upd (upd (upd (upd HR2 x30 (.lst [.str "text", V.ref p])) x31 (.lst [.str "text", V.ref m])) x32 (.lst [.str "width", V.int wd])) r3 (.lst [V.ref x30, V.ref x31, V.ref x32])) R (.lst ([V.ref r0, V.ref r1, V.ref r2] ++ [V.ref r3]))) := ((sq2).trans (SameS.of sr3)).trans (SameS.upd (List.mem_cons_self ..))
  generalize (upd (upd (upd (upd (upd HR2 x30 (.lst [.str "text", V.ref p])) x31 (.lst [.str "text", V.ref m])) x32 (.lst [.str "width", V.int wd])) r3 (.lst [V.ref x30, V.ref x31, V.ref x32])) R (.lst ([V.ref r0, V.ref r1, V.ref r2] ++ [V.ref r3]))) = HR3 at y093 y193 y293 y393 eR3 DR3 ep3r em3r sq3 ⊢
  clear z3 sr3 m3 y30 y31 y32 DR2 ep2r em2r sq2 eR2 zz0 zz1 zz2
  have zz0 := y093
  clear y093
  have zz1 := y193
  clear y193
  have zz2 := y293
  clear y293
  have zz3 := y393
  clear y393
  try dsimp only
  -- doors
  have sqF : SameS (b :: qs) H0 HR3 := SameS.cut nR0 sq3
  have less : ∀ x ∈ b :: qs, x ∈ R :: b :: qs := fun x hx => List.mem_cons_of_mem _ hx
  have rowsAt : ∀ d : Nat, d < 4 → ∃ r, ([V.ref r0, V.ref r1, V.ref r2, V.ref r3])[d]? = some (.ref r) ∧ RowK (b :: qs) HR3 r (rowOf d p m wd at_ to ps.length) := by
    intro d hd
    have : d = 0 ∨ d = 1 ∨ d = 2 ∨ d = 3 := by omega
    rcases this with rfl | rfl | rfl | rfl
    · exact ⟨r0, rfl, zz0.less less⟩
    · exact ⟨r1, rfl, zz1.less less⟩
    · exact ⟨r2, rfl, zz2.less less⟩
    · exact ⟨r3, rfl, zz3.less less⟩
  clear zz0 zz1 zz2 zz3 less sq3
  refine ⟨4, rfl, by decide, by decide, ?_⟩
  refine for_range (lo := 0) (n := 4) (fun i σ H' => ∃ k9 k10 k11 k12 k13 k14 k15 k16 k17 k18 k19 k20, σ = [some (.ref a), some (.ref b), some (.int (0 + (i0 : Int))), some (.ref p), some (.ref m), some (.int wd), some (.int at_), some (.int to), some (.ref R), k9, k10, k11, k12, k13, k14, k15, k16, k17, k18, k19, k20] ∧ SameS (b :: qs) HR3 H' ∧ Deck H' b qs (30000 * i0 + 12000 + 2000 * i))
    ⟨_, _, _, _, _, _, _, _, _, _, _, _, rfl, SameS.refl _ _, DR3⟩ ?_ ?_
  case refine_2 =>
    rintro σ H' ⟨k9, k10, k11, k12, k13, k14, k15, k16, k17, k18, k19, k20, rfl, s, D⟩
    exact ⟨_, _, _, _, _, _, _, _, _, _, _, _, _, _, _, _, _, _, _, rfl, sqF.trans s, D.mono (by omega)⟩
  clear j9 j10 j11 j12 j13 j14 j15 j16 j17 j18 j19 j20
  rintro d σ HA hd ⟨k9, k10, k11, k12, k13, k14, k15, k16, k17, k18, k19, k20, rfl, sA, DA⟩
  have hd4 : d < 4 := by omega
  have e0d : (0 : Int) + (d : Int) = (d : Int) := by omega
  rw [e0d]
  obtain ⟨r, hr1, zr⟩ := rowsAt d hd4
  obtain ⟨es, er, nr, hrow⟩ := zr.on sA
  have eRA := sA.at nRS eR3
  have epA := sA.il npS ep3r
  have emA := sA.il nmS em3r
  have hkl := hrow.len
  generalize hks : rowOf d p m wd at_ to ps.length = ks at hrow hkl
  have hk4 : ks.length ≤ 4 := by
    rw [← hks]
    have : d = 0 ∨ d = 1 ∨ d = 2 ∨ d = 3 := by omega
    rcases this with rfl | rfl | rfl | rfl <;> simp [rowOf]
  have hat : atI [V.ref r0, V.ref r1, V.ref r2, V.ref r3] (d : Int) = some (.ref r) := atI_nn (by omega) (by simpa using hr1)
  -- kinds
  refine sq_set ⟨_, rfl, _, rfl, R, _, _, _, rfl, rfl, .inl (.inl eRA), hat, r, rfl, ⟨_, .inl (.inl er)⟩, fun D1 nD1 => ?_⟩
  refine lc_mapPL (ks.map fun kv => V.str kv.1.name) (by rw [List.length_map, hkl]) (by omega) (.inl (.inl er)) nD1 (fun i x z H' hx hz2 s' => ?_) (fun HB sB eD1 => ?_)
  · obtain ⟨a', kv, rfl, ha', hk⟩ := hrow.get hx
    rw [List.getElem?_map, hk] at hz2
    cases hz2
    exact ⟨a', _, _, rfl, .inl (.inl (s' _ _ ha')), fun Q' k => ⟨_, rfl, k _ (Same.refl _)⟩⟩
  refine sq_set ⟨_, rfl, _, rfl, R, _, _, _, rfl, rfl, .inl (.inl (sB _ _ eRA)), hat, r, rfl, ⟨_, .inl (.inl (sB _ _ er))⟩, fun D2 nD2 => ?_⟩
  refine lc_mapPL (ks.map fun kv => kv.2) (by rw [List.length_map, hkl]) (by omega) (.inl (.inl (sB _ _ er))) nD2 (fun i x z H' hx hz2 s' => ?_) (fun HC sC eD2 => ?_)
  · obtain ⟨a', kv, rfl, ha', hk⟩ := hrow.get hx
    rw [List.getElem?_map, hk] at hz2
    cases hz2
    exact ⟨a', _, _, rfl, .inl (.inl (s' _ _ (sB _ _ ha'))), fun Q' k => ⟨_, rfl, k _ (Same.refl _)⟩⟩
  have eD1C := sC _ _ eD1
  have sAC := sB.trans sC
  have epC := epA.same sAC
  have emC := emA.same sAC
  have DC := DA.same sAC
  have nD1S : D1 ∉ b :: qs := DA.fresh nD1
  have nD2S : D2 ∉ b :: qs := (DA.same sB).fresh nD2
  clear nD1 nD2 hrow er eD1 sB sC
  try dsimp only
  refine sq_no (fun H' => Same HC H') (fun Q' k' => ?_) (fun HD sD => ?_)
  · have hg := ents_good (S := b :: qs) (K := K) (H := HC) (n := ps.length) ks
    rw [← hks] at hg
    obtain ⟨os, hP, hw⟩ := parts_word (good epC emC) hd4 hg
    rw [firstBad_good] at hw
    rw [hks] at hP hw
    refine ⟨_, rfl, _, rfl, (d : Int), D2, _, os, rfl, by omega, by omega, .inl (.inl eD2), hP, fun H' s' => ?_⟩
    rw [hw]
    refine ⟨rfl, _, rfl, ?_⟩
    rw [neF rfl]
    exact k' _ s'
  have epD := epC.same sD
  have emD := emC.same sD
  have DD := DC.same sD
  have eD1D := sD _ _ eD1C
  have eD2D := sD _ _ eD2
  have sAD := (sA.trans (SameS.of sAC)).trans (SameS.of sD)
  clear epA emA epC emC DC eD1C eD2 sAC sD DA sA eRA
  try dsimp only
  refine ⟨4, rfl, by decide, by decide, ?_⟩
  refine for_range (lo := 0) (n := 4) (fun i σ H' => ∃ k12 k13 k14 k15 k16 k17 k18, σ = [some (.ref a), some (.ref b), some (.int (0 + (i0 : Int))), some (.ref p), some (.ref m), some (.int wd), some (.int at_), some (.int to), some (.ref R), some (.int (d : Int)), some (.ref D1), some (.ref D2), k12, k13, k14, k15, k16, k17, k18, k19, k20] ∧ SameS (b :: qs) HD H' ∧ Deck H' b qs (30000 * i0 + 12000 + 2000 * d + 400 * i))
    ⟨_, _, _, _, _, _, _, rfl, SameS.refl _ _, DD⟩ ?_ ?_
  case refine_2 =>
    rintro σ H' ⟨k12, k13, k14, k15, k16, k17, k18, rfl, s, D⟩
    exact ⟨_, _, _, _, _, _, _, _, _, _, _, _, rfl, sAD.trans s, D.mono (by omega)⟩
  clear k12 k13 k14 k15 k16 k17 k18
  rintro i3 σ HE hi3 ⟨k12, k13, k14, k15, k16, k17, k18, rfl, sE, DE⟩
  have epE := sE.il npS epD
  have emE := sE.il nmS emD
  have eD1E := sE.at nD1S eD1D
  have eD2E := sE.at nD2S eD2D
  -- wrong, parts
  refine sq_par (cons_go ⟨Nat.zero_le _, fun wr nwr => ?_⟩)
  refine ⟨_, rfl, D2, _, rfl, .inl (.inl (.inl (at_new eD2E nwr))), fun pt npt => ⟨_, _, rfl, ?_⟩⟩
  have nwrS : wr ∉ b :: qs := DE.fresh nwr
  have nptS : pt ∉ b :: qs := (DE.new nwr).fresh npt
  have nwp : wr ≠ pt := ne_of_none upd_same npt
  have sF : Same HE (upd (upd HE wr (.lst [])) pt (.lst (ks.map fun kv => kv.2))) := (same_new nwr).trans (same_new npt)
  have eptF : (upd (upd HE wr (.lst [])) pt (.lst (ks.map fun kv => kv.2))) pt = some (.lst (ks.map fun kv => kv.2)) := upd_same
  have ewrF : (upd (upd HE wr (.lst [])) pt (.lst (ks.map fun kv => kv.2))) wr = some (.lst []) := at_new upd_same npt
  have nwrE : HE wr = none := nwr
  have nptE : HE pt = none := (same_new nwr).free npt
  generalize (upd (upd HE wr (.lst [])) pt (.lst (ks.map fun kv => kv.2))) = HF at sF eptF ewrF ⊢
  have epF := epE.same sF
  have emF := emE.same sF
  have eD1F := sF _ _ eD1E
  have eD2F := sF _ _ eD2E
  have DF := DE.same sF
  have npw : p ≠ wr := ne_of_none epE nwrE
  have npp : p ≠ pt := ne_of_none epE nptE
  have nmw : m ≠ wr := ne_of_none emE nwrE
  have nmp : m ≠ pt := ne_of_none emE nptE
  have nD1w : D1 ≠ wr := ne_of_none eD1E nwrE
  have nD1p : D1 ≠ pt := ne_of_none eD1E nptE
  have nD2w : D2 ≠ wr := ne_of_none eD2E nwrE
  have nD2p : D2 ≠ pt := ne_of_none eD2E nptE
  have nS2 : ∀ {x : Addr}, x ≠ wr → x ≠ pt → x ∉ b :: qs → x ∉ pt :: wr :: b :: qs := fun {x} h1 h2 h3 hm => (List.mem_cons.mp hm).elim h2 fun hm => (List.mem_cons.mp hm).elim h1 h3
  have hbS : ∀ x ∈ b :: qs, x ∈ pt :: wr :: b :: qs := fun x hx => List.mem_cons_of_mem _ (List.mem_cons_of_mem _ hx)
  have liveF : Live (pt :: wr :: b :: qs) HF := fun x hx => by
    rcases List.mem_cons.mp hx with rfl | hx
    · exact ⟨_, eptF⟩
    · rcases List.mem_cons.mp hx with rfl | hx
      · exact ⟨_, ewrF⟩
      · cases e : HF x with
        | some o => exact ⟨o, rfl⟩
        | none => exact (DF.fresh e hx).elim
  try dsimp only
  refine ⟨_, rfl, D2, _, rfl, .inl (.inl (.inl eD2F)), _, rfl, by omega, by rw [List.length_map]; omega, ?_⟩
  rw [show (((ks.map fun kv => kv.2).length : Nat) : Int) = (ks.length : Int) by rw [List.length_map]]
  refine for_range (lo := 0) (n := ks.length) (fun i σ H' => ∃ k15 xs fs, σ = [some (.ref a), some (.ref b), some (.int (0 + (i0 : Int))), some (.ref p), some (.ref m), some (.int wd), some (.int at_), some (.int to), some (.ref R), some (.int (d : Int)), some (.ref D1), some (.ref D2), some (.int (0 + (i3 : Int))), some (.ref wr), some (.ref pt), k15, k16, k17, k18, k19, k20] ∧ SameS (pt :: wr :: b :: qs) HF H' ∧ Deck H' b qs (30000 * i0 + 12000 + 2000 * d + 400 * i3 + 30 * i) ∧ Live (pt :: wr :: b :: qs) H' ∧ H' pt = some (.lst xs) ∧ H' wr = some (.lst (iV (idxFrom 0 fs))) ∧ Ents (pt :: wr :: b :: qs) K H' ps.length xs ks fs ∧ ∀ j : Nat, i ≤ j → fs[j]? ≠ some true)
    ⟨_, _, ks.map fun _ => false, rfl, SameS.refl _ _, DF, liveF, eptF, by rw [idx_none (ks.map fun _ => false) 0 fun j h => by rw [List.getElem?_map] at h; cases e : ks[j]? <;> rw [e] at h <;> cases h]; exact ewrF, ents_good ks, fun j _ h => by rw [List.getElem?_map] at h; cases e : ks[j]? <;> rw [e] at h <;> cases h⟩ ?_ ?_
  case refine_1 =>
    rintro i σ HG hi ⟨k15, xs, fs, rfl, sG, DG, liveG, ept, ewr, hE, hf⟩
    obtain ⟨hxl, hfl⟩ := hE.len
    obtain ⟨kv, hkv⟩ : ∃ kv, ks[i]? = some kv := ⟨_, List.getElem?_eq_getElem hi⟩
    have eD1G := sG.at (nS2 nD1w nD1p nD1S) eD1F
    have epG := sG.il (nS2 npw npp npS) epF
    refine ⟨_, rfl, b, qs, _, 3, rfl, DG, by omega, by decide, .inl (by decide), fun r HH r0 r1 DH sH => ⟨rfl, _, rfl, ?_⟩⟩
    have eptH := sH.at nptS ept
    have ewrH := sH.at nwrS ewr
    have liveH := liveG.deck sH DH
    by_cases c : V.int r = V.int 0
    · refine ifT (eqT c) ?_
      refine sq_drop ⟨_, rfl, .inl ⟨rfl, _, .inl (.inl ewrH)⟩, _, rfl, wr, _, _, rfl, rfl, ewrH, ?_, ?_⟩
      · have := (idx_small fs 0).1
        rw [List.length_map]
        omega
      have eptI : (upd HH wr (.lst (iV (idxFrom 0 fs) ++ [.int (0 + (i : Int))]))) pt = some (.lst xs) := at_mut eptH (Ne.symm nwp)
      have ewrI : (upd HH wr (.lst (iV (idxFrom 0 fs) ++ [.int (0 + (i : Int))]))) wr = some (.lst (iV (idxFrom 0 fs) ++ [.int (0 + (i : Int))])) := upd_same
      have DI := DH.mut nwrS (u := .lst (iV (idxFrom 0 fs) ++ [.int (0 + (i : Int))]))
      have liveI := liveH.upd (a := wr) (o := .lst (iV (idxFrom 0 fs) ++ [.int (0 + (i : Int))]))
      have sGI : SameS (pt :: wr :: b :: qs) HG (upd HH wr (.lst (iV (idxFrom 0 fs) ++ [.int (0 + (i : Int))]))) := (sH.mem hbS).trans (SameS.upd (List.mem_cons_of_mem _ (List.mem_cons_self ..)))
      generalize (upd HH wr (.lst (iV (idxFrom 0 fs) ++ [.int (0 + (i : Int))]))) = HI at eptI ewrI DI liveI sGI ⊢
      have eD1I := sGI.at (nS2 nD1w nD1p nD1S) eD1G
      have epI := sGI.il (nS2 npw npp npS) epG
      have hk : atI (ks.map fun kv => V.str kv.1.name) (0 + (i : Int)) = some (.str kv.1.name) := by
        rw [show (0 : Int) + (i : Int) = (i : Int) by omega]
        exact atI_nn (by omega) (by rw [List.getElem?_map, Int.toNat_natCast, hkv]; rfl)
      refine ⟨_, rfl, _, rfl, _, rfl, D1, _, _, _, rfl, rfl, .inl (.inl eD1I), hk, _, rfl, pt :: wr :: b :: qs, b, qs, _, kv.1, p, ps, rfl, liveI, hbS, DI, by omega, npS, epI, tp, fun v HJ sJ DJ aJ => ?_⟩
      have eptJ := sJ.at nptS eptI
      have ewrJ := sJ.at nwrS ewrI
      have liveJ := liveI.deck sJ DJ
      refine ⟨_, rfl, _, rfl, pt, _, _, _, rfl, rfl, eptJ, (by rw [show (0 : Int) + (i : Int) = (i : Int) by omega]; exact ixN_nn (by omega) (by omega)), ?_⟩
      rw [Int.toNat_natCast]
      have sJK : SameS (pt :: wr :: b :: qs) HJ (upd HJ pt (.lst (xs.set i v))) := SameS.upd (List.mem_cons_self ..)
      refine ⟨_, xs.set i v, fs.set i true, rfl, ((sG.trans sGI).trans (sJ.mem hbS)).trans sJK, (DJ.mut nptS).mono (by omega), liveJ.upd, upd_same, ?_, (((hE.on sGI).on (sJ.mem hbS)).on sJK).set hkv (aJ.on sJK), ?_⟩
      · have e3 : ((0 + i : Nat) : Int) = 0 + (i : Int) := by omega
        rw [idx_set fs 0 i (by omega) hf, e3, ← ints_push]
        exact at_mut ewrJ nwp
      · intro j hj
        rw [List.getElem?_set_ne (by omega)]
        exact hf j (by omega)
    · exact ifF (eqF c) ⟨_, xs, fs, rfl, sG.trans (sH.mem hbS), DH.mono (by omega), liveH, eptH, ewrH, hE.on (sH.mem hbS), fun j hj => hf j (by omega)⟩
  rintro σ HG ⟨k15, xs, fs, rfl, sG, DG, liveG, ept, ewr, hE, hf⟩
  obtain ⟨hxl, hfl⟩ := hE.len
  have sEG : SameS (b :: qs) HE HG := SameS.cut nwrE (SameS.cut nptE ((SameS.of sF).trans sG))
  have eD1G := sG.at (nS2 nD1w nD1p nD1S) eD1F
  have epG := sG.il (nS2 npw npp npS) epF
  have emG := sG.il (nS2 nmw nmp nmS) emF
  obtain ⟨ix1, ix2⟩ := idx_first ks fs 0 hfl
  have ixs := (idx_small fs 0).2
  clear sF eptF ewrF DF liveF eD1F eD2F epF emF epE emE eD1E eD2E nwrE nptE sG liveG
  have gv : ∀ H', Same HG H' → ∀ kv ∈ ks, ∃ d, Dp K H' kv.2 d ∧ Nz 3000000 8 d := fun H' s' kv hkv => by
    have d1 : Dp K H' (.ref p) (.list (ps.map .int)) := dp_ints (epG.same s')
    have d2 : Dp K H' (.ref m) (.list (ms.map .int)) := dp_ints (emG.same s')
    have n1 : Nz 3000000 8 (.list (ps.map .int)) := (Nc.ints tp.len tp.small).z.mono (by decide) (by decide)
    have n2 : Nz 3000000 8 (.list (ms.map .int)) := (Nc.ints tm.len tm.small).z.mono (by decide) (by decide)
    have ni : ∀ z : Int, z.natAbs < 100000 → ∃ d, Dp K H' (.int z) d ∧ Nz 3000000 8 d := fun z h => ⟨.int z, .int _, (Nc.intS h).z.mono (by decide) (by decide)⟩
    rw [← hks] at hkv
    have : d = 0 ∨ d = 1 ∨ d = 2 ∨ d = 3 := by omega
    rcases this with rfl | rfl | rfl | rfl <;> simp only [rowOf, List.mem_cons, List.not_mem_nil, or_false] at hkv
    · rcases hkv with rfl | rfl | rfl
      · exact ⟨_, d1, n1⟩
      · exact ni _ (by omega)
      · exact ni _ (by omega)
    · rcases hkv with rfl | rfl | rfl | rfl
      · exact ⟨_, d1, n1⟩
      · exact ni _ (by omega)
      · exact ni _ (by omega)
      · exact ni _ (by omega)
    · rcases hkv with rfl | rfl | rfl | rfl
      · exact ⟨_, d1, n1⟩
      · exact ni _ (by omega)
      · exact ni _ (by omega)
      · exact ⟨_, d2, n2⟩
    · rcases hkv with rfl | rfl | rfl
      · exact ⟨_, d1, n1⟩
      · exact ⟨_, d2, n2⟩
      · exact ni _ (by omega)
  have pw : ∀ H', Same HG H' → ∃ os, PartsOk K H' (d : Int) xs os ∧ wordFor (d : Int) xs os = firstBad ks fs := fun H' s' => by
    have hg := hE.on (SameS.of s')
    rw [← hks] at hg
    have := parts_word (good (epG.same s') (emG.same s')) hd4 hg
    rwa [hks] at this
  obtain ⟨ds, dz, nz⟩ := ents_repr hE (gv HG (Same.refl _))
  have hsm := firstBad_small ks fs
  generalize hwd2 : firstBad ks fs = word at ix1 ix2 pw hsm
  try dsimp only
  -- kept
  have nzl := Nz.list nz
  refine sq_set (cb1 ⟨_, rfl, nzl.repr (.lst (.inl (.inl ept)) dz) (by omega) (by decide) ?_⟩)
  -- due
  refine sq_set (cutE (fun v H' => Same HG H' ∧ v = .str word) (fun Q' k => ?_) ?_)
  · refine ⟨_, rfl, Nat.zero_le _, fun q1 n1 => ⟨_, .list (([] : List Int).map .int), dp_ints (at_new ewr n1), dp_ints (ns := []) upd_same, shaped_ints _, shaped_ints _, _, rfl, ?_⟩⟩
    rw [eqvL]
    cases hix : idxFrom 0 fs with
    | nil =>
      rw [decide_eq_true rfl]
      exact ifF rfl (k _ _ ⟨same_new n1, by rw [ix1 hix]⟩)
    | cons x rest =>
      rw [decide_eq_false (by simp)]
      obtain ⟨i, kv, e1, e2, e3⟩ := ix2 x rest hix
      rw [hix] at ewr ixs
      have x0 := ixs x (List.mem_cons_self ..)
      refine ifT rfl ⟨_, rfl, _, rfl, wr, _, 0, .int x, rfl, rfl, .inl (.inl (at_new ewr n1)), atI_nn (by decide) rfl, D1, _, x, .str kv.1.name, rfl, rfl, .inl (.inl (at_new eD1G n1)), ?_, k _ _ ⟨same_new n1, by rw [e3]⟩⟩
      exact atI_nn x0.1 (by rw [List.getElem?_map, e1, Nat.zero_add, Int.toNat_natCast, e2]; rfl)
  rintro _ HH ⟨sH, rfl⟩
  have eptH := sH _ _ ept
  try dsimp only
  -- found
  obtain ⟨os1, hP1, hw1⟩ := pw HH sH
  refine sq_set ⟨_, rfl, _, rfl, (d : Int), pt, xs, os1, rfl, by omega, by omega, .inl (.inl eptH), hP1, fun HI sI => ?_⟩
  rw [hw1]
  obtain ⟨os2, hP2, hw2⟩ := pw HI (sH.trans sI)
  refine ⟨_, rfl, _, rfl, (d : Int), pt, xs, os2, rfl, by omega, by omega, .inl (.inl (sI _ _ eptH)), hP2, fun HJ sJ => ?_⟩
  rw [hw2]
  refine ⟨(by show 2 ≤ sizeLine; decide), fun fo nfo => ?_⟩
  have sK : Same HG (upd HJ fo (.lst [.str word, .str word])) := ((sH.trans sI).trans sJ).trans (same_new nfo)
  have efo : (upd HJ fo (.lst [.str word, .str word])) fo = some (.lst ([word, word].map V.str)) := upd_same
  generalize (upd HJ fo (.lst [.str word, .str word])) = HK at sK efo ⊢
  clear sH sI sJ eptH hP1 hP2 nfo
  try dsimp only
  refine if_no (fun H' => Same HK H') (fun Q' k' => ?_) (fun HL sL => ⟨_, _, _, _, _, _, _, rfl, (sE.trans sEG).trans (SameS.of (sK.trans sL)), ((DG.same sK).same sL).mono (by omega)⟩)
  refine or_no (fun H' => Same HK H') (fun Q3 k3 => ?_) (fun HM sM => ?_)
  · refine ⟨_, rfl, _, rfl, _, rfl, (by show 2 ≤ sizeLine; decide), fun lq nlq => ?_⟩
    have nn : Nc ((12 * 10 + 4) * 2 + 3) 1 (.list ([word, word].map .str)) := Nc.strs (by simp) (fun z hz3 => by
      simp only [List.mem_cons, List.not_mem_nil, or_false, or_self] at hz3
      rw [hz3]
      exact hsm)
    exact nn.neD (dp_strs (at_new efo nlq)) (dp_strs (ps := [word, word]) upd_same) (by decide) ⟨_, rfl, k3 _ (same_new nlq)⟩
  · have sGM := sK.trans sM
    refine tt_go (op_go (cb1 ⟨_, rfl, nzl.repr (.lst (.inl (.inl (sGM _ _ ept))) (dzA_same sGM _ _ dz)) (by omega) (by decide) ⟨_, rfl, rfl, _, rfl, ?_⟩⟩))
    rw [neF rfl]
    exact k' _ sM
end
/-! ### the head: facts by names -/
def d_is_integer : He.DefD := ⟨("is_integer", none), "is_integer", "is_integer", defArgs (top 19), defBody (top 19), defScope (top 19), [.non], []⟩
def d_is_width : He.DefD := ⟨("is_width", none), "is_width", "is_width", defArgs (top 20), defBody (top 20), defScope (top 20), [], []⟩
def d_total_of : He.DefD := ⟨("total_of", none), "total_of", "total_of", defArgs (top 21), defBody (top 21), defScope (top 21), [], []⟩
def d_are_lengths : He.DefD := ⟨("are_lengths", none), "are_lengths", "are_lengths", defArgs (top 22), defBody (top 22), defScope (top 22), [], []⟩
def d_is_text : He.DefD := ⟨("is_text", none), "is_text", "is_text", defArgs (top 23), defBody (top 23), defScope (top 23), [], []⟩
def d_require_text : He.DefD := ⟨("require_text", none), "require_text", "require_text", defArgs (top 24), defBody (top 24), defScope (top 24), [], []⟩
def d_require_width : He.DefD := ⟨("require_width", none), "require_width", "require_width", defArgs (top 25), defBody (top 25), defScope (top 25), [], []⟩
def d_ends_of : He.DefD := ⟨("ends_of", none), "ends_of", "ends_of", defArgs (top 26), defBody (top 26), defScope (top 26), [], []⟩
def d_starts_of : He.DefD := ⟨("starts_of", none), "starts_of", "starts_of", defArgs (top 27), defBody (top 27), defScope (top 27), [], []⟩
def d_lengths_of : He.DefD := ⟨("lengths_of", none), "lengths_of", "lengths_of", defArgs (top 28), defBody (top 28), defScope (top 28), [], []⟩
def d_wrapped_ends : He.DefD := ⟨("wrapped_ends", none), "wrapped_ends", "wrapped_ends", defArgs (top 29), defBody (top 29), defScope (top 29), [], []⟩
def d_wrap_of : He.DefD := ⟨("wrap_of", none), "wrap_of", "wrap_of", defArgs (top 30), defBody (top 30), defScope (top 30), [], []⟩
def d_wrap_text : He.DefD := ⟨("wrap_text", none), "wrap_text", "wrap_text", defArgs (top 31), defBody (top 31), defScope (top 31), [], []⟩
def d_require_word : He.DefD := ⟨("require_word", none), "require_word", "require_word", defArgs (top 33), defBody (top 33), defScope (top 33), [], []⟩
def d_wrap_from : He.DefD := ⟨("wrap_from", none), "wrap_from", "wrap_from", defArgs (top 34), defBody (top 34), defScope (top 34), [], []⟩
def d_first_words : He.DefD := ⟨("first_words", none), "first_words", "first_words", defArgs (top 35), defBody (top 35), defScope (top 35), [], []⟩
def d_meeting_word : He.DefD := ⟨("meeting_word", none), "meeting_word", "meeting_word", defArgs (top 36), defBody (top 36), defScope (top 36), [], []⟩
def d_replace_words : He.DefD := ⟨("replace_words", none), "replace_words", "replace_words", defArgs (top 37), defBody (top 37), defScope (top 37), [], []⟩
def d_common_count : He.DefD := ⟨("common_count", none), "common_count", "common_count", defArgs (top 38), defBody (top 38), defScope (top 38), [], []⟩
def d_changed_lines : He.DefD := ⟨("changed_lines", none), "changed_lines", "changed_lines", defArgs (top 39), defBody (top 39), defScope (top 39), [], []⟩
def d__law_deck : He.DefD := ⟨("_law_deck", none), "_law_deck", "_law_deck", defArgs (top 41), defBody (top 41), defScope (top 41), [], []⟩
def d__law_draw : He.DefD := ⟨("_law_draw", none), "_law_draw", "_law_draw", defArgs (top 42), defBody (top 42), defScope (top 42), [], []⟩
def d__law_span : He.DefD := ⟨("_law_span", none), "_law_span", "_law_span", defArgs (top 43), defBody (top 43), defScope (top 43), [], []⟩
def d__law_plan : He.DefD := ⟨("_law_plan", none), "_law_plan", "_law_plan", defArgs (top 44), defBody (top 44), defScope (top 44), [], []⟩
def d__law_word_of : He.DefD := ⟨("_law_word_of", none), "_law_word_of", "_law_word_of", defArgs (top 45), defBody (top 45), defScope (top 45), [], []⟩
def d__law_told : He.DefD := ⟨("_law_told", none), "_law_told", "_law_told", defArgs (top 46), defBody (top 46), defScope (top 46), [], []⟩
def d__law_told_named : He.DefD := ⟨("_law_told_named", none), "_law_told_named", "_law_told_named", defArgs (top 47), defBody (top 47), defScope (top 47), [], []⟩
def d__law_no_plan : He.DefD := ⟨("_law_no_plan", none), "_law_no_plan", "_law_no_plan", defArgs (top 48), defBody (top 48), defScope (top 48), [], []⟩
def d__law_bad : He.DefD := ⟨("_law_bad", none), "_law_bad", "_law_bad", defArgs (top 49), defBody (top 49), defScope (top 49), [], []⟩
def d_law : He.DefD := ⟨("law", none), "law", "law", defArgs (top 50), defBody (top 50), defScope (top 50), [], []⟩
def fn : List He.DefD := [d_is_integer, d_is_width, d_total_of, d_are_lengths, d_is_text, d_require_text, d_require_width, d_ends_of, d_starts_of, d_lengths_of, d_wrapped_ends, d_wrap_of, d_wrap_text, d_require_word, d_wrap_from, d_first_words, d_meeting_word, d_replace_words, d_common_count, d_changed_lines, d__law_deck, d__law_draw, d__law_span, d__law_plan, d__law_word_of, d__law_told, d__law_told_named, d__law_no_plan, d__law_bad, d_law]
def fa : List He.Fa := [.glo "is_integer", .glo "is_width", .glo "total_of", .glo "are_lengths", .glo "is_text", .glo "require_text", .glo "require_width", .glo "ends_of", .glo "starts_of", .glo "lengths_of", .glo "wrapped_ends", .glo "wrap_of", .glo "wrap_text", .glo "require_word", .glo "wrap_from", .glo "first_words", .glo "meeting_word", .glo "replace_words", .glo "common_count", .glo "changed_lines", .glo "_law_deck", .glo "_law_draw", .glo "_law_span", .glo "_law_plan", .glo "_law_word_of", .glo "_law_told", .glo "_law_told_named", .glo "_law_no_plan", .glo "_law_bad", .glo "law", .free "ValueError", .free "all", .free "bool", .free "int", .free "isinstance", .free "len", .free "list", .free "max", .free "min", .free "range", .free "repr", .free "sum", .free "tuple", .free "zip", .int "MAX_CHARACTERS" 600, .int "MAX_WIDTH" 1000, .glo "InvalidIndex", .exc "InvalidIndex", .glo "InvalidLengths", .exc "InvalidLengths", .glo "InvalidNumber", .exc "InvalidNumber", .glo "InvalidText", .exc "InvalidText", .glo "InvalidWidth", .exc "InvalidWidth", .glo "WrapCluesError", .exc "WrapCluesError", .glo "InvalidCommand", .glo "InvalidIndex", .glo "InvalidLengths", .glo "InvalidNumber", .glo "InvalidPosition", .glo "InvalidRange", .glo "InvalidScreens", .glo "InvalidText", .glo "InvalidWidth", .glo "NoScreens", .glo "NotFitting", .glo "NothingToUndo", .glo "ParseError", .glo "ScreensClash", .glo "WrapCluesError", .exm "InvalidIndex" "WrapCluesError" true, .exm "InvalidLengths" "WrapCluesError" true, .exm "InvalidNumber" "WrapCluesError" true, .exm "InvalidText" "WrapCluesError" true, .exm "InvalidWidth" "WrapCluesError" true, .exm "WrapCluesError" "WrapCluesError" true]
abbrev R : PySem.W.OpenRow := PySem.W.OpenLaw.row PySem.Challenge.rw_wrapclues_k49_reflow_errors
abbrev hk : PySem.W.Hook := hookZ 4 fa fn (exB2 ["InvalidIndex", "InvalidLengths", "InvalidNumber", "InvalidText", "InvalidWidth"] ["InvalidCommand", "InvalidIndex", "InvalidLengths", "InvalidNumber", "InvalidPosition", "InvalidRange", "InvalidScreens", "InvalidText", "InvalidWidth", "NoScreens", "NotFitting", "NothingToUndo", "ParseError", "ScreensClash"])
def ob (s : PySem.W.SharedT) : He.AlD := obsZG 4 fa fn (exB2 ["InvalidIndex", "InvalidLengths", "InvalidNumber", "InvalidText", "InvalidWidth"] ["InvalidCommand", "InvalidIndex", "InvalidLengths", "InvalidNumber", "InvalidPosition", "InvalidRange", "InvalidScreens", "InvalidText", "InvalidWidth", "NoScreens", "NotFitting", "NothingToUndo", "ParseError", "ScreensClash"]) (HandSHeadRun.getT s)
theorem ob_eq (s : PySem.W.SharedT) : ob s = hk.obs s.abs := obsZG_eq (HandSHeadRun.getT_eq s)
def loose0 : List Str := ["is_integer", "is_width", "total_of", "are_lengths", "is_text", "require_text", "require_width", "ends_of", "starts_of", "lengths_of", "wrapped_ends", "wrap_of", "wrap_text", "require_word", "wrap_from", "first_words", "meeting_word", "replace_words", "common_count", "changed_lines", "_law_deck", "_law_draw", "_law_span", "_law_plan", "_law_word_of", "_law_told", "_law_told_named", "_law_no_plan", "_law_bad", "WrapCluesError"]
def loose1 : List Str := ["InvalidText", "InvalidWidth", "InvalidNumber", "InvalidScreens", "ScreensClash", "InvalidPosition", "NotFitting", "InvalidLengths", "InvalidRange", "InvalidIndex", "NothingToUndo", "ParseError", "InvalidCommand", "NoScreens", "MAX_CHARACTERS", "MAX_WIDTH"]
abbrev loose : List Str := loose0 ++ loose1
theorem run (w : World) : HandSHeadRun.RunEq R (PySem.W.view R.prog [50]) hk ob 6000 loose w := by
  intro os
  kernel_rfl
theorem facts {P : Program} {w : World} {K : PySem.W.Frag} {h : Heap} {mg : Str → Option Value} {f : Addr} (X : K.In h) (G : h.Ns mainGlobals mg) (hfa : mg ("law" : Str) = some (.ref f)) (c : He.SaysD fa fn K) (cx : exB2 ["InvalidIndex", "InvalidLengths", "InvalidNumber", "InvalidText", "InvalidWidth"] ["InvalidCommand", "InvalidIndex", "InvalidLengths", "InvalidNumber", "InvalidPosition", "InvalidRange", "InvalidScreens", "InvalidText", "InvalidWidth", "NoScreens", "NotFitting", "NothingToUndo", "ParseError", "ScreensClash"] K = true) :
    ∃ fd : FuncData, (∀ (s : Shared) (u : Value), BindsTo s fd ⟨[u], []⟩ [("script", u)]) ∧ ∀ base : Heap, K.In base → base.Ns mainGlobals mg → FnG P w K mg base 8 f fd ["script"] (sp_law K) := by
  obtain ⟨fd_is_integer, F_is_integer⟩ := c.def_ 0 (d := d_is_integer) rfl
  obtain ⟨fd_is_width, F_is_width⟩ := c.def_ 1 (d := d_is_width) rfl
  obtain ⟨fd_total_of, F_total_of⟩ := c.def_ 2 (d := d_total_of) rfl
  obtain ⟨fd_are_lengths, F_are_lengths⟩ := c.def_ 3 (d := d_are_lengths) rfl
  obtain ⟨fd_is_text, F_is_text⟩ := c.def_ 4 (d := d_is_text) rfl
  obtain ⟨fd_require_text, F_require_text⟩ := c.def_ 5 (d := d_require_text) rfl
  obtain ⟨fd_require_width, F_require_width⟩ := c.def_ 6 (d := d_require_width) rfl
  obtain ⟨fd_ends_of, F_ends_of⟩ := c.def_ 7 (d := d_ends_of) rfl
  obtain ⟨fd_starts_of, F_starts_of⟩ := c.def_ 8 (d := d_starts_of) rfl
  obtain ⟨fd_lengths_of, F_lengths_of⟩ := c.def_ 9 (d := d_lengths_of) rfl
  obtain ⟨fd_wrapped_ends, F_wrapped_ends⟩ := c.def_ 10 (d := d_wrapped_ends) rfl
  obtain ⟨fd_wrap_of, F_wrap_of⟩ := c.def_ 11 (d := d_wrap_of) rfl
  obtain ⟨fd_wrap_text, F_wrap_text⟩ := c.def_ 12 (d := d_wrap_text) rfl
  obtain ⟨fd_require_word, F_require_word⟩ := c.def_ 13 (d := d_require_word) rfl
  obtain ⟨fd_wrap_from, F_wrap_from⟩ := c.def_ 14 (d := d_wrap_from) rfl
  obtain ⟨fd_first_words, F_first_words⟩ := c.def_ 15 (d := d_first_words) rfl
  obtain ⟨fd_meeting_word, F_meeting_word⟩ := c.def_ 16 (d := d_meeting_word) rfl
  obtain ⟨fd_replace_words, F_replace_words⟩ := c.def_ 17 (d := d_replace_words) rfl
  obtain ⟨fd_common_count, F_common_count⟩ := c.def_ 18 (d := d_common_count) rfl
  obtain ⟨fd_changed_lines, F_changed_lines⟩ := c.def_ 19 (d := d_changed_lines) rfl
  obtain ⟨fd__law_deck, F__law_deck⟩ := c.def_ 20 (d := d__law_deck) rfl
  obtain ⟨fd__law_draw, F__law_draw⟩ := c.def_ 21 (d := d__law_draw) rfl
  obtain ⟨fd__law_span, F__law_span⟩ := c.def_ 22 (d := d__law_span) rfl
  obtain ⟨fd__law_plan, F__law_plan⟩ := c.def_ 23 (d := d__law_plan) rfl
  obtain ⟨fd__law_word_of, F__law_word_of⟩ := c.def_ 24 (d := d__law_word_of) rfl
  obtain ⟨fd__law_told, F__law_told⟩ := c.def_ 25 (d := d__law_told) rfl
  obtain ⟨fd__law_told_named, F__law_told_named⟩ := c.def_ 26 (d := d__law_told_named) rfl
  obtain ⟨fd__law_no_plan, F__law_no_plan⟩ := c.def_ 27 (d := d__law_no_plan) rfl
  obtain ⟨fd__law_bad, F__law_bad⟩ := c.def_ 28 (d := d__law_bad) rfl
  obtain ⟨fd_law, F_law⟩ := c.def_ 29 (d := d_law) rfl
  have g_is_integer := He.glo_ok X G (c.fact 0 (f := .glo "is_integer") rfl)
  have g_is_width := He.glo_ok X G (c.fact 1 (f := .glo "is_width") rfl)
  have g_total_of := He.glo_ok X G (c.fact 2 (f := .glo "total_of") rfl)
  have g_are_lengths := He.glo_ok X G (c.fact 3 (f := .glo "are_lengths") rfl)
  have g_is_text := He.glo_ok X G (c.fact 4 (f := .glo "is_text") rfl)
  have g_require_text := He.glo_ok X G (c.fact 5 (f := .glo "require_text") rfl)
  have g_require_width := He.glo_ok X G (c.fact 6 (f := .glo "require_width") rfl)
  have g_ends_of := He.glo_ok X G (c.fact 7 (f := .glo "ends_of") rfl)
  have g_starts_of := He.glo_ok X G (c.fact 8 (f := .glo "starts_of") rfl)
  have g_lengths_of := He.glo_ok X G (c.fact 9 (f := .glo "lengths_of") rfl)
  have g_wrapped_ends := He.glo_ok X G (c.fact 10 (f := .glo "wrapped_ends") rfl)
  have g_wrap_of := He.glo_ok X G (c.fact 11 (f := .glo "wrap_of") rfl)
  have g_wrap_text := He.glo_ok X G (c.fact 12 (f := .glo "wrap_text") rfl)
  have g_require_word := He.glo_ok X G (c.fact 13 (f := .glo "require_word") rfl)
  have g_wrap_from := He.glo_ok X G (c.fact 14 (f := .glo "wrap_from") rfl)
  have g_first_words := He.glo_ok X G (c.fact 15 (f := .glo "first_words") rfl)
  have g_meeting_word := He.glo_ok X G (c.fact 16 (f := .glo "meeting_word") rfl)
  have g_replace_words := He.glo_ok X G (c.fact 17 (f := .glo "replace_words") rfl)
  have g_common_count := He.glo_ok X G (c.fact 18 (f := .glo "common_count") rfl)
  have g_changed_lines := He.glo_ok X G (c.fact 19 (f := .glo "changed_lines") rfl)
  have g__law_deck := He.glo_ok X G (c.fact 20 (f := .glo "_law_deck") rfl)
  have g__law_draw := He.glo_ok X G (c.fact 21 (f := .glo "_law_draw") rfl)
  have g__law_span := He.glo_ok X G (c.fact 22 (f := .glo "_law_span") rfl)
  have g__law_plan := He.glo_ok X G (c.fact 23 (f := .glo "_law_plan") rfl)
  have g__law_word_of := He.glo_ok X G (c.fact 24 (f := .glo "_law_word_of") rfl)
  have g__law_told := He.glo_ok X G (c.fact 25 (f := .glo "_law_told") rfl)
  have g__law_told_named := He.glo_ok X G (c.fact 26 (f := .glo "_law_told_named") rfl)
  have g__law_no_plan := He.glo_ok X G (c.fact 27 (f := .glo "_law_no_plan") rfl)
  have g__law_bad := He.glo_ok X G (c.fact 28 (f := .glo "_law_bad") rfl)
  have g_law := He.glo_ok X G (c.fact 29 (f := .glo "law") rfl)
  have W : Wd K mg := ⟨He.free_ok X G (c.fact 30 (f := .free "ValueError") rfl), He.free_ok X G (c.fact 31 (f := .free "all") rfl), He.free_ok X G (c.fact 32 (f := .free "bool") rfl), He.free_ok X G (c.fact 33 (f := .free "int") rfl), He.free_ok X G (c.fact 34 (f := .free "isinstance") rfl), He.free_ok X G (c.fact 35 (f := .free "len") rfl), He.free_ok X G (c.fact 36 (f := .free "list") rfl), He.free_ok X G (c.fact 37 (f := .free "max") rfl), He.free_ok X G (c.fact 38 (f := .free "min") rfl), He.free_ok X G (c.fact 39 (f := .free "range") rfl), He.free_ok X G (c.fact 40 (f := .free "repr") rfl), He.free_ok X G (c.fact 41 (f := .free "sum") rfl), He.free_ok X G (c.fact 42 (f := .free "tuple") rfl), He.free_ok X G (c.fact 43 (f := .free "zip") rfl), He.int_ok X G (c.fact 44 (f := .int "MAX_CHARACTERS" 600) rfl), He.int_ok X G (c.fact 45 (f := .int "MAX_WIDTH" 1000) rfl), excF_of X G (c.fact 46 (f := .glo "InvalidIndex") rfl) (c.fact 47 (f := .exc "InvalidIndex") rfl), excF_of X G (c.fact 48 (f := .glo "InvalidLengths") rfl) (c.fact 49 (f := .exc "InvalidLengths") rfl), excF_of X G (c.fact 50 (f := .glo "InvalidNumber") rfl) (c.fact 51 (f := .exc "InvalidNumber") rfl), excF_of X G (c.fact 52 (f := .glo "InvalidText") rfl) (c.fact 53 (f := .exc "InvalidText") rfl), excF_of X G (c.fact 54 (f := .glo "InvalidWidth") rfl) (c.fact 55 (f := .exc "InvalidWidth") rfl), excF_of X G (c.fact 56 (f := .glo "WrapCluesError") rfl) (c.fact 57 (f := .exc "WrapCluesError") rfl), He.glo_ok X G (c.fact 58 (f := .glo "InvalidCommand") rfl), He.glo_ok X G (c.fact 59 (f := .glo "InvalidIndex") rfl), He.glo_ok X G (c.fact 60 (f := .glo "InvalidLengths") rfl), He.glo_ok X G (c.fact 61 (f := .glo "InvalidNumber") rfl), He.glo_ok X G (c.fact 62 (f := .glo "InvalidPosition") rfl), He.glo_ok X G (c.fact 63 (f := .glo "InvalidRange") rfl), He.glo_ok X G (c.fact 64 (f := .glo "InvalidScreens") rfl), He.glo_ok X G (c.fact 65 (f := .glo "InvalidText") rfl), He.glo_ok X G (c.fact 66 (f := .glo "InvalidWidth") rfl), He.glo_ok X G (c.fact 67 (f := .glo "NoScreens") rfl), He.glo_ok X G (c.fact 68 (f := .glo "NotFitting") rfl), He.glo_ok X G (c.fact 69 (f := .glo "NothingToUndo") rfl), He.glo_ok X G (c.fact 70 (f := .glo "ParseError") rfl), He.glo_ok X G (c.fact 71 (f := .glo "ScreensClash") rfl), He.glo_ok X G (c.fact 72 (f := .glo "WrapCluesError") rfl), exm_fact (c.fact 73 (f := .exm "InvalidIndex" "WrapCluesError" true) rfl), exm_fact (c.fact 74 (f := .exm "InvalidLengths" "WrapCluesError" true) rfl), exm_fact (c.fact 75 (f := .exm "InvalidNumber" "WrapCluesError" true) rfl), exm_fact (c.fact 76 (f := .exm "InvalidText" "WrapCluesError" true) rfl), exm_fact (c.fact 77 (f := .exm "InvalidWidth" "WrapCluesError" true) rfl), exm_fact (c.fact 78 (f := .exm "WrapCluesError" "WrapCluesError" true) rfl), (ex_ok2 cx).1, (ex_ok2 cx).2, exb_ok cx⟩
  have e := hfa.symm.trans g_law
  cases e
  have b := FunD.bindsA (ps := ["script"]) F_law fun _ _ _ _ _ _ us hl => match us, hl with | [_], _ => rfl
  refine ⟨fd_law, fun s u => b s [u] rfl, fun base _ _ => ?_⟩
  have o_is_integer : FnOk P w K mg base CX0 1 _ fd_is_integer ["value", "low", "high"] (sp_is_integer K) := ok_is_integer F_is_integer W 
  obtain ⟨ds_c_is_integer, r_c_is_integer, b_c_is_integer⟩ := F_is_integer.binds1 (ps := ["value", "low", "high"]) 3 1 (List.cons_ne_nil _ _) rfl (fun T kV doc pm an cdv ct us its h1 h2 => match us, h1, its, h2 with | [_, _, _], _, [_], _ => ⟨_, rfl, rfl⟩)
  have c_is_integer : Cal P w K mg base CX0 1 "is_integer" ["value", "low", "high"] [] (sp_is_integer K) := ⟨⟨_, _, _, o_is_integer, g_is_integer, F_is_integer.kp, r_c_is_integer, b_c_is_integer⟩⟩
  obtain ⟨ds_c_is_integer_2, r_c_is_integer_2, b_c_is_integer_2⟩ := F_is_integer.binds1 (ps := ["value", "low", "high"]) 2 0 (List.cons_ne_nil _ _) rfl (fun T kV doc pm an cdv ct us its h1 h2 => match us, h1, its, h2 with | [_, _], _, [_], _ => ⟨_, rfl, rfl⟩)
  have c_is_integer_2 : Cal P w K mg base CX0 1 "is_integer" ["value", "low", "high"] [.non] (sp_is_integer K) := ⟨⟨_, _, _, o_is_integer, g_is_integer, F_is_integer.kp, r_c_is_integer_2, b_c_is_integer_2⟩⟩
  have o_total_of : FnOk P w K mg base CX0 1 _ fd_total_of ["lengths"] (sp_total_of K) := ok_total_of F_total_of W 
  have c_total_of : Cal P w K mg base CX0 1 "total_of" ["lengths"] [] (sp_total_of K) := ⟨⟨_, _, _, o_total_of, g_total_of, F_total_of.kp, .nil, F_total_of.bindsN (fun _ _ _ _ _ _ us hl => match us, hl with | [_], _ => rfl)⟩⟩
  have o_ends_of : FnOk P w K mg base CX0 1 _ fd_ends_of ["lengths"] (sp_ends_of K) := ok_ends_of F_ends_of W 
  have c_ends_of : Cal P w K mg base CX0 1 "ends_of" ["lengths"] [] (sp_ends_of K) := ⟨⟨_, _, _, o_ends_of, g_ends_of, F_ends_of.kp, .nil, F_ends_of.bindsN (fun _ _ _ _ _ _ us hl => match us, hl with | [_], _ => rfl)⟩⟩
  have o_starts_of : FnOk P w K mg base CX0 1 _ fd_starts_of ["ends"] (sp_starts_of K) := ok_starts_of F_starts_of W 
  have c_starts_of : Cal P w K mg base CX0 1 "starts_of" ["ends"] [] (sp_starts_of K) := ⟨⟨_, _, _, o_starts_of, g_starts_of, F_starts_of.kp, .nil, F_starts_of.bindsN (fun _ _ _ _ _ _ us hl => match us, hl with | [_], _ => rfl)⟩⟩
  have o_wrapped_ends : FnOk P w K mg base CX0 1 _ fd_wrapped_ends ["stops", "width"] (sp_wrapped_ends K) := ok_wrapped_ends F_wrapped_ends W 
  have c_wrapped_ends : Cal P w K mg base CX0 1 "wrapped_ends" ["stops", "width"] [] (sp_wrapped_ends K) := ⟨⟨_, _, _, o_wrapped_ends, g_wrapped_ends, F_wrapped_ends.kp, .nil, F_wrapped_ends.bindsN (fun _ _ _ _ _ _ us hl => match us, hl with | [_, _], _ => rfl)⟩⟩
  have o_first_words : FnOk P w K mg base CX0 1 _ fd_first_words ["text", "width", "word"] (sp_first_words K) := ok_first_words F_first_words W 
  have c_first_words : Cal P w K mg base CX0 1 "first_words" ["text", "width", "word"] [] (sp_first_words K) := ⟨⟨_, _, _, o_first_words, g_first_words, F_first_words.kp, .nil, F_first_words.bindsN (fun _ _ _ _ _ _ us hl => match us, hl with | [_, _, _], _ => rfl)⟩⟩
  have o_common_count : FnOk P w K mg base CX0 1 _ fd_common_count ["one", "other"] (sp_common_count K) := ok_common_count F_common_count W 
  have c_common_count : Cal P w K mg base CX0 1 "common_count" ["one", "other"] [] (sp_common_count K) := ⟨⟨_, _, _, o_common_count, g_common_count, F_common_count.kp, .nil, F_common_count.bindsN (fun _ _ _ _ _ _ us hl => match us, hl with | [_, _], _ => rfl)⟩⟩
  have o__law_deck : FnOk P w K mg base CX0 1 _ fd__law_deck ["script"] (sp__law_deck K) := ok__law_deck F__law_deck W 
  have c__law_deck : Cal P w K mg base CX0 1 "_law_deck" ["script"] [] (sp__law_deck K) := ⟨⟨_, _, _, o__law_deck, g__law_deck, F__law_deck.kp, .nil, F__law_deck.bindsN (fun _ _ _ _ _ _ us hl => match us, hl with | [_], _ => rfl)⟩⟩
  have o__law_draw : FnOk P w K mg base CX0 1 _ fd__law_draw ["deck", "many"] (sp__law_draw K) := ok__law_draw F__law_draw W 
  have c__law_draw : Cal P w K mg base CX0 1 "_law_draw" ["deck", "many"] [] (sp__law_draw K) := ⟨⟨_, _, _, o__law_draw, g__law_draw, F__law_draw.kp, .nil, F__law_draw.bindsN (fun _ _ _ _ _ _ us hl => match us, hl with | [_, _], _ => rfl)⟩⟩
  have o__law_span : FnOk P w K mg base CX0 1 _ fd__law_span ["sizes"] (sp__law_span K) := ok__law_span F__law_span W 
  have c__law_span : Cal P w K mg base CX0 1 "_law_span" ["sizes"] [] (sp__law_span K) := ⟨⟨_, _, _, o__law_span, g__law_span, F__law_span.kp, .nil, F__law_span.bindsN (fun _ _ _ _ _ _ us hl => match us, hl with | [_], _ => rfl)⟩⟩
  have o__law_word_of : FnW P w K mg base 1 _ fd__law_word_of ["e"] (sp__law_word_of K) := ok__law_word_of F__law_word_of W 
  have c__law_word_of : CalW P w K mg base 1 "_law_word_of" ["e"] (sp__law_word_of K) := ⟨⟨_, _, o__law_word_of, g__law_word_of, F__law_word_of.kp, F__law_word_of.bindsN (fun _ _ _ _ _ _ us hl => match us, hl with | [_], _ => rfl)⟩⟩
  have o_is_width : FnOk P w K mg base CX0 2 _ fd_is_width ["value"] (sp_is_width K) := ok_is_width F_is_width W c_is_integer
  have c_is_width : Cal P w K mg base CX0 2 "is_width" ["value"] [] (sp_is_width K) := ⟨⟨_, _, _, o_is_width, g_is_width, F_is_width.kp, .nil, F_is_width.bindsN (fun _ _ _ _ _ _ us hl => match us, hl with | [_], _ => rfl)⟩⟩
  have o_are_lengths : FnOk P w K mg base CX0 2 _ fd_are_lengths ["value"] (sp_are_lengths K) := ok_are_lengths F_are_lengths W c_total_of c_is_integer_2
  have c_are_lengths : Cal P w K mg base CX0 2 "are_lengths" ["value"] [] (sp_are_lengths K) := ⟨⟨_, _, _, o_are_lengths, g_are_lengths, F_are_lengths.kp, .nil, F_are_lengths.bindsN (fun _ _ _ _ _ _ us hl => match us, hl with | [_], _ => rfl)⟩⟩
  have o_lengths_of : FnOk P w K mg base CX0 2 _ fd_lengths_of ["ends"] (sp_lengths_of K) := ok_lengths_of F_lengths_of W c_starts_of
  have c_lengths_of : Cal P w K mg base CX0 2 "lengths_of" ["ends"] [] (sp_lengths_of K) := ⟨⟨_, _, _, o_lengths_of, g_lengths_of, F_lengths_of.kp, .nil, F_lengths_of.bindsN (fun _ _ _ _ _ _ us hl => match us, hl with | [_], _ => rfl)⟩⟩
  have o_require_word : FnOk P w K mg base (L2.CX P w) 2 _ fd_require_word ["text", "word"] (sp_require_word K) := ok_require_word F_require_word W c_is_integer
  have c_require_word : Cal P w K mg base (L2.CX P w) 2 "require_word" ["text", "word"] [] (sp_require_word K) := ⟨⟨_, _, _, o_require_word, g_require_word, F_require_word.kp, .nil, F_require_word.bindsN (fun _ _ _ _ _ _ us hl => match us, hl with | [_, _], _ => rfl)⟩⟩
  have o__law_plan : FnOk P w K mg base CX0 2 _ fd__law_plan ["deck", "most", "longest"] (sp__law_plan K) := ok__law_plan F__law_plan W c__law_draw c__law_span
  have c__law_plan : Cal P w K mg base CX0 2 "_law_plan" ["deck", "most", "longest"] [] (sp__law_plan K) := ⟨⟨_, _, _, o__law_plan, g__law_plan, F__law_plan.kp, .nil, F__law_plan.bindsN (fun _ _ _ _ _ _ us hl => match us, hl with | [_, _, _], _ => rfl)⟩⟩
  have o__law_no_plan : FnOk P w K mg base CX0 2 _ fd__law_no_plan ["deck", "plan"] (sp__law_no_plan K) := ok__law_no_plan F__law_no_plan W c__law_draw
  have c__law_no_plan : Cal P w K mg base CX0 2 "_law_no_plan" ["deck", "plan"] [] (sp__law_no_plan K) := ⟨⟨_, _, _, o__law_no_plan, g__law_no_plan, F__law_no_plan.kp, .nil, F__law_no_plan.bindsN (fun _ _ _ _ _ _ us hl => match us, hl with | [_, _], _ => rfl)⟩⟩
  have o_is_text : FnOk P w K mg base CX0 3 _ fd_is_text ["value"] (sp_is_text K) := ok_is_text F_is_text W c_are_lengths
  have c_is_text : Cal P w K mg base CX0 3 "is_text" ["value"] [] (sp_is_text K) := ⟨⟨_, _, _, o_is_text, g_is_text, F_is_text.kp, .nil, F_is_text.bindsN (fun _ _ _ _ _ _ us hl => match us, hl with | [_], _ => rfl)⟩⟩
  have o_require_width : FnOk P w K mg base (L2.CX P w) 3 _ fd_require_width ["width"] (sp_require_width K) := ok_require_width F_require_width W c_is_width
  have c_require_width : Cal P w K mg base (L2.CX P w) 3 "require_width" ["width"] [] (sp_require_width K) := ⟨⟨_, _, _, o_require_width, g_require_width, F_require_width.kp, .nil, F_require_width.bindsN (fun _ _ _ _ _ _ us hl => match us, hl with | [_], _ => rfl)⟩⟩
  have o_wrap_of : FnOk P w K mg base CX0 3 _ fd_wrap_of ["text", "width"] (sp_wrap_of K) := ok_wrap_of F_wrap_of W c_lengths_of c_wrapped_ends c_ends_of
  have c_wrap_of : Cal P w K mg base CX0 3 "wrap_of" ["text", "width"] [] (sp_wrap_of K) := ⟨⟨_, _, _, o_wrap_of, g_wrap_of, F_wrap_of.kp, .nil, F_wrap_of.bindsN (fun _ _ _ _ _ _ us hl => match us, hl with | [_, _], _ => rfl)⟩⟩
  have o__law_bad : FnOk P w K mg base CX0 3 _ fd__law_bad ["deck", "kind", "plan"] (sp__law_bad K) := ok__law_bad F__law_bad W c__law_draw c__law_no_plan
  have c__law_bad : Cal P w K mg base CX0 3 "_law_bad" ["deck", "kind", "plan"] [] (sp__law_bad K) := ⟨⟨_, _, _, o__law_bad, g__law_bad, F__law_bad.kp, .nil, F__law_bad.bindsN (fun _ _ _ _ _ _ us hl => match us, hl with | [_, _, _], _ => rfl)⟩⟩
  have o_require_text : FnOk P w K mg base (L2.CX P w) 4 _ fd_require_text ["text"] (sp_require_text K) := ok_require_text F_require_text W c_is_text
  have c_require_text : Cal P w K mg base (L2.CX P w) 4 "require_text" ["text"] [] (sp_require_text K) := ⟨⟨_, _, _, o_require_text, g_require_text, F_require_text.kp, .nil, F_require_text.bindsN (fun _ _ _ _ _ _ us hl => match us, hl with | [_], _ => rfl)⟩⟩
  have o_wrap_text : FnOk P w K mg base (L2.CX P w) 5 _ fd_wrap_text ["text", "width"] (sp_wrap_text K) := ok_wrap_text F_wrap_text W c_wrap_of c_require_width c_require_text
  have c_wrap_text : Cal P w K mg base (L2.CX P w) 5 "wrap_text" ["text", "width"] [] (sp_wrap_text K) := ⟨⟨_, _, _, o_wrap_text, g_wrap_text, F_wrap_text.kp, .nil, F_wrap_text.bindsN (fun _ _ _ _ _ _ us hl => match us, hl with | [_, _], _ => rfl)⟩⟩
  have o_meeting_word : FnOk P w K mg base (L2.CX P w) 5 _ fd_meeting_word ["text", "width", "first", "second"] (sp_meeting_word K) := ok_meeting_word F_meeting_word W c_first_words c_require_word c_require_width c_require_text
  have c_meeting_word : Cal P w K mg base (L2.CX P w) 5 "meeting_word" ["text", "width", "first", "second"] [] (sp_meeting_word K) := ⟨⟨_, _, _, o_meeting_word, g_meeting_word, F_meeting_word.kp, .nil, F_meeting_word.bindsN (fun _ _ _ _ _ _ us hl => match us, hl with | [_, _, _, _], _ => rfl)⟩⟩
  have cK_meeting_word_second_first_width_text : CalK P w K mg base (L2.CX P w) 5 "meeting_word" ["text", "width", "first", "second"] ["second", "first", "width", "text"] [3, 2, 1, 0] (sp_meeting_word K) := ⟨⟨_, _, o_meeting_word, g_meeting_word, F_meeting_word.kp, kbn_of F_meeting_word (fun _ _ _ _ _ _ ws hl => match ws, hl with | [_, _, _, _], _ => rfl)⟩⟩
  have o_replace_words : FnOk P w K mg base (L2.CX P w) 5 _ fd_replace_words ["text", "first", "count", "words"] (sp_replace_words K) := ok_replace_words F_replace_words W c_is_text c_is_integer c_require_text
  have c_replace_words : Cal P w K mg base (L2.CX P w) 5 "replace_words" ["text", "first", "count", "words"] [] (sp_replace_words K) := ⟨⟨_, _, _, o_replace_words, g_replace_words, F_replace_words.kp, .nil, F_replace_words.bindsN (fun _ _ _ _ _ _ us hl => match us, hl with | [_, _, _, _], _ => rfl)⟩⟩
  have cK_replace_words_words_count_first_text : CalK P w K mg base (L2.CX P w) 5 "replace_words" ["text", "first", "count", "words"] ["words", "count", "first", "text"] [3, 2, 1, 0] (sp_replace_words K) := ⟨⟨_, _, o_replace_words, g_replace_words, F_replace_words.kp, kbn_of F_replace_words (fun _ _ _ _ _ _ ws hl => match ws, hl with | [_, _, _, _], _ => rfl)⟩⟩
  have o_wrap_from : FnOk P w K mg base (L2.CX P w) 6 _ fd_wrap_from ["text", "width", "word"] (sp_wrap_from K) := ok_wrap_from F_wrap_from W c_wrap_text c_require_word c_require_width c_require_text
  have c_wrap_from : Cal P w K mg base (L2.CX P w) 6 "wrap_from" ["text", "width", "word"] [] (sp_wrap_from K) := ⟨⟨_, _, _, o_wrap_from, g_wrap_from, F_wrap_from.kp, .nil, F_wrap_from.bindsN (fun _ _ _ _ _ _ us hl => match us, hl with | [_, _, _], _ => rfl)⟩⟩
  have cK_wrap_from_word_width_text : CalK P w K mg base (L2.CX P w) 6 "wrap_from" ["text", "width", "word"] ["word", "width", "text"] [2, 1, 0] (sp_wrap_from K) := ⟨⟨_, _, o_wrap_from, g_wrap_from, F_wrap_from.kp, kbn_of F_wrap_from (fun _ _ _ _ _ _ ws hl => match ws, hl with | [_, _, _], _ => rfl)⟩⟩
  have o_changed_lines : FnOk P w K mg base (L2.CX P w) 6 _ fd_changed_lines ["text", "other", "width"] (sp_changed_lines K) := ok_changed_lines F_changed_lines W c_common_count c_wrap_text c_require_width c_require_text
  have c_changed_lines : Cal P w K mg base (L2.CX P w) 6 "changed_lines" ["text", "other", "width"] [] (sp_changed_lines K) := ⟨⟨_, _, _, o_changed_lines, g_changed_lines, F_changed_lines.kp, .nil, F_changed_lines.bindsN (fun _ _ _ _ _ _ us hl => match us, hl with | [_, _, _], _ => rfl)⟩⟩
  have cK_changed_lines_width_other_text : CalK P w K mg base (L2.CX P w) 6 "changed_lines" ["text", "other", "width"] ["width", "other", "text"] [2, 1, 0] (sp_changed_lines K) := ⟨⟨_, _, o_changed_lines, g_changed_lines, F_changed_lines.kp, kbn_of F_changed_lines (fun _ _ _ _ _ _ ws hl => match ws, hl with | [_, _, _], _ => rfl)⟩⟩
  have o__law_told : FnOk P w K mg base CX0 7 _ fd__law_told ["door", "parts"] (sp__law_told K) := ok__law_told F__law_told W c_wrap_from c_meeting_word c_replace_words c_changed_lines c__law_word_of
  have c__law_told : Cal P w K mg base CX0 7 "_law_told" ["door", "parts"] [] (sp__law_told K) := ⟨⟨_, _, _, o__law_told, g__law_told, F__law_told.kp, .nil, F__law_told.bindsN (fun _ _ _ _ _ _ us hl => match us, hl with | [_, _], _ => rfl)⟩⟩
  have o__law_told_named : FnOk P w K mg base CX0 7 _ fd__law_told_named ["door", "parts"] (sp__law_told_named K) := ok__law_told_named F__law_told_named W cK_wrap_from_word_width_text cK_meeting_word_second_first_width_text cK_replace_words_words_count_first_text cK_changed_lines_width_other_text c__law_word_of
  have c__law_told_named : Cal P w K mg base CX0 7 "_law_told_named" ["door", "parts"] [] (sp__law_told_named K) := ⟨⟨_, _, _, o__law_told_named, g__law_told_named, F__law_told_named.kp, .nil, F__law_told_named.bindsN (fun _ _ _ _ _ _ us hl => match us, hl with | [_, _], _ => rfl)⟩⟩
  exact ok_law F_law W c__law_told c__law_told_named c__law_draw c__law_bad c__law_plan c__law_deck
end Wc
open PySem PySem.W PySem.Calls PyProof.Rows
theorem PySem.Challenge.cw_wrapclues_k49_reflow_errors_holds : PySem.Challenge.rw_wrapclues_k49_reflow_errors.Holds := by
  w_on; o_law
  refine HandSHeadRun.head_any (r := OpenLaw.row PySem.Challenge.rw_wrapclues_k49_reflow_errors) (q := view (OpenLaw.row PySem.Challenge.rw_wrapclues_k49_reflow_errors).prog [50]) (H := Wc.hk) (ob := Wc.ob) (M := 6000) (loose := Wc.loose) (d := HandSHeadRun.topDef (OpenLaw.row PySem.Challenge.rw_wrapclues_k49_reflow_errors).prog 50) (kwd := []) Wc.ob_eq
    (by kernel_rfl) (fun s => by kernel_rfl) Wc.run (by kernel_rfl) (by kernel_rfl) (by kernel_rfl) (by rfl) (by first | assumption | decide +kernel) (by decide +kernel) ⟨rfl, rfl, rfl, rfl, rfl, by decide +kernel⟩ ?hw ?hc
  case hw => w_witness2
  case hc =>
    refine Wc.walk_ofG (l := PySem.Challenge.rw_wrapclues_k49_reflow_errors) (n := 63) (k := 8) (x := "script") rfl (by decide) (by kernel_rfl) ⟨rfl, by decide, by decide⟩ ?F
    intro w mg fa h Y G hmg0
    obtain ⟨K, KX, c, cx⟩ := Y
    have hmg : mg ("law" : PySem.Str) = some (.ref fa) := by
      have e : (HandSHeadRun.topDef (OpenLaw.row PySem.Challenge.rw_wrapclues_k49_reflow_errors).prog 50).name = ("law" : PySem.Str) := by kernel_rfl
      rw [← e]
      exact hmg0
    obtain ⟨fd, hb, hF⟩ := Wc.facts (P := (PySem.Challenge.rw_wrapclues_k49_reflow_errors).prog) (w := w) KX G hmg c cx
    exact ⟨K, fd, Wc.sp_law K, KX, hb, fun H a ns hl hbits _ hS => ⟨a, ns, rfl, hS, hl, hbits, fun _ => rfl⟩, hF⟩
#print axioms PySem.Challenge.cw_wrapclues_k49_reflow_errors_holds

